import PyProof.Rows.All
import Wide.All
import OpenK.AllK
import Wide.FinOn
import HandS.ForMost
import HandS.IsInst
import HandS.Wide
import HandS.Zip
import HandS.TupAny
import HandS.TupSets
import HandS.Deep
import HandS.Flow
import HandS.Conv
import KE.KSortTupG
import PyProof.ReprBulk
import HandS.Style
import HandS.TupLe
import KE.GoesEnum
import HandS.SetFor
import HandS.Strs
import HandS.SortInts
import HandS.TupMul
import PySem.Challenge.RW_ovensuntold_k01_kitchens_judged
set_option Elab.async false
set_option linter.all false
set_option maxRecDepth 100000
/-! DL1: values as trees (tuples by their items, mutable things by their addresses), heaps of such, and the link from the hand layer's readings. -/
namespace DL
open PySem PySem.Spec PyProof.Rows L2
/-- a word that stands still, for the kernel too -/
theorem op_ex {α : Sort u} (a : α) : ∃ b : α, b = a := ⟨a, rfl⟩
noncomputable def hide {α : Sort u} (a : α) : α := Classical.choose (op_ex a)
theorem hide_eq {α : Sort u} (a : α) : hide a = a := Classical.choose_spec (op_ex a)

inductive D where
  | non | bl (b : Bool) | int (i : Int) | str (x : Str) | tup (ds : List D) | ktp (ds : List D) | fls (ds : List D) | loc (a : Addr) | ty (n : String)
/-- a list that is never written: locked, or of the module -/
def SqF (K : PySem.W.Frag) (H : Hp) (a : Addr) (xs : List V) : Prop :=
  (∃ o, H a = some (.frz o (.lst xs))) ∨
    ∃ (o : Obj) (its : Array Value) (n : Nat), K.lookup a = some o ∧ o.cls = .type "list" ∧ o.dict = none ∧ o.data = .seq its n ∧ its.size ≤ sizeLine ∧ Vals xs its.toList
/-- a tuple of the module -/
def SqK (K : PySem.W.Frag) (a : Addr) (xs : List V) : Prop :=
  ∃ (o : Obj) (its : Array Value) (n : Nat), K.lookup a = some o ∧ o.cls = .type "tuple" ∧ o.data = .seq its n ∧ its.size ≤ sizeLine ∧ Vals xs its.toList
theorem SqK.t {K : PySem.W.Frag} {H : Hp} {a : Addr} {xs : List V} (h : SqK K a xs) : SqT K H a xs := .inr h
theorem SqF.l {K : PySem.W.Frag} {H : Hp} {a : Addr} {xs : List V} (h : SqF K H a xs) : SqL K H a xs := by
  rcases h with h | h
  · exact .inl (.inr h)
  · exact .inr h

inductive DO where
  | lst (ds : List D)
  | dK (kvs : List (Key × D))
  | dT (kvs : List (List Key × D))
  | ins (C : Addr) (fs : List (Str × D))
  | opq (o : HO)
abbrev DH := Addr → Option DO
def hupd (h : DH) (a : Addr) (o : DO) : DH := fun b => if b = a then some o else h b
theorem hupd_same {h : DH} {a : Addr} {o : DO} : hupd h a o a = some o := by unfold hupd; rw [if_pos rfl]
theorem hupd_ne {h : DH} {a b : Addr} {o : DO} (e : b ≠ a) : hupd h a o b = h b := by unfold hupd; rw [if_neg e]
theorem hupd_hupd {h : DH} {a : Addr} {o u : DO} : hupd (hupd h a o) a u = hupd h a u := by
  funext b; unfold hupd; split <;> rfl

section
variable (K : PySem.W.Frag) (H : Hp)
mutual
def RV : D → V → Prop
  | .non, v => v = .non
  | .bl b, v => v = .bl b
  | .int i, v => v = .int i
  | .str x, v => v = .str x
  | .ty n, v => v = .ty n
  | .loc a, v => v = .ref a
  | .tup ds, v => ∃ a vs, v = .ref a ∧ H a = some (.tup vs) ∧ RVs ds vs
  | .ktp ds, v => ∃ a vs, v = .ref a ∧ SqK K a vs ∧ RVs ds vs
  | .fls ds, v => ∃ a vs, v = .ref a ∧ SqF K H a vs ∧ RVs ds vs
def RVs : List D → List V → Prop
  | [], vs => vs = []
  | d :: ds, vs => ∃ x xs, vs = x :: xs ∧ RV d x ∧ RVs ds xs
end
def RKV {κ : Type} (kvs : List (κ × D)) (us : List (κ × V)) : Prop := Paired (fun p q => p.1 = q.1 ∧ RV K H p.2 q.2) kvs us
def RO (a : Addr) : DO → Prop
  | .lst ds => ∃ vs, H a = some (.lst vs) ∧ RVs K H ds vs
  | .dK kvs => ∃ us, H a = some (.dK us) ∧ RKV K H kvs us
  | .dT kvs => ∃ us, H a = some (.dT us) ∧ RKV K H kvs us
  | .ins C fs => ∃ dx us, H a = some (.ins C dx us) ∧ RKV K H fs us
  | .opq o => H a = some o
def HR (h : DH) : Prop := ∀ a o, h a = some o → RO K H a o
def TX (H' : Hp) : Prop := (∀ a vs, H a = some (.tup vs) → H' a = some (.tup vs)) ∧ ∀ a vs, SqF K H a vs → SqF K H' a vs
end

section
variable {K : PySem.W.Frag} {H H' H'' : Hp} {h : DH} {a : Addr}
theorem TX.refl : TX K H H := ⟨fun _ _ q => q, fun _ _ q => q⟩
theorem TX.trans (x : TX K H H') (y : TX K H' H'') : TX K H H'' := ⟨fun a vs q => y.1 a vs (x.1 a vs q), fun a vs q => y.2 a vs (x.2 a vs q)⟩
mutual
theorem RV.mono (x : TX K H H') : ∀ (d : D) (v : V), RV K H d v → RV K H' d v
  | .non, _, q => q
  | .bl _, _, q => q
  | .int _, _, q => q
  | .str _, _, q => q
  | .ty _, _, q => q
  | .loc _, _, q => q
  | .tup ds, v, q => by
    unfold RV at q ⊢
    obtain ⟨a, vs, e, s, r⟩ := q
    exact ⟨a, vs, e, x.1 a vs s, RVs.mono x ds vs r⟩
  | .ktp ds, v, q => by
    unfold RV at q ⊢
    obtain ⟨a, vs, e, s, r⟩ := q
    exact ⟨a, vs, e, s, RVs.mono x ds vs r⟩
  | .fls ds, v, q => by
    unfold RV at q ⊢
    obtain ⟨a, vs, e, s, r⟩ := q
    exact ⟨a, vs, e, x.2 a vs s, RVs.mono x ds vs r⟩
theorem RVs.mono (x : TX K H H') : ∀ (ds : List D) (vs : List V), RVs K H ds vs → RVs K H' ds vs
  | [], _, q => q
  | d :: ds, vs, q => by
    unfold RVs at q ⊢
    obtain ⟨y, ys, e, r1, r2⟩ := q
    exact ⟨y, ys, e, RV.mono x d y r1, RVs.mono x ds ys r2⟩
end
theorem RKV.mono {κ : Type} (x : TX K H H') {kvs : List (κ × D)} {us : List (κ × V)} (r : RKV K H kvs us) : RKV K H' kvs us :=
  Paired.mapP r fun p q z => ⟨z.1, RV.mono x _ _ z.2⟩
theorem rvs_nil {vs : List V} (r : RVs K H [] vs) : vs = [] := by unfold RVs at r; exact r
theorem rvs_nil' : RVs K H [] [] := by unfold RVs; rfl
theorem rvs_cons {d : D} {ds : List D} {vs : List V} (r : RVs K H (d :: ds) vs) : ∃ x xs, vs = x :: xs ∧ RV K H d x ∧ RVs K H ds xs := by unfold RVs at r; exact r
theorem rvs_cons' {d : D} {ds : List D} {x : V} {xs : List V} (r : RV K H d x) (s : RVs K H ds xs) : RVs K H (d :: ds) (x :: xs) := by unfold RVs; exact ⟨x, xs, rfl, r, s⟩
theorem RVs.length : ∀ {ds : List D} {vs : List V}, RVs K H ds vs → ds.length = vs.length
  | [], vs, r => by rw [rvs_nil r]; rfl
  | d :: ds, vs, r => by
    obtain ⟨x, xs, e, _, r2⟩ := rvs_cons r
    subst e
    simp [RVs.length r2]
theorem RVs.get : ∀ {ds : List D} {vs : List V} {i : Nat} {d : D}, RVs K H ds vs → ds[i]? = some d → ∃ v, vs[i]? = some v ∧ RV K H d v
  | [], _, _, _, _, e => by simp at e
  | d :: ds, vs, 0, d', r, e => by
    obtain ⟨x, xs, e1, r1, _⟩ := rvs_cons r
    subst e1
    simp at e; subst e
    exact ⟨x, rfl, r1⟩
  | d :: ds, vs, i + 1, d', r, e => by
    obtain ⟨x, xs, e1, _, r2⟩ := rvs_cons r
    subst e1
    obtain ⟨v, h1, h2⟩ := RVs.get (i := i) r2 (by simpa using e)
    exact ⟨v, by simpa using h1, h2⟩
theorem RVs.append : ∀ {ds es : List D} {vs ws : List V}, RVs K H ds vs → RVs K H es ws → RVs K H (ds ++ es) (vs ++ ws)
  | [], _, vs, _, r, s => by rw [rvs_nil r]; exact s
  | d :: ds, es, vs, ws, r, s => by
    obtain ⟨x, xs, e1, r1, r2⟩ := rvs_cons r
    subst e1
    exact rvs_cons' r1 (RVs.append r2 s)
theorem RVs.take : ∀ {ds : List D} {vs : List V} (n : Nat), RVs K H ds vs → RVs K H (ds.take n) (vs.take n)
  | _, _, 0, _ => by simp [rvs_nil']
  | [], vs, n + 1, r => by rw [rvs_nil r]; exact rvs_nil'
  | d :: ds, vs, n + 1, r => by
    obtain ⟨x, xs, e1, r1, r2⟩ := rvs_cons r
    subst e1
    exact rvs_cons' r1 (RVs.take n r2)
theorem RVs.drop : ∀ {ds : List D} {vs : List V} (n : Nat), RVs K H ds vs → RVs K H (ds.drop n) (vs.drop n)
  | _, _, 0, r => r
  | [], vs, n + 1, r => by rw [rvs_nil r]; exact rvs_nil'
  | d :: ds, vs, n + 1, r => by
    obtain ⟨x, xs, e1, r1, r2⟩ := rvs_cons r
    subst e1
    exact RVs.drop n r2
theorem RVs.set {d : D} {v : V} (r : RV K H d v) : ∀ {ds : List D} {vs : List V} (i : Nat), RVs K H ds vs → RVs K H (ds.set i d) (vs.set i v)
  | [], vs, _, s => by rw [rvs_nil s]; exact rvs_nil'
  | d' :: ds, vs, 0, s => by
    obtain ⟨x, xs, e1, r1, r2⟩ := rvs_cons s
    subst e1
    exact rvs_cons' r r2
  | d' :: ds, vs, i + 1, s => by
    obtain ⟨x, xs, e1, r1, r2⟩ := rvs_cons s
    subst e1
    exact rvs_cons' r1 (RVs.set r i r2)
theorem RVs.reverse {ds : List D} {vs : List V} (r : RVs K H ds vs) : RVs K H ds.reverse vs.reverse := by
  induction ds generalizing vs with
  | nil => rw [rvs_nil r]; exact rvs_nil'
  | cons d ds ih =>
    obtain ⟨x, xs, e1, r1, r2⟩ := rvs_cons r
    subst e1
    rw [List.reverse_cons, List.reverse_cons]
    exact (ih r2).append (rvs_cons' r1 rvs_nil')
theorem RVs.ints : ∀ {ns : List Int} {vs : List V}, RVs K H (ns.map D.int) vs → vs = ns.map V.int
  | [], vs, r => by rw [rvs_nil r]; rfl
  | n :: ns, vs, r => by
    obtain ⟨x, xs, e1, r1, r2⟩ := rvs_cons r
    subst e1
    unfold RV at r1
    subst r1
    rw [RVs.ints r2]; rfl
theorem rvs_ints : ∀ ns : List Int, RVs K H (ns.map D.int) (ns.map V.int)
  | [] => rvs_nil'
  | n :: ns => rvs_cons' (by unfold RV; rfl) (rvs_ints ns)
theorem rv_tup {ds : List D} {v : V} (r : RV K H (.tup ds) v) : ∃ a vs, v = .ref a ∧ H a = some (.tup vs) ∧ RVs K H ds vs := by unfold RV at r; exact r
theorem rv_ktp {ds : List D} {v : V} (r : RV K H (.ktp ds) v) : ∃ a vs, v = .ref a ∧ SqK K a vs ∧ RVs K H ds vs := by unfold RV at r; exact r
theorem rv_ktp' {ds : List D} {a : Addr} {vs : List V} (s : SqK K a vs) (r : RVs K H ds vs) : RV K H (.ktp ds) (.ref a) := by unfold RV; exact ⟨a, vs, rfl, s, r⟩
theorem rv_tup' {ds : List D} {a : Addr} {vs : List V} (s : H a = some (.tup vs)) (r : RVs K H ds vs) : RV K H (.tup ds) (.ref a) := by unfold RV; exact ⟨a, vs, rfl, s, r⟩
theorem rv_fls {ds : List D} {v : V} (r : RV K H (.fls ds) v) : ∃ a vs, v = .ref a ∧ SqF K H a vs ∧ RVs K H ds vs := by unfold RV at r; exact r
theorem rv_fls' {ds : List D} {a : Addr} {vs : List V} (s : SqF K H a vs) (r : RVs K H ds vs) : RV K H (.fls ds) (.ref a) := by unfold RV; exact ⟨a, vs, rfl, s, r⟩
theorem rv_loc {a : Addr} {v : V} (r : RV K H (.loc a) v) : v = .ref a := by unfold RV at r; exact r
theorem rv_loc' {a : Addr} : RV K H (.loc a) (.ref a) := by unfold RV; rfl
theorem rv_int {i : Int} {v : V} (r : RV K H (.int i) v) : v = .int i := by unfold RV at r; exact r
theorem rv_int' {i : Int} : RV K H (.int i) (.int i) := by unfold RV; rfl
theorem rv_bl {i : Bool} {v : V} (r : RV K H (.bl i) v) : v = .bl i := by unfold RV at r; exact r
theorem rv_bl' {i : Bool} : RV K H (.bl i) (.bl i) := by unfold RV; rfl
theorem rv_str {i : Str} {v : V} (r : RV K H (.str i) v) : v = .str i := by unfold RV at r; exact r
theorem rv_str' {i : Str} : RV K H (.str i) (.str i) := by unfold RV; rfl
theorem rv_non {v : V} (r : RV K H .non v) : v = .non := by unfold RV at r; exact r
theorem rv_non' : RV K H .non .non := by unfold RV; rfl
theorem rv_ty {n : String} {v : V} (r : RV K H (.ty n) v) : v = .ty n := by unfold RV at r; exact r
theorem rv_ty' {n : String} : RV K H (.ty n) (.ty n) := by unfold RV; rfl

/-! ### a heap grows, an object is written -/
theorem tx_upd {p : Addr} {o : HO} (hp : ∀ u, H p = some u → (∀ xs, u ≠ .tup xs) ∧ ∀ ob w, u ≠ .frz ob w) : TX K H (upd H p o) :=
  ⟨fun a vs s => by
    have ne : a ≠ p := fun z => by subst z; exact (hp _ s).1 vs rfl
    rw [upd_ne ne]; exact s, fun a vs e => by
    rcases e with ⟨ob, e⟩ | e
    · have ne : a ≠ p := fun z => by subst z; exact (hp _ e).2 ob _ rfl
      exact .inl ⟨ob, by rw [upd_ne ne]; exact e⟩
    · exact .inr e⟩
theorem tx_new {p : Addr} {o : HO} (hp : H p = none) : TX K H (upd H p o) := tx_upd fun u e => by rw [hp] at e; cases e
theorem tx_lst {p : Addr} {o : HO} {xs : List V} (hp : H p = some (.lst xs)) : TX K H (upd H p o) := tx_upd fun u e => by
  rw [hp] at e; cases e
  exact ⟨fun _ z => (by cases z), fun _ _ z => (by cases z)⟩
theorem tx_dK {p : Addr} {o : HO} {xs : List (Key × V)} (hp : H p = some (.dK xs)) : TX K H (upd H p o) := tx_upd fun u e => by
  rw [hp] at e; cases e
  exact ⟨fun _ z => (by cases z), fun _ _ z => (by cases z)⟩
theorem tx_dT {p : Addr} {o : HO} {xs : List (List Key × V)} (hp : H p = some (.dT xs)) : TX K H (upd H p o) := tx_upd fun u e => by
  rw [hp] at e; cases e
  exact ⟨fun _ z => (by cases z), fun _ _ z => (by cases z)⟩
theorem tx_ins {p : Addr} {o : HO} {C dx : Addr} {xs : List (Str × V)} (hp : H p = some (.ins C dx xs)) : TX K H (upd H p o) := tx_upd fun u e => by
  rw [hp] at e; cases e
  exact ⟨fun _ z => (by cases z), fun _ _ z => (by cases z)⟩
theorem ro_keep {o : DO} (x : TX K H H') (e : H' a = H a) (r : RO K H a o) : RO K H' a o := by
  cases o with
  | lst ds =>
    obtain ⟨vs, q, s⟩ := r
    exact ⟨vs, by rw [e]; exact q, RVs.mono x _ _ s⟩
  | dK kvs =>
    obtain ⟨vs, q, s⟩ := r
    exact ⟨vs, by rw [e]; exact q, s.mono x⟩
  | dT kvs =>
    obtain ⟨vs, q, s⟩ := r
    exact ⟨vs, by rw [e]; exact q, s.mono x⟩
  | ins C fs =>
    obtain ⟨dx, vs, q, s⟩ := r
    exact ⟨dx, vs, by rw [e]; exact q, s.mono x⟩
  | opq o => exact (show H' a = some o from by rw [e]; exact r)
/-- what is new to the heap is new to the tree heap -/
theorem HR.free (r : HR K H h) {p : Addr} (hp : H p = none) : h p = none := by
  cases e : h p with
  | none => rfl
  | some o =>
    have q := r p o e
    cases o with
    | lst ds => obtain ⟨vs, q, _⟩ := q; rw [hp] at q; cases q
    | dK ds => obtain ⟨vs, q, _⟩ := q; rw [hp] at q; cases q
    | dT ds => obtain ⟨vs, q, _⟩ := q; rw [hp] at q; cases q
    | ins C ds => obtain ⟨dx, vs, q, _⟩ := q; rw [hp] at q; cases q
    | opq o =>
      have q : H p = some o := q
      rw [hp] at q; cases q
/-- an object is written, or laid -/
theorem HR.put (r : HR K H h) {p : Addr} {o : DO} {O : HO} (x : TX K H (upd H p O)) (n : RO K (upd H p O) p o) : HR K (upd H p O) (hupd h p o) := fun a u e => by
  by_cases z : a = p
  · subst z
    rw [hupd_same] at e; cases e
    exact n
  · rw [hupd_ne z] at e
    exact ro_keep x (upd_ne z) (r a u e)
/-- .. a thing that the tree heap does not tell -/
theorem HR.keep (r : HR K H h) (x : TX K H H') (e : ∀ a, h a ≠ none → H' a = H a) : HR K H' h := fun a o q => ro_keep x (e a (by rw [q]; simp)) (r a o q)
theorem HR.lay (r : HR K H h) {p : Addr} {O : HO} (hp : H p = none) : HR K (upd H p O) h := r.keep (tx_new hp) fun a q => by
  refine upd_ne fun z => ?_
  subst z
  exact q (r.free hp)
end
end DL

set_option Elab.async false
set_option linter.all false
set_option maxRecDepth 100000
/-! DL2: readings over tree heaps, and their links to the hand layer's readings. -/
namespace DL
open PySem PySem.Spec PyProof.Rows L2

abbrev DSt := List (Option D)
abbrev DK := D → DH → Prop
abbrev DE := DSt → DH → DK → Prop
abbrev DT := DSt → DH → (Bool → DH → Prop) → Prop
abbrev DA := DSt → DH → (List D → DH → Prop) → Prop
structure DEnds where
  nx : DSt → DH → Prop
  rt : DK
  bk : DSt → DH → Prop := fun _ _ => False
  ct : DSt → DH → Prop := fun _ _ => False
abbrev DS := DEnds → DSt → DH → Prop
abbrev DR2 := D → D → DH → DK → Prop
abbrev DR1 := D → DH → DK → Prop
abbrev DC := List D → DH → DK → Prop

@[irreducible] noncomputable def kIte : Bool → Prop → Prop → Prop := hide fun b p q => if b = true then p else q
theorem kIte_eq {b : Bool} {p q : Prop} : kIte b p q = if b = true then p else q := by unfold kIte; rw [hide_eq]
theorem kt {p q : Prop} (w : kIte true p q) : p := by rw [kIte_eq] at w; rwa [if_pos rfl] at w
theorem kf {p q : Prop} (w : kIte false p q) : q := by rw [kIte_eq] at w; rwa [if_neg Bool.false_ne_true] at w
/-- the names' trees -/
def RS (K : PySem.W.Frag) (H : Hp) (τ : DSt) (σ : L2.St) : Prop := τ.length = σ.length ∧ ∀ (i : Nat) (d : D), τ[i]? = some (some d) → ∃ v, σ[i]? = some (some v) ∧ RV K H d v
def Bw (K : PySem.W.Frag) (H : Hp) (Q : DK) (Q0 : VK) : Prop := ∀ d h' v H', TX K H H' → RV K H' d v → HR K H' h' → Q d h' → Q0 v H'
def BwT (K : PySem.W.Frag) (H : Hp) (Q : Bool → DH → Prop) (Q0 : Bool → Hp → Prop) : Prop := ∀ b h' H', TX K H H' → HR K H' h' → Q b h' → Q0 b H'
def BwA (K : PySem.W.Frag) (H : Hp) (Q : List D → DH → Prop) (Q0 : List V → Hp → Prop) : Prop := ∀ ds h' vs H', TX K H H' → RVs K H' ds vs → HR K H' h' → Q ds h' → Q0 vs H'
structure BwS (K : PySem.W.Frag) (H : Hp) (D : DEnds) (D0 : Ends) : Prop where
  nx : ∀ τ' σ' h' H', TX K H H' → RS K H' τ' σ' → HR K H' h' → D.nx τ' h' → D0.nx σ' H'
  rt : Bw K H D.rt D0.rt
  bk : ∀ τ' σ' h' H', TX K H H' → RS K H' τ' σ' → HR K H' h' → D.bk τ' h' → D0.bk σ' H'
  ct : ∀ τ' σ' h' H', TX K H H' → RS K H' τ' σ' → HR K H' h' → D.ct τ' h' → D0.ct σ' H'
def LE (K : PySem.W.Frag) (t0 : TE) (t : DE) : Prop := ∀ τ σ h H Q Q0, RS K H τ σ → HR K H h → Bw K H Q Q0 → t τ h Q → t0 σ H Q0
def LT (K : PySem.W.Frag) (t0 : TT) (t : DT) : Prop := ∀ τ σ h H Q Q0, RS K H τ σ → HR K H h → BwT K H Q Q0 → t τ h Q → t0 σ H Q0
def LA (K : PySem.W.Frag) (t0 : TA) (t : DA) : Prop := ∀ τ σ h H Q Q0, RS K H τ σ → HR K H h → BwA K H Q Q0 → t τ h Q → t0 σ H Q0
def LS (K : PySem.W.Frag) (t0 : TS) (t : DS) : Prop := ∀ τ σ h H D D0, RS K H τ σ → HR K H h → BwS K H D D0 → t D τ h → t0 D0 σ H
def LR2 (K : PySem.W.Frag) (r : R2) (q : DR2) : Prop := ∀ d e x y h H Q Q0, RV K H d x → RV K H e y → HR K H h → Bw K H Q Q0 → q d e h Q → r x y H Q0
def LR1 (K : PySem.W.Frag) (r : V → Hp → VK → Prop) (q : DR1) : Prop := ∀ d x h H Q Q0, RV K H d x → HR K H h → Bw K H Q Q0 → q d h Q → r x H Q0
def LC (K : PySem.W.Frag) (r : List V → Hp → VK → Prop) (q : DC) : Prop := ∀ ds vs h H Q Q0, RVs K H ds vs → HR K H h → Bw K H Q Q0 → q ds h Q → r vs H Q0

section
variable {K : PySem.W.Frag} {H H' : Hp}
theorem RS.mono {τ : DSt} {σ : L2.St} (x : TX K H H') (r : RS K H τ σ) : RS K H' τ σ := ⟨r.1, fun i d e => let ⟨v, h1, h2⟩ := r.2 i d e; ⟨v, h1, RV.mono x d v h2⟩⟩
theorem Bw.mono {Q : DK} {Q0 : VK} (x : TX K H H') (r : Bw K H Q Q0) : Bw K H' Q Q0 := fun d h v H2 t => r d h v H2 (x.trans t)
theorem BwT.mono {Q : Bool → DH → Prop} {Q0 : Bool → Hp → Prop} (x : TX K H H') (r : BwT K H Q Q0) : BwT K H' Q Q0 := fun d h H2 t => r d h H2 (x.trans t)
theorem BwA.mono {Q : List D → DH → Prop} {Q0 : List V → Hp → Prop} (x : TX K H H') (r : BwA K H Q Q0) : BwA K H' Q Q0 := fun d h v H2 t => r d h v H2 (x.trans t)
theorem BwS.mono {D : DEnds} {D0 : Ends} (x : TX K H H') (r : BwS K H D D0) : BwS K H' D D0 :=
  ⟨fun a b c d t => r.nx a b c d (x.trans t), r.rt.mono x, fun a b c d t => r.bk a b c d (x.trans t), fun a b c d t => r.ct a b c d (x.trans t)⟩
theorem RS.set {τ : DSt} {σ : L2.St} {d : D} {v : V} (r : RS K H τ σ) (i : Nat) (q : RV K H d v) : RS K H (τ.set i (some d)) (σ.set i (some v)) := by
  refine ⟨by rw [List.length_set, List.length_set]; exact r.1, fun j e hj => ?_⟩
  by_cases z : i = j
  · subst z
    by_cases hl : i < τ.length
    · rw [List.getElem?_set_self hl] at hj
      cases hj
      exact ⟨v, by rw [List.getElem?_set_self (by rw [← r.1]; exact hl)], q⟩
    · rw [List.getElem?_eq_none (by simpa using hl)] at hj; cases hj
  · rw [List.getElem?_set_ne z] at hj ⊢
    exact r.2 j e hj
theorem RS.unset {τ : DSt} {σ : L2.St} (r : RS K H τ σ) (i : Nat) : RS K H (τ.set i none) (σ.set i none) := by
  refine ⟨by rw [List.length_set, List.length_set]; exact r.1, fun j e hj => ?_⟩
  by_cases z : i = j
  · subst z
    by_cases hl : i < τ.length
    · rw [List.getElem?_set_self hl] at hj; cases hj
    · rw [List.getElem?_eq_none (by simpa using hl)] at hj; cases hj
  · rw [List.getElem?_set_ne z] at hj ⊢
    exact r.2 j e hj
end

structure XE (X : Cx) (K : PySem.W.Frag) (e : Expr) (t0 : TE) (t : DE) : Prop where
  p : PE X e t0
  l : LE K t0 t
structure XT (X : Cx) (K : PySem.W.Frag) (e : Expr) (t0 : TT) (t : DT) : Prop where
  p : PT X e t0
  l : LT K t0 t
structure XW (X : Cx) (K : PySem.W.Frag) (e : Expr) (t0 : TT) (t : DT) : Prop where
  p : PW X e t0
  l : LT K t0 t
structure XA (X : Cx) (K : PySem.W.Frag) (es : List Expr) (t0 : TA) (t : DA) : Prop where
  p : PA X es t0
  l : LA K t0 t
structure XS (X : Cx) (K : PySem.W.Frag) (st : Stmt) (t0 : TS) (t : DS) : Prop where
  p : PS X st t0
  l : LS K t0 t
structure XSs (X : Cx) (K : PySem.W.Frag) (st : List Stmt) (t0 : TS) (t : DS) : Prop where
  p : PSs X st t0
  l : LS K t0 t

/-! ### names, constants -/
def ld (τ : DSt) (i : Nat) : Option D := τ.getD i none
def dVar (i : Nat) : DE := fun τ h Q => match ld τ i with
  | some d => Q d h
  | none => False
def dC (d : D) : DE := fun _ h Q => Q d h
section
variable {X : Cx} {K : PySem.W.Frag}
theorem ld_get {τ : DSt} {i : Nat} {d : D} (e : ld τ i = some d) : τ[i]? = some (some d) := by
  unfold ld at e
  rw [List.getD_eq_getElem?_getD] at e
  cases h : τ[i]? with
  | none => rw [h] at e; cases e
  | some o => rw [h] at e; exact congrArg some e
theorem le_var {K : PySem.W.Frag} (i : Nat) : LE K (tVar i) (dVar i) := fun τ σ h H Q Q0 rs hr bw q => by
  unfold dVar at q
  cases e : ld τ i with
  | none => rw [e] at q; exact q.elim
  | some d =>
    rw [e] at q
    obtain ⟨v, h1, h2⟩ := rs.2 i d (ld_get e)
    exact ⟨v, h1, bw d h v H TX.refl h2 hr q⟩
theorem xv (i : Nat) {x : Str} {pos : Pos} (hN : X.N[i]? = some x := by rfl) (hv : Vis X.env.scope x := by first | exact Or.inl rfl | exact Or.inr (Or.inl rfl) | exact Or.inr (Or.inr rfl)) (hd : (x == ("__debug__" : Str)) = false := by decide)
    (hcd : (x == ("__classdict__" : Str)) = false := by decide) : XE X K (.Name x pos) (tVar i) (dVar i) := ⟨pe_var hN hv hd hcd, le_var i⟩
theorem le_c {K : PySem.W.Frag} {v : V} {d : D} (r : ∀ H, RV K H d v) : LE K (tC v) (dC d) := fun τ σ h H Q Q0 rs hr bw q => bw d h v H TX.refl (r H) hr q
theorem xint {i : Int} {j pos} : XE X K (.Constant (.int i) j pos) (tC (.int i)) (dC (.int i)) := ⟨pe_int, le_c fun _ => rv_int'⟩
theorem xbl {i : Bool} {j pos} : XE X K (.Constant (.bool i) j pos) (tC (.bl i)) (dC (.bl i)) := ⟨pe_bl, le_c fun _ => rv_bl'⟩
theorem xnon {j pos} : XE X K (.Constant .none j pos) (tC .non) (dC .non) := ⟨pe_non, le_c fun _ => rv_non'⟩
theorem xstr {i : Str} {j pos} : XE X K (.Constant (.str i) j pos) (tC (.str i)) (dC (.str i)) := ⟨pe_str, le_c fun _ => rv_str'⟩
/-- a constant of the module -/
theorem xglob {x : Str} {v : V} {d : D} {u : Value} {pos : Pos} (hm : X.mg x = some u) (r : RelV v u) (q : ∀ H, RV K H d v) (hg : Gl X x := by rfl) (hd : (x == ("__debug__" : Str)) = false := by decide) : XE X K (.Name x pos) (tC v) (dC d) := ⟨pe_glob hg hm r hd, le_c q⟩
/-- a type as a value -/
theorem xtype {x : Str} {n : String} {pos : Pos} (hm : X.mg x = none) (hv : bootBuiltins x = some (.type n)) (hg : Gl X x := by rfl) (hn : x ≠ "__name__" := by decide) (hd : (x == ("__debug__" : Str)) = false := by decide) : XE X K (.Name x pos) (tC (.ty n)) (dC (.ty n)) :=
  ⟨pe_bltn hg hm hv rfl hn hd, le_c fun _ => rv_ty'⟩
end

/-! ### operators -/
def dOp (q : DR2) (a b : DE) : DE := fun τ h Q => a τ h fun x h1 => b τ h1 fun y h2 => q x y h2 Q
def dUn (q : DR1) (a : DE) : DE := fun τ h Q => a τ h fun x h1 => q x h1 Q
section
variable {X : Cx} {K : PySem.W.Frag} {a b c : Expr} {ta tb tc : TE} {da db dc : DE} {pos : Pos}
theorem le_op {K : PySem.W.Frag} {r : R2} {q : DR2} (lr : LR2 K r q) (la : LE K ta da) (lb : LE K tb db) : LE K (tOp r ta tb) (dOp q da db) := fun τ σ h H Q Q0 rs hr bw w =>
  la τ σ h H _ _ rs hr (fun d h1 v H1 x1 r1 hr1 w1 => lb τ σ h1 H1 _ _ (rs.mono x1) hr1 (fun e h2 u H2 x2 r2 hr2 w2 => lr d e v u h2 H2 Q Q0 (RV.mono x2 d v r1) r2 hr2 (bw.mono (x1.trans x2)) w2) w1) w
theorem le_un {K : PySem.W.Frag} {r : V → Hp → VK → Prop} {q : DR1} (lr : LR1 K r q) (la : LE K ta da) : LE K (tUn r ta) (dUn q da) := fun τ σ h H Q Q0 rs hr bw w =>
  la τ σ h H _ _ rs hr (fun d h1 v H1 x1 r1 hr1 w1 => lr d v h1 H1 Q Q0 r1 hr1 (bw.mono x1) w1) w
theorem xop {op : Operator} {r : R2} {q : DR2} (o : OpR X (binaryOp op) r ∧ LR2 K r q) (ha : XE X K a ta da) (hb : XE X K b tb db) : XE X K (.BinOp a op b pos) (tOp r ta tb) (dOp q da db) := ⟨pe_op o.1 ha.p hb.p, le_op o.2 ha.l hb.l⟩
theorem xun {op : UnaryOp} {r : V → Hp → VK → Prop} {q : DR1} (o : UnR X (unaryOp op) r ∧ LR1 K r q) (ha : XE X K a ta da) : XE X K (.UnaryOp op a pos) (tUn r ta) (dUn q da) := ⟨pe_un o.1 ha.p, le_un o.2 ha.l⟩
/-- a comparison's two ways: as a value, as a test -/
theorem xcmp {op : CmpOp} {r : R2} {q : DR2} (o : OpR X (compareOp op) r ∧ LR2 K r q) (ha : XE X K a ta da) (hb : XE X K b tb db) (hm : behindInMarks op b = false := by first | exact nomark _ | rfl) : XE X K (.Compare a [op] [b] pos) (tOp r ta tb) (dOp q da db) := ⟨pe_cmpR o.1 ha.p hb.p hm, le_op o.2 ha.l hb.l⟩
def dTest (t : DE) : DT := fun τ h Q => t τ h fun x h' => match x with
  | .bl k => Q k h'
  | _ => False
theorem lt_test {K : PySem.W.Frag} {t : TE} {d : DE} (l : LE K t d) : LT K (tTest t) (dTest d) := fun τ σ h H Q Q0 rs hr bw w =>
  l τ σ h H _ _ rs hr (fun x h1 v H1 x1 r1 hr1 w1 => by
    cases x with
    | bl k => exact ⟨k, rv_bl r1, bw k h1 H1 x1 hr1 w1⟩
    | _ => exact w1.elim) w
theorem xtcmp {op : CmpOp} {r : R2} {q : DR2} (o : OpR X (compareOp op) r ∧ LR2 K r q) (ha : XE X K a ta da) (hb : XE X K b tb db) (hm : behindInMarks op b = false := by first | exact nomark _ | rfl) : XT X K (.Compare a [op] [b] pos) (tTest (tOp r ta tb)) (dTest (dOp q da db)) := ⟨pt_cmpR o.1 ha.p hb.p hm, lt_test (le_op o.2 ha.l hb.l)⟩
/-- an expression whose value is a bool, as a test -/
theorem xtval {e : Expr} {t : TE} {d : DE} (h : XE X K e t d) (he : ∀ whole, isTrue e X.env whole = (do let v ← whole; standAt e.pos; holding [v] (truthy v)) := by intro _; rfl) : XT X K e (tB t) (dTest d) := ⟨pt_val h.p he, lt_test h.l⟩
end

section
variable {X : Cx} {K : PySem.W.Frag} {a b c : Expr} {ta tb tc : TE} {da db dc : DE} {pos : Pos} {t t' : TT} {d d' : DT} {rest : List Expr}
def dAnd (t u : DT) : DT := fun τ h Q => t τ h fun c h1 => kIte c (u τ h1 Q) (Q false h1)
def dOr (t u : DT) : DT := fun τ h Q => t τ h fun c h1 => kIte c (Q true h1) (u τ h1 Q)
def dNot (t : DT) : DT := fun τ h Q => t τ h fun c h1 => Q (!c) h1
theorem xwand1 (ha : XT X K a t d) : XW X K (.BoolOp .And [a] pos) t d := ⟨pw_and1 ha.p, ha.l⟩
theorem xwor1 (ha : XT X K a t d) : XW X K (.BoolOp .Or [a] pos) t d := ⟨pw_or1 ha.p, ha.l⟩
theorem xwand (ha : XT X K a t d) (hb : XW X K (.BoolOp .And (b :: rest) pos) t' d') : XW X K (.BoolOp .And (a :: b :: rest) pos) (tAnd t t') (dAnd d d') :=
  ⟨pw_and ha.p hb.p, fun τ σ h H Q Q0 rs hr bw w => ha.l τ σ h H _ _ rs hr (fun k h1 H1 x1 hr1 w1 => by
    cases k with
    | true => have w1 := kt w1; rw [if_pos rfl]; exact hb.l τ σ h1 H1 Q Q0 (rs.mono x1) hr1 (bw.mono x1) w1
    | false => have w1 := kf w1; rw [if_neg Bool.false_ne_true]; exact bw false h1 H1 x1 hr1 w1) w⟩
theorem xwor (ha : XT X K a t d) (hb : XW X K (.BoolOp .Or (b :: rest) pos) t' d') : XW X K (.BoolOp .Or (a :: b :: rest) pos) (tOr t t') (dOr d d') :=
  ⟨pw_or ha.p hb.p, fun τ σ h H Q Q0 rs hr bw w => ha.l τ σ h H _ _ rs hr (fun k h1 H1 x1 hr1 w1 => by
    cases k with
    | true => have w1 := kt w1; rw [if_pos rfl]; exact bw true h1 H1 x1 hr1 w1
    | false => have w1 := kf w1; rw [if_neg Bool.false_ne_true]; exact hb.l τ σ h1 H1 Q Q0 (rs.mono x1) hr1 (bw.mono x1) w1) w⟩
theorem XW.toT {e : Expr} (h : XW X K e t d) : XT X K e t d := ⟨h.p.pt, h.l⟩
theorem xtnot (ha : XT X K a t d) : XT X K (.UnaryOp .Not a pos) (tNot t) (dNot d) :=
  ⟨pt_not ha.p, fun τ σ h H Q Q0 rs hr bw w => ha.l τ σ h H _ _ rs hr (fun k h1 H1 x1 hr1 w1 => bw (!k) h1 H1 x1 hr1 w1) w⟩
/-- and, or, not as values of bools -/
def dAndV (a b : DE) : DE := fun τ h Q => a τ h fun x h1 => match x with
  | .bl c => kIte c (b τ h1 Q) (Q (.bl false) h1)
  | _ => False
def dOrV (a b : DE) : DE := fun τ h Q => a τ h fun x h1 => match x with
  | .bl c => kIte c (Q (.bl true) h1) (b τ h1 Q)
  | _ => False
def dNotV (a : DE) : DE := fun τ h Q => a τ h fun x h1 => match x with
  | .bl c => Q (.bl (!c)) h1
  | _ => False
theorem xone {op} (h : XE X K a ta da) : XE X K (.BoolOp op [a] pos) ta da := ⟨pe_one h.p, h.l⟩
theorem xand (ha : XE X K a ta da) (hb : XE X K (.BoolOp .And (b :: rest) pos) tb db) : XE X K (.BoolOp .And (a :: b :: rest) pos) (tAndV ta tb) (dAndV da db) :=
  ⟨pe_and ha.p hb.p, fun τ σ h H Q Q0 rs hr bw w => ha.l τ σ h H _ _ rs hr (fun x h1 v H1 x1 r1 hr1 w1 => by
    cases x with
    | bl k =>
      refine ⟨k, rv_bl r1, ?_⟩
      cases k with
      | true => have w1 := kt w1; exact hb.l τ σ h1 H1 Q Q0 (rs.mono x1) hr1 (bw.mono x1) w1
      | false => have w1 := kf w1; exact bw _ h1 _ H1 x1 rv_bl' hr1 w1
    | _ => exact w1.elim) w⟩
theorem xor (ha : XE X K a ta da) (hb : XE X K (.BoolOp .Or (b :: rest) pos) tb db) : XE X K (.BoolOp .Or (a :: b :: rest) pos) (tOrV ta tb) (dOrV da db) :=
  ⟨pe_or ha.p hb.p, fun τ σ h H Q Q0 rs hr bw w => ha.l τ σ h H _ _ rs hr (fun x h1 v H1 x1 r1 hr1 w1 => by
    cases x with
    | bl k =>
      refine ⟨k, rv_bl r1, ?_⟩
      cases k with
      | false => have w1 := kf w1; exact hb.l τ σ h1 H1 Q Q0 (rs.mono x1) hr1 (bw.mono x1) w1
      | true => have w1 := kt w1; exact bw _ h1 _ H1 x1 rv_bl' hr1 w1
    | _ => exact w1.elim) w⟩
theorem xnot (ha : XE X K a ta da) : XE X K (.UnaryOp .Not a pos) (tNotV ta) (dNotV da) :=
  ⟨pe_not ha.p, fun τ σ h H Q Q0 rs hr bw w => ha.l τ σ h H _ _ rs hr (fun x h1 v H1 x1 r1 hr1 w1 => by
    cases x with
    | bl k => exact ⟨k, rv_bl r1, bw _ h1 _ H1 x1 rv_bl' hr1 w1⟩
    | _ => exact w1.elim) w⟩
/-- a if t else b -/
def dIf (t : DT) (a b : DE) : DE := fun τ h Q => t τ h fun c h1 => kIte c (a τ h1 Q) (b τ h1 Q)
theorem xif {c : Expr} (hc : XT X K c t d) (ha : XE X K a ta da) (hb : XE X K b tb db) : XE X K (.IfExp c a b pos) (tIf t ta tb) (dIf d da db) :=
  ⟨pe_ifExp hc.p ha.p hb.p, fun τ σ h H Q Q0 rs hr bw w => hc.l τ σ h H _ _ rs hr (fun k h1 H1 x1 hr1 w1 => by
    cases k with
    | true => have w1 := kt w1; exact ha.l τ σ h1 H1 Q Q0 (rs.mono x1) hr1 (bw.mono x1) w1
    | false => have w1 := kf w1; exact hb.l τ σ h1 H1 Q Q0 (rs.mono x1) hr1 (bw.mono x1) w1) w⟩
/-- chains of two comparisons -/
def dChain (q q' : DR2) (a b c : DE) : DE := fun τ h Q => a τ h fun x h1 => b τ h1 fun y h2 => q x y h2 fun z h3 => match z with
  | .bl k => kIte k (c τ h3 fun w h4 => q' y w h4 Q) (Q (.bl false) h3)
  | _ => False
end
end DL

set_option Elab.async false
set_option linter.all false
set_option maxRecDepth 100000
/-! DL3: data, operators, displays, subscripts. -/
namespace DL
open PySem PySem.Spec PyProof.Rows L2

/-! ### data as it stands -/
mutual
inductive PD (h : DH) : D → PyData → Prop
  | non : PD h .non .none
  | bl (b : Bool) : PD h (.bl b) (.bool b)
  | int (i : Int) : PD h (.int i) (.int i)
  | str (x : Str) : PD h (.str x) (.str x)
  | tup {ds : List D} {ps : List PyData} : PDs h ds ps → PD h (.tup ds) (.tuple ps)
  | ktp {ds : List D} {ps : List PyData} : PDs h ds ps → PD h (.ktp ds) (.tuple ps)
  | fls {ds : List D} {ps : List PyData} : PDs h ds ps → PD h (.fls ds) (.list ps)
  | lst {a : Addr} {ds : List D} {ps : List PyData} : h a = some (.lst ds) → PDs h ds ps → PD h (.loc a) (.list ps)
inductive PDs (h : DH) : List D → List PyData → Prop
  | nil : PDs h [] []
  | cons {d : D} {ds : List D} {p : PyData} {ps : List PyData} : PD h d p → PDs h ds ps → PDs h (d :: ds) (p :: ps)
end
def Ext (h h' : DH) : Prop := ∀ a o, h a = some o → h' a = some o
theorem Ext.refl (h : DH) : Ext h h := fun _ _ q => q
theorem Ext.trans {h h' h'' : DH} (x : Ext h h') (y : Ext h' h'') : Ext h h'' := fun a o q => y a o (x a o q)
theorem ext_new {h : DH} {p : Addr} {o : DO} (hp : h p = none) : Ext h (hupd h p o) := fun a u q => by
  rw [hupd_ne (fun e => by subst e; rw [hp] at q; cases q)]; exact q
section
variable {h h' : DH}
mutual
theorem PD.ext (x : Ext h h') : ∀ {d : D} {p : PyData}, PD h d p → PD h' d p
  | _, _, .non => .non
  | _, _, .bl b => .bl b
  | _, _, .int b => .int b
  | _, _, .str b => .str b
  | _, _, .tup q => .tup (PDs.ext x q)
  | _, _, .ktp q => .ktp (PDs.ext x q)
  | _, _, .fls q => .fls (PDs.ext x q)
  | _, _, .lst e q => .lst (x _ _ e) (PDs.ext x q)
theorem PDs.ext (x : Ext h h') : ∀ {d : List D} {p : List PyData}, PDs h d p → PDs h' d p
  | _, _, .nil => .nil
  | _, _, .cons q r => .cons (PD.ext x q) (PDs.ext x r)
end
mutual
theorem PD.dp {K : PySem.W.Frag} {H : Hp} (hr : HR K H h) : ∀ {d : D} {p : PyData} {v : V}, PD h d p → RV K H d v → Dp K H v p
  | _, _, _, .non, r => by rw [rv_non r]; exact .non
  | _, _, _, .bl b, r => by rw [rv_bl r]; exact .bl b
  | _, _, _, .int b, r => by rw [rv_int r]; exact .int b
  | _, _, _, .str b, r => by rw [rv_str r]; exact .str b
  | _, _, _, .tup q, r => by
    obtain ⟨a, vs, e, s, rs⟩ := rv_tup r
    subst e
    exact .tup (.inl (.inl s)) (PDs.dp hr q rs)
  | _, _, _, .ktp q, r => by
    obtain ⟨a, vs, e, s, rs⟩ := rv_ktp r
    subst e
    exact .tup s.t (PDs.dp hr q rs)
  | _, _, _, .fls q, r => by
    obtain ⟨a, vs, e, s, rs⟩ := rv_fls r
    subst e
    exact .lst s.l (PDs.dp hr q rs)
  | _, _, _, .lst e q, r => by
    obtain ⟨vs, s, rs⟩ := hr _ _ e
    rw [rv_loc r]
    exact .lst (.inl (.inl s)) (PDs.dp hr q rs)
theorem PDs.dp {K : PySem.W.Frag} {H : Hp} (hr : HR K H h) : ∀ {ds : List D} {ps : List PyData} {vs : List V}, PDs h ds ps → RVs K H ds vs → DpAll K H vs ps
  | _, _, _, .nil, r => by rw [rvs_nil r]; exact .nil
  | _, _, _, .cons q s, r => by
    obtain ⟨x, xs, e, r1, r2⟩ := rvs_cons r
    subst e
    exact .cons (PD.dp hr q r1) (PDs.dp hr s r2)
end
mutual
theorem PD.noDict : ∀ {d : D} {p : PyData}, PD h d p → p.hasDict = false
  | _, _, .non => by simp [PyData.hasDict]
  | _, _, .bl b => by simp [PyData.hasDict]
  | _, _, .int b => by simp [PyData.hasDict]
  | _, _, .str b => by simp [PyData.hasDict]
  | _, _, .tup q => by simp only [PyData.hasDict]; exact PDs.noDict q
  | _, _, .ktp q => by simp only [PyData.hasDict]; exact PDs.noDict q
  | _, _, .fls q => by simp only [PyData.hasDict]; exact PDs.noDict q
  | _, _, .lst e q => by simp only [PyData.hasDict]; exact PDs.noDict q
theorem PDs.noDict : ∀ {ds : List D} {ps : List PyData}, PDs h ds ps → PyData.hasDictAll ps = false
  | _, _, .nil => by simp [PyData.hasDictAll]
  | _, _, .cons q s => by simp [PyData.hasDictAll, PD.noDict q, PDs.noDict s]
end
end

/-! ### operators by value -/
def dSize (n : Nat) : Prop := n ≤ sizeLine
def dAdd : DR2
  | .int i, .int j, h, Q => Q (.int (i + j)) h
  | .str x, .str y, h, Q => x.length + y.length ≤ sizeLine ∧ Q (.str (x ++ y)) h
  | .tup xs, .tup ys, h, Q => xs.length + ys.length ≤ sizeLine ∧ Q (.tup (xs ++ ys)) h
  | .loc a, .loc b, h, Q => ∃ xs ys, h a = some (.lst xs) ∧ h b = some (.lst ys) ∧ xs.length + ys.length ≤ sizeLine ∧ ∀ p, h p = none → Q (.loc p) (hupd h p (.lst (xs ++ ys)))
  | _, _, _, _ => False
def dSub : DR2
  | .int i, .int j, h, Q => Q (.int (i - j)) h
  | _, _, _, _ => False
def MulOk (i j : Int) : Prop := (-(2 ^ 64) < i ∧ i < 2 ^ 64) ∨ (-(2 ^ 64) < j ∧ j < 2 ^ 64) ∨ (i.natAbs < 2 ^ 250 ∧ j.natAbs < 2 ^ 250)
def dMul : DR2
  | .int i, .int j, h, Q => MulOk i j ∧ Q (.int (i * j)) h
  | .loc a, .int k, h, Q => ∃ xs, h a = some (.lst xs) ∧ 0 ≤ k ∧ k < 2 ^ 63 ∧ xs.length * k.toNat ≤ sizeLine ∧ ∀ p, h p = none → Q (.loc p) (hupd h p (.lst (List.replicate k.toNat xs).flatten))
  | _, _, _, _ => False
def DivOk (j : Int) : Prop := 0 < j ∧ j < 2 ^ 250
def dFdiv : DR2
  | .int i, .int j, h, Q => DivOk j ∧ Q (.int (i / j)) h
  | _, _, _, _ => False
def dMod : DR2
  | .int i, .int j, h, Q => 0 < j ∧ Q (.int (i % j)) h
  | _, _, _, _ => False
def dPow : DR2
  | .int i, .int j, h, Q => (0 ≤ j ∧ j ≤ 1000000 ∧ i.natAbs < 2 ^ 64) ∧ Q (.int (i ^ j.toNat)) h
  | _, _, _, _ => False
def dNeg : DR1
  | .int i, h, Q => Q (.int (-i)) h
  | _, _, _ => False
def dCmp (f : Int → Int → Bool) : DR2
  | .int i, .int j, h, Q => Q (.bl (f i j)) h
  | _, _, _, _ => False
def isNon : D → Bool
  | .non => true
  | _ => false
def dIsN (neg : Bool) : DR2
  | x, .non, h, Q => Q (.bl (if neg then !isNon x else isNon x)) h
  | _, _, _, _ => False
def dEq (neg : Bool) : DR2 := fun x y h Q => ∃ p q, PD h x p ∧ PD h y q ∧ SeqAt.shaped p = true ∧ SeqAt.shaped q = true ∧ Q (.bl (if neg then !PyData.eqv p q else PyData.eqv p q)) h

section
variable {X : Cx} {K : PySem.W.Frag}
theorem lrI {C : Int → Int → Prop} {g : Int → Int → Int} {q : DR2} (h1 : ∀ x y h Q, q x y h Q → ∃ i j, x = .int i ∧ y = .int j ∧ C i j ∧ Q (.int (g i j)) h) : LR2 K (rI C fun i j => .int (g i j)) q := fun d e x y h H Q Q0 r1 r2 hr bw w => by
  obtain ⟨i, j, e1, e2, c, w1⟩ := h1 d e h Q w
  rw [e1] at r1; rw [e2] at r2
  exact ⟨i, j, rv_int r1, rv_int r2, c, bw _ h _ H TX.refl rv_int' hr w1⟩
theorem lrI0 {g : Int → Int → Int} {q : DR2} (h1 : ∀ x y h Q, q x y h Q → ∃ i j, x = .int i ∧ y = .int j ∧ Q (.int (g i j)) h) : LR2 K (rI0 fun i j => .int (g i j)) q := fun d e x y h H Q Q0 r1 r2 hr bw w => by
  obtain ⟨i, j, e1, e2, w1⟩ := h1 d e h Q w
  rw [e1] at r1; rw [e2] at r2
  exact ⟨i, j, rv_int r1, rv_int r2, bw _ h _ H TX.refl rv_int' hr w1⟩
theorem lr_cmp (f : Int → Int → Bool) : LR2 K (rI0 fun i j => .bl (f i j)) (dCmp f) := fun d e x y h H Q Q0 r1 r2 hr bw w => by
  cases d with
  | int i =>
    cases e with
    | int j => exact ⟨i, j, rv_int r1, rv_int r2, bw _ h _ H TX.refl rv_bl' hr w⟩
    | _ => exact w.elim
  | _ => exact w.elim
theorem q_sub : OpR X (binaryOp .Sub) (rI0 fun i j => .int (i - j)) ∧ LR2 K (rI0 fun i j => .int (i - j)) dSub := ⟨op_sub, lrI0 fun x y h Q w => by
  cases x <;> cases y <;> first | exact w.elim | exact ⟨_, _, rfl, rfl, w⟩⟩
theorem q_fdiv : OpR X (binaryOp .FloorDiv) (rI CDivW fun i j => .int (i / j)) ∧ LR2 K (rI CDivW fun i j => .int (i / j)) dFdiv := ⟨op_fdivW, lrI fun x y h Q w => by
  cases x <;> cases y <;> first
    | exact w.elim
    | (obtain ⟨⟨c1, c2⟩, w⟩ := w
       exact ⟨_, _, rfl, rfl, wide_div (b := 250) c1 (by omega) (by decide) (by decide), w⟩)⟩
theorem q_mod : OpR X (binaryOp .Mod) (rI (fun _ j => 0 < j) fun i j => .int (i % j)) ∧ LR2 K (rI (fun _ j => 0 < j) fun i j => .int (i % j)) dMod := ⟨op_mod, lrI fun x y h Q w => by
  cases x <;> cases y <;> first | exact w.elim | exact ⟨_, _, rfl, rfl, w.1, w.2⟩⟩
theorem q_pow : OpR X (binaryOp .Pow) (rI CPow fun i j => .int (i ^ j.toNat)) ∧ LR2 K (rI CPow fun i j => .int (i ^ j.toNat)) dPow := ⟨op_pow, lrI fun x y h Q w => by
  cases x <;> cases y <;> first | exact w.elim | exact ⟨_, _, rfl, rfl, w.1, w.2⟩⟩
theorem q_lt : OpR X (compareOp .Lt) (rI0 fun i j => .bl (decide (i < j))) ∧ LR2 K (rI0 fun i j => .bl (decide (i < j))) (dCmp fun i j => decide (i < j)) := ⟨op_lt, lr_cmp _⟩
theorem q_le : OpR X (compareOp .LtE) (rI0 fun i j => .bl (decide (i ≤ j))) ∧ LR2 K (rI0 fun i j => .bl (decide (i ≤ j))) (dCmp fun i j => decide (i ≤ j)) := ⟨op_le, lr_cmp _⟩
theorem q_gt : OpR X (compareOp .Gt) (rI0 fun i j => .bl (decide (j < i))) ∧ LR2 K (rI0 fun i j => .bl (decide (j < i))) (dCmp fun i j => decide (j < i)) := ⟨op_gt, lr_cmp _⟩
theorem q_ge : OpR X (compareOp .GtE) (rI0 fun i j => .bl (decide (j ≤ i))) ∧ LR2 K (rI0 fun i j => .bl (decide (j ≤ i))) (dCmp fun i j => decide (j ≤ i)) := ⟨op_ge, lr_cmp _⟩
theorem q_neg : UnR X (unaryOp .USub) (rU fun i => .int (-i)) ∧ LR1 K (rU fun i => .int (-i)) dNeg := ⟨un_neg, fun d x h H Q Q0 r1 hr bw w => by
  cases d with
  | int i => exact ⟨i, rv_int r1, bw _ h _ H TX.refl rv_int' hr w⟩
  | _ => exact w.elim⟩
theorem isNon_v {d : D} {v : V} {H : Hp} (r : RV K H d v) : decide (v = .non) = isNon d := by
  cases d with
  | non => rw [rv_non r]; rfl
  | bl b => rw [rv_bl r]; rfl
  | int b => rw [rv_int r]; rfl
  | str b => rw [rv_str r]; rfl
  | ty b => rw [rv_ty r]; rfl
  | loc b => rw [rv_loc r]; rfl
  | tup ds => obtain ⟨a, vs, e, _⟩ := rv_tup r; rw [e]; rfl
  | ktp ds => obtain ⟨a, vs, e, _⟩ := rv_ktp r; rw [e]; rfl
  | fls ds => obtain ⟨a, vs, e, _⟩ := rv_fls r; rw [e]; rfl
theorem q_is : OpR X (compareOp .Is) (fun x y H Q => y = .non ∧ Q (.bl (decide (x = .non))) H) ∧ LR2 K (fun x y H Q => y = .non ∧ Q (.bl (decide (x = .non))) H) (dIsN false) := ⟨op_isN, fun d e x y h H Q Q0 r1 r2 hr bw w => by
  cases e with
  | non =>
    refine ⟨rv_non r2, ?_⟩
    rw [isNon_v r1]
    exact bw _ h _ H TX.refl rv_bl' hr w
  | _ => exact w.elim⟩
theorem q_isnot : OpR X (compareOp .IsNot) (fun x y H Q => y = .non ∧ Q (.bl (!decide (x = .non))) H) ∧ LR2 K (fun x y H Q => y = .non ∧ Q (.bl (!decide (x = .non))) H) (dIsN true) := ⟨op_notN, fun d e x y h H Q Q0 r1 r2 hr bw w => by
  cases e with
  | non =>
    refine ⟨rv_non r2, ?_⟩
    rw [isNon_v r1]
    exact bw _ h _ H TX.refl rv_bl' hr w
  | _ => exact w.elim⟩
theorem q_eq (hu : X.A.units + 64 < cLine) (hK : X.K = K := by rfl) : OpR X (compareOp .Eq) (rEqD K) ∧ LR2 K (rEqD K) (dEq false) := ⟨by subst hK; exact op_eqD hu, fun d e x y h H Q Q0 r1 r2 hr bw ⟨p, q, p1, p2, s1, s2, w⟩ =>
  ⟨p, q, p1.dp hr r1, p2.dp hr r2, s1, s2, bw _ h _ H TX.refl rv_bl' hr w⟩⟩
theorem q_ne (hu : X.A.units + 64 < cLine) (hK : X.K = K := by rfl) : OpR X (compareOp .NotEq) (rNeD K) ∧ LR2 K (rNeD K) (dEq true) := ⟨by subst hK; exact op_neD hu, fun d e x y h H Q Q0 r1 r2 hr bw ⟨p, q, p1, p2, s1, s2, w⟩ =>
  ⟨p, q, p1.dp hr r1, p2.dp hr r2, s1, s2, bw _ h _ H TX.refl rv_bl' hr w⟩⟩
/-- a new thing is laid -/
theorem bw_new {h : DH} {H : Hp} {Q : DK} {Q0 : VK} {p : Addr} {o : DO} {O : HO} (hr : HR K H h) (bw : Bw K H Q Q0) (hp : H p = none) (n : RO K (upd H p O) p o) (w : h p = none → Q (.loc p) (hupd h p o)) : Q0 (.ref p) (upd H p O) :=
  bw _ _ _ _ (tx_new hp) rv_loc' (hr.put (tx_new hp) n) (w (hr.free hp))
theorem bw_tup {h : DH} {H : Hp} {Q : DK} {Q0 : VK} {p : Addr} {ds : List D} {vs : List V} (hr : HR K H h) (bw : Bw K H Q Q0) (hp : H p = none) (r : RVs K H ds vs) (w : Q (.tup ds) h) : Q0 (.ref p) (upd H p (.tup vs)) :=
  bw _ _ _ _ (tx_new hp) (rv_tup' upd_same (RVs.mono (tx_new hp) _ _ r)) (hr.lay hp) w
theorem ro_lst {H : Hp} {p : Addr} {ds : List D} {vs : List V} (x : TX K H (upd H p (.lst vs))) (r : RVs K H ds vs) : RO K (upd H p (.lst vs)) p (.lst ds) := ⟨vs, upd_same, RVs.mono x _ _ r⟩
def rAddU (K : PySem.W.Frag) : R2 := fun x y H Q => rI0 (fun i j => .int (i + j)) x y H Q ∨ ((∃ i j, x = .str i ∧ y = .str j ∧ i.length + j.length ≤ sizeLine ∧ Q (.str (i ++ j)) H) ∨ (rCatA K x y H Q ∨ rCat x y H Q))
theorem q_add (hK : X.K = K := by rfl) : OpR X (binaryOp .Add) (rAddU K) ∧ LR2 K (rAddU K) dAdd := by
  subst hK
  refine ⟨op_add.or (op_add_str.or (op_catA.or op_cat)), fun d e x y h H Q Q0 r1 r2 hr bw w => ?_⟩
  cases d with
  | int i =>
    cases e with
    | int j => exact .inl ⟨i, j, rv_int r1, rv_int r2, bw _ h _ H TX.refl rv_int' hr w⟩
    | _ => exact w.elim
  | str i =>
    cases e with
    | str j => exact .inr (.inl ⟨i, j, rv_str r1, rv_str r2, w.1, bw _ h _ H TX.refl rv_str' hr w.2⟩)
    | _ => exact w.elim
  | tup ds =>
    cases e with
    | tup es =>
      obtain ⟨a, xs, e1, s1, q1⟩ := rv_tup r1
      obtain ⟨b, ys, e2, s2, q2⟩ := rv_tup r2
      have z1 := q1.length
      have z2 := q2.length
      obtain ⟨w1, w⟩ := w
      refine .inr (.inr (.inl ⟨a, b, xs, ys, e1, e2, .inl (.inl s1), .inl (.inl s2), by omega, fun z => ?_, fun z1 z => ?_, fun z1 z p hp => ?_⟩))
      · subst z
        have e0 : ds = [] := List.length_eq_zero_iff.mp (by simpa using z1)
        subst e0
        exact bw _ h _ H TX.refl (rv_tup' s2 q2) hr w
      · subst z
        have e0 : es = [] := List.length_eq_zero_iff.mp (by simpa using z2)
        subst e0
        rw [List.append_nil] at w
        exact bw _ h _ H TX.refl (rv_tup' s1 q1) hr w
      · exact bw_tup hr bw hp (q1.append q2) w
    | _ => exact w.elim
  | loc a =>
    cases e with
    | loc b =>
      obtain ⟨xs, ys, h1, h2, z, w⟩ := w
      obtain ⟨vs, s1, q1⟩ := hr _ _ h1
      obtain ⟨us, s2, q2⟩ := hr _ _ h2
      have z1 := q1.length
      have z2 := q2.length
      exact .inr (.inr (.inr ⟨a, b, vs, us, rv_loc r1, rv_loc r2, s1, s2, by omega, fun p hp => bw_new hr bw hp (ro_lst (tx_new hp) (q1.append q2)) (w p)⟩))
    | _ => exact w.elim
  | _ => exact w.elim
theorem rvs_rep {H : Hp} {ds : List D} {vs : List V} (r : RVs K H ds vs) : ∀ k : Nat, RVs K H (List.replicate k ds).flatten (List.replicate k vs).flatten
  | 0 => rvs_nil'
  | k + 1 => by
    rw [List.replicate_succ, List.replicate_succ, List.flatten_cons, List.flatten_cons]
    exact r.append (rvs_rep r k)
def rMulU (K : PySem.W.Frag) : R2 := fun x y H Q => rI CMul (fun i j => .int (i * j)) x y H Q ∨ (rI CMulW (fun i j => .int (i * j)) x y H Q ∨ rRep x y H Q)
theorem q_mul : OpR X (binaryOp .Mult) (rMulU K) ∧ LR2 K (rMulU K) dMul := by
  refine ⟨op_mul.or (op_mulW.or op_rep), fun d e x y h H Q Q0 r1 r2 hr bw w => ?_⟩
  cases d with
  | int i =>
    cases e with
    | int j =>
      obtain ⟨c, w1⟩ := w
      have fin := bw _ h _ H TX.refl (rv_int' (i := i * j)) hr w1
      rcases c with c | c | ⟨c1, c2⟩
      · exact .inl ⟨i, j, rv_int r1, rv_int r2, .inl c, fin⟩
      · exact .inl ⟨i, j, rv_int r1, rv_int r2, .inr c, fin⟩
      · exact .inr (.inl ⟨i, j, rv_int r1, rv_int r2, wide_mul c1 c2 (by decide) (by decide) (by decide), fin⟩)
    | _ => exact w.elim
  | loc a =>
    cases e with
    | int k =>
      obtain ⟨xs, h1, k0, k1, z, w1⟩ := w
      obtain ⟨vs, s1, q1⟩ := hr _ _ h1
      have z1 := q1.length
      exact .inr (.inr ⟨a, k, vs, rv_loc r1, rv_int r2, s1, by omega, k1, by rw [← z1]; exact z, fun p hp => bw_new hr bw hp (ro_lst (tx_new hp) (rvs_rep q1 _)) (w1 p)⟩)
    | _ => exact w.elim
  | _ => exact w.elim

/-! ### argument lists, displays -/
def dNil : DA := fun _ h Q => Q [] h
def dCons (a : DE) (r : DA) : DA := fun τ h Q => a τ h fun x h1 => r τ h1 fun xs h2 => Q (x :: xs) h2
def dTup (r : DA) : DE := fun τ h Q => r τ h fun xs h1 => xs.length ≤ sizeLine ∧ Q (.tup xs) h1
def dLst (r : DA) : DE := fun τ h Q => r τ h fun xs h1 => xs.length ≤ sizeLine ∧ ∀ p, h1 p = none → Q (.loc p) (hupd h1 p (.lst xs))
variable {e : Expr} {es : List Expr} {te : TE} {de : DE} {ta : TA} {da : DA} {pos : Pos}
theorem xnil : XA X K [] tNil dNil := ⟨pa_nil, fun τ σ h H Q Q0 rs hr bw w => bw [] h [] H TX.refl rvs_nil' hr w⟩
theorem xcons (he : XE X K e te de) (ha : XA X K es ta da) (hs : starEach (e :: es) X.env = (false, eval e X.env) :: starEach es X.env := by rfl) : XA X K (e :: es) (tCons te ta) (dCons de da) :=
  ⟨pa_cons he.p ha.p hs, fun τ σ h H Q Q0 rs hr bw w => he.l τ σ h H _ _ rs hr (fun d h1 v H1 x1 r1 hr1 w1 =>
    ha.l τ σ h1 H1 _ _ (rs.mono x1) hr1 (fun ds h2 vs H2 x2 r2 hr2 w2 => bw _ h2 _ H2 (x1.trans x2) (rvs_cons' (RV.mono x2 d v r1) r2) hr2 w2) w1) w⟩
theorem xtup {k} (h : XA X K es ta da) : XE X K (.Tuple es k pos) (tTup ta) (dTup da) :=
  ⟨pe_tup h.p, fun τ σ h0 H Q Q0 rs hr bw w => h.l τ σ h0 H _ _ rs hr (fun ds h1 vs H1 x1 r1 hr1 w1 => ⟨by rw [← r1.length]; exact w1.1, fun p hp => bw_tup hr1 (bw.mono x1) hp r1 w1.2⟩) w⟩
theorem xlst (h : XA X K es ta da) : XE X K (.List es pos) (tLst ta) (dLst da) :=
  ⟨pe_lst h.p, fun τ σ h0 H Q Q0 rs hr bw w => h.l τ σ h0 H _ _ rs hr (fun ds h1 vs H1 x1 r1 hr1 w1 => ⟨by rw [← r1.length]; exact w1.1, fun p hp => bw_new hr1 (bw.mono x1) hp (ro_lst (tx_new hp) r1) (w1.2 p)⟩) w⟩
end
end DL

set_option Elab.async false
set_option linter.all false
set_option maxRecDepth 100000
/-! DL4: subscripts, slices, dicts, targets, statements. -/
namespace DL
open PySem PySem.Spec PyProof.Rows L2

/-! ### keys -/
def keyD : D → Option Key
  | .int i => some (.inl i)
  | .str x => some (.inr x)
  | _ => none
def keysD : List D → Option (List Key)
  | [] => some []
  | d :: ds => match keyD d, keysD ds with
    | some k, some ks => some (k :: ks)
    | _, _ => none
def valD {κ : Type} [DecidableEq κ] (kvs : List (κ × D)) (k : κ) : Option D := (kvs.find? fun kv => decide (kv.1 = k)).map (·.2)
def putD {κ : Type} [DecidableEq κ] (kvs : List (κ × D)) (k : κ) (v : D) : List (κ × D) :=
  if (kvs.any fun kv => decide (kv.1 = k)) = true then kvs.map (fun kv => if kv.1 = k then (kv.1, v) else kv) else kvs ++ [(k, v)]
section
variable {K : PySem.W.Frag} {H : Hp}
theorem keyD_v {d : D} {k : Key} {v : V} (e : keyD d = some k) (r : RV K H d v) : v = kV k := by
  cases d with
  | int i => cases e; exact rv_int r
  | str x => cases e; exact rv_str r
  | _ => cases e
theorem keysD_v : ∀ {ds : List D} {ks : List Key} {vs : List V}, keysD ds = some ks → RVs K H ds vs → vs = ks.map kV
  | [], ks, vs, e, r => by cases e; rw [rvs_nil r]; rfl
  | d :: ds, ks, vs, e, r => by
    obtain ⟨x, xs, e1, r1, r2⟩ := rvs_cons r
    subst e1
    unfold keysD at e
    cases h1 : keyD d with
    | none => rw [h1] at e; cases e
    | some k =>
      cases h2 : keysD ds with
      | none => rw [h1, h2] at e; cases e
      | some kr =>
        rw [h1, h2] at e
        cases e
        rw [keyD_v h1 r1, keysD_v h2 r2]; rfl
theorem rkv_find {κ : Type} [DecidableEq κ] {kvs : List (κ × D)} {us : List (κ × V)} (r : RKV K H kvs us) (k : κ) : (valD kvs k = none ∧ valV us k = none) ∨ ∃ d v, valD kvs k = some d ∧ valV us k = some v ∧ RV K H d v := by
  unfold RKV at r
  induction r with
  | nil => exact .inl ⟨rfl, rfl⟩
  | @cons p q ps qs hq t ih =>
    by_cases e : p.1 = k
    · refine .inr ⟨p.2, q.2, by simp [valD, List.find?_cons, e], by simp [valV, List.find?_cons, ← hq.1, e], hq.2⟩
    · have e2 : ¬ q.1 = k := by rw [← hq.1]; exact e
      have h1 : valD (p :: ps) k = valD ps k := by simp [valD, List.find?_cons, e]
      have h2 : valV (q :: qs) k = valV qs k := by simp [valV, List.find?_cons, e2]
      rw [h1, h2]
      exact ih
theorem rkv_any {κ : Type} [DecidableEq κ] {kvs : List (κ × D)} {us : List (κ × V)} (r : RKV K H kvs us) (k : κ) : (kvs.any fun kv => decide (kv.1 = k)) = us.any fun kv => decide (kv.1 = k) := by
  unfold RKV at r
  induction r with
  | nil => rfl
  | @cons p q ps qs hq t ih => rw [List.any_cons, List.any_cons, ih, hq.1]
theorem rkv_put {κ : Type} [DecidableEq κ] {kvs : List (κ × D)} {us : List (κ × V)} (r : RKV K H kvs us) (k : κ) {d : D} {v : V} (rv : RV K H d v) : RKV K H (putD kvs k d) (putK us k v) := by
  unfold putD putK
  rw [rkv_any r k]
  split
  · unfold RKV at r ⊢
    rename_i z
    clear z
    induction r with
    | nil => exact .nil
    | @cons p q ps qs hq t ih =>
      rw [List.map_cons, List.map_cons]
      refine .cons ?_ ih
      by_cases e : p.1 = k
      · rw [if_pos e, if_pos (by rw [← hq.1]; exact e)]; exact ⟨hq.1, rv⟩
      · rw [if_neg e, if_neg (by rw [← hq.1]; exact e)]; exact hq
  · unfold RKV at r ⊢
    rename_i z
    clear z
    induction r with
    | nil => exact .cons ⟨rfl, rv⟩ .nil
    | @cons p q ps qs hq t ih => exact .cons hq ih
theorem rkv_length {κ : Type} {kvs : List (κ × D)} {us : List (κ × V)} (r : RKV K H kvs us) : kvs.length = us.length := Paired.length r
end

/-! ### a[b] -/
def need0 (o : Option D) (h : DH) (Q : DK) : Prop := match o with
  | some d => Q d h
  | none => False
@[irreducible] noncomputable def need : Option D → DH → DK → Prop := hide need0
theorem need_eq {o : Option D} {h : DH} {Q : DK} : need o h Q = need0 o h Q := by unfold need; rw [hide_eq]
theorem need_of {o : Option D} {h : DH} {Q : DK} (w : need o h Q) : ∃ d, o = some d ∧ Q d h := by
  rw [need_eq] at w; unfold need0 at w
  cases o with
  | none => exact w.elim
  | some d => exact ⟨d, rfl, w⟩
def getI : List D → D → Option D
  | xs, .int i => atI xs i
  | _, _ => none
def getS : Str → D → Option D
  | z, .int i => if z.length ≤ sizeLine then (atI z.cps.toList i).map fun c => .str ⟨#[c]⟩ else none
  | _, _ => none
def getT (kvs : List (List Key × D)) : D → Option D
  | .tup ks => (keysD ks).bind (valD kvs)
  | _ => none
def getO : Option DO → D → Option D
  | some (.lst xs), y => getI xs y
  | some (.dK kvs), y => (keyD y).bind (valD kvs)
  | some (.dT kvs), y => getT kvs y
  | _, _ => none
def ixD (h : DH) (x y : D) : Option D := match x with
  | .tup xs => getI xs y
  | .ktp xs => getI xs y
  | .fls xs => getI xs y
  | .str z => getS z y
  | .loc a => getO (h a) y
  | _ => none
def dIx : DR2 := fun x y h Q => need (ixD h x y) h Q
section
variable {X : Cx} {K : PySem.W.Frag}
theorem atI_rvs {H : Hp} {ds : List D} {vs : List V} {i : Int} {d : D} (r : RVs K H ds vs) (e : atI ds i = some d) : ∃ v, atI vs i = some v ∧ RV K H d v := by
  unfold atI at e ⊢
  rw [← r.length]
  cases h : ixN ds.length i with
  | none => rw [h] at e; cases e
  | some j =>
    rw [h] at e
    have e : ds[j]? = some d := e
    exact r.get e
def rIxD : R2 := fun x y H Q => ∃ a v, x = .ref a ∧ DGet H a y (some v) ∧ Q v H
theorem ix_dict (hu : X.A.units + 1 < cLine) : IxR X rIxD := by
  intro value slice pins s σ H x y v u Q I rx ry h hs
  obtain ⟨a, w, rfl, g, q⟩ := h
  cases rx
  exact tail_any (dict_typeIs I g) PySem.F.slot_dict_getitem.lookup (d_getItem hu I g ry fun w' s' I' r => ⟨w, H, I', r, q⟩) hs
def rIxU (K : PySem.W.Frag) : R2 := fun x y H Q => rIx K x y H Q ∨ rIxD x y H Q
theorem ix_all (hu : X.A.units + 1 < cLine) : IxR X (rIxU X.K) := ix_seq.or (ix_dict hu)
theorem getI_rvs {H : Hp} {ds : List D} {vs : List V} {e : D} {y : V} {d : D} (r : RVs K H ds vs) (ry : RV K H e y) (z : getI ds e = some d) : ∃ i v, y = .int i ∧ atI vs i = some v ∧ RV K H d v := by
  cases e with
  | int i =>
    obtain ⟨v, h1, h2⟩ := atI_rvs r (show atI ds i = some d from z)
    exact ⟨i, v, rv_int ry, h1, h2⟩
  | _ => cases z
theorem lr_ix : LR2 K (rIxU K) dIx := fun d e x y h H Q Q0 r1 r2 hr bw w => by
  obtain ⟨d0, z, w1⟩ := need_of w
  cases d with
  | tup ds =>
    obtain ⟨a, vs, e1, s, q⟩ := rv_tup r1
    obtain ⟨i, v, ey, h1, h2⟩ := getI_rvs q r2 z
    exact .inl (.inr (.inl ⟨a, vs, i, v, e1, ey, .inl (.inl s), h1, bw _ h _ H TX.refl h2 hr w1⟩))
  | ktp ds =>
    obtain ⟨a, vs, e1, s, q⟩ := rv_ktp r1
    obtain ⟨i, v, ey, h1, h2⟩ := getI_rvs q r2 z
    exact .inl (.inr (.inl ⟨a, vs, i, v, e1, ey, s.t, h1, bw _ h _ H TX.refl h2 hr w1⟩))
  | fls ds =>
    obtain ⟨a, vs, e1, s, q⟩ := rv_fls r1
    obtain ⟨i, v, ey, h1, h2⟩ := getI_rvs q r2 z
    exact .inl (.inl ⟨a, vs, i, v, e1, ey, s.l, h1, bw _ h _ H TX.refl h2 hr w1⟩)
  | str x0 =>
    cases e with
    | int i =>
      have z : (if x0.length ≤ sizeLine then (atI x0.cps.toList i).map fun c => D.str ⟨#[c]⟩ else none) = some d0 := z
      by_cases hl : x0.length ≤ sizeLine
      · rw [if_pos hl] at z
        obtain ⟨c, z1, z2⟩ := Option.map_eq_some_iff.mp z
        subst z2
        exact .inl (.inr (.inr ⟨x0, i, c, rv_str r1, rv_int r2, hl, z1, bw _ h _ H TX.refl rv_str' hr w1⟩))
      · rw [if_neg hl] at z; cases z
    | _ => cases z
  | loc a =>
    have e1 := rv_loc r1
    have z : getO (h a) e = some d0 := z
    cases ha : h a with
    | none => rw [ha] at z; cases z
    | some o =>
      rw [ha] at z
      cases o with
      | lst xs =>
        obtain ⟨vs, s, q⟩ := hr _ _ ha
        obtain ⟨i, v, ey, h1, h2⟩ := getI_rvs q r2 z
        exact .inl (.inl ⟨a, vs, i, v, e1, ey, .inl (.inl s), h1, bw _ h _ H TX.refl h2 hr w1⟩)
      | dK kvs =>
        obtain ⟨us, s, q⟩ := hr _ _ ha
        obtain ⟨k, z1, z2⟩ := Option.bind_eq_some_iff.mp (show (keyD e).bind (valD kvs) = some d0 from z)
        rcases rkv_find q k with ⟨n1, _⟩ | ⟨d1, v0, n1, n2, rv⟩
        · rw [n1] at z2; cases z2
        · rw [n1] at z2; cases z2
          refine .inr ⟨a, v0, e1, ?_, bw _ h _ H TX.refl rv hr w1⟩
          rw [keyD_v z1 r2, ← n2]
          exact DGet.k s
      | dT kvs =>
        obtain ⟨us, s, q⟩ := hr _ _ ha
        cases e with
        | tup ks =>
          obtain ⟨k, z1, z2⟩ := Option.bind_eq_some_iff.mp (show (keysD ks).bind (valD kvs) = some d0 from z)
          obtain ⟨b, bs, eb, sb, qb⟩ := rv_tup r2
          rcases rkv_find q k with ⟨n1, _⟩ | ⟨d1, v0, n1, n2, rv⟩
          · rw [n1] at z2; cases z2
          · rw [n1] at z2; cases z2
            refine .inr ⟨a, v0, e1, ?_, bw _ h _ H TX.refl rv hr w1⟩
            rw [eb, ← n2]
            exact DGet.t s (by rw [sb, keysD_v z1 qb])
        | _ => cases z
      | _ => cases z
  | _ => cases z
variable {a b : Expr} {ta tb : TE} {da db : DE} {pos : Pos}
theorem xix (hu : X.A.units + 1 < cLine) (ha : XE X K a ta da) (hb : XE X K b tb db) (hs : PlainIx b := by exact fun _ _ => rfl) (hK : X.K = K := by rfl) : XE X K (.Subscript a b pos) (tOp (rIxU K) ta tb) (dOp dIx da db) := ⟨by subst hK; exact pe_ix (ix_all hu) ha.p hb.p hs, le_op lr_ix ha.l hb.l⟩
end

/-! ### slices -/
def cutD (xs : List D) (lo hi : Option Int) : List D := (xs.drop (HT.sIx xs.length 0 lo)).take (HT.sIx xs.length xs.length hi - HT.sIx xs.length 0 lo)
abbrev DO' := DSt → DH → (Option Int → DH → Prop) → Prop
def LO (K : PySem.W.Frag) (t0 : TO) (t : DO') : Prop := ∀ τ σ h H (Q : Option Int → DH → Prop) (Q0 : Option Int → Hp → Prop), RS K H τ σ → HR K H h → (∀ o h' H', TX K H H' → HR K H' h' → Q o h' → Q0 o H') → t τ h Q → t0 σ H Q0
structure XO (X : Cx) (K : PySem.W.Frag) (e : Option Expr) (t0 : TO) (t : DO') : Prop where
  p : PO X e t0
  l : LO K t0 t
def dNoPart : DO' := fun _ h Q => Q none h
def dPart (t : DE) : DO' := fun τ h Q => t τ h fun x h1 => match x with
  | .int i => Q (some i) h1
  | _ => False
def lstO : Option DO → Option (List D)
  | some (.lst xs) => some xs
  | _ => none
def seqD (h : DH) : D → Option (List D)
  | .loc a => lstO (h a)
  | .fls xs => some xs
  | _ => none
def dCut (x : D) (lo hi : Option Int) (h : DH) (Q : DK) : Prop := match x with
  | .tup xs => Q (.tup (cutD xs lo hi)) h
  | .str z => z.length ≤ sizeLine ∧ Q (.str (cutS z lo hi)) h
  | y => match seqD h y with
    | some xs => ∀ p, h p = none → Q (.loc p) (hupd h p (.lst (cutD xs lo hi)))
    | none => False
theorem lstO_of {o : Option DO} {xs : List D} (e : lstO o = some xs) : o = some (.lst xs) := by
  cases o with
  | none => cases e
  | some u => cases u <;> cases e; rfl
def dSl (t : DE) (l u : DO') : DE := fun τ h Q => t τ h fun x h1 => l τ h1 fun lo h2 => u τ h2 fun hi h3 => dCut x lo hi h3 Q
section
variable {X : Cx} {K : PySem.W.Frag}
theorem xo_none : XO X K none tNoPart dNoPart := ⟨po_none, fun τ σ h H Q Q0 rs hr bw w => bw none h H TX.refl hr w⟩
theorem xo_some {e : Expr} {t : TE} {d : DE} (x : XE X K e t d) : XO X K (some e) (tPart t) (dPart d) := ⟨po_some x.p, fun τ σ h H Q Q0 rs hr bw w => x.l τ σ h H _ _ rs hr (fun y h1 v H1 x1 r1 hr1 w1 => by
  cases y with
  | int i => exact ⟨i, rv_int r1, bw _ h1 H1 x1 hr1 w1⟩
  | _ => exact w1.elim) w⟩
def rSlU (K : PySem.W.Frag) : V → Option Int → Option Int → Hp → VK → Prop := fun x lo hi H Q => rSlA K x lo hi H Q ∨ (rSlL K x lo hi H Q ∨ rSlS x lo hi H Q)
theorem cut_rvs {H : Hp} {ds : List D} {vs : List V} (r : RVs K H ds vs) (lo hi : Option Int) : RVs K H (cutD ds lo hi) (cutV vs lo hi) := by
  unfold cutD cutV
  rw [r.length]
  exact (r.drop _).take _
theorem cutD_whole {ds : List D} {lo hi : Option Int} (e : HT.sIx ds.length 0 lo = 0 ∧ HT.sIx ds.length ds.length hi = ds.length) : cutD ds lo hi = ds := by
  unfold cutD
  rw [e.1, e.2, List.drop_zero, Nat.sub_zero, List.take_length]
theorem xsl {e : Expr} {te : TE} {de : DE} {lo hi : Option Expr} {tl th : TO} {dl dh : DO'} {pos p2 : Pos} (he : XE X K e te de) (hl : XO X K lo tl dl) (hh : XO X K hi th dh) (hK : X.K = K := by rfl) : XE X K (.Subscript e (.Slice lo hi none p2) pos) (tSl (rSlU K) te tl th) (dSl de dl dh) := by
  subst hK
  refine ⟨pe_slice (sl_tupA.or (sl_list.or sl_str)) he.p hl.p hh.p, fun τ σ h H Q Q0 rs hr bw w => he.l τ σ h H _ _ rs hr (fun y h1 v H1 x1 r1 hr1 w1 => hl.l τ σ h1 H1 _ _ (rs.mono x1) hr1 (fun i h2 H2 x2 hr2 w2 => hh.l τ σ h2 H2 _ _ (rs.mono (x1.trans x2)) hr2 (fun j h3 H3 x3 hr3 w3 => ?_) w2) w1) w⟩
  have r := RV.mono (x2.trans x3) _ _ r1
  have bw := bw.mono ((x1.trans x2).trans x3)
  cases y with
  | tup ds =>
    obtain ⟨a, vs, e1, s, q⟩ := rv_tup r
    refine .inl ⟨a, vs, e1, .inl (.inl s), fun z => ?_, fun z p hp => bw_tup hr3 bw hp (cut_rvs q i j) w3⟩
    rw [← q.length] at z
    have w3 : Q (.tup (cutD ds i j)) h3 := w3
    rw [cutD_whole z] at w3
    exact bw _ h3 _ H3 TX.refl (rv_tup' s q) hr3 w3
  | loc a =>
    have w3 : (match lstO (h3 a) with | some xs => ∀ p, h3 p = none → Q (.loc p) (hupd h3 p (.lst (cutD xs i j))) | none => False) := w3
    cases ha : lstO (h3 a) with
    | none => rw [ha] at w3; exact w3.elim
    | some xs =>
      rw [ha] at w3
      obtain ⟨vs, s, q⟩ := hr3 _ _ (lstO_of ha)
      exact .inr (.inl ⟨a, vs, rv_loc r, .inl (.inl s), fun p hp => bw_new hr3 bw hp (ro_lst (tx_new hp) (cut_rvs q i j)) (w3 p)⟩)
  | fls xs =>
    obtain ⟨a, vs, e1, s, q⟩ := rv_fls r
    exact .inr (.inl ⟨a, vs, e1, s.l, fun p hp => bw_new hr3 bw hp (ro_lst (tx_new hp) (cut_rvs q i j)) (w3 p)⟩)
  | str z => exact .inr (.inr ⟨z, rv_str r, w3.1, bw _ h3 _ H3 TX.refl rv_str' hr3 w3.2⟩)
  | _ => exact w3.elim
end

/-! ### dicts: {} -/
def dNewK : DE := fun _ h Q => ∀ p, h p = none → Q (.loc p) (hupd h p (.dK []))
def dNewT : DE := fun _ h Q => ∀ p, h p = none → Q (.loc p) (hupd h p (.dT []))
theorem ro_dK {K : PySem.W.Frag} {H : Hp} {p : Addr} {kvs : List (Key × D)} {us : List (Key × V)} (r : RKV K (upd H p (.dK us)) kvs us) : RO K (upd H p (.dK us)) p (.dK kvs) := ⟨us, upd_same, r⟩
theorem ro_dT {K : PySem.W.Frag} {H : Hp} {p : Addr} {kvs : List (List Key × D)} {us : List (List Key × V)} (r : RKV K (upd H p (.dT us)) kvs us) : RO K (upd H p (.dT us)) p (.dT kvs) := ⟨us, upd_same, r⟩
section
variable {X : Cx} {K : PySem.W.Frag} {pos : Pos}
theorem xnewK : XE X K (.Dict [] [] pos) tDNewK dNewK := ⟨pe_dnewK, fun τ σ h H Q Q0 rs hr bw w p hp => bw_new hr bw hp (ro_dK (kvs := []) .nil) (w p)⟩
theorem xnewT : XE X K (.Dict [] [] pos) tDNewT dNewT := ⟨pe_dnewT, fun τ σ h H Q Q0 rs hr bw w p hp => bw_new hr bw hp (ro_dT (kvs := []) .nil) (w p)⟩
end

/-! ### targets -/
abbrev DTG := D → DSt → DH → (DSt → DH → Prop) → Prop
abbrev DTGs := List D → DSt → DH → (DSt → DH → Prop) → Prop
def BwG (K : PySem.W.Frag) (H : Hp) (Q : DSt → DH → Prop) (Q0 : L2.St → Hp → Prop) : Prop := ∀ τ' σ' h' H', TX K H H' → RS K H' τ' σ' → HR K H' h' → Q τ' h' → Q0 σ' H'
theorem BwG.mono {K : PySem.W.Frag} {H H' : Hp} {Q : DSt → DH → Prop} {Q0 : L2.St → Hp → Prop} (x : TX K H H') (r : BwG K H Q Q0) : BwG K H' Q Q0 := fun a b c d t => r a b c d (x.trans t)
def LG (K : PySem.W.Frag) (g0 : TG) (g : DTG) : Prop := ∀ d v τ σ h H Q Q0, RV K H d v → RS K H τ σ → HR K H h → BwG K H Q Q0 → g d τ h Q → g0 v σ H Q0
def LGs (K : PySem.W.Frag) (g0 : TGs) (g : DTGs) : Prop := ∀ d v τ σ h H Q Q0, RVs K H d v → RS K H τ σ → HR K H h → BwG K H Q Q0 → g d τ h Q → g0 v σ H Q0
structure XG (X : Cx) (K : PySem.W.Frag) (e : Expr) (g0 : TG) (g : DTG) : Prop where
  p : PG X e g0
  l : LG K g0 g
structure XGs (X : Cx) (K : PySem.W.Frag) (es : List Expr) (g0 : TGs) (g : DTGs) : Prop where
  p : PGs X es g0
  l : LGs K g0 g
def gdName (i : Nat) : DTG := fun d τ h Q => Q (τ.set i (some d)) h
def gdNil : DTGs := fun ds τ h Q => match ds with
  | [] => Q τ h
  | _ => False
def gdCons (g : DTG) (r : DTGs) : DTGs := fun ds τ h Q => match ds with
  | d :: ds => g d τ h fun τ' h' => r ds τ' h' Q
  | [] => False
def gdTup (n : Nat) (g : DTGs) : DTG := fun d τ h Q => match d with
  | .tup ds => ds.length = n ∧ g ds τ h Q
  | .ktp ds => ds.length = n ∧ g ds τ h Q
  | _ => False
def setI (xs : List D) (v : D) : D → Option DO
  | .int i => (ixN xs.length i).map fun j => .lst (xs.set j v)
  | _ => none
def setT (kvs : List (List Key × D)) (v : D) : D → Option DO
  | .tup ks => if kvs.length < sizeLine then (keysD ks).map fun k => .dT (putD kvs k v) else none
  | _ => none
def setO : Option DO → D → D → Option DO
  | some (.lst xs), y, v => setI xs v y
  | some (.dK kvs), y, v => if kvs.length < sizeLine then (keyD y).map fun k => .dK (putD kvs k v) else none
  | some (.dT kvs), y, v => setT kvs v y
  | _, _, _ => none
def dSet0 (o y v : D) (h : DH) (Q : DH → Prop) : Prop := match o with
  | .loc a => (match setO (h a) y v with
    | some u => Q (hupd h a u)
    | none => False)
  | _ => False
@[irreducible] noncomputable def dSet : D → D → D → DH → (DH → Prop) → Prop := hide dSet0
theorem dSet_eq {o y v : D} {h : DH} {Q : DH → Prop} : dSet o y v h Q = dSet0 o y v h Q := by unfold dSet; rw [hide_eq]
def gdSub (to ti : DE) : DTG := fun d τ h Q => to τ h fun o h1 => ti τ h1 fun i h2 => dSet o i d h2 fun h3 => Q τ h3
section
variable {X : Cx} {K : PySem.W.Frag} {pos : Pos}
theorem xg_name {i : Nat} {x : Str} (hN : X.N.Nodup) (hi : X.N[i]? = some x := by rfl) (hx : Loc X.env.scope x := by first | exact Or.inl rfl | exact Or.inr rfl) (hf : X.fn x = true ∨ X.env.scope.names.lookup x = some .local := by first | exact .inl rfl | exact .inr rfl) : XG X K (.Name x pos) (gName i) (gdName i) :=
  ⟨pg_name hN hi hx hf, fun d v τ σ h H Q Q0 r rs hr bw w => bw _ _ h H TX.refl (rs.set i r) hr w⟩
theorem xgs_nil : XGs X K [] gNil gdNil := ⟨pgs_nil, fun d v τ σ h H Q Q0 r rs hr bw w => by
  cases d with
  | nil => exact ⟨rvs_nil r, bw _ _ h H TX.refl rs hr w⟩
  | cons _ _ => exact w.elim⟩
theorem xgs_cons {e : Expr} {es : List Expr} {t : TG} {u : TGs} {dt : DTG} {du : DTGs} (h1 : XG X K e t dt) (h2 : XGs X K es u du)
    (hs : (assignEach (e :: es) X.env).map (·.2) = assign e X.env :: (assignEach es X.env).map (·.2) := by rfl) : XGs X K (e :: es) (gCons t u) (gdCons dt du) := ⟨pgs_cons h1.p h2.p hs, fun d v τ σ h H Q Q0 r rs hr bw w => by
  cases d with
  | nil => exact w.elim
  | cons d ds =>
    obtain ⟨x, xs, e1, r1, r2⟩ := rvs_cons r
    exact ⟨x, xs, e1, h1.l d x τ σ h H _ _ r1 rs hr (fun τ1 σ1 h1' H1 x1 rs1 hr1 w1 => h2.l ds xs τ1 σ1 h1' H1 Q Q0 (RVs.mono x1 _ _ r2) rs1 hr1 (bw.mono x1) w1) w⟩⟩
theorem xg_tup {es : List Expr} {k : Nat} {t : TGs} {dt : DTGs} {n : Nat} (hc : X.calm = true) (h : XGs X K es t dt)
    (hn : (assignEach es X.env).length = n := by rfl) (hst : (assignEach es X.env).findIdx? (·.1) = none := by rfl) (hK : X.K = K := by rfl) : XG X K (.Tuple es k pos) (gTup K n t) (gdTup n dt) := ⟨by subst hK; exact pg_tup hc h.p hn hst, fun d v τ σ h0 H Q Q0 r rs hr bw w => by
  cases d with
  | tup ds =>
    obtain ⟨a, vs, e1, s, q⟩ := rv_tup r
    exact ⟨a, vs, e1, .inl (.inl s), by rw [← q.length]; exact w.1, h.l ds vs τ σ h0 H Q Q0 q rs hr bw w.2⟩
  | ktp ds =>
    obtain ⟨a, vs, e1, s, q⟩ := rv_ktp r
    exact ⟨a, vs, e1, s.t, by rw [← q.length]; exact w.1, h.l ds vs τ σ h0 H Q Q0 q rs hr bw w.2⟩
  | _ => exact w.elim⟩
def rSetU : TSet := fun o i v H Q => rSetL o i v H Q ∨ ∃ a H', o = .ref a ∧ DPut H a i v H' ∧ Q H'
theorem set_all (hu : X.A.units + 1 < cLine) : PSet X rSetU := by
  intro pins s σ H o i v ov iv u Q I ro ri rv h
  rcases h with h | ⟨a, H', rfl, g, q⟩
  · exact set_list pins s σ H o i v ov iv u Q I ro ri rv h
  · cases ro
    exact d_setItem hu I g ri rv fun s' I' => ⟨H', I', q⟩
theorem set_link {o i d : D} {ov iv v : V} {h : DH} {H : Hp} {Q : DH → Prop} {Q0 : Hp → Prop} (ro : RV K H o ov) (ri : RV K H i iv) (rv : RV K H d v) (hr : HR K H h) (bw : ∀ h' H', TX K H H' → HR K H' h' → Q h' → Q0 H') (w : dSet o i d h Q) : rSetU ov iv v H Q0 := by
  rw [dSet_eq] at w; unfold dSet0 at w
  cases o with
  | loc a =>
    have e1 := rv_loc ro
    have w : (match setO (h a) i d with | some u => Q (hupd h a u) | none => False) := w
    cases z : setO (h a) i d with
    | none => rw [z] at w; exact w.elim
    | some u =>
      rw [z] at w
      cases ha : h a with
      | none => rw [ha] at z; cases z
      | some ob =>
        rw [ha] at z
        cases ob with
        | lst xs =>
          obtain ⟨vs, s, q⟩ := hr _ _ ha
          cases i with
          | int k =>
            obtain ⟨j, z1, z2⟩ := Option.map_eq_some_iff.mp (show (ixN xs.length k).map (fun j => DO.lst (xs.set j d)) = some u from z)
            subst z2
            have x := tx_lst (K := K) (o := .lst (vs.set j v)) s
            exact .inl ⟨a, vs, k, j, e1, rv_int ri, s, by rw [← q.length]; exact z1, bw _ _ x (hr.put x (ro_lst (ds := xs.set j d) x (RVs.set rv j q))) w⟩
          | _ => cases z
        | dK kvs =>
          obtain ⟨us, s, q⟩ := hr _ _ ha
          have z : (if kvs.length < sizeLine then (keyD i).map fun k => DO.dK (putD kvs k d) else none) = some u := z
          by_cases hl : kvs.length < sizeLine
          · rw [if_pos hl] at z
            obtain ⟨k, z1, z2⟩ := Option.map_eq_some_iff.mp z
            subst z2
            have x := tx_dK (K := K) (o := .dK (putK us k v)) s
            refine .inr ⟨a, _, e1, ?_, bw _ _ x (hr.put x (ro_dK (rkv_put (q.mono x) k (RV.mono x _ _ rv)))) w⟩
            rw [keyD_v z1 ri]
            exact DPut.k s (by rw [← rkv_length q]; exact hl)
          · rw [if_neg hl] at z; cases z
        | dT kvs =>
          obtain ⟨us, s, q⟩ := hr _ _ ha
          cases i with
          | tup ks =>
            have z : (if kvs.length < sizeLine then (keysD ks).map fun k => DO.dT (putD kvs k d) else none) = some u := z
            by_cases hl : kvs.length < sizeLine
            · rw [if_pos hl] at z
              obtain ⟨k, z1, z2⟩ := Option.map_eq_some_iff.mp z
              subst z2
              obtain ⟨b, bs, eb, sb, qb⟩ := rv_tup ri
              have x := tx_dT (K := K) (o := .dT (putK us k v)) s
              refine .inr ⟨a, _, e1, ?_, bw _ _ x (hr.put x (ro_dT (rkv_put (q.mono x) k (RV.mono x _ _ rv)))) w⟩
              rw [eb]
              exact DPut.t s (by rw [sb, keysD_v z1 qb]) (by rw [← rkv_length q]; exact hl)
            · rw [if_neg hl] at z; cases z
          | _ => cases z
        | _ => cases z
  | _ => exact w.elim
theorem xg_sub {o i : Expr} {to ti : TE} {do' di : DE} (hu : X.A.units + 1 < cLine) (ho : XE X K o to do') (hi : XE X K i ti di)
    (ha : ∀ v, assign (.Subscript o i pos) X.env v = (do
      let ov ← holding [v] (eval o X.env)
      let iv ← holding [v, ov] (eval i X.env)
      standAt pos
      holding [v, ov, iv] (setItem ov iv v)
      release [v, ov, iv] []) := by intro _; rfl) : XG X K (.Subscript o i pos) (gSub to ti rSetU) (gdSub do' di) := ⟨pg_sub ho.p hi.p (set_all hu) ha, fun d v τ σ h H Q Q0 r rs hr bw w =>
  ho.l τ σ h H _ _ rs hr (fun od h1 ov H1 x1 r1 hr1 w1 => hi.l τ σ h1 H1 _ _ (rs.mono x1) hr1 (fun idd h2 iv H2 x2 r2 hr2 w2 =>
    set_link (RV.mono x2 _ _ r1) r2 (RV.mono (x1.trans x2) _ _ r) hr2 (fun h3 H3 x3 hr3 w3 => bw _ _ h3 H3 ((x1.trans x2).trans x3) (rs.mono ((x1.trans x2).trans x3)) hr3 w3) w2) w1) w⟩
end
end DL

set_option Elab.async false
set_option linter.all false
set_option maxRecDepth 100000
/-! DL5: statements, what is walked, loops, comprehensions. -/
namespace DL
open PySem PySem.Spec PyProof.Rows L2

/-! ### statements -/
def dNext : DS := fun D τ h => D.nx τ h
def dSeq (t u : DS) : DS := fun D τ h => t { D with nx := u D } τ h
def dRet (t : DE) : DS := fun D τ h => t τ h D.rt
def dRetN : DS := fun D _ h => D.rt .non h
def dDrop (t : DE) : DS := fun D τ h => t τ h fun _ h1 => D.nx τ h1
def dIfS (c : DT) (t u : DS) : DS := fun D τ h => c τ h fun b h1 => kIte b (t D τ h1) (u D τ h1)
def dBreak : DS := fun D τ h => D.bk τ h
def dCont : DS := fun D τ h => D.ct τ h
def dAsg (t : DE) (g : DTG) : DS := fun D τ h => t τ h fun x h1 => g x τ h1 D.nx
def dPar (i j : Nat) (a : DA) : DS := fun D τ h => a τ h fun ds h1 => match ds with
  | [v, w] => D.nx ((τ.set i (some v)).set j (some w)) h1
  | _ => False
def dNever : DS := fun _ _ _ => False
section
variable {X : Cx} {K : PySem.W.Frag} {st : Stmt} {rest : List Stmt} {t t' : TS} {d d' : DS} {e : Expr} {te : TE} {de : DE} {pos : Pos}
theorem BwS.g {K : PySem.W.Frag} {H : Hp} {D : DEnds} {D0 : Ends} (b : BwS K H D D0) : BwG K H D.nx D0.nx := fun a b' c d t r1 r2 w => b.nx a b' c d t r1 r2 w
theorem xss_nil : XSs X K [] tNext dNext := ⟨pss_nil, fun τ σ h H D D0 rs hr bw w => bw.nx τ σ h H TX.refl rs hr w⟩
theorem xss_cons (h1 : XS X K st t d) (h2 : XSs X K rest t' d') : XSs X K (st :: rest) (tSeq t t') (dSeq d d') := ⟨pss_cons h1.p h2.p, fun τ σ h H D D0 rs hr bw w =>
  h1.l τ σ h H { D with nx := d' D } { D0 with nx := t' D0 } rs hr ⟨fun τ' σ' h' H' x rs' hr' w' => h2.l τ' σ' h' H' D D0 rs' hr' (bw.mono x) w', bw.rt, bw.bk, bw.ct⟩ w⟩
theorem xss_one (h1 : XS X K st t d) : XSs X K [st] t d := ⟨pss_one h1.p, h1.l⟩
theorem xs_pass : XS X K (.Pass pos) tNext dNext := ⟨ps_pass, fun τ σ h H D D0 rs hr bw w => bw.nx τ σ h H TX.refl rs hr w⟩
theorem xs_break : XS X K (.Break pos) tBreak dBreak := ⟨ps_break, fun τ σ h H D D0 rs hr bw w => bw.bk τ σ h H TX.refl rs hr w⟩
theorem xs_continue : XS X K (.Continue pos) tCont dCont := ⟨ps_continue, fun τ σ h H D D0 rs hr bw w => bw.ct τ σ h H TX.refl rs hr w⟩
theorem xs_expr (he : XE X K e te de) (hs : swapsWith e none pos.line X.env = pure false := by rfl) : XS X K (.Expr e pos) (tDrop te) (dDrop de) := ⟨ps_expr he.p hs, fun τ σ h H D D0 rs hr bw w =>
  he.l τ σ h H _ _ rs hr (fun x h1 v H1 x1 r1 hr1 w1 => bw.nx τ σ h1 H1 x1 (rs.mono x1) hr1 w1) w⟩
theorem xs_ret (he : XE X K e te de) : XS X K (.Return (some e) pos) (tRet te) (dRet de) := ⟨ps_ret he.p, fun τ σ h H D D0 rs hr bw w => he.l τ σ h H _ _ rs hr bw.rt w⟩
theorem xs_retN : XS X K (.Return none pos) tRetN dRetN := ⟨ps_retN, fun τ σ h H D D0 rs hr bw w => bw.rt _ h _ H TX.refl rv_non' hr w⟩
theorem xs_if {c : Expr} {a b : List Stmt} {tc : TT} {dc : DT} (hc : XT X K c tc dc) (ha : XSs X K a t d) (hb : XSs X K b t' d') : XS X K (.If c a b pos) (tIfS tc t t') (dIfS dc d d') := ⟨ps_if hc.p ha.p hb.p, fun τ σ h H D D0 rs hr bw w =>
  hc.l τ σ h H _ _ rs hr (fun k h1 H1 x1 hr1 w1 => by
    cases k with
    | true => have w1 := kt w1; exact ha.l τ σ h1 H1 D D0 (rs.mono x1) hr1 (bw.mono x1) w1
    | false => have w1 := kf w1; exact hb.l τ σ h1 H1 D D0 (rs.mono x1) hr1 (bw.mono x1) w1) w⟩
theorem ls_asg {K : PySem.W.Frag} {g0 : TG} {g : DTG} (le : LE K te de) (lg : LG K g0 g) : LS K (tAsg te g0) (dAsg de g) := fun τ σ h H D D0 rs hr bw w =>
  le τ σ h H _ _ rs hr (fun x h1 v H1 x1 r1 hr1 w1 => lg x v τ σ h1 H1 _ _ r1 (rs.mono x1) hr1 (bw.g.mono x1) w1) w
theorem xs_asg {tg : Expr} {g0 : TG} {g : DTG} (he : XE X K e te de) (hg : XG X K tg g0 g) (hs : swapsWithSole [tg] e pos.line X.env = pure false := by rfl) (hw : swappedStores [tg] e X.env = pure none := by rfl)
    (h1 : (assignEach [tg] X.env).map (·.2) = [assign tg X.env] := by rfl) : XS X K (.Assign [tg] e pos) (tAsg te g0) (dAsg de g) := ⟨ps_asg he.p hg.p hs hw h1, ls_asg he.l hg.l⟩
theorem lg_name {K : PySem.W.Frag} (i : Nat) : LG K (gName i) (gdName i) := fun d v τ σ h H Q Q0 r rs hr bw w => bw _ _ h H TX.refl (rs.set i r) hr w
theorem xs_set {i : Nat} {x : Str} {pos' : Pos} (hN : X.N.Nodup) (he : XE X K e te de) (hi : X.N[i]? = some x := by rfl) (hx : Loc X.env.scope x := by first | exact Or.inl rfl | exact Or.inr rfl) (hs : swapsWith e (some (.Name x pos')) pos.line X.env = pure false := by rfl) (hf : X.fn x = true ∨ X.env.scope.names.lookup x = some .local := by first | exact .inl rfl | exact .inr rfl) :
    XS X K (.Assign [.Name x pos'] e pos) (tAsg te (gName i)) (dAsg de (gdName i)) := ⟨ps_set hN hi hx he.p hs hf, ls_asg he.l (lg_name i)⟩
theorem xs_par {i j : Nat} {x y : Str} {a b : Expr} {ta : TA} {da : DA} {px py pt : Pos} {kt k2 pt2} (hc : X.calm = true) (hN : X.N.Nodup) (ha : XA X K [a, b] ta da) (hij : i ≠ j) (hi : X.N[i]? = some x := by rfl) (hj : X.N[j]? = some y := by rfl)
    (hx : X.env.scope.names.lookup x = some .local := by rfl) (hy : X.env.scope.names.lookup y = some .local := by rfl)
    (hw : swappedStores [.Tuple [.Name x px, .Name y py] kt pt] (.Tuple [a, b] k2 pt2) X.env = pure (some [x, y]) := by rfl)
    (hs : swapsWithSole [.Tuple [.Name x px, .Name y py] kt pt] (.Tuple [a, b] k2 pt2) pos.line X.env = pure false := by rfl) :
    XS X K (.Assign [.Tuple [.Name x px, .Name y py] kt pt] (.Tuple [a, b] k2 pt2) pos) (tPar i j ta) (dPar i j da) := ⟨ps_par hc hN hi hj hij hx hy ha.p hw hs, fun τ σ h H D D0 rs hr bw w =>
  ha.l τ σ h H _ _ rs hr (fun ds h1 vs H1 x1 r1 hr1 w1 => by
    match ds, w1, r1 with
    | [v, w0], w1, r1 =>
      obtain ⟨u1, us1, e1, q1, r2⟩ := rvs_cons r1
      obtain ⟨u2, us2, e2, q2, r3⟩ := rvs_cons r2
      have e3 := rvs_nil r3
      subst e3 e2 e1
      exact ⟨u1, u2, rfl, bw.nx _ _ h1 H1 x1 (((rs.mono x1).set i q1).set j q2) hr1 w1⟩) w⟩
/-- name op= e, by the operator's own rule -/
def dAug (i : Nat) (t : DE) (q : DR2) : DS := fun D τ h => match ld τ i with
  | some x => t τ h fun y h1 => q x y h1 fun z h2 => D.nx (τ.set i (some z)) h2
  | none => False
theorem xs_aug {i : Nat} {x : Str} {op : Operator} {r : R2} {q : DR2} {pos' : Pos} (hN : X.N.Nodup) (o : OpR X (inplaceOp op) r ∧ LR2 K r q) (he : XE X K e te de) (hi : X.N[i]? = some x := by rfl) (hx : Loc X.env.scope x := by first | exact Or.inl rfl | exact Or.inr rfl) (hf : X.fn x = true ∨ X.env.scope.names.lookup x = some .local := by first | exact .inl rfl | exact .inr rfl) :
    XS X K (.AugAssign (.Name x pos') op e pos) (tAug i te r) (dAug i de q) := ⟨ps_aug hN hi hx he.p (fun pins s σ H x y v u Q I r1 r2 w => o.1 pins s σ H x y v u Q I r1 r2 w) hf, fun τ σ h H D D0 rs hr bw w => by
  unfold dAug at w
  cases z : ld τ i with
  | none => rw [z] at w; exact w.elim
  | some d0 =>
    rw [z] at w
    obtain ⟨v0, s0, r0⟩ := rs.2 i d0 (ld_get z)
    exact ⟨v0, s0, he.l τ σ h H _ _ rs hr (fun y h1 v H1 x1 r1 hr1 w1 => o.2 d0 y v0 v h1 H1 _ _ (RV.mono x1 _ _ r0) r1 hr1 (fun z h2 zv H2 x2 r2 hr2 w2 => bw.nx _ _ h2 H2 (x1.trans x2) ((rs.mono (x1.trans x2)).set i r2) hr2 w2) w1) w⟩⟩
end

/-! ### what is walked -/
abbrev DI := DSt → DH → (List D → (DH → Prop) → DH → Prop) → Prop
def Fol (K : PySem.W.Frag) (H0 : Hp) (J : It) (items : List D) (G : DH → Prop) : Prop := ∀ (i : Nat) (h : DH) (H : Hp), TX K H0 H → HR K H h → G h →
  (items.length ≤ i → J.stop i H) ∧ ∀ d, items[i]? = some d → J.go i H ∧ ∀ x H', J.yld i H x H' → TX K H H' ∧ HR K H' h ∧ RV K H' d x
def LI (K : PySem.W.Frag) (w0 : TI) (di : DI) : Prop := ∀ τ σ h H (R : List D → (DH → Prop) → DH → Prop) (R0 : It → Hp → Prop), RS K H τ σ → HR K H h →
  (∀ items G h' H' J, TX K H H' → HR K H' h' → R items G h' → Fol K H' J items G → R0 J H') → di τ h R → w0 σ H R0
structure XI (X : Cx) (K : PySem.W.Frag) (tg e : Expr) (w0 : TI) (di : DI) : Prop where
  p : PI X tg e w0
  l : LI K w0 di
/-- a list or a tuple -/
def iSeq (K : PySem.W.Frag) (tl : TE) : TI := fun σ H R => tl σ H fun x H1 => ∃ a, x = .ref a ∧ (((∃ xs, SqL K H1 a xs) ∧ R (Itl K a) H1) ∨ ((∃ xs, SqT K H1 a xs) ∧ R (Itt K a) H1))
def diSeq (t : DE) : DI := fun τ h R => t τ h fun x h1 => match x with
  | .tup xs => R xs (fun _ => True) h1
  | .ktp xs => R xs (fun _ => True) h1
  | .fls xs => R xs (fun _ => True) h1
  | .loc a => (match lstO (h1 a) with
    | some xs => R xs (fun h => h a = some (.lst xs)) h1
    | none => False)
  | _ => False
section
variable {X : Cx} {K : PySem.W.Frag} {tg : Expr}
theorem pi_seq {l : Expr} {tl : TE} (hl : PE X l tl) : PI X tg l (iSeq X.K tl) := by
  refine ⟨fun pins s σ H R I h => ?_⟩
  refine thn (hl.run pins s σ H _ I h) fun v s1 ⟨x, H1, I1, r1, a, e, q⟩ => ?_
  subst e
  cases r1
  have fresh : ∀ b ∈ [s1.heap.objs.size], FpOk X pins H1 b := fun b hb => by
    cases List.mem_singleton.mp hb
    exact I1.fpOk (Nat.le_refl _) (I1.hok.fresh (Nat.le_refl _))
  rcases q with ⟨⟨xs, hq⟩, q⟩ | ⟨⟨xs, hq⟩, q⟩
  · obtain ⟨its, rv, p, hz⟩ := I1.list hq
    exact wpAny_pyIter_list p.isList ⟨s1.heap.objs.size, [s1.heap.objs.size], _, _, H1, rfl, I1.kept (t' := s1.toks) (fun b o e => Heap.get?_push_of_some _ e), turn_list a _, ⟨_, Heap.get?_push_size _ rfl, rfl, rfl⟩, fresh, q⟩
  · obtain ⟨its, rv, p, hz⟩ := I1.tuple hq
    exact wpAny_pyIter_tuple (show s1.heap.IsTuple a its.toArray from p) ⟨s1.heap.objs.size, [s1.heap.objs.size], _, _, H1, rfl, I1.kept (t' := s1.toks) (fun b o e => Heap.get?_push_of_some _ e), turn_tuple a _, ⟨_, Heap.get?_push_size _ rfl, rfl, rfl⟩, fresh, q⟩
variable {K : PySem.W.Frag}
theorem fol_l {H0 : Hp} {a : Addr} {items : List D} {G : DH → Prop} (q : ∀ h H, TX K H0 H → HR K H h → G h → ∃ vs, SqL K H a vs ∧ RVs K H items vs) : Fol K H0 (Itl K a) items G := fun i h H x hr g => by
  obtain ⟨vs, s, r⟩ := q h H x hr g
  refine ⟨fun hi => ⟨vs, s, by rw [← r.length]; exact hi⟩, fun d hd => ?_⟩
  obtain ⟨v, hv, rv⟩ := r.get hd
  refine ⟨⟨vs, v, s, hv⟩, fun y H' ⟨e, hy⟩ => ?_⟩
  subst e
  have e2 := hy vs s
  rw [hv] at e2
  cases e2
  exact ⟨TX.refl, hr, rv⟩
theorem fol_t {H0 : Hp} {a : Addr} {items : List D} {G : DH → Prop} (q : ∀ h H, TX K H0 H → HR K H h → G h → ∃ vs, SqT K H a vs ∧ RVs K H items vs) : Fol K H0 (Itt K a) items G := fun i h H x hr g => by
  obtain ⟨vs, s, r⟩ := q h H x hr g
  refine ⟨fun hi => ⟨vs, s, by rw [← r.length]; exact hi⟩, fun d hd => ?_⟩
  obtain ⟨v, hv, rv⟩ := r.get hd
  refine ⟨⟨vs, v, s, hv⟩, fun y H' ⟨e, hy⟩ => ?_⟩
  subst e
  have e2 := hy vs s
  rw [hv] at e2
  cases e2
  exact ⟨TX.refl, hr, rv⟩
theorem xi_seq {e : Expr} {te : TE} {de : DE} (he : XE X K e te de) (hK : X.K = K := by rfl) : XI X K tg e (iSeq K te) (diSeq de) := ⟨by subst hK; exact pi_seq he.p, fun τ σ h H R R0 rs hr bw w => he.l τ σ h H _ _ rs hr (fun d h1 v H1 x1 r1 hr1 w1 => by
  cases d with
  | tup ds =>
    obtain ⟨a, vs, e1, s, q⟩ := rv_tup r1
    exact ⟨a, e1, .inr ⟨⟨vs, .inl (.inl s)⟩, bw ds _ h1 H1 _ x1 hr1 w1 (fol_t fun h H x _ _ => ⟨vs, .inl (.inl (x.1 _ _ s)), RVs.mono x _ _ q⟩)⟩⟩
  | ktp ds =>
    obtain ⟨a, vs, e1, s, q⟩ := rv_ktp r1
    exact ⟨a, e1, .inr ⟨⟨vs, s.t⟩, bw ds _ h1 H1 _ x1 hr1 w1 (fol_t fun h H x _ _ => ⟨vs, s.t, RVs.mono x _ _ q⟩)⟩⟩
  | fls ds =>
    obtain ⟨a, vs, e1, s, q⟩ := rv_fls r1
    exact ⟨a, e1, .inl ⟨⟨vs, s.l⟩, bw ds _ h1 H1 _ x1 hr1 w1 (fol_l fun h H x _ _ => ⟨vs, (x.2 _ _ s).l, RVs.mono x _ _ q⟩)⟩⟩
  | loc a =>
    have w1 : (match lstO (h1 a) with | some xs => R xs (fun h => h a = some (.lst xs)) h1 | none => False) := w1
    cases z : lstO (h1 a) with
    | none => rw [z] at w1; exact w1.elim
    | some xs =>
      rw [z] at w1
      obtain ⟨vs, s, q⟩ := hr1 _ _ (lstO_of z)
      refine ⟨a, rv_loc r1, .inl ⟨⟨vs, .inl (.inl s)⟩, bw xs _ h1 H1 _ x1 hr1 w1 (fol_l fun h H x hr g => ?_)⟩⟩
      obtain ⟨vs', s', q'⟩ := hr _ _ g
      exact ⟨vs', .inl (.inl s'), q'⟩
  | _ => exact w1.elim) w⟩
def rangeD (lo : Int) (n : Nat) : List D := (List.range n).map fun (i : Nat) => D.int (lo + (i : Int))
theorem fol_r {H0 : Hp} {lo : Int} {n : Nat} {G : DH → Prop} : Fol K H0 (Itr lo n) (rangeD lo n) G := fun i h H x hr g => by
  unfold rangeD
  refine ⟨fun hi => (by simpa using hi : n ≤ i), fun d hd => ?_⟩
  have hd' := hd
  rw [List.getElem?_map] at hd'
  cases z : (List.range n)[i]? with
  | none => rw [z] at hd'; cases hd'
  | some j =>
    rw [z] at hd'
    have e1 : D.int (lo + (j : Int)) = d := Option.some.inj hd'
    have hj : i < n ∧ j = i := by
      obtain ⟨hl, e⟩ := List.getElem?_eq_some_iff.mp z
      rw [List.length_range] at hl
      exact ⟨hl, by rw [← e, List.getElem_range]⟩
    refine ⟨hj.1, fun y H' ⟨e, hy⟩ => ?_⟩
    subst e hy
    rw [← e1, hj.2]
    exact ⟨TX.refl, hr, rv_int'⟩
def diRng1 (a : DA) : DI := fun τ h R => a τ h fun ds h1 => match ds with
  | [.int j] => (-(2 ^ 62) ≤ j ∧ j < 2 ^ 62) ∧ R (rangeD 0 j.toNat) (fun _ => True) h1
  | _ => False
def diRng2 (a : DA) : DI := fun τ h R => a τ h fun ds h1 => match ds with
  | [.int i, .int j] => (-(2 ^ 62) ≤ i ∧ i < 2 ^ 62 ∧ -(2 ^ 62) ≤ j ∧ j < 2 ^ 62) ∧ R (rangeD i (j - i).toNat) (fun _ => True) h1
  | _ => False
theorem xi_rng1 {a : Expr} {ta : TA} {da : DA} {p pos : Pos} (hm : X.mg "range" = none) (ha : XA X K [a] ta da) (hg : Gl X "range" := by rfl) (hs : starEach [a] X.env = [(false, eval a X.env)] := by rfl) : XI X K tg (.Call (.Name "range" p) [a] [] pos) (iRng1 ta) (diRng1 da) :=
  ⟨pi_range1 hg hm ha.p hs, fun τ σ h H R R0 rs hr bw w => ha.l τ σ h H _ _ rs hr (fun ds h1 vs H1 x1 r1 hr1 w1 => by
    match ds, w1, r1 with
    | [.int j], w1, r1 =>
      obtain ⟨u1, us1, e1, q1, r2⟩ := rvs_cons r1
      have e2 := rvs_nil r2
      have e3 := rv_int q1
      subst e3 e2 e1
      exact ⟨j, rfl, w1.1.1, w1.1.2, bw _ _ h1 H1 _ x1 hr1 w1.2 fol_r⟩) w⟩
theorem xi_rng2 {a b : Expr} {ta : TA} {da : DA} {p pos : Pos} (hm : X.mg "range" = none) (ha : XA X K [a, b] ta da) (hg : Gl X "range" := by rfl) (hs : starEach [a, b] X.env = [(false, eval a X.env), (false, eval b X.env)] := by rfl) (hs2 : starEach [b] X.env = [(false, eval b X.env)] := by rfl) : XI X K tg (.Call (.Name "range" p) [a, b] [] pos) (iRng2 ta) (diRng2 da) :=
  ⟨pi_range2 hg hm ha.p hs hs2, fun τ σ h H R R0 rs hr bw w => ha.l τ σ h H _ _ rs hr (fun ds h1 vs H1 x1 r1 hr1 w1 => by
    match ds, w1, r1 with
    | [.int i, .int j], w1, r1 =>
      obtain ⟨u1, us1, e1, q1, r2⟩ := rvs_cons r1
      obtain ⟨u2, us2, e2, q2, r3⟩ := rvs_cons r2
      have e4 := rvs_nil r3
      have e3 := rv_int q1
      have e5 := rv_int q2
      subst e3 e5 e4 e2 e1
      exact ⟨i, j, rfl, w1.1, bw _ _ h1 H1 _ x1 hr1 w1.2 fol_r⟩) w⟩
end

/-! ### for -/
def dLoop (G : DH → Prop) (g : DTG) (tb : DS) (N : DEnds) : List D → DSt → DH → Prop
  | [], τ, h => G h ∧ N.nx τ h
  | d :: ds, τ, h => G h ∧ g d τ h fun τ1 h1 => tb { N with nx := dLoop G g tb N ds, ct := dLoop G g tb N ds, bk := N.nx } τ1 h1
def dFor (di : DI) (g : DTG) (tb : DS) : DS := fun D τ h => di τ h fun items G h1 => dLoop G g tb D items τ h1
section
variable {X : Cx} {K : PySem.W.Frag}
theorem loop_G {G : DH → Prop} {g : DTG} {tb : DS} {N : DEnds} {items : List D} {τ : DSt} {h : DH} (w : dLoop G g tb N items τ h) : G h := by
  cases items with
  | nil => exact w.1
  | cons d ds => exact w.1
theorem ls_for {w0 : TI} {di : DI} {g0 : TG} {g : DTG} {t0 : TS} {t : DS} (li : LI K w0 di) (lg : LG K g0 g) (lb : LS K t0 t) : LS K (tFor w0 g0 t0) (dFor di g t) := fun τ σ h H D D0 rs hr bw w =>
  li τ σ h H _ _ rs hr (fun items G h1 H1 J x1 hr1 w1 fol => by
    refine ⟨fun i m σ' H' => ∃ τ' h', m = items.length - i ∧ i ≤ items.length ∧ TX K H1 H' ∧ RS K H' τ' σ' ∧ HR K H' h' ∧ dLoop G g t D (items.drop i) τ' h', ⟨items.length, τ, h1, rfl, Nat.zero_le _, TX.refl, rs.mono x1, hr1, by rw [List.drop_zero]; exact w1⟩, ?_⟩
    rintro i m σ' H' ⟨τ', h', rfl, hi, x2, rs2, hr2, w2⟩
    obtain ⟨f1, f2⟩ := fol i h' H' x2 hr2 (loop_G w2)
    by_cases hlt : i < items.length
    · obtain ⟨d, hd⟩ : ∃ d, items[i]? = some d := ⟨items[i], List.getElem?_eq_getElem hlt⟩
      obtain ⟨go, f3⟩ := f2 d hd
      have hdrop : items.drop i = d :: items.drop (i + 1) := by
        rw [List.drop_eq_getElem_cons hlt]
        rw [List.getElem?_eq_getElem hlt] at hd
        rw [Option.some.inj hd]
      rw [hdrop] at w2
      refine .inr ⟨go, fun σ3 H3 => ∃ τ3 h3, TX K H1 H3 ∧ RS K H3 τ3 σ3 ∧ HR K H3 h3 ∧ dLoop G g t D (items.drop (i + 1)) τ3 h3, fun σ3 H3 ⟨τ3, h3, a1, a2, a3, a4⟩ => ⟨items.length - (i + 1), by omega, τ3, h3, rfl, hlt, a1, a2, a3, a4⟩, fun x H3 y3 => ?_⟩
      obtain ⟨x3, hr3, r3⟩ := f3 x H3 y3
      have bwx := bw.mono (x1.trans (x2.trans x3))
      refine lg d x τ' σ' h' H3 _ _ r3 (rs2.mono x3) hr3 (fun τ4 σ4 h4 H4 x4 rs4 hr4 w4 => ?_) w2.2
      refine lb τ4 σ4 h4 H4 { D with nx := dLoop G g t D (items.drop (i + 1)), ct := dLoop G g t D (items.drop (i + 1)), bk := D.nx } _ rs4 hr4 ⟨fun a b c e t1 q1 q2 q3 => ⟨a, c, (x2.trans x3).trans (x4.trans t1), q1, q2, q3⟩, (bwx.mono x4).rt, fun a b c e t1 q1 q2 q3 => (bwx.mono x4).nx a b c e t1 q1 q2 q3, fun a b c e t1 q1 q2 q3 => ⟨a, c, (x2.trans x3).trans (x4.trans t1), q1, q2, q3⟩⟩ w4
    · have e : i = items.length := by omega
      subst e
      rw [List.drop_length] at w2
      exact .inl ⟨f1 (Nat.le_refl _), bw.nx τ' σ' h' H' (x1.trans x2) rs2 hr2 w2.2⟩) w
theorem xs_for {tg iter : Expr} {body : List Stmt} {w0 : TI} {di : DI} {g0 : TG} {g : DTG} {t0 : TS} {t : DS} {pos : Pos} (hp : PassesOwn (model X.prog X.w) X.A X.env X.xe) (hc : X.calm = true) (hi : XI X K tg iter w0 di) (hg : XG X K tg g0 g) (hb : XSs X K body t0 t)
    (hs : ∀ x, foldedSetIterable iter X.env x = pure x := by intro _; rfl) : XS X K (.For tg iter body [] pos) (tFor w0 g0 t0) (dFor di g t) := ⟨ps_for hp hc hi.p hg.p hb.p hs, ls_for hi.l hg.l hb.l⟩

/-! ### while -/
def dWh (c : DT) (t : DS) (D : DEnds) : Nat → DSt → DH → Prop
  | 0, _, _ => False
  | n + 1, τ, h => c τ h fun b h1 => kIte b (t { D with nx := dWh c t D n, ct := dWh c t D n, bk := D.nx } τ h1) (D.nx τ h1)
def dWhile (c : DT) (t : DS) : DS := fun D τ h => ∃ n, dWh c t D n τ h
theorem ls_while {c0 : TT} {c : DT} {t0 : TS} {t : DS} (lc : LT K c0 c) (lb : LS K t0 t) : LS K (tWhile c0 t0) (dWhile c t) := fun τ σ h H D D0 rs hr bw ⟨n, w⟩ => by
  refine ⟨fun m σ' H' => ∃ τ' h', TX K H H' ∧ RS K H' τ' σ' ∧ HR K H' h' ∧ dWh c t D m τ' h', ⟨n, τ, h, TX.refl, rs, hr, w⟩, ?_⟩
  rintro m σ' H' ⟨τ', h', x1, rs1, hr1, w1⟩
  cases m with
  | zero => exact w1.elim
  | succ m =>
    refine lc τ' σ' h' H' _ _ rs1 hr1 (fun b h2 H2 x2 hr2 w2 => ?_) w1
    cases b with
    | true =>
      have w2 := kt w2
      refine ⟨fun σ3 H3 => ∃ τ3 h3, TX K H H3 ∧ RS K H3 τ3 σ3 ∧ HR K H3 h3 ∧ dWh c t D m τ3 h3, fun σ3 H3 q => ⟨m, Nat.lt_succ_self _, q⟩, ?_⟩
      have bwx := bw.mono (x1.trans x2)
      exact lb τ' σ' h2 H2 { D with nx := dWh c t D m, ct := dWh c t D m, bk := D.nx } _ (rs1.mono x2) hr2 ⟨fun a b c e t1 q1 q2 q3 => ⟨a, c, (x1.trans x2).trans t1, q1, q2, q3⟩, bwx.rt, fun a b c e t1 q1 q2 q3 => bwx.nx a b c e t1 q1 q2 q3, fun a b c e t1 q1 q2 q3 => ⟨a, c, (x1.trans x2).trans t1, q1, q2, q3⟩⟩ w2
    | false => have w2 := kf w2; exact bw.nx τ' σ' h2 H2 (x1.trans x2) (rs1.mono x2) hr2 w2
theorem xs_while {c : Expr} {body : List Stmt} {c0 : TT} {dc : DT} {t0 : TS} {t : DS} {pos : Pos} (hp : PassesOwn (model X.prog X.w) X.A X.env X.xe) (hc : XT X K c c0 dc) (hb : XSs X K body t0 t) : XS X K (.While c body [] pos) (tWhile c0 t0) (dWhile dc t) := ⟨ps_while hp hc.p hb.p, ls_while hc.l hb.l⟩
end

/-! ### comprehensions -/
def wipeD (τ : DSt) : List Nat → DSt
  | [] => τ
  | v :: vs => (wipeD τ vs).set v none
theorem rs_wipe {K : PySem.W.Frag} {H : Hp} {τ : DSt} {σ : L2.St} (r : RS K H τ σ) : ∀ vs, RS K H (wipeD τ vs) (wipe σ vs)
  | [] => r
  | v :: vs => (rs_wipe r vs).unset v
theorem wipe_get (σ : L2.St) (i : Nat) : ∀ vs : List Nat, (wipe σ vs)[i]? = if i ∈ vs then (σ[i]?).map fun _ => none else σ[i]?
  | [] => by simp [wipe]
  | v :: vs => by
    unfold wipe
    by_cases e : v = i
    · subst e
      rw [List.getElem?_set_self', wipe_get σ v vs]
      by_cases q : v ∈ vs <;> simp [q] <;> cases σ[v]? <;> rfl
    · rw [List.getElem?_set_ne e, wipe_get σ i vs]
      have e' : ¬ i = v := fun z => e z.symm
      simp [e']
theorem wipe_set {σ : L2.St} {i : Nat} {o : Option V} {vs : List Nat} (hi : i ∈ vs) : wipe (σ.set i o) vs = wipe σ vs := by
  refine List.ext_getElem? fun j => ?_
  rw [wipe_get, wipe_get]
  by_cases e : i = j
  · subst e
    rw [if_pos hi, if_pos hi, List.getElem?_set_self']
    cases σ[i]? <;> rfl
  · rw [List.getElem?_set_ne e]
theorem wipe_wipe (σ : L2.St) (vs : List Nat) : wipe (wipe σ vs) vs = wipe σ vs := by
  refine List.ext_getElem? fun j => ?_
  rw [wipe_get, wipe_get]
  by_cases e : j ∈ vs
  · rw [if_pos e, if_pos e]; cases σ[j]? <;> rfl
  · rw [if_neg e, if_neg e]
def Own (vs : List Nat) (g0 : TG) : Prop := ∀ v σ H Q, g0 v σ H Q → g0 v σ H fun σ' H' => wipe σ' vs = wipe σ vs ∧ Q σ' H'
def Owns (vs : List Nat) (g0 : TGs) : Prop := ∀ v σ H Q, g0 v σ H Q → g0 v σ H fun σ' H' => wipe σ' vs = wipe σ vs ∧ Q σ' H'
theorem own_name {vs : List Nat} {i : Nat} (hi : i ∈ vs) : Own vs (gName i) := fun v σ H Q w => ⟨wipe_set hi, w⟩
theorem own_nil {vs : List Nat} : Owns vs gNil := fun v σ H Q w => ⟨w.1, rfl, w.2⟩
theorem own_cons {vs : List Nat} {g : TG} {r : TGs} (h1 : Own vs g) (h2 : Owns vs r) (mono : ∀ v σ H (Q Q' : L2.St → Hp → Prop), (∀ s h, Q s h → Q' s h) → g v σ H Q → g v σ H Q') : Owns vs (gCons g r) := fun v σ H Q ⟨x, xs, e, w⟩ =>
  ⟨x, xs, e, mono _ _ _ _ _ (fun s h ⟨e1, q⟩ => by
    have q2 := h2 _ _ _ _ q
    exact (by
      have : (fun σ' H' => wipe σ' vs = wipe s vs ∧ Q σ' H') = (fun σ' H' => wipe σ' vs = wipe σ vs ∧ Q σ' H') := by rw [e1]
      rw [this] at q2; exact q2)) (h1 _ _ _ _ w)⟩
theorem own_tup {vs : List Nat} {K : PySem.W.Frag} {n : Nat} {r : TGs} (h : Owns vs r) : Own vs (gTup K n r) := fun v σ H Q ⟨a, xs, e, s, l, w⟩ => ⟨a, xs, e, s, l, h _ _ _ _ w⟩
theorem mono_name {i : Nat} : ∀ v σ H (Q Q' : L2.St → Hp → Prop), (∀ s h, Q s h → Q' s h) → gName i v σ H Q → gName i v σ H Q' := fun _ _ _ _ _ k w => k _ _ w

structure XTs (X : Cx) (K : PySem.W.Frag) (cs : List Expr) (t0 : TT) (t : DT) : Prop where
  p : PTs X cs t0
  l : LT K t0 t
def dYes : DT := fun _ h Q => Q true h
theorem xts_nil {X : Cx} {K : PySem.W.Frag} : XTs X K [] tYes dYes := ⟨pts_nil, fun τ σ h H Q Q0 rs hr bw w => bw true h H TX.refl hr w⟩
theorem xts_one {X : Cx} {K : PySem.W.Frag} {c : Expr} {t : TT} {d : DT} (h : XT X K c t d) : XTs X K [c] t d := ⟨pts_one h.p, h.l⟩

def dLcGo (G : DH → Prop) (g : DTG) (tt : DT) (te : DE) (p : Addr) (τ : DSt) (Q : DK) : List D → DH → Prop
  | [], h => G h ∧ Q (.loc p) h
  | d :: ds, h => G h ∧ g d τ h fun τ2 h2 => tt τ2 h2 fun b h3 => kIte b (te τ2 h3 fun y h4 => (match lstO (h4 p) with
      | some acc => acc.length < sizeLine ∧ dLcGo G g tt te p τ Q ds (hupd h4 p (.lst (acc ++ [y])))
      | none => False)) (dLcGo G g tt te p τ Q ds h3)
def dLc (di : DI) (g : DTG) (tt : DT) (te : DE) (vs : List Nat) : DE := fun τ h Q => di τ h fun items G h1 => ∀ p, h1 p = none → dLcGo G g tt te p (wipeD τ vs) Q items (hupd h1 p (.lst []))
section
variable {X : Cx} {K : PySem.W.Frag}
theorem lc_G {G : DH → Prop} {g : DTG} {tt : DT} {te : DE} {p : Addr} {τ : DSt} {Q : DK} {items : List D} {h : DH} (w : dLcGo G g tt te p τ Q items h) : G h := by
  cases items with
  | nil => exact w.1
  | cons d ds => exact w.1
theorem le_lc {w0 : TI} {di : DI} {g0 : TG} {g : DTG} {t0 : TT} {tt : DT} {e0 : TE} {te : DE} {vs : List Nat} (li : LI K w0 di) (lg : LG K g0 g) (own : Own vs g0) (lt : LT K t0 tt) (le : LE K e0 te) : LE K (tLc w0 g0 t0 e0 vs) (dLc di g tt te vs) := fun τ σ h H Q Q0 rs hr bw w =>
  li τ σ h H _ _ rs hr (fun items G h1 H1 J x1 hr1 w1 fol D hD => by
    have xD : TX K H1 (upd H1 D (.lst [])) := tx_new hD
    have w1 := w1 D (hr1.free hD)
    refine ⟨fun i m H' => ∃ h', m = items.length - i ∧ i ≤ items.length ∧ TX K H1 H' ∧ HR K H' h' ∧ dLcGo G g tt te D (wipeD τ vs) Q (items.drop i) h', ⟨items.length, _, rfl, Nat.zero_le _, xD, hr1.put xD (ro_lst xD rvs_nil'), by rw [List.drop_zero]; exact w1⟩, ?_⟩
    rintro i m H' ⟨h', rfl, hi, x2, hr2, w2⟩
    obtain ⟨f1, f2⟩ := fol i h' H' x2 hr2 (lc_G w2)
    by_cases hlt : i < items.length
    · obtain ⟨d, hd⟩ : ∃ d, items[i]? = some d := ⟨items[i], List.getElem?_eq_getElem hlt⟩
      obtain ⟨go, f3⟩ := f2 d hd
      have hdrop : items.drop i = d :: items.drop (i + 1) := by
        rw [List.drop_eq_getElem_cons hlt]
        rw [List.getElem?_eq_getElem hlt] at hd
        rw [Option.some.inj hd]
      rw [hdrop] at w2
      refine .inr ⟨go, fun H3 => ∃ h3, TX K H1 H3 ∧ HR K H3 h3 ∧ dLcGo G g tt te D (wipeD τ vs) Q (items.drop (i + 1)) h3, fun H3 ⟨h3, a1, a2, a3⟩ => ⟨items.length - (i + 1), by omega, h3, rfl, hlt, a1, a2, a3⟩, fun x H3 y3 => ?_⟩
      obtain ⟨x3, hr3, r3⟩ := f3 x H3 y3
      have q := own x (wipe σ vs) H3 _ (lg d x (wipeD τ vs) (wipe σ vs) h' H3 _ (fun σ4 H4 => t0 σ4 H4 fun b H5 => if b = true then e0 σ4 H5 fun y H6 => ∃ acc, H6 D = some (.lst acc) ∧ acc.length < sizeLine ∧ (fun H3 => ∃ h3, TX K H1 H3 ∧ HR K H3 h3 ∧ dLcGo G g tt te D (wipeD τ vs) Q (items.drop (i + 1)) h3) (upd H6 D (.lst (acc ++ [y]))) else (fun H3 => ∃ h3, TX K H1 H3 ∧ HR K H3 h3 ∧ dLcGo G g tt te D (wipeD τ vs) Q (items.drop (i + 1)) h3) H5) r3 ((rs_wipe (rs.mono (x1.trans (x2.trans x3))) vs)) hr3 (fun τ4 σ4 h4 H4 x4 rs4 hr4 w4 => ?_) w2.2)
      · rw [wipe_wipe] at q
        exact q
      · refine lt τ4 σ4 h4 H4 _ _ rs4 hr4 (fun b h5 H5 x5 hr5 w5 => ?_) w4
        cases b with
        | false => have w5 := kf w5; exact ⟨h5, (x2.trans x3).trans (x4.trans x5), hr5, w5⟩
        | true =>
          have w5 := kt w5
          refine le τ4 σ4 h5 H5 _ _ (rs4.mono x5) hr5 (fun y h6 v H6 x6 r6 hr6 w6 => ?_) w5
          have w6 : (match lstO (h6 D) with | some acc => acc.length < sizeLine ∧ dLcGo G g tt te D (wipeD τ vs) Q (items.drop (i + 1)) (hupd h6 D (.lst (acc ++ [y]))) | none => False) := w6
          cases z : lstO (h6 D) with
          | none => rw [z] at w6; exact w6.elim
          | some acc =>
            rw [z] at w6
            obtain ⟨us, s, q⟩ := hr6 _ _ (lstO_of z)
            have x7 := tx_lst (K := K) (o := .lst (us ++ [v])) s
            exact ⟨us, s, by rw [← q.length]; exact w6.1, _, (x2.trans x3).trans (x4.trans (x5.trans (x6.trans x7))), hr6.put x7 (ro_lst x7 (q.append (rvs_cons' r6 rvs_nil'))), w6.2⟩
    · have e : i = items.length := by omega
      subst e
      rw [List.drop_length] at w2
      exact .inl ⟨f1 (Nat.le_refl _), bw _ h' _ H' (x1.trans x2) rv_loc' hr2 w2.2⟩) w
abbrev Blks (X : Cx) (scope : Scope) (P : Cx → Prop) : Prop := ∀ (s : Shared) (H : Hp) (C : Addr) (cl : List (Str × Addr)) (fp : List Addr), P (X.blk s H scope (compEnvC scope cl C X.env) fp)
theorem blk_any {scope : Scope} {Q : Prop} (f : ∀ (s : Shared) (H : Hp) (C : Addr) (cl : List (Str × Addr)) (fp : List Addr), Q) (s : Shared) : Q := f s (fun _ => none) 0 [] []
theorem xlc {elt tg iter : Expr} {ifs : List Expr} {scope : Scope} {own : List (Str × Nat)} {pos : Pos} {w0 : TI} {di : DI} {g0 : TG} {g : DTG} {t0 : TT} {tt : DT} {e0 : TE} {te : DE} (hc : X.calm = true) (hN : X.N.Nodup) (hi : XI X K tg iter w0 di) (ok : BlkOk X.N X.env.scope scope own)
    (hg : ∀ (s : Shared) (H : Hp) (C : Addr) (cl : List (Str × Addr)) (fp : List Addr), XG (X.blk s H scope (compEnvC scope cl C X.env) fp) K tg g0 g) (ho : Own (own.map (·.2)) g0) (ht : ∀ (s : Shared) (H : Hp) (C : Addr) (cl : List (Str × Addr)) (fp : List Addr), XTs (X.blk s H scope (compEnvC scope cl C X.env) fp) K ifs t0 tt) (he : ∀ (s : Shared) (H : Hp) (C : Addr) (cl : List (Str × Addr)) (fp : List Addr), XE (X.blk s H scope (compEnvC scope cl C X.env) fp) K elt e0 te) (hs : ∀ x, foldedSetIterable iter X.env x = pure x := by intro _; rfl) :
    XE X K (.ListComp elt [⟨tg, iter, ifs, 0⟩] scope pos) (tLc w0 g0 t0 e0 (own.map (·.2))) (dLc di g tt te (own.map (·.2))) :=
  ⟨pe_lc hc hN hi.p ok (fun s H C cl fp => (hg s H C cl fp).p) (fun s H C cl fp => (ht s H C cl fp).p) (fun s H C cl fp => (he s H C cl fp).p) hs,
   le_lc hi.l (hg X.s_0 X.H_0 0 [] []).l ho (ht X.s_0 X.H_0 0 [] []).l (he X.s_0 X.H_0 0 [] []).l⟩
theorem xs_setLc {i : Nat} {y : Str} {py : Pos} {elt tg iter : Expr} {ifs : List Expr} {scope : Scope} {own : List (Str × Nat)} {pos spos : Pos} {w0 : TI} {di : DI} {g0 : TG} {g : DTG} {t0 : TT} {tt : DT} {e0 : TE} {te : DE} (hc : X.calm = true) (hN : X.N.Nodup)
    (hi : XI X K tg iter w0 di) (ok : BlkOk X.N X.env.scope scope own) (hg : ∀ (s : Shared) (H : Hp) (C : Addr) (cl : List (Str × Addr)) (fp : List Addr), XG (X.blk s H scope (compEnvC scope cl C X.env) fp) K tg g0 g) (ho : Own (own.map (·.2)) g0) (ht : ∀ (s : Shared) (H : Hp) (C : Addr) (cl : List (Str × Addr)) (fp : List Addr), XTs (X.blk s H scope (compEnvC scope cl C X.env) fp) K ifs t0 tt) (he : ∀ (s : Shared) (H : Hp) (C : Addr) (cl : List (Str × Addr)) (fp : List Addr), XE (X.blk s H scope (compEnvC scope cl C X.env) fp) K elt e0 te)
    (hy : X.N[i]? = some y := by rfl) (hyl : X.env.scope.names.lookup y = some .local := by rfl)
    (hsw : swapsWith (.ListComp elt [⟨tg, iter, ifs, 0⟩] scope pos) (some (.Name y py)) spos.line X.env = pure true := by exact sw_true rfl rfl rfl (by decide +kernel)) (hs : ∀ x, foldedSetIterable iter X.env x = pure x := by intro _; rfl) :
    XS X K (.Assign [.Name y py] (.ListComp elt [⟨tg, iter, ifs, 0⟩] scope pos) spos) (tAsg (tLc w0 g0 t0 e0 (own.map (·.2))) (gName i)) (dAsg (dLc di g tt te (own.map (·.2))) (gdName i)) :=
  ⟨ps_setLc hc hN hy hyl hsw hi.p ok (fun s H C cl fp => (hg s H C cl fp).p) (fun s H C cl fp => (ht s H C cl fp).p) (fun s H C cl fp => (he s H C cl fp).p) hs,
   ls_asg (le_lc hi.l (hg X.s_0 X.H_0 0 [] []).l ho (ht X.s_0 X.H_0 0 [] []).l (he X.s_0 X.H_0 0 [] []).l) (lg_name i)⟩
end
end DL

set_option Elab.async false
set_option linter.all false
set_option maxRecDepth 100000
/-! DL6: defs, calls, built-in functions. -/
namespace DL
open PySem PySem.Spec PyProof.Rows L2

/-! ### room, with nothing being shown -/
structure RoomG (k : Nat) (A : Around) : Prop where
  r : Room k A
  g : A.guards = some []
theorem RoomG.mono {j k : Nat} {A : Around} (r : RoomG k A) (h : j ≤ k) : RoomG j A := ⟨r.r.mono h, r.g⟩
theorem RoomG.hu {k : Nat} {A : Around} (r : RoomG k A) : A.units + 64 < cLine := r.r.units
theorem RoomG.hu1 {k : Nat} {A : Around} (r : RoomG k A) : A.units + 1 < cLine := by have := r.r.units; omega
structure FnG (P : Program) (w : World) (K : PySem.W.Frag) (mg : Str → Option Value) (base : Heap) (CX : CXT) (k : Nat) (f : Addr) (fd : FuncData) (ps : List Str) (sp : Sp) : Prop where
  len : ∀ vs H Q E, sp vs H Q E → vs.length = ps.length
  run : ∀ (A : Around) (outer : List Env) (s : Shared) (H : Hp) (args : Args) (us : List Value) (vs : List V) (Q : VK) (E : XK), RoomG k A → Env0 P w K mg base A outer s H → BindsTo s fd args (ps.zip us) → Vals vs us → sp vs H Q E →
    codeAny (model P w) A (.call (.ref f) args) (CR CX outer P w H s Q E) s
section
variable {P : Program} {w : World} {K : PySem.W.Frag} {mg : Str → Option Value} {base : Heap} {CX : CXT}
theorem FnG.mono {j k : Nat} {f : Addr} {fd : FuncData} {ps : List Str} {sp : Sp} (F : FnG P w K mg base CX j f fd ps sp) (h : j ≤ k) : FnG P w K mg base CX k f fd ps sp :=
  ⟨F.len, fun A outer s H args us vs Q E hr => F.run A outer s H args us vs Q E (hr.mono h)⟩

/-- what a body's run leaves, for the caller -/
theorem body_end {N : List Str} {qual : Str} {scope : Scope} {f : Addr} {cdv : Value} {A : Around} {outer : List Env} {s s' : Shared} {H : Hp} {Q : VK} {E : XK} {fl : Flow}
    (q : SP (cxOf CX P w K mg base N qual scope f cdv A outer s H E) [] { nx := fun _ H' => Q .non H', rt := Q } fl s') :
    match fl with
    | .ret u => CE outer P w H s Q u s'
    | .next => CE outer P w H s Q .none s'
    | _ => False := by
  cases fl with
  | ret u =>
    obtain ⟨v, _, H', J, rv, q⟩ := q
    exact ⟨v, H', J.os, J.bare, J.base, J.hok, rv, q⟩
  | next =>
    obtain ⟨_, H', J, q⟩ := q
    exact ⟨V.non, H', J.os, J.bare, J.base, J.hok, rfl, q⟩
  | brk => obtain ⟨_, _, _, q⟩ := q; exact q
  | cont => obtain ⟨_, _, _, q⟩ := q; exact q
theorem Fun.okG {x qual : Str} {st : Stmt} {f : Addr} {fd : FuncData} {N ps : List Str} {k : Nat} {sp : Sp} (F : Fun K x qual st f fd) (S : FnScope N ps (defScope st)) (len : ∀ vs H Q E, sp vs H Q E → vs.length = ps.length)
    (hbody : ∀ (cdv : Value) (A : Around) (outer : List Env) (s : Shared) (H : Hp) (vs : List V) (Q : VK) (E : XK), RoomG k (A.deeper (envOfC qual (defScope st) s.heap.objs.size f cdv)) → sp vs H Q E →
      ∃ t, PSs (cxOf CX P w K mg base N qual (defScope st) f cdv A outer s H E) (defBody st) t ∧ t { nx := fun _ H' => Q .non H', rt := Q } (L2.start N vs) H) : FnG P w K mg base CX (k + 1) f fd ps sp := by
  obtain ⟨oc, od, kV, doc, pm, an, cdv, ct, osl, e, lk, hcd⟩ := F.ex
  subst e
  refine ⟨len, fun A outer s H args us vs Q E hr e0 hb r hsp => ?_⟩
  have there : ∀ b o, base.get? b = some o → s.heap.get? b = some o := fun b o q => (e0.bs b o q).1
  have KX : K.In s.heap := e0.mod.kin.keeps there
  have lens := len vs H Q E hsp
  refine codeAny_call_function hr.r.depth (KX _ _ lk) rfl S.co S.gen rfl (PySem.W.codeRec_of KX hcd) (hb _ _ _ _ (wpAny_newFunctionEnv_cells S.kind (fun y hy => ?_) fun env he s1 x1 => ?_))
  · cases S.par y.1 (List.of_mem_zip hy).1 with
    | inl q => exact .inl q
    | inr q => exact .inr ⟨q, PySem.W.cellsFrom_some _ _ _ (.inl q)⟩
  · subst he
    obtain ⟨t, ht, hq⟩ := hbody cdv A outer s H vs Q E ⟨hr.r.deeper _, hr.g⟩ hsp
    refine ⟨(e0.mod.nolimit.keeps there).keeps x1.toInCall.keep, codeAny_func (wpAny_mono (ht.run [] s1 (L2.start N vs) H _ (inv_start S hr.r.hd e0 lens r x1) hq) (fun fl s' hs => ?_) fun _ _ hs => hs)⟩
    have q := body_end hs
    cases fl with
    | ret u => exact q
    | next => exact q
    | brk => exact (show False from q).elim
    | cont => exact (show False from q).elim
end

section
variable {X : Cx} {K : PySem.W.Frag} {CX : CXT} {k : Nat} {f : Addr} {fd : FuncData} {ps : List Str} {sp : Sp} {dvs : List V} {ds : List Value} {E : XK} {x : Str} {p pos : Pos} {e : Expr} {es : List Expr} {ta : TA}
theorem runG {pins : List (Addr × Obj)} {σ : L2.St} {H : Hp} {s : Shared} {Q : VK} {us : List Value} {vs : List V} (F : FnG X.prog X.w X.K X.mg X.base CX k f fd ps sp) (hr : RoomG k X.A) (hb : Binds X.K fd ps ds) (hd : Vals dvs ds) (hx : Passes CX X E)
    (I : Inv X pins σ H s) (r : Vals vs us) (h : sp (vs ++ dvs) H Q E) : wpAny (model X.prog X.w) X.A (call (.ref f) us) (EP X pins σ Q) X.xe s := by
  have all : Vals (vs ++ dvs) (us ++ ds) := r.append hd
  have lens : (us ++ ds).length = ps.length := all.length.symm.trans (F.len _ _ _ _ h)
  refine wpAny_call (codeAny_mono (F.run X.A X.stack s H ⟨us, []⟩ _ _ Q E hr I.env0 (hb s us I.kIn lens) all h) fun res s' hq => ?_)
  match res, hq with
  | .error err, hq => exact hx pins σ H s err s' I hq
  | .ok (.ret u), hq => exact I.after hq
theorem peG_call (F : FnG X.prog X.w X.K X.mg X.base CX k f fd ps sp) (hr : RoomG k X.A) (hg : Gl X x) (hm : X.mg x = some (.ref f)) (hk : PySem.W.keepIn X.K (.ref f) = true) (hb : Binds X.K fd ps ds) (hd : Vals dvs ds) (hx : Passes CX X E)
    (ha : PA X (e :: es) ta) (hdb : (x == ("__debug__" : Str)) = false := by decide) (he : starEach (e :: es) X.env = (false, eval e X.env) :: starEach es X.env := by rfl) (hpl : (backTo pos (starEach es X.env)).any (·.1) = false := by rfl) :
    PE X (.Call (.Name x p) (e :: es) [] pos) (tCall sp dvs E ta) := ⟨fun pins s σ H Q I h => wpAny_Call_Name_kw (ld_glob I hg hm
      (PySem.W.callWith_K (h₀ := X.base) I.ok.mod.kin hk (thn (ha.run pos pins s σ H _ I h) fun us s1 ⟨vs, H1, I1, r, q⟩ => ⟨I1.kIn, runG F hr hb hd hx I1 r q⟩) he hpl) hdb)⟩
theorem peG_call0 (F : FnG X.prog X.w X.K X.mg X.base CX k f fd ps sp) (hr : RoomG k X.A) (hg : Gl X x) (hm : X.mg x = some (.ref f)) (hk : PySem.W.keepIn X.K (.ref f) = true) (hb : Binds X.K fd ps ds) (hd : Vals dvs ds) (hx : Passes CX X E)
    (hdb : (x == ("__debug__" : Str)) = false := by decide) : PE X (.Call (.Name x p) [] [] pos) (tCall sp dvs E tNil) := ⟨fun pins s σ H Q I h => wpAny_Call_Name_kw (ld_glob I hg hm (PySem.W.callWith_K0 I.kIn hk (runG (us := []) F hr hb hd hx I .nil h)) hdb)⟩
end

/-! ### a def over trees -/
def spD (K : PySem.W.Frag) (n : Nat) (f : DC) : Sp := fun vs H Q _ => vs.length = n ∧ ∃ ds h Qd, RVs K H ds vs ∧ HR K H h ∧ Bw K H Qd Q ∧ f ds h Qd
def runD (m : Nat) (b : DS) : DC := fun ds h Q => b { nx := fun _ h => Q .non h, rt := Q } (ds.map some ++ List.replicate (m - ds.length) none) h
def dCall (n : Nat) (f : DC) (a : DA) : DE := fun τ h Q => a τ h fun ds h1 => ds.length = n ∧ f ds h1 Q
section
variable {K : PySem.W.Frag}
theorem rs_start {H : Hp} {N : List Str} {ds : List D} {vs : List V} (r : RVs K H ds vs) : RS K H (ds.map some ++ List.replicate (N.length - ds.length) none) (L2.start N vs) := by
  unfold L2.start
  have hl := r.length
  refine ⟨by simp [hl], fun i d e => ?_⟩
  by_cases hi : i < ds.length
  · rw [List.getElem?_append_left (by simpa using hi), List.getElem?_map] at e
    cases z : ds[i]? with
    | none => rw [z] at e; cases e
    | some d0 =>
      rw [z] at e
      cases e
      obtain ⟨v, h1, h2⟩ := r.get z
      exact ⟨v, by rw [List.getElem?_append_left (by simpa [← hl] using hi), List.getElem?_map, h1]; rfl, h2⟩
  · rw [List.getElem?_append_right (by simpa using hi), List.getElem?_replicate] at e
    split at e <;> cases e
theorem le_call {n : Nat} {f : DC} {ta : TA} {da : DA} {E : XK} (la : LA K ta da) : LE K (tCall (spD K n f) [] E ta) (dCall n f da) := fun τ σ h H Q Q0 rs hr bw w =>
  la τ σ h H _ _ rs hr (fun ds h1 vs H1 x1 r1 hr1 w1 => ⟨by rw [List.append_nil, ← r1.length]; exact w1.1, ds, h1, Q, by rw [List.append_nil]; exact r1, hr1, bw.mono x1, w1.2⟩) w
end
section
variable {X : Cx} {K : PySem.W.Frag} {CX : CXT} {k : Nat} {f : Addr} {fd : FuncData} {ps : List Str} {n : Nat} {M : DC} {E : XK} {x : Str} {p pos : Pos} {e : Expr} {es : List Expr} {ta : TA} {da : DA}
theorem xcall (F : FnG X.prog X.w X.K X.mg X.base CX k f fd ps (spD X.K n M)) (hr : RoomG k X.A) (hm : X.mg x = some (.ref f)) (hk : PySem.W.keepIn X.K (.ref f) = true) (hb : Binds X.K fd ps []) (hx : Passes CX X E) (ha : XA X K (e :: es) ta da) (hg : Gl X x := by rfl)
    (hdb : (x == ("__debug__" : Str)) = false := by decide) (he : starEach (e :: es) X.env = (false, eval e X.env) :: starEach es X.env := by rfl) (hpl : (backTo pos (starEach es X.env)).any (·.1) = false := by rfl) (hK : X.K = K := by rfl) :
    XE X K (.Call (.Name x p) (e :: es) [] pos) (tCall (spD K n M) [] E ta) (dCall n M da) := by
  subst hK
  exact ⟨peG_call F hr hg hm hk hb .nil hx ha.p hdb he hpl, le_call ha.l⟩
theorem xcall0 (F : FnG X.prog X.w X.K X.mg X.base CX k f fd ps (spD X.K n M)) (hr : RoomG k X.A) (hm : X.mg x = some (.ref f)) (hk : PySem.W.keepIn X.K (.ref f) = true) (hb : Binds X.K fd ps []) (hx : Passes CX X E) (hg : Gl X x := by rfl)
    (hdb : (x == ("__debug__" : Str)) = false := by decide) (hK : X.K = K := by rfl) : XE X K (.Call (.Name x p) [] [] pos) (tCall (spD K n M) [] E tNil) (dCall n M dNil) := by
  subst hK
  exact ⟨peG_call0 F hr hg hm hk hb .nil hx hdb, le_call (fun τ σ h H Q Q0 rs hr bw w => bw [] h [] H TX.refl rvs_nil' hr w)⟩
end
/-- a def of the text, by its body's derivation -/
theorem okD {P : Program} {w : World} {K : PySem.W.Frag} {mg : Str → Option Value} {base : Heap} {qn qual : Str} {st : Stmt} {f : Addr} {fd : FuncData} {N ps : List Str} {k m n : Nat} {b : DS} (F : Fun K qn qual st f fd) (S : FnScope N ps (defScope st)) (hn : ps.length = n) (hm : N.length = m)
    (hbody : ∀ (cdv : Value) (A : Around) (outer : List Env) (s : Shared) (H : Hp) (E : XK), RoomG k (A.deeper (envOfC qual (defScope st) s.heap.objs.size f cdv)) →
      ∃ t0, XSs (cxOf CX0 P w K mg base N qual (defScope st) f cdv A outer s H E).nox K (defBody st) t0 b) : FnG P w K mg base CX0 (k + 1) f fd ps (spD K n (runD m b)) := by
  refine Fun.okG F S (fun vs H Q E h => h.1.trans hn.symm) (fun cdv A outer s H vs Q E hr h => ?_)
  obtain ⟨hl, ds, h0, Qd, r, hr0, bw, w1⟩ := h
  obtain ⟨t0, xs⟩ := hbody cdv A outer s H E hr
  refine ⟨t0, xs.p.nox, xs.l _ _ h0 H { nx := fun _ h => Qd .non h, rt := Qd } _ (rs_start r) hr0 ⟨fun τ' σ' h' H' x1 _ hr1 w2 => bw _ _ _ _ x1 rv_non' hr1 w2, bw, fun _ _ _ _ _ _ _ w2 => w2.elim, fun _ _ _ _ _ _ _ w2 => w2.elim⟩ ?_⟩
  rw [hm]
  exact w1

/-! ### built-in functions -/
def dCB (q : DC) (a : DA) : DE := fun τ h Q => a τ h fun ds h1 => q ds h1 Q
section
variable {X : Cx} {K : PySem.W.Frag} {x : Str} {p pos : Pos} {e : Expr} {es : List Expr} {ta : TA} {da : DA} {id T : String} {r : List V → Hp → VK → Prop} {q : DC}
theorem le_cb (lc : LC K r q) (la : LA K ta da) : LE K (tCB r ta) (dCB q da) := fun τ σ h H Q Q0 rs hr bw w =>
  la τ σ h H _ _ rs hr (fun ds h1 vs H1 x1 r1 hr1 w1 => lc ds vs h1 H1 Q Q0 r1 hr1 (bw.mono x1) w1) w
theorem xcallB (o : CallR X (.builtin id) r ∧ LC K r q) (hm : X.mg x = none) (ha : XA X K (e :: es) ta da) (hv : bootBuiltins x = some (.builtin id) := by decide +kernel) (hg : Gl X x := by rfl) (hn : x ≠ "__name__" := by decide) (hdb : (x == ("__debug__" : Str)) = false := by decide)
    (he : starEach (e :: es) X.env = (false, eval e X.env) :: starEach es X.env := by rfl) (hpl : (backTo pos (starEach es X.env)).any (·.1) = false := by rfl) : XE X K (.Call (.Name x p) (e :: es) [] pos) (tCB r ta) (dCB q da) := ⟨pe_callB o.1 hg hm hv ha.p hn hdb he hpl, le_cb o.2 ha.l⟩
theorem xcallT (o : CallR X (.type T) r ∧ LC K r q) (hm : X.mg x = none) (ha : XA X K (e :: es) ta da) (hv : bootBuiltins x = some (.type T) := by decide +kernel) (hg : Gl X x := by rfl) (hn : x ≠ "__name__" := by decide) (hdb : (x == ("__debug__" : Str)) = false := by decide)
    (he : starEach (e :: es) X.env = (false, eval e X.env) :: starEach es X.env := by rfl) (hpl : (backTo pos (starEach es X.env)).any (·.1) = false := by rfl) : XE X K (.Call (.Name x p) (e :: es) [] pos) (tCB r ta) (dCB q da) := ⟨pe_callTy o.1 hg hm hv ha.p hn hdb he hpl, le_cb o.2 ha.l⟩

/-- one argument, by what it is -/
def bOne (f : DH → D → Option D) : DC := fun ds h Q => match ds with
  | [d] => need (f h d) h Q
  | _ => False
theorem one_of {f : DH → D → Option D} {ds : List D} {h : DH} {Q : DK} (w : bOne f ds h Q) : ∃ d v, ds = [d] ∧ f h d = some v ∧ Q v h := by
  match ds, w with
  | [d], w => exact ⟨d, (need_of w).choose, rfl, (need_of w).choose_spec.1, (need_of w).choose_spec.2⟩
theorem rvs_one {H : Hp} {d : D} {vs : List V} (r : RVs K H [d] vs) : ∃ v, vs = [v] ∧ RV K H d v := by
  obtain ⟨x, xs, e, q, s⟩ := rvs_cons r
  rw [rvs_nil s] at e
  exact ⟨x, e, q⟩
theorem rvs_two {H : Hp} {d d2 : D} {vs : List V} (r : RVs K H [d, d2] vs) : ∃ v v2, vs = [v, v2] ∧ RV K H d v ∧ RV K H d2 v2 := by
  obtain ⟨x, xs, e, q, s⟩ := rvs_cons r
  obtain ⟨y, e2, q2⟩ := rvs_one s
  rw [e2] at e
  exact ⟨x, y, e, q, q2⟩
def lenO : Option DO → Option D
  | some (.lst xs) => some (.int xs.length)
  | some (.dK xs) => some (.int xs.length)
  | _ => none
def lenD (h : DH) : D → Option D
  | .tup xs => some (.int xs.length)
  | .ktp xs => some (.int xs.length)
  | .fls xs => some (.int xs.length)
  | .str z => if z.length ≤ sizeLine then some (.int z.length) else none
  | .loc a => lenO (h a)
  | _ => none
def rLenU (K : PySem.W.Frag) : List V → Hp → VK → Prop := fun xs H Q => (∃ p ys, xs = [.ref p] ∧ (SqL K H p ys ∨ SqT K H p ys) ∧ Q (.int ys.length) H) ∨ ((∃ z, xs = [.str z] ∧ z.length ≤ sizeLine ∧ Q (.int z.length) H) ∨ ∃ a kvs, xs = [.ref a] ∧ H a = some (.dK kvs) ∧ Q (.int kvs.length) H)
end
end DL

set_option Elab.async false
set_option linter.all false
set_option maxRecDepth 100000
/-! DL7: built-in functions and methods. -/
namespace DL
open PySem PySem.Spec PyProof.Rows L2
section
variable {X : Cx} {K : PySem.W.Frag}
theorem q_len (hK : X.K = K := by rfl) : CallR X (.builtin "len") (rLenU K) ∧ LC K (rLenU K) (bOne lenD) := ⟨by subst hK; exact call_len_seq.or (call_len_str.or call_lenD), fun ds vs h H Q Q0 r hr bw w => by
  obtain ⟨d, v, e, z, w⟩ := one_of w
  subst e
  obtain ⟨x, e1, r1⟩ := rvs_one r
  subst e1
  cases d with
  | tup xs =>
    obtain ⟨a, vs, e2, s, q⟩ := rv_tup r1
    cases z
    refine .inl ⟨a, vs, by rw [e2], .inr (.inl (.inl s)), ?_⟩
    rw [← q.length]
    exact bw _ h _ H TX.refl rv_int' hr w
  | ktp xs =>
    obtain ⟨a, vs, e2, s, q⟩ := rv_ktp r1
    cases z
    refine .inl ⟨a, vs, by rw [e2], .inr s.t, ?_⟩
    rw [← q.length]
    exact bw _ h _ H TX.refl rv_int' hr w
  | fls xs =>
    obtain ⟨a, vs, e2, s, q⟩ := rv_fls r1
    cases z
    refine .inl ⟨a, vs, by rw [e2], .inl s.l, ?_⟩
    rw [← q.length]
    exact bw _ h _ H TX.refl rv_int' hr w
  | str y =>
    have z : (if y.length ≤ sizeLine then some (D.int y.length) else none) = some v := z
    by_cases hl : y.length ≤ sizeLine
    · rw [if_pos hl] at z
      cases z
      exact .inr (.inl ⟨y, by rw [rv_str r1], hl, bw _ h _ H TX.refl rv_int' hr w⟩)
    · rw [if_neg hl] at z; cases z
  | loc a =>
    have z : lenO (h a) = some v := z
    cases ha : h a with
    | none => rw [ha] at z; cases z
    | some o =>
      rw [ha] at z
      cases o with
      | lst xs =>
        obtain ⟨us, s, q⟩ := hr _ _ ha
        cases z
        refine .inl ⟨a, us, by rw [rv_loc r1], .inl (.inl (.inl s)), ?_⟩
        rw [← q.length]
        exact bw _ h _ H TX.refl rv_int' hr w
      | dK xs =>
        obtain ⟨us, s, q⟩ := hr _ _ ha
        cases z
        refine .inr (.inr ⟨a, us, by rw [rv_loc r1], s, ?_⟩)
        rw [← rkv_length q]
        exact bw _ h _ H TX.refl rv_int' hr w
      | _ => cases z
  | _ => cases z⟩
def absD (_ : DH) : D → Option D
  | .int i => some (.int (if i < 0 then -i else i))
  | _ => none
theorem q_abs : CallR X (.builtin "abs") (fun xs H Q => ∃ i, xs = [.int i] ∧ Q (.int (if i < 0 then -i else i)) H) ∧ LC K (fun xs H Q => ∃ i, xs = [.int i] ∧ Q (.int (if i < 0 then -i else i)) H) (bOne absD) := ⟨call_abs, fun ds vs h H Q Q0 r hr bw w => by
  obtain ⟨d, v, e, z, w⟩ := one_of w
  subst e
  obtain ⟨x, e1, r1⟩ := rvs_one r
  subst e1
  cases d with
  | int i =>
    cases z
    exact ⟨i, by rw [rv_int r1], bw _ h _ H TX.refl rv_int' hr w⟩
  | _ => cases z⟩
def intD (_ : DH) : D → Option D
  | .int i => some (.int i)
  | .bl k => some (.int (if k then 1 else 0))
  | _ => none
def rInt1 : List V → Hp → VK → Prop := fun xs H Q => (∃ i, xs = [.int i] ∧ Q (.int i) H) ∨ ∃ k, xs = [.bl k] ∧ Q (.int (if k then 1 else 0)) H
theorem q_int : CallR X (.type "int") rInt1 ∧ LC K rInt1 (bOne intD) := ⟨call_int1, fun ds vs h H Q Q0 r hr bw w => by
  obtain ⟨d, v, e, z, w⟩ := one_of w
  subst e
  obtain ⟨x, e1, r1⟩ := rvs_one r
  subst e1
  cases d with
  | int i =>
    cases z
    exact .inl ⟨i, by rw [rv_int r1], bw _ h _ H TX.refl rv_int' hr w⟩
  | bl k =>
    cases z
    exact .inr ⟨k, by rw [rv_bl r1], bw _ h _ H TX.refl rv_int' hr w⟩
  | _ => cases z⟩
/-- min, max: two ints, or a list of ints -/
def intsD : List D → Option (List Int)
  | [] => some []
  | .int i :: ds => (intsD ds).map (i :: ·)
  | _ :: _ => none
theorem intsD_eq : ∀ {ds : List D} {ns : List Int}, intsD ds = some ns → ds = ns.map D.int
  | [], ns, e => by cases e; rfl
  | .int i :: ds, ns, e => by
    obtain ⟨ms, e1, e2⟩ := Option.map_eq_some_iff.mp (show (intsD ds).map (i :: ·) = some ns from e)
    subst e2
    rw [intsD_eq e1]; rfl
theorem intsD_map : ∀ ns : List Int, intsD (ns.map D.int) = some ns
  | [] => rfl
  | n :: ns => by show (intsD (ns.map D.int)).map (n :: ·) = _; rw [intsD_map ns]; rfl
def bMin : DC := fun ds h Q => match ds with
  | [.int i, .int j] => Q (.int (if j < i then j else i)) h
  | [d] => (match (seqD h d).bind intsD with
    | some ns => 0 < ns.length ∧ ∀ m, m ∈ ns → (∀ y, y ∈ ns → m ≤ y) → Q (.int m) h
    | none => False)
  | _ => False
def bMax : DC := fun ds h Q => match ds with
  | [.int i, .int j] => Q (.int (if j > i then j else i)) h
  | [d] => (match (seqD h d).bind intsD with
    | some ns => 0 < ns.length ∧ ∀ m, m ∈ ns → (∀ y, y ∈ ns → y ≤ m) → Q (.int m) h
    | none => False)
  | _ => False
theorem seqD_v {d : D} {v : V} {h : DH} {H : Hp} {xs : List D} (hr : HR K H h) (r : RV K H d v) (e : seqD h d = some xs) : ∃ a vs, v = .ref a ∧ SqL K H a vs ∧ RVs K H xs vs := by
  cases d with
  | loc a =>
    obtain ⟨vs, s, q⟩ := hr _ _ (lstO_of (show lstO (h a) = some xs from e))
    exact ⟨a, vs, rv_loc r, .inl (.inl s), q⟩
  | fls ys =>
    cases e
    obtain ⟨a, vs, e1, s, q⟩ := rv_fls r
    exact ⟨a, vs, e1, s.l, q⟩
  | _ => cases e
theorem ints_v {d : D} {v : V} {h : DH} {H : Hp} {ns : List Int} (hr : HR K H h) (r : RV K H d v) (e : (seqD h d).bind intsD = some ns) : ∃ a, v = .ref a ∧ SqL K H a (ns.map V.int) := by
  obtain ⟨xs, e1, e2⟩ := Option.bind_eq_some_iff.mp e
  obtain ⟨a, vs, e3, s, q⟩ := seqD_v hr r e1
  rw [intsD_eq e2] at q
  rw [q.ints] at s
  exact ⟨a, e3, s⟩
def rMinU (K : PySem.W.Frag) : List V → Hp → VK → Prop := fun xs H Q => (∃ i j, xs = [.int i, .int j] ∧ Q (.int (if j < i then j else i)) H) ∨ rMin K xs H Q
def rMaxU (K : PySem.W.Frag) : List V → Hp → VK → Prop := fun xs H Q => (∃ i j, xs = [.int i, .int j] ∧ Q (.int (if j > i then j else i)) H) ∨ rMax K xs H Q
theorem q_min (hc : X.calm = true) (hK : X.K = K := by rfl) : CallR X (.builtin "min") (rMinU K) ∧ LC K (rMinU K) bMin := ⟨by subst hK; exact (call_min2 hc).or (cr_min hc), fun ds vs h H Q Q0 r hr bw w => by
  match ds, w, r with
  | [.int i, .int j], w, r =>
    obtain ⟨x, y, e, r1, r2⟩ := rvs_two r
    exact .inl ⟨i, j, by rw [e, rv_int r1, rv_int r2], bw _ h _ H TX.refl rv_int' hr w⟩
  | [d], w, r =>
    obtain ⟨x, e1, r1⟩ := rvs_one r
    have w : (match (seqD h d).bind intsD with | some ns => 0 < ns.length ∧ ∀ m, m ∈ ns → (∀ y, y ∈ ns → m ≤ y) → Q (.int m) h | none => False) := by cases d <;> exact w
    cases z : (seqD h d).bind intsD with
    | none => rw [z] at w; exact w.elim
    | some ns =>
      rw [z] at w
      obtain ⟨a, e2, s⟩ := ints_v hr r1 z
      exact .inr ⟨a, ns, by rw [e1, e2], s, w.1, fun m h1 h2 => bw _ h _ H TX.refl rv_int' hr (w.2 m h1 h2)⟩⟩
theorem q_max (hc : X.calm = true) (hK : X.K = K := by rfl) : CallR X (.builtin "max") (rMaxU K) ∧ LC K (rMaxU K) bMax := ⟨by subst hK; exact (call_max2 hc).or (cr_max hc), fun ds vs h H Q Q0 r hr bw w => by
  match ds, w, r with
  | [.int i, .int j], w, r =>
    obtain ⟨x, y, e, r1, r2⟩ := rvs_two r
    exact .inl ⟨i, j, by rw [e, rv_int r1, rv_int r2], bw _ h _ H TX.refl rv_int' hr w⟩
  | [d], w, r =>
    obtain ⟨x, e1, r1⟩ := rvs_one r
    have w : (match (seqD h d).bind intsD with | some ns => 0 < ns.length ∧ ∀ m, m ∈ ns → (∀ y, y ∈ ns → y ≤ m) → Q (.int m) h | none => False) := by cases d <;> exact w
    cases z : (seqD h d).bind intsD with
    | none => rw [z] at w; exact w.elim
    | some ns =>
      rw [z] at w
      obtain ⟨a, e2, s⟩ := ints_v hr r1 z
      exact .inr ⟨a, ns, by rw [e1, e2], s, w.1, fun m h1 h2 => bw _ h _ H TX.refl rv_int' hr (w.2 m h1 h2)⟩⟩
def sumD (h : DH) (d : D) : Option D := ((seqD h d).bind intsD).map fun ns => .int ns.sum
theorem q_sum (hc : X.calm = true) (hK : X.K = K := by rfl) : CallR X (.builtin "sum") (rSum K) ∧ LC K (rSum K) (bOne sumD) := ⟨by subst hK; exact cr_sum hc, fun ds vs h H Q Q0 r hr bw w => by
  obtain ⟨d, v, e, z, w⟩ := one_of w
  subst e
  obtain ⟨x, e1, r1⟩ := rvs_one r
  obtain ⟨ns, z1, z2⟩ := Option.map_eq_some_iff.mp z
  subst z2
  obtain ⟨a, e2, s⟩ := ints_v hr r1 z1
  exact ⟨a, ns, by rw [e1, e2], s, bw _ h _ H TX.refl rv_int' hr w⟩⟩
/-- tuple(a list), list(a list or a tuple) -/
def isTup : D → Option (List D)
  | .tup xs => some xs
  | _ => none
def bTup : DC := fun ds h Q => match ds with
  | [d] => (match (isTup d).or (seqD h d) with
    | some xs => Q (.tup xs) h
    | none => False)
  | _ => False
def rTupU (K : PySem.W.Frag) : List V → Hp → VK → Prop := fun xs H Q => ∃ p ys, xs = [.ref p] ∧ ((SqL K H p ys ∧ ∀ l, H l = none → Q (.ref l) (upd H l (.tup ys))) ∨ (SqT K H p ys ∧ Q (.ref p) H))
theorem q_tup (hK : X.K = K := by rfl) : CallR X (.type "tuple") (rTupU K) ∧ LC K (rTupU K) bTup := ⟨by subst hK; exact call_tuple_of, fun ds vs h H Q Q0 r hr bw w => by
  match ds, w, r with
  | [d], w, r =>
    obtain ⟨x, e1, r1⟩ := rvs_one r
    have w : (match (isTup d).or (seqD h d) with | some xs => Q (.tup xs) h | none => False) := w
    cases d with
    | tup xs =>
      obtain ⟨a, vs, e2, s, q⟩ := rv_tup r1
      exact ⟨a, vs, by rw [e1, e2], .inr ⟨.inl (.inl s), bw _ h _ H TX.refl (rv_tup' s q) hr w⟩⟩
    | loc b =>
      have w : (match seqD h (.loc b) with | some xs => Q (.tup xs) h | none => False) := w
      cases z : seqD h (.loc b) with
      | none => rw [z] at w; exact w.elim
      | some xs =>
        rw [z] at w
        obtain ⟨a, vs, e2, s, q⟩ := seqD_v hr r1 z
        exact ⟨a, vs, by rw [e1, e2], .inl ⟨s, fun p hp => bw_tup hr bw hp q w⟩⟩
    | fls ys =>
      obtain ⟨a, vs, e2, s, q⟩ := seqD_v hr r1 (show seqD h (.fls ys) = some ys from rfl)
      exact ⟨a, vs, by rw [e1, e2], .inl ⟨s, fun p hp => bw_tup hr bw hp q w⟩⟩
    | _ => exact w.elim⟩
def anyD (h : DH) : D → Option (List D)
  | .tup xs => some xs
  | .ktp xs => some xs
  | d => seqD h d
def bList : DC := fun ds h Q => match ds with
  | [d] => (match anyD h d with
    | some xs => ∀ p, h p = none → Q (.loc p) (hupd h p (.lst xs))
    | none => False)
  | _ => False
def rListU (K : PySem.W.Frag) : List V → Hp → VK → Prop := fun xs H Q => ∃ p ys, xs = [.ref p] ∧ (SqL K H p ys ∨ SqT K H p ys) ∧ ∀ l, H l = none → Q (.ref l) (upd H l (.lst ys))
theorem anyD_v {d : D} {v : V} {h : DH} {H : Hp} {xs : List D} (hr : HR K H h) (r : RV K H d v) (e : anyD h d = some xs) : ∃ a vs, v = .ref a ∧ (SqL K H a vs ∨ SqT K H a vs) ∧ RVs K H xs vs := by
  cases d with
  | tup ys => cases e; obtain ⟨a, vs, e2, s, q⟩ := rv_tup r; exact ⟨a, vs, e2, .inr (.inl (.inl s)), q⟩
  | ktp ys => cases e; obtain ⟨a, vs, e2, s, q⟩ := rv_ktp r; exact ⟨a, vs, e2, .inr s.t, q⟩
  | loc b => obtain ⟨a, vs, e2, s, q⟩ := seqD_v hr r e; exact ⟨a, vs, e2, .inl s, q⟩
  | fls b => obtain ⟨a, vs, e2, s, q⟩ := seqD_v hr r e; exact ⟨a, vs, e2, .inl s, q⟩
  | _ => cases e
theorem q_list (hK : X.K = K := by rfl) : CallR X (.type "list") (rListU K) ∧ LC K (rListU K) bList := ⟨by subst hK; exact call_list_of, fun ds vs h H Q Q0 r hr bw w => by
  match ds, w, r with
  | [d], w, r =>
    obtain ⟨x, e1, r1⟩ := rvs_one r
    have w : (match anyD h d with | some xs => ∀ p, h p = none → Q (.loc p) (hupd h p (.lst xs)) | none => False) := w
    cases z : anyD h d with
    | none => rw [z] at w; exact w.elim
    | some xs =>
      rw [z] at w
      obtain ⟨a, vs, e2, s, q⟩ := anyD_v hr r1 z
      exact ⟨a, vs, by rw [e1, e2], s, fun p hp => bw_new hr bw hp (ro_lst (tx_new hp) q) (w p)⟩⟩

/-! ### repr -/
def rRepr (K : PySem.W.Frag) : List V → Hp → VK → Prop := fun xs H Q => ∃ x p, xs = [x] ∧ Dp K H x p ∧ p.hasDict = false ∧ p.showable = true ∧ p.depth ≤ 50 ∧ p.shown.length ≤ sizeLine ∧ Q (.str p.shown) H
theorem call_repr (hg : X.A.guards = some []) (hu : X.A.units + 64 < cLine) : CallR X (.builtin "repr") (rRepr X.K) := by
  intro pins s σ H xs us Q I r h
  obtain ⟨x, p, rfl, dp, nd, sh, hd, hz, q⟩ := h
  obtain ⟨u, e, ru⟩ : ∃ u, us = [u] ∧ RelV x u := by
    cases r with
    | cons r rr => cases rr; exact ⟨_, rfl, r⟩
  subst e
  obtain ⟨as, rd⟩ := Dp.reads I p x u dp ru
  have fin : ∀ h' w' tk, (∀ b o, s.heap.get? b = some o → h'.get? b = some o) → EP X pins σ Q (.str p.shown w') { s with heap := h', toks := tk } := fun h' w' tk k => ⟨.str p.shown, H, I.kept k, ⟨_, rfl⟩, q⟩
  have same : ∀ b o, s.heap.get? b = some o → s.heap.get? b = some o := fun _ _ z => z
  cases dp with
  | non =>
    cases (show u = Value.none from ru)
    refine PySem.P.repr_of_none ?_
    have e : (PyData.none).shown = "None" := by simp [PyData.shown]
    rw [← e]; exact fin _ _ _ same
  | bl b =>
    cases (show u = Value.bool b from ru)
    refine PySem.P.repr_of_bool ?_
    have e : (PyData.bool b).shown = (if b = true then ("True" : Str) else ("False" : Str)) := by simp [PyData.shown]
    rw [← e]; exact fin _ _ _ same
  | int i =>
    obtain ⟨t, e⟩ := (show ∃ t, u = Value.int i t from ru)
    subst e
    refine PySem.P.repr_of_int (by simpa [PyData.showable] using sh) ?_
    have e : (PyData.int i).shown = toString i := by simp [PyData.shown]
    rw [← e]; exact fin _ _ _ same
  | str y =>
    obtain ⟨t, e⟩ := (show ∃ t, u = Value.str y t from ru)
    subst e
    have e : (PyData.str y).shown = reprText y := by simp [PyData.shown]
    refine PySem.P.repr_of_str ?_ (by rw [← e]; exact hz)
    rw [← e]; exact fin _ _ _ same
  | lst hs ha =>
    cases (show u = Value.ref _ from ru)
    exact repr_of_reads' rd sh (PyData.noDict_hsm nd) hg (by omega) same (fun h' u tk k => fin h' u tk k) hz
  | tup hs ha =>
    cases (show u = Value.ref _ from ru)
    exact repr_of_reads' rd sh (PyData.noDict_hsm nd) hg (by omega) same (fun h' u tk k => fin h' u tk k) hz
def bRepr : DC := fun ds h Q => match ds with
  | [d] => ∃ p, PD h d p ∧ p.showable = true ∧ p.depth ≤ 50 ∧ p.shown.length ≤ sizeLine ∧ Q (.str p.shown) h
  | _ => False
theorem q_repr {k : Nat} (hr : RoomG k X.A) (hK : X.K = K := by rfl) : CallR X (.builtin "repr") (rRepr K) ∧ LC K (rRepr K) bRepr := ⟨by subst hK; exact call_repr hr.g hr.hu, fun ds vs h H Q Q0 r hr bw w => by
  match ds, w, r with
  | [d], ⟨p, pd, a1, a2, a3, w⟩, r =>
    obtain ⟨x, e1, r1⟩ := rvs_one r
    exact ⟨x, p, e1, pd.dp hr r1, pd.noDict, a1, a2, a3, bw _ h _ H TX.refl rv_str' hr w⟩⟩

/-! ### methods of lists -/
def dAppend (a : DE) (b : DE) : DE := fun τ h Q => a τ h fun x h1 => match x with
  | .loc l => (∃ xs, h1 l = some (.lst xs)) ∧ b τ h1 fun y h2 => (match lstO (h2 l) with
    | some xs => xs.length < sizeLine ∧ Q .non (hupd h2 l (.lst (xs ++ [y])))
    | none => False)
  | _ => False
theorem lm_append {ta te : TE} {da de : DE} (la : LE K ta da) (le : LE K te de) : LE K (tBM K "list" rAppend ta (tCons te tNil)) (dAppend da de) := fun τ σ h H Q Q0 rs hr bw w =>
  la τ σ h H _ _ rs hr (fun x h1 v H1 x1 r1 hr1 w1 => by
    cases x with
    | loc l =>
      obtain ⟨⟨xs0, hl⟩, w1⟩ := w1
      obtain ⟨vs0, s0, q0⟩ := hr1 _ _ hl
      have e := rv_loc r1
      subst e
      refine ⟨Or.inl ⟨rfl, _, Or.inl (Or.inl s0)⟩, ?_⟩
      refine le τ σ h1 H1 _ _ (rs.mono x1) hr1 (fun y h2 u H2 x2 r2 hr2 w2 => ?_) w1
      have w2 : (match lstO (h2 l) with | some xs => xs.length < sizeLine ∧ Q .non (hupd h2 l (.lst (xs ++ [y]))) | none => False) := w2
      cases z : lstO (h2 l) with
      | none => rw [z] at w2; exact w2.elim
      | some xs =>
        rw [z] at w2
        obtain ⟨vs, s, q⟩ := hr2 _ _ (lstO_of z)
        have x3 := tx_lst (K := K) (o := .lst (vs ++ [u])) s
        exact ⟨l, vs, u, rfl, rfl, s, by rw [← q.length]; exact w2.1, bw _ _ _ _ (x1.trans (x2.trans x3)) rv_non' (hr2.put x3 (ro_lst x3 (q.append (rvs_cons' r2 rvs_nil')))) w2.2⟩
    | _ => exact w1.elim) w
end
end DL

set_option Elab.async false
set_option linter.all false
set_option maxRecDepth 100000
set_option maxHeartbeats 2000000
/-! DL8: sorted(set(tuples of ints)). -/
namespace DL
open PySem PySem.Spec PyProof.Rows PyProof.Rows.G L2

/-! ### the order of int lists -/
theorem lex_ints : ∀ as bs : List Int, PyProof.Rows.lexLt itemOrd (as.map Sum.inl) (bs.map Sum.inl) = HT.lexLt as bs := by
  intro as
  induction as with
  | nil => intro bs; cases bs <;> rfl
  | cons a as ih =>
    intro bs
    cases bs with
    | nil => rfl
    | cons b bs =>
      rw [HT.lexLt_cons, List.map_cons, List.map_cons]
      by_cases h : a = b
      · subst h
        rw [if_pos rfl, lex_self]
        exact ih bs
      · rw [if_neg h, lex_diff (fun z => h (Sum.inl.inj z))]
        rfl
def shI : Nat → Bool := fun _ => false
theorem items_ints : ∀ {vs : List Value} {ns : List Int} (i : Nat), IntsAre vs ns → tupItems shI i vs = some (ns.map Sum.inl)
  | [], ns, i, h => by cases h; rfl
  | v :: vs, ns, i, h => by
    cases h with
    | cons n t r =>
      show (if shI i = true then none else (tupItems shI (i + 1) _).map (Sum.inl n :: ·)) = _
      rw [if_neg (show ¬ shI i = true from Bool.false_ne_true), items_ints (i + 1) r]
      rfl
section
variable {P : Program} {w : World} {A : Around} {E : Value → Shared → Prop} {s : Shared}
theorem key_ints {h : Heap} {k : List Int} {a : Addr} (x : IsT P w h k a) : tupKeyC h shI (.ref a) = some (k.map Sum.inl) := by
  obtain ⟨o, items, n, ho, hc, hd, hi⟩ := x
  have e1 : isTupObj h (.ref a) = true := by unfold isTupObj; simp [ho, hc]
  unfold tupKeyC
  rw [if_pos e1]
  unfold tupKey
  simp only [ho, hd]
  exact items_ints 0 (ints_of_items hi)
theorem tup_first {h : Heap} {k : List Int} {a : Addr} (x : IsT P w h k a) (hk : k ≠ []) : ∃ f, TupOf h shI (.ref a) f := by
  obtain ⟨o, items, n, ho, hc, hd, hi⟩ := x
  have hi := ints_of_items hi
  obtain ⟨l⟩ := items
  cases hi with
  | nil => exact absurd rfl hk
  | cons m t r => exact ⟨_, a, o, _, n, rfl, ho, hc, hd, rfl, fun _ => ⟨m, t, rfl⟩, fun z => absurd z (by decide)⟩
theorem tups_first {h : Heap} : ∀ vs : List Value, (∀ v ∈ vs, ∃ f, TupOf h shI v f) → ∃ fs, TupsOf h shI vs fs
  | [], _ => ⟨[], .nil⟩
  | v :: vs, q => by
    obtain ⟨f, hf⟩ := q v List.mem_cons_self
    obtain ⟨fs, hfs⟩ := tups_first vs fun u hu => q u (List.mem_cons_of_mem _ hu)
    exact ⟨f :: fs, .cons hf hfs⟩
/-- values that are the addresses of rows of L come from a list of rows -/
theorem rows_back {L : List (Addr × List Int)} : ∀ vs : List Value, (∀ v ∈ vs, ∃ q ∈ L, v = Value.ref q.1) → ∃ M : List (Addr × List Int), vs = M.map (fun q => Value.ref q.1) ∧ ∀ q ∈ M, q ∈ L
  | [], _ => ⟨[], rfl, fun _ h => nomatch h⟩
  | v :: vs, hv => by
    obtain ⟨q, hq, e⟩ := hv v List.mem_cons_self
    obtain ⟨M, e2, hM⟩ := rows_back vs fun u hu => hv u (List.mem_cons_of_mem _ hu)
    exact ⟨q :: M, by rw [List.map_cons, e, e2], fun r hr => (List.mem_cons.mp hr).elim (fun z => z ▸ hq) (hM r)⟩
theorem nodup_of_map' {α β : Type} {f : α → β} : ∀ {l : List α}, (l.map f).Nodup → l.Nodup
  | [], _ => List.nodup_nil
  | a :: l, h => by
    rw [List.map_cons] at h
    obtain ⟨h1, h2⟩ := List.nodup_cons.mp h
    exact List.nodup_cons.mpr ⟨fun q => h1 (List.mem_map.mpr ⟨a, q, rfl⟩), nodup_of_map' h2⟩
theorem rows_perm {L M : List (Addr × List Int)} (nL : L.Nodup) (one : ∀ q ∈ L, ∀ r ∈ L, q.1 = r.1 → q = r) (hM : ∀ q ∈ M, q ∈ L) (pm : (M.map fun q => Value.ref q.1).Perm (L.map fun q => Value.ref q.1)) : M.Perm L := by
  have nr : (L.map fun q => Value.ref q.1).Nodup := List.pairwise_map.mpr (List.Pairwise.imp_of_mem (fun {q r} hq hr hne e => hne (one q hq r hr (by injection e))) nL)
  have nM : M.Nodup := nodup_of_map' (pm.nodup_iff.mpr nr)
  refine (List.perm_ext_iff_of_nodup nM nL).mpr fun q => ⟨hM q, fun hq => ?_⟩
  obtain ⟨r, hr, e⟩ := List.mem_map.mp (pm.mem_iff.mpr (List.mem_map.mpr ⟨q, hq, rfl⟩))
  have e2 : r = q := one r (hM r hr) q hq (by injection e)
  rw [← e2]; exact hr
theorem sort_set {a : Addr} {L : List (Addr × List Int)} {es : Array (Int × Value)} {ep : Nat} {t : SetTable} {Q : Value → Shared → Prop} (R : SetTR P w s.heap a L es ep t) (hh : A.handled = none) (hne : ∀ p ∈ L, p.2 ≠ [])
    (hQ : ∀ s' p c (M : List (Addr × List Int)), (∀ b o, s.heap.get? b = some o → s'.heap.get? b = some o) → s'.gens = s.gens → s'.os = s.os → s.heap.objs.size ≤ p →
      s'.heap.get? p = some (seqObj "list" (M.map fun q => Value.ref q.1).toArray c) → M.Perm L → M.Pairwise (fun q r => HT.lexLt q.2 r.2 = true) → Q (.ref p) s') : wpAny (model P w) A (call (.builtin "sorted") [.ref a]) Q E s := by
  obtain ⟨o, ho, hex, hd⟩ := R.ob
  have few := R.few
  refine Calls.call_function_entry kind_sorted plain_sorted entry_sorted (args_sorted1 _) ?_
  unfold Builtin.«sorted»
  refine wpAny_bind (m := checkCount "sorted" 1 1 _) (wpAny_pure (wpAny_bind (collect_set (A := A.in1) hh ⟨o, ho, hex.1, hd⟩ R.fits (by unfold scanBound; have := R.size; omega) R.tab.ris R.led fun s1 vs k1 hz g1 o1 pm => ?_)))
  have hes : es.toList.map (·.2) = L.map fun q => Value.ref q.1 := by
    rw [R.rows]
    show (L.map _).map _ = _
    rw [List.map_map]; rfl
  rw [hes] at pm
  have nL : L.Nodup := nodup_of_map R.nd
  have one : ∀ q ∈ L, ∀ r ∈ L, q.1 = r.1 → q = r := fun q hq r hr e => by
    have a1 := R.tup q hq
    rw [e] at a1
    exact Prod.ext e (a1.inj (R.tup r hr))
  have lenv : vs.length < 64 := by rw [pm.length_eq, List.length_map]; exact few
  refine wpAny_bind (wpAny_newList ?_ (by rw [sizeLine_eq]; omega))
  have hoL : (s1.heap.push (seqObj "list" vs.toArray 0)).get? s1.heap.objs.size = some (seqObj "list" vs.toArray 0) := Heap.get?_push_size _ rfl
  have keep : ∀ b u, s.heap.get? b = some u → (s1.heap.push (seqObj "list" vs.toArray 0)).get? b = some u := fun b u e => Heap.get?_push_of_some _ (k1 b u e)
  have isT : ∀ q ∈ L, IsT P w (s1.heap.push (seqObj "list" vs.toArray 0)) q.2 q.1 := fun q hq => isT_keep (R.tup q hq) keep
  have row : ∀ v ∈ vs, ∃ q ∈ L, v = Value.ref q.1 := fun v hv => by
    obtain ⟨q, hq, e⟩ := List.mem_map.mp (pm.mem_iff.mp hv)
    exact ⟨q, hq, e.symm⟩
  obtain ⟨fs, hfs⟩ := tups_first (h := s1.heap.push (seqObj "list" vs.toArray 0)) vs fun v hv => by
    obtain ⟨q, hq, e⟩ := row v hv
    rw [e]
    exact tup_first (isT q hq) (hne q hq)
  have hkey : ∀ v, v ∈ vs → ∃ l, tupKeyC (s1.heap.push (seqObj "list" vs.toArray 0)) shI v = some l := fun v hv => by
    obtain ⟨q, hq, e⟩ := row v hv
    exact ⟨_, by rw [e]; exact key_ints (isT q hq)⟩
  refine wpAny_bind (wpAny_holding (wpAny_call_entry slot_list_sort ⟨_, hoL, rfl⟩ entry_list_sort (list_sort_tups (s := { s1 with heap := s1.heap.push (seqObj "list" vs.toArray 0) }) hoL hfs hkey (by rw [sizeLine_eq]; omega) fun st b1 b2 b3 => ⟨_, rfl, ?_⟩) (args_list_sort _)))
  -- what the sort gives
  have same : ∀ p ∈ (arrOf st).toList, p.1 = p.2 := fun p hp => by
    have hm : p ∈ (pairsOf vs).toList := (Array.Perm.toList b1).mem_iff.mp hp
    rw [pairsOf_toList] at hm
    exact (mem_zip_self hm).1
  have pv : ((arrOf st).toList.map (·.2)).Perm vs := by
    have q := (Array.Perm.toList b1).map (fun p : Value × Value => p.2)
    rw [pairsOf_toList] at q
    have e : (vs.zip vs).map (fun p : Value × Value => p.2) = vs := List.map_snd_zip (Nat.le_refl _)
    rw [e] at q
    exact q
  obtain ⟨M, eM, hM⟩ := rows_back (L := L) ((arrOf st).toList.map (·.2)) fun v hv => row v (pv.mem_iff.mp hv)
  have pL : M.Perm L := rows_perm nL one hM (by rw [← eM]; exact pv.trans pm)
  have hout : ((arrOf st).map (·.2)) = (M.map fun q => Value.ref q.1).toArray := Array.ext' (by rw [Array.toList_map]; exact eM)
  have pw : M.Pairwise (fun q r => HT.lexLt q.2 r.2 = true) := by
    have lenM : M.length = (arrOf st).toList.length := by
      have := congrArg List.length eM
      simpa using this.symm
    have lenA : (arrOf st).toList.length = (pairsOf vs).size := by simpa using b1.size_eq
    have kk : ∀ (i : Nat) (hi : i < M.length), KK (tupKindC (s1.heap.push (seqObj "list" vs.toArray 0)) shI) (arrOf st) i = (M[i]).2.map Sum.inl := fun i hi => by
      have hi2 : i < (arrOf st).toList.length := by omega
      have g1 : (arrOf st)[i]? = some ((arrOf st).toList[i]) := by
        rw [← Array.getElem?_toList]; exact List.getElem?_eq_getElem hi2
      have g2 : ((arrOf st).toList[i]).2 = Value.ref (M[i]).1 := by
        have e := congrArg (fun l : List Value => l[i]?) eM
        simp only [List.getElem?_map, List.getElem?_eq_getElem hi2, List.getElem?_eq_getElem hi] at e
        exact Option.some.inj e
      have g3 := same _ (List.getElem_mem hi2)
      unfold KK
      rw [g1]
      show ((tupKeyC _ shI ((arrOf st).toList[i]).1)).getD _ = _
      rw [g3, g2, key_ints (isT _ (hM _ (List.getElem_mem hi)))]
      rfl
    refine List.pairwise_iff_getElem.mpr fun i j hi hj hij => ?_
    have le := b2 i j (by omega) (by omega)
    rw [kk i hi, kk j hj] at le
    have le2 : HT.lexLt (M[j]).2 (M[i]).2 = false := by rw [← lex_ints]; exact le
    have ne : (M[i]).2 ≠ (M[j]).2 := by
      have nd : (M.map (·.2)).Nodup := (pL.map _).nodup_iff.mpr R.nd
      have q := List.pairwise_iff_getElem.mp nd i j (by simpa using hi) (by simpa using hj) hij
      simpa using q
    cases z : HT.lexLt (M[i]).2 (M[j]).2 with
    | true => rfl
    | false =>
      rw [← lex_ints] at z le2
      have e := lex_total _ _ z le2
      exact absurd ((List.map_inj_right fun _ _ q => Sum.inl.inj q).mp e) ne
  obtain ⟨c, hc⟩ := sortedHeap_at (vs := vs) (out := (arrOf st).map (·.2)) hoL
  refine wpAny_pure ⟨_, rfl, hQ _ s1.heap.objs.size c M (fun b u e => ?_) g1 o1 hz (by
    show (sortedHeap (s1.heap.push (seqObj "list" vs.toArray 0)) s1.heap.objs.size vs ((arrOf st).map (·.2))).get? _ = _
    rw [hc, hout]) pL pw⟩
  have q := k1 b u e
  have hlt := Heap.lt_size q
  show (sortedHeap (s1.heap.push (seqObj "list" vs.toArray 0)) s1.heap.objs.size vs _).get? b = some u
  rw [sortedHeap_old (Nat.ne_of_lt hlt) (by rw [size_push']; exact Nat.lt_succ_of_lt hlt)]
  exact Heap.get?_push_of_some _ q
end

/-! ### sorted(set(xs)), xs a list of tuples of ints -/
def rSortSet (K : PySem.W.Frag) (P : Program) (w : World) : List V → Hp → VK → Prop := fun vs H Q => ∃ (a : Addr) (L : List (Addr × List Int)), vs = [V.ref a] ∧ H a = some (SetTO P w a L) ∧ (∀ p ∈ L, SqT K H p.1 (p.2.map V.int)) ∧ (∀ p ∈ L, p.2 ≠ []) ∧
  ∀ (M : List (Addr × List Int)) (p : Addr), M.Perm L → M.Pairwise (fun q r => HT.lexLt q.2 r.2 = true) → M.length < 64 → H p = none → Q (.ref p) (upd H p (.lst (M.map fun q => V.ref q.1)))
theorem vals_refsM : ∀ M : List (Addr × List Int), Vals (M.map fun q => V.ref q.1) (M.map fun q => Value.ref q.1)
  | [] => .nil
  | q :: M => .cons rfl (vals_refsM M)
theorem cr_sortSet {X : Cx} (hc : X.calm = true) : CallR X (.builtin "sorted") (rSortSet X.K X.prog X.w) := by
  intro pins s σ H vs us Q I r h
  obtain ⟨a, L, rfl, hs, ht, hne, q⟩ := h
  rw [Vals.ref1 r]
  have o : SetT0 X.prog X.w s.heap a L := (show ObjOk X.prog X.w H s.heap a (SetTO X.prog X.w a L) from I.hok a _ hs).1
  obtain ⟨es, ep, t, R⟩ := o.full fun p hp => I.isT (ht p hp)
  refine sort_set R (I.ok.hd hc) hne fun s' p c M k g o hz hp pm pw => ?_
  have hn : H p = none := I.hok.fresh hz
  have lenM : M.length < 64 := by rw [pm.length_eq]; exact R.few
  obtain ⟨h', g', d', t', o'⟩ := s'
  have e1 : g' = s.gens := g
  have e2 : o' = s.os := o
  subst e1 e2
  have hz2 : (M.map fun q => V.ref q.1).length ≤ sizeLine := by rw [List.length_map, sizeLine_eq]; omega
  refine ⟨.ref p, upd H p (.lst (M.map fun q => V.ref q.1)), ?_, rfl, q M p pm pw lenM hn⟩
  exact I.call (ch := []) (h' := h') (g' := s.gens) (d' := d') (t' := t') (Un.laid k hz hn) (I.hok.laid k hz ⟨hz2, _, c, vals_refsM M, hp⟩) I.bare (fun _ z => nomatch z)

def tupI (k : List Int) : D := .tup (k.map D.int)
def tupD : D → Option (List Int)
  | .tup ds => intsD ds
  | _ => none
def tupsD : List D → Option (List (List Int))
  | [] => some []
  | d :: ds => match tupD d, tupsD ds with
    | some k, some ks => some (k :: ks)
    | _, _ => none
theorem tupD_eq {d : D} {k : List Int} (e : tupD d = some k) : d = tupI k := by
  cases d with
  | tup ds => unfold tupI; rw [intsD_eq (show intsD ds = some k from e)]
  | _ => cases e
theorem tupsD_v {K : PySem.W.Frag} {H : Hp} : ∀ {ds : List D} {ks : List (List Int)} {vs : List V}, tupsD ds = some ks → RVs K H ds vs → ∃ rows : List (Addr × List Int), rows.map (·.2) = ks ∧ vs = rows.map (fun p => V.ref p.1) ∧ ∀ p ∈ rows, H p.1 = some (.tup (p.2.map V.int))
  | [], ks, vs, e, r => by cases e; exact ⟨[], rfl, rvs_nil r, fun _ h => nomatch h⟩
  | d :: ds, ks, vs, e, r => by
    obtain ⟨x, xs, e1, r1, r2⟩ := rvs_cons r
    unfold tupsD at e
    cases h1 : tupD d with
    | none => rw [h1] at e; cases e
    | some k =>
      cases h2 : tupsD ds with
      | none => rw [h1, h2] at e; cases e
      | some kr =>
        rw [h1, h2] at e
        cases e
        obtain ⟨rows, q1, q2, q3⟩ := tupsD_v h2 r2
        rw [tupD_eq h1] at r1
        obtain ⟨a, us, e3, s, q⟩ := rv_tup r1
        rw [q.ints] at s
        refine ⟨(a, k) :: rows, by rw [List.map_cons, q1], by rw [List.map_cons, e1, e3, q2], fun p hp => ?_⟩
        rcases List.mem_cons.mp hp with z | z
        · subst z; exact s
        · exact q3 p z
def dSortSet (t : DE) : DE := fun τ h Q => t τ h fun x h1 => match (seqD h1 x).bind tupsD with
  | some ks => (ks.length < 64 ∧ ∀ k ∈ ks, k ≠ []) ∧ ∀ (ms : List (List Int)) (p : Addr), (∀ k, k ∈ ms ↔ k ∈ ks) → ms.Pairwise (fun a b => HT.lexLt a b = true) → h1 p = none → Q (.loc p) (hupd h1 p (.lst (ms.map tupI)))
  | none => False
section
variable {X : Cx} {K : PySem.W.Frag} {e : Expr} {te : TE} {de : DE} {p1 p2 p3 p4 : Pos}
theorem rvs_rows {K : PySem.W.Frag} {H : Hp} : ∀ rows : List (Addr × List Int), (∀ p ∈ rows, H p.1 = some (.tup (p.2.map V.int))) → RVs K H ((rows.map (·.2)).map tupI) (rows.map fun p => V.ref p.1)
  | [], _ => rvs_nil'
  | q :: rows, h => rvs_cons' (rv_tup' (h q List.mem_cons_self) (rvs_ints _)) (rvs_rows rows fun p hp => h p (List.mem_cons_of_mem _ hp))
theorem xsortset (hc : X.calm = true) (hu : X.A.units + 64 < cLine) (he : XE X K e te de) (hm : X.mg "sorted" = none) (hm2 : X.mg "set" = none) (hg : Gl X "sorted" := by rfl) (hg2 : Gl X "set" := by rfl)
    (h1 : starEach [e] X.env = [(false, eval e X.env)] := by rfl) (h2 : starEach [.Call (.Name "set" p3) [e] [] p4] X.env = [(false, eval (.Call (.Name "set" p3) [e] [] p4) X.env)] := by rfl) (hK : X.K = K := by rfl) :
    XE X K (.Call (.Name "sorted" p1) [.Call (.Name "set" p3) [e] [] p4] [] p2) (tCB (rSortSet X.K X.prog X.w) (tCons (tCB (rSetOfT X.K X.prog X.w) (tCons te tNil)) tNil)) (dSortSet de) := by
  subst hK
  refine ⟨pe_callB (cr_sortSet hc) hg hm (by decide +kernel) (pa_cons (pe_callTy (cr_setOfT hc hu) hg2 hm2 (by decide +kernel) (pa_cons he.p pa_nil h1) (he := h1)) pa_nil h2) (he := h2), fun τ σ h H Q Q0 rs hr bw w => he.l τ σ h H _ _ rs hr (fun x h1 v H1 x1 r1 hr1 w1 => ?_) w⟩
  have w1 : (match (seqD h1 x).bind tupsD with | some ks => (ks.length < 64 ∧ ∀ k ∈ ks, k ≠ []) ∧ ∀ (ms : List (List Int)) (p : Addr), (∀ k, k ∈ ms ↔ k ∈ ks) → ms.Pairwise (fun a b => HT.lexLt a b = true) → h1 p = none → Q (.loc p) (hupd h1 p (.lst (ms.map tupI))) | none => False) := w1
  cases z : (seqD h1 x).bind tupsD with
  | none => rw [z] at w1; exact w1.elim
  | some ks =>
    rw [z] at w1
    obtain ⟨⟨w2, w3⟩, w4⟩ := w1
    obtain ⟨xs, z1, z2⟩ := Option.bind_eq_some_iff.mp z
    obtain ⟨l, vs, e1, s, q⟩ := seqD_v hr1 r1 z1
    obtain ⟨rows, q1, q2, q3⟩ := tupsD_v z2 q
    subst e1 q2
    refine ⟨l, rows, rfl, s, fun p hp => .inl (.inl (q3 p hp)), by rw [← List.length_map (f := (·.2)), q1]; exact w2, fun a L ha hL1 hL2 => ?_⟩
    have xa : TX X.K H1 (upd H1 a (SetTO X.prog X.w a L)) := tx_new ha
    have q3' : ∀ p ∈ rows, (upd H1 a (SetTO X.prog X.w a L)) p.1 = some (.tup (p.2.map V.int)) := fun p hp => xa.1 _ _ (q3 p hp)
    refine ⟨a, L, rfl, upd_same, fun p hp => .inl (.inl (q3' p (hL1 p hp))), fun p hp => w3 _ (by rw [← q1]; exact List.mem_map.mpr ⟨p, hL1 p hp, rfl⟩), fun M p pm pw lenM hp => ?_⟩
    have xp : TX X.K (upd H1 a (SetTO X.prog X.w a L)) (upd (upd H1 a (SetTO X.prog X.w a L)) p (.lst (M.map fun q => V.ref q.1))) := tx_new hp
    have hrA : HR X.K (upd H1 a (SetTO X.prog X.w a L)) h1 := hr1.lay ha
    have hM : ∀ q ∈ M, (upd H1 a (SetTO X.prog X.w a L)) q.1 = some (.tup (q.2.map V.int)) := fun q hq => q3' q (hL1 q (pm.mem_iff.mp hq))
    refine bw _ _ _ _ (x1.trans (xa.trans xp)) rv_loc' (hrA.put xp (ro_lst xp (rvs_rows M hM))) (w4 (M.map (·.2)) p (fun k => ?_) (List.pairwise_map.mpr pw) (hrA.free hp))
    rw [← q1]
    constructor
    · intro hk
      obtain ⟨q, hq, e⟩ := List.mem_map.mp hk
      exact List.mem_map.mpr ⟨q, hL1 q (pm.mem_iff.mp hq), e⟩
    · intro hk
      obtain ⟨q, hq, e⟩ := List.mem_map.mp hk
      obtain ⟨r, hr, e2⟩ := List.mem_map.mp (hL2 q hq)
      exact List.mem_map.mpr ⟨r, pm.mem_iff.mpr hr, e2.trans e⟩
end
end DL

set_option Elab.async false
set_option linter.all false
set_option maxRecDepth 100000
/-! DL9: the end of a law's row. -/
namespace DL
open PySem PySem.Spec PyProof.Rows L2

/-- nothing is tracked but the locked script -/
structure OnlyScript (H : Hp) (a : Addr) : Prop where
  at_ : ∀ b, b ≠ a → H b = none
  is_ : H a = none ∨ ∃ o xs, H a = some (.frz o (.lst xs))
section
variable {P : Program} {w : World} {K : PySem.W.Frag} {mg mb : Str → Option Value} {k : Nat} {fa a : Addr} {fd : FuncData} {x : Str} {sp : Sp} {s : Shared} {vs : List Value} {ns : List Int}
theorem env_at {H : Hp} (on : OnlyScript H a) (hK : H a ≠ none → K.lookup a = none) (ok : HOk P w H s.heap) (KX : K.In s.heap) (hns : s.heap.Ns mainGlobals mg) (hb : s.heap.Ns builtinsNs mb) (hbb : ∀ x : Str, x ≠ "__name__" → mb x = bootBuiltins x) (hlim : s.heap.NoLimit)
    (hg : s.gens = #[]) (ha : s.heap.get? a = some { cls := .type "list", data := .seq vs.toArray }) : Env0 P w K mg (hidT s.heap H) callerA [] s H := by
  have free : ∀ {b : Addr} {o : Obj} {es : Array DictEntry} {ep : Nat}, s.heap.get? b = some o → o.data = .dict es ep → H b = none := fun {b o es ep} e d => by
    by_cases z : b = a
    · subst z
      rw [ha] at e; cases e
      exact nomatch (show Data.seq vs.toArray _ = Data.dict es ep from d)
    · exact on.at_ b z
  have ns' : ∀ {b : Addr} {m : Str → Option Value}, s.heap.Ns b m → (hidT s.heap H).Ns b m := fun {b m} ⟨o, es, ep, e, d, r⟩ => ⟨o, es, ep, hidT_get e (free e d), d, r⟩
  have kin : K.In (hidT s.heap H) := fun b o e => hidT_get (KX b o e) (by
    by_cases z : b = a
    · subst z
      cases q : H b with
      | none => rfl
      | some u => rw [hK (by rw [q]; simp)] at e; cases e
    · exact on.at_ b z)
  exact ⟨rfl, ⟨kin, ns' hns, ⟨mb, ns' hb, hbb⟩, let ⟨mc, h1, h2⟩ := hlim; ⟨mc, ns' h1, h2⟩⟩, fun b o e => of_hidT e, Nat.le_of_eq (hidT_size _ _), trivial, (fun b hb => nomatch hb), ok, .of_eq hg⟩
theorem law_at (KX : K.In s.heap) (hns : s.heap.Ns mainGlobals mg) (hb : s.heap.Ns builtinsNs mb) (hbb : ∀ x : Str, x ≠ "__name__" → mb x = bootBuiltins x) (hlim : s.heap.NoLimit) (hg : s.gens = #[])
    (ha : s.heap.get? a = some { cls := .type "list", data := .seq vs.toArray }) (hi : IntsAre vs ns) (hl : ns.length ≤ sizeLine) (hr : RoomG k callerA)
    (F : ∀ base : Heap, K.In base → base.Ns mainGlobals mg → FnG P w K mg base CX0 k fa fd [x] sp) (hbind : ∀ (s : Shared) (u : Value), BindsTo s fd ⟨[u], []⟩ [(x, u)])
    (hsp : ∀ H : Hp, SqF K H a (ns.map V.int) → sp [.ref a] H (fun v _ => v = .bl true) E0) :
    codeAny (model P w) callerA (.call (.ref fa) ⟨[.ref a], []⟩) (fun r s' => r = .ok (.ret (.bool true)) ∧ OldK s.heap s'.heap ∧ s'.os = s.os ∧ AllBare s'.gens) s := by
  have vals := vals_ints hi
  have run : ∀ H : Hp, OnlyScript H a → (H a ≠ none → K.lookup a = none) → HOk P w H s.heap → SqF K H a (ns.map V.int) →
      codeAny (model P w) callerA (.call (.ref fa) ⟨[.ref a], []⟩) (fun r s' => r = .ok (.ret (.bool true)) ∧ OldK s.heap s'.heap ∧ s'.os = s.os ∧ AllBare s'.gens) s := by
    intro H on hK ok sq
    have e0 := env_at on hK ok KX hns hb hbb hlim hg ha
    refine codeAny_mono ((F _ e0.mod.kin e0.mod.glob).run callerA [] s H ⟨[.ref a], []⟩ [.ref a] [.ref a] _ _ hr e0 (hbind s (.ref a)) (.cons rfl .nil) (hsp H sq)) fun r s' q => ?_
    match r, q with
    | .ok (.ret u), ⟨v, H', os, bare, un, ok', rv, ev⟩ =>
      have ev : v = .bl true := ev
      subst ev
      have eu : u = Value.bool true := rv
      subst eu
      refine ⟨rfl, OldK.of_keep fun b o e => ?_, os, bare⟩
      cases hH : H b with
      | none => exact un.keep b o e hH (fun z => (nomatch z)) (fun z => (nomatch z))
      | some u =>
        have hba : b = a := Classical.byContradiction fun z => by rw [on.at_ b z] at hH; cases hH
        subst hba
        rcases on.is_ with z | ⟨ob, xs, z⟩
        · rw [z] at hH; cases hH
        · have e1 := (ok b _ z).1
          have e2 := (ok' b _ (un.frzs b ob _ z)).1
          rw [e] at e1
          rw [e1]; exact e2
  cases hk : K.lookup a with
  | some o =>
    have e := KX a o hk
    rw [ha] at e
    cases e
    exact run (fun _ => none) ⟨fun _ _ => rfl, .inl rfl⟩ (fun z => absurd rfl z) (fun b u z => (nomatch (show (none : Option HO) = some u from z))) (.inr ⟨_, vs.toArray, _, hk, rfl, rfl, rfl, by rw [List.size_toArray, hi.length]; exact hl, by simpa using vals⟩)
  | none =>
    have at_a : (fun b => if b = a then some (HO.frz { cls := .type "list", data := .seq vs.toArray } (.lst (ns.map V.int))) else none) a = some (HO.frz { cls := .type "list", data := .seq vs.toArray } (.lst (ns.map V.int))) := if_pos rfl
    refine run (fun b => if b = a then some (.frz { cls := .type "list", data := .seq vs.toArray } (.lst (ns.map V.int))) else none) ⟨fun b z => if_neg z, .inr ⟨_, _, at_a⟩⟩ (fun _ => hk) (fun b u z => ?_) (.inl ⟨_, at_a⟩)
    by_cases hba : b = a
    · subst hba
      have z := (if_pos rfl).symm.trans z
      cases z
      exact ⟨ha, by rw [List.length_map]; exact hl, vs, _, vals, ha⟩
    · have z := (if_neg hba).symm.trans z
      cases z
end
/-- a law's row, from its reading: on the script's ints it comes to True -/
theorem walkG {l : PySem.W.OpenLaw} {n k m : Nat} {q : Program} {loose : List Str} {XP : (Str → Option Value) → Heap → Prop} {YP : World → Heap → Prop} {d : DefRec} {K : Params → PySem.W.Frag} {x : Str} {b : DS}
    (hn : l.most = some n) (hn2 : n ≤ sizeLine) (hdf : d.params.defaults = []) (hr : RoomG k callerA) (hY : ∀ (w : World) (h : Heap), YP w h → (K w.params).In h)
    (F : ∀ (w : World) (mg : Str → Option Value) (fa : Addr) (h : Heap), (K w.params).In h → h.Ns mainGlobals mg → mg d.name = some (.ref fa) →
      ∃ fd : FuncData, (∀ (s : Shared) (u : Value), BindsTo s fd ⟨[u], []⟩ [(x, u)]) ∧ ∀ base : Heap, (K w.params).In base → base.Ns mainGlobals mg → FnG l.prog w (K w.params) mg base CX0 k fa fd [x] (spD (K w.params) 1 (runD m b)))
    (law : ∀ ns : List Int, ns.length ≤ n → runD m b [.fls (ns.map D.int)] (fun _ => none) fun d _ => d = .bl true) :
    PySem.W.WalkO q loose XP YP l.row.toRowW d [] (fun f vs => PySem.call f vs) := by
  refine Att.attach_call hn hdf fun w s₀ s₁ mg mb fa o pm cd doc a vs ns G Y ho hd hcd hmg hobj hints hlen hg => ?_
  have KX := hY w _ Y
  obtain ⟨fd, hb, hF⟩ := F w mg fa _ KX G.T.g hmg
  refine law_at KX G.T.g G.T.b G.T.builtins G.T.nolimit hg hobj hints (Nat.le_trans hlen hn2) hr hF hb fun H sq => ?_
  exact ⟨rfl, [.fls (ns.map D.int)], fun _ => none, _, rvs_cons' (rv_fls' sq (rvs_ints _)) rvs_nil', (fun a o e => nomatch e), fun d h' v H' _ rv _ e => by subst e; exact rv_bl rv, law ns hlen⟩
end DL

set_option Elab.async false
set_option linter.all false
set_option maxRecDepth 100000
/-! DL10: known defs, short words for the printed derivations. -/
namespace DL
open PySem PySem.Spec PyProof.Rows L2

abbrev dLt : DR2 := dCmp fun i j => decide (i < j)
abbrev dLe : DR2 := dCmp fun i j => decide (i ≤ j)
abbrev dGt : DR2 := dCmp fun i j => decide (j < i)
abbrev dGe : DR2 := dCmp fun i j => decide (j ≤ i)
def dIadd : DR2
  | .int i, .int j, h, Q => Q (.int (i + j)) h
  | _, _, _, _ => False

/-- a def of the module whose reading is known -/
def Known (P : Program) (w : World) (K : PySem.W.Frag) (mg : Str → Option Value) (base : Heap) (x : Str) (k n : Nat) (M : DC) : Prop :=
  ∃ (f : Addr) (fd : FuncData) (ps : List Str), FnG P w K mg base CX0 k f fd ps (spD K n M) ∧ mg x = some (.ref f) ∧ PySem.W.keepIn K (.ref f) = true ∧ Binds K fd ps []
theorem known_of {P : Program} {w : World} {K : PySem.W.Frag} {mg : Str → Option Value} {base : Heap} {x qual : Str} {st : Stmt} {f : Addr} {fd : FuncData} {ps : List Str} {k n : Nat} {M : DC} (F : Fun K x qual st f fd) (hm : mg x = some (.ref f)) (G : FnG P w K mg base CX0 k f fd ps (spD K n M)) (b : Binds K fd ps []) :
    Known P w K mg base x k n M := ⟨f, fd, ps, G, hm, F.kp, b⟩
section
variable {X : Cx} {K : PySem.W.Frag} {x : Str} {k n : Nat} {M : DC} {p pos : Pos} {e : Expr} {es : List Expr} {ta : TA} {da : DA}
theorem xkn (G : Known X.prog X.w X.K X.mg X.base x k n M) (hr : RoomG k X.A) (ha : XA X K (e :: es) ta da) (hg : Gl X x := by rfl) (hK : X.K = K := by rfl)
    (hdb : (x == ("__debug__" : Str)) = false := by decide) (he : starEach (e :: es) X.env = (false, eval e X.env) :: starEach es X.env := by rfl) (hpl : (backTo pos (starEach es X.env)).any (·.1) = false := by rfl) :
    XE X K (.Call (.Name x p) (e :: es) [] pos) (tCall (spD K n M) [] E0 ta) (dCall n M da) := by
  obtain ⟨f, fd, ps, F, hm, hk, hb⟩ := G
  exact xcall F hr hm hk hb pass0 ha hg hdb he hpl hK
theorem xkn0 (G : Known X.prog X.w X.K X.mg X.base x k n M) (hr : RoomG k X.A) (hg : Gl X x := by rfl) (hdb : (x == ("__debug__" : Str)) = false := by decide) (hK : X.K = K := by rfl) :
    XE X K (.Call (.Name x p) [] [] pos) (tCall (spD K n M) [] E0 tNil) (dCall n M dNil) := by
  obtain ⟨f, fd, ps, F, hm, hk, hb⟩ := G
  exact xcall0 F hr hm hk hb pass0 hg hdb hK
/-- constants of the module -/
theorem xgi {i : Int} (c : ∃ t, X.mg x = some (.int i t)) (hg : Gl X x := by rfl) (hd : (x == ("__debug__" : Str)) = false := by decide) : XE X K (.Name x pos) (tC (.int i)) (dC (.int i)) := by
  obtain ⟨t, h⟩ := c
  exact xglob h ⟨t, rfl⟩ (fun _ => rv_int') hg hd
theorem xgs {i : Str} (c : ∃ t, X.mg x = some (.str i t)) (hg : Gl X x := by rfl) (hd : (x == ("__debug__" : Str)) = false := by decide) : XE X K (.Name x pos) (tC (.str i)) (dC (.str i)) := by
  obtain ⟨t, h⟩ := c
  exact xglob h ⟨t, rfl⟩ (fun _ => rv_str') hg hd
theorem q_iadd : OpR X (inplaceOp .Add) (rI0 fun i j => .int (i + j)) ∧ LR2 K (rI0 fun i j => .int (i + j)) dIadd := ⟨iop_add, lrI0 fun x y h Q w => by
  cases x <;> cases y <;> first | exact w.elim | exact ⟨_, _, rfl, rfl, w⟩⟩
variable {a b c : Expr} {tb tc td : TE} {db dc dd : DE}
theorem le_chain {K : PySem.W.Frag} {r r' : R2} {q q' : DR2} (l1 : LR2 K r q) (l2 : LR2 K r' q') (la : LE K tb db) (lb : LE K tc dc) (lc : LE K td dd) : LE K (tChain r r' tb tc td) (dChain q q' db dc dd) := fun τ σ h H Q Q0 rs hr bw w =>
  la τ σ h H _ _ rs hr (fun x h1 v H1 x1 r1 hr1 w1 => lb τ σ h1 H1 _ _ (rs.mono x1) hr1 (fun y h2 u H2 x2 r2 hr2 w2 => l1 x y v u h2 H2 _ _ (RV.mono x2 _ _ r1) r2 hr2 (fun z h3 zv H3 x3 r3 hr3 w3 => by
    cases z with
    | bl k =>
      refine ⟨k, rv_bl r3, ?_⟩
      cases k with
      | true => have w3 := kt w3; exact lc τ σ h3 H3 _ _ (rs.mono (x1.trans (x2.trans x3))) hr3 (fun w4 h4 wv H4 x4 r4 hr4 w5 => l2 y w4 u wv h4 H4 Q Q0 (RV.mono (x3.trans x4) _ _ r2) r4 hr4 (bw.mono (x1.trans (x2.trans (x3.trans x4)))) w5) w3
      | false => have w3 := kf w3; exact bw _ h3 _ H3 (x1.trans (x2.trans x3)) rv_bl' hr3 w3
    | _ => exact w3.elim) w2) w1) w
theorem xchain {op op' : CmpOp} {r r' : R2} {q q' : DR2} (o : OpR X (compareOp op) r ∧ LR2 K r q) (o' : OpR X (compareOp op') r' ∧ LR2 K r' q') (ha : XE X K a tb db) (hb : XE X K b tc dc) (hc : XE X K c td dd)
    (hm : lastMarks [op, op'] [b, c] = false := by with_unfolding_all rfl) : XE X K (.Compare a [op, op'] [b, c] pos) (tChain r r' tb tc td) (dChain q q' db dc dd) := ⟨pe_chain o.1 o'.1 ha.p hb.p hc.p hm, le_chain o.2 o'.2 ha.l hb.l hc.l⟩
theorem xtchain {op op' : CmpOp} {r r' : R2} {q q' : DR2} (o : OpR X (compareOp op) r ∧ LR2 K r q) (o' : OpR X (compareOp op') r' ∧ LR2 K r' q') (ha : XE X K a tb db) (hb : XE X K b tc dc) (hc : XE X K c td dd)
    (hm : lastMarks [op, op'] [b, c] = false := by with_unfolding_all rfl) : XT X K (.Compare a [op, op'] [b, c] pos) (tTest (tChain r r' tb tc td)) (dTest (dChain q q' db dc dd)) := ⟨pt_chain o.1 o'.1 ha.p hb.p hc.p hm, lt_test (le_chain o.2 o'.2 ha.l hb.l hc.l)⟩
theorem xappend {o e : Expr} {to te : TE} {d1 de : DE} {apos cpos : Pos} (ho : XE X K o to d1) (he : XE X K e te de)
    (hbase : attributeBase o "append" X.env (eval o X.env) = eval o X.env := by rfl)
    (hfew : ((backTo cpos (starEach [e] X.env)).all (fun x => !x.1) && (backToKw cpos (keywordEach [] X.env)).all (fun x => x.1.isSome)
      && decide ([e].length + ([] : List Keyword).length + (if ([] : List Keyword).isEmpty then 0 else 1) < 30)) = true := by rfl)
    (hline : (apos.endLine == cpos.line) = true := by rfl) (hs : starEach [e] X.env = (false, eval e X.env) :: starEach [] X.env := by rfl) (hplain : (backTo cpos (starEach [] X.env)).any (·.1) = false := by rfl) (hK : X.K = K := by rfl) :
    XE X K (.Call (.Attribute o "append" apos) [e] [] cpos) (tBM K "list" rAppend to (tCons te tNil)) (dAppend d1 de) :=
  ⟨by subst hK; exact pe_bm PySem.F.plainAttrs_list PySem.F.slot_list_append PySem.F.type_list_append mt_append ho.p (pa_cons he.p pa_nil hs) hbase hfew hline hs hplain, lm_append ho.l he.l⟩
end
theorem mono_tup {K : PySem.W.Frag} {n : Nat} {r : TGs} (m : ∀ v σ H (Q Q' : L2.St → Hp → Prop), (∀ s h, Q s h → Q' s h) → r v σ H Q → r v σ H Q') : ∀ v σ H (Q Q' : L2.St → Hp → Prop), (∀ s h, Q s h → Q' s h) → gTup K n r v σ H Q → gTup K n r v σ H Q' := fun v σ H Q Q' k ⟨a, xs, e, s, l, w⟩ => ⟨a, xs, e, s, l, m _ _ _ _ _ k w⟩
theorem monos_nil : ∀ v σ H (Q Q' : L2.St → Hp → Prop), (∀ s h, Q s h → Q' s h) → gNil v σ H Q → gNil v σ H Q' := fun v σ H Q Q' k w => ⟨w.1, k _ _ w.2⟩
theorem monos_cons {g : TG} {r : TGs} (m1 : ∀ v σ H (Q Q' : L2.St → Hp → Prop), (∀ s h, Q s h → Q' s h) → g v σ H Q → g v σ H Q') (m2 : ∀ v σ H (Q Q' : L2.St → Hp → Prop), (∀ s h, Q s h → Q' s h) → r v σ H Q → r v σ H Q') :
    ∀ v σ H (Q Q' : L2.St → Hp → Prop), (∀ s h, Q s h → Q' s h) → gCons g r v σ H Q → gCons g r v σ H Q' := fun v σ H Q Q' k ⟨x, xs, e, w⟩ => ⟨x, xs, e, m1 _ _ _ _ _ (fun s h w' => m2 _ _ _ _ _ k w') w⟩
end DL

set_option Elab.async false
set_option linter.all false
set_option maxRecDepth 100000
/-! DL11: words that stand still while a reading is stepped through; rules for loops; the bag. -/
namespace DL
open PySem PySem.Spec PyProof.Rows L2

@[irreducible] noncomputable def kFor : DI → DTG → DS → DS := hide dFor
@[irreducible] noncomputable def kWhile : DT → DS → DS := hide dWhile
@[irreducible] noncomputable def kLc : DI → DTG → DT → DE → List Nat → DE := hide dLc
@[irreducible] noncomputable def kLoop : (DH → Prop) → DTG → DS → DEnds → List D → DSt → DH → Prop := hide dLoop
@[irreducible] noncomputable def kGo : (DH → Prop) → DTG → DT → DE → Addr → DSt → DK → List D → DH → Prop := hide dLcGo
def dEqU (neg : Bool) : DR2 := fun x y h Q => dEq neg x y h Q ∨ ∃ s t : Str, x = .str s ∧ y = .str t ∧ Q (.bl (if neg then !decide (s = t) else decide (s = t))) h
@[irreducible] noncomputable def kEq : Bool → DR2 := hide dEqU
theorem kFor_eq {di g tb} : kFor di g tb = dFor di g tb := by unfold kFor; rw [hide_eq]
theorem kWhile_eq {c t} : kWhile c t = dWhile c t := by unfold kWhile; rw [hide_eq]
theorem kLc_eq {di g tt te vs} : kLc di g tt te vs = dLc di g tt te vs := by unfold kLc; rw [hide_eq]
theorem kLoop_eq {G g tb N items τ h} : kLoop G g tb N items τ h = dLoop G g tb N items τ h := by unfold kLoop; rw [hide_eq]
theorem kGo_eq {G g tt te p τ Q items h} : kGo G g tt te p τ Q items h = dLcGo G g tt te p τ Q items h := by unfold kGo; rw [hide_eq]
theorem kEq_eq {neg} : kEq neg = dEqU neg := by unfold kEq; rw [hide_eq]
section
variable {X : Cx} {K : PySem.W.Frag}
theorem dec_strV {s t : Str} : decide (V.str s = V.str t) = decide (s = t) := by simp
theorem qk_eq (hu : X.A.units + 64 < cLine) (hK : X.K = K := by rfl) : OpR X (compareOp .Eq) (fun x y H Q => rEqD K x y H Q ∨ rEq x y H Q) ∧ LR2 K (fun x y H Q => rEqD K x y H Q ∨ rEq x y H Q) (kEq false) := by
  rw [kEq_eq]
  refine ⟨(q_eq hu hK).1.or op_eq, fun d e x y h H Q Q0 r1 r2 hr bw w => ?_⟩
  rcases w with w | ⟨s, t, e1, e2, w⟩
  · exact .inl ((q_eq (X := X) hu hK).2 d e x y h H Q Q0 r1 r2 hr bw w)
  · subst e1 e2
    rw [rv_str r1, rv_str r2]
    refine .inr ⟨rfl, ?_⟩
    rw [dec_strV]
    exact bw _ h _ H TX.refl rv_bl' hr w
theorem qk_ne (hu : X.A.units + 64 < cLine) (hK : X.K = K := by rfl) : OpR X (compareOp .NotEq) (fun x y H Q => rNeD K x y H Q ∨ rNe x y H Q) ∧ LR2 K (fun x y H Q => rNeD K x y H Q ∨ rNe x y H Q) (kEq true) := by
  rw [kEq_eq]
  refine ⟨(q_ne hu hK).1.or op_ne, fun d e x y h H Q Q0 r1 r2 hr bw w => ?_⟩
  rcases w with w | ⟨s, t, e1, e2, w⟩
  · exact .inl ((q_ne (X := X) hu hK).2 d e x y h H Q Q0 r1 r2 hr bw w)
  · subst e1 e2
    rw [rv_str r1, rv_str r2]
    refine .inr ⟨rfl, ?_⟩
    rw [dec_strV]
    exact bw _ h _ H TX.refl rv_bl' hr w
theorem xs_kfor {tg iter : Expr} {body : List Stmt} {w0 : TI} {di : DI} {g0 : TG} {g : DTG} {t0 : TS} {t : DS} {pos : Pos} (hp : PassesOwn (model X.prog X.w) X.A X.env X.xe) (hc : X.calm = true) (hi : XI X K tg iter w0 di) (hg : XG X K tg g0 g) (hb : XSs X K body t0 t)
    (hs : ∀ x, foldedSetIterable iter X.env x = pure x := by intro _; rfl) : XS X K (.For tg iter body [] pos) (tFor w0 g0 t0) (kFor di g t) := by rw [kFor_eq]; exact xs_for hp hc hi hg hb hs
theorem xs_kwhile {c : Expr} {body : List Stmt} {c0 : TT} {dc : DT} {t0 : TS} {t : DS} {pos : Pos} (hp : PassesOwn (model X.prog X.w) X.A X.env X.xe) (hc : XT X K c c0 dc) (hb : XSs X K body t0 t) : XS X K (.While c body [] pos) (tWhile c0 t0) (kWhile dc t) := by rw [kWhile_eq]; exact xs_while hp hc hb
theorem xklc {elt tg iter : Expr} {ifs : List Expr} {scope : Scope} {own : List (Str × Nat)} {pos : Pos} {w0 : TI} {di : DI} {g0 : TG} {g : DTG} {t0 : TT} {tt : DT} {e0 : TE} {te : DE} (hc : X.calm = true) (hN : X.N.Nodup) (hi : XI X K tg iter w0 di) (ok : BlkOk X.N X.env.scope scope own)
    (hg : ∀ (s : Shared) (H : Hp) (C : Addr) (cl : List (Str × Addr)) (fp : List Addr), XG (X.blk s H scope (compEnvC scope cl C X.env) fp) K tg g0 g) (ho : Own (own.map (·.2)) g0) (ht : ∀ (s : Shared) (H : Hp) (C : Addr) (cl : List (Str × Addr)) (fp : List Addr), XTs (X.blk s H scope (compEnvC scope cl C X.env) fp) K ifs t0 tt) (he : ∀ (s : Shared) (H : Hp) (C : Addr) (cl : List (Str × Addr)) (fp : List Addr), XE (X.blk s H scope (compEnvC scope cl C X.env) fp) K elt e0 te) (hs : ∀ x, foldedSetIterable iter X.env x = pure x := by intro _; rfl) :
    XE X K (.ListComp elt [⟨tg, iter, ifs, 0⟩] scope pos) (tLc w0 g0 t0 e0 (own.map (·.2))) (kLc di g tt te (own.map (·.2))) := by rw [kLc_eq]; exact xlc hc hN hi ok hg ho ht he hs
theorem xs_ksetLc {i : Nat} {y : Str} {py : Pos} {elt tg iter : Expr} {ifs : List Expr} {scope : Scope} {own : List (Str × Nat)} {pos spos : Pos} {w0 : TI} {di : DI} {g0 : TG} {g : DTG} {t0 : TT} {tt : DT} {e0 : TE} {te : DE} (hc : X.calm = true) (hN : X.N.Nodup)
    (hi : XI X K tg iter w0 di) (ok : BlkOk X.N X.env.scope scope own) (hg : ∀ (s : Shared) (H : Hp) (C : Addr) (cl : List (Str × Addr)) (fp : List Addr), XG (X.blk s H scope (compEnvC scope cl C X.env) fp) K tg g0 g) (ho : Own (own.map (·.2)) g0) (ht : ∀ (s : Shared) (H : Hp) (C : Addr) (cl : List (Str × Addr)) (fp : List Addr), XTs (X.blk s H scope (compEnvC scope cl C X.env) fp) K ifs t0 tt) (he : ∀ (s : Shared) (H : Hp) (C : Addr) (cl : List (Str × Addr)) (fp : List Addr), XE (X.blk s H scope (compEnvC scope cl C X.env) fp) K elt e0 te)
    (hy : X.N[i]? = some y := by rfl) (hyl : X.env.scope.names.lookup y = some .local := by rfl)
    (hsw : swapsWith (.ListComp elt [⟨tg, iter, ifs, 0⟩] scope pos) (some (.Name y py)) spos.line X.env = pure true := by exact sw_true rfl rfl rfl (by decide +kernel)) (hs : ∀ x, foldedSetIterable iter X.env x = pure x := by intro _; rfl) :
    XS X K (.Assign [.Name y py] (.ListComp elt [⟨tg, iter, ifs, 0⟩] scope pos) spos) (tAsg (tLc w0 g0 t0 e0 (own.map (·.2))) (gName i)) (dAsg (kLc di g tt te (own.map (·.2))) (gdName i)) := by rw [kLc_eq]; exact xs_setLc hc hN hi ok hg ho ht he hy hyl hsw hs
end

/-! ### stepping -/
theorem w_need {o : Option D} {v : D} {h : DH} {Q : DK} (e : o = some v) (k : Q v h) : need o h Q := by rw [need_eq]; subst e; exact k
theorem w_set {a : Addr} {y v : D} {u : DO} {h : DH} {Q : DH → Prop} (e : setO (h a) y v = some u) (k : Q (hupd h a u)) : dSet (.loc a) y v h Q := by rw [dSet_eq]; unfold dSet0; dsimp only; rw [e]; exact k
theorem w_ite {c : Prop} [Decidable c] {a b : Prop} (h1 : c → a) (h2 : ¬ c → b) : kIte (decide c) a b := by
  rw [kIte_eq]
  by_cases q : c
  · rw [if_pos (decide_eq_true q)]; exact h1 q
  · rw [if_neg (by simp [q])]; exact h2 q
theorem w_iteb {c : Bool} {a b : Prop} (h1 : c = true → a) (h2 : c = false → b) : kIte c a b := by
  rw [kIte_eq]
  cases c with
  | true => rw [if_pos rfl]; exact h1 rfl
  | false => rw [if_neg Bool.false_ne_true]; exact h2 rfl
theorem w_t {c : Bool} {a b : Prop} (e : c = true) (h : a) : kIte c a b := by rw [kIte_eq]; rw [if_pos e]; exact h
theorem w_f {c : Bool} {a b : Prop} (e : c = false) (h : b) : kIte c a b := by rw [kIte_eq]; rw [if_neg (by simp [e])]; exact h
theorem w_ix {a : Addr} {xs : List D} {y v : D} {h : DH} {Q : DK} (e : h a = some (.lst xs)) (g : getI xs y = some v) (k : Q v h) : need (ixD h (.loc a) y) h Q := w_need (by show getO (h a) y = some v; rw [e]; exact g) k
theorem w_setL {a : Addr} {xs : List D} {y v : D} {u : DO} {h : DH} {Q : DH → Prop} (e : h a = some (.lst xs)) (g : setI xs v y = some u) (k : Q (hupd h a u)) : dSet (.loc a) y v h Q := w_set (by rw [e]; exact g) k
theorem w_for {di : DI} {g : DTG} {tb : DS} {N : DEnds} {τ : DSt} {h : DH} (k : di τ h fun items G h1 => kLoop G g tb N items τ h1) : kFor di g tb N τ h := by
  rw [kFor_eq]
  have e : (fun items G h1 => kLoop G g tb N items τ h1) = fun items G h1 => dLoop G g tb N items τ h1 := by funext a b c; exact kLoop_eq
  rw [e] at k
  exact k
theorem w_lc {di : DI} {g : DTG} {tt : DT} {te : DE} {vs : List Nat} {Q : DK} {τ : DSt} {h : DH} (k : di τ h fun items G h1 => ∀ p, h1 p = none → kGo G g tt te p (wipeD τ vs) Q items (hupd h1 p (.lst []))) : kLc di g tt te vs τ h Q := by
  rw [kLc_eq]
  have e : (fun (items : List D) (G : DH → Prop) (h1 : DH) => ∀ p, h1 p = none → kGo G g tt te p (wipeD τ vs) Q items (hupd h1 p (.lst []))) = fun items G h1 => ∀ p, h1 p = none → dLcGo G g tt te p (wipeD τ vs) Q items (hupd h1 p (.lst [])) := by
    funext a b c
    exact propext ⟨fun q p hp => kGo_eq ▸ q p hp, fun q p hp => kGo_eq.symm ▸ q p hp⟩
  rw [e] at k
  exact k
/-- a loop, by what holds ahead of each turn -/
theorem w_loop {G : DH → Prop} {g : DTG} {tb : DS} {N : DEnds} {items : List D} {τ : DSt} {h : DH} (I : Nat → DSt → DH → Prop) (h0 : I 0 τ h) (hG : ∀ i τ h, i ≤ items.length → I i τ h → G h)
    (step : ∀ i d τ h (nx : DSt → DH → Prop), items[i]? = some d → I i τ h → (∀ τ2 h2, I (i + 1) τ2 h2 → nx τ2 h2) → g d τ h fun τ1 h1 => tb { N with nx := nx, ct := nx, bk := N.nx } τ1 h1)
    (last : ∀ τ h, I items.length τ h → N.nx τ h) : kLoop G g tb N items τ h := by
  rw [kLoop_eq]
  have key : ∀ (rest done : List D), done ++ rest = items → ∀ τ h, I done.length τ h → dLoop G g tb N rest τ h := by
    intro rest
    induction rest with
    | nil =>
      intro done e τ h hi
      rw [List.append_nil] at e
      subst e
      exact ⟨hG _ _ _ (Nat.le_refl _) hi, last _ _ hi⟩
    | cons d ds ih =>
      intro done e τ h hi
      subst e
      refine ⟨hG _ _ _ (by simp) hi, ?_⟩
      have nx : ∀ τ2 h2, I (done.length + 1) τ2 h2 → dLoop G g tb N ds τ2 h2 := fun τ2 h2 q => ih (done ++ [d]) (by simp) τ2 h2 (by simpa using q)
      exact step done.length d τ h (dLoop G g tb N ds) (by simp) hi nx
  exact key items [] rfl τ h h0
theorem rangeD_get {lo : Int} {n i : Nat} {d : D} (e : (rangeD lo n)[i]? = some d) : i < n ∧ d = .int (lo + i) := by
  unfold rangeD at e
  rw [List.getElem?_map] at e
  cases z : (List.range n)[i]? with
  | none => rw [z] at e; cases e
  | some j =>
    rw [z] at e
    obtain ⟨hl, e2⟩ := List.getElem?_eq_some_iff.mp z
    rw [List.length_range] at hl
    rw [List.getElem_range] at e2
    subst e2
    exact ⟨hl, (Option.some.inj e).symm⟩
theorem rangeD_length {lo : Int} {n : Nat} : (rangeD lo n).length = n := by simp [rangeD]
theorem w_range {g : DTG} {tb : DS} {N : DEnds} {lo : Int} {n : Nat} {τ : DSt} {h : DH} (I : Nat → DSt → DH → Prop) (h0 : I 0 τ h)
    (step : ∀ i τ h (nx : DSt → DH → Prop), i < n → I i τ h → (∀ τ2 h2, I (i + 1) τ2 h2 → nx τ2 h2) → g (.int (lo + i)) τ h fun τ1 h1 => tb { N with nx := nx, ct := nx, bk := N.nx } τ1 h1)
    (last : ∀ τ h, I n τ h → N.nx τ h) : kLoop (fun _ => True) g tb N (rangeD lo n) τ h := by
  refine w_loop I h0 (fun _ _ _ _ _ => trivial) (fun i d τ h nx e q k => ?_) (fun τ h q => last τ h (by rwa [rangeD_length] at q))
  obtain ⟨hi, e2⟩ := rangeD_get e
  subst e2
  exact step i τ h nx hi q k
def kPush0 (p : Addr) (C : DH → Prop) (y : D) (h : DH) : Prop := match lstO (h p) with
  | some acc => acc.length < sizeLine ∧ C (hupd h p (.lst (acc ++ [y])))
  | none => False
@[irreducible] noncomputable def kPush : Addr → (DH → Prop) → D → DH → Prop := hide kPush0
theorem kPush_eq {p : Addr} {C : DH → Prop} {y : D} {h : DH} : kPush p C y h = kPush0 p C y h := by unfold kPush; rw [hide_eq]
theorem w_push {p : Addr} {C : DH → Prop} {y : D} {h : DH} {acc : List D} (e : h p = some (.lst acc)) (l : acc.length < sizeLine) (k : C (hupd h p (.lst (acc ++ [y])))) : kPush p C y h := by rw [kPush_eq]; unfold kPush0; rw [e]; exact ⟨l, k⟩
/-- a comprehension, by what holds ahead of each turn -/
theorem w_go {G : DH → Prop} {g : DTG} {tt : DT} {te : DE} {p : Addr} {τ : DSt} {Q : DK} {items : List D} {h : DH} (I : Nat → DH → Prop) (h0 : I 0 h) (hG : ∀ i h, i ≤ items.length → I i h → G h)
    (step : ∀ i d h (C : DH → Prop), items[i]? = some d → I i h → (∀ h2, I (i + 1) h2 → C h2) → g d τ h fun τ2 h2 => tt τ2 h2 fun b h3 => kIte b (te τ2 h3 fun y h4 => kPush p C y h4) (C h3))
    (last : ∀ h, I items.length h → Q (.loc p) h) : kGo G g tt te p τ Q items h := by
  rw [kGo_eq]
  have key : ∀ (rest done : List D), done ++ rest = items → ∀ h, I done.length h → dLcGo G g tt te p τ Q rest h := by
    intro rest
    induction rest with
    | nil =>
      intro done e h hi
      rw [List.append_nil] at e
      subst e
      exact ⟨hG _ _ (Nat.le_refl _) hi, last _ hi⟩
    | cons d ds ih =>
      intro done e h hi
      subst e
      refine ⟨hG _ _ (by simp) hi, ?_⟩
      have nx : ∀ h2, I (done.length + 1) h2 → dLcGo G g tt te p τ Q ds h2 := fun h2 q => ih (done ++ [d]) (by simp) h2 (by simpa using q)
      have a := step done.length d h (fun h2 => dLcGo G g tt te p τ Q ds h2) (by simp) hi nx
      have e : (fun y h4 => kPush p (fun h2 => dLcGo G g tt te p τ Q ds h2) y h4) = fun y h4 => (match lstO (h4 p) with | some acc => acc.length < sizeLine ∧ dLcGo G g tt te p τ Q ds (hupd h4 p (.lst (acc ++ [y]))) | none => False) := by
        funext y h4
        rw [kPush_eq]
        rfl
      rw [e] at a
      exact a
  exact key items [] rfl h h0

/-! ### sorted(set(..)) of tuples of ints -/
def kSort0 (o : Option (List (List Int))) (h : DH) (Q : DK) : Prop := match o with
  | some ks => (ks.length < 64 ∧ ∀ k ∈ ks, k ≠ []) ∧ ∀ (ms : List (List Int)) (p : Addr), (∀ k, k ∈ ms ↔ k ∈ ks) → ms.Pairwise (fun a b => HT.lexLt a b = true) → h p = none → Q (.loc p) (hupd h p (.lst (ms.map tupI)))
  | none => False
@[irreducible] noncomputable def kSort : Option (List (List Int)) → DH → DK → Prop := hide kSort0
theorem kSort_eq {o : Option (List (List Int))} {h : DH} {Q : DK} : kSort o h Q = kSort0 o h Q := by unfold kSort; rw [hide_eq]
noncomputable def kSortSet (t : DE) : DE := fun τ h Q => t τ h fun x h1 => kSort ((seqD h1 x).bind tupsD) h1 Q
theorem kSortSet_eq {t : DE} : kSortSet t = dSortSet t := by
  funext τ h Q
  unfold kSortSet dSortSet
  have e : (fun (x : D) (h1 : DH) => kSort ((seqD h1 x).bind tupsD) h1 Q) = fun x h1 => kSort0 ((seqD h1 x).bind tupsD) h1 Q := by funext x h1; rw [kSort_eq]
  rw [e]
  rfl
theorem xksortset {X : Cx} {K : PySem.W.Frag} {e : Expr} {te : TE} {de : DE} {p1 p2 p3 p4 : Pos} (hc : X.calm = true) (hu : X.A.units + 64 < cLine) (he : XE X K e te de) (hm : X.mg "sorted" = none) (hm2 : X.mg "set" = none) (hg : Gl X "sorted" := by rfl) (hg2 : Gl X "set" := by rfl)
    (h1 : starEach [e] X.env = [(false, eval e X.env)] := by rfl) (h2 : starEach [.Call (.Name "set" p3) [e] [] p4] X.env = [(false, eval (.Call (.Name "set" p3) [e] [] p4) X.env)] := by rfl) (hK : X.K = K := by rfl) :
    XE X K (.Call (.Name "sorted" p1) [.Call (.Name "set" p3) [e] [] p4] [] p2) (tCB (rSortSet X.K X.prog X.w) (tCons (tCB (rSetOfT X.K X.prog X.w) (tCons te tNil)) tNil)) (kSortSet de) := by rw [kSortSet_eq]; exact xsortset hc hu he hm hm2 hg hg2 h1 h2 hK
theorem w_sortset {o : Option (List (List Int))} {ks : List (List Int)} {h : DH} {Q : DK} (e : o = some ks) (h1 : ks.length < 64 ∧ ∀ k ∈ ks, k ≠ []) (k : ∀ (ms : List (List Int)) (p : Addr) (h' : DH), (∀ k, k ∈ ms ↔ k ∈ ks) → ms.Pairwise (fun a b => HT.lexLt a b = true) → h p = none → Ext h h' → h' p = some (.lst (ms.map tupI)) → Q (.loc p) h') : kSort o h Q := by
  subst e; rw [kSort_eq]; exact ⟨h1, fun ms p a b c => k ms p _ a b c (ext_new c) hupd_same⟩
theorem seq_of {h : DH} {p : Addr} {xs : List D} (e : h p = some (.lst xs)) : seqD h (.loc p) = some xs := by show lstO (h p) = _; rw [e]; rfl
theorem tup_of {h : DH} {p : Addr} {xs : List D} (e : h p = some (.lst xs)) : (isTup (.loc p)).or (seqD h (.loc p)) = some xs := by show lstO (h p) = _; rw [e]; rfl
theorem newAt {h h' : DH} {p : Addr} {o : DO} (hh : hupd h p o = h') (hp : h p = none) : Ext h h' ∧ h' p = some o := by subst hh; exact ⟨ext_new hp, hupd_same⟩
/-! ### equal data -/
theorem w_eqi {neg : Bool} {i j : Int} {h : DH} {Q : DK} (k : Q (.bl (if neg then !decide (i = j) else decide (i = j))) h) : kEq neg (.int i) (.int j) h Q := by
  rw [kEq_eq]
  refine .inl ⟨_, _, .int i, .int j, rfl, rfl, ?_⟩
  have e : PyData.eqv (.int i) (.int j) = decide (i = j) := by
    simp [PyData.eqv]
    rfl
  rw [e]
  exact k
theorem w_eqs {neg : Bool} {i j : Str} {h : DH} {Q : DK} (k : Q (.bl (if neg then !decide (i = j) else decide (i = j))) h) : kEq neg (.str i) (.str j) h Q := by
  rw [kEq_eq]
  exact .inr ⟨i, j, rfl, rfl, k⟩
theorem w_eqd {neg : Bool} {x y : D} {h : DH} {Q : DK} {p q : PyData} (h1 : PD h x p) (h2 : PD h y q) (s1 : SeqAt.shaped p = true) (s2 : SeqAt.shaped q = true) (k : Q (.bl (if neg then !PyData.eqv p q else PyData.eqv p q)) h) : kEq neg x y h Q := by
  rw [kEq_eq]
  exact .inl ⟨p, q, h1, h2, s1, s2, k⟩

/-! ### repr -/
def okI (i : Int) : Prop := i.natAbs < 10 ^ 100
theorem leaf_int {i : Int} (h : okI i) : PyData.leavesShort 101 (.int i) = true := by
  have e := int_text_length_le10 (k := 100) (by decide) h
  simp only [PyData.leavesShort, decide_eq_true_eq]
  show (Str.ofString (toString i)).length ≤ 101
  rw [PySem.ofString_length]; exact e
theorem show_int {i : Int} (h : okI i) : PyData.showable (.int i) = true := by
  simp only [PyData.showable, decide_eq_true_eq]
  by_cases z : i.natAbs = 0
  · rw [z]; decide
  · exact (Nat.log2_lt z).mpr (Nat.lt_trans h (by decide +kernel))
@[irreducible] noncomputable def kRepr : DC := hide bRepr
theorem kRepr_eq : kRepr = bRepr := by unfold kRepr; rw [hide_eq]
theorem qk_repr {X : Cx} {K : PySem.W.Frag} {k : Nat} (hr : RoomG k X.A) (hK : X.K = K := by rfl) : CallR X (.builtin "repr") (rRepr K) ∧ LC K (rRepr K) kRepr := by rw [kRepr_eq]; exact q_repr hr hK
theorem w_repr {d : D} {h : DH} {Q : DK} {p : PyData} (pd : PD h d p) (a : p.showable = true) (dp : p.depth ≤ 50) (l : p.leavesShort 101 = true) (bk : p.bulk ≤ 150000) (k : Q (.str p.shown) h) : kRepr [d] h Q := by
  rw [kRepr_eq]
  refine ⟨p, pd, a, dp, ?_, k⟩
  have := PyData.shown_le_bulk 101 (by decide) p l
  have e : sizeLine = 16777216 := rfl
  omega
/-! ### small facts -/
theorem mulR {i j : Int} (h1 : -(2 ^ 64) < j) (h2 : j < 2 ^ 64) : MulOk i j := .inr (.inl ⟨h1, h2⟩)
theorem mulL {i j : Int} (h1 : -(2 ^ 64) < i) (h2 : i < 2 ^ 64) : MulOk i j := .inl ⟨h1, h2⟩
theorem divOk {j : Int} (h1 : 0 < j) (h2 : j < 2 ^ 250) : DivOk j := ⟨h1, h2⟩
end DL

set_option Elab.async false
set_option linter.all false
set_option maxRecDepth 100000
/-! DL12: while, list.index. -/
namespace DL
open PySem PySem.Spec PyProof.Rows L2
/-- a while loop: I n holds ahead of each test, and n falls -/
theorem w_while {c : DT} {t : DS} {N : DEnds} {τ : DSt} {h : DH} (I : Nat → DSt → DH → Prop) {n0 : Nat} (h0 : I n0 τ h)
    (step : ∀ n τ h (nx : DSt → DH → Prop), I n τ h → (∀ m τ2 h2, m < n → I m τ2 h2 → nx τ2 h2) → c τ h fun b h1 => kIte b (t { N with nx := nx, ct := nx, bk := N.nx } τ h1) (N.nx τ h1)) : kWhile c t N τ h := by
  rw [kWhile_eq]
  refine ⟨n0 + 1, ?_⟩
  have key : ∀ M n τ h, n < M → I n τ h → dWh c t N M τ h := by
    intro M
    induction M with
    | zero => intro n τ h hn _; exact absurd hn (Nat.not_lt_zero _)
    | succ M ih =>
      intro n τ h hn hI
      exact step n τ h (dWh c t N M) hI fun m τ2 h2 hm hI2 => ih m τ2 h2 (by omega) hI2
  exact key (n0 + 1) n0 τ h (Nat.lt_succ_self _) h0

theorem RoomG.hu5 {k : Nat} {A : Around} (r : RoomG k A) : A.units + 65 < cLine := by have := r.r.un; omega
/-! ### list.index -/
def kIdx0 (x y : D) (h : DH) (Q : DK) : Prop := ∃ (ds : List PyData) (d : PyData) (j : Nat) (z : PyData), PD h x (.list ds) ∧ PD h y d ∧ SeqAt.shaped (.list ds) = true ∧ SeqAt.shaped d = true ∧ ds[j]? = some z ∧ PyData.eqv z d = true ∧
  (∀ (m : Nat) (z' : PyData), m < j → ds[m]? = some z' → PyData.eqv z' d = false) ∧ Q (.int (j : Nat)) h
@[irreducible] noncomputable def kIdx : D → D → DH → DK → Prop := hide kIdx0
theorem kIdx_eq {x y : D} {h : DH} {Q : DK} : kIdx x y h Q = kIdx0 x y h Q := by unfold kIdx; rw [hide_eq]
noncomputable def dIndex (a : DE) (b : DE) : DE := fun τ h Q => a τ h fun x h1 => match x with
  | .loc l => (∃ xs, h1 l = some (.lst xs)) ∧ b τ h1 fun y h2 => kIdx (.loc l) y h2 Q
  | _ => False
section
variable {X : Cx} {K : PySem.W.Frag}
theorem lm_index {ta te : TE} {da de : DE} (la : LE K ta da) (le : LE K te de) : LE K (tBM K "list" (rIndexD K) ta (tCons te tNil)) (dIndex da de) := fun τ σ h H Q Q0 rs hr bw w =>
  la τ σ h H _ _ rs hr (fun x h1 v H1 x1 r1 hr1 w1 => by
    cases x with
    | loc l =>
      obtain ⟨⟨xs0, hl⟩, w1⟩ := w1
      obtain ⟨vs0, s0, q0⟩ := hr1 _ _ hl
      have e := rv_loc r1
      subst e
      refine ⟨Or.inl ⟨rfl, _, Or.inl (Or.inl s0)⟩, ?_⟩
      refine le τ σ h1 H1 _ _ (rs.mono x1) hr1 (fun y h2 u H2 x2 r2 hr2 w2 => ?_) w1
      rw [kIdx_eq] at w2
      obtain ⟨ds, d, j, z, p1, p2, s1, s2, g1, g2, g3, w3⟩ := w2
      exact ⟨l, u, d, ds, j, z, rfl, rfl, p1.dp hr2 (RV.mono x2 _ _ r1), p2.dp hr2 r2, s1, s2, g1, g2, g3, bw _ h2 _ H2 (x1.trans x2) rv_int' hr2 w3⟩
    | _ => exact w1.elim) w
theorem xindex {o e : Expr} {to te : TE} {d1 de : DE} {apos cpos : Pos} (hu : X.A.units + 65 < cLine) (ho : XE X K o to d1) (he : XE X K e te de)
    (hbase : attributeBase o "index" X.env (eval o X.env) = eval o X.env := by rfl)
    (hfew : ((backTo cpos (starEach [e] X.env)).all (fun x => !x.1) && (backToKw cpos (keywordEach [] X.env)).all (fun x => x.1.isSome)
      && decide ([e].length + ([] : List Keyword).length + (if ([] : List Keyword).isEmpty then 0 else 1) < 30)) = true := by rfl)
    (hline : (apos.endLine == cpos.line) = true := by rfl) (hs : starEach [e] X.env = (false, eval e X.env) :: starEach [] X.env := by rfl) (hplain : (backTo cpos (starEach [] X.env)).any (·.1) = false := by rfl) (hK : X.K = K := by rfl) :
    XE X K (.Call (.Attribute o "index" apos) [e] [] cpos) (tBM K "list" (rIndexD K) to (tCons te tNil)) (dIndex d1 de) :=
  ⟨by subst hK; exact pe_bm PySem.F.plainAttrs_list PySem.F.slot_list_index PySem.F.type_list_index (mt_indexD hu) ho.p (pa_cons he.p pa_nil hs) hbase hfew hline hs hplain, lm_index ho.l he.l⟩
end
end DL

set_option Elab.async false
set_option linter.all false
set_option maxRecDepth 100000
/-! DL13: {k: v, ..} with keys ints and texts. -/
namespace DL
open PySem PySem.Spec PyProof.Rows L2
def dPairs : List (DE × DE) → DSt → DH → (List (Key × D) → DH → Prop) → Prop
  | [], _, h, Q => Q [] h
  | (tk, tv) :: r, τ, h, Q => tk τ h fun x h1 => tv τ h1 fun y h2 => match keyD x with
    | some k => dPairs r τ h2 fun ps h3 => Q ((k, y) :: ps) h3
    | none => False
def LPs (K : PySem.W.Frag) (trs : List (TE × TE)) (ds : List (DE × DE)) : Prop := ∀ τ σ h H (Q : List (Key × D) → DH → Prop) (Q0 : List (V × V) → Hp → Prop), RS K H τ σ → HR K H h →
  (∀ kvs h' (us : List (Key × V)) H', TX K H H' → RKV K H' kvs us → HR K H' h' → Q kvs h' → Q0 (us.map fun kv => (kV kv.1, kv.2)) H') → dPairs ds τ h Q → tPairs trs σ H Q0
structure XPPs (X : Cx) (K : PySem.W.Frag) (pos : Pos) (keys : List (Option Expr)) (values : List Expr) (trs : List (TE × TE)) (ds : List (DE × DE)) : Prop where
  p : PPs X pos keys values trs
  l : LPs K trs ds
def mergeD (kvs more : List (Key × D)) : List (Key × D) := more.foldl (fun acc kv => putD acc kv.1 kv.2) kvs
theorem rkv_merge {K : PySem.W.Frag} {H : Hp} : ∀ {more : List (Key × D)} {us : List (Key × V)} {kvs : List (Key × D)} {vs : List (Key × V)}, RKV K H more us → RKV K H kvs vs → RKV K H (mergeD kvs more) (mergeK vs us) := by
  intro more us kvs vs r
  unfold RKV at r
  induction r generalizing kvs vs with
  | nil => intro q; exact q
  | @cons p q ps qs h t ih =>
    intro r0
    obtain ⟨p1, p2⟩ := p
    obtain ⟨q1, q2⟩ := q
    obtain ⟨h1, h2⟩ := h
    have h1 : p1 = q1 := h1
    subst h1
    exact ih (rkv_put r0 p1 h2)
def dDisp (ds : List (DE × DE)) : DE := fun τ h Q => ∀ p, h p = none → dPairs ds τ (hupd h p (.dK [])) fun kvs h2 => h2 p = some (.dK []) ∧ kvs.length ≤ 15 ∧ Q (.loc p) (hupd h2 p (.dK (mergeD [] kvs)))
section
variable {X : Cx} {K : PySem.W.Frag} {pos : Pos}
theorem xpps_nil : XPPs X K pos [] [] [] [] := ⟨pps_nil, fun τ σ h H Q Q0 rs hr bw w => bw [] h [] H TX.refl .nil hr w⟩
theorem xpps_cons {k v : Expr} {ks : List (Option Expr)} {vs : List Expr} {tk tv : TE} {dk dv : DE} {trs : List (TE × TE)} {ds : List (DE × DE)} (hk : XE X K k tk dk) (hv : XE X K v tv dv) (hr : XPPs X K pos ks vs trs ds) : XPPs X K pos (some k :: ks) (v :: vs) ((tk, tv) :: trs) ((dk, dv) :: ds) :=
  ⟨pps_cons hk.p hv.p hr.p, fun τ σ h H Q Q0 rs hr0 bw w => hk.l τ σ h H _ _ rs hr0 (fun x h1 xv H1 x1 r1 hr1 w1 => hv.l τ σ h1 H1 _ _ (rs.mono x1) hr1 (fun y h2 yv H2 x2 r2 hr2 w2 => by
    have w2 : (match keyD x with | some k => dPairs ds τ h2 fun ps h3 => Q ((k, y) :: ps) h3 | none => False) := w2
    cases z : keyD x with
    | none => rw [z] at w2; exact w2.elim
    | some k0 =>
      rw [z] at w2
      refine hr.l τ σ h2 H2 _ _ (rs.mono (x1.trans x2)) hr2 (fun kvs h3 us H3 x3 r3 hr3 w3 => ?_) w2
      have ek := keyD_v z r1
      have := bw ((k0, y) :: kvs) h3 ((k0, yv) :: us) H3 (x1.trans (x2.trans x3)) (.cons ⟨rfl, RV.mono x3 _ _ r2⟩ r3) hr3 w3
      rw [ek]
      exact this) w1) w⟩
theorem xdisp {keys : List (Option Expr)} {values : List Expr} {trs : List (TE × TE)} {ds : List (DE × DE)} (h : XPPs X K pos keys values trs ds) (hall : keys.all (·.isSome) = true := by rfl) (hl : keys.length = values.length := by rfl) (h0 : keys ≠ [] := by exact List.cons_ne_nil _ _)
    (h15 : keys.length ≤ 15 := by decide) : XE X K (.Dict keys values pos) (tDisp trs) (dDisp ds) :=
  ⟨pe_disp h.p hall hl h0 h15, fun τ σ h1 H Q Q0 rs hr bw w p hp => by
    have x0 : TX K H (upd H p (.dK [])) := tx_new hp
    refine h.l τ σ _ _ _ _ (rs.mono x0) (hr.put x0 (ro_dK (kvs := []) .nil)) (fun kvs h' us H' x1 r1 hr1 w1 => ?_) (w p (hr.free hp))
    obtain ⟨e, l15, w2⟩ := w1
    obtain ⟨us0, e2, r0⟩ := hr1 _ _ e
    have eu : us0 = [] := List.length_eq_zero_iff.mp (rkv_length r0).symm
    subst eu
    have x3 : TX K H' (upd H' p (.dK (mergeK [] us))) := tx_dK e2
    exact ⟨e2, us, rfl, by rw [← rkv_length r1]; exact l15, bw _ _ _ _ (x0.trans (x1.trans x3)) rv_loc' (hr1.put x3 (ro_dK (RKV.mono x3 (rkv_merge r1 .nil)))) w2⟩⟩
end
end DL

set_option Elab.async false
set_option linter.all false
set_option maxRecDepth 100000
/-! DL14: isinstance, all, any, in, str, extend, [::-1], list(range), tuples of the module, order of tuples, texts walked. -/
namespace DL
open PySem PySem.Spec PyProof.Rows L2

/-! ### isinstance, built-in types -/
def tyNames : List String := ["NoneType", "bool", "int", "str", "tuple", "list", "dict"]
def isTy (a b : String) : Bool := a == b || (a == "bool" && b == "int")
theorem isTy_kit : ∀ a ∈ tyNames, ∀ b ∈ tyNames, kitB a b = some (isTy a b) := by decide +kernel
def tyO : Option DO → Option String
  | some (.lst _) => some "list"
  | some (.dK _) => some "dict"
  | some (.dT _) => some "dict"
  | _ => none
def tyD (h : DH) : D → Option String
  | .non => some "NoneType"
  | .bl _ => some "bool"
  | .int _ => some "int"
  | .str _ => some "str"
  | .tup _ => some "tuple"
  | .ktp _ => some "tuple"
  | .fls _ => some "list"
  | .loc a => tyO (h a)
  | .ty _ => none
theorem tyD_mem {h : DH} {d : D} {a : String} (e : tyD h d = some a) : a ∈ tyNames := by
  cases d with
  | loc p =>
    have e : tyO (h p) = some a := e
    unfold tyO at e
    split at e <;> first | (cases e; done) | (cases e; decide)
  | ty n => cases e
  | _ => cases e; decide
section
variable {X : Cx} {K : PySem.W.Frag}
theorem tyD_x {h : DH} {H : Hp} {d : D} {v : V} {a : String} (hr : HR K H h) (r : RV K H d v) (e : tyD h d = some a) : TyX K H v (.type a) := by
  cases d with
  | non => cases e; rw [rv_non r]; exact .base .non
  | bl b => cases e; rw [rv_bl r]; exact .base (.bl b)
  | int b => cases e; rw [rv_int r]; exact .base (.int b)
  | str b => cases e; rw [rv_str r]; exact .base (.str b)
  | tup ds => cases e; obtain ⟨p, vs, e1, s, _⟩ := rv_tup r; rw [e1]; exact .base (.tup s)
  | ktp ds =>
    cases e
    obtain ⟨p, vs, e1, ⟨o, its, n, l, c, _⟩, _⟩ := rv_ktp r
    rw [e1]; exact .kTuple l c
  | fls ds =>
    cases e
    obtain ⟨p, vs, e1, s, _⟩ := rv_fls r
    rw [e1]
    rcases s with ⟨o, s⟩ | ⟨o, its, n, l, c, _⟩
    · exact .base (.frz s)
    · exact .kList l c
  | loc p =>
    rw [rv_loc r]
    have e : tyO (h p) = some a := e
    cases z : h p with
    | none => rw [z] at e; cases e
    | some o =>
      rw [z] at e
      have q := hr _ _ z
      cases o with
      | lst xs => cases e; obtain ⟨vs, s, _⟩ := q; exact .base (.lst s)
      | dK xs => cases e; obtain ⟨vs, s, _⟩ := q; exact .base (.dK s)
      | dT xs => cases e; obtain ⟨vs, s, _⟩ := q; exact .base (.dT s)
      | _ => cases e
  | ty n => cases e
end
def bIsi : DC := fun ds h Q => match ds with
  | [d, .ty n] => ∃ a, tyD h d = some a ∧ n ∈ tyNames ∧ Q (.bl (isTy a n)) h
  | _ => False
@[irreducible] noncomputable def kIsi : DC := hide bIsi
theorem kIsi_eq : kIsi = bIsi := by unfold kIsi; rw [hide_eq]
theorem w_isi {d : D} {n a : String} {h : DH} {Q : DK} (e : tyD h d = some a) (hn : n ∈ tyNames) (k : Q (.bl (isTy a n)) h) : kIsi [d, .ty n] h Q := by rw [kIsi_eq]; exact ⟨a, e, hn, k⟩
section
variable {X : Cx} {K : PySem.W.Frag}
theorem q_isi (hK : X.K = K := by rfl) : CallR X (.builtin "isinstance") (rIsi K) ∧ LC K (rIsi K) kIsi := by
  rw [kIsi_eq]
  refine ⟨by subst hK; exact call_isi, fun ds vs h H Q Q0 r hr bw w => ?_⟩
  match ds, w, r with
  | [d, .ty n], ⟨a, e, hn, w⟩, r =>
    obtain ⟨x, y, e1, r1, r2⟩ := rvs_two r
    exact ⟨x, .ty n, .type a, .type n, _, by rw [e1, rv_ty r2], .ty n, tyD_x hr r1 e, kit_ty (isTy_kit a (tyD_mem e) n hn), bw _ h _ H TX.refl rv_bl' hr w⟩

/-! ### all, any -/
def boolsD : List D → Option (List Bool)
  | [] => some []
  | .bl b :: ds => (boolsD ds).map (b :: ·)
  | _ :: _ => none
theorem boolsD_eq : ∀ {ds : List D} {bs : List Bool}, boolsD ds = some bs → ds = bs.map D.bl
  | [], bs, e => by cases e; rfl
  | .bl b :: ds, bs, e => by
    obtain ⟨ms, e1, e2⟩ := Option.map_eq_some_iff.mp (show (boolsD ds).map (b :: ·) = some bs from e)
    subst e2
    rw [boolsD_eq e1]; rfl
theorem boolsD_map : ∀ bs : List Bool, boolsD (bs.map D.bl) = some bs
  | [] => rfl
  | b :: bs => by show (boolsD (bs.map D.bl)).map (b :: ·) = _; rw [boolsD_map bs]; rfl
theorem rvs_bools {H : Hp} : ∀ {bs : List Bool} {vs : List V}, RVs K H (bs.map D.bl) vs → vs = bs.map V.bl
  | [], vs, r => by rw [rvs_nil r]; rfl
  | b :: bs, vs, r => by
    obtain ⟨x, xs, e1, r1, r2⟩ := rvs_cons r
    subst e1
    rw [rv_bl r1, rvs_bools r2]; rfl
theorem bools_v {d : D} {v : V} {h : DH} {H : Hp} {bs : List Bool} (hr : HR K H h) (r : RV K H d v) (e : (seqD h d).bind boolsD = some bs) : ∃ a, v = .ref a ∧ SqL K H a (bs.map V.bl) := by
  obtain ⟨xs, e1, e2⟩ := Option.bind_eq_some_iff.mp e
  obtain ⟨a, vs, e3, s, q⟩ := seqD_v hr r e1
  rw [boolsD_eq e2] at q
  rw [rvs_bools q] at s
  exact ⟨a, e3, s⟩
def allD (h : DH) (d : D) : Option D := ((seqD h d).bind boolsD).map fun bs => .bl (bs.all id)
def anyB (h : DH) (d : D) : Option D := ((seqD h d).bind boolsD).map fun bs => .bl (bs.any id)
theorem q_all (hc : X.calm = true) (hK : X.K = K := by rfl) : CallR X (.builtin "all") (rAll K) ∧ LC K (rAll K) (bOne allD) := ⟨by subst hK; exact cr_all hc, fun ds vs h H Q Q0 r hr bw w => by
  obtain ⟨d, v, e, z, w⟩ := one_of w
  subst e
  obtain ⟨x, e1, r1⟩ := rvs_one r
  obtain ⟨ns, z1, z2⟩ := Option.map_eq_some_iff.mp z
  subst z2
  obtain ⟨a, e2, s⟩ := bools_v hr r1 z1
  exact ⟨a, ns, by rw [e1, e2], s, bw _ h _ H TX.refl rv_bl' hr w⟩⟩
theorem q_any (hc : X.calm = true) (hK : X.K = K := by rfl) : CallR X (.builtin "any") (rAny K) ∧ LC K (rAny K) (bOne anyB) := ⟨by subst hK; exact cr_any hc, fun ds vs h H Q Q0 r hr bw w => by
  obtain ⟨d, v, e, z, w⟩ := one_of w
  subst e
  obtain ⟨x, e1, r1⟩ := rvs_one r
  obtain ⟨ns, z1, z2⟩ := Option.map_eq_some_iff.mp z
  subst z2
  obtain ⟨a, e2, s⟩ := bools_v hr r1 z1
  exact ⟨a, ns, by rw [e1, e2], s, bw _ h _ H TX.refl rv_bl' hr w⟩⟩
theorem w_all {h : DH} {p : Addr} {bs : List Bool} {Q : DK} (e : h p = some (.lst (bs.map D.bl))) (k : Q (.bl (bs.all id)) h) : need (allD h (.loc p)) h Q :=
  w_need (by unfold allD; rw [show seqD h (.loc p) = some (bs.map D.bl) from by show lstO (h p) = _; rw [e]; rfl, Option.bind_some, boolsD_map]; rfl) k
theorem w_any {h : DH} {p : Addr} {bs : List Bool} {Q : DK} (e : h p = some (.lst (bs.map D.bl))) (k : Q (.bl (bs.any id)) h) : need (anyB h (.loc p)) h Q :=
  w_need (by unfold anyB; rw [show seqD h (.loc p) = some (bs.map D.bl) from by show lstO (h p) = _; rw [e]; rfl, Option.bind_some, boolsD_map]; rfl) k

/-! ### in, not in -/
def flatD : D → Bool
  | .non => true
  | .bl _ => true
  | .int _ => true
  | .str _ => true
  | _ => false
def eqF : D → D → Bool
  | .non, .non => true
  | .bl a, .bl b => a == b
  | .bl a, .int b => (if a then 1 else 0) == b
  | .int a, .bl b => a == (if b then 1 else 0)
  | .int a, .int b => a == b
  | .str a, .str b => a == b
  | _, _ => false
def inD (x : D) (xs : List D) : Bool := xs.any fun y => eqF y x
theorem flat_v {H : Hp} {d : D} {v : V} (f : flatD d = true) (r : RV K H d v) : flatV v = true := by
  cases d with
  | non => rw [rv_non r]; rfl
  | bl b => rw [rv_bl r]; rfl
  | int b => rw [rv_int r]; rfl
  | str b => rw [rv_str r]; rfl
  | _ => cases f
theorem eqF_v {H : Hp} {d e : D} {v w : V} (f : flatD d = true) (g : flatD e = true) (r : RV K H d v) (s : RV K H e w) : eqV v w = eqF d e := by
  cases d with
  | non => rw [rv_non r]; cases e with
    | non => rw [rv_non s]; rfl
    | bl b => rw [rv_bl s]; rfl
    | int b => rw [rv_int s]; rfl
    | str b => rw [rv_str s]; rfl
    | _ => cases g
  | bl b => rw [rv_bl r]; cases e with
    | non => rw [rv_non s]; rfl
    | bl b => rw [rv_bl s]; rfl
    | int b => rw [rv_int s]; rfl
    | str b => rw [rv_str s]; rfl
    | _ => cases g
  | int b => rw [rv_int r]; cases e with
    | non => rw [rv_non s]; rfl
    | bl b => rw [rv_bl s]; rfl
    | int b => rw [rv_int s]; rfl
    | str b => rw [rv_str s]; rfl
    | _ => cases g
  | str b => rw [rv_str r]; cases e with
    | non => rw [rv_non s]; rfl
    | bl b => rw [rv_bl s]; rfl
    | int b => rw [rv_int s]; rfl
    | str b => rw [rv_str s]; rfl
    | _ => cases g
  | _ => cases f
theorem flats_v {H : Hp} : ∀ {ds : List D} {vs : List V}, ds.all flatD = true → RVs K H ds vs → vs.all flatV = true
  | [], vs, _, r => by rw [rvs_nil r]; rfl
  | d :: ds, vs, f, r => by
    obtain ⟨x, xs, e1, r1, r2⟩ := rvs_cons r
    subst e1
    rw [List.all_cons, Bool.and_eq_true] at f
    rw [List.all_cons, flat_v f.1 r1, flats_v f.2 r2]; rfl
theorem inD_v {H : Hp} {d : D} {v : V} (f : flatD d = true) (r : RV K H d v) : ∀ {ds : List D} {vs : List V}, ds.all flatD = true → RVs K H ds vs → inV v vs = inD d ds
  | [], vs, _, q => by rw [rvs_nil q]; rfl
  | e :: ds, vs, g, q => by
    obtain ⟨x, xs, e1, r1, r2⟩ := rvs_cons q
    subst e1
    rw [List.all_cons, Bool.and_eq_true] at g
    show (eqV x v || inV v xs) = (eqF e d || inD d ds)
    rw [eqF_v g.1 f r1 r, inD_v f r g.2 r2]
def dIn (neg : Bool) : DR2 := fun x y h Q => (∃ xs, anyD h y = some xs ∧ flatD x = true ∧ xs.all flatD = true ∧ Q (.bl (if neg then !inD x xs else inD x xs)) h) ∨
  ∃ (c : Nat) (z : Str), x = .str ⟨#[c]⟩ ∧ y = .str z ∧ Q (.bl (if neg then !decide (c ∈ z.cps.toList) else decide (c ∈ z.cps.toList))) h
@[irreducible] noncomputable def kIn : Bool → DR2 := hide dIn
theorem kIn_eq {neg} : kIn neg = dIn neg := by unfold kIn; rw [hide_eq]
theorem w_in {neg : Bool} {x y : D} {h : DH} {Q : DK} (xs : List D) (e : anyD h y = some xs) (f : flatD x = true) (g : xs.all flatD = true) (k : Q (.bl (if neg then !inD x xs else inD x xs)) h) : kIn neg x y h Q := by rw [kIn_eq]; exact .inl ⟨xs, e, f, g, k⟩
theorem w_insign {neg : Bool} {c : Nat} {z : Str} {h : DH} {Q : DK} (k : Q (.bl (if neg then !decide (c ∈ z.cps.toList) else decide (c ∈ z.cps.toList))) h) : kIn neg (.str ⟨#[c]⟩) (.str z) h Q := by rw [kIn_eq]; exact .inr ⟨c, z, rfl, rfl, k⟩
def rInU (K : PySem.W.Frag) (neg : Bool) : R2 := fun x y H Q => rIn K neg x y H Q ∨ ∃ (c : Nat) (z : Str), x = .str ⟨#[c]⟩ ∧ y = .str z ∧ Q (.bl (if neg then !decide (c ∈ z.cps.toList) else decide (c ∈ z.cps.toList))) H
theorem lr_in (neg : Bool) : LR2 K (rInU K neg) (kIn neg) := by
  rw [kIn_eq]
  intro d e x y h H Q Q0 r1 r2 hr bw w
  rcases w with ⟨xs, z, f, g, w⟩ | ⟨c, z, e1, e2, w⟩
  · obtain ⟨a, vs, e1, s, q⟩ := anyD_v hr r2 z
    refine .inl ⟨a, vs, e1, s, flat_v f r1, flats_v g q, ?_⟩
    rw [inD_v f r1 g q]
    exact bw _ h _ H TX.refl rv_bl' hr w
  · subst e1 e2
    exact .inr ⟨c, z, rv_str r1, rv_str r2, bw _ h _ H TX.refl rv_bl' hr w⟩
theorem qk_in (hK : X.K = K := by rfl) : OpR X (compareOp .In) (rInU K false) ∧ LR2 K (rInU K false) (kIn false) := ⟨by subst hK; exact op_in_seq.or op_in_sign, lr_in false⟩
theorem qk_notin (hK : X.K = K := by rfl) : OpR X (compareOp .NotIn) (rInU K true) ∧ LR2 K (rInU K true) (kIn true) := ⟨by subst hK; exact op_notIn_seq.or op_notIn_sign, lr_in true⟩

/-! ### str(an int) -/
def bStr : DC := fun ds h Q => match ds with
  | [.int i] => i.natAbs.log2 < 1920 ∧ Q (.str (toString i)) h
  | _ => False
theorem q_str : CallR X (.type "str") (fun xs H Q => ∃ i, xs = [.int i] ∧ i.natAbs.log2 < 1920 ∧ Q (.str (toString i)) H) ∧ LC K (fun xs H Q => ∃ i, xs = [.int i] ∧ i.natAbs.log2 < 1920 ∧ Q (.str (toString i)) H) bStr := ⟨call_str_int, fun ds vs h H Q Q0 r hr bw w => by
  match ds, w, r with
  | [.int i], w, r =>
    obtain ⟨x, e1, r1⟩ := rvs_one r
    exact ⟨i, by rw [e1, rv_int r1], w.1, bw _ h _ H TX.refl rv_str' hr w.2⟩⟩

/-! ### xs.extend(ys) -/
def dExtend (a : DE) (b : DE) : DE := fun τ h Q => a τ h fun x h1 => match x with
  | .loc l => (∃ xs, h1 l = some (.lst xs)) ∧ b τ h1 fun y h2 => match y with
    | .loc m => (match lstO (h2 l), lstO (h2 m) with
      | some xs, some ys => xs.length + ys.length ≤ sizeLine ∧ Q .non (hupd h2 l (.lst (xs ++ ys)))
      | _, _ => False)
    | _ => False
  | _ => False
theorem lm_extend {ta te : TE} {da de : DE} (la : LE K ta da) (le : LE K te de) : LE K (tBM K "list" rExtend ta (tCons te tNil)) (dExtend da de) := fun τ σ h H Q Q0 rs hr bw w =>
  la τ σ h H _ _ rs hr (fun x h1 v H1 x1 r1 hr1 w1 => by
    cases x with
    | loc l =>
      obtain ⟨⟨xs0, hl⟩, w1⟩ := w1
      obtain ⟨vs0, s0, q0⟩ := hr1 _ _ hl
      have e := rv_loc r1
      subst e
      refine ⟨Or.inl ⟨rfl, _, Or.inl (Or.inl s0)⟩, ?_⟩
      refine le τ σ h1 H1 _ _ (rs.mono x1) hr1 (fun y h2 u H2 x2 r2 hr2 w2 => ?_) w1
      cases y with
      | loc m =>
        have w2 : (match lstO (h2 l), lstO (h2 m) with | some xs, some ys => xs.length + ys.length ≤ sizeLine ∧ Q .non (hupd h2 l (.lst (xs ++ ys))) | _, _ => False) := w2
        cases z : lstO (h2 l) with
        | none => rw [z] at w2; exact w2.elim
        | some xs =>
          cases z2 : lstO (h2 m) with
          | none => rw [z, z2] at w2; exact w2.elim
          | some ys =>
            rw [z, z2] at w2
            obtain ⟨vs, s, q⟩ := hr2 _ _ (lstO_of z)
            obtain ⟨us, s2, q2⟩ := hr2 _ _ (lstO_of z2)
            have x3 := tx_lst (K := K) (o := .lst (vs ++ us)) s
            exact ⟨l, m, vs, us, rfl, by rw [rv_loc r2], s, s2, by rw [← q.length, ← q2.length]; exact w2.1, bw _ _ _ _ (x1.trans (x2.trans x3)) rv_non' (hr2.put x3 (ro_lst x3 (q.append q2))) w2.2⟩
      | _ => exact w2.elim
    | _ => exact w1.elim) w
theorem xextend {o e : Expr} {to te : TE} {d1 de : DE} {apos cpos : Pos} (ho : XE X K o to d1) (he : XE X K e te de)
    (hbase : attributeBase o "extend" X.env (eval o X.env) = eval o X.env := by rfl)
    (hfew : ((backTo cpos (starEach [e] X.env)).all (fun x => !x.1) && (backToKw cpos (keywordEach [] X.env)).all (fun x => x.1.isSome)
      && decide ([e].length + ([] : List Keyword).length + (if ([] : List Keyword).isEmpty then 0 else 1) < 30)) = true := by rfl)
    (hline : (apos.endLine == cpos.line) = true := by rfl) (hs : starEach [e] X.env = (false, eval e X.env) :: starEach [] X.env := by rfl) (hplain : (backTo cpos (starEach [] X.env)).any (·.1) = false := by rfl) (hK : X.K = K := by rfl) :
    XE X K (.Call (.Attribute o "extend" apos) [e] [] cpos) (tBM K "list" rExtend to (tCons te tNil)) (dExtend d1 de) :=
  ⟨by subst hK; exact pe_bm PySem.F.plainAttrs_list PySem.F.slot_list_extend PySem.F.type_list_extend mt_extend ho.p (pa_cons he.p pa_nil hs) hbase hfew hline hs hplain, lm_extend ho.l he.l⟩

/-! ### list(range(..)) -/
def DRg := DSt → DH → (Int → Int → DH → Prop) → Prop
structure XRg (X : Cx) (K : PySem.W.Frag) (e : Expr) (t0 : L2.St → Hp → (Int → Int → Hp → Prop) → Prop) (t : DRg) : Prop where
  p : PRg X e t0
  l : ∀ τ σ h H (Q : Int → Int → DH → Prop) (Q0 : Int → Int → Hp → Prop), RS K H τ σ → HR K H h → (∀ i j h' H', TX K H H' → HR K H' h' → Q i j h' → Q0 i j H') → t τ h Q → t0 σ H Q0
def dRg1 (a : DE) : DRg := fun τ h Q => a τ h fun x h1 => match x with
  | .int n => Q 0 n h1
  | _ => False
def dRg2 (a b : DE) : DRg := fun τ h Q => a τ h fun x h1 => b τ h1 fun y h2 => match x, y with
  | .int i, .int j => Q i j h2
  | _, _ => False
theorem xrg1 {a : Expr} {ta : TE} {da : DE} {p pos : Pos} (hm : X.mg "range" = none) (ha : XE X K a ta da) (hg : Gl X "range" := by rfl) (na : starEach [a] X.env = (false, eval a X.env) :: starEach [] X.env := by rfl) : XRg X K (.Call (.Name "range" p) [a] [] pos) (tRg1 ta) (dRg1 da) :=
  ⟨prg_1 hg hm ha.p na, fun τ σ h H Q Q0 rs hr bw w => ha.l τ σ h H _ _ rs hr (fun d h1 v H1 x1 r1 hr1 w1 => by
    cases d with
    | int n => exact ⟨n, rv_int r1, bw _ _ h1 H1 x1 hr1 w1⟩
    | _ => exact w1.elim) w⟩
theorem xrg2 {a b : Expr} {ta tb : TE} {da db : DE} {p pos : Pos} (hm : X.mg "range" = none) (ha : XE X K a ta da) (hb : XE X K b tb db) (hg : Gl X "range" := by rfl) (na : starEach [a, b] X.env = (false, eval a X.env) :: starEach [b] X.env := by rfl) (nb : starEach [b] X.env = (false, eval b X.env) :: starEach [] X.env := by rfl) (hp : (backTo pos (starEach [b] X.env)).any (·.1) = false := by rfl) :
    XRg X K (.Call (.Name "range" p) [a, b] [] pos) (tRg2 ta tb) (dRg2 da db) :=
  ⟨prg_2 hg hm ha.p hb.p na nb hp, fun τ σ h H Q Q0 rs hr bw w => ha.l τ σ h H _ _ rs hr (fun d h1 v H1 x1 r1 hr1 w1 => hb.l τ σ h1 H1 _ _ (rs.mono x1) hr1 (fun e h2 u H2 x2 r2 hr2 w2 => by
    cases d with
    | int i => cases e with
      | int j => exact ⟨i, j, rv_int r1, rv_int r2, bw _ _ h2 H2 (x1.trans x2) hr2 w2⟩
      | _ => exact w2.elim
    | _ => exact w2.elim) w1) w⟩
theorem rvs_range {H : Hp} {a b : Int} : RVs K H (rangeD a (b - a).toNat) (rgV a b) := by
  unfold rangeD rgV
  generalize List.range (b - a).toNat = l
  induction l with
  | nil => exact rvs_nil'
  | cons i l ih => exact rvs_cons' rv_int' ih
def dListRange (t : DRg) : DE := fun τ h Q => t τ h fun a b h1 => RgOk a b ∧ ∀ p, h1 p = none → Q (.loc p) (hupd h1 p (.lst (rangeD a (b - a).toNat)))
theorem xlistrange {e : Expr} {t0 : L2.St → Hp → (Int → Int → Hp → Prop) → Prop} {t : DRg} {p pos : Pos} (hc : X.calm = true) (he : XRg X K e t0 t) (hm : X.mg "list" = none) (hg : Gl X "list" := by rfl) (na : starEach [e] X.env = (false, eval e X.env) :: starEach [] X.env := by rfl) :
    XE X K (.Call (.Name "list" p) [e] [] pos) (tLstRg t0) (dListRange t) :=
  ⟨pe_listRg hc hg hm he.p na, fun τ σ h H Q Q0 rs hr bw w => he.l τ σ h H _ _ rs hr (fun i j h1 H1 x1 hr1 w1 => ⟨w1.1, fun q hq => bw_new hr1 (bw.mono x1) hq (ro_lst (tx_new hq) rvs_range) (w1.2 q)⟩) w⟩

/-! ### tuples of the module -/
def isKT (o : Obj) (ss : List Str) : Bool := match o.data with
  | .seq its _ => o.cls == .type "tuple" && decide (its.size ≤ 1000) && decide (its.size = ss.length) && (its.toList.zip ss).all fun p => match p.1 with
    | .str x _ => x == p.2
    | _ => false
  | _ => false
def KTup (K : PySem.W.Frag) (mg : Str → Option Value) (x : Str) (ss : List Str) : Prop := ∃ (a : Addr) (o : Obj), mg x = some (.ref a) ∧ K.lookup a = some o ∧ isKT o ss = true
theorem vals_strs : ∀ {us : List Value} {ss : List Str}, us.length = ss.length → ((us.zip ss).all fun p => match p.1 with | .str x _ => x == p.2 | _ => false) = true → Vals (ss.map V.str) us
  | [], [], _, _ => .nil
  | [], _ :: _, h, _ => by cases h
  | _ :: _, [], h, _ => by cases h
  | u :: us, s :: ss, h, z => by
    rw [List.zip_cons_cons, List.all_cons, Bool.and_eq_true] at z
    refine .cons ?_ (vals_strs (by simpa using h) z.2)
    cases u with
    | str x t =>
      have e : (x == s) = true := z.1
      rw [eq_of_beq e]
      exact ⟨t, rfl⟩
    | _ => cases z.1
theorem isKT_sq {K : PySem.W.Frag} {a : Addr} {o : Obj} {ss : List Str} (l : K.lookup a = some o) (h : isKT o ss = true) : SqK K a (ss.map V.str) := by
  unfold isKT at h
  cases hd : o.data with
  | seq its n =>
    rw [hd] at h
    simp only [Bool.and_eq_true, decide_eq_true_eq] at h
    obtain ⟨⟨⟨h1, h2⟩, h3⟩, h4⟩ := h
    refine ⟨o, its, n, l, eq_of_beq h1, hd, Nat.le_trans h2 (Nat.le_of_ble_eq_true rfl), vals_strs (by rw [Array.length_toList]; exact h3) h4⟩
  | _ => rw [hd] at h; cases h
theorem rvs_strs {H : Hp} : ∀ ss : List Str, RVs K H (ss.map D.str) (ss.map V.str)
  | [] => rvs_nil'
  | s :: ss => rvs_cons' rv_str' (rvs_strs ss)
theorem xkt {x : Str} {ss : List Str} {pos : Pos} (c : KTup X.K X.mg x ss) (hg : Gl X x := by rfl) (hd : (x == ("__debug__" : Str)) = false := by decide) (hK : X.K = K := by rfl) : ∃ t, XE X K (.Name x pos) t (dC (.ktp (ss.map D.str))) := by
  subst hK
  obtain ⟨a, o, hm, l, z⟩ := c
  exact ⟨_, xglob (v := .ref a) hm rfl (fun H => rv_ktp' (isKT_sq l z) (rvs_strs ss)) hg hd⟩

/-! ### order of tuples of ints -/
def leT (ns ms : List Int) : Bool := Ob.lexAt (fun j => decide (ns.getD j 0 = ms.getD j 0)) (fun j => decide (ns.getD j 0 ≤ ms.getD j 0)) (decide (ns.length ≤ ms.length)) 0 (min ns.length ms.length)
def dLeT : DR2 := fun x y h Q => match tupD x, tupD y with
  | some ns, some ms => Q (.bl (leT ns ms)) h
  | _, _ => False
def dLtT : DR2 := fun x y h Q => match tupD x, tupD y with
  | some ns, some ms => Q (.bl (HT.lexLt ns ms)) h
  | _, _ => False
@[irreducible] noncomputable def kLeT : DR2 := hide dLeT
@[irreducible] noncomputable def kLtT : DR2 := hide dLtT
theorem kLeT_eq : kLeT = dLeT := by unfold kLeT; rw [hide_eq]
theorem kLtT_eq : kLtT = dLtT := by unfold kLtT; rw [hide_eq]
theorem intsD_map' (k : List Int) : intsD (k.map D.int) = some k := intsD_map k
theorem w_leT {ns ms : List Int} {h : DH} {Q : DK} (k : Q (.bl (leT ns ms)) h) : kLeT (.tup (ns.map D.int)) (.tup (ms.map D.int)) h Q := by
  rw [kLeT_eq]; unfold dLeT tupD; dsimp only; rw [intsD_map, intsD_map]; exact k
theorem w_ltT {ns ms : List Int} {h : DH} {Q : DK} (k : Q (.bl (HT.lexLt ns ms)) h) : kLtT (.tup (ns.map D.int)) (.tup (ms.map D.int)) h Q := by
  rw [kLtT_eq]; unfold dLtT tupD; dsimp only; rw [intsD_map, intsD_map]; exact k
theorem tupI_v {H : Hp} {d : D} {v : V} {ns : List Int} (e : tupD d = some ns) (r : RV K H d v) : ∃ a, v = .ref a ∧ SqT K H a (ns.map V.int) := by
  rw [tupD_eq e] at r
  obtain ⟨a, vs, e1, s, q⟩ := rv_tup r
  rw [q.ints] at s
  exact ⟨a, e1, .inl (.inl s)⟩
theorem q_leT (hu : X.A.units + 64 < cLine) (hK : X.K = K := by rfl) : OpR X (compareOp .LtE) (rLeT K) ∧ LR2 K (rLeT K) kLeT := by
  rw [kLeT_eq]
  refine ⟨by subst hK; exact op_leT (by omega), fun d e x y h H Q Q0 r1 r2 hr bw w => ?_⟩
  unfold dLeT at w
  cases z1 : tupD d with
  | none => rw [z1] at w; exact w.elim
  | some ns =>
    cases z2 : tupD e with
    | none => rw [z1, z2] at w; exact w.elim
    | some ms =>
      rw [z1, z2] at w
      obtain ⟨a, e1, s1⟩ := tupI_v z1 r1
      obtain ⟨b, e2, s2⟩ := tupI_v z2 r2
      exact ⟨a, b, ns, ms, e1, e2, s1, s2, bw _ h _ H TX.refl rv_bl' hr w⟩
theorem q_ltT (hu : X.A.units + 64 < cLine) (hK : X.K = K := by rfl) : OpR X (compareOp .Lt) (rLtT K) ∧ LR2 K (rLtT K) kLtT := by
  rw [kLtT_eq]
  refine ⟨by subst hK; exact op_ltT (by omega), fun d e x y h H Q Q0 r1 r2 hr bw w => ?_⟩
  unfold dLtT at w
  cases z1 : tupD d with
  | none => rw [z1] at w; exact w.elim
  | some ns =>
    cases z2 : tupD e with
    | none => rw [z1, z2] at w; exact w.elim
    | some ms =>
      rw [z1, z2] at w
      obtain ⟨a, e1, s1⟩ := tupI_v z1 r1
      obtain ⟨b, e2, s2⟩ := tupI_v z2 r2
      exact ⟨a, b, ns, ms, e1, e2, s1, s2, bw _ h _ H TX.refl rv_bl' hr w⟩

/-! ### a text walked -/
def signsD (x : Str) : List D := x.cps.toList.map fun c => .str ⟨#[c]⟩
def diStr (t : DE) : DI := fun τ h R => t τ h fun x h1 => match x with
  | .str z => R (signsD z) (fun _ => True) h1
  | _ => False
theorem fol_s {H0 : Hp} {x : Str} {G : DH → Prop} : Fol K H0 (Its x) (signsD x) G := fun i h H tx hr g => by
  unfold signsD
  refine ⟨fun hi => (by simpa using hi : x.cps.size ≤ i), fun d hd => ?_⟩
  rw [List.getElem?_map] at hd
  obtain ⟨c, hc, e⟩ := Option.map_eq_some_iff.mp hd
  rw [Array.getElem?_toList] at hc
  have hlt : i < x.cps.size := (Array.getElem?_eq_some_iff.mp hc).1
  refine ⟨hlt, fun y H' ⟨e2, c', hc', hy⟩ => ?_⟩
  rw [hc] at hc'
  cases hc'
  subst e2 hy e
  exact ⟨TX.refl, hr, rv_str'⟩
theorem xi_str {tg e : Expr} {te : TE} {de : DE} (he : XE X K e te de) : XI X K tg e (iStr te) (diStr de) := ⟨pi_str he.p, fun τ σ h H R R0 rs hr bw w => he.l τ σ h H _ _ rs hr (fun d h1 v H1 x1 r1 hr1 w1 => by
  cases d with
  | str z => exact ⟨z, rv_str r1, bw _ _ h1 H1 _ x1 hr1 w1 fol_s⟩
  | _ => exact w1.elim) w⟩
end
end DL
namespace DL
open PySem PySem.Spec PyProof.Rows L2
/-! ### a comprehension within a comprehension -/
theorem lookup_mapped {f : Str × NameKind → Str × NameKind} (hf : ∀ p, (f p).1 = p.1) (y : Str) : ∀ l : List (Str × NameKind), ((l.map f).lookup y) = (l.find? fun p => y == p.1).map fun p => (f p).2
  | [] => rfl
  | p :: l => by
    rw [List.map_cons, List.find?_cons]
    have e : f p = ((f p).1, (f p).2) := rfl
    rw [e, List.lookup_cons, hf p]
    cases h : y == p.1 with
    | true => rfl
    | false => exact lookup_mapped hf y l
theorem lookup_found (y : Str) : ∀ l : List (Str × NameKind), l.lookup y = (l.find? fun p => y == p.1).map fun p => p.2
  | [] => rfl
  | p :: l => by
    rw [List.find?_cons]
    have e : p = (p.1, p.2) := rfl
    rw [e, List.lookup_cons]
    cases h : y == p.1 with
    | true => rfl
    | false => exact lookup_found y l
theorem blkOk_in {N : List Str} {sc scope : Scope} {own : List (Str × Nat)} {cl : List (Str × Addr)} {C : Addr} {env : Env} (h : blkC N sc scope own = true) : BlkOk N (compEnvC sc cl C env).scope scope own := by
  have k := blkOk_by h
  refine ⟨k.kind, k.uniq, k.ix, fun y hy e => ?_, k.own⟩
  have q := k.free y hy e
  unfold compEnvC relabel
  dsimp only
  rw [lookup_mapped (fun p => by obtain ⟨n, kk⟩ := p; dsimp only; split <;> rfl)]
  rw [lookup_found] at q
  cases z : sc.names.find? fun p => y.1 == p.1 with
  | none => rw [z] at q; rcases q with q | q <;> cases q
  | some p =>
    rw [z] at q
    obtain ⟨n, kk⟩ := p
    rcases q with q | q
    · have q : kk = .cell := Option.some.inj q
      subst q
      left
      rw [Option.map_some]
      dsimp only
      split <;> rfl
    · have q : kk = .free := Option.some.inj q
      subst q
      rw [Option.map_some]
      dsimp only
      split
      · exact .inl rfl
      · exact .inr rfl
end DL

set_option Elab.async false
set_option linter.all false
set_option maxRecDepth 100000
set_option maxHeartbeats 2000000
/-! DL15: enumerate and zip over lists and tuples; t[::-1]. -/
namespace PySem
open Sem (wp)
open Builtin
section
variable {prog : Program} {w : World} {A : Around} {E : Value → Shared → Prop} {s : Shared}
theorem meets_enum_own {v : Value} {o : Obj} {H : Heap → Prop} (B : Begins v o H) :
    Meets (Builtin.«enumerate.__new__» ⟨[.type "enumerate", v], []⟩) (fun _ R s => H s.heap ∧
      R (.ok (.ret (.ref (s.heap.push o).objs.size))) { s with heap := (s.heap.push o).push { cls := .type "enumerate", data := .fields #[.none, .bool false, .ref s.heap.objs.size, rawInt 0, .none, .none] } }) :=
  .of_wp fun prog w A R s h => by
    obtain ⟨hp, g, d, tk, os⟩ := s; obtain ⟨h1, h⟩ := h
    have hsub := sub_enumerate
    have q1 : ∀ {A' : Around} {E : Value → Shared → Prop} {Q : Value → Shared → Prop}, Q (.ref hp.objs.size) ⟨hp.push o, g, d, tk, os⟩ → wpAny (model prog w) A' (pyIter v) Q E ⟨hp, g, d, tk, os⟩ :=
      fun q => B.iter prog w _ _ ⟨hp, g, d, tk, os⟩ _ h1 q
    wp_walk using q1
    refine wpAny_stack_any fun st => wpAny_pure ?_
    split
    · rename_i c _ _ _ _ _
      cases (c == Value.type "enumerate")
      · wp_walk using q1
        exact ⟨_, rfl, h⟩
      · wp_walk using q1
        exact ⟨_, rfl, h⟩
    · wp_walk using q1
      exact ⟨_, rfl, h⟩
theorem enum_own {v : Value} {o : Obj} {H : Heap → Prop} {Q : Value → Shared → Prop} (B : Begins v o H) (h1 : H s.heap)
    (h : ∀ h', IsEnum h' (s.heap.objs.size + 1) s.heap.objs.size 0 .none → h'.get? s.heap.objs.size = some o → h'.objs.size = s.heap.objs.size + 2 →
      (∀ b o, s.heap.get? b = some o → h'.get? b = some o) → Q (.ref (s.heap.objs.size + 1)) { s with heap := h' }) :
    wpAny (model prog w) A (call (.type "enumerate") [v]) Q E s := by
  refine callType_new F.called_enumerate (by decide) (F.typeCall_enumerate_1 _) (F.newCall_enumerate_1 _) (fun obj => F.args_object_init_2 obj _) F.entry_enumerate_new
    (meets_enum_own B) ⟨h1, ?_⟩
  have hz : (s.heap.push o).objs.size = s.heap.objs.size + 1 := Heap.size_push ..
  show _ ∧ _
  rw [hz]
  have he : IsEnum ((s.heap.push o).push { cls := .type "enumerate", data := .fields #[.none, .bool false, .ref s.heap.objs.size, rawInt 0, .none, .none] }) (s.heap.objs.size + 1) s.heap.objs.size 0 .none := by
    have := Heap.get?_push_size (s.heap.push o) (o := { cls := .type "enumerate", data := .fields #[.none, .bool false, .ref s.heap.objs.size, rawInt 0, .none, .none] }) rfl
    rw [hz] at this; exact this
  refine ⟨⟨_, he, rfl⟩, h _ he (Heap.get?_push_of_some _ (Heap.get?_push_size _ B.free)) (by rw [Heap.size_push, hz]) fun b o x => Heap.get?_push_of_some _ (Heap.get?_push_of_some _ x)⟩
end
end PySem
namespace DL
open PySem PySem.Spec PyProof.Rows L2 RZ
/-- the tuple at a as it stands at each turn, with its places, in new pairs -/
def IteT (K : PySem.W.Frag) (a : Addr) : It :=
  ⟨fun i H => ∃ (xs : List V) (x : V), SqT K H a xs ∧ xs[i]? = some x, fun i H v H' => ∃ T x, v = .ref T ∧ H T = none ∧ H' = upd H T (.tup [.int (i : Nat), x]) ∧ ∀ xs, SqT K H a xs → xs[i]? = some x, fun i H => ∃ xs : List V, SqT K H a xs ∧ xs.length ≤ i⟩
theorem turn_enumT {P : Program} {w : World} {K : PySem.W.Frag} {elts : List Expr} {kk : Nat} {tpos : Pos} {a e it : Addr} (hei : e ≠ it) (hai : a ≠ it) (hea : e ≠ a) :
    Turn P w K (.Tuple elts kk tpos) (IteT K a) [e, it] e (fun i h => (∃ old, IsEnum h e it ((i : Nat) : Int) old) ∧ h.IsTupleIter it a i) where
  mem := by simp
  obj := fun i h st b hb => by
    obtain ⟨⟨old, he⟩, ⟨o, ho, hc, hd⟩⟩ := st
    have e' : b = e ∨ b = it := by simpa using hb
    rcases e' with z | z
    · rw [z]; exact ⟨_, he, fun v q => nomatch q⟩
    · rw [z]; exact ⟨o, ho, fun v q => by rw [hd] at q; cases q⟩
  keep := fun i h h' st k => let ⟨⟨old, he⟩, hi⟩ := st; ⟨⟨old, k e (by simp) _ he⟩, hi.at fun o q => k it (by simp) o q⟩
  item := by
    intro X hP hw hK hc i pins s σ H E I hf st hg
    subst hP hw hK
    obtain ⟨⟨old, he⟩, hit⟩ := st
    obtain ⟨xs, x, hq, hx⟩ := hg
    obtain ⟨its, rv, p, hz⟩ := I.tuple hq
    obtain ⟨u, hu, ru⟩ := rv.get hx
    have p' : s.heap.IsTuple a its.toArray := p
    have hel : e < s.heap.objs.size := Heap.lt_size he
    have hil : it < s.heap.objs.size := by obtain ⟨_, q, _⟩ := hit; exact Heap.lt_size q
    have hlt : i < its.toArray.size := by
      rw [List.size_toArray]
      exact (List.getElem?_eq_some_iff.mp hu).1
    refine wpAny_pyNext_enum_itemD (Draws.tuple (show X.A.in1.handled = none from I.ok.hd hc) it a hai its.toArray) he ⟨hit, p'⟩ hlt hei (by simp [hei, hea]) fun u' h' tk hP' ho hit' hT hsz hk => ?_
    have eu : u' = u := by
      have hP' : its.toArray[i]? = some u' := hP'
      rw [List.getElem?_toArray, hu] at hP'
      exact (Option.some.inj hP').symm
    subst eu
    refine ⟨_, rfl, wpAny_letOwnedTupleGo_enum (s := { s with heap := h', toks := tk + 1 }) ho fun h'' he' sb => ?_⟩
    have hT2 : h''.get? s.heap.objs.size = some { cls := .type "tuple", data := .seq #[.int i tk, u'] } := (sb.2 _ (Nat.ne_of_gt hel)).trans hT
    have new : ObjOk X.prog X.w (upd H s.heap.objs.size (.tup [.int (i : Nat), x])) h'' s.heap.objs.size (.tup [.int (i : Nat), x]) :=
      ⟨by show 2 ≤ sizeLine; decide, [.int i tk, u'], .cons ⟨_, rfl⟩ (.cons ru .nil), ⟨_, hT2, rfl, _, rfl⟩⟩
    have I1 : Inv X pins σ (upd H s.heap.objs.size (.tup [.int (i : Nat), x])) { s with heap := h'', toks := tk + 1 } :=
      I.turnedNew (t' := tk + 1) (ch := [e, it]) (fun b ob hb q => (sb.2 b (fun z => hb (by simp [z]))).trans (hk b ob (fun z => hb (by simp [z])) (fun z => hb (by simp [z])) q)) hf (Nat.le_refl _) new
    refine ⟨.ref s.heap.objs.size, _, I1, rfl, ⟨_, x, rfl, I.hok.fresh (Nat.le_refl _), rfl, fun ys hy => by rw [I.tuple_inj hy hq]; exact hx⟩, ⟨⟨u', ?_⟩, hit'.1.at fun o q => (sb.2 it (Ne.symm hei)).trans q⟩, fun b hb => ?_⟩
    · have e1 : ((i + 1 : Nat) : Int) = (i : Int) + 1 := by omega
      rw [e1]; exact he'
    · have hb' : b < s.heap.objs.size := by
        have e' : b = e ∨ b = it := by simpa using hb
        rcases e' with z | z
        · rw [z]; exact hel
        · rw [z]; exact hil
      rw [upd_ne (Nat.ne_of_lt hb')]
      exact (hf b hb).1
  done := by
    intro X hP hw hK hc i pins s σ H E I hf st hg
    subst hP hw hK
    obtain ⟨⟨old, he⟩, hit⟩ := st
    obtain ⟨xs, hq, hx⟩ := hg
    obtain ⟨its, rv, p, hz⟩ := I.tuple hq
    obtain ⟨f0, f1, f2, f3, f4, f5⟩ := hf it (by simp)
    have hl := rv.length
    have hT : s.TypeIs (.ref e) "enumerate" := ⟨_, he, rfl⟩
    unfold pyNext
    refine wpAny_bind (wpAny_attempt (wpAny_callSpecial?_slot (name := Str.ofString "__next__") hT PySem.F.slot_enumerate_next
      (wpAny_call_entry PySem.F.slot_enumerate_next hT PySem.F.entry_enumerate_next ?_ (PySem.F.args_enumerate_next_1 _))))
    show wpAny _ _ (field (.ref e) 2 >>= _) _ _ _
    refine wpAny_bind (wpAny_field he rfl (x := .ref it) rfl ?_)
    refine wpAny_bind (wpAny_nextOf_tuple_end (show X.A.in1.handled = none from I.ok.hd hc) hit (show s.heap.IsTuple a its.toArray from p) (by simp; omega) fun h' x he' hx' => ?_)
    obtain ⟨o, ho, hc2⟩ := hx'
    refine wpAny_bind (wpAny_isInstance (T := "StopIteration") (b := true) ⟨o, ho, hc2⟩ PySem.isSubtype_stop ?_)
    exact wpAny_pure ⟨rfl, I.turned (t' := s.toks) (fun b o hb q => he' b o hb q) f0 f1 f3 f4 f5⟩
  self := fun A i s Q E st h => let ⟨⟨_, he⟩, _⟩ := st; wpAny_pyIter_enum he h
def iEnumA (K : PySem.W.Frag) (ta : TA) : TI := fun σ H R => ta σ H fun vs H1 => ∃ a xs, vs = [.ref a] ∧ ((SqL K H1 a xs ∧ R (Ite K a) H1) ∨ (SqT K H1 a xs ∧ R (IteT K a) H1))
theorem pi_enumA {X : Cx} {e : Expr} {ta : TA} {p pos tpos : Pos} {elts : List Expr} {kk : Nat} (hg : Gl X "enumerate") (hm : X.mg "enumerate" = none) (ha : PA X [e] ta) (hs : starEach [e] X.env = [(false, eval e X.env)] := by rfl) :
    PI X (.Tuple elts kk tpos) (.Call (.Name "enumerate" p) [e] [] pos) (iEnumA X.K ta) := by
  refine ⟨fun pins s σ H R I h => ?_⟩
  refine Call_ (ld_blt I hg hm boot_enumerate (PyProof.Rows.callWith_type1 (thn (ha.run pos pins s σ H _ I h) fun us s1 ⟨vs, H1, I1, r1, q1⟩ => ?_) hs rfl))
  obtain ⟨a, xs, ex, q1⟩ := q1
  subst ex
  cases r1 with
  | cons r rr =>
    cases rr
    cases r
    have fresh : ∀ b ∈ [s1.heap.objs.size + 1, s1.heap.objs.size], FpOk X pins H1 b := fun b hb => by
      have e' : b = s1.heap.objs.size + 1 ∨ b = s1.heap.objs.size := by simpa using hb
      have hle : s1.heap.objs.size ≤ b := by
        rcases e' with z | z
        · rw [z]; exact Nat.le_add_right _ _
        · rw [z]; exact Nat.le_refl _
      exact I1.fpOk hle (I1.hok.fresh hle)
    rcases q1 with ⟨hq, q⟩ | ⟨hq, q⟩
    · obtain ⟨its, rv, p', hz⟩ := I1.list hq
      refine call_enumerate_list p'.isList fun h' he hit hsz hk => wpAny_pyIter_enum he ?_
      have I2 : Inv X pins σ H1 { s1 with heap := h' } := I1.kept (t' := s1.toks) hk
      exact ⟨s1.heap.objs.size + 1, [s1.heap.objs.size + 1, s1.heap.objs.size], _, _, H1, rfl, I2, turn_enum a (s1.heap.objs.size + 1) s1.heap.objs.size, ⟨⟨.none, he⟩, hit, Nat.succ_ne_self _⟩, fresh, q⟩
    · obtain ⟨its, rv, p', hz⟩ := I1.tuple hq
      have p2 : s1.heap.IsTuple a its.toArray := p'
      obtain ⟨o1, ho1, _⟩ := id p2
      have hlt : a < s1.heap.objs.size := Heap.lt_size ho1
      refine enum_own (begins_tuple a its.toArray) p2 fun h' he hit hsz hk => wpAny_pyIter_enum he ?_
      have I2 : Inv X pins σ H1 { s1 with heap := h' } := I1.kept (t' := s1.toks) hk
      exact ⟨s1.heap.objs.size + 1, [s1.heap.objs.size + 1, s1.heap.objs.size], _, _, H1, rfl, I2, turn_enumT (Nat.succ_ne_self _) (Nat.ne_of_lt hlt) (Nat.ne_of_gt (Nat.lt_succ_of_lt hlt)), ⟨⟨.none, he⟩, ⟨_, hit, rfl, rfl⟩⟩, fresh, q⟩

/-! ### over trees -/
def enumD (xs : List D) : List D := xs.mapIdx fun i x => .tup [.int (i : Nat), x]
theorem enumD_get {xs : List D} {i : Nat} {d : D} (e : (enumD xs)[i]? = some d) : ∃ x, xs[i]? = some x ∧ d = .tup [.int (i : Nat), x] := by
  unfold enumD at e
  rw [List.getElem?_mapIdx] at e
  obtain ⟨x, h1, h2⟩ := Option.map_eq_some_iff.mp e
  exact ⟨x, h1, h2.symm⟩
theorem enumD_length {xs : List D} : (enumD xs).length = xs.length := by simp [enumD]
def zipD (xs ys : List D) : List D := (xs.zip ys).map fun p => .tup [p.1, p.2]
theorem zipD_get {xs ys : List D} {i : Nat} {d : D} (e : (zipD xs ys)[i]? = some d) : ∃ x y, xs[i]? = some x ∧ ys[i]? = some y ∧ d = .tup [x, y] := by
  unfold zipD at e
  rw [List.getElem?_map] at e
  obtain ⟨⟨x, y⟩, h1, h2⟩ := Option.map_eq_some_iff.mp e
  rw [List.getElem?_zip_eq_some] at h1
  exact ⟨x, y, h1.1, h1.2, h2.symm⟩
theorem zipD_length {xs ys : List D} : (zipD xs ys).length = min xs.length ys.length := by simp [zipD]
def isTupK : D → Option (List D)
  | .tup xs => some xs
  | .ktp xs => some xs
  | _ => none
section
variable {K : PySem.W.Frag} {H0 : Hp}
theorem fol_eL {a : Addr} {items : List D} {G : DH → Prop} (q : ∀ h H, TX K H0 H → HR K H h → G h → ∃ vs, SqL K H a vs ∧ RVs K H items vs) : Fol K H0 (Ite K a) (enumD items) G := fun i h H x hr g => by
  obtain ⟨vs, s, r⟩ := q h H x hr g
  refine ⟨fun hi => ⟨vs, s, by rw [← r.length]; rw [enumD_length] at hi; exact hi⟩, fun d hd => ?_⟩
  obtain ⟨y, hy, e⟩ := enumD_get hd
  subst e
  obtain ⟨v, hv, rv⟩ := r.get hy
  refine ⟨⟨vs, v, s, hv⟩, fun z H' ⟨T, x', e1, hT, e2, hx⟩ => ?_⟩
  have e3 := hx vs s
  rw [hv] at e3
  cases e3
  subst e1 e2
  have xT : TX K H (upd H T (.tup [.int (i : Nat), v])) := tx_new hT
  exact ⟨xT, hr.lay hT, rv_tup' upd_same (rvs_cons' rv_int' (rvs_cons' (RV.mono xT _ _ rv) rvs_nil'))⟩
theorem fol_eT {a : Addr} {items : List D} {G : DH → Prop} (q : ∀ h H, TX K H0 H → HR K H h → G h → ∃ vs, SqT K H a vs ∧ RVs K H items vs) : Fol K H0 (IteT K a) (enumD items) G := fun i h H x hr g => by
  obtain ⟨vs, s, r⟩ := q h H x hr g
  refine ⟨fun hi => ⟨vs, s, by rw [← r.length]; rw [enumD_length] at hi; exact hi⟩, fun d hd => ?_⟩
  obtain ⟨y, hy, e⟩ := enumD_get hd
  subst e
  obtain ⟨v, hv, rv⟩ := r.get hy
  refine ⟨⟨vs, v, s, hv⟩, fun z H' ⟨T, x', e1, hT, e2, hx⟩ => ?_⟩
  have e3 := hx vs s
  rw [hv] at e3
  cases e3
  subst e1 e2
  have xT : TX K H (upd H T (.tup [.int (i : Nat), v])) := tx_new hT
  exact ⟨xT, hr.lay hT, rv_tup' upd_same (rvs_cons' rv_int' (rvs_cons' (RV.mono xT _ _ rv) rvs_nil'))⟩
theorem fol_zL {a b : Addr} {items items2 : List D} {G : DH → Prop} (q : ∀ h H, TX K H0 H → HR K H h → G h → ∃ vs us, SqL K H a vs ∧ RVs K H items vs ∧ SqL K H b us ∧ RVs K H items2 us) : Fol K H0 (Itz K a b) (zipD items items2) G := fun i h H x hr g => by
  obtain ⟨vs, us, s, r, s2, r2⟩ := q h H x hr g
  refine ⟨fun hi => ⟨vs, us, s, s2, by rw [← r.length, ← r2.length]; rw [zipD_length] at hi; omega⟩, fun d hd => ?_⟩
  obtain ⟨y, y2, hy, hy2, e⟩ := zipD_get hd
  subst e
  obtain ⟨v, hv, rv⟩ := r.get hy
  obtain ⟨u, hu, ru⟩ := r2.get hy2
  refine ⟨⟨vs, us, v, u, s, s2, hv, hu⟩, fun z H' ⟨T, x', x2, e1, hT, e2, hx, hx2⟩ => ?_⟩
  have e3 := hx vs s
  rw [hv] at e3
  cases e3
  have e4 := hx2 us s2
  rw [hu] at e4
  cases e4
  subst e1 e2
  have xT : TX K H (upd H T (.tup [v, u])) := tx_new hT
  exact ⟨xT, hr.lay hT, rv_tup' upd_same (rvs_cons' (RV.mono xT _ _ rv) (rvs_cons' (RV.mono xT _ _ ru) rvs_nil'))⟩
theorem fol_zT {a b : Addr} {items items2 : List D} {G : DH → Prop} (q : ∀ h H, TX K H0 H → HR K H h → G h → ∃ vs us, SqT K H a vs ∧ RVs K H items vs ∧ SqT K H b us ∧ RVs K H items2 us) : Fol K H0 (ItzT K a b) (zipD items items2) G := fun i h H x hr g => by
  obtain ⟨vs, us, s, r, s2, r2⟩ := q h H x hr g
  refine ⟨fun hi => ⟨vs, us, s, s2, by rw [← r.length, ← r2.length]; rw [zipD_length] at hi; omega⟩, fun d hd => ?_⟩
  obtain ⟨y, y2, hy, hy2, e⟩ := zipD_get hd
  subst e
  obtain ⟨v, hv, rv⟩ := r.get hy
  obtain ⟨u, hu, ru⟩ := r2.get hy2
  refine ⟨⟨vs, us, v, u, s, s2, hv, hu⟩, fun z H' ⟨T, x', x2, e1, hT, e2, hx, hx2⟩ => ?_⟩
  have e3 := hx vs s
  rw [hv] at e3
  cases e3
  have e4 := hx2 us s2
  rw [hu] at e4
  cases e4
  subst e1 e2
  have xT : TX K H (upd H T (.tup [v, u])) := tx_new hT
  exact ⟨xT, hr.lay hT, rv_tup' upd_same (rvs_cons' (RV.mono xT _ _ rv) (rvs_cons' (RV.mono xT _ _ ru) rvs_nil'))⟩
/-- what a sequence's items are as long as G stands -/
def seqG (h : DH) : D → DH → Prop
  | .loc a => fun h' => h' a = h a
  | _ => fun _ => True
theorem seqG_v {d : D} {v : V} {h h' : DH} {H H' : Hp} {xs : List D} (r : RV K H d v) (e : seqD h d = some xs) (x : TX K H H') (hr' : HR K H' h') (g : seqG h d h') : ∃ a vs, v = .ref a ∧ SqL K H' a vs ∧ RVs K H' xs vs := by
  cases d with
  | loc a =>
    have g : h' a = h a := g
    have e : lstO (h a) = some xs := e
    rw [← g] at e
    exact seqD_v hr' (show RV K H' (.loc a) v from by rw [rv_loc r]; exact rv_loc') e
  | fls ys => exact seqD_v hr' (RV.mono x _ _ r) (show seqD h' (.fls ys) = some xs from e)
  | _ => cases e
theorem tupK_v {d : D} {v : V} {H : Hp} {xs : List D} (r : RV K H d v) (e : isTupK d = some xs) : ∃ a vs, v = .ref a ∧ RVs K H xs vs ∧ ∀ H', TX K H H' → SqT K H' a vs := by
  cases d with
  | tup ys =>
    cases e
    obtain ⟨a, vs, e2, s, q⟩ := rv_tup r
    exact ⟨a, vs, e2, q, fun H' x => .inl (.inl (x.1 _ _ s))⟩
  | ktp ys =>
    cases e
    obtain ⟨a, vs, e2, s, q⟩ := rv_ktp r
    exact ⟨a, vs, e2, q, fun H' x => s.t⟩
  | _ => cases e
end
def diEnum (a : DA) : DI := fun τ h R => a τ h fun ds h1 => match ds with
  | [d] => (match isTupK d, seqD h1 d with
    | some xs, _ => R (enumD xs) (fun _ => True) h1
    | none, some xs => R (enumD xs) (seqG h1 d) h1
    | none, none => False)
  | _ => False
def diZip (a : DA) : DI := fun τ h R => a τ h fun ds h1 => match ds with
  | [d, e] => (match isTupK d, isTupK e, seqD h1 d, seqD h1 e with
    | some xs, some ys, _, _ => R (zipD xs ys) (fun _ => True) h1
    | none, none, some xs, some ys => R (zipD xs ys) (fun h => seqG h1 d h ∧ seqG h1 e h) h1
    | _, _, _, _ => False)
  | _ => False
section
variable {X : Cx} {K : PySem.W.Frag}
theorem xi_enum {e : Expr} {ta : TA} {da : DA} {p pos tpos : Pos} {elts : List Expr} {kk : Nat} (hm : X.mg "enumerate" = none) (ha : XA X K [e] ta da) (hg : Gl X "enumerate" := by rfl) (hs : starEach [e] X.env = [(false, eval e X.env)] := by rfl) (hK : X.K = K := by rfl) :
    XI X K (.Tuple elts kk tpos) (.Call (.Name "enumerate" p) [e] [] pos) (iEnumA K ta) (diEnum da) := ⟨by subst hK; exact pi_enumA hg hm ha.p hs, fun τ σ h H R R0 rs hr bw w => ha.l τ σ h H _ _ rs hr (fun ds h1 vs H1 x1 r1 hr1 w1 => by
  match ds, w1, r1 with
  | [d], w1, r1 =>
    obtain ⟨v, e1, rv⟩ := rvs_one r1
    subst e1
    cases zt : isTupK d with
    | some xs =>
      have w1 : R (enumD xs) (fun _ => True) h1 := by
        have w1 : (match isTupK d, seqD h1 d with | some xs, _ => R (enumD xs) (fun _ => True) h1 | none, some xs => R (enumD xs) (seqG h1 d) h1 | none, none => False) := w1
        rw [zt] at w1; exact w1
      obtain ⟨a, us, e2, q, s⟩ := tupK_v rv zt
      exact ⟨a, us, by rw [e2], .inr ⟨s H1 TX.refl, bw _ _ h1 H1 _ x1 hr1 w1 (fol_eT fun h H x _ _ => ⟨us, s H x, RVs.mono x _ _ q⟩)⟩⟩
    | none =>
      cases zs : seqD h1 d with
      | none =>
        have w1 : (match isTupK d, seqD h1 d with | some xs, _ => R (enumD xs) (fun _ => True) h1 | none, some xs => R (enumD xs) (seqG h1 d) h1 | none, none => False) := w1
        rw [zt, zs] at w1; exact w1.elim
      | some xs =>
        have w1 : R (enumD xs) (seqG h1 d) h1 := by
          have w1 : (match isTupK d, seqD h1 d with | some xs, _ => R (enumD xs) (fun _ => True) h1 | none, some xs => R (enumD xs) (seqG h1 d) h1 | none, none => False) := w1
          rw [zt, zs] at w1; exact w1
        obtain ⟨a, us, e2, s, q⟩ := seqD_v hr1 rv zs
        refine ⟨a, us, by rw [e2], .inl ⟨s, bw _ _ h1 H1 _ x1 hr1 w1 (fol_eL fun h H x hr g => ?_)⟩⟩
        obtain ⟨a', us', e3, s', q'⟩ := seqG_v rv zs x hr g
        rw [e2] at e3
        cases e3
        exact ⟨us', s', q'⟩) w⟩
theorem xi_zip {e e2 : Expr} {ta : TA} {da : DA} {p pos tpos : Pos} {elts : List Expr} {kk : Nat} (hm : X.mg "zip" = none) (ha : XA X K [e, e2] ta da) (hg : Gl X "zip" := by rfl)
    (hs : starEach [e, e2] X.env = (false, eval e X.env) :: starEach [e2] X.env := by rfl) (hpl : (backTo pos (starEach [e2] X.env)).any (·.1) = false := by rfl) (hK : X.K = K := by rfl) :
    XI X K (.Tuple elts kk tpos) (.Call (.Name "zip" p) [e, e2] [] pos) (iZipA K ta) (diZip da) := ⟨by subst hK; exact pi_zipA hg hm ha.p hs hpl, fun τ σ h H R R0 rs hr bw w => ha.l τ σ h H _ _ rs hr (fun ds h1 vs H1 x1 r1 hr1 w1 => by
  match ds, w1, r1 with
  | [d, d2], w1, r1 =>
    obtain ⟨v, v2, e1, rv, rv2⟩ := rvs_two r1
    subst e1
    have w1 : (match isTupK d, isTupK d2, seqD h1 d, seqD h1 d2 with
      | some xs, some ys, _, _ => R (zipD xs ys) (fun _ => True) h1
      | none, none, some xs, some ys => R (zipD xs ys) (fun h => seqG h1 d h ∧ seqG h1 d2 h) h1
      | _, _, _, _ => False) := w1
    cases zt : isTupK d with
    | some xs =>
      cases zt2 : isTupK d2 with
      | none => rw [zt, zt2] at w1; exact w1.elim
      | some ys =>
        rw [zt, zt2] at w1
        obtain ⟨a, us, e2, q, s⟩ := tupK_v rv zt
        obtain ⟨b, us2, e3, q2, s2⟩ := tupK_v rv2 zt2
        exact ⟨a, b, us, us2, by rw [e2, e3], .inr ⟨s H1 TX.refl, s2 H1 TX.refl, bw _ _ h1 H1 _ x1 hr1 w1 (fol_zT fun h H x _ _ => ⟨us, us2, s H x, RVs.mono x _ _ q, s2 H x, RVs.mono x _ _ q2⟩)⟩⟩
    | none =>
      cases zt2 : isTupK d2 with
      | some ys => rw [zt, zt2] at w1; exact w1.elim
      | none =>
        cases zs : seqD h1 d with
        | none => rw [zt, zt2, zs] at w1; exact w1.elim
        | some xs =>
          cases zs2 : seqD h1 d2 with
          | none => rw [zt, zt2, zs, zs2] at w1; exact w1.elim
          | some ys =>
            rw [zt, zt2, zs, zs2] at w1
            obtain ⟨a, us, e2, s, q⟩ := seqD_v hr1 rv zs
            obtain ⟨b, us2, e3, s2, q2⟩ := seqD_v hr1 rv2 zs2
            refine ⟨a, b, us, us2, by rw [e2, e3], .inl ⟨s, s2, bw _ _ h1 H1 _ x1 hr1 w1 (fol_zL fun h H x hr g => ?_)⟩⟩
            obtain ⟨a', us', e4, s', q'⟩ := seqG_v rv zs x hr g.1
            obtain ⟨b', us2', e5, s2', q2'⟩ := seqG_v rv2 zs2 x hr g.2
            rw [e2] at e4
            cases e4
            rw [e3] at e5
            cases e5
            exact ⟨us', us2', s', q', s2', q2'⟩) w⟩
end
end DL

set_option Elab.async false
set_option linter.all false
set_option maxRecDepth 100000
set_option maxHeartbeats 3200000
/-! DL16: sorted(set(a list of ints)), any number of them. -/
namespace DL
open PySem PySem.Spec PyProof.Rows L2
/-- the object of a set that is just made -/
abbrev newSetO (w : World) : Obj := { cls := .type "set", dict := none, data := .set #[] 0 (.fresh 0 0 (!w.params.followText "set-order")) }
section
variable {P : Program} {w : World} {A : Around} {E : Value → Shared → Prop} {s : Shared}
/-- what set.__init__(S, l) leaves -/
def Filled (w : World) (s : Shared) (ns : List Int) (s₂ : Shared) : Prop := ∃ (h' : Heap) (tk c : Nat), s₂ = { s with heap := h', toks := tk } ∧ SetR w h' s.heap.objs.size (fun j => decide (j ∈ ns)) c ∧ c ≤ ns.length ∧ ∀ b o, s.heap.get? b = some o → h'.get? b = some o
theorem init_list {l : Addr} {items : Array Value} {ns : List Int} {A : Around} (hh : A.handled = none) (hl : s.heap.IsList l items) (hit : IntsAre items.toList ns) (hb : ns.length + 1 < scanBound) :
    wpAny (model P w) A (Builtin.«set.__init__» ⟨[.ref s.heap.objs.size, .ref l], []⟩) (fun fin s' => ∃ v, fin = .done (.ret v) ∧ v = .none ∧ Filled w s ns s') E { s with heap := s.heap.push (newSetO w) } := by
  have lens : items.size = ns.length := (Array.length_toList (xs := items)).symm.trans (IntsAre.length hit)
  have at_S : (s.heap.push (newSetO w)).get? s.heap.objs.size = some (newSetO w) := Heap.get?_push_size _ rfl
  have ty : Shared.TypeIs { s with heap := s.heap.push (newSetO w) } (.ref s.heap.objs.size) "set" := ⟨_, at_S, rfl⟩
  obtain ⟨⟨cls0, dd, data0, sl⟩, at_l, cl, nl, dl⟩ := hl
  simp only at cl dl
  subst cl dl
  have hlt : l < s.heap.objs.size := Heap.lt_size at_l
  have isl : (s.heap.push (newSetO w)).IsList l items := ⟨_, Heap.get?_push_of_some _ at_l, rfl, nl, rfl⟩
  have at_l' : (s.heap.push (newSetO w)).get? l = some { cls := .type "list", dict := dd, data := .seq items nl, slots := sl } := Heap.get?_push_of_some _ at_l
  have f1 := PySem.F.sub_list_set
  have f2 := PySem.F.sub_list_frozenset
  have f3 : (Value.type "list" == Value.type "dict") = false := by decide
  have sub := PySem.F.called_set.sub
  unfold Builtin.«set.__init__» noKeywords Builtin.Frozenset.updateFrom
  generalize hPI : pyIter = PI
  wp_walk
  subst hPI
  refine wpAny_pyIter_list isl (wpAny_bind (wpAny_runValue ?_))
  have sz : (s.heap.push (newSetO w)).objs.size = s.heap.objs.size + 1 := Heap.size_push ..
  have handled : A.in1.handled = none := by simp [hh]
  have ne1 : l ≠ (s.heap.push (newSetO w)).objs.size := by rw [sz]; exact Nat.ne_of_lt (Nat.lt_succ_of_lt hlt)
  have ne2 : s.heap.objs.size ∉ [(s.heap.push (newSetO w)).objs.size, l] := by rw [sz]; simp only [List.mem_cons, List.not_mem_nil, or_false, not_or]; exact ⟨Nat.ne_of_lt (Nat.lt_succ_self _), Nat.ne_of_gt hlt⟩
  have at2 : ((s.heap.push (newSetO w)).push { cls := .type "list_iterator", data := .fields #[.ref l, .int 0 0] }).get? s.heap.objs.size = some (newSetO w) := Heap.get?_push_of_some _ at_S
  have r0 : SetR w ((s.heap.push (newSetO w)).push { cls := .type "list_iterator", data := .fields #[.ref l, .int 0 0] }) s.heap.objs.size (fun j => decide (j ∈ ns.take 0)) 0 := setR_new_at at2
  refine set_update_ints ((Walks.list handled _ l ne1 items).toS) s.heap.objs.size ne2 ns lens hb
    (fun i v hv => ?_) (items.size - 0) 0 { s with heap := (s.heap.push (newSetO w)).push { cls := .type "list_iterator", data := .fields #[.ref l, .int 0 0] } } (by omega) (Nat.zero_le _) ⟨⟨_, Heap.get?_push_size _ rfl, rfl, rfl⟩, isl.push _⟩ ⟨0, Nat.le_refl 0, r0⟩ fun s' c' hm hc' hS' => ?_
  · obtain ⟨t, e⟩ := PyProof.Rows.IntsAre.int_at hit i v (by rw [Array.getElem?_toList]; exact hv)
    have hi : i < ns.length := by rw [← lens]; exact (Array.getElem?_eq_some_iff.mp hv).1
    refine ⟨ns[i], t, List.getElem?_eq_getElem hi, ?_⟩
    rw [e, List.getD_eq_getElem?_getD, List.getElem?_eq_getElem hi] <;> rfl
  · obtain ⟨h', g2, d', tk', os'⟩ := s'
    obtain rfl : g2 = s.gens := hm.gens
    obtain rfl : d' = s.drawn := hm.drawn
    obtain rfl : os' = s.os := hm.os
    refine wpAny_pure ?_
    show wpAny _ _ (ret Value.none) _ _ _
    refine wpAny_pure ⟨_, rfl, rfl, h', tk', c', rfl, hS', by omega, fun b o e => ?_⟩
    have hb0 : b < s.heap.objs.size := Heap.lt_size e
    refine hm.heap b o ?_ (Heap.get?_push_of_some _ (Heap.get?_push_of_some _ e))
    simp only [List.mem_cons, List.not_mem_nil, or_false, not_or]
    exact ⟨Nat.ne_of_lt hb0, by rw [sz]; exact Nat.ne_of_lt (Nat.lt_succ_of_lt hb0)⟩
/-- set(l) -/
theorem set_ints {l : Addr} {items : Array Value} {ns : List Int} {Q : Value → Shared → Prop} (hh : A.handled = none) (hl : s.heap.IsList l items) (hit : IntsAre items.toList ns) (hb : ns.length + 1 < scanBound)
    (h : ∀ s', Filled w s ns s' → Q (.ref s.heap.objs.size) s') : wpAny (model P w) A (call (.type "set") [.ref l]) Q E s := by
  obtain ⟨_, _, mro⟩ := PySem.F.called_set.mro
  have made := PySem.F.called_set.made
  have sub := PySem.F.called_set.sub
  have noType := PySem.F.called_set.notType
  have creates := PySem.F.called_set.canCreate
  have tc := PySem.F.typeCall_set_1 (.ref l)
  refine wpAny_call (codeAny_of_tree ?_)
  show wpAny _ _ (callAny (.type "set") _) _ _ _
  refine wpAny_pure ⟨Code.quiet_builtin _ (by decide +kernel), codeAny_builtin F.entry_type_call ?_⟩
  rw [Around.under_plain (weight_type_call_type "set" [.ref l] []) rfl]
  repeat (any_goals (first | assumption | wp_step))
  refine codeAny_mono (code_set_led1 (.ref l) (E := E) (Q₁ := fun obj s₁ => obj = .ref s.heap.objs.size ∧ s₁ = { s with heap := s.heap.push (newSetO w) }) ⟨rfl, rfl⟩) fun r s₁ hr => ?_
  match r, hr with
  | .error e, hr => exact hr
  | .ok (.ret obj), ⟨e1, e2⟩ =>
    subst e1 e2
    have ty : Shared.TypeIs { s with heap := s.heap.push (newSetO w) } (.ref s.heap.objs.size) "set" := ⟨_, Heap.get?_push_size _ rfl, rfl⟩
    have look := PySem.F.called_set.init.lookup
    have bnd := PySem.F.called_set.init.bind (.ref s.heap.objs.size)
    repeat (any_goals (first | assumption | wp_step))
    refine codeAny_mono (codeAny_call_builtin (R := wants (fun r s₂ => r = .none ∧ Filled w s ns s₂) E) PySem.F.called_set.init.plain PySem.F.entry_set_init (check_set_init_1 ty ?_)) fun r₂ s₂ hr₂ => ?_
    · refine wpAny_mono (init_list (by simp [hh]) hl hit hb) (fun fin s' ⟨v, e, q⟩ => ?_) fun _ _ q => q
      subst e
      exact q
    · match r₂, hr₂ with
      | .error e, hr₂ => exact hr₂
      | .ok (.ret r), ⟨e, q⟩ =>
        subst e
        repeat (any_goals (first | assumption | wp_step))
        exact h _ q
/-- sorted(S), a set of ints of any size -/
theorem sort_ints {a : Addr} {S : Int → Bool} {n : Nat} {Q : Value → Shared → Prop} (R : SetR w s.heap a S n) (hh : A.handled = none)
    (hQ : ∀ s' p (out : List Value) (c : Nat) (ns : List Int), (∀ b o, s.heap.get? b = some o → s'.heap.get? b = some o) → s'.gens = s.gens → s'.os = s.os → s.heap.objs.size ≤ p →
      s'.heap.get? p = some (seqObj "list" out.toArray c) → IntsAre out ns → ns.Pairwise (· < ·) → (∀ k, k ∈ ns ↔ S k = true) → ns.length ≤ scanBound → Q (.ref p) s') : wpAny (model P w) A (call (.builtin "sorted") [.ref a]) Q E s := by
  obtain ⟨o, es, ep, t, at_a, ex, dat, good, nd, mem, few, fits, _, ris, led⟩ := R
  refine Calls.call_function_entry kind_sorted plain_sorted entry_sorted (args_sorted1 _) ?_
  unfold Builtin.«sorted»
  refine wpAny_bind (m := checkCount "sorted" 1 1 _) (wpAny_pure (wpAny_bind (collect_set (A := A.in1) hh ⟨o, at_a, ex.1, dat⟩ fits few ris led fun s1 vs keep le g1 o1 pm => ?_)))
  have isInt : ∀ v ∈ vs, ∃ i t, v = Value.int i t := fun v hv => by
    obtain ⟨e, he, q⟩ := List.mem_map.mp (pm.mem_iff.mp hv)
    obtain ⟨k, tk, z, _⟩ := good e he
    exact ⟨k, tk, by rw [← q]; exact z⟩
  have areI := SrtO.ints_iv isInt
  have lenv : vs.length ≤ scanBound := by rw [pm.length_eq, List.length_map, Array.length_toList]; exact Nat.le_of_lt few
  have lenz : vs.length ≤ sizeLine := Nat.le_trans lenv (by unfold scanBound; rw [sizeLine_eq]; omega)
  have keys : vs.map SrtO.iv = vs.map Builtin.Re.reRawOf := List.map_congr_left fun v hv => by
    obtain ⟨i, t, e⟩ := isInt v hv
    rw [e]; rfl
  have pk : (vs.map SrtO.iv).Perm (es.toList.map keyOf) := by
    rw [keys]
    have q := pm.map Builtin.Re.reRawOf
    rw [List.map_map] at q
    exact q
  refine wpAny_bind (wpAny_newList ?_ lenz)
  have at_L : (s1.heap.push (seqObj "list" vs.toArray 0)).get? s1.heap.objs.size = some (seqObj "list" vs.toArray 0) := Heap.get?_push_size _ rfl
  refine wpAny_bind (wpAny_holding (wpAny_call_entry slot_list_sort ⟨_, at_L, rfl⟩ entry_list_sort
    (SrtO.list_sort_ord (s := { s1 with heap := s1.heap.push (seqObj "list" vs.toArray 0) }) SrtO.swo_int at_L lenz (fun h2 => SrtO.ints_sortable areI h2) fun out b1 b2 => ⟨_, rfl, ?_⟩) (args_list_sort _)))
  obtain ⟨k1, k2, k3⟩ := SrtO.ints_out areI b1 b2
  obtain ⟨c, at_c⟩ := sortedHeap_at (vs := vs) (out := out.toArray) at_L
  have pn := k2.trans pk
  refine wpAny_pure ⟨_, rfl, hQ _ s1.heap.objs.size out c _ (fun b u e => ?_) g1 o1 le at_c k1 (lt_of_le_nodup _ k3 (pn.nodup_iff.mpr nd)) (fun k => by rw [pn.mem_iff, ← mem k]) (by rw [k2.length_eq, List.length_map]; exact lenv)⟩
  have q := keep b u e
  have hlt := Heap.lt_size q
  show (sortedHeap (s1.heap.push (seqObj "list" vs.toArray 0)) s1.heap.objs.size vs _).get? b = some u
  rw [sortedHeap_old (Nat.ne_of_lt hlt) (by rw [size_push']; exact Nat.lt_succ_of_lt hlt)]
  exact Heap.get?_push_of_some _ q
end
/-! ### over the layer -/
def rSetI (K : PySem.W.Frag) (w : World) : List V → Hp → VK → Prop := fun xs H Q => ∃ (l : Addr) (ns : List Int), xs = [V.ref l] ∧ SqL K H l (ns.map V.int) ∧ ns.length + 1 < scanBound ∧ ∀ a c, H a = none → Q (.ref a) (upd H a (SetO w a (fun j => decide (j ∈ ns)) c))
def rSortedSI (w : World) : List V → Hp → VK → Prop := fun vs H Q => ∃ (a : Addr) (S : Int → Bool) (n : Nat), vs = [V.ref a] ∧ H a = some (SetO w a S n) ∧
  ∀ (ns : List Int) (p : Addr), ns.Pairwise (· < ·) → (∀ k : Int, k ∈ ns ↔ S k = true) → H p = none → Q (.ref p) (upd H p (.lst (ns.map V.int)))
section
variable {X : Cx}
theorem cr_setI (hc : X.calm = true) : CallR X (.type "set") (rSetI X.K X.w) := by
  intro pins s σ H xs us Q I r h
  obtain ⟨l, ns, rfl, hl, hb, q⟩ := h
  rw [Vals.ref1 r]
  obtain ⟨its, rv, pl, hz⟩ := I.list hl
  refine set_ints (I.ok.hd hc) pl.isList (by simpa using rv.ints) hb fun s' ⟨h', tk, c, e, R, hc, keep⟩ => ?_
  subst e
  exact ⟨.ref s.heap.objs.size, upd H s.heap.objs.size (SetO X.w s.heap.objs.size (fun j => decide (j ∈ ns)) c), I.laid (t' := tk) keep (Nat.le_refl _) (setO_new R), rfl, q _ c (I.hok.fresh (Nat.le_refl _))⟩
theorem cr_sortedSI (hc : X.calm = true) : CallR X (.builtin "sorted") (rSortedSI X.w) := by
  intro pins s σ H vs us Q I r h
  obtain ⟨a, S, n, rfl, ha, q⟩ := h
  rw [Vals.ref1 r]
  refine sort_ints (setO_get I ha) (I.ok.hd hc) fun s' p out c ns k g o hp hg hi hs hm hl => ?_
  have hlen : (ns.map V.int).length ≤ sizeLine := by
    rw [List.length_map, sizeLine_eq]
    have e : scanBound = scanBound := rfl
    unfold scanBound at hl
    omega
  have hn : H p = none := I.hok.fresh hp
  obtain ⟨h', g', d', t', o'⟩ := s'
  obtain rfl : g' = s.gens := g
  obtain rfl : o' = s.os := o
  refine ⟨.ref p, upd H p (.lst (ns.map V.int)), ?_, rfl, q ns p hs hm hn⟩
  exact I.call (ch := []) (h' := h') (g' := s.gens) (d' := d') (t' := t') (Un.laid k hp hn) (I.hok.laid k hp ⟨hlen, out, c, vals_of_ints hi, hg⟩) I.bare (fun _ z => nomatch z)
end
def kSortI0 (o : Option (List Int)) (h : DH) (Q : DK) : Prop := match o with
  | some ks => ks.length ≤ 4000 ∧ ∀ (ms : List Int) (p : Addr), (∀ k, k ∈ ms ↔ k ∈ ks) → ms.Pairwise (· < ·) → h p = none → Q (.loc p) (hupd h p (.lst (ms.map D.int)))
  | none => False
@[irreducible] noncomputable def kSortI : Option (List Int) → DH → DK → Prop := hide kSortI0
theorem kSortI_eq {o : Option (List Int)} {h : DH} {Q : DK} : kSortI o h Q = kSortI0 o h Q := by unfold kSortI; rw [hide_eq]
noncomputable def dSortSetI (t : DE) : DE := fun τ h Q => t τ h fun x h1 => kSortI ((seqD h1 x).bind intsD) h1 Q
section
variable {X : Cx} {K : PySem.W.Frag} {e : Expr} {te : TE} {de : DE} {p1 p2 p3 p4 : Pos}
theorem xsortsetI (hc : X.calm = true) (hu : X.A.units + 64 < cLine) (he : XE X K e te de) (hm : X.mg "sorted" = none) (hm2 : X.mg "set" = none) (hg : Gl X "sorted" := by rfl) (hg2 : Gl X "set" := by rfl)
    (h1 : starEach [e] X.env = [(false, eval e X.env)] := by rfl) (h2 : starEach [.Call (.Name "set" p3) [e] [] p4] X.env = [(false, eval (.Call (.Name "set" p3) [e] [] p4) X.env)] := by rfl) (hK : X.K = K := by rfl) :
    XE X K (.Call (.Name "sorted" p1) [.Call (.Name "set" p3) [e] [] p4] [] p2) (tCB (rSortedSI X.w) (tCons (tCB (rSetI X.K X.w) (tCons te tNil)) tNil)) (dSortSetI de) := by
  subst hK
  refine ⟨pe_callB (cr_sortedSI hc) hg hm (by decide +kernel) (pa_cons (pe_callTy (cr_setI hc) hg2 hm2 (by decide +kernel) (pa_cons he.p pa_nil h1) (he := h1)) pa_nil h2) (he := h2), fun τ σ h H Q Q0 rs hr bw w => he.l τ σ h H _ _ rs hr (fun x h1 v H1 x1 r1 hr1 w1 => ?_) w⟩
  rw [kSortI_eq] at w1
  unfold kSortI0 at w1
  cases z : (seqD h1 x).bind intsD with
  | none => rw [z] at w1; exact w1.elim
  | some ks =>
    rw [z] at w1
    obtain ⟨w2, w3⟩ := w1
    obtain ⟨l, e1, s⟩ := ints_v hr1 r1 z
    subst e1
    refine ⟨l, ks, rfl, s, by unfold scanBound; omega, fun a c ha => ?_⟩
    have xa : TX X.K H1 (upd H1 a (SetO X.w a (fun j => decide (j ∈ ks)) c)) := tx_new ha
    refine ⟨a, _, c, rfl, upd_same, fun ns p hs hm hp => ?_⟩
    have xp : TX X.K (upd H1 a (SetO X.w a (fun j => decide (j ∈ ks)) c)) (upd (upd H1 a (SetO X.w a (fun j => decide (j ∈ ks)) c)) p (.lst (ns.map V.int))) := tx_new hp
    have hrA : HR X.K (upd H1 a (SetO X.w a (fun j => decide (j ∈ ks)) c)) h1 := hr1.lay ha
    exact bw _ _ _ _ (x1.trans (xa.trans xp)) rv_loc' (hrA.put xp (ro_lst xp (rvs_ints ns))) (w3 ns p (fun k => by rw [hm k]; simp) hs (hrA.free hp))
end
theorem w_sortI {x : D} {ks : List Int} {h : DH} {Q : DK} (e : (seqD h x).bind intsD = some ks) (l : ks.length ≤ 4000) (k : ∀ (ms : List Int) (p : Addr), (∀ k, k ∈ ms ↔ k ∈ ks) → ms.Pairwise (· < ·) → h p = none → Q (.loc p) (hupd h p (.lst (ms.map D.int)))) : kSortI ((seqD h x).bind intsD) h Q := by
  rw [kSortI_eq, e]; exact ⟨l, k⟩
end DL

set_option Elab.async false
set_option linter.all false
set_option maxRecDepth 100000
/-! DL17: loops over range(n). -/
namespace DL
open PySem PySem.Spec PyProof.Rows L2
theorem w_range0 {g : DTG} {tb : DS} {N : DEnds} {n : Nat} {τ : DSt} {h : DH} (I : Nat → DSt → DH → Prop) (h0 : I 0 τ h)
    (step : ∀ i τ h (nx : DSt → DH → Prop), i < n → I i τ h → (∀ τ2 h2, I (i + 1) τ2 h2 → nx τ2 h2) → g (.int (i : Nat)) τ h fun τ1 h1 => tb { N with nx := nx, ct := nx, bk := N.nx } τ1 h1)
    (last : ∀ τ h, I n τ h → N.nx τ h) : kLoop (fun _ => True) g tb N (rangeD 0 n) τ h := by
  refine w_range I h0 (fun i τ h nx hi q k => ?_) last
  rw [Int.zero_add]
  exact step i τ h nx hi q k
theorem rangeD_get0 {n i : Nat} {d : D} (e : (rangeD 0 n)[i]? = some d) : i < n ∧ d = .int (i : Nat) := by
  obtain ⟨h1, h2⟩ := rangeD_get e
  rw [Int.zero_add] at h2
  exact ⟨h1, h2⟩
theorem atI_at {xs : List D} {v : Int} (h0 : 0 ≤ v) (h1 : v.toNat < xs.length) : atI xs v = some xs[v.toNat] := by
  unfold atI
  unfold ixN
  rw [if_pos h0, if_pos (by omega)]
  simp [h1]
theorem atI_nth {xs : List D} {i : Nat} {d : D} (h : xs[i]? = some d) : getI xs (.int (i : Nat)) = some d := atI_nat h
/-- a comprehension that tests nothing, item by item: f gives each item's value -/
theorem w_map {G : DH → Prop} {g : DTG} {te : DE} {p : Addr} {τ : DSt} {Q : DK} {items : List D} {h : DH} (f : Nat → D) (hp : h p = none) (hlen : items.length < sizeLine) (hG : ∀ h', Ext h h' → G h')
    (step : ∀ i d h' (C : D → DH → Prop), items[i]? = some d → Ext h h' → (∀ h2, Ext h' h2 → C (f i) h2) → g d τ h' fun τ2 h2 => te τ2 h2 C)
    (last : ∀ h', Ext h h' → h' p = some (.lst ((List.range items.length).map f)) → Q (.loc p) h') : kGo G g dYes te p τ Q items (hupd h p (.lst [])) := by
  refine w_go (I := fun i h' => Ext h h' ∧ h' p = some (.lst ((List.range i).map f))) ⟨ext_new hp, hupd_same⟩ (fun _ h' _ I => hG h' I.1) ?_ (fun h' I => last h' I.1 I.2)
  rintro i d h' C e ⟨x, ep⟩ hC
  have hi : i < items.length := (List.getElem?_eq_some_iff.mp e).1
  have q := step i d h' (fun y h4 => kPush p C y h4) e x (fun h2 x2 => ?_)
  · have e1 : (fun τ2 h2 => te τ2 h2 fun y h4 => kPush p C y h4) = fun τ2 h2 => dYes τ2 h2 fun b h3 => kIte b (te τ2 h3 fun y h4 => kPush p C y h4) (C h3) := by
      funext τ2 h2
      show _ = kIte true _ _
      rw [kIte_eq, if_pos rfl]
    rw [e1] at q
    exact q
  · refine w_push (x2 _ _ ep) (by rw [List.length_map, List.length_range]; omega) (hC _ ⟨fun a o q => ?_, ?_⟩)
    · rw [hupd_ne (fun z => by subst z; rw [hp] at q; cases q)]
      exact x2 a o (x a o q)
    · rw [hupd_same, List.range_succ, List.map_append]; rfl
/-- a comprehension with a test: f gives what is kept of each item -/
theorem w_filt {G : DH → Prop} {g : DTG} {tt : DT} {te : DE} {p : Addr} {τ : DSt} {Q : DK} {items : List D} {h : DH} (f : Nat → Option D) (hp : h p = none) (hlen : items.length < sizeLine) (hG : ∀ h', Ext h h' → G h')
    (step : ∀ i d h' (C1 : D → DH → Prop) (C0 : DH → Prop), items[i]? = some d → Ext h h' → (∀ v h2, f i = some v → Ext h' h2 → C1 v h2) → (∀ h2, f i = none → Ext h' h2 → C0 h2) → g d τ h' fun τ2 h2 => tt τ2 h2 fun b h3 => kIte b (te τ2 h3 C1) (C0 h3))
    (last : ∀ h', Ext h h' → h' p = some (.lst ((List.range items.length).filterMap f)) → Q (.loc p) h') : kGo G g tt te p τ Q items (hupd h p (.lst [])) := by
  refine w_go (I := fun i h' => Ext h h' ∧ h' p = some (.lst ((List.range i).filterMap f))) ⟨ext_new hp, hupd_same⟩ (fun _ h' _ I => hG h' I.1) ?_ (fun h' I => last h' I.1 I.2)
  rintro i d h' C e ⟨x, ep⟩ hC
  have hi : i < items.length := (List.getElem?_eq_some_iff.mp e).1
  refine step i d h' (fun y h4 => kPush p C y h4) C e x (fun v h2 fv x2 => ?_) (fun h2 fv x2 => ?_)
  · refine w_push (x2 _ _ ep) (by have := List.length_filterMap_le f (List.range i); rw [List.length_range] at this; omega) (hC _ ⟨fun a o q => ?_, ?_⟩)
    · rw [hupd_ne (fun z => by subst z; rw [hp] at q; cases q)]
      exact x2 a o (x a o q)
    · rw [hupd_same, List.range_succ, List.filterMap_append]
      simp [fv]
  · refine hC _ ⟨x.trans x2, ?_⟩
    rw [x2 _ _ ep, List.range_succ, List.filterMap_append]
    simp [fv]
theorem eqv_nil (xs : List PyData) : PyData.eqv (.list xs) (.list []) = xs.isEmpty := by
  cases xs with
  | nil => simp [PyData.eqv, PyData.eqvAll]
  | cons x xs => simp [PyData.eqv, PyData.eqvAll]
end DL
namespace DL
open PySem PySem.Spec PyProof.Rows L2
/-! ### cuts: what holds behind a piece, whatever follows -/
theorem w_par {i j : Nat} {A : DA} {N : DEnds} {τ : DSt} {h : DH} (P : D → D → DH → Prop) (hA : ∀ Q : List D → DH → Prop, (∀ v w h', P v w h' → Q [v, w] h') → A τ h Q) (k : ∀ v w h', P v w h' → N.nx ((τ.set i (some v)).set j (some w)) h') : dPar i j A N τ h :=
  hA _ fun v w h' p => k v w h' p
theorem w_cons {e : DE} {r : DA} {τ : DSt} {h : DH} {Q : List D → DH → Prop} (P : D → DH → Prop) (he : ∀ Qd : DK, (∀ v h', P v h' → Qd v h') → e τ h Qd) (k : ∀ v h', P v h' → r τ h' fun xs h2 => Q (v :: xs) h2) : dCons e r τ h Q := he _ k
theorem w_cut {t u : DS} {N : DEnds} {τ : DSt} {h : DH} (P : DSt → DH → Prop) (ht : ∀ nx : DSt → DH → Prop, (∀ τ' h', P τ' h' → nx τ' h') → t { N with nx := nx } τ h) (hu : ∀ τ' h', P τ' h' → u N τ' h') : dSeq t u N τ h := ht _ hu
theorem w_asg {e : DE} {g : DTG} {N : DEnds} {τ : DSt} {h : DH} (P : D → DH → Prop) (he : ∀ Qd : DK, (∀ v h', P v h' → Qd v h') → e τ h Qd) (k : ∀ v h', P v h' → g v τ h' N.nx) : dAsg e g N τ h := he _ k
end DL
namespace DL
open PySem PySem.Spec PyProof.Rows L2
/-! ### what repr can show -/
structure Rp (p : PyData) (d b : Nat) : Prop where
  sh : p.showable = true
  dp : p.depth ≤ d
  lv : p.leavesShort 101 = true
  bk : p.bulk ≤ b
structure RpL (p : List PyData) (d b : Nat) : Prop where
  sh : PyData.showableAll p = true
  dp : PyData.depthAll p ≤ d
  lv : PyData.leavesShortAll 101 p = true
  bk : PyData.bulkAll p ≤ b
theorem Rp.int {i : Int} {d b : Nat} (h : okI i) : Rp (.int i) d b := ⟨show_int h, by simp [PyData.depth], leaf_int h, by simp [PyData.bulk]⟩
theorem Rp.non {d b : Nat} : Rp .none d b := ⟨by simp [PyData.showable], by simp [PyData.depth], by simp [PyData.leavesShort], by simp [PyData.bulk]⟩
theorem Rp.bl {x : Bool} {d b : Nat} : Rp (.bool x) d b := ⟨by simp [PyData.showable], by simp [PyData.depth], by simp [PyData.leavesShort], by simp [PyData.bulk]⟩
theorem Rp.str {x : Str} {d b : Nat} (h : x.cps.size ≤ b) (hl : PyData.leavesShort 101 (.str x) = true := by rfl) : Rp (.str x) d b := ⟨by simp [PyData.showable], by simp [PyData.depth], hl, by simp [PyData.bulk]; exact h⟩
theorem RpL.nil {d b : Nat} : RpL [] d b := ⟨by simp [PyData.showableAll], by simp [PyData.depthAll], by simp [PyData.leavesShortAll], by simp [PyData.bulkAll]⟩
theorem RpL.cons {p : PyData} {ps : List PyData} {d b b2 b3 : Nat} (h : Rp p d b) (r : RpL ps d b2) (e : b + 1 + b2 ≤ b3) : RpL (p :: ps) d b3 := ⟨by simp [PyData.showableAll, h.sh, r.sh], by have := h.dp; have := r.dp; simp only [PyData.depthAll]; omega, by simp [PyData.leavesShortAll, h.lv, r.lv], by have := h.bk; have := r.bk; simp only [PyData.bulkAll]; omega⟩
theorem RpL.n {d : Nat} : RpL [] d 0 := .nil
theorem RpL.c {p : PyData} {ps : List PyData} {d b b2 : Nat} (h : Rp p d b) (r : RpL ps d b2) : RpL (p :: ps) d (b + 1 + b2) := .cons h r (Nat.le_refl _)
theorem Rp.list {ps : List PyData} {d b : Nat} (r : RpL ps d b) : Rp (.list ps) (d + 1) b := ⟨by simp [PyData.showable, r.sh], by have := r.dp; simp only [PyData.depth]; omega, by simp [PyData.leavesShort, r.lv], by have := r.bk; simp only [PyData.bulk]; exact this⟩
theorem Rp.tup {ps : List PyData} {d b : Nat} (r : RpL ps d b) : Rp (.tuple ps) (d + 1) b := ⟨by simp [PyData.showable, r.sh], by have := r.dp; simp only [PyData.depth]; omega, by simp [PyData.leavesShort, r.lv], by have := r.bk; simp only [PyData.bulk]; exact this⟩
theorem RpL.all {ps : List PyData} {d b : Nat} (h : ∀ p ∈ ps, Rp p d b) : RpL ps d (ps.length * (b + 1)) := by
  induction ps with
  | nil => exact .nil
  | cons p ps ih =>
    refine .cons (h p List.mem_cons_self) (ih fun q hq => h q (List.mem_cons_of_mem _ hq)) ?_
    rw [List.length_cons, Nat.succ_mul]; omega
theorem Rp.mono {p : PyData} {d b d2 b2 : Nat} (h : Rp p d b) (h1 : d ≤ d2) (h2 : b ≤ b2) : Rp p d2 b2 := ⟨h.sh, Nat.le_trans h.dp h1, h.lv, Nat.le_trans h.bk h2⟩
theorem RpL.mono {p : List PyData} {d b d2 b2 : Nat} (h : RpL p d b) (h1 : d ≤ d2) (h2 : b ≤ b2) : RpL p d2 b2 := ⟨h.sh, Nat.le_trans h.dp h1, h.lv, Nat.le_trans h.bk h2⟩
theorem w_rep {d : D} {h : DH} {Q : DK} {p : PyData} {n b : Nat} (pd : PD h d p) (r : Rp p n b) (hn : n ≤ 50) (hb : b ≤ 150000) (k : Q (.str p.shown) h) : kRepr [d] h Q := w_repr pd r.sh (Nat.le_trans r.dp hn) r.lv (Nat.le_trans r.bk hb) k
def optP : Option Int → PyData
  | none => .none
  | some i => .int i

end DL
namespace DL
open PySem PySem.Spec PyProof.Rows L2
theorem cutD_drop (xs : List D) (k : Nat) : cutD xs (some (k : Int)) none = xs.drop k := by
  unfold cutD
  rw [HT.sIx_none, HT.sIx_nat]
  by_cases h : k ≤ xs.length
  · rw [Nat.min_eq_left h, List.take_of_length_le (by rw [List.length_drop]; omega)]
  · rw [Nat.min_eq_right (by omega), List.drop_of_length_le (Nat.le_refl _), List.drop_of_length_le (by omega)]; simp
theorem cutD_take (xs : List D) (k : Nat) : cutD xs none (some (k : Int)) = xs.take k := by
  unfold cutD
  rw [HT.sIx_none, HT.sIx_nat, List.drop_zero, Nat.sub_zero]
  by_cases h : k ≤ xs.length
  · rw [Nat.min_eq_left h]
  · rw [Nat.min_eq_right (by omega), List.take_of_length_le (Nat.le_refl _), List.take_of_length_le (by omega)]
end DL
namespace DL
open PySem PySem.Spec PyProof.Rows L2
theorem small2 {n : Nat} (h : n ≤ 1000000) : n < sizeLine := Nat.lt_of_le_of_lt h (Nat.lt_of_succ_le (Nat.le_of_ble_eq_true rfl))
theorem seqI {h : DH} {p : Addr} {ns : List Int} (e : h p = some (.lst (ns.map D.int))) : (seqD h (.loc p)).bind intsD = some ns := by
  rw [seq_of e, Option.bind_some, intsD_map]
end DL

set_option Elab.async false
set_option linter.all false
set_option maxRecDepth 100000
/-! DL18: data that == takes. -/
namespace DL
open PySem PySem.Spec PyProof.Rows L2
structure Sh (p : PyData) (d : Nat) : Prop where
  cl : p.canLay0 = true
  dp : p.depth ≤ d
structure ShL (p : List PyData) (d : Nat) : Prop where
  cl : PyData.canLayAll0 p = true
  dp : PyData.depthAll p ≤ d
theorem Sh.int {i : Int} {d : Nat} : Sh (.int i) d := ⟨by simp [PyData.canLay0], by simp [PyData.depth]⟩
theorem Sh.non {d : Nat} : Sh .none d := ⟨by simp [PyData.canLay0], by simp [PyData.depth]⟩
theorem Sh.bl {x : Bool} {d : Nat} : Sh (.bool x) d := ⟨by simp [PyData.canLay0], by simp [PyData.depth]⟩
theorem Sh.str {x : Str} {d : Nat} (h : PyData.canLay0 (.str x) = true := by rfl) : Sh (.str x) d := ⟨h, by simp [PyData.depth]⟩
theorem ShL.n {d : Nat} : ShL [] d := ⟨by simp [PyData.canLayAll0], by simp [PyData.depthAll]⟩
theorem ShL.c {p : PyData} {ps : List PyData} {d : Nat} (h : Sh p d) (r : ShL ps d) : ShL (p :: ps) d := ⟨by simp [PyData.canLayAll0, h.cl, r.cl], by have := h.dp; have := r.dp; simp only [PyData.depthAll]; omega⟩
theorem Sh.list {ps : List PyData} {d : Nat} (r : ShL ps d) : Sh (.list ps) (d + 1) := ⟨by simp [PyData.canLay0, r.cl], by have := r.dp; simp only [PyData.depth]; omega⟩
theorem Sh.tup {ps : List PyData} {d : Nat} (r : ShL ps d) : Sh (.tuple ps) (d + 1) := ⟨by simp [PyData.canLay0, r.cl], by have := r.dp; simp only [PyData.depth]; omega⟩
theorem ShL.map {α : Type} {f : α → PyData} {l : List α} {d : Nat} (h : ∀ a ∈ l, Sh (f a) d) : ShL (l.map f) d := by
  induction l with
  | nil => exact .n
  | cons a l ih => exact .c (h a List.mem_cons_self) (ih fun b hb => h b (List.mem_cons_of_mem _ hb))
theorem Sh.ok {p : PyData} {d : Nat} (s : Sh p d) (h : d ≤ 64) : SeqAt.shaped p = true := by
  unfold SeqAt.shaped
  rw [s.cl, decide_eq_true (Nat.le_trans s.dp h)]; rfl
theorem Sh.refl {p : PyData} {d : Nat} (s : Sh p d) : PyData.eqv p p = true := SeqAt.eqv_refl _ s.cl
theorem eqvT_nil (xs : List PyData) : PyData.eqv (.tuple xs) (.tuple []) = xs.isEmpty := by
  cases xs with
  | nil => simp [PyData.eqv, PyData.eqvAll]
  | cons x xs => simp [PyData.eqv, PyData.eqvAll]
theorem RpL.map {α : Type} {f : α → PyData} {l : List α} {d b : Nat} (h : ∀ a ∈ l, Rp (f a) d b) : RpL (l.map f) d (l.length * (b + 1)) := by
  have := RpL.all (ps := l.map f) (d := d) (b := b) fun p hp => by
    obtain ⟨a, ha, rfl⟩ := List.mem_map.mp hp
    exact h a ha
  rwa [List.length_map] at this
theorem pds_map {α : Type} {f : α → D} {g : α → PyData} {h : DH} (k : ∀ a, PD h (f a) (g a)) : ∀ l : List α, PDs h (l.map f) (l.map g)
  | [] => .nil
  | a :: l => .cons (k a) (pds_map k l)
theorem mulM {i j : Int} (h1 : i.natAbs < 2 ^ 250) (h2 : j.natAbs < 2 ^ 250) : MulOk i j := .inr (.inr ⟨h1, h2⟩)
end DL
namespace DL
open PySem PySem.Spec PyProof.Rows L2
def cutL {α : Type} (xs : List α) (lo hi : Option Int) : List α := (xs.drop (HT.sIx xs.length 0 lo)).take (HT.sIx xs.length xs.length hi - HT.sIx xs.length 0 lo)
theorem cutD_map {α : Type} (f : α → D) (l : List α) (lo hi : Option Int) : cutD (l.map f) lo hi = (cutL l lo hi).map f := by
  unfold cutD cutL
  rw [List.length_map, List.map_take, List.map_drop]
theorem mem_cutL {α : Type} {x : α} {l : List α} {lo hi : Option Int} (h : x ∈ cutL l lo hi) : x ∈ l := by
  unfold cutL at h
  exact List.mem_of_mem_drop (List.mem_of_mem_take h)
theorem cutL_length {α : Type} (l : List α) (lo hi : Option Int) : (cutL l lo hi).length ≤ l.length := by
  unfold cutL
  rw [List.length_take, List.length_drop]; omega
theorem filt_int' (f : Nat → Option Int) (l : List Nat) : l.filterMap (fun i => (f i).map D.int) = (l.filterMap f).map D.int := by rw [List.map_filterMap]
end DL
namespace DL
open PySem PySem.Spec PyProof.Rows L2
/-- comprehensions over what is made of a list -/
theorem w_mapL {α : Type} (l : List α) (f : α → D) (v : α → D) {G : DH → Prop} {g : DTG} {te : DE} {p : Addr} {τ : DSt} {Q : DK} {h : DH} (hp : h p = none) (hlen : l.length < sizeLine) (hG : ∀ h', Ext h h' → G h')
    (step : ∀ a h' (C : D → DH → Prop), a ∈ l → Ext h h' → (∀ h2, Ext h' h2 → C (v a) h2) → g (f a) τ h' fun τ2 h2 => te τ2 h2 C)
    (last : ∀ h', Ext h h' → h' p = some (.lst (l.map v)) → Q (.loc p) h') : kGo G g dYes te p τ Q (l.map f) (hupd h p (.lst [])) := by
  have e0 : ∀ (i : Nat) (a : α), l[i]? = some a → (l[i]?.map v).getD .non = v a := fun i a e => by rw [e]; rfl
  refine w_map (fun i => (l[i]?.map v).getD .non) hp (by rw [List.length_map]; exact hlen) hG (fun i d h' C ed x hC => ?_) (fun h' x e => last h' x ?_)
  · rw [List.getElem?_map] at ed
    obtain ⟨a, ea, rfl⟩ := Option.map_eq_some_iff.mp ed
    rw [e0 i a ea] at hC
    exact step a h' C (List.mem_of_getElem? ea) x hC
  · rw [e, List.length_map]
    congr 2
    refine List.ext_getElem? fun j => ?_
    rw [List.getElem?_map, List.getElem?_map]
    by_cases hj : j < l.length
    · rw [List.getElem?_range hj, List.getElem?_eq_getElem hj]
      show some ((l[j]?.map v).getD .non) = _
      rw [List.getElem?_eq_getElem hj]; rfl
    · rw [List.getElem?_eq_none (by simpa using hj), List.getElem?_eq_none (by omega)]; rfl
theorem w_filtL {α : Type} (l : List α) (f : α → D) (v : α → Option D) {G : DH → Prop} {g : DTG} {tt : DT} {te : DE} {p : Addr} {τ : DSt} {Q : DK} {h : DH} (hp : h p = none) (hlen : l.length < sizeLine) (hG : ∀ h', Ext h h' → G h')
    (step : ∀ a h' (C1 : D → DH → Prop) (C0 : DH → Prop), a ∈ l → Ext h h' → (∀ w h2, v a = some w → Ext h' h2 → C1 w h2) → (∀ h2, v a = none → Ext h' h2 → C0 h2) → g (f a) τ h' fun τ2 h2 => tt τ2 h2 fun b h3 => kIte b (te τ2 h3 C1) (C0 h3))
    (last : ∀ h', Ext h h' → h' p = some (.lst (l.filterMap v)) → Q (.loc p) h') : kGo G g tt te p τ Q (l.map f) (hupd h p (.lst [])) := by
  have e0 : ∀ (i : Nat) (a : α), l[i]? = some a → (l[i]?.bind v) = v a := fun i a e => by rw [e]; rfl
  refine w_filt (fun i => l[i]?.bind v) hp (by rw [List.length_map]; exact hlen) hG (fun i d h' C1 C0 ed x k1 k0 => ?_) (fun h' x e => last h' x ?_)
  · rw [List.getElem?_map] at ed
    obtain ⟨a, ea, rfl⟩ := Option.map_eq_some_iff.mp ed
    simp only [e0 i a ea] at k1 k0
    exact step a h' C1 C0 (List.mem_of_getElem? ea) x k1 k0
  · rw [e, List.length_map]
    congr 2
    have key : ∀ m : List α, (List.range m.length).filterMap (fun i => m[i]?.bind v) = m.filterMap v := by
      intro m
      induction m with
      | nil => rfl
      | cons a m ih =>
        rw [List.length_cons, List.range_succ_eq_map, List.filterMap_cons, List.filterMap_map, List.filterMap_cons]
        have : (fun i => (a :: m)[i]?.bind v) ∘ Nat.succ = fun i => m[i]?.bind v := by funext i; rfl
        rw [this, ih]
        rfl
    exact key l
theorem filtL_int {α : Type} (f : α → Option Int) (l : List α) : l.filterMap (fun a => (f a).map D.int) = (l.filterMap f).map D.int := by rw [List.map_filterMap]
end DL

set_option Elab.async false
set_option linter.all false
set_option maxRecDepth 100000
set_option maxHeartbeats 2000000
/-! DL19: repr of data with dicts, t[::-1], t * i. -/
namespace DL
open PySem PySem.Spec PyProof.Rows L2

/-! ### data as it reads, dicts too -/
mutual
inductive RX (h : Heap) : Value → PyData → Prop
  | non : RX h .none .none
  | bl (b : Bool) : RX h (.bool b) (.bool b)
  | int (i : Int) (t : Tok) : RX h (.int i t) (.int i)
  | str (x : Str) (t : Tok) : RX h (.str x t) (.str x)
  | list {a : Addr} {o : Obj} {vs : Array Value} {n : Nat} {xs : List PyData} : h.get? a = some o → o.cls = .type "list" → o.data = .seq vs n → RXs h vs.toList xs → RX h (.ref a) (.list xs)
  | tuple {a : Addr} {o : Obj} {vs : Array Value} {n : Nat} {xs : List PyData} : h.get? a = some o → o.cls = .type "tuple" → o.data = .seq vs n → RXs h vs.toList xs → RX h (.ref a) (.tuple xs)
  | dict {a : Addr} {o : Obj} {es : Array DictEntry} {n : Nat} {kvs : List (PyData × PyData)} : h.get? a = some o → o.cls = .type "dict" → o.data = .dict es n → (a == sysModules) = false → RXs h (es.toList.map (·.key)) (kvs.map (·.1)) → RXs h (es.toList.map (·.val)) (kvs.map (·.2)) → RX h (.ref a) (.dict kvs)
inductive RXs (h : Heap) : List Value → List PyData → Prop
  | nil : RXs h [] []
  | cons {v : Value} {vs : List Value} {d : PyData} {ds : List PyData} : RX h v d → RXs h vs ds → RXs h (v :: vs) (d :: ds)
end
section
variable {h₀ : Heap} {prog : Program} {w : World}
mutual
theorem RX.reads : ∀ {v : Value} {d : PyData}, RX h₀ v d → ∃ as, Reads h₀ v d as
  | _, _, .non => ⟨_, .none⟩
  | _, _, .bl b => ⟨_, .bool b⟩
  | _, _, .int i t => ⟨_, .int i t⟩
  | _, _, .str x t => ⟨_, .str x t⟩
  | _, _, .list h1 h2 h3 h4 => let ⟨_, r⟩ := RXs.reads h4; ⟨_, .list h1 h2 h3 r⟩
  | _, _, .tuple h1 h2 h3 h4 => let ⟨_, r⟩ := RXs.reads h4; ⟨_, .tuple h1 h2 h3 r⟩
  | _, _, .dict h1 h2 h3 _ h4 h5 => let ⟨_, r⟩ := RXs.reads h4; let ⟨_, q⟩ := RXs.reads h5; ⟨_, .dict h1 h2 h3 r q⟩
theorem RXs.reads : ∀ {v : List Value} {d : List PyData}, RXs h₀ v d → ∃ as, ReadsAll h₀ v d as
  | _, _, .nil => ⟨_, .nil⟩
  | _, _, .cons r rs => let ⟨_, p⟩ := RX.reads r; let ⟨_, q⟩ := RXs.reads rs; ⟨_, .cons p q⟩
end
mutual
theorem RX.reprK : ∀ {v : Value} {d : PyData}, RX h₀ v d → d.showable = true → d.shown.length ≤ sizeLine → ∃ bs, ReadAtMost h₀ d.depth bs ∧ ReprK prog w bs h₀ d.depth v d.shown
  | _, _, .non, _, _ => ⟨[], (fun _ h => nomatch h), by simp only [PyData.shown]; exact .of_is ReprIs.none _ _ _⟩
  | _, _, .bl b, _, _ => ⟨[], (fun _ h => nomatch h), by simp only [PyData.shown]; exact .of_is (ReprIs.bool b) _ _ _⟩
  | _, _, .int i t, hs, _ => ⟨[], (fun _ h => nomatch h), by simp only [PyData.shown]; exact .of_is (ReprIs.int t (by simpa [PyData.showable] using hs)) _ _ _⟩
  | _, _, .str x t, _, hz => ⟨[], (fun _ h => nomatch h), by simp only [PyData.shown]; exact .of_is (ReprIs.str x t (by simpa only [PyData.shown] using hz)) _ _ _⟩
  | _, _, .list (a := a) (vs := vs) (xs := xs) h1 h2 h3 h4, hs, hz => by
    have hz' : (listText (PyData.shownAll xs)).length ≤ sizeLine := by simpa only [PyData.shown] using hz
    obtain ⟨bs, hb, hk⟩ := RXs.reprK h4 (by simpa [PyData.showable] using hs) (fun t ht => Nat.le_trans (listText_mem_le ht) hz')
    obtain ⟨_, r⟩ := RX.reads (.list h1 h2 h3 h4)
    have hna : a ∉ bs := not_mem_of_deeper r (by simp only [PyData.depth]; omega) hb
    refine ⟨a :: bs, ReadAtMost.cons r (by simp only [PyData.depth]; omega) hb, ?_⟩
    simp only [PyData.depth, PyData.shown]
    obtain ⟨l⟩ := vs
    cases l with
    | nil =>
      have h4' : RXs h₀ [] xs := h4
      cases h4'
      simp only [PyData.shownAll, listText_nil]
      exact ReprK.listEmpty h1 h2 h3
    | cons x l => exact ReprK.list h1 h2 h3 hna (by simpa using hk.length_eq) (fun i y e => hk.item i y (by simpa using e))
  | _, _, .tuple (a := a) (xs := xs) h1 h2 h3 h4, hs, hz => by
    have hz' : (tupleText (PyData.shownAll xs)).length ≤ sizeLine := by simpa only [PyData.shown] using hz
    obtain ⟨bs, hb, hk⟩ := RXs.reprK h4 (by simpa [PyData.showable] using hs) (fun t ht => Nat.le_trans (tupleText_mem_le ht) hz')
    obtain ⟨_, r⟩ := RX.reads (.tuple h1 h2 h3 h4)
    have hna : a ∉ bs := not_mem_of_deeper r (by simp only [PyData.depth]; omega) hb
    refine ⟨a :: bs, ReadAtMost.cons r (by simp only [PyData.depth]; omega) hb, ?_⟩
    simp only [PyData.depth, PyData.shown]
    exact ReprK.tuple h1 h2 h3 hna hk
  | _, _, .dict (a := a) (es := es) (kvs := kvs) h1 h2 h3 hsys h4 h5, hs, hz => by
    have hz' : (dictText (PyData.shownKv kvs)).length ≤ sizeLine := by simpa only [PyData.shown] using hz
    obtain ⟨hs1, hs2⟩ := PyData.showableKv_split kvs (by simpa [PyData.showable] using hs)
    obtain ⟨b1, hb1, k1⟩ := RXs.reprK h4 hs1 (fun t ht => let ⟨p, hp, hl⟩ := PyData.shownKv_key_le kvs t ht; Nat.le_trans hl (Nat.le_trans (dictText_mem_le hp) hz'))
    obtain ⟨b2, hb2, k2⟩ := RXs.reprK h5 hs2 (fun t ht => let ⟨p, hp, hl⟩ := PyData.shownKv_val_le kvs t ht; Nat.le_trans hl (Nat.le_trans (dictText_mem_le hp) hz'))
    obtain ⟨_, r⟩ := RX.reads (.dict h1 h2 h3 hsys h4 h5)
    have hb : ReadAtMost h₀ (PyData.depthKv kvs) (b1 ++ b2) := (hb1.mono (PyData.depthAll_keys_le kvs)).append (hb2.mono (PyData.depthAll_vals_le kvs))
    have hna : a ∉ b1 ++ b2 := not_mem_of_deeper r (by simp only [PyData.depth]; omega) hb
    refine ⟨a :: (b1 ++ b2), ReadAtMost.cons r (by simp only [PyData.depth]; omega) hb, ?_⟩
    simp only [PyData.depth, PyData.shown, PyData.shownKv_eq]
    exact ReprK.dict h1 h2 h3 hsys hna (ReprEntriesK.of_two es.toList _ _
      (k1.more_le (fun b hb => List.mem_append_left _ hb) (PyData.depthAll_keys_le kvs)) (k2.more_le (fun b hb => List.mem_append_right _ hb) (PyData.depthAll_vals_le kvs)))
theorem RXs.reprK : ∀ {vs : List Value} {ds : List PyData}, RXs h₀ vs ds → PyData.showableAll ds = true → (∀ t ∈ PyData.shownAll ds, t.length ≤ sizeLine) → ∃ bs, ReadAtMost h₀ (PyData.depthAll ds) bs ∧ ReprAllK prog w bs h₀ (PyData.depthAll ds) vs (PyData.shownAll ds)
  | _, _, .nil, _, _ => ⟨[], (fun _ h => nomatch h), by simp only [PyData.shownAll]; exact .nil⟩
  | _, _, .cons (d := d) (ds := ds) r rs, hs, hz => by
    have hs' : d.showable = true ∧ PyData.showableAll ds = true := by simpa [PyData.showableAll] using hs
    obtain ⟨b1, hb1, k1⟩ := RX.reprK r hs'.1 (hz _ (by simp only [PyData.shownAll]; exact List.mem_cons_self ..))
    obtain ⟨b2, hb2, k2⟩ := RXs.reprK rs hs'.2 (fun t ht => hz t (by simp only [PyData.shownAll]; exact List.mem_cons_of_mem _ ht))
    refine ⟨b1 ++ b2, ?_, ?_⟩
    · intro b hm
      simp only [PyData.depthAll]
      rcases List.mem_append.mp hm with hm | hm
      · obtain ⟨d', as', r', hd'⟩ := hb1 b hm
        exact ⟨d', as', r', Nat.le_trans hd' (Nat.le_max_left _ _)⟩
      · obtain ⟨d', as', r', hd'⟩ := hb2 b hm
        exact ⟨d', as', r', Nat.le_trans hd' (Nat.le_max_right _ _)⟩
    · simp only [PyData.depthAll, PyData.shownAll]
      exact .cons ((k1.more fun b hb => List.mem_append_left _ hb).level_le (Nat.le_max_left _ _)) (k2.more_le (fun b hb => List.mem_append_right _ hb) (Nat.le_max_right _ _))
end
theorem repr_rx {A : Around} {E : Value → Shared → Prop} {s : Shared} {Q : Value → Shared → Prop} {v : Value} {d : PyData} (r : RX s.heap v d) (hs : d.showable = true) (hg : A.guards = some []) (hu : A.units + (d.depth + 1) < cLine) (hz : d.shown.length ≤ sizeLine)
    (hQ : ∀ h' u tk, (∀ b o, s.heap.get? b = some o → h'.get? b = some o) → Q (.str d.shown u) { s with heap := h', toks := tk }) : wpAny (model prog w) A (call (.builtin "repr") [v]) Q E s := by
  have same : ∀ b o, s.heap.get? b = some o → s.heap.get? b = some o := fun _ _ z => z
  cases r with
  | non =>
    refine PySem.P.repr_of_none ?_
    have e : (PyData.none).shown = "None" := by simp [PyData.shown]
    rw [← e]; exact hQ _ _ _ same
  | bl b =>
    refine PySem.P.repr_of_bool ?_
    have e : (PyData.bool b).shown = (if b = true then ("True" : Str) else ("False" : Str)) := by simp [PyData.shown]
    rw [← e]; exact hQ _ _ _ same
  | int i t =>
    refine PySem.P.repr_of_int (by simpa [PyData.showable] using hs) ?_
    have e : (PyData.int i).shown = toString i := by simp [PyData.shown]
    rw [← e]; exact hQ _ _ _ same
  | str y t =>
    have e : (PyData.str y).shown = reprText y := by simp [PyData.shown]
    refine PySem.P.repr_of_str ?_ (by rw [← e]; exact hz)
    rw [← e]; exact hQ _ _ _ same
  | list h1 h2 h3 h4 =>
    rename_i a o vs n xs
    have hz' : (listText (PyData.shownAll xs)).length ≤ sizeLine := by simpa only [PyData.shown] using hz
    obtain ⟨bs, hb, hk⟩ := RXs.reprK (prog := prog) (w := w) h4 (by simpa [PyData.showable] using hs) (fun t ht => Nat.le_trans (listText_mem_le ht) hz')
    obtain ⟨_, r⟩ := RX.reads (.list h1 h2 h3 h4)
    have hna : a ∉ bs := not_mem_of_deeper r (by simp only [PyData.depth]; omega) hb
    simp only [PyData.depth] at hu
    simp only [PyData.shown] at hQ
    refine call_repr_slot (by omega) ⟨o, h1, h2⟩ F.slot_list_repr.toG ?_
    obtain ⟨l⟩ := vs
    cases l with
    | nil =>
      have h4' : RXs s.heap [] xs := h4
      cases h4'
      simp only [PyData.shownAll, listText_nil] at hQ
      exact call_list_repr_empty ⟨o, h1, h2⟩ h1 h3 ⟨_, _, rfl, hQ s.heap _ _ fun _ _ e => e⟩
    | cons x l =>
      exact call_list_reprK h1 h2 h3 hna (by simpa using hk.length_eq) (fun i y e => hk.item i y (by simpa using e)) hg (fun b _ => Clear.nil b) (by show A.units + 1 + (PyData.depthAll xs + 1) < cLine; omega) same (fun h' u tk k => ⟨_, _, rfl, hQ h' u tk k⟩) hz'
  | tuple h1 h2 h3 h4 =>
    rename_i a o vs n xs
    have hz' : (tupleText (PyData.shownAll xs)).length ≤ sizeLine := by simpa only [PyData.shown] using hz
    obtain ⟨bs, hb, hk⟩ := RXs.reprK (prog := prog) (w := w) h4 (by simpa [PyData.showable] using hs) (fun t ht => Nat.le_trans (tupleText_mem_le ht) hz')
    obtain ⟨_, r⟩ := RX.reads (.tuple h1 h2 h3 h4)
    have hna : a ∉ bs := not_mem_of_deeper r (by simp only [PyData.depth]; omega) hb
    simp only [PyData.depth] at hu
    simp only [PyData.shown] at hQ
    refine call_repr_slot (by omega) ⟨o, h1, h2⟩ F.slot_tuple_repr ?_
    exact call_tuple_reprK h1 h2 h3 hna hk hg (fun b _ => Clear.nil b) (by show A.units + 1 + (PyData.depthAll xs + 1) < cLine; omega) same (fun h' u tk k => ⟨_, _, rfl, hQ h' u tk k⟩) hz'
  | dict h1 h2 h3 hsys h4 h5 =>
    rename_i a o es n kvs
    have hz' : (dictText (PyData.shownKv kvs)).length ≤ sizeLine := by simpa only [PyData.shown] using hz
    obtain ⟨hs1, hs2⟩ := PyData.showableKv_split kvs (by simpa [PyData.showable] using hs)
    obtain ⟨b1, hb1, k1⟩ := RXs.reprK (prog := prog) (w := w) h4 hs1 (fun t ht => let ⟨p, hp, hl⟩ := PyData.shownKv_key_le kvs t ht; Nat.le_trans hl (Nat.le_trans (dictText_mem_le hp) hz'))
    obtain ⟨b2, hb2, k2⟩ := RXs.reprK (prog := prog) (w := w) h5 hs2 (fun t ht => let ⟨p, hp, hl⟩ := PyData.shownKv_val_le kvs t ht; Nat.le_trans hl (Nat.le_trans (dictText_mem_le hp) hz'))
    obtain ⟨_, r⟩ := RX.reads (.dict h1 h2 h3 hsys h4 h5)
    have hb : ReadAtMost s.heap (PyData.depthKv kvs) (b1 ++ b2) := (hb1.mono (PyData.depthAll_keys_le kvs)).append (hb2.mono (PyData.depthAll_vals_le kvs))
    have hna : a ∉ b1 ++ b2 := not_mem_of_deeper r (by simp only [PyData.depth]; omega) hb
    simp only [PyData.depth] at hu
    simp only [PyData.shown, PyData.shownKv_eq] at hQ
    refine call_repr_slot (by omega) ⟨o, h1, h2⟩ F.slot_dict_repr ?_
    exact call_dict_reprK h1 h2 h3 hsys hna (ReprEntriesK.of_two es.toList _ _
      (k1.more_le (fun b hb => List.mem_append_left _ hb) (PyData.depthAll_keys_le kvs)) (k2.more_le (fun b hb => List.mem_append_right _ hb) (PyData.depthAll_vals_le kvs))) hg (fun b _ => Clear.nil b) (by show A.units + 1 + (PyData.depthKv kvs + 1) < cLine; omega) same (fun h' u tk k => ⟨_, _, rfl, hQ h' u tk k⟩) (by rw [← PyData.shownKv_eq]; exact hz')
end

/-! ### by values -/
def keyP : Key → PyData
  | .inl i => .int i
  | .inr x => .str x
mutual
inductive DX (K : PySem.W.Frag) (H : Hp) : V → PyData → Prop
  | non : DX K H .non .none
  | bl (b : Bool) : DX K H (.bl b) (.bool b)
  | int (i : Int) : DX K H (.int i) (.int i)
  | str (x : Str) : DX K H (.str x) (.str x)
  | lst {a : Addr} {xs : List V} {ds : List PyData} : SqL K H a xs → DXs K H xs ds → DX K H (.ref a) (.list ds)
  | tup {a : Addr} {xs : List V} {ds : List PyData} : SqT K H a xs → DXs K H xs ds → DX K H (.ref a) (.tuple ds)
  | dct {a : Addr} {us : List (Key × V)} {ps : List (PyData × PyData)} : H a = some (.dK us) → ps.map (·.1) = us.map (fun kv => keyP kv.1) → DXs K H (us.map (·.2)) (ps.map (·.2)) → DX K H (.ref a) (.dict ps)
inductive DXs (K : PySem.W.Frag) (H : Hp) : List V → List PyData → Prop
  | nil : DXs K H [] []
  | cons {v : V} {vs : List V} {d : PyData} {ds : List PyData} : DX K H v d → DXs K H vs ds → DXs K H (v :: vs) (d :: ds)
end
section
variable {X : Cx} {pins : List (Addr × Obj)} {σ : L2.St} {H : Hp} {s : Shared}
theorem keys_rx {h : Heap} {P : Program} {w : World} : ∀ {es : List DictEntry} {vs : List (Key × Value)} {us : List (Key × V)}, Pairs (mixKind P w) es vs → KV us vs → RXs h (es.map (·.key)) (us.map fun kv => keyP kv.1) := by
  intro es vs us p
  induction p generalizing us with
  | nil => intro q; cases q; exact .nil
  | @cons e kv es kvs hk _ _ ih =>
    intro q
    cases q with
    | @cons u _ us _ e1 t =>
      refine .cons ?_ (ih t)
      obtain ⟨k, v⟩ := kv
      obtain ⟨k', v'⟩ := u
      have e1 : k' = k := e1.1
      subst e1
      rcases keyIs_shape hk with ⟨i, t, e2, e3⟩ | ⟨x, t, e2, e3⟩
      · have e2 : k' = Sum.inl i := e2
        subst e2
        show RX h e.key (.int i)
        rw [e3]; exact .int i t
      · have e2 : k' = Sum.inr x := e2
        subst e2
        show RX h e.key (.str x)
        rw [e3]; exact .str x t
theorem pairs_vals {P : Program} {w : World} : ∀ {es : List DictEntry} {vs : List (Key × Value)}, Pairs (mixKind P w) es vs → es.map (·.val) = vs.map (·.2) := by
  intro es vs p
  induction p with
  | nil => rfl
  | cons _ e _ ih => rw [List.map_cons, List.map_cons, ih, e]
theorem kv_vals : ∀ {us : List (Key × V)} {vs : List (Key × Value)}, KV us vs → Vals (us.map (·.2)) (vs.map (·.2)) := by
  intro us vs q
  unfold KV at q
  induction q with
  | nil => exact .nil
  | cons e _ ih => exact .cons e.2 ih
mutual
theorem DX.rx (I : Inv X pins σ H s) : ∀ {v : V} {d : PyData} {u : Value}, DX X.K H v d → RelV v u → RX s.heap u d
  | _, _, _, .non, r => by cases r; exact .non
  | _, _, _, .bl b, r => by cases r; exact .bl b
  | _, _, _, .int i, r => by obtain ⟨t, rfl⟩ := r; exact .int i t
  | _, _, _, .str x, r => by obtain ⟨t, rfl⟩ := r; exact .str x t
  | _, _, _, .lst hs ha, r => by
    cases r
    obtain ⟨its, rv, ⟨o, n, ho, hc, _, hd⟩, _⟩ := I.list hs
    exact .list ho hc hd (DXs.rx I ha rv)
  | _, _, _, .tup hs ha, r => by
    cases r
    obtain ⟨its, rv, ⟨o, ho, hc, n, hd⟩, _⟩ := I.tuple hs
    exact .tuple ho hc hd (DXs.rx I ha rv)
  | _, _, _, .dct (us := us) (ps := ps) hs e ha, r => by
    cases r
    obtain ⟨_, hsys, vs, rel, o, es, ep, ho, hx, hd, _, hp, _⟩ := I.hok _ _ hs
    refine .dict ho hx.1 hd hsys ?_ ?_
    · rw [e]; exact keys_rx hp rel
    · rw [pairs_vals hp]; exact DXs.rx I ha (kv_vals rel)
theorem DXs.rx (I : Inv X pins σ H s) : ∀ {v : List V} {d : List PyData} {u : List Value}, DXs X.K H v d → Vals v u → RXs s.heap u d
  | _, _, _, .nil, r => by cases r; exact .nil
  | _, _, _, .cons h1 h2, r => by
    cases r with
    | cons r1 r2 => exact .cons (DX.rx I h1 r1) (DXs.rx I h2 r2)
end
end
def rReprX (K : PySem.W.Frag) : List V → Hp → VK → Prop := fun xs H Q => ∃ x p, xs = [x] ∧ DX K H x p ∧ p.showable = true ∧ p.depth ≤ 50 ∧ p.shown.length ≤ sizeLine ∧ Q (.str p.shown) H
theorem call_reprX {X : Cx} (hg : X.A.guards = some []) (hu : X.A.units + 64 < cLine) : CallR X (.builtin "repr") (rReprX X.K) := by
  intro pins s σ H xs us Q I r h
  obtain ⟨x, p, rfl, dp, sh, hd, hz, q⟩ := h
  obtain ⟨u, e, ru⟩ : ∃ u, us = [u] ∧ RelV x u := by
    cases r with
    | cons r rr => cases rr; exact ⟨_, rfl, r⟩
  subst e
  exact repr_rx (dp.rx I ru) sh hg (by omega) hz fun h' w' tk k => ⟨.str p.shown, H, I.kept k, ⟨_, rfl⟩, q⟩

/-! ### by data -/
mutual
inductive PX (h : DH) : D → PyData → Prop
  | non : PX h .non .none
  | bl (b : Bool) : PX h (.bl b) (.bool b)
  | int (i : Int) : PX h (.int i) (.int i)
  | str (x : Str) : PX h (.str x) (.str x)
  | tup {ds : List D} {ps : List PyData} : PXs h ds ps → PX h (.tup ds) (.tuple ps)
  | lst {a : Addr} {ds : List D} {ps : List PyData} : h a = some (.lst ds) → PXs h ds ps → PX h (.loc a) (.list ps)
  | dct {a : Addr} {kvs : List (Key × D)} {ps : List (PyData × PyData)} : h a = some (.dK kvs) → ps.map (·.1) = kvs.map (fun kv => keyP kv.1) → PXs h (kvs.map (·.2)) (ps.map (·.2)) → PX h (.loc a) (.dict ps)
inductive PXs (h : DH) : List D → List PyData → Prop
  | nil : PXs h [] []
  | cons {d : D} {ds : List D} {p : PyData} {ps : List PyData} : PX h d p → PXs h ds ps → PXs h (d :: ds) (p :: ps)
end
section
variable {h h' : DH}
mutual
theorem PX.ext (x : Ext h h') : ∀ {d : D} {p : PyData}, PX h d p → PX h' d p
  | _, _, .non => .non
  | _, _, .bl b => .bl b
  | _, _, .int b => .int b
  | _, _, .str b => .str b
  | _, _, .tup q => .tup (PXs.ext x q)
  | _, _, .lst e q => .lst (x _ _ e) (PXs.ext x q)
  | _, _, .dct e k q => .dct (x _ _ e) k (PXs.ext x q)
theorem PXs.ext (x : Ext h h') : ∀ {d : List D} {p : List PyData}, PXs h d p → PXs h' d p
  | _, _, .nil => .nil
  | _, _, .cons q r => .cons (PX.ext x q) (PXs.ext x r)
end
theorem rkv_vals {K : PySem.W.Frag} {H : Hp} {kvs : List (Key × D)} {us : List (Key × V)} (r : RKV K H kvs us) : RVs K H (kvs.map (·.2)) (us.map (·.2)) ∧ kvs.map (fun kv => keyP kv.1) = us.map (fun kv => keyP kv.1) := by
  unfold RKV at r
  induction r with
  | nil => exact ⟨rvs_nil', rfl⟩
  | @cons p q ps qs h t ih =>
    obtain ⟨p1, p2⟩ := p
    obtain ⟨q1, q2⟩ := q
    obtain ⟨h1, h2⟩ := h
    have h1 : p1 = q1 := h1
    subst h1
    refine ⟨rvs_cons' h2 ih.1, ?_⟩
    rw [List.map_cons, List.map_cons, ih.2]
mutual
theorem PX.dx {K : PySem.W.Frag} {H : Hp} (hr : HR K H h) : ∀ {d : D} {p : PyData} {v : V}, PX h d p → RV K H d v → DX K H v p
  | _, _, _, .non, r => by rw [rv_non r]; exact .non
  | _, _, _, .bl b, r => by rw [rv_bl r]; exact .bl b
  | _, _, _, .int b, r => by rw [rv_int r]; exact .int b
  | _, _, _, .str b, r => by rw [rv_str r]; exact .str b
  | _, _, _, .tup q, r => by
    obtain ⟨a, vs, e, s, rs⟩ := rv_tup r
    subst e
    exact .tup (.inl (.inl s)) (PXs.dx hr q rs)
  | _, _, _, .lst e q, r => by
    obtain ⟨vs, s, rs⟩ := hr _ _ e
    rw [rv_loc r]
    exact .lst (.inl (.inl s)) (PXs.dx hr q rs)
  | _, _, _, .dct e k q, r => by
    obtain ⟨us, s, rs⟩ := hr _ _ e
    rw [rv_loc r]
    exact .dct s (by rw [k, (rkv_vals rs).2]) (PXs.dx hr q (rkv_vals rs).1)
theorem PXs.dx {K : PySem.W.Frag} {H : Hp} (hr : HR K H h) : ∀ {ds : List D} {ps : List PyData} {vs : List V}, PXs h ds ps → RVs K H ds vs → DXs K H vs ps
  | _, _, _, .nil, r => by rw [rvs_nil r]; exact .nil
  | _, _, _, .cons q s, r => by
    obtain ⟨x, xs, e, r1, r2⟩ := rvs_cons r
    subst e
    exact .cons (PX.dx hr q r1) (PXs.dx hr s r2)
end
end
def bReprX : DC := fun ds h Q => match ds with
  | [d] => ∃ p, PX h d p ∧ p.showable = true ∧ p.depth ≤ 50 ∧ p.shown.length ≤ sizeLine ∧ Q (.str p.shown) h
  | _ => False
@[irreducible] noncomputable def kReprX : DC := hide bReprX
theorem kReprX_eq : kReprX = bReprX := by unfold kReprX; rw [hide_eq]
theorem qk_reprX {X : Cx} {K : PySem.W.Frag} {k : Nat} (hr : RoomG k X.A) (hK : X.K = K := by rfl) : CallR X (.builtin "repr") (rReprX K) ∧ LC K (rReprX K) kReprX := by
  rw [kReprX_eq]
  exact ⟨by subst hK; exact call_reprX hr.g hr.hu, fun ds vs h H Q Q0 r hr bw w => by
    match ds, w, r with
    | [d], ⟨p, pd, a1, a2, a3, w⟩, r =>
      obtain ⟨x, e1, r1⟩ := rvs_one r
      exact ⟨x, p, e1, pd.dx hr r1, a1, a2, a3, bw _ h _ H TX.refl rv_str' hr w⟩⟩
theorem w_repX {d : D} {h : DH} {Q : DK} {p : PyData} {n b : Nat} (pd : PX h d p) (r : Rp p n b) (hn : n ≤ 50) (hb : b ≤ 150000) (k : Q (.str p.shown) h) : kReprX [d] h Q := by
  rw [kReprX_eq]
  refine ⟨p, pd, r.sh, Nat.le_trans r.dp hn, ?_, k⟩
  have := PyData.shown_le_bulk 101 (by decide) p r.lv
  have e : sizeLine = 16777216 := rfl
  have := r.bk
  omega
end DL
namespace DL
open PySem PySem.Spec PyProof.Rows L2
/-! ### xs[::-1], xs a list or a tuple -/
theorem adjust_rev (n : Nat) : Builtin.Slice.sliceAdjust none none (-1) (n : Int) = ((n : Int) - 1, -1) := by
  unfold Builtin.Slice.sliceAdjust
  simp
theorem places_rev (n : Nat) : Builtin.Slice.slicePlaces ((n : Int) - 1) (-1) (-1) = n := by
  unfold Builtin.Slice.slicePlaces
  rw [if_neg (show ¬ ((-1 : Int) > 0) by decide)]
  by_cases h : (n : Int) - 1 > -1
  · rw [if_pos h, show (- -1 : Int) = 1 by decide, Int.ediv_one]; omega
  · rw [if_neg h]; omega
theorem pick_rev (xs : Array Value) : ((List.range xs.size).filterMap fun (k : Nat) => xs[(((xs.size : Nat) : Int) - 1 + (k : Int) * (-1)).toNat]?).toArray = xs.toList.reverse.toArray := by
  congr 1
  have e : (List.range xs.size).filterMap (fun (k : Nat) => xs[(((xs.size : Nat) : Int) - 1 + (k : Int) * (-1)).toNat]?) = ((List.range xs.size).map (fun k => xs.size - 1 - k)).filterMap (xs[·]?) := by
    rw [List.filterMap_map]
    have key : ∀ m, m ≤ xs.size → (List.range m).filterMap (fun (k : Nat) => xs[(((xs.size : Nat) : Int) - 1 + (k : Int) * (-1)).toNat]?) = (List.range m).filterMap ((xs[·]?) ∘ fun k => xs.size - 1 - k) := by
      intro m
      induction m with
      | zero => intro _; rfl
      | succ m ih =>
        intro hm
        rw [List.range_succ, List.filterMap_append, List.filterMap_append, ih (by omega)]
        congr 1
        have e2 : (((xs.size : Nat) : Int) - 1 + (m : Int) * (-1)).toNat = xs.size - 1 - m := by omega
        simp only [List.filterMap_cons, List.filterMap_nil, Function.comp, e2]
    exact key _ (Nat.le_refl _)
  rw [e, PySem.W.krv_range, List.filterMap_reverse, PySem.W.krv_all]
section
variable {prog : Program} {w : World} {A : Around} {E : Value → Shared → Prop} {s : Shared}
theorem sliceApplied_rev {sl : Addr} {vs : Value} {n : Nat} {Q : Int × Int × Nat → Shared → Prop} (hs : s.heap.IsSliceOf sl .none .none vs) (ps : IsPart vs (some (-1)))
    (h : Q ((n : Int) - 1, -1, n) s) : wpAny (model prog w) A (Builtin.Slice.sliceApplied (.ref sl) (pure (n : Int))) Q E s := by
  obtain ⟨os, hos, hcs, hds⟩ := id hs
  unfold Builtin.Slice.sliceApplied Builtin.Slice.sliceFields
  refine wpAny_bind (wpAny_bind (wpAny_field hos hds (x := .none) rfl (wpAny_bind (wpAny_field hos hds (x := .none) rfl (wpAny_bind (wpAny_field hos hds (x := vs) rfl (wpAny_pure ?_)))))))
  refine wpAny_bind (HT.slicePart_ ps ?_)
  show wpAny _ _ (if ((-1 : Int) == 0) = true then _ else _) _ _ s
  rw [if_neg (by decide)]
  refine wpAny_bind (HT.slicePart_ .none (wpAny_bind (HT.slicePart_ .none (wpAny_bind (wpAny_pure ?_)))))
  show wpAny _ _ (match Builtin.Slice.sliceAdjust none none (-1) (n : Int) with | (lo, hi) => pure (lo, (-1 : Int), Builtin.Slice.slicePlaces lo hi (-1))) _ _ s
  rw [adjust_rev n]
  show wpAny _ _ (pure ((n : Int) - 1, (-1 : Int), Builtin.Slice.slicePlaces ((n : Int) - 1) (-1) (-1))) _ _ s
  rw [places_rev]
  exact wpAny_pure h
theorem getItem_tuple_rev {t sl : Addr} {items : Array Value} {vs : Value} {Q : Value → Shared → Prop} (ht : IsTup s.heap t items) (hs : s.heap.IsSliceOf sl .none .none vs) (ps : IsPart vs (some (-1)))
    (h : Q (.ref s.heap.objs.size) { s with heap := s.heap.push { cls := .type "tuple", data := .seq items.toList.reverse.toArray } })
    (hsz : items.size ≤ sizeLine) : wpAny (model prog w) A (getItem (.ref t) (.ref sl)) Q E s := by
  have htake : sizeOk (.seq items.toList.reverse.toArray) := by
    show items.toList.reverse.toArray.size ≤ sizeLine
    rw [List.size_toArray, List.length_reverse, Array.length_toList]
    omega
  obtain ⟨os, hos, hcs, hds⟩ := id hs
  have hTs : s.TypeIs (.ref sl) "slice" := ⟨os, hos, hcs⟩
  unfold getItem
  try with_reducible refine wpAny_holding ?_
  first | refine wpAny_bind (wpAny_pure ?_) | skip
  refine wpAny_bind (wpAny_sequenceKey ht.typeIs (by decide) ?_)
  refine wpAny_bind (wpAny_callSpecial?_slot (name := Str.ofString "__getitem__") ht.typeIs PyProof.Rows.slot_tuple_getitem
    (wpAny_call_entry PyProof.Rows.slot_tuple_getitem ht.typeIs PyProof.Rows.entry_tuple_getitem ?_ (PyProof.Rows.args_tuple_getitem _ _)))
  show wpAny _ _ (Builtin.Tuple.tupleItemsOf (.ref t) >>= _) _ _ s
  refine wpAny_bind (PyProof.Rows.tupleItemsOf_ ht ?_)
  refine wpAny_bind (wpAny_typeOf hTs ?_)
  rw [if_pos (by decide)]
  refine wpAny_bind (sliceApplied_rev hs ps ?_)
  have hno : ¬ ((((items.size : Nat) : Int) - 1 == 0 && (-1 : Int) == 1 && items.size == items.size) = true) := by
    intro q
    rw [Bool.and_eq_true, Bool.and_eq_true] at q
    exact absurd q.1.2 (by decide)
  show wpAny _ _ (if (((items.size : Nat) : Int) - 1 == 0 && (-1 : Int) == 1 && items.size == items.size) = true then _ else _) _ _ s
  rw [if_neg hno, pick_rev]
  first
    | exact wpAny_bind (m := Builtin.Tuple.tupleExact _) (wpAny_newObj_type (wpAny_pure ⟨_, rfl, wpAny_pure h⟩) htake)
    | exact wpAny_bind (m := Builtin.Tuple.tupleExact _) (wpAny_newObj_type (wpAny_bind (wpAny_pure (wpAny_pure ⟨_, rfl, wpAny_pure h⟩))) htake)
    | exact wpAny_bind (wpAny_bind (m := Builtin.Tuple.tupleExact _) (wpAny_newObj_type (wpAny_pure (wpAny_pure ⟨_, rfl, wpAny_pure h⟩)) htake))
    | exact wpAny_bind (wpAny_bind (m := Builtin.Tuple.tupleExact _) (wpAny_newObj_type (wpAny_pure ⟨_, rfl, wpAny_pure h⟩) htake))
end
def tRevA (K : PySem.W.Frag) (te : TE) : TE := fun σ H Q => te σ H fun x H1 => ∃ a xs, x = .ref a ∧ ((SqL K H1 a xs ∧ ∀ p, H1 p = none → Q (.ref p) (upd H1 p (.lst xs.reverse))) ∨ (SqT K H1 a xs ∧ ∀ p, H1 p = none → Q (.ref p) (upd H1 p (.tup xs.reverse))))
theorem pe_revA {X : Cx} {e : Expr} {te : TE} {k : Nat} {p1 p2 p3 pos : Pos} (he : PE X e te) : PE X (.Subscript e (.Slice none none (some (.UnaryOp .USub (.Constant (.int 1) k p1) p2)) p3) pos) (tRevA X.K te) := by
  refine ⟨fun pins s σ H Q I h => ?_⟩
  refine Subscript_ (thn (he.run pins s σ H _ I h) fun v s1 ⟨x, H1, I1, r1, q1⟩ => ?_)
  obtain ⟨a, xs, ex, q⟩ := q1
  subst ex
  cases r1
  have hst : PO X (some (.UnaryOp .USub (.Constant (.int 1) k p1) p2)) (tPart (tUn (rU fun i => .int (-i)) (tC (.int 1)))) := po_some (pe_un un_neg pe_int)
  refine wpAny_Slice (thn (po_none.run pins s1 σ H1 (fun o H2 => o = none ∧ H2 = H1) I1 ⟨rfl, rfl⟩) fun vl s2 ⟨l, H2, I2, pl, el, e2⟩ => ?_)
  subst el e2
  refine thn (po_none.run pins s2 σ H2 (fun o H3 => o = none ∧ H3 = H2) I2 ⟨rfl, rfl⟩) fun vu s3 ⟨u, H3, I3, pu, eu, e3⟩ => ?_
  subst eu e3
  refine thn (hst.run pins s3 σ H3 (fun o H4 => o = some (-1) ∧ H4 = H3) I3 ⟨1, rfl, -1, rfl, rfl, rfl⟩) fun vs s4 ⟨o, H4, I4, ps, eo, e4⟩ => ?_
  subst eo e4
  have I5 : Inv X pins σ H4 { s4 with heap := s4.heap.push { cls := .type "slice", data := .fields #[vl, vu, vs] } } := I4.kept (t' := s4.toks) fun b ob q => Heap.get?_push_of_some _ q
  show wpAny (model X.prog X.w) X.A (subscriptTail e (.Slice none none (some (.UnaryOp .USub (.Constant (.int 1) k p1) p2)) p3) (.ref a) (.ref s4.heap.objs.size)) (EP X pins σ Q) X.xe { s4 with heap := s4.heap.push { cls := .type "slice", data := .fields #[vl, vu, vs] } }
  rcases q with ⟨hx, q⟩ | ⟨hx, q⟩
  · obtain ⟨its, r, ht, hz⟩ := I5.list hx
    have hlen := r.length
    refine tail_any (ops := [.ref a, .ref s4.heap.objs.size]) ht.isList.typeIs (PySem.slot_list_getitem.lookup) ?_ (by with_unfolding_all rfl)
    refine wpAny_getItem_list_slice ht.isList (Heap.IsSliceOf.new _ vl vu vs) pl pu ps (by decide) ?_ (by rw [List.size_toArray]; omega)
    rw [PySem.W.krv_pick]
    refine ⟨.ref _, _, I5.laid (t' := s4.toks) (o := .lst xs.reverse) (fun b ob q => Heap.get?_push_of_some _ q) (Nat.le_refl _) ?_, rfl, q _ (I5.hok.fresh (Nat.le_refl _))⟩
    exact ⟨by rw [List.length_reverse]; exact hz, _, 0, r.reverse, Heap.get?_push_size _ rfl⟩
  · obtain ⟨its, r, ht, hz⟩ := I5.tuple hx
    have hlen := r.length
    cases pl
    cases pu
    refine tail_any (ops := [.ref a, .ref s4.heap.objs.size]) ht.typeIs (PyProof.Rows.slot_tuple_getitem.lookup) ?_ (by with_unfolding_all rfl)
    refine getItem_tuple_rev ht (Heap.IsSliceOf.new _ _ _ vs) ps ?_ (by rw [List.size_toArray]; omega)
    refine ⟨.ref _, _, I5.laid (t' := s4.toks) (o := .tup xs.reverse) (fun b ob q => Heap.get?_push_of_some _ q) (Nat.le_refl _) ?_, rfl, q _ (I5.hok.fresh (Nat.le_refl _))⟩
    exact ⟨by rw [List.length_reverse]; exact hz, _, r.reverse, IsTup.new _ _⟩
def dRev0 (x : D) (h : DH) (Q : DK) : Prop := match x with
  | .tup ds => Q (.tup ds.reverse) h
  | .loc a => ∃ ds, h a = some (.lst ds) ∧ ∀ p, h p = none → Q (.loc p) (hupd h p (.lst ds.reverse))
  | _ => False
def dRev (t : DE) : DE := fun τ h Q => t τ h fun x h1 => dRev0 x h1 Q
theorem rvs_rev {K : PySem.W.Frag} {H : Hp} {ds : List D} {vs : List V} (r : RVs K H ds vs) : RVs K H ds.reverse vs.reverse := by
  induction ds generalizing vs with
  | nil => rw [rvs_nil r]; exact rvs_nil'
  | cons d ds ih =>
    obtain ⟨x, xs, e, r1, r2⟩ := rvs_cons r
    subst e
    rw [List.reverse_cons, List.reverse_cons]
    exact (ih r2).append (rvs_cons' r1 rvs_nil')
theorem xrev {X : Cx} {K : PySem.W.Frag} {e : Expr} {te : TE} {de : DE} {k : Nat} {p1 p2 p3 pos : Pos} (he : XE X K e te de) (hK : X.K = K := by rfl) : XE X K (.Subscript e (.Slice none none (some (.UnaryOp .USub (.Constant (.int 1) k p1) p2)) p3) pos) (tRevA K te) (dRev de) := by
  subst hK
  refine ⟨pe_revA he.p, fun τ σ h H Q Q0 rs hr bw w => he.l τ σ h H _ _ rs hr (fun y h1 v H1 x1 r1 hr1 w1 => ?_) w⟩
  have bw := bw.mono x1
  cases y with
  | tup ds =>
    obtain ⟨a, vs, e1, s, q⟩ := rv_tup r1
    exact ⟨a, vs, e1, .inr ⟨.inl (.inl s), fun p hp => bw_tup hr1 bw hp (rvs_rev q) w1⟩⟩
  | loc a =>
    obtain ⟨ds, e1, w2⟩ := w1
    obtain ⟨vs, s, q⟩ := hr1 _ _ e1
    exact ⟨a, vs, rv_loc r1, .inl ⟨.inl (.inl s), fun p hp => bw_new hr1 bw hp (ro_lst (tx_new hp) (rvs_rev q)) (w2 p)⟩⟩
  | _ => exact w1.elim
/-! ### t * i, t a tuple -/
def dMulT : DR2
  | .tup xs, .int k, h, Q => xs ≠ [] ∧ 2 ≤ k ∧ k ≤ 1000 ∧ xs.length ≤ 1000 ∧ Q (.tup (List.replicate k.toNat xs).flatten) h
  | _, _, _, _ => False
theorem q_mulT {X : Cx} {K : PySem.W.Frag} (hK : X.K = K := by rfl) : OpR X (binaryOp .Mult) (rRepT K) ∧ LR2 K (rRepT K) dMulT := by
  subst hK
  refine ⟨op_repT, fun d e x y h H Q Q0 r1 r2 hr bw w => ?_⟩
  cases d with
  | tup xs =>
    cases e with
    | int k =>
      obtain ⟨hn, k0, k1, z, w1⟩ := w
      obtain ⟨a, vs, e1, s, q⟩ := rv_tup r1
      have z1 := q.length
      refine ⟨a, k, vs, e1, rv_int r2, .inl (.inl s), fun e => hn ?_, k0, k1, by rw [← z1]; exact z, fun p hp => bw_tup hr bw hp (rvs_rep q _) w1⟩
      rw [e] at z1
      exact List.length_eq_zero_iff.mp z1
    | _ => exact w.elim
  | _ => exact w.elim
end DL
namespace DL
open PySem PySem.Spec PyProof.Rows L2
/-! ### what is shown can be shown again -/
def Lo (s : Str) : Prop := ∀ c ∈ s.cps.toList, c < 16 ^ 8
theorem lo_char (c : Char) : c.toNat < 16 ^ 8 := by
  have := c.val.toNat_lt
  show c.val.toNat < 16 ^ 8
  have e : (16 ^ 8 : Nat) = 2 ^ 32 := by decide
  omega
theorem Lo.ofString (s : String) : Lo (Str.ofString s) := fun c hc => by
  rw [signs_ofString] at hc
  obtain ⟨ch, _, rfl⟩ := List.mem_map.mp hc
  exact lo_char ch
theorem Lo.app {a b : Str} (x : Lo a) (y : Lo b) : Lo (a ++ b) := fun c hc => (mem_cps_append.mp hc).elim (x c) (y c)
theorem Lo.join {sep : Str} {ts : List Str} (hs : Lo sep) (ht : ∀ t ∈ ts, Lo t) : Lo (Str.join sep ts) := fun c hc => by
  rcases (mem_join sep c ts).mp hc with ⟨t, m, q⟩ | ⟨_, q⟩
  · exact ht t m c q
  · exact hs c q
theorem lo_hex (w c : Nat) : ∀ k ∈ List.replicate (w - ((Nat.toDigits 16 c).map Char.toNat).length) 48 ++ (Nat.toDigits 16 c).map Char.toNat, k < 16 ^ 8 := fun k hk => by
  rcases List.mem_append.mp hk with h | h
  · rw [(List.mem_replicate.mp h).2]; decide
  · obtain ⟨ch, _, rfl⟩ := List.mem_map.mp h
    exact lo_char ch
theorem lo_reprChar (q c : Nat) (hc : c < 16 ^ 8) : ∀ k ∈ Builtin.Str.reprChar q c, k < 16 ^ 8 := by
  have h8 := lo_hex 8 c
  have h4 := lo_hex 4 c
  have h2 := lo_hex 2 c
  have two : ∀ a b : Nat, a < 16 ^ 8 → b < 16 ^ 8 → ∀ k ∈ [a, b], k < 16 ^ 8 := fun a b ha hb k hk => by
    simp only [List.mem_cons, List.not_mem_nil, or_false] at hk
    rcases hk with rfl | rfl
    · exact ha
    · exact hb
  have app : ∀ xs ys : List Nat, (∀ k ∈ xs, k < 16 ^ 8) → (∀ k ∈ ys, k < 16 ^ 8) → ∀ k ∈ xs ++ ys, k < 16 ^ 8 := fun xs ys a b k hk => (List.mem_append.mp hk).elim (a k) (b k)
  unfold Builtin.Str.reprChar
  dsimp only
  repeat' split
  · exact two _ _ (by decide) hc
  · exact two _ _ (by decide) (by decide)
  · exact two _ _ (by decide) (by decide)
  · exact two _ _ (by decide) (by decide)
  · intro k hk; rw [List.mem_singleton.mp hk]; exact hc
  · exact app _ _ (two _ _ (by decide) (by decide)) h2
  · exact app _ _ (two _ _ (by decide) (by decide)) h4
  · exact app _ _ (two _ _ (by decide) (by decide)) h8
theorem lo_foldl (q : Nat) : ∀ (l : List Nat) (acc : Array Nat), (∀ c ∈ l, c < 16 ^ 8) → (∀ c ∈ acc.toList, c < 16 ^ 8) → ∀ c ∈ (l.foldl (fun out c => out ++ (Builtin.Str.reprChar q c).toArray) acc).toList, c < 16 ^ 8
  | [], acc, _, ha => ha
  | c :: r, acc, h, ha => by
    refine lo_foldl q r _ (fun d hd => h d (List.mem_cons_of_mem _ hd)) fun d hd => ?_
    rw [Array.toList_append] at hd
    rcases List.mem_append.mp hd with hd | hd
    · exact ha d hd
    · exact lo_reprChar q c (h c List.mem_cons_self) d hd
theorem Lo.repr {x : Str} (hx : Lo x) : Lo (reprText x) := by
  have hq : reprQuote x < 16 ^ 8 := by unfold reprQuote; split <;> decide
  intro c hc
  unfold reprText at hc
  have hc : c ∈ ((x.cps.foldl (fun out c => out ++ (Builtin.Str.reprChar (reprQuote x) c).toArray) #[reprQuote x]).push (reprQuote x)).toList := hc
  rw [Array.toList_push, ← Array.foldl_toList] at hc
  rcases List.mem_append.mp hc with hc | hc
  · exact lo_foldl _ _ _ hx (fun d hd => by
      have : d ∈ [reprQuote x] := hd
      rw [List.mem_singleton.mp this]; exact hq) c hc
  · rw [List.mem_singleton.mp hc]; exact hq
mutual
theorem lo_shown (B : Nat) : ∀ d : PyData, d.leavesShort B = true → Lo d.shown
  | .none, _ => Lo.ofString "None"
  | .bool b, _ => by cases b; exact Lo.ofString "False"; exact Lo.ofString "True"
  | .int i, _ => by simp only [PyData.shown]; exact Lo.ofString _
  | .str x, h => by
    simp only [PyData.shown]
    have h : ∀ c ∈ x.cps.toList, c < 16 ^ 8 := by simpa only [PyData.leavesShort, List.all_eq_true, decide_eq_true_eq] using h
    exact Lo.repr h
  | .list xs, h => by
    simp only [PyData.shown]
    have e : listText (PyData.shownAll xs) = ("[" : Str) ++ Str.join ", " (PyData.shownAll xs) ++ "]" := by
      rw [← PyData.shown_list]; simp only [PyData.shown]
    rw [e]
    exact ((Lo.ofString "[").app (.join (Lo.ofString ", ") (lo_all B xs (by simpa only [PyData.leavesShort] using h)))).app (Lo.ofString "]")
  | .tuple xs, h => by
    simp only [PyData.shown]
    unfold tupleText
    refine ((Lo.ofString "(").app (.join (Lo.ofString ", ") (lo_all B xs (by simpa only [PyData.leavesShort] using h)))).app ?_
    exact Lo.ofString _
  | .dict kvs, h => by
    rw [PyData.shown_dict]
    exact ((Lo.ofString "{").app (.join (Lo.ofString ", ") (lo_kv B kvs (by simpa only [PyData.leavesShort] using h)))).app (Lo.ofString "}")
theorem lo_all (B : Nat) : ∀ ds : List PyData, PyData.leavesShortAll B ds = true → ∀ t ∈ PyData.shownAll ds, Lo t
  | [], _, t, ht => by simp [PyData.shownAll] at ht
  | d :: ds, h, t, ht => by
    simp only [PyData.leavesShortAll, Bool.and_eq_true] at h
    simp only [PyData.shownAll, List.mem_cons] at ht
    rcases ht with e | ht
    · rw [e]; exact lo_shown B d h.1
    · exact lo_all B ds h.2 t ht
theorem lo_kv (B : Nat) : ∀ ds : List (PyData × PyData), PyData.leavesShortKv B ds = true → ∀ t ∈ PyData.shownKv ds, Lo t
  | [], _, t, ht => by simp [PyData.shownKv] at ht
  | (a, d) :: ds, h, t, ht => by
    simp only [PyData.leavesShortKv, Bool.and_eq_true] at h
    simp only [PyData.shownKv, List.mem_cons] at ht
    rcases ht with e | ht
    · rw [e]; exact ((lo_shown B a h.1.1).app (Lo.ofString ": ")).app (lo_shown B d h.1.2)
    · exact lo_kv B ds h.2 t ht
end
theorem Rp.again {p : PyData} {n b n2 m2 : Nat} (r : Rp p n b) (hm : 103 * b + 101 ≤ m2) : Rp (.str p.shown) n2 m2 := by
  refine .str ?_ ?_
  · have := PyData.shown_le_bulk 101 (by decide) p r.lv
    have e : p.shown.length = p.shown.cps.size := rfl
    have := r.bk
    omega
  · simp only [PyData.leavesShort, List.all_eq_true, decide_eq_true_eq]
    exact lo_shown 101 p r.lv
end DL
namespace DL
open PySem PySem.Spec PyProof.Rows L2
noncomputable def tKT {X : Cx} {K : PySem.W.Frag} {x : Str} {ss : List Str} {pos : Pos} (c : KTup X.K X.mg x ss) (hg : Gl X x) (hd : (x == ("__debug__" : Str)) = false) (hK : X.K = K) : TE := (xkt (pos := pos) c hg hd hK).choose
theorem xktE {X : Cx} {K : PySem.W.Frag} {x : Str} {ss : List Str} {pos : Pos} (c : KTup X.K X.mg x ss) (hg : Gl X x := by rfl) (hd : (x == ("__debug__" : Str)) = false := by decide) (hK : X.K = K := by rfl) : XE X K (.Name x pos) (tKT (pos := pos) c hg hd hK) (dC (.ktp (ss.map D.str))) := (xkt (pos := pos) c hg hd hK).choose_spec
end DL

set_option Elab.async false
set_option linter.all false
set_option maxRecDepth 100000
set_option maxHeartbeats 2000000
/-! DL20: sorted(a tuple of tuples of ints). -/
namespace DL
open PySem PySem.Spec PyProof.Rows PyProof.Rows.G L2
section
variable {P : Program} {w : World} {A : Around} {E : Value → Shared → Prop} {s : Shared}
theorem sort_tupT {a : Addr} {items : List Value} {Q : Value → Shared → Prop} (ht : IsTup s.heap a items.toArray) (hsz : items.length ≤ 1000) (rows : ∀ v ∈ items, ∃ k p, v = Value.ref p ∧ IsT P w s.heap k p ∧ k ≠ [])
    (hQ : ∀ (h1 h2 : Heap) (c : Nat) (out : List Value), (∀ b o, s.heap.get? b = some o → h1.get? b = some o) → (∀ b o, h1.get? b = some o → h2.get? b = some o) → h2.get? h1.objs.size = some (seqObj "list" out.toArray c) → out.Perm items → Q (.ref h1.objs.size) { s with heap := h2 }) :
    wpAny (model P w) A (call (.builtin "sorted") [.ref a]) Q E s := by
  obtain ⟨o, ho, hc, n, hd⟩ := ht
  refine Calls.call_function_entry kind_sorted plain_sorted entry_sorted (args_sorted1 _) ?_
  unfold Builtin.«sorted»
  refine wpAny_bind (m := checkCount "sorted" 1 1 _) (wpAny_pure (wpAny_bind (wpAny_collect_seq a (.inr rfl) ho hc hd (fun h1 k1 => ?_) (by rw [List.size_toArray, sizeLine_eq]; omega))))
  refine wpAny_bind (wpAny_newList ?_ (by rw [sizeLine_eq]; simp; omega))
  have ev : items.toArray.toList = items := by simp
  rw [ev]
  have hoL : (h1.push (seqObj "list" items.toArray 0)).get? h1.objs.size = some (seqObj "list" items.toArray 0) := Heap.get?_push_size _ rfl
  have keep : ∀ b u, s.heap.get? b = some u → (h1.push (seqObj "list" items.toArray 0)).get? b = some u := fun b u e => Heap.get?_push_of_some _ (k1 b u e)
  obtain ⟨fs, hfs⟩ := tups_first (h := h1.push (seqObj "list" items.toArray 0)) items fun v hv => by
    obtain ⟨k, p, e, t, ne⟩ := rows v hv
    rw [e]
    exact tup_first (isT_keep t keep) ne
  have hkey : ∀ v, v ∈ items → ∃ l, tupKeyC (h1.push (seqObj "list" items.toArray 0)) shI v = some l := fun v hv => by
    obtain ⟨k, p, e, t, _⟩ := rows v hv
    exact ⟨_, by rw [e]; exact key_ints (isT_keep t keep)⟩
  refine wpAny_bind (wpAny_holding (wpAny_call_entry slot_list_sort ⟨_, hoL, rfl⟩ entry_list_sort (list_sort_tups (s := { s with heap := h1.push (seqObj "list" items.toArray 0) }) hoL hfs hkey (by rw [sizeLine_eq]; omega) fun st b1 b2 b3 => ⟨_, rfl, ?_⟩) (args_list_sort _)))
  have pv : ((arrOf st).toList.map (·.2)).Perm items := by
    have q := (Array.Perm.toList b1).map (fun p : Value × Value => p.2)
    rw [pairsOf_toList] at q
    have e : (items.zip items).map (fun p : Value × Value => p.2) = items := List.map_snd_zip (Nat.le_refl _)
    rw [e] at q
    exact q
  have hout : ((arrOf st).map (·.2)) = ((arrOf st).toList.map (·.2)).toArray := Array.ext' (by rw [Array.toList_map])
  obtain ⟨c, hc2⟩ := sortedHeap_at (vs := items) (out := (arrOf st).map (·.2)) hoL
  refine wpAny_pure ⟨_, rfl, hQ h1 _ c ((arrOf st).toList.map (·.2)) k1 (fun b u q => ?_) (by
    show (sortedHeap (h1.push (seqObj "list" items.toArray 0)) h1.objs.size items ((arrOf st).map (·.2))).get? _ = _
    rw [hc2, hout]) pv⟩
  have hlt := Heap.lt_size q
  show (sortedHeap (h1.push (seqObj "list" items.toArray 0)) h1.objs.size items _).get? b = some u
  rw [sortedHeap_old (Nat.ne_of_lt hlt) (by rw [size_push']; exact Nat.lt_succ_of_lt hlt)]
  exact Heap.get?_push_of_some _ q
end
/-- sorted(t), t a tuple of tuples of ints: a new list of the same items -/
def rSortTup (K : PySem.W.Frag) : List V → Hp → VK → Prop := fun vs H Q => ∃ (a : Addr) (xs : List V), vs = [V.ref a] ∧ SqT K H a xs ∧ xs.length ≤ 1000 ∧ (∀ x ∈ xs, ∃ t ns, x = V.ref t ∧ SqT K H t (ns.map V.int) ∧ ns ≠ []) ∧
  ∀ (ys : List V) (p : Addr), ys.Perm xs → H p = none → Q (.ref p) (upd H p (.lst ys))
theorem cr_sortTup {X : Cx} : CallR X (.builtin "sorted") (rSortTup X.K) := by
  intro pins s σ H vs us Q I r h
  obtain ⟨a, xs, rfl, hs, hl, hx, q⟩ := h
  obtain ⟨its, rv, ht, hz⟩ := I.tuple hs
  rw [Vals.ref1 r]
  obtain ⟨e1, e2⟩ := bkV_refs rv fun x m => by
    obtain ⟨t, ns, e, _⟩ := hx x m
    exact ⟨t, e⟩
  refine sort_tupT (P := X.prog) (w := X.w) ht (by rw [← rv.length]; exact hl) (fun v hv => ?_) fun h1 h2 c out k1 k2 hp pm => ?_
  · obtain ⟨t, rfl⟩ := e2 v hv
    have hm : V.ref t ∈ xs := by
      rw [e1]
      exact List.mem_map.mpr ⟨_, hv, rfl⟩
    obtain ⟨t', ns, e, ht, ne⟩ := hx _ hm
    cases e
    exact ⟨ns, t, rfl, I.isT ht, ne⟩
  · have I1 : L2.Inv X pins σ H { s with heap := h1 } := I.kept (t' := s.toks) k1
    have h3 : ∀ u ∈ out, ∃ a, u = Value.ref a := fun u hu => e2 u (pm.mem_iff.mp hu)
    have hpm : (out.map bkV).Perm xs := by
      rw [e1]
      exact pm.map bkV
    have hlen : (out.map bkV).length ≤ sizeLine := by
      rw [hpm.length_eq]
      exact hz
    refine ⟨.ref h1.objs.size, upd H h1.objs.size (.lst (out.map bkV)), I1.laid (t' := s.toks) k2 (Nat.le_refl _) ⟨hlen, out, c, bkV_vals h3, hp⟩, rfl, q _ _ hpm (I1.hok.fresh (Nat.le_refl _))⟩
def bSortT : DC := fun ds h Q => match ds with
  | [.tup ds] => ∃ ks, tupsD ds = some ks ∧ ds.length ≤ 1000 ∧ (∀ k ∈ ks, k ≠ []) ∧ ∀ ys p, ys.Perm ds → h p = none → Q (.loc p) (hupd h p (.lst ys))
  | _ => False
@[irreducible] noncomputable def kSortT : DC := hide bSortT
theorem kSortT_eq : kSortT = bSortT := by unfold kSortT; rw [hide_eq]
theorem rvs_perm {K : PySem.W.Frag} {H : Hp} {ys vs : List V} (pm : ys.Perm vs) : ∀ {ds : List D}, RVs K H ds vs → ∃ es, es.Perm ds ∧ RVs K H es ys := by
  induction pm with
  | nil => intro ds r; exact ⟨ds, .refl _, r⟩
  | @cons x l1 l2 _ ih =>
    intro ds r
    cases ds with
    | nil => cases rvs_nil r
    | cons d ds =>
      obtain ⟨y, ys, e, r1, r2⟩ := rvs_cons r
      cases e
      obtain ⟨es, p, q⟩ := ih r2
      exact ⟨d :: es, p.cons d, rvs_cons' r1 q⟩
  | @swap x y l =>
    intro ds r
    cases ds with
    | nil => cases rvs_nil r
    | cons d ds =>
      obtain ⟨_, _, e, r1, r2⟩ := rvs_cons r
      cases e
      cases ds with
      | nil => cases rvs_nil r2
      | cons d2 ds =>
        obtain ⟨_, _, e, r3, r4⟩ := rvs_cons r2
        cases e
        exact ⟨d2 :: d :: ds, .swap _ _ _, rvs_cons' r3 (rvs_cons' r1 r4)⟩
  | trans _ _ ih1 ih2 =>
    intro ds r
    obtain ⟨es, p, q⟩ := ih2 r
    obtain ⟨fs, p2, q2⟩ := ih1 q
    exact ⟨fs, p2.trans p, q2⟩
theorem q_sortT {X : Cx} {K : PySem.W.Frag} (hK : X.K = K := by rfl) : CallR X (.builtin "sorted") (rSortTup K) ∧ LC K (rSortTup K) kSortT := by
  rw [kSortT_eq]
  refine ⟨by subst hK; exact cr_sortTup, fun ds vs h H Q Q0 r hr bw w => ?_⟩
  match ds, w, r with
  | [.tup ds], ⟨ks, e, hl, ne, w⟩, r =>
    obtain ⟨x, e1, r1⟩ := rvs_one r
    obtain ⟨a, xs, e2, s, q⟩ := rv_tup r1
    refine ⟨a, xs, by rw [e1, e2], .inl (.inl s), by rw [← q.length]; exact hl, fun x hx => ?_, fun ys p pm hp => ?_⟩
    · obtain ⟨rows, q1, q2, q3⟩ := tupsD_v e q
      rw [q2] at hx
      obtain ⟨r, hr, rfl⟩ := List.mem_map.mp hx
      exact ⟨r.1, r.2, rfl, .inl (.inl (q3 r hr)), ne _ (by rw [← q1]; exact List.mem_map_of_mem hr)⟩
    · obtain ⟨es, pe, qe⟩ := rvs_perm pm q
      exact bw_new hr bw hp (ro_lst (tx_new hp) qe) (w es p pe)
theorem tupsD_mapI : ∀ ks : List (List Int), tupsD (ks.map tupI) = some ks
  | [] => rfl
  | k :: ks => by
    have e : tupD (tupI k) = some k := by
      show intsD (k.map D.int) = some k
      exact intsD_map k
    show (match tupD (tupI k), tupsD (ks.map tupI) with | some k, some ks => some (k :: ks) | _, _ => none) = _
    rw [e, tupsD_mapI ks]
theorem w_sortT {ks : List (List Int)} {h : DH} {Q : DK} (hl : ks.length ≤ 1000) (ne : ∀ k ∈ ks, k ≠ []) (k : ∀ ys p h', ys.Perm (ks.map tupI) → h p = none → Ext h h' → h' p = some (.lst ys) → Q (.loc p) h') : kSortT [.tup (ks.map tupI)] h Q := by
  rw [kSortT_eq]
  exact ⟨ks, tupsD_mapI ks, by rw [List.length_map]; exact hl, ne, fun ys p pm hp => k ys p _ pm hp (ext_new hp) hupd_same⟩
end DL

set_option Elab.async false
set_option linter.all false
set_option maxRecDepth 100000
set_option maxHeartbeats 4000000
namespace DL
open PySem PySem.Spec PyProof.Rows L2
/-- less(one, other): 0 one 1 other -/
noncomputable def b_less : DS :=
    (dSeq (dIfS (dOr (dTest (dOp (dIsN false) (dVar 0) (dC .non))) (dTest (dOp (dIsN false) (dVar 1) (dC .non)))) (dRet (dIf (dTest (dOp (dIsN false) (dVar 0) (dC .non))) (dVar 1) (dVar 0))) dNext)
    (dRet (dCB bMin (dCons (dVar 0) (dCons (dVar 1) dNil)))))
@[irreducible] noncomputable def m_less : DC := hide (runD 2 b_less)
theorem m_less_eq : m_less = runD 2 b_less := by unfold m_less; rw [hide_eq]
theorem m_less_ap {a0 a1 h Q} (w : b_less { nx := fun _ h => Q .non h, rt := Q } [some a0, some a1] h) : m_less [a0, a1] h Q := by rw [m_less_eq]; exact w
/-- plus(one, other): 0 one 1 other -/
noncomputable def b_plus : DS :=
    (dRet (dIf (dOr (dTest (dOp (dIsN false) (dVar 0) (dC .non))) (dTest (dOp (dIsN false) (dVar 1) (dC .non)))) (dC .non) (dOp dAdd (dVar 0) (dVar 1))))
@[irreducible] noncomputable def m_plus : DC := hide (runD 2 b_plus)
theorem m_plus_eq : m_plus = runD 2 b_plus := by unfold m_plus; rw [hide_eq]
theorem m_plus_ap {a0 a1 h Q} (w : b_plus { nx := fun _ h => Q .non h, rt := Q } [some a0, some a1] h) : m_plus [a0, a1] h Q := by rw [m_plus_eq]; exact w
/-- own_gaps(ovens, ties): 0 ovens 1 ties 2 found 3 one 4 other 5 low 6 high -/
noncomputable def b_own_gaps : DS :=
    (dSeq (dAsg (kLc (diRng1 (dCons (dVar 0) dNil)) (gdName 3) dYes (kLc (diRng1 (dCons (dVar 0) dNil)) (gdName 4) dYes (dIf (dTest (dOp (kEq false) (dVar 3) (dVar 4))) (dC (.int 0)) (dC .non)) [4]) [3]) (gdName 2))
    (dSeq (kFor (diSeq (dVar 1)) (gdTup 4 (gdCons (gdName 3) (gdCons (gdName 4) (gdCons (gdName 5) (gdCons (gdName 6) gdNil))))) (dSeq (dAsg (dCall 2 m_less (dCons (dOp dIx (dOp dIx (dVar 2) (dVar 3)) (dVar 4)) (dCons (dVar 6) dNil))) (gdSub (dOp dIx (dVar 2) (dVar 3)) (dVar 4)))
    (dAsg (dCall 2 m_less (dCons (dOp dIx (dOp dIx (dVar 2) (dVar 4)) (dVar 3)) (dCons (dUn dNeg (dVar 5)) dNil))) (gdSub (dOp dIx (dVar 2) (dVar 4)) (dVar 3)))))
    (dRet (dVar 2))))
@[irreducible] noncomputable def m_own_gaps : DC := hide (runD 7 b_own_gaps)
theorem m_own_gaps_eq : m_own_gaps = runD 7 b_own_gaps := by unfold m_own_gaps; rw [hide_eq]
theorem m_own_gaps_ap {a0 a1 h Q} (w : b_own_gaps { nx := fun _ h => Q .non h, rt := Q } [some a0, some a1, none, none, none, none, none] h) : m_own_gaps [a0, a1] h Q := by rw [m_own_gaps_eq]; exact w
/-- gaps(ovens, ties): 0 ovens 1 ties 2 found 3 middle 4 one 5 other 6 through -/
noncomputable def b_gaps : DS :=
    (dSeq (dAsg (dCall 2 m_own_gaps (dCons (dVar 0) (dCons (dVar 1) dNil))) (gdName 2))
    (dSeq (kFor (diRng1 (dCons (dVar 0) dNil)) (gdName 3) (kFor (diRng1 (dCons (dVar 0) dNil)) (gdName 4) (kFor (diRng1 (dCons (dVar 0) dNil)) (gdName 5) (dSeq (dAsg (dCall 2 m_plus (dCons (dOp dIx (dOp dIx (dVar 2) (dVar 4)) (dVar 3)) (dCons (dOp dIx (dOp dIx (dVar 2) (dVar 3)) (dVar 5)) dNil))) (gdName 6))
    (dAsg (dCall 2 m_less (dCons (dOp dIx (dOp dIx (dVar 2) (dVar 4)) (dVar 5)) (dCons (dVar 6) dNil))) (gdSub (dOp dIx (dVar 2) (dVar 4)) (dVar 5)))))))
    (dRet (dVar 2))))
@[irreducible] noncomputable def m_gaps : DC := hide (runD 7 b_gaps)
theorem m_gaps_eq : m_gaps = runD 7 b_gaps := by unfold m_gaps; rw [hide_eq]
theorem m_gaps_ap {a0 a1 h Q} (w : b_gaps { nx := fun _ h => Q .non h, rt := Q } [some a0, some a1, none, none, none, none, none] h) : m_gaps [a0, a1] h Q := by rw [m_gaps_eq]; exact w
/-- is_torn(ovens, ties): 0 ovens 1 ties 2 found 3 oven -/
noncomputable def b_is_torn : DS :=
    (dSeq (dAsg (dCall 2 m_gaps (dCons (dVar 0) (dCons (dVar 1) dNil))) (gdName 2))
    (dRet (dCB (bOne anyB) (dCons (kLc (diRng1 (dCons (dVar 0) dNil)) (gdName 3) dYes (dOp dLt (dOp dIx (dOp dIx (dVar 2) (dVar 3)) (dVar 3)) (dC (.int 0))) [3]) dNil))))
@[irreducible] noncomputable def m_is_torn : DC := hide (runD 4 b_is_torn)
theorem m_is_torn_eq : m_is_torn = runD 4 b_is_torn := by unfold m_is_torn; rw [hide_eq]
theorem m_is_torn_ap {a0 a1 h Q} (w : b_is_torn { nx := fun _ h => Q .non h, rt := Q } [some a0, some a1, none, none] h) : m_is_torn [a0, a1] h Q := by rw [m_is_torn_eq]; exact w
/-- is_integer(value, low, high): 0 value 1 low 2 high -/
noncomputable def b_is_integer : DS :=
    (dRet (dAndV (dCB kIsi (dCons (dVar 0) (dCons (dC (.ty "int")) dNil))) (dAndV (dNotV (dCB kIsi (dCons (dVar 0) (dCons (dC (.ty "bool")) dNil)))) (dChain dLe dLe (dVar 1) (dVar 0) (dVar 2)))))
@[irreducible] noncomputable def m_is_integer : DC := hide (runD 3 b_is_integer)
theorem m_is_integer_eq : m_is_integer = runD 3 b_is_integer := by unfold m_is_integer; rw [hide_eq]
theorem m_is_integer_ap {a0 a1 a2 h Q} (w : b_is_integer { nx := fun _ h => Q .non h, rt := Q } [some a0, some a1, some a2] h) : m_is_integer [a0, a1, a2] h Q := by rw [m_is_integer_eq]; exact w
/-- is_tuple(value, many): 0 value 1 many -/
noncomputable def b_is_tuple : DS :=
    (dRet (dAndV (dCB kIsi (dCons (dVar 0) (dCons (dC (.ty "tuple")) dNil))) (dOp (kEq false) (dCB (bOne lenD) (dCons (dVar 0) dNil)) (dVar 1))))
@[irreducible] noncomputable def m_is_tuple : DC := hide (runD 2 b_is_tuple)
theorem m_is_tuple_eq : m_is_tuple = runD 2 b_is_tuple := by unfold m_is_tuple; rw [hide_eq]
theorem m_is_tuple_ap {a0 a1 h Q} (w : b_is_tuple { nx := fun _ h => Q .non h, rt := Q } [some a0, some a1] h) : m_is_tuple [a0, a1] h Q := by rw [m_is_tuple_eq]; exact w
/-- is_pair_of(value, low, high): 0 value 1 low 2 high 3 part -/
noncomputable def b_is_pair_of : DS :=
    (dRet (dAndV (dCall 2 m_is_tuple (dCons (dVar 0) (dCons (dC (.int 2)) dNil))) (dAndV (dCB (bOne allD) (dCons (kLc (diSeq (dVar 0)) (gdName 3) dYes (dCall 3 m_is_integer (dCons (dVar 3) (dCons (dVar 1) (dCons (dVar 2) dNil)))) [3]) dNil)) (dOp dLe (dOp dIx (dVar 0) (dC (.int 0))) (dOp dIx (dVar 0) (dC (.int 1)))))))
@[irreducible] noncomputable def m_is_pair_of : DC := hide (runD 4 b_is_pair_of)
theorem m_is_pair_of_eq : m_is_pair_of = runD 4 b_is_pair_of := by unfold m_is_pair_of; rw [hide_eq]
theorem m_is_pair_of_ap {a0 a1 a2 h Q} (w : b_is_pair_of { nx := fun _ h => Q .non h, rt := Q } [some a0, some a1, some a2, none] h) : m_is_pair_of [a0, a1, a2] h Q := by rw [m_is_pair_of_eq]; exact w
/-- is_room(value): 0 value -/
noncomputable def b_is_room : DS :=
    (dRet (dAndV (dCall 2 m_is_tuple (dCons (dVar 0) (dCons (dC (.int 2)) dNil))) (dAndV (dCall 3 m_is_integer (dCons (dOp dIx (dVar 0) (dC (.int 0))) (dCons (dC (.int 0)) (dCons (dC (.int 1000000000000)) dNil)))) (dCall 3 m_is_integer (dCons (dOp dIx (dVar 0) (dC (.int 1))) (dCons (dC (.int 1)) (dCons (dC (.int 1000000000)) dNil)))))))
@[irreducible] noncomputable def m_is_room : DC := hide (runD 1 b_is_room)
theorem m_is_room_eq : m_is_room = runD 1 b_is_room := by unfold m_is_room; rw [hide_eq]
theorem m_is_room_ap {a0 h Q} (w : b_is_room { nx := fun _ h => Q .non h, rt := Q } [some a0] h) : m_is_room [a0] h Q := by rw [m_is_room_eq]; exact w
/-- is_tie(value, ovens): 0 value 1 ovens 2 oven -/
noncomputable def b_is_tie : DS :=
    (dSeq (dIfS (dOr (dNot (dTest (dCall 2 m_is_tuple (dCons (dVar 0) (dCons (dC (.int 4)) dNil))))) (dNot (dTest (dCB (bOne allD) (dCons (kLc (diSeq (dSl (dVar 0) dNoPart (dPart (dC (.int 2))))) (gdName 2) dYes (dCall 3 m_is_integer (dCons (dVar 2) (dCons (dC (.int 0)) (dCons (dOp dSub (dVar 1) (dC (.int 1))) dNil)))) [2]) dNil))))) (dRet (dC (.bl false))) dNext)
    (dRet (dAndV (dOp (kEq true) (dOp dIx (dVar 0) (dC (.int 0))) (dOp dIx (dVar 0) (dC (.int 1)))) (dCall 3 m_is_pair_of (dCons (dSl (dVar 0) (dPart (dC (.int 2))) dNoPart) (dCons (dUn dNeg (dC (.int 1000000000000))) (dCons (dC (.int 1000000000000)) dNil)))))))
@[irreducible] noncomputable def m_is_tie : DC := hide (runD 3 b_is_tie)
theorem m_is_tie_eq : m_is_tie = runD 3 b_is_tie := by unfold m_is_tie; rw [hide_eq]
theorem m_is_tie_ap {a0 a1 h Q} (w : b_is_tie { nx := fun _ h => Q .non h, rt := Q } [some a0, some a1, none] h) : m_is_tie [a0, a1] h Q := by rw [m_is_tie_eq]; exact w
/-- ties_error(ovens, value): 0 ovens 1 value 2 number 3 tie -/
noncomputable def b_ties_error : DS :=
    (dSeq (dIfS (dOr (dNot (dTest (dCB kIsi (dCons (dVar 1) (dCons (dC (.ty "tuple")) dNil))))) (dTest (dOp dGt (dCB (bOne lenD) (dCons (dVar 1) dNil)) (dC (.int 6))))) (dRet (dTup (dCons (dC .non) (dCons (dC (.str "ties")) dNil)))) dNext)
    (dSeq (kFor (diEnum (dCons (dVar 1) dNil)) (gdTup 2 (gdCons (gdName 2) (gdCons (gdName 3) gdNil))) (dSeq (dIfS (dNot (dTest (dCall 2 m_is_tie (dCons (dVar 3) (dCons (dVar 0) dNil))))) (dRet (dTup (dCons (dVar 2) (dCons (dC (.str "tie")) dNil)))) dNext)
    (dIfS (dAnd (dTest (dOp dGt (dVar 2) (dC (.int 0)))) (dTest (dOp kLeT (dVar 3) (dOp dIx (dVar 1) (dOp dSub (dVar 2) (dC (.int 1))))))) (dRet (dTup (dCons (dVar 2) (dCons (dC (.str "order")) dNil)))) dNext)))
    (dRet (dC .non))))
@[irreducible] noncomputable def m_ties_error : DC := hide (runD 4 b_ties_error)
theorem m_ties_error_eq : m_ties_error = runD 4 b_ties_error := by unfold m_ties_error; rw [hide_eq]
theorem m_ties_error_ap {a0 a1 h Q} (w : b_ties_error { nx := fun _ h => Q .non h, rt := Q } [some a0, some a1, none, none] h) : m_ties_error [a0, a1] h Q := by rw [m_ties_error_eq]; exact w
/-- dishes_error(value): 0 value 1 number 2 dish -/
noncomputable def b_dishes_error : DS :=
    (dSeq (dIfS (dOr (dNot (dTest (dCB kIsi (dCons (dVar 0) (dCons (dC (.ty "tuple")) dNil))))) (dNot (dTest (dChain dLe dLe (dC (.int 1)) (dCB (bOne lenD) (dCons (dVar 0) dNil)) (dC (.int 6)))))) (dRet (dTup (dCons (dC .non) (dCons (dC (.str "dishes")) dNil)))) dNext)
    (dSeq (kFor (diEnum (dCons (dVar 0) dNil)) (gdTup 2 (gdCons (gdName 1) (gdCons (gdName 2) gdNil))) (dIfS (dNot (dTest (dCall 3 m_is_pair_of (dCons (dVar 2) (dCons (dC (.int 0)) (dCons (dC (.int 1000000000000000000000000)) dNil)))))) (dRet (dTup (dCons (dVar 1) (dCons (dC (.str "dish")) dNil)))) dNext))
    (dRet (dC .non))))
@[irreducible] noncomputable def m_dishes_error : DC := hide (runD 3 b_dishes_error)
theorem m_dishes_error_eq : m_dishes_error = runD 3 b_dishes_error := by unfold m_dishes_error; rw [hide_eq]
theorem m_dishes_error_ap {a0 h Q} (w : b_dishes_error { nx := fun _ h => Q .non h, rt := Q } [some a0, none, none] h) : m_dishes_error [a0] h Q := by rw [m_dishes_error_eq]; exact w
/-- kitchen_error(value): 0 value 1 error 2 dials 3 slopes 4 room 5 ovens 6 ties 7 dishes -/
noncomputable def b_kitchen_error : DS :=
    (dSeq (dIfS (dNot (dTest (dCall 2 m_is_tuple (dCons (dVar 0) (dCons (dC (.int 6)) dNil))))) (dRet (dTup (dCons (dC .non) (dCons (dC (.str "kitchen")) dNil)))) dNext)
    (dSeq (dAsg (dVar 0) (gdTup 6 (gdCons (gdName 2) (gdCons (gdName 3) (gdCons (gdName 4) (gdCons (gdName 5) (gdCons (gdName 6) (gdCons (gdName 7) gdNil))))))))
    (dSeq (dIfS (dNot (dTest (dCall 3 m_is_integer (dCons (dVar 2) (dCons (dC (.int 1)) (dCons (dC (.int 1000000000)) dNil)))))) (dRet (dTup (dCons (dC .non) (dCons (dC (.str "dials")) dNil)))) dNext)
    (dSeq (dIfS (dNot (dTest (dCall 3 m_is_pair_of (dCons (dVar 3) (dCons (dC (.int 0)) (dCons (dC (.int 1000000000)) dNil)))))) (dRet (dTup (dCons (dC .non) (dCons (dC (.str "slopes")) dNil)))) dNext)
    (dSeq (dIfS (dNot (dTest (dCall 1 m_is_room (dCons (dVar 4) dNil)))) (dRet (dTup (dCons (dC .non) (dCons (dC (.str "room")) dNil)))) dNext)
    (dSeq (dIfS (dNot (dTest (dCall 3 m_is_integer (dCons (dVar 5) (dCons (dC (.int 1)) (dCons (dC (.int 4)) dNil)))))) (dRet (dTup (dCons (dC .non) (dCons (dC (.str "ovens")) dNil)))) dNext)
    (dSeq (dAsg (dCall 2 m_ties_error (dCons (dVar 5) (dCons (dVar 6) dNil))) (gdName 1))
    (dSeq (dIfS (dTest (dOp (dIsN false) (dVar 1) (dC .non))) (dAsg (dCall 1 m_dishes_error (dCons (dVar 7) dNil)) (gdName 1)) dNext)
    (dSeq (dIfS (dAnd (dTest (dOp (dIsN false) (dVar 1) (dC .non))) (dTest (dCall 2 m_is_torn (dCons (dVar 5) (dCons (dVar 6) dNil))))) (dAsg (dTup (dCons (dC .non) (dCons (dC (.str "torn")) dNil))) (gdName 1)) dNext)
    (dRet (dVar 1)))))))))))
@[irreducible] noncomputable def m_kitchen_error : DC := hide (runD 8 b_kitchen_error)
theorem m_kitchen_error_eq : m_kitchen_error = runD 8 b_kitchen_error := by unfold m_kitchen_error; rw [hide_eq]
theorem m_kitchen_error_ap {a0 h Q} (w : b_kitchen_error { nx := fun _ h => Q .non h, rt := Q } [some a0, none, none, none, none, none, none, none] h) : m_kitchen_error [a0] h Q := by rw [m_kitchen_error_eq]; exact w
/-- _law_bag(_law_script): 0 _law_script 1 _law_cell 2 _law_great 3 _law_small -/
noncomputable def b_law_bag : DS :=
    (dSeq (dPar 2 3 (dCons (dC (.int 0)) (dCons (dOp dAdd (dC (.int 11222)) (dOp dMul (dC (.int 61)) (dCB (bOne lenD) (dCons (dVar 0) dNil)))) dNil)))
    (dSeq (kFor (diSeq (dSl (dVar 0) dNoPart (dPart (dC (.int 63))))) (gdName 1) (dIfS (dTest (dOp dGe (dVar 1) (dOp dPow (dC (.int 10)) (dC (.int 18))))) (dAsg (dOp dSub (dOp dAdd (dOp dMul (dVar 2) (dC (.int 59))) (dVar 1)) (dOp dPow (dC (.int 10)) (dC (.int 18)))) (gdName 2)) (dSeq (dAsg (dOp dAdd (dOp dAdd (dOp dMul (dVar 3) (dC (.int 2862933555777941757))) (dOp dMul (dC (.int 2)) (dCB (bOne absD) (dCons (dVar 1) dNil)))) (dCB (bOne intD) (dCons (dOp dLt (dVar 1) (dC (.int 0))) dNil))) (gdName 3))
    (dAsg (dOp dMod (dCB (bOne intD) (dCons (dVar 3) dNil)) (dC (.int 2305843009213693951))) (gdName 3)))))
    (dRet (dLst (dCons (dVar 2) (dCons (dVar 3) (dCons (dC (.int 0)) dNil)))))))
@[irreducible] noncomputable def m_law_bag : DC := hide (runD 4 b_law_bag)
theorem m_law_bag_eq : m_law_bag = runD 4 b_law_bag := by unfold m_law_bag; rw [hide_eq]
theorem m_law_bag_ap {a0 h Q} (w : b_law_bag { nx := fun _ h => Q .non h, rt := Q } [some a0, none, none, none] h) : m_law_bag [a0] h Q := by rw [m_law_bag_eq]; exact w
/-- _law_draw(_law_bag_here, _law_limit): 0 _law_bag_here 1 _law_limit 2 _law_mixed 3 _law_digit -/
noncomputable def b_law_draw : DS :=
    (dSeq (dIfS (dTest (dOp dGt (dOp dIx (dVar 0) (dC (.int 0))) (dC (.int 0)))) (dSeq (dAsg (dOp dMod (dCB (bOne intD) (dCons (dOp dIx (dVar 0) (dC (.int 0))) dNil)) (dVar 1)) (gdName 3))
    (dSeq (dAsg (dOp dFdiv (dOp dIx (dVar 0) (dC (.int 0))) (dVar 1)) (gdSub (dVar 0) (dC (.int 0))))
    (dRet (dVar 3)))) dNext)
    (dSeq (dAsg (dOp dAdd (dOp dIx (dVar 0) (dC (.int 2))) (dC (.int 1))) (gdSub (dVar 0) (dC (.int 2))))
    (dSeq (dAsg (dOp dAdd (dOp dMul (dOp dIx (dVar 0) (dC (.int 1))) (dC (.int 2862933555777941757))) (dOp dMul (dC (.int 3037000493)) (dOp dIx (dVar 0) (dC (.int 2))))) (gdName 2))
    (dSeq (dAsg (dOp dMod (dCB (bOne intD) (dCons (dVar 2) dNil)) (dC (.int 2305843009213693951))) (gdSub (dVar 0) (dC (.int 1))))
    (dRet (dOp dMod (dOp dFdiv (dOp dMod (dCB (bOne intD) (dCons (dOp dMul (dOp dIx (dVar 0) (dC (.int 1))) (dOp dIx (dVar 0) (dC (.int 1)))) dNil)) (dC (.int 2305843009213693921))) (dC (.int 4096))) (dVar 1)))))))
@[irreducible] noncomputable def m_law_draw : DC := hide (runD 4 b_law_draw)
theorem m_law_draw_eq : m_law_draw = runD 4 b_law_draw := by unfold m_law_draw; rw [hide_eq]
theorem m_law_draw_ap {a0 a1 h Q} (w : b_law_draw { nx := fun _ h => Q .non h, rt := Q } [some a0, some a1, none, none] h) : m_law_draw [a0, a1] h Q := by rw [m_law_draw_eq]; exact w
/-- _law_pick(_law_bag_here, _law_items): 0 _law_bag_here 1 _law_items -/
noncomputable def b_law_pick : DS :=
    (dRet (dOp dIx (dVar 1) (dCall 2 m_law_draw (dCons (dVar 0) (dCons (dCB (bOne lenD) (dCons (dVar 1) dNil)) dNil)))))
@[irreducible] noncomputable def m_law_pick : DC := hide (runD 2 b_law_pick)
theorem m_law_pick_eq : m_law_pick = runD 2 b_law_pick := by unfold m_law_pick; rw [hide_eq]
theorem m_law_pick_ap {a0 a1 h Q} (w : b_law_pick { nx := fun _ h => Q .non h, rt := Q } [some a0, some a1] h) : m_law_pick [a0, a1] h Q := by rw [m_law_pick_eq]; exact w
/-- _law_odd(_law_bag_here): 0 _law_bag_here 1 _law_some -/
noncomputable def b_law_odd : DS :=
    (dSeq (dAsg (dLst (dCons (dC .non) (dCons (dC (.bl true)) (dCons (dC (.bl false)) (dCons (dC (.int 0)) (dCons (dC (.int 1)) (dCons (dUn dNeg (dC (.int 1))) (dCons (dC (.int 6)) (dCons (dC (.int 21)) (dCons (dOp dPow (dC (.int 10)) (dC (.int 39))) (dCons (dC (.str "")) (dCons (dC (.str "0")) (dCons (dC (.str "raw")) (dCons (dC (.str "warm")) (dCons (dTup dNil) (dCons (dLst dNil) (dCons (dTup (dCons (dC (.int 0)) dNil)) (dCons (dTup (dCons (dC (.int 1)) (dCons (dC (.int 0)) dNil))) (dCons (dLst (dCons (dC (.int 0)) dNil)) (dCons (dTup (dCons (dC (.int 0)) (dCons (dC (.bl true)) dNil))) (dCons dNewK dNil))))))))))))))))))))) (gdName 1))
    (dRet (dCall 2 m_law_pick (dCons (dVar 0) (dCons (dOp dAdd (dVar 1) (dLst (dCons (dTup (dCons (dLst dNil) dNil)) (dCons (dTup (dCons (dC .non) dNil)) (dCons (dTup (dCons (dC (.str "raw")) dNil)) (dCons (dTup (dCons (dTup (dCons (dC (.int 0)) (dCons (dC (.int 1)) dNil))) dNil)) (dCons (dTup (dCons (dC (.int 0)) (dCons (dC (.int 0)) dNil))) (dCons (dTup (dCons dNewK dNil)) (dCons (dDisp (((dC (.str "0")), (dC (.int 1))) :: [])) (dCons (dTup (dCons (dUn dNeg (dC (.int 1))) (dCons (dC (.int 0)) dNil))) (dCons (dTup (dCons (dC (.int 5)) (dCons (dC (.int 2)) dNil))) (dCons (dOp dAdd (dOp dPow (dC (.int 10)) (dC (.int 12))) (dC (.int 1))) dNil)))))))))))) dNil)))))
@[irreducible] noncomputable def m_law_odd : DC := hide (runD 2 b_law_odd)
theorem m_law_odd_eq : m_law_odd = runD 2 b_law_odd := by unfold m_law_odd; rw [hide_eq]
theorem m_law_odd_ap {a0 h Q} (w : b_law_odd { nx := fun _ h => Q .non h, rt := Q } [some a0, none] h) : m_law_odd [a0] h Q := by rw [m_law_odd_eq]; exact w
/-- _law_is_whole(_law_value, _law_low, _law_high): 0 _law_value 1 _law_low 2 _law_high -/
noncomputable def b_law_is_whole : DS :=
    (dRet (dAndV (dCB kIsi (dCons (dVar 0) (dCons (dC (.ty "int")) dNil))) (dAndV (dNotV (dCB kIsi (dCons (dVar 0) (dCons (dC (.ty "bool")) dNil)))) (dChain dLe dLe (dVar 1) (dVar 0) (dVar 2)))))
@[irreducible] noncomputable def m_law_is_whole : DC := hide (runD 3 b_law_is_whole)
theorem m_law_is_whole_eq : m_law_is_whole = runD 3 b_law_is_whole := by unfold m_law_is_whole; rw [hide_eq]
theorem m_law_is_whole_ap {a0 a1 a2 h Q} (w : b_law_is_whole { nx := fun _ h => Q .non h, rt := Q } [some a0, some a1, some a2] h) : m_law_is_whole [a0, a1, a2] h Q := by rw [m_law_is_whole_eq]; exact w
/-- _law_is_pair(_law_value, _law_low, _law_high): 0 _law_value 1 _law_low 2 _law_high -/
noncomputable def b_law_is_pair : DS :=
    (dSeq (dIfS (dOr (dNot (dTest (dCB kIsi (dCons (dVar 0) (dCons (dC (.ty "tuple")) dNil))))) (dTest (dOp (kEq true) (dCB (bOne lenD) (dCons (dVar 0) dNil)) (dC (.int 2))))) (dRet (dC (.bl false))) dNext)
    (dRet (dAndV (dCall 3 m_law_is_whole (dCons (dOp dIx (dVar 0) (dC (.int 0))) (dCons (dVar 1) (dCons (dVar 2) dNil)))) (dCall 3 m_law_is_whole (dCons (dOp dIx (dVar 0) (dC (.int 1))) (dCons (dOp dIx (dVar 0) (dC (.int 0))) (dCons (dVar 2) dNil)))))))
@[irreducible] noncomputable def m_law_is_pair : DC := hide (runD 3 b_law_is_pair)
theorem m_law_is_pair_eq : m_law_is_pair = runD 3 b_law_is_pair := by unfold m_law_is_pair; rw [hide_eq]
theorem m_law_is_pair_ap {a0 a1 a2 h Q} (w : b_law_is_pair { nx := fun _ h => Q .non h, rt := Q } [some a0, some a1, some a2] h) : m_law_is_pair [a0, a1, a2] h Q := by rw [m_law_is_pair_eq]; exact w
/-- _law_ups(_law_ovens, _law_ties_here): 0 _law_ovens 1 _law_ties_here 2 _law_found 3 _law_one 4 _law_turn 5 _law_other 6 _law_low 7 _law_high 8 _law_middle 9 _law_key 10 _law_bound -/
noncomputable def b_law_ups : DS :=
    (dSeq (dAsg dNewT (gdName 2))
    (dSeq (kFor (diRng1 (dCons (dVar 0) dNil)) (gdName 3) (kFor (diRng1 (dCons (dVar 0) dNil)) (gdName 5) (dAsg (dIf (dTest (dOp (kEq false) (dVar 3) (dVar 5))) (dC (.int 0)) (dC .non)) (gdSub (dVar 2) (dTup (dCons (dVar 3) (dCons (dVar 5) dNil)))))))
    (dSeq (kFor (diSeq (dVar 1)) (gdTup 4 (gdCons (gdName 3) (gdCons (gdName 5) (gdCons (gdName 6) (gdCons (gdName 7) gdNil))))) (kFor (diSeq (dLst (dCons (dTup (dCons (dTup (dCons (dVar 3) (dCons (dVar 5) dNil))) (dCons (dVar 7) dNil))) (dCons (dTup (dCons (dTup (dCons (dVar 5) (dCons (dVar 3) dNil))) (dCons (dOp dSub (dC (.int 0)) (dVar 6)) dNil))) dNil)))) (gdTup 2 (gdCons (gdName 9) (gdCons (gdName 10) gdNil))) (dIfS (dOr (dTest (dOp (dIsN false) (dOp dIx (dVar 2) (dVar 9)) (dC .non))) (dTest (dOp dLt (dVar 10) (dOp dIx (dVar 2) (dVar 9))))) (dAsg (dVar 10) (gdSub (dVar 2) (dVar 9))) dNext)))
    (dSeq (kFor (diRng1 (dCons (dC (.int 2)) dNil)) (gdName 4) (kFor (diRng1 (dCons (dVar 0) dNil)) (gdName 8) (kFor (diRng1 (dCons (dVar 0) dNil)) (gdName 3) (kFor (diRng1 (dCons (dVar 0) dNil)) (gdName 5) (dIfS (dAnd (dTest (dOp (dIsN true) (dOp dIx (dVar 2) (dTup (dCons (dVar 3) (dCons (dVar 8) dNil)))) (dC .non))) (dTest (dOp (dIsN true) (dOp dIx (dVar 2) (dTup (dCons (dVar 8) (dCons (dVar 5) dNil)))) (dC .non)))) (dSeq (dAsg (dOp dAdd (dOp dIx (dVar 2) (dTup (dCons (dVar 3) (dCons (dVar 8) dNil)))) (dOp dIx (dVar 2) (dTup (dCons (dVar 8) (dCons (dVar 5) dNil))))) (gdName 10))
    (dIfS (dOr (dTest (dOp (dIsN false) (dOp dIx (dVar 2) (dTup (dCons (dVar 3) (dCons (dVar 5) dNil)))) (dC .non))) (dTest (dOp dLt (dVar 10) (dOp dIx (dVar 2) (dTup (dCons (dVar 3) (dCons (dVar 5) dNil))))))) (dAsg (dVar 10) (gdSub (dVar 2) (dTup (dCons (dVar 3) (dCons (dVar 5) dNil))))) dNext)) dNext)))))
    (dRet (dVar 2))))))
@[irreducible] noncomputable def m_law_ups : DC := hide (runD 11 b_law_ups)
theorem m_law_ups_eq : m_law_ups = runD 11 b_law_ups := by unfold m_law_ups; rw [hide_eq]
theorem m_law_ups_ap {a0 a1 h Q} (w : b_law_ups { nx := fun _ h => Q .non h, rt := Q } [some a0, some a1, none, none, none, none, none, none, none, none, none] h) : m_law_ups [a0, a1] h Q := by rw [m_law_ups_eq]; exact w
/-- _law_is_torn(_law_ovens, _law_ties_here): 0 _law_ovens 1 _law_ties_here 2 _law_found 3 _law_oven -/
noncomputable def b_law_is_torn : DS :=
    (dSeq (dAsg (dCall 2 m_law_ups (dCons (dVar 0) (dCons (dVar 1) dNil))) (gdName 2))
    (dRet (dOp (kEq true) (kLc (diRng1 (dCons (dVar 0) dNil)) (gdName 3) (dTest (dOp dLt (dOp dIx (dVar 2) (dTup (dCons (dVar 3) (dCons (dVar 3) dNil)))) (dC (.int 0)))) (dVar 3) [3]) (dLst dNil))))
@[irreducible] noncomputable def m_law_is_torn : DC := hide (runD 4 b_law_is_torn)
theorem m_law_is_torn_eq : m_law_is_torn = runD 4 b_law_is_torn := by unfold m_law_is_torn; rw [hide_eq]
theorem m_law_is_torn_ap {a0 a1 h Q} (w : b_law_is_torn { nx := fun _ h => Q .non h, rt := Q } [some a0, some a1, none, none] h) : m_law_is_torn [a0, a1] h Q := by rw [m_law_is_torn_eq]; exact w
/-- _law_ties(_law_bag_here, _law_ovens, _law_share): 0 _law_bag_here 1 _law_ovens 2 _law_share 3 _law_found 4 _law_turn 5 _law_one 6 _law_other 7 _law_low 8 _law_tie 9 _law_more -/
noncomputable def b_law_ties : DS :=
    (dSeq (dAsg (dLst dNil) (gdName 3))
    (dSeq (kFor (diRng1 (dCons (dIf (dTest (dOp dGt (dVar 1) (dC (.int 1)))) (dCall 2 m_law_draw (dCons (dVar 0) (dCons (dOp dMul (dC (.int 2)) (dVar 1)) dNil))) (dC (.int 0))) dNil)) (gdName 4) (dSeq (dAsg (dCall 2 m_law_draw (dCons (dVar 0) (dCons (dVar 1) dNil))) (gdName 5))
    (dSeq (dAsg (dOp dMod (dCB (bOne intD) (dCons (dOp dAdd (dOp dAdd (dVar 5) (dC (.int 1))) (dCall 2 m_law_draw (dCons (dVar 0) (dCons (dOp dSub (dVar 1) (dC (.int 1))) dNil)))) dNil)) (dVar 1)) (gdName 6))
    (dSeq (dAsg (dOp dMul (dOp dSub (dCall 2 m_law_draw (dCons (dVar 0) (dCons (dC (.int 11)) dNil))) (dC (.int 5))) (dVar 2)) (gdName 7))
    (dSeq (dAsg (dTup (dCons (dVar 5) (dCons (dVar 6) (dCons (dVar 7) (dCons (dOp dAdd (dVar 7) (dOp dMul (dCall 2 m_law_draw (dCons (dVar 0) (dCons (dC (.int 8)) dNil))) (dVar 2))) dNil))))) (gdName 8))
    (dSeq (dAsg (kSortSet (dOp dAdd (dVar 3) (dLst (dCons (dVar 8) dNil)))) (gdName 9))
    (dIfS (dAnd (dTest (dOp dLt (dCB (bOne lenD) (dCons (dVar 9) dNil)) (dC (.int 7)))) (dNot (dTest (dCall 2 m_law_is_torn (dCons (dVar 1) (dCons (dVar 9) dNil)))))) (dAsg (dVar 9) (gdName 3)) dNext)))))))
    (dRet (dCB bTup (dCons (dVar 3) dNil)))))
@[irreducible] noncomputable def m_law_ties : DC := hide (runD 10 b_law_ties)
theorem m_law_ties_eq : m_law_ties = runD 10 b_law_ties := by unfold m_law_ties; rw [hide_eq]
theorem m_law_ties_ap {a0 a1 a2 h Q} (w : b_law_ties { nx := fun _ h => Q .non h, rt := Q } [some a0, some a1, some a2, none, none, none, none, none, none, none] h) : m_law_ties [a0, a1, a2] h Q := by rw [m_law_ties_eq]; exact w
/-- _law_kitchen(_law_bag_here, _law_dials, _law_share): 0 _law_bag_here 1 _law_dials 2 _law_share 3 _law_least 4 _law_turn 5 _law_slopes 6 _law_room 7 _law_ovens 8 _law_dishes 9 _law_low -/
noncomputable def b_law_kitchen : DS :=
    (dSeq (dAsg (dOp dMul (dCall 2 m_law_draw (dCons (dVar 0) (dCons (dC (.int 4)) dNil))) (dVar 2)) (gdName 3))
    (dSeq (dPar 5 6 (dCons (dTup (dCons (dVar 3) (dCons (dOp dAdd (dVar 3) (dOp dMul (dCall 2 m_law_draw (dCons (dVar 0) (dCons (dC (.int 6)) dNil))) (dVar 2))) dNil))) (dCons (dTup (dCons (dOp dMul (dCall 2 m_law_draw (dCons (dVar 0) (dCons (dC (.int 31)) dNil))) (dVar 2)) (dCons (dOp dAdd (dC (.int 1)) (dOp dMul (dCall 2 m_law_draw (dCons (dVar 0) (dCons (dC (.int 12)) dNil))) (dVar 2))) dNil))) dNil)))
    (dSeq (dPar 7 8 (dCons (dOp dAdd (dC (.int 1)) (dCall 2 m_law_draw (dCons (dVar 0) (dCons (dC (.int 4)) dNil)))) (dCons (dLst dNil) dNil)))
    (dSeq (kFor (diRng1 (dCons (dOp dAdd (dC (.int 1)) (dCall 2 m_law_draw (dCons (dVar 0) (dCons (dC (.int 3)) dNil)))) dNil)) (gdName 4) (dSeq (dAsg (dOp dMul (dCall 2 m_law_draw (dCons (dVar 0) (dCons (dC (.int 260)) dNil))) (dVar 2)) (gdName 9))
    (dDrop (dAppend (dVar 8) (dTup (dCons (dVar 9) (dCons (dOp dAdd (dVar 9) (dOp dMul (dCall 2 m_law_draw (dCons (dVar 0) (dCons (dC (.int 160)) dNil))) (dVar 2))) dNil)))))))
    (dRet (dTup (dCons (dVar 1) (dCons (dVar 5) (dCons (dVar 6) (dCons (dVar 7) (dCons (dCall 3 m_law_ties (dCons (dVar 0) (dCons (dVar 7) (dCons (dVar 2) dNil)))) (dCons (dCB bTup (dCons (dVar 8) dNil)) dNil))))))))))))
@[irreducible] noncomputable def m_law_kitchen : DC := hide (runD 10 b_law_kitchen)
theorem m_law_kitchen_eq : m_law_kitchen = runD 10 b_law_kitchen := by unfold m_law_kitchen; rw [hide_eq]
theorem m_law_kitchen_ap {a0 a1 a2 h Q} (w : b_law_kitchen { nx := fun _ h => Q .non h, rt := Q } [some a0, some a1, some a2, none, none, none, none, none, none, none] h) : m_law_kitchen [a0, a1, a2] h Q := by rw [m_law_kitchen_eq]; exact w
/-- _law_ties_word(_law_ovens, _law_ties_here): 0 _law_ovens 1 _law_ties_here 2 _law_number 3 _law_tie -/
noncomputable def b_law_ties_word : DS :=
    (dSeq (dIfS (dOr (dNot (dTest (dCB kIsi (dCons (dVar 1) (dCons (dC (.ty "tuple")) dNil))))) (dTest (dOp dGt (dCB (bOne lenD) (dCons (dVar 1) dNil)) (dC (.int 6))))) (dRet (dTup (dCons (dC .non) (dCons (dC (.str "ties")) dNil)))) dNext)
    (dSeq (kFor (diEnum (dCons (dVar 1) dNil)) (gdTup 2 (gdCons (gdName 2) (gdCons (gdName 3) gdNil))) (dSeq (dIfS (dOr (dNot (dTest (dCB kIsi (dCons (dVar 3) (dCons (dC (.ty "tuple")) dNil))))) (dOr (dTest (dOp (kEq true) (dCB (bOne lenD) (dCons (dVar 3) dNil)) (dC (.int 4)))) (dNot (dTest (dCall 3 m_law_is_pair (dCons (dSl (dVar 3) (dPart (dC (.int 2))) dNoPart) (dCons (dOp dSub (dC (.int 0)) (dOp dPow (dC (.int 10)) (dC (.int 12)))) (dCons (dOp dPow (dC (.int 10)) (dC (.int 12))) dNil)))))))) (dRet (dTup (dCons (dVar 2) (dCons (dC (.str "tie")) dNil)))) dNext)
    (dSeq (dIfS (dOr (dNot (dTest (dCall 3 m_law_is_whole (dCons (dOp dIx (dVar 3) (dC (.int 0))) (dCons (dC (.int 0)) (dCons (dOp dSub (dVar 0) (dC (.int 1))) dNil)))))) (dOr (dNot (dTest (dCall 3 m_law_is_whole (dCons (dOp dIx (dVar 3) (dC (.int 1))) (dCons (dC (.int 0)) (dCons (dOp dSub (dVar 0) (dC (.int 1))) dNil)))))) (dTest (dOp (kEq false) (dOp dIx (dVar 3) (dC (.int 0))) (dOp dIx (dVar 3) (dC (.int 1))))))) (dRet (dTup (dCons (dVar 2) (dCons (dC (.str "tie")) dNil)))) dNext)
    (dIfS (dAnd (dTest (dOp dGt (dVar 2) (dC (.int 0)))) (dNot (dTest (dOp kLtT (dOp dIx (dVar 1) (dOp dSub (dVar 2) (dC (.int 1)))) (dVar 3))))) (dRet (dTup (dCons (dVar 2) (dCons (dC (.str "order")) dNil)))) dNext))))
    (dRet (dC .non))))
@[irreducible] noncomputable def m_law_ties_word : DC := hide (runD 4 b_law_ties_word)
theorem m_law_ties_word_eq : m_law_ties_word = runD 4 b_law_ties_word := by unfold m_law_ties_word; rw [hide_eq]
theorem m_law_ties_word_ap {a0 a1 h Q} (w : b_law_ties_word { nx := fun _ h => Q .non h, rt := Q } [some a0, some a1, none, none] h) : m_law_ties_word [a0, a1] h Q := by rw [m_law_ties_word_eq]; exact w
/-- _law_kitchen_word(_law_value): 0 _law_value 1 _law_wrong 2 _law_dials 3 _law_slopes 4 _law_room 5 _law_ovens 6 _law_ties_here 7 _law_dishes 8 _law_number 9 _law_dish -/
noncomputable def b_law_kitchen_word : DS :=
    (dSeq (dIfS (dOr (dNot (dTest (dCB kIsi (dCons (dVar 0) (dCons (dC (.ty "tuple")) dNil))))) (dTest (dOp (kEq true) (dCB (bOne lenD) (dCons (dVar 0) dNil)) (dC (.int 6))))) (dRet (dTup (dCons (dC .non) (dCons (dC (.str "kitchen")) dNil)))) dNext)
    (dSeq (dAsg (dVar 0) (gdTup 6 (gdCons (gdName 2) (gdCons (gdName 3) (gdCons (gdName 4) (gdCons (gdName 5) (gdCons (gdName 6) (gdCons (gdName 7) gdNil))))))))
    (dSeq (dIfS (dNot (dTest (dCall 3 m_law_is_whole (dCons (dVar 2) (dCons (dC (.int 1)) (dCons (dOp dPow (dC (.int 10)) (dC (.int 9))) dNil)))))) (dRet (dTup (dCons (dC .non) (dCons (dC (.str "dials")) dNil)))) dNext)
    (dSeq (dIfS (dNot (dTest (dCall 3 m_law_is_pair (dCons (dVar 3) (dCons (dC (.int 0)) (dCons (dOp dPow (dC (.int 10)) (dC (.int 9))) dNil)))))) (dRet (dTup (dCons (dC .non) (dCons (dC (.str "slopes")) dNil)))) dNext)
    (dSeq (dIfS (dOr (dNot (dTest (dCB kIsi (dCons (dVar 4) (dCons (dC (.ty "tuple")) dNil))))) (dTest (dOp (kEq true) (dCB (bOne lenD) (dCons (dVar 4) dNil)) (dC (.int 2))))) (dRet (dTup (dCons (dC .non) (dCons (dC (.str "room")) dNil)))) dNext)
    (dSeq (dIfS (dOr (dNot (dTest (dCall 3 m_law_is_whole (dCons (dOp dIx (dVar 4) (dC (.int 0))) (dCons (dC (.int 0)) (dCons (dOp dPow (dC (.int 10)) (dC (.int 12))) dNil)))))) (dNot (dTest (dCall 3 m_law_is_whole (dCons (dOp dIx (dVar 4) (dC (.int 1))) (dCons (dC (.int 1)) (dCons (dOp dPow (dC (.int 10)) (dC (.int 9))) dNil))))))) (dRet (dTup (dCons (dC .non) (dCons (dC (.str "room")) dNil)))) dNext)
    (dSeq (dIfS (dNot (dTest (dCall 3 m_law_is_whole (dCons (dVar 5) (dCons (dC (.int 1)) (dCons (dC (.int 4)) dNil)))))) (dRet (dTup (dCons (dC .non) (dCons (dC (.str "ovens")) dNil)))) dNext)
    (dSeq (dAsg (dCall 2 m_law_ties_word (dCons (dVar 5) (dCons (dVar 6) dNil))) (gdName 1))
    (dSeq (dIfS (dTest (dOp (dIsN true) (dVar 1) (dC .non))) (dRet (dVar 1)) dNext)
    (dSeq (dIfS (dOr (dNot (dTest (dCB kIsi (dCons (dVar 7) (dCons (dC (.ty "tuple")) dNil))))) (dNot (dTest (dChain dLe dLe (dC (.int 1)) (dCB (bOne lenD) (dCons (dVar 7) dNil)) (dC (.int 6)))))) (dRet (dTup (dCons (dC .non) (dCons (dC (.str "dishes")) dNil)))) dNext)
    (dSeq (kFor (diEnum (dCons (dVar 7) dNil)) (gdTup 2 (gdCons (gdName 8) (gdCons (gdName 9) gdNil))) (dIfS (dNot (dTest (dCall 3 m_law_is_pair (dCons (dVar 9) (dCons (dC (.int 0)) (dCons (dOp dPow (dC (.int 10)) (dC (.int 24))) dNil)))))) (dRet (dTup (dCons (dVar 8) (dCons (dC (.str "dish")) dNil)))) dNext))
    (dRet (dIf (dTest (dCall 2 m_law_is_torn (dCons (dVar 5) (dCons (dVar 6) dNil)))) (dTup (dCons (dC .non) (dCons (dC (.str "torn")) dNil))) (dC .non))))))))))))))
@[irreducible] noncomputable def m_law_kitchen_word : DC := hide (runD 10 b_law_kitchen_word)
theorem m_law_kitchen_word_eq : m_law_kitchen_word = runD 10 b_law_kitchen_word := by unfold m_law_kitchen_word; rw [hide_eq]
theorem m_law_kitchen_word_ap {a0 h Q} (w : b_law_kitchen_word { nx := fun _ h => Q .non h, rt := Q } [some a0, none, none, none, none, none, none, none, none, none] h) : m_law_kitchen_word [a0] h Q := by rw [m_law_kitchen_word_eq]; exact w
/-- _law_bent_tie(_law_bag_here, _law_tie, _law_ovens): 0 _law_bag_here 1 _law_tie 2 _law_ovens 3 _law_some 4 _law_one 5 _law_other 6 _law_low 7 _law_high -/
noncomputable def b_law_bent_tie : DS :=
    (dSeq (dAsg (dVar 1) (gdTup 4 (gdCons (gdName 4) (gdCons (gdName 5) (gdCons (gdName 6) (gdCons (gdName 7) gdNil))))))
    (dSeq (dAsg (dLst (dCons (dTup (dCons (dVar 5) (dCons (dVar 4) (dCons (dOp dSub (dC (.int 0)) (dVar 7)) (dCons (dOp dSub (dC (.int 0)) (dVar 6)) dNil))))) (dCons (dTup (dCons (dVar 4) (dCons (dVar 5) (dCons (dVar 7) (dCons (dVar 6) dNil))))) (dCons (dTup (dCons (dVar 4) (dCons (dVar 4) (dCons (dVar 6) (dCons (dVar 7) dNil))))) (dCons (dTup (dCons (dVar 2) (dCons (dVar 5) (dCons (dVar 6) (dCons (dVar 7) dNil))))) dNil))))) (gdName 3))
    (dSeq (dAsg (dOp dAdd (dVar 3) (dLst (dCons (dTup (dCons (dVar 4) (dCons (dUn dNeg (dC (.int 1))) (dCons (dVar 6) (dCons (dVar 7) dNil))))) (dCons (dTup (dCons (dVar 4) (dCons (dVar 5) (dCons (dVar 6) dNil)))) (dCons (dTup (dCons (dC (.bl true)) (dCons (dVar 5) (dCons (dVar 6) (dCons (dVar 7) dNil))))) (dCons (dLst (dCons (dVar 4) (dCons (dVar 5) (dCons (dVar 6) (dCons (dVar 7) dNil))))) (dCons (dOp dAdd (dVar 1) (dTup (dCons (dC (.int 0)) dNil))) dNil))))))) (gdName 3))
    (dSeq (dAsg (dOp dAdd (dVar 3) (dLst (dCons (dTup (dCons (dVar 4) (dCons (dVar 5) (dCons (dOp dSub (dC (.int 0)) (dOp dPow (dC (.int 10)) (dC (.int 12)))) (dCons (dOp dPow (dC (.int 10)) (dC (.int 12))) dNil))))) (dCons (dTup (dCons (dVar 4) (dCons (dVar 5) (dCons (dVar 6) (dCons (dOp dAdd (dOp dPow (dC (.int 10)) (dC (.int 12))) (dC (.int 1))) dNil))))) (dCons (dTup (dCons (dVar 4) (dCons (dVar 5) (dCons (dOp dSub (dOp dSub (dC (.int 0)) (dOp dPow (dC (.int 10)) (dC (.int 12)))) (dC (.int 1))) (dCons (dVar 7) dNil))))) dNil))))) (gdName 3))
    (dSeq (dAsg (dOp dAdd (dVar 3) (dLst (dCons (dTup (dCons (dC .non) (dCons (dVar 5) (dCons (dVar 6) (dCons (dVar 7) dNil))))) (dCons (dTup (dCons (dVar 4) (dCons (dC (.str "1")) (dCons (dVar 6) (dCons (dVar 7) dNil))))) (dCons (dTup (dCons (dVar 4) (dCons (dC (.bl true)) (dCons (dVar 6) (dCons (dVar 7) dNil))))) (dCons (dTup (dCons (dVar 4) (dCons (dVar 5) (dCons (dC (.bl false)) (dCons (dVar 7) dNil))))) (dCons (dTup (dCons (dVar 4) (dCons (dVar 5) (dCons (dVar 6) (dCons (dC (.bl true)) dNil))))) dNil))))))) (gdName 3))
    (dSeq (dAsg (dOp dAdd (dVar 3) (dLst (dCons (dTup (dCons (dVar 4) (dCons (dLst (dCons (dVar 5) dNil)) (dCons (dVar 6) (dCons (dVar 7) dNil))))) (dCons (dTup (dCons (dVar 4) (dCons (dVar 5) (dCons (dC (.str "0")) (dCons (dVar 7) dNil))))) (dCons (dTup (dCons (dVar 4) (dCons (dC .non) (dCons (dVar 6) (dCons (dVar 7) dNil))))) (dCons (dTup (dCons (dVar 4) (dCons (dVar 5) (dCons (dVar 6) (dCons (dC .non) dNil))))) dNil)))))) (gdName 3))
    (dRet (dCall 2 m_law_pick (dCons (dVar 0) (dCons (dOp dAdd (dVar 3) (dLst (dCons (dTup (dCons (dVar 4) (dCons (dVar 5) (dCons (dOp dAdd (dVar 7) (dC (.int 1))) (dCons (dOp dAdd (dVar 7) (dC (.int 1))) dNil))))) (dCons (dTup (dCons (dVar 5) (dCons (dVar 4) (dCons (dOp dAdd (dVar 6) (dC (.int 20))) (dCons (dOp dAdd (dVar 7) (dC (.int 20))) dNil))))) (dCons (dTup (dCons (dVar 4) (dCons (dVar 5) (dCons (dC .non) (dCons (dVar 7) dNil))))) dNil))))) dNil))))))))))
@[irreducible] noncomputable def m_law_bent_tie : DC := hide (runD 8 b_law_bent_tie)
theorem m_law_bent_tie_eq : m_law_bent_tie = runD 8 b_law_bent_tie := by unfold m_law_bent_tie; rw [hide_eq]
theorem m_law_bent_tie_ap {a0 a1 a2 h Q} (w : b_law_bent_tie { nx := fun _ h => Q .non h, rt := Q } [some a0, some a1, some a2, none, none, none, none, none] h) : m_law_bent_tie [a0, a1, a2] h Q := by rw [m_law_bent_tie_eq]; exact w
/-- _law_bent_dish(_law_bag_here, _law_dish): 0 _law_bag_here 1 _law_dish 2 _law_some 3 _law_low 4 _law_high -/
noncomputable def b_law_bent_dish : DS :=
    (dSeq (dAsg (dVar 1) (gdTup 2 (gdCons (gdName 3) (gdCons (gdName 4) gdNil))))
    (dSeq (dAsg (dLst (dCons (dTup (dCons (dOp dAdd (dVar 4) (dC (.int 1))) (dCons (dVar 4) dNil))) (dCons (dTup (dCons (dVar 3) (dCons (dOp dPow (dC (.int 10)) (dC (.int 24))) dNil))) (dCons (dTup (dCons (dVar 3) (dCons (dOp dAdd (dOp dPow (dC (.int 10)) (dC (.int 24))) (dC (.int 1))) dNil))) (dCons (dTup (dCons (dUn dNeg (dC (.int 1))) (dCons (dVar 4) dNil))) (dCons (dTup (dCons (dVar 3) dNil)) (dCons (dLst (dCons (dVar 3) (dCons (dVar 4) dNil))) (dCons (dTup (dCons (dVar 3) (dCons (dVar 4) (dCons (dVar 4) dNil)))) (dCons (dC .non) dNil))))))))) (gdName 2))
    (dSeq (dAsg (dOp dAdd (dVar 2) (dLst (dCons (dTup (dCons (dC .non) (dCons (dVar 4) dNil))) (dCons (dTup (dCons (dC (.str "0")) (dCons (dVar 4) dNil))) (dCons (dTup (dCons (dVar 3) (dCons (dC (.bl true)) dNil))) (dCons (dTup (dCons (dVar 3) (dCons (dC .non) dNil))) (dCons (dTup (dCons (dLst (dCons (dVar 3) dNil)) (dCons (dVar 4) dNil))) (dCons (dTup (dCons (dC (.bl false)) (dCons (dVar 4) dNil))) dNil)))))))) (gdName 2))
    (dRet (dCall 2 m_law_pick (dCons (dVar 0) (dCons (dOp dAdd (dVar 2) (dLst (dCons (dTup (dCons (dC (.bl true)) (dCons (dOp dPow (dC (.int 10)) (dC (.int 20))) dNil))) (dCons (dTup (dCons (dC (.int 0)) (dCons (dC (.int 0)) dNil))) (dCons (dTup (dCons (dVar 3) (dCons (dC (.str "0")) dNil))) (dCons (dTup (dCons (dVar 4) (dCons (dVar 4) dNil))) dNil)))))) dNil)))))))
@[irreducible] noncomputable def m_law_bent_dish : DC := hide (runD 5 b_law_bent_dish)
theorem m_law_bent_dish_eq : m_law_bent_dish = runD 5 b_law_bent_dish := by unfold m_law_bent_dish; rw [hide_eq]
theorem m_law_bent_dish_ap {a0 a1 h Q} (w : b_law_bent_dish { nx := fun _ h => Q .non h, rt := Q } [some a0, some a1, none, none, none] h) : m_law_bent_dish [a0, a1] h Q := by rw [m_law_bent_dish_eq]; exact w
/-- _law_bent(_law_bag_here, _law_kitchen_here): 0 _law_bag_here 1 _law_kitchen_here 2 _law_part 3 _law_spot 4 _law_bent_here 5 _law_both 6 _law_some 7 _law_dials 8 _law_slopes 9 _law_room 10 _law_ovens 11 _law_ties_here 12 _law_dishes 13 _law_at 14 _law_odd_here 15 _law_place 16 _law_other 17 _law_item 18 _law_to -/
noncomputable def b_law_bent : DS :=
    (dSeq (dAsg (dVar 1) (gdTup 6 (gdCons (gdName 7) (gdCons (gdName 8) (gdCons (gdName 9) (gdCons (gdName 10) (gdCons (gdName 11) (gdCons (gdName 12) gdNil))))))))
    (dSeq (dPar 13 14 (dCons (dCall 2 m_law_draw (dCons (dVar 0) (dCons (dC (.int 6)) dNil))) (dCons (dCall 1 m_law_odd (dCons (dVar 0) dNil)) dNil)))
    (dSeq (dAsg (dDisp (((dC (.int 0)), (dLst (dCons (dC (.int 0)) (dCons (dC (.int 1)) (dCons (dOp dPow (dC (.int 10)) (dC (.int 9))) (dCons (dOp dAdd (dOp dPow (dC (.int 10)) (dC (.int 9))) (dC (.int 1))) (dCons (dC (.bl true)) (dCons (dUn dNeg (dC (.int 1))) dNil)))))))) :: (((dC (.int 1)), (dLst (dCons (dTup (dCons (dC (.int 0)) (dCons (dC (.int 0)) dNil))) (dCons (dTup (dCons (dOp dAdd (dOp dIx (dVar 8) (dC (.int 1))) (dC (.int 1))) (dCons (dOp dIx (dVar 8) (dC (.int 1))) dNil))) (dCons (dTup (dCons (dC (.int 0)) (dCons (dOp dPow (dC (.int 10)) (dC (.int 9))) dNil))) (dCons (dTup (dCons (dC (.int 0)) (dCons (dOp dAdd (dOp dPow (dC (.int 10)) (dC (.int 9))) (dC (.int 1))) dNil))) (dCons (dTup (dCons (dUn dNeg (dC (.int 1))) (dCons (dC (.int 5)) dNil))) dNil))))))) :: []))) (gdName 2))
    (dSeq (dAsg (dOp dAdd (dOp dIx (dVar 2) (dC (.int 1))) (dLst (dCons (dCB bList (dCons (dVar 8) dNil)) (dCons (dTup (dCons (dC .non) (dCons (dC (.int 3)) dNil))) (dCons (dTup (dCons (dC (.str "1")) (dCons (dC (.int 3)) dNil))) (dCons (dTup (dCons (dC (.bl true)) (dCons (dC (.int 3)) dNil))) (dCons (dTup (dCons (dC (.int 0)) (dCons (dC (.bl true)) dNil))) (dCons (dOp dAdd (dVar 8) (dTup (dCons (dC (.int 9)) dNil))) (dCons (dTup (dCons (dOp dIx (dVar 8) (dC (.int 0))) dNil)) (dCons (dTup (dCons (dC (.bl false)) (dCons (dOp dPow (dC (.int 10)) (dC (.int 9))) dNil))) (dCons (dTup (dCons (dC (.int 0)) (dCons (dC .non) dNil))) dNil))))))))))) (gdSub (dVar 2) (dC (.int 1))))
    (dSeq (dAsg (dLst (dCons (dTup (dCons (dC (.bl true)) (dCons (dC (.int 5)) dNil))) (dCons (dTup (dCons (dC .non) (dCons (dC (.int 5)) dNil))) (dCons (dTup (dCons (dC (.str "0")) (dCons (dC (.int 5)) dNil))) (dCons (dTup (dCons (dC (.int 0)) (dCons (dC (.bl true)) dNil))) (dCons (dTup (dCons (dOp dIx (dVar 9) (dC (.int 0))) (dCons (dC .non) dNil))) (dCons (dTup (dCons (dC (.bl false)) (dCons (dC (.int 1)) dNil))) (dCons (dTup (dCons (dOp dIx (dVar 9) (dC (.int 0))) (dCons (dC (.str "1")) dNil))) (dCons (dTup (dCons (dOp dIx (dVar 9) (dC (.int 0))) dNil)) dNil))))))))) (gdSub (dVar 2) (dC (.int 2))))
    (dSeq (dAsg (dOp dAdd (dOp dIx (dVar 2) (dC (.int 2))) (dLst (dCons (dTup (dCons (dOp dIx (dVar 9) (dC (.int 0))) (dCons (dC (.int 0)) dNil))) (dCons (dTup (dCons (dOp dPow (dC (.int 10)) (dC (.int 12))) (dCons (dOp dPow (dC (.int 10)) (dC (.int 9))) dNil))) (dCons (dTup (dCons (dOp dAdd (dOp dPow (dC (.int 10)) (dC (.int 12))) (dC (.int 1))) (dCons (dC (.int 1)) dNil))) (dCons (dTup (dCons (dUn dNeg (dC (.int 1))) (dCons (dC (.int 1)) dNil))) (dCons (dTup (dCons (dOp dIx (dVar 9) (dC (.int 0))) (dCons (dOp dAdd (dOp dPow (dC (.int 10)) (dC (.int 9))) (dC (.int 1))) dNil))) (dCons (dOp dAdd (dVar 9) (dTup (dCons (dC (.int 1)) dNil))) (dCons (dCB bList (dCons (dVar 9) dNil)) dNil))))))))) (gdSub (dVar 2) (dC (.int 2))))
    (dSeq (dAsg (dLst (dCons (dC (.int 0)) (dCons (dC (.int 1)) (dCons (dC (.int 2)) (dCons (dC (.int 3)) (dCons (dC (.int 4)) (dCons (dC (.int 5)) (dCons (dC (.bl true)) dNil)))))))) (gdSub (dVar 2) (dC (.int 3))))
    (dSeq (dAsg (dLst (dCons (dTup dNil) (dCons (dCB bList (dCons (dVar 11) dNil)) (dCons (dRev (dVar 11)) (dCons (dOp dAdd (dVar 11) (dSl (dVar 11) dNoPart (dPart (dC (.int 1))))) (dCons (dSl (dVar 11) (dPart (dC (.int 1))) dNoPart) (dCons (dC .non) (dCons (dTup (dCons (dC .non) dNil)) dNil)))))))) (gdSub (dVar 2) (dC (.int 4))))
    (dSeq (dIfS (dTest (dOp (kEq true) (dVar 11) (dTup dNil))) (dSeq (dAsg (dCall 2 m_law_draw (dCons (dVar 0) (dCons (dCB (bOne lenD) (dCons (dVar 11) dNil)) dNil))) (gdName 15))
    (dSeq (dAsg (dCall 3 m_law_bent_tie (dCons (dVar 0) (dCons (dOp dIx (dVar 11) (dVar 15)) (dCons (dVar 10) dNil)))) (gdName 4))
    (dSeq (dAsg (dCall 2 m_law_draw (dCons (dVar 0) (dCons (dCB (bOne lenD) (dCons (dVar 11) dNil)) dNil))) (gdName 16))
    (dSeq (dAsg (dOp dAdd (dOp dAdd (dSl (dVar 11) dNoPart (dPart (dVar 15))) (dTup (dCons (dVar 4) dNil))) (dSl (dVar 11) (dPart (dOp dAdd (dVar 15) (dC (.int 1)))) dNoPart)) (gdName 5))
    (dSeq (dAsg (dOp dAdd (dOp dIx (dVar 2) (dC (.int 4))) (dOp dMul (dLst (dCons (dOp dAdd (dOp dAdd (dSl (dVar 5) dNoPart (dPart (dVar 16))) (dTup (dCons (dCall 3 m_law_bent_tie (dCons (dVar 0) (dCons (dOp dIx (dVar 11) (dVar 16)) (dCons (dVar 10) dNil)))) dNil))) (dSl (dVar 5) (dPart (dOp dAdd (dVar 16) (dC (.int 1)))) dNoPart)) dNil)) (dC (.int 2)))) (gdSub (dVar 2) (dC (.int 4))))
    (dAsg (dOp dAdd (dOp dIx (dVar 2) (dC (.int 4))) (dOp dMul (dLst (dCons (dOp dAdd (dOp dAdd (dSl (dVar 11) dNoPart (dPart (dVar 15))) (dTup (dCons (dVar 4) dNil))) (dSl (dVar 11) (dPart (dOp dAdd (dVar 15) (dC (.int 1)))) dNoPart)) (dCons (dOp dAdd (dCB bTup (dCons (dCB kSortT (dCons (dVar 11) dNil)) dNil)) (dTup (dCons (dVar 4) dNil))) dNil))) (dC (.int 3)))) (gdSub (dVar 2) (dC (.int 4))))))))) dNext)
    (dSeq (dAsg (dCall 2 m_law_draw (dCons (dVar 0) (dCons (dCB (bOne lenD) (dCons (dVar 12) dNil)) dNil))) (gdName 3))
    (dSeq (dAsg (dLst (dCons (dTup dNil) (dCons (dOp dMulT (dVar 12) (dC (.int 3))) (dCons (dSl (dOp dMulT (dVar 12) (dC (.int 7))) dNoPart (dPart (dC (.int 7)))) (dCons (dCB bList (dCons (dVar 12) dNil)) (dCons (dRev (dVar 12)) (dCons (dOp dIx (dVar 12) (dC (.int 0))) (dCons (dC .non) dNil)))))))) (gdSub (dVar 2) (dC (.int 5))))
    (dSeq (dAsg (dOp dAdd (dOp dIx (dVar 2) (dC (.int 5))) (dOp dMul (dLst (dCons (dOp dAdd (dOp dAdd (dSl (dVar 12) dNoPart (dPart (dVar 3))) (dTup (dCons (dCall 2 m_law_bent_dish (dCons (dVar 0) (dCons (dOp dIx (dVar 12) (dVar 3)) dNil))) dNil))) (dSl (dVar 12) (dPart (dOp dAdd (dVar 3) (dC (.int 1)))) dNoPart)) dNil)) (dC (.int 4)))) (gdSub (dVar 2) (dC (.int 5))))
    (dSeq (dPar 17 18 (dCons (dCall 2 m_law_pick (dCons (dVar 0) (dCons (dOp dAdd (dOp dIx (dVar 2) (dVar 13)) (dLst (dCons (dVar 14) dNil))) dNil))) (dCons (dCall 2 m_law_draw (dCons (dVar 0) (dCons (dC (.int 6)) dNil))) dNil)))
    (dSeq (dAsg (dOp dAdd (dOp dAdd (dSl (dVar 1) dNoPart (dPart (dVar 13))) (dTup (dCons (dVar 17) dNil))) (dSl (dVar 1) (dPart (dOp dAdd (dVar 13) (dC (.int 1)))) dNoPart)) (gdName 4))
    (dSeq (dAsg (dOp dAdd (dOp dAdd (dSl (dVar 4) dNoPart (dPart (dVar 18))) (dTup (dCons (dCall 2 m_law_pick (dCons (dVar 0) (dCons (dOp dIx (dVar 2) (dVar 18)) dNil))) dNil))) (dSl (dVar 4) (dPart (dOp dAdd (dVar 18) (dC (.int 1)))) dNoPart)) (gdName 5))
    (dSeq (dAsg (dOp dAdd (dOp dAdd (dOp dMul (dLst (dCons (dVar 4) dNil)) (dC (.int 6))) (dOp dMul (dLst (dCons (dVar 5) dNil)) (dC (.int 5)))) (dLst (dCons (dSl (dVar 1) (dPart (dC (.int 1))) dNoPart) (dCons (dOp dAdd (dVar 1) (dTup (dCons (dVar 17) dNil))) (dCons (dCB bList (dCons (dVar 1) dNil)) (dCons (dVar 14) dNil)))))) (gdName 6))
    (dRet (dCall 2 m_law_pick (dCons (dVar 0) (dCons (dVar 6) dNil))))))))))))))))))))
@[irreducible] noncomputable def m_law_bent : DC := hide (runD 19 b_law_bent)
theorem m_law_bent_eq : m_law_bent = runD 19 b_law_bent := by unfold m_law_bent; rw [hide_eq]
theorem m_law_bent_ap {a0 a1 h Q} (w : b_law_bent { nx := fun _ h => Q .non h, rt := Q } [some a0, some a1, none, none, none, none, none, none, none, none, none, none, none, none, none, none, none, none, none] h) : m_law_bent [a0, a1] h Q := by rw [m_law_bent_eq]; exact w
/-- law(_law_script): 0 _law_script 1 _law_bag_here 2 _law_turn 3 _law_share 4 _law_kitchen_here 5 _law_bent_here 6 _law_twice 7 _law_value 8 _law_again 9 _law_one 10 _law_shown 11 _law_due -/
noncomputable def b_law : DS :=
    (dSeq (dAsg (dCall 1 m_law_bag (dCons (dVar 0) dNil)) (gdName 1))
    (dSeq (kFor (diRng1 (dCons (dC (.int 8)) dNil)) (gdName 2) (dSeq (dAsg (dCall 2 m_law_pick (dCons (dVar 1) (dCons (dLst (dCons (dC (.int 1)) (dCons (dC (.int 1)) (dCons (dC (.int 7)) (dCons (dOp dPow (dC (.int 10)) (dC (.int 7))) dNil))))) dNil))) (gdName 3))
    (dSeq (dAsg (dCall 3 m_law_kitchen (dCons (dVar 1) (dCons (dCall 2 m_law_pick (dCons (dVar 1) (dCons (dLst (dCons (dC (.int 1)) (dCons (dC (.int 5)) (dCons (dOp dPow (dC (.int 10)) (dC (.int 9))) dNil)))) dNil))) (dCons (dVar 3) dNil)))) (gdName 4))
    (dSeq (dIfS (dTest (dOp (dIsN true) (dCall 1 m_law_kitchen_word (dCons (dVar 4) dNil)) (dC .non))) (dRet (dC (.bl false))) dNext)
    (dSeq (dAsg (kLc (diRng1 (dCons (dC (.int 6)) dNil)) (gdName 8) dYes (dCall 2 m_law_bent (dCons (dVar 1) (dCons (dVar 4) dNil))) [8]) (gdName 5))
    (dSeq (dAsg (kLc (diSeq (dVar 5)) (gdName 9) (dTest (dOp (dIsN false) (dCall 1 m_law_kitchen_word (dCons (dVar 9) dNil)) (dC .non))) (dCall 2 m_law_bent (dCons (dVar 1) (dCons (dVar 9) dNil))) [9]) (gdName 6))
    (kFor (diSeq (dOp dAdd (dOp dAdd (dOp dAdd (dLst (dCons (dVar 4) dNil)) (dVar 5)) (dVar 6)) (dLst (dCons (dC .non) (dCons (dTup dNil) (dCons (dCall 1 m_law_odd (dCons (dVar 1) dNil)) dNil)))))) (gdName 7) (dSeq (dPar 10 11 (dCons (dCB kReprX (dCons (dVar 7) dNil)) (dCons (dCall 1 m_law_kitchen_word (dCons (dVar 7) dNil)) dNil)))
    (dIfS (dTest (dOp (kEq true) (dCB kReprX (dCons (dLst (dCons (dCall 1 m_kitchen_error (dCons (dVar 7) dNil)) (dCons (dCall 1 m_kitchen_error (dCons (dVar 7) dNil)) (dCons (dCB kReprX (dCons (dVar 7) dNil)) dNil)))) dNil)) (dCB kReprX (dCons (dLst (dCons (dVar 11) (dCons (dVar 11) (dCons (dVar 10) dNil)))) dNil)))) (dRet (dC (.bl false))) dNext)))))))))
    (dRet (dC (.bl true)))))
@[irreducible] noncomputable def m_law : DC := hide (runD 12 b_law)
theorem m_law_eq : m_law = runD 12 b_law := by unfold m_law; rw [hide_eq]
theorem m_law_ap {a0 h Q} (w : b_law { nx := fun _ h => Q .non h, rt := Q } [some a0, none, none, none, none, none, none, none, none, none, none, none] h) : m_law [a0] h Q := by rw [m_law_eq]; exact w
end DL

set_option Elab.async false
set_option linter.all false
set_option maxRecDepth 100000
set_option maxHeartbeats 4000000
namespace DL
open PySem PySem.Spec PyProof.Rows L2
def top (i : Nat) : Stmt := PySem.Challenge.pw_ovensuntold_k01_kitchens_judged.main.body.getD i (.Pass ⟨0, 0, 0, 0⟩)
abbrev s_less : Stmt := top 8
abbrev s_plus : Stmt := top 9
abbrev s_own_gaps : Stmt := top 10
abbrev s_gaps : Stmt := top 11
abbrev s_is_torn : Stmt := top 12
abbrev s_is_integer : Stmt := top 14
abbrev s_is_tuple : Stmt := top 15
abbrev s_is_pair_of : Stmt := top 16
abbrev s_is_room : Stmt := top 18
abbrev s_is_tie : Stmt := top 19
abbrev s_ties_error : Stmt := top 20
abbrev s_dishes_error : Stmt := top 21
abbrev s_kitchen_error : Stmt := top 22
abbrev s_law_bag : Stmt := top 24
abbrev s_law_draw : Stmt := top 25
abbrev s_law_pick : Stmt := top 26
abbrev s_law_odd : Stmt := top 27
abbrev s_law_is_whole : Stmt := top 28
abbrev s_law_is_pair : Stmt := top 29
abbrev s_law_ups : Stmt := top 30
abbrev s_law_is_torn : Stmt := top 31
abbrev s_law_ties : Stmt := top 32
abbrev s_law_kitchen : Stmt := top 33
abbrev s_law_ties_word : Stmt := top 34
abbrev s_law_kitchen_word : Stmt := top 35
abbrev s_law_bent_tie : Stmt := top 36
abbrev s_law_bent_dish : Stmt := top 37
abbrev s_law_bent : Stmt := top 38
abbrev s_law : Stmt := top 39
structure Facts (K : PySem.W.Frag) (mg : Str → Option Value) : Prop where
  n_abs : mg "abs" = none
  n_all : mg "all" = none
  n_any : mg "any" = none
  n_bool : mg "bool" = none
  n_enumerate : mg "enumerate" = none
  n_int : mg "int" = none
  n_isinstance : mg "isinstance" = none
  n_len : mg "len" = none
  n_list : mg "list" = none
  n_min : mg "min" = none
  n_range : mg "range" = none
  n_repr : mg "repr" = none
  n_set : mg "set" = none
  n_sorted : mg "sorted" = none
  n_tuple : mg "tuple" = none
  c_MAX_DIALS : ∃ t, mg "MAX_DIALS" = some (.int 1000000000 t)
  c_MAX_DISHES : ∃ t, mg "MAX_DISHES" = some (.int 6 t)
  c_MAX_HEAT : ∃ t, mg "MAX_HEAT" = some (.int 1000000000000 t)
  c_MAX_OVENS : ∃ t, mg "MAX_OVENS" = some (.int 4 t)
  c_MAX_SLOPE : ∃ t, mg "MAX_SLOPE" = some (.int 1000000000 t)
  c_MAX_TIES : ∃ t, mg "MAX_TIES" = some (.int 6 t)
  c_MAX_WARMTH : ∃ t, mg "MAX_WARMTH" = some (.int 1000000000000000000000000 t)
section
variable {P : Program} {w : World} {K : PySem.W.Frag} {mg : Str → Option Value} {base : Heap}
theorem sc_less : FnScope ["one", "other"] ["one", "other"] (defScope s_less) := ⟨rfl, rfl, rfl, by decide +kernel, rfl, by decide +kernel, by decide +kernel⟩
theorem ok_less (T : Facts K mg) {a : Addr} {fd : FuncData} (F : Fun K "less" "less" s_less a fd) (hm : mg "less" = some (.ref a))  : Known P w K mg base "less" 1 2 m_less := by
  have S := sc_less
  rw [m_less_eq]
  refine known_of F hm (okD F S rfl rfl fun cdv A outer s H E hr => ?_) (F.binds (ps := ["one", "other"]) fun _ _ _ _ _ _ us hl => match us, hl with | [_, _], _ => rfl)
  have hu := hr.hu
  have hu1 := hr.hu1
  have hu5 := hr.hu5
  exact ⟨_, (xss_cons (xs_if (xwor (xtcmp q_is (xv 0) xnon) (xwor1 (xtcmp q_is (xv 1) xnon))).toT (xss_one (xs_ret (xif (xtcmp q_is (xv 0) xnon) (xv 1) (xv 0)))) xss_nil)
    (xss_one (xs_ret (xcallB (q_min rfl) T.n_min (xcons (xv 0) (xcons (xv 1) xnil))))))⟩
theorem sc_plus : FnScope ["one", "other"] ["one", "other"] (defScope s_plus) := ⟨rfl, rfl, rfl, by decide +kernel, rfl, by decide +kernel, by decide +kernel⟩
theorem ok_plus (T : Facts K mg) {a : Addr} {fd : FuncData} (F : Fun K "plus" "plus" s_plus a fd) (hm : mg "plus" = some (.ref a))  : Known P w K mg base "plus" 1 2 m_plus := by
  have S := sc_plus
  rw [m_plus_eq]
  refine known_of F hm (okD F S rfl rfl fun cdv A outer s H E hr => ?_) (F.binds (ps := ["one", "other"]) fun _ _ _ _ _ _ us hl => match us, hl with | [_, _], _ => rfl)
  have hu := hr.hu
  have hu1 := hr.hu1
  have hu5 := hr.hu5
  exact ⟨_, (xss_one (xs_ret (xif (xwor (xtcmp q_is (xv 0) xnon) (xwor1 (xtcmp q_is (xv 1) xnon))).toT xnon (xop q_add (xv 0) (xv 1)))))⟩
theorem sc_own_gaps : FnScope ["ovens", "ties", "found", "one", "other", "low", "high"] ["ovens", "ties"] (defScope s_own_gaps) := ⟨rfl, rfl, rfl, by decide +kernel, rfl, by decide +kernel, by decide +kernel⟩
theorem ok_own_gaps (T : Facts K mg) {a : Addr} {fd : FuncData} (F : Fun K "own_gaps" "own_gaps" s_own_gaps a fd) (hm : mg "own_gaps" = some (.ref a)) (G_less : Known P w K mg base "less" 1 2 m_less) : Known P w K mg base "own_gaps" 2 2 m_own_gaps := by
  have S := sc_own_gaps
  rw [m_own_gaps_eq]
  refine known_of F hm (okD F S rfl rfl fun cdv A outer s H E hr => ?_) (F.binds (ps := ["ovens", "ties"]) fun _ _ _ _ _ _ us hl => match us, hl with | [_, _], _ => rfl)
  have hu := hr.hu
  have hu1 := hr.hu1
  have hu5 := hr.hu5
  exact ⟨_, (xss_cons (xs_ksetLc (i := 2) (own := [("one", 3)]) rfl S.nd (xi_rng1 T.n_range (xcons (xv 0) xnil)) (blkOk_by (N := ["ovens", "ties", "found", "one", "other", "low", "high"]) (sc := defScope s_own_gaps) (own := [("one", 3)]) (by decide +kernel)) (fun _ _ _ _ _ => (xg_name (i := 3) S.nd)) (own_name (by decide)) (by intro _ _ _ _ _; exact xts_nil) (by intro _ _ _ _ _; exact (xklc (own := [("other", 4)]) rfl S.nd (xi_rng1 T.n_range (xcons (xv 0) xnil)) (blkOk_in (N := ["ovens", "ties", "found", "one", "other", "low", "high"]) (own := [("other", 4)]) (by decide +kernel)) (fun _ _ _ _ _ => (xg_name (i := 4) S.nd)) (own_name (by decide)) (by intro _ _ _ _ _; exact xts_nil) (by intro _ _ _ _ _; exact (xif (xtcmp (qk_eq hu) (xv 3) (xv 4)) xint xnon)))))
    (xss_cons (xs_kfor PassesOwn.never rfl (xi_seq (xv 1)) (xg_tup rfl (xgs_cons (xg_name (i := 3) S.nd) (xgs_cons (xg_name (i := 4) S.nd) (xgs_cons (xg_name (i := 5) S.nd) (xgs_cons (xg_name (i := 6) S.nd) xgs_nil))))) (xss_cons (xs_asg (xkn G_less (hr.mono (by decide)) (xcons (xix hu1 (xix hu1 (xv 2) (xv 3)) (xv 4)) (xcons (xv 6) xnil))) (xg_sub hu1 (xix hu1 (xv 2) (xv 3)) (xv 4)))
    (xss_one (xs_asg (xkn G_less (hr.mono (by decide)) (xcons (xix hu1 (xix hu1 (xv 2) (xv 4)) (xv 3)) (xcons (xun q_neg (xv 5)) xnil))) (xg_sub hu1 (xix hu1 (xv 2) (xv 4)) (xv 3))))))
    (xss_one (xs_ret (xv 2)))))⟩
theorem sc_gaps : FnScope ["ovens", "ties", "found", "middle", "one", "other", "through"] ["ovens", "ties"] (defScope s_gaps) := ⟨rfl, rfl, rfl, by decide +kernel, rfl, by decide +kernel, by decide +kernel⟩
theorem ok_gaps (T : Facts K mg) {a : Addr} {fd : FuncData} (F : Fun K "gaps" "gaps" s_gaps a fd) (hm : mg "gaps" = some (.ref a)) (G_own_gaps : Known P w K mg base "own_gaps" 2 2 m_own_gaps) (G_plus : Known P w K mg base "plus" 1 2 m_plus) (G_less : Known P w K mg base "less" 1 2 m_less) : Known P w K mg base "gaps" 3 2 m_gaps := by
  have S := sc_gaps
  rw [m_gaps_eq]
  refine known_of F hm (okD F S rfl rfl fun cdv A outer s H E hr => ?_) (F.binds (ps := ["ovens", "ties"]) fun _ _ _ _ _ _ us hl => match us, hl with | [_, _], _ => rfl)
  have hu := hr.hu
  have hu1 := hr.hu1
  have hu5 := hr.hu5
  exact ⟨_, (xss_cons (xs_set (i := 2) S.nd (xkn G_own_gaps (hr.mono (by decide)) (xcons (xv 0) (xcons (xv 1) xnil))))
    (xss_cons (xs_kfor PassesOwn.never rfl (xi_rng1 T.n_range (xcons (xv 0) xnil)) (xg_name (i := 3) S.nd) (xss_one (xs_kfor PassesOwn.never rfl (xi_rng1 T.n_range (xcons (xv 0) xnil)) (xg_name (i := 4) S.nd) (xss_one (xs_kfor PassesOwn.never rfl (xi_rng1 T.n_range (xcons (xv 0) xnil)) (xg_name (i := 5) S.nd) (xss_cons (xs_set (i := 6) S.nd (xkn G_plus (hr.mono (by decide)) (xcons (xix hu1 (xix hu1 (xv 2) (xv 4)) (xv 3)) (xcons (xix hu1 (xix hu1 (xv 2) (xv 3)) (xv 5)) xnil))))
    (xss_one (xs_asg (xkn G_less (hr.mono (by decide)) (xcons (xix hu1 (xix hu1 (xv 2) (xv 4)) (xv 5)) (xcons (xv 6) xnil))) (xg_sub hu1 (xix hu1 (xv 2) (xv 4)) (xv 5))))))))))
    (xss_one (xs_ret (xv 2)))))⟩
theorem sc_is_torn : FnScope ["ovens", "ties", "found", "oven"] ["ovens", "ties"] (defScope s_is_torn) := ⟨rfl, rfl, rfl, by decide +kernel, rfl, by decide +kernel, by decide +kernel⟩
theorem ok_is_torn (T : Facts K mg) {a : Addr} {fd : FuncData} (F : Fun K "is_torn" "is_torn" s_is_torn a fd) (hm : mg "is_torn" = some (.ref a)) (G_gaps : Known P w K mg base "gaps" 3 2 m_gaps) : Known P w K mg base "is_torn" 4 2 m_is_torn := by
  have S := sc_is_torn
  rw [m_is_torn_eq]
  refine known_of F hm (okD F S rfl rfl fun cdv A outer s H E hr => ?_) (F.binds (ps := ["ovens", "ties"]) fun _ _ _ _ _ _ us hl => match us, hl with | [_, _], _ => rfl)
  have hu := hr.hu
  have hu1 := hr.hu1
  have hu5 := hr.hu5
  exact ⟨_, (xss_cons (xs_set (i := 2) S.nd (xkn G_gaps (hr.mono (by decide)) (xcons (xv 0) (xcons (xv 1) xnil))))
    (xss_one (xs_ret (xcallB (q_any rfl) T.n_any (xcons (xklc (own := [("oven", 3)]) rfl S.nd (xi_rng1 T.n_range (xcons (xv 0) xnil)) (blkOk_by (N := ["ovens", "ties", "found", "oven"]) (sc := defScope s_is_torn) (own := [("oven", 3)]) (by decide +kernel)) (fun _ _ _ _ _ => (xg_name (i := 3) S.nd)) (own_name (by decide)) (by intro _ _ _ _ _; exact xts_nil) (by intro _ _ _ _ _; exact (xcmp q_lt (xix hu1 (xix hu1 (xv 2) (xv 3)) (xv 3)) xint))) xnil)))))⟩
theorem sc_is_integer : FnScope ["value", "low", "high"] ["value", "low", "high"] (defScope s_is_integer) := ⟨rfl, rfl, rfl, by decide +kernel, rfl, by decide +kernel, by decide +kernel⟩
theorem ok_is_integer (T : Facts K mg) {a : Addr} {fd : FuncData} (F : Fun K "is_integer" "is_integer" s_is_integer a fd) (hm : mg "is_integer" = some (.ref a))  : Known P w K mg base "is_integer" 1 3 m_is_integer := by
  have S := sc_is_integer
  rw [m_is_integer_eq]
  refine known_of F hm (okD F S rfl rfl fun cdv A outer s H E hr => ?_) (F.binds (ps := ["value", "low", "high"]) fun _ _ _ _ _ _ us hl => match us, hl with | [_, _, _], _ => rfl)
  have hu := hr.hu
  have hu1 := hr.hu1
  have hu5 := hr.hu5
  exact ⟨_, (xss_one (xs_ret (xand (xcallB q_isi T.n_isinstance (xcons (xv 0) (xcons (xtype T.n_int (by decide +kernel)) xnil))) (xand (xnot (xcallB q_isi T.n_isinstance (xcons (xv 0) (xcons (xtype T.n_bool (by decide +kernel)) xnil)))) (xone (xchain q_le q_le (xv 1) (xv 0) (xv 2)))))))⟩
theorem sc_is_tuple : FnScope ["value", "many"] ["value", "many"] (defScope s_is_tuple) := ⟨rfl, rfl, rfl, by decide +kernel, rfl, by decide +kernel, by decide +kernel⟩
theorem ok_is_tuple (T : Facts K mg) {a : Addr} {fd : FuncData} (F : Fun K "is_tuple" "is_tuple" s_is_tuple a fd) (hm : mg "is_tuple" = some (.ref a))  : Known P w K mg base "is_tuple" 1 2 m_is_tuple := by
  have S := sc_is_tuple
  rw [m_is_tuple_eq]
  refine known_of F hm (okD F S rfl rfl fun cdv A outer s H E hr => ?_) (F.binds (ps := ["value", "many"]) fun _ _ _ _ _ _ us hl => match us, hl with | [_, _], _ => rfl)
  have hu := hr.hu
  have hu1 := hr.hu1
  have hu5 := hr.hu5
  exact ⟨_, (xss_one (xs_ret (xand (xcallB q_isi T.n_isinstance (xcons (xv 0) (xcons (xtype T.n_tuple (by decide +kernel)) xnil))) (xone (xcmp (qk_eq hu) (xcallB q_len T.n_len (xcons (xv 0) xnil)) (xv 1))))))⟩
theorem sc_is_pair_of : FnScope ["value", "low", "high", "part"] ["value", "low", "high"] (defScope s_is_pair_of) := ⟨rfl, rfl, rfl, by decide +kernel, rfl, by decide +kernel, by decide +kernel⟩
theorem ok_is_pair_of (T : Facts K mg) {a : Addr} {fd : FuncData} (F : Fun K "is_pair_of" "is_pair_of" s_is_pair_of a fd) (hm : mg "is_pair_of" = some (.ref a)) (G_is_tuple : Known P w K mg base "is_tuple" 1 2 m_is_tuple) (G_is_integer : Known P w K mg base "is_integer" 1 3 m_is_integer) : Known P w K mg base "is_pair_of" 2 3 m_is_pair_of := by
  have S := sc_is_pair_of
  rw [m_is_pair_of_eq]
  refine known_of F hm (okD F S rfl rfl fun cdv A outer s H E hr => ?_) (F.binds (ps := ["value", "low", "high"]) fun _ _ _ _ _ _ us hl => match us, hl with | [_, _, _], _ => rfl)
  have hu := hr.hu
  have hu1 := hr.hu1
  have hu5 := hr.hu5
  exact ⟨_, (xss_one (xs_ret (xand (xkn G_is_tuple (hr.mono (by decide)) (xcons (xv 0) (xcons xint xnil))) (xand (xcallB (q_all rfl) T.n_all (xcons (xklc (own := [("part", 3)]) rfl S.nd (xi_seq (xv 0)) (blkOk_by (N := ["value", "low", "high", "part"]) (sc := defScope s_is_pair_of) (own := [("part", 3)]) (by decide +kernel)) (fun _ _ _ _ _ => (xg_name (i := 3) S.nd)) (own_name (by decide)) (by intro _ _ _ _ _; exact xts_nil) (by intro _ _ _ _ _; exact (xkn G_is_integer (hr.mono (by decide)) (xcons (xv 3) (xcons (xv 1) (xcons (xv 2) xnil)))))) xnil)) (xone (xcmp q_le (xix hu1 (xv 0) xint) (xix hu1 (xv 0) xint)))))))⟩
theorem sc_is_room : FnScope ["value"] ["value"] (defScope s_is_room) := ⟨rfl, rfl, rfl, by decide +kernel, rfl, by decide +kernel, by decide +kernel⟩
theorem ok_is_room (T : Facts K mg) {a : Addr} {fd : FuncData} (F : Fun K "is_room" "is_room" s_is_room a fd) (hm : mg "is_room" = some (.ref a)) (G_is_tuple : Known P w K mg base "is_tuple" 1 2 m_is_tuple) (G_is_integer : Known P w K mg base "is_integer" 1 3 m_is_integer) : Known P w K mg base "is_room" 2 1 m_is_room := by
  have S := sc_is_room
  rw [m_is_room_eq]
  refine known_of F hm (okD F S rfl rfl fun cdv A outer s H E hr => ?_) (F.binds (ps := ["value"]) fun _ _ _ _ _ _ us hl => match us, hl with | [_], _ => rfl)
  have hu := hr.hu
  have hu1 := hr.hu1
  have hu5 := hr.hu5
  exact ⟨_, (xss_one (xs_ret (xand (xkn G_is_tuple (hr.mono (by decide)) (xcons (xv 0) (xcons xint xnil))) (xand (xkn G_is_integer (hr.mono (by decide)) (xcons (xix hu1 (xv 0) xint) (xcons xint (xcons (xgi T.c_MAX_HEAT) xnil)))) (xone (xkn G_is_integer (hr.mono (by decide)) (xcons (xix hu1 (xv 0) xint) (xcons xint (xcons (xgi T.c_MAX_SLOPE) xnil)))))))))⟩
theorem sc_is_tie : FnScope ["value", "ovens", "oven"] ["value", "ovens"] (defScope s_is_tie) := ⟨rfl, rfl, rfl, by decide +kernel, rfl, by decide +kernel, by decide +kernel⟩
theorem ok_is_tie (T : Facts K mg) {a : Addr} {fd : FuncData} (F : Fun K "is_tie" "is_tie" s_is_tie a fd) (hm : mg "is_tie" = some (.ref a)) (G_is_tuple : Known P w K mg base "is_tuple" 1 2 m_is_tuple) (G_is_integer : Known P w K mg base "is_integer" 1 3 m_is_integer) (G_is_pair_of : Known P w K mg base "is_pair_of" 2 3 m_is_pair_of) : Known P w K mg base "is_tie" 3 2 m_is_tie := by
  have S := sc_is_tie
  rw [m_is_tie_eq]
  refine known_of F hm (okD F S rfl rfl fun cdv A outer s H E hr => ?_) (F.binds (ps := ["value", "ovens"]) fun _ _ _ _ _ _ us hl => match us, hl with | [_, _], _ => rfl)
  have hu := hr.hu
  have hu1 := hr.hu1
  have hu5 := hr.hu5
  exact ⟨_, (xss_cons (xs_if (xwor (xtnot (xtval (xkn G_is_tuple (hr.mono (by decide)) (xcons (xv 0) (xcons xint xnil))))) (xwor1 (xtnot (xtval (xcallB (q_all rfl) T.n_all (xcons (xklc (own := [("oven", 2)]) rfl S.nd (xi_seq (xsl (xv 0) xo_none (xo_some xint))) (blkOk_by (N := ["value", "ovens", "oven"]) (sc := defScope s_is_tie) (own := [("oven", 2)]) (by decide +kernel)) (fun _ _ _ _ _ => (xg_name (i := 2) S.nd)) (own_name (by decide)) (by intro _ _ _ _ _; exact xts_nil) (by intro _ _ _ _ _; exact (xkn G_is_integer (hr.mono (by decide)) (xcons (xv 2) (xcons xint (xcons (xop q_sub (xv 1) xint) xnil)))))) xnil)))))).toT (xss_one (xs_ret xbl)) xss_nil)
    (xss_one (xs_ret (xand (xcmp (qk_ne hu) (xix hu1 (xv 0) xint) (xix hu1 (xv 0) xint)) (xone (xkn G_is_pair_of (hr.mono (by decide)) (xcons (xsl (xv 0) (xo_some xint) xo_none) (xcons (xun q_neg (xgi T.c_MAX_HEAT)) (xcons (xgi T.c_MAX_HEAT) xnil)))))))))⟩
theorem sc_ties_error : FnScope ["ovens", "value", "number", "tie"] ["ovens", "value"] (defScope s_ties_error) := ⟨rfl, rfl, rfl, by decide +kernel, rfl, by decide +kernel, by decide +kernel⟩
theorem ok_ties_error (T : Facts K mg) {a : Addr} {fd : FuncData} (F : Fun K "ties_error" "ties_error" s_ties_error a fd) (hm : mg "ties_error" = some (.ref a)) (G_is_tie : Known P w K mg base "is_tie" 3 2 m_is_tie) : Known P w K mg base "ties_error" 4 2 m_ties_error := by
  have S := sc_ties_error
  rw [m_ties_error_eq]
  refine known_of F hm (okD F S rfl rfl fun cdv A outer s H E hr => ?_) (F.binds (ps := ["ovens", "value"]) fun _ _ _ _ _ _ us hl => match us, hl with | [_, _], _ => rfl)
  have hu := hr.hu
  have hu1 := hr.hu1
  have hu5 := hr.hu5
  exact ⟨_, (xss_cons (xs_if (xwor (xtnot (xtval (xcallB q_isi T.n_isinstance (xcons (xv 1) (xcons (xtype T.n_tuple (by decide +kernel)) xnil))))) (xwor1 (xtcmp q_gt (xcallB q_len T.n_len (xcons (xv 1) xnil)) (xgi T.c_MAX_TIES)))).toT (xss_one (xs_ret (xtup (xcons xnon (xcons xstr xnil))))) xss_nil)
    (xss_cons (xs_kfor PassesOwn.never rfl (xi_enum T.n_enumerate (xcons (xv 1) xnil)) (xg_tup rfl (xgs_cons (xg_name (i := 2) S.nd) (xgs_cons (xg_name (i := 3) S.nd) xgs_nil))) (xss_cons (xs_if (xtnot (xtval (xkn G_is_tie (hr.mono (by decide)) (xcons (xv 3) (xcons (xv 0) xnil))))) (xss_one (xs_ret (xtup (xcons (xv 2) (xcons xstr xnil))))) xss_nil)
    (xss_one (xs_if (xwand (xtcmp q_gt (xv 2) xint) (xwand1 (xtcmp (q_leT hu) (xv 3) (xix hu1 (xv 1) (xop q_sub (xv 2) xint))))).toT (xss_one (xs_ret (xtup (xcons (xv 2) (xcons xstr xnil))))) xss_nil))))
    (xss_one (xs_ret xnon))))⟩
theorem sc_dishes_error : FnScope ["value", "number", "dish"] ["value"] (defScope s_dishes_error) := ⟨rfl, rfl, rfl, by decide +kernel, rfl, by decide +kernel, by decide +kernel⟩
theorem ok_dishes_error (T : Facts K mg) {a : Addr} {fd : FuncData} (F : Fun K "dishes_error" "dishes_error" s_dishes_error a fd) (hm : mg "dishes_error" = some (.ref a)) (G_is_pair_of : Known P w K mg base "is_pair_of" 2 3 m_is_pair_of) : Known P w K mg base "dishes_error" 3 1 m_dishes_error := by
  have S := sc_dishes_error
  rw [m_dishes_error_eq]
  refine known_of F hm (okD F S rfl rfl fun cdv A outer s H E hr => ?_) (F.binds (ps := ["value"]) fun _ _ _ _ _ _ us hl => match us, hl with | [_], _ => rfl)
  have hu := hr.hu
  have hu1 := hr.hu1
  have hu5 := hr.hu5
  exact ⟨_, (xss_cons (xs_if (xwor (xtnot (xtval (xcallB q_isi T.n_isinstance (xcons (xv 0) (xcons (xtype T.n_tuple (by decide +kernel)) xnil))))) (xwor1 (xtnot (xtchain q_le q_le xint (xcallB q_len T.n_len (xcons (xv 0) xnil)) (xgi T.c_MAX_DISHES))))).toT (xss_one (xs_ret (xtup (xcons xnon (xcons xstr xnil))))) xss_nil)
    (xss_cons (xs_kfor PassesOwn.never rfl (xi_enum T.n_enumerate (xcons (xv 0) xnil)) (xg_tup rfl (xgs_cons (xg_name (i := 1) S.nd) (xgs_cons (xg_name (i := 2) S.nd) xgs_nil))) (xss_one (xs_if (xtnot (xtval (xkn G_is_pair_of (hr.mono (by decide)) (xcons (xv 2) (xcons xint (xcons (xgi T.c_MAX_WARMTH) xnil)))))) (xss_one (xs_ret (xtup (xcons (xv 1) (xcons xstr xnil))))) xss_nil)))
    (xss_one (xs_ret xnon))))⟩
theorem sc_kitchen_error : FnScope ["value", "error", "dials", "slopes", "room", "ovens", "ties", "dishes"] ["value"] (defScope s_kitchen_error) := ⟨rfl, rfl, rfl, by decide +kernel, rfl, by decide +kernel, by decide +kernel⟩
theorem ok_kitchen_error (T : Facts K mg) {a : Addr} {fd : FuncData} (F : Fun K "kitchen_error" "kitchen_error" s_kitchen_error a fd) (hm : mg "kitchen_error" = some (.ref a)) (G_is_tuple : Known P w K mg base "is_tuple" 1 2 m_is_tuple) (G_is_integer : Known P w K mg base "is_integer" 1 3 m_is_integer) (G_is_pair_of : Known P w K mg base "is_pair_of" 2 3 m_is_pair_of) (G_is_room : Known P w K mg base "is_room" 2 1 m_is_room) (G_ties_error : Known P w K mg base "ties_error" 4 2 m_ties_error) (G_dishes_error : Known P w K mg base "dishes_error" 3 1 m_dishes_error) (G_is_torn : Known P w K mg base "is_torn" 4 2 m_is_torn) : Known P w K mg base "kitchen_error" 5 1 m_kitchen_error := by
  have S := sc_kitchen_error
  rw [m_kitchen_error_eq]
  refine known_of F hm (okD F S rfl rfl fun cdv A outer s H E hr => ?_) (F.binds (ps := ["value"]) fun _ _ _ _ _ _ us hl => match us, hl with | [_], _ => rfl)
  have hu := hr.hu
  have hu1 := hr.hu1
  have hu5 := hr.hu5
  exact ⟨_, (xss_cons (xs_if (xtnot (xtval (xkn G_is_tuple (hr.mono (by decide)) (xcons (xv 0) (xcons xint xnil))))) (xss_one (xs_ret (xtup (xcons xnon (xcons xstr xnil))))) xss_nil)
    (xss_cons (xs_asg (xv 0) (xg_tup rfl (xgs_cons (xg_name (i := 2) S.nd) (xgs_cons (xg_name (i := 3) S.nd) (xgs_cons (xg_name (i := 4) S.nd) (xgs_cons (xg_name (i := 5) S.nd) (xgs_cons (xg_name (i := 6) S.nd) (xgs_cons (xg_name (i := 7) S.nd) xgs_nil))))))))
    (xss_cons (xs_if (xtnot (xtval (xkn G_is_integer (hr.mono (by decide)) (xcons (xv 2) (xcons xint (xcons (xgi T.c_MAX_DIALS) xnil)))))) (xss_one (xs_ret (xtup (xcons xnon (xcons xstr xnil))))) xss_nil)
    (xss_cons (xs_if (xtnot (xtval (xkn G_is_pair_of (hr.mono (by decide)) (xcons (xv 3) (xcons xint (xcons (xgi T.c_MAX_SLOPE) xnil)))))) (xss_one (xs_ret (xtup (xcons xnon (xcons xstr xnil))))) xss_nil)
    (xss_cons (xs_if (xtnot (xtval (xkn G_is_room (hr.mono (by decide)) (xcons (xv 4) xnil)))) (xss_one (xs_ret (xtup (xcons xnon (xcons xstr xnil))))) xss_nil)
    (xss_cons (xs_if (xtnot (xtval (xkn G_is_integer (hr.mono (by decide)) (xcons (xv 5) (xcons xint (xcons (xgi T.c_MAX_OVENS) xnil)))))) (xss_one (xs_ret (xtup (xcons xnon (xcons xstr xnil))))) xss_nil)
    (xss_cons (xs_set (i := 1) S.nd (xkn G_ties_error (hr.mono (by decide)) (xcons (xv 5) (xcons (xv 6) xnil))))
    (xss_cons (xs_if (xtcmp q_is (xv 1) xnon) (xss_one (xs_set (i := 1) S.nd (xkn G_dishes_error (hr.mono (by decide)) (xcons (xv 7) xnil)))) xss_nil)
    (xss_cons (xs_if (xwand (xtcmp q_is (xv 1) xnon) (xwand1 (xtval (xkn G_is_torn (hr.mono (by decide)) (xcons (xv 5) (xcons (xv 6) xnil)))))).toT (xss_one (xs_set (i := 1) S.nd (xtup (xcons xnon (xcons xstr xnil))))) xss_nil)
    (xss_one (xs_ret (xv 1))))))))))))⟩
theorem sc_law_bag : FnScope ["_law_script", "_law_cell", "_law_great", "_law_small"] ["_law_script"] (defScope s_law_bag) := ⟨rfl, rfl, rfl, by decide +kernel, rfl, by decide +kernel, by decide +kernel⟩
theorem ok_law_bag (T : Facts K mg) {a : Addr} {fd : FuncData} (F : Fun K "_law_bag" "_law_bag" s_law_bag a fd) (hm : mg "_law_bag" = some (.ref a))  : Known P w K mg base "_law_bag" 1 1 m_law_bag := by
  have S := sc_law_bag
  rw [m_law_bag_eq]
  refine known_of F hm (okD F S rfl rfl fun cdv A outer s H E hr => ?_) (F.binds (ps := ["_law_script"]) fun _ _ _ _ _ _ us hl => match us, hl with | [_], _ => rfl)
  have hu := hr.hu
  have hu1 := hr.hu1
  have hu5 := hr.hu5
  exact ⟨_, (xss_cons (xs_par (i := 2) (j := 3) rfl S.nd (xcons xint (xcons (xop q_add xint (xop q_mul xint (xcallB q_len T.n_len (xcons (xv 0) xnil)))) xnil)) (by decide))
    (xss_cons (xs_kfor PassesOwn.never rfl (xi_seq (xsl (xv 0) xo_none (xo_some xint))) (xg_name (i := 1) S.nd) (xss_one (xs_if (xtcmp q_ge (xv 1) (xop q_pow xint xint)) (xss_one (xs_set (i := 2) S.nd (xop q_sub (xop q_add (xop q_mul (xv 2) xint) (xv 1)) (xop q_pow xint xint)))) (xss_cons (xs_set (i := 3) S.nd (xop q_add (xop q_add (xop q_mul (xv 3) xint) (xop q_mul xint (xcallB q_abs T.n_abs (xcons (xv 1) xnil)))) (xcallT q_int T.n_int (xcons (xcmp q_lt (xv 1) xint) xnil))))
    (xss_one (xs_set (i := 3) S.nd (xop q_mod (xcallT q_int T.n_int (xcons (xv 3) xnil)) xint)))))))
    (xss_one (xs_ret (xlst (xcons (xv 2) (xcons (xv 3) (xcons xint xnil))))))))⟩
theorem sc_law_draw : FnScope ["_law_bag_here", "_law_limit", "_law_mixed", "_law_digit"] ["_law_bag_here", "_law_limit"] (defScope s_law_draw) := ⟨rfl, rfl, rfl, by decide +kernel, rfl, by decide +kernel, by decide +kernel⟩
theorem ok_law_draw (T : Facts K mg) {a : Addr} {fd : FuncData} (F : Fun K "_law_draw" "_law_draw" s_law_draw a fd) (hm : mg "_law_draw" = some (.ref a))  : Known P w K mg base "_law_draw" 1 2 m_law_draw := by
  have S := sc_law_draw
  rw [m_law_draw_eq]
  refine known_of F hm (okD F S rfl rfl fun cdv A outer s H E hr => ?_) (F.binds (ps := ["_law_bag_here", "_law_limit"]) fun _ _ _ _ _ _ us hl => match us, hl with | [_, _], _ => rfl)
  have hu := hr.hu
  have hu1 := hr.hu1
  have hu5 := hr.hu5
  exact ⟨_, (xss_cons (xs_if (xtcmp q_gt (xix hu1 (xv 0) xint) xint) (xss_cons (xs_set (i := 3) S.nd (xop q_mod (xcallT q_int T.n_int (xcons (xix hu1 (xv 0) xint) xnil)) (xv 1)))
    (xss_cons (xs_asg (xop q_fdiv (xix hu1 (xv 0) xint) (xv 1)) (xg_sub hu1 (xv 0) xint))
    (xss_one (xs_ret (xv 3))))) xss_nil)
    (xss_cons (xs_asg (xop q_add (xix hu1 (xv 0) xint) xint) (xg_sub hu1 (xv 0) xint))
    (xss_cons (xs_set (i := 2) S.nd (xop q_add (xop q_mul (xix hu1 (xv 0) xint) xint) (xop q_mul xint (xix hu1 (xv 0) xint))))
    (xss_cons (xs_asg (xop q_mod (xcallT q_int T.n_int (xcons (xv 2) xnil)) xint) (xg_sub hu1 (xv 0) xint))
    (xss_one (xs_ret (xop q_mod (xop q_fdiv (xop q_mod (xcallT q_int T.n_int (xcons (xop q_mul (xix hu1 (xv 0) xint) (xix hu1 (xv 0) xint)) xnil)) xint) xint) (xv 1))))))))⟩
theorem sc_law_pick : FnScope ["_law_bag_here", "_law_items"] ["_law_bag_here", "_law_items"] (defScope s_law_pick) := ⟨rfl, rfl, rfl, by decide +kernel, rfl, by decide +kernel, by decide +kernel⟩
theorem ok_law_pick (T : Facts K mg) {a : Addr} {fd : FuncData} (F : Fun K "_law_pick" "_law_pick" s_law_pick a fd) (hm : mg "_law_pick" = some (.ref a)) (G_law_draw : Known P w K mg base "_law_draw" 1 2 m_law_draw) : Known P w K mg base "_law_pick" 2 2 m_law_pick := by
  have S := sc_law_pick
  rw [m_law_pick_eq]
  refine known_of F hm (okD F S rfl rfl fun cdv A outer s H E hr => ?_) (F.binds (ps := ["_law_bag_here", "_law_items"]) fun _ _ _ _ _ _ us hl => match us, hl with | [_, _], _ => rfl)
  have hu := hr.hu
  have hu1 := hr.hu1
  have hu5 := hr.hu5
  exact ⟨_, (xss_one (xs_ret (xix hu1 (xv 1) (xkn G_law_draw (hr.mono (by decide)) (xcons (xv 0) (xcons (xcallB q_len T.n_len (xcons (xv 1) xnil)) xnil))))))⟩
theorem sc_law_odd : FnScope ["_law_bag_here", "_law_some"] ["_law_bag_here"] (defScope s_law_odd) := ⟨rfl, rfl, rfl, by decide +kernel, rfl, by decide +kernel, by decide +kernel⟩
theorem ok_law_odd (T : Facts K mg) {a : Addr} {fd : FuncData} (F : Fun K "_law_odd" "_law_odd" s_law_odd a fd) (hm : mg "_law_odd" = some (.ref a)) (G_law_pick : Known P w K mg base "_law_pick" 2 2 m_law_pick) : Known P w K mg base "_law_odd" 3 1 m_law_odd := by
  have S := sc_law_odd
  rw [m_law_odd_eq]
  refine known_of F hm (okD F S rfl rfl fun cdv A outer s H E hr => ?_) (F.binds (ps := ["_law_bag_here"]) fun _ _ _ _ _ _ us hl => match us, hl with | [_], _ => rfl)
  have hu := hr.hu
  have hu1 := hr.hu1
  have hu5 := hr.hu5
  exact ⟨_, (xss_cons (xs_set (i := 1) S.nd (xlst (xcons xnon (xcons xbl (xcons xbl (xcons xint (xcons xint (xcons (xun q_neg xint) (xcons xint (xcons xint (xcons (xop q_pow xint xint) (xcons xstr (xcons xstr (xcons xstr (xcons xstr (xcons (xtup xnil) (xcons (xlst xnil) (xcons (xtup (xcons xint xnil)) (xcons (xtup (xcons xint (xcons xint xnil))) (xcons (xlst (xcons xint xnil)) (xcons (xtup (xcons xint (xcons xbl xnil))) (xcons xnewK xnil))))))))))))))))))))))
    (xss_one (xs_ret (xkn G_law_pick (hr.mono (by decide)) (xcons (xv 0) (xcons (xop q_add (xv 1) (xlst (xcons (xtup (xcons (xlst xnil) xnil)) (xcons (xtup (xcons xnon xnil)) (xcons (xtup (xcons xstr xnil)) (xcons (xtup (xcons (xtup (xcons xint (xcons xint xnil))) xnil)) (xcons (xtup (xcons xint (xcons xint xnil))) (xcons (xtup (xcons xnewK xnil)) (xcons (xdisp (xpps_cons xstr xint xpps_nil)) (xcons (xtup (xcons (xun q_neg xint) (xcons xint xnil))) (xcons (xtup (xcons xint (xcons xint xnil))) (xcons (xop q_add (xop q_pow xint xint) xint) xnil)))))))))))) xnil))))))⟩
theorem sc_law_is_whole : FnScope ["_law_value", "_law_low", "_law_high"] ["_law_value", "_law_low", "_law_high"] (defScope s_law_is_whole) := ⟨rfl, rfl, rfl, by decide +kernel, rfl, by decide +kernel, by decide +kernel⟩
theorem ok_law_is_whole (T : Facts K mg) {a : Addr} {fd : FuncData} (F : Fun K "_law_is_whole" "_law_is_whole" s_law_is_whole a fd) (hm : mg "_law_is_whole" = some (.ref a))  : Known P w K mg base "_law_is_whole" 1 3 m_law_is_whole := by
  have S := sc_law_is_whole
  rw [m_law_is_whole_eq]
  refine known_of F hm (okD F S rfl rfl fun cdv A outer s H E hr => ?_) (F.binds (ps := ["_law_value", "_law_low", "_law_high"]) fun _ _ _ _ _ _ us hl => match us, hl with | [_, _, _], _ => rfl)
  have hu := hr.hu
  have hu1 := hr.hu1
  have hu5 := hr.hu5
  exact ⟨_, (xss_one (xs_ret (xand (xcallB q_isi T.n_isinstance (xcons (xv 0) (xcons (xtype T.n_int (by decide +kernel)) xnil))) (xand (xnot (xcallB q_isi T.n_isinstance (xcons (xv 0) (xcons (xtype T.n_bool (by decide +kernel)) xnil)))) (xone (xchain q_le q_le (xv 1) (xv 0) (xv 2)))))))⟩
theorem sc_law_is_pair : FnScope ["_law_value", "_law_low", "_law_high"] ["_law_value", "_law_low", "_law_high"] (defScope s_law_is_pair) := ⟨rfl, rfl, rfl, by decide +kernel, rfl, by decide +kernel, by decide +kernel⟩
theorem ok_law_is_pair (T : Facts K mg) {a : Addr} {fd : FuncData} (F : Fun K "_law_is_pair" "_law_is_pair" s_law_is_pair a fd) (hm : mg "_law_is_pair" = some (.ref a)) (G_law_is_whole : Known P w K mg base "_law_is_whole" 1 3 m_law_is_whole) : Known P w K mg base "_law_is_pair" 2 3 m_law_is_pair := by
  have S := sc_law_is_pair
  rw [m_law_is_pair_eq]
  refine known_of F hm (okD F S rfl rfl fun cdv A outer s H E hr => ?_) (F.binds (ps := ["_law_value", "_law_low", "_law_high"]) fun _ _ _ _ _ _ us hl => match us, hl with | [_, _, _], _ => rfl)
  have hu := hr.hu
  have hu1 := hr.hu1
  have hu5 := hr.hu5
  exact ⟨_, (xss_cons (xs_if (xwor (xtnot (xtval (xcallB q_isi T.n_isinstance (xcons (xv 0) (xcons (xtype T.n_tuple (by decide +kernel)) xnil))))) (xwor1 (xtcmp (qk_ne hu) (xcallB q_len T.n_len (xcons (xv 0) xnil)) xint))).toT (xss_one (xs_ret xbl)) xss_nil)
    (xss_one (xs_ret (xand (xkn G_law_is_whole (hr.mono (by decide)) (xcons (xix hu1 (xv 0) xint) (xcons (xv 1) (xcons (xv 2) xnil)))) (xone (xkn G_law_is_whole (hr.mono (by decide)) (xcons (xix hu1 (xv 0) xint) (xcons (xix hu1 (xv 0) xint) (xcons (xv 2) xnil)))))))))⟩
theorem sc_law_ups : FnScope ["_law_ovens", "_law_ties_here", "_law_found", "_law_one", "_law_turn", "_law_other", "_law_low", "_law_high", "_law_middle", "_law_key", "_law_bound"] ["_law_ovens", "_law_ties_here"] (defScope s_law_ups) := ⟨rfl, rfl, rfl, by decide +kernel, rfl, by decide +kernel, by decide +kernel⟩
theorem ok_law_ups (T : Facts K mg) {a : Addr} {fd : FuncData} (F : Fun K "_law_ups" "_law_ups" s_law_ups a fd) (hm : mg "_law_ups" = some (.ref a))  : Known P w K mg base "_law_ups" 1 2 m_law_ups := by
  have S := sc_law_ups
  rw [m_law_ups_eq]
  refine known_of F hm (okD F S rfl rfl fun cdv A outer s H E hr => ?_) (F.binds (ps := ["_law_ovens", "_law_ties_here"]) fun _ _ _ _ _ _ us hl => match us, hl with | [_, _], _ => rfl)
  have hu := hr.hu
  have hu1 := hr.hu1
  have hu5 := hr.hu5
  exact ⟨_, (xss_cons (xs_set (i := 2) S.nd xnewT)
    (xss_cons (xs_kfor PassesOwn.never rfl (xi_rng1 T.n_range (xcons (xv 0) xnil)) (xg_name (i := 3) S.nd) (xss_one (xs_kfor PassesOwn.never rfl (xi_rng1 T.n_range (xcons (xv 0) xnil)) (xg_name (i := 5) S.nd) (xss_one (xs_asg (xif (xtcmp (qk_eq hu) (xv 3) (xv 5)) xint xnon) (xg_sub hu1 (xv 2) (xtup (xcons (xv 3) (xcons (xv 5) xnil)))))))))
    (xss_cons (xs_kfor PassesOwn.never rfl (xi_seq (xv 1)) (xg_tup rfl (xgs_cons (xg_name (i := 3) S.nd) (xgs_cons (xg_name (i := 5) S.nd) (xgs_cons (xg_name (i := 6) S.nd) (xgs_cons (xg_name (i := 7) S.nd) xgs_nil))))) (xss_one (xs_kfor PassesOwn.never rfl (xi_seq (xlst (xcons (xtup (xcons (xtup (xcons (xv 3) (xcons (xv 5) xnil))) (xcons (xv 7) xnil))) (xcons (xtup (xcons (xtup (xcons (xv 5) (xcons (xv 3) xnil))) (xcons (xop q_sub xint (xv 6)) xnil))) xnil)))) (xg_tup rfl (xgs_cons (xg_name (i := 9) S.nd) (xgs_cons (xg_name (i := 10) S.nd) xgs_nil))) (xss_one (xs_if (xwor (xtcmp q_is (xix hu1 (xv 2) (xv 9)) xnon) (xwor1 (xtcmp q_lt (xv 10) (xix hu1 (xv 2) (xv 9))))).toT (xss_one (xs_asg (xv 10) (xg_sub hu1 (xv 2) (xv 9)))) xss_nil)))))
    (xss_cons (xs_kfor PassesOwn.never rfl (xi_rng1 T.n_range (xcons xint xnil)) (xg_name (i := 4) S.nd) (xss_one (xs_kfor PassesOwn.never rfl (xi_rng1 T.n_range (xcons (xv 0) xnil)) (xg_name (i := 8) S.nd) (xss_one (xs_kfor PassesOwn.never rfl (xi_rng1 T.n_range (xcons (xv 0) xnil)) (xg_name (i := 3) S.nd) (xss_one (xs_kfor PassesOwn.never rfl (xi_rng1 T.n_range (xcons (xv 0) xnil)) (xg_name (i := 5) S.nd) (xss_one (xs_if (xwand (xtcmp q_isnot (xix hu1 (xv 2) (xtup (xcons (xv 3) (xcons (xv 8) xnil)))) xnon) (xwand1 (xtcmp q_isnot (xix hu1 (xv 2) (xtup (xcons (xv 8) (xcons (xv 5) xnil)))) xnon))).toT (xss_cons (xs_set (i := 10) S.nd (xop q_add (xix hu1 (xv 2) (xtup (xcons (xv 3) (xcons (xv 8) xnil)))) (xix hu1 (xv 2) (xtup (xcons (xv 8) (xcons (xv 5) xnil))))))
    (xss_one (xs_if (xwor (xtcmp q_is (xix hu1 (xv 2) (xtup (xcons (xv 3) (xcons (xv 5) xnil)))) xnon) (xwor1 (xtcmp q_lt (xv 10) (xix hu1 (xv 2) (xtup (xcons (xv 3) (xcons (xv 5) xnil))))))).toT (xss_one (xs_asg (xv 10) (xg_sub hu1 (xv 2) (xtup (xcons (xv 3) (xcons (xv 5) xnil)))))) xss_nil))) xss_nil)))))))))
    (xss_one (xs_ret (xv 2)))))))⟩
theorem sc_law_is_torn : FnScope ["_law_ovens", "_law_ties_here", "_law_found", "_law_oven"] ["_law_ovens", "_law_ties_here"] (defScope s_law_is_torn) := ⟨rfl, rfl, rfl, by decide +kernel, rfl, by decide +kernel, by decide +kernel⟩
theorem ok_law_is_torn (T : Facts K mg) {a : Addr} {fd : FuncData} (F : Fun K "_law_is_torn" "_law_is_torn" s_law_is_torn a fd) (hm : mg "_law_is_torn" = some (.ref a)) (G_law_ups : Known P w K mg base "_law_ups" 1 2 m_law_ups) : Known P w K mg base "_law_is_torn" 2 2 m_law_is_torn := by
  have S := sc_law_is_torn
  rw [m_law_is_torn_eq]
  refine known_of F hm (okD F S rfl rfl fun cdv A outer s H E hr => ?_) (F.binds (ps := ["_law_ovens", "_law_ties_here"]) fun _ _ _ _ _ _ us hl => match us, hl with | [_, _], _ => rfl)
  have hu := hr.hu
  have hu1 := hr.hu1
  have hu5 := hr.hu5
  exact ⟨_, (xss_cons (xs_set (i := 2) S.nd (xkn G_law_ups (hr.mono (by decide)) (xcons (xv 0) (xcons (xv 1) xnil))))
    (xss_one (xs_ret (xcmp (qk_ne hu) (xklc (own := [("_law_oven", 3)]) rfl S.nd (xi_rng1 T.n_range (xcons (xv 0) xnil)) (blkOk_by (N := ["_law_ovens", "_law_ties_here", "_law_found", "_law_oven"]) (sc := defScope s_law_is_torn) (own := [("_law_oven", 3)]) (by decide +kernel)) (fun _ _ _ _ _ => (xg_name (i := 3) S.nd)) (own_name (by decide)) (by intro _ _ _ _ _; exact (xts_one (xtcmp q_lt (xix hu1 (xv 2) (xtup (xcons (xv 3) (xcons (xv 3) xnil)))) xint))) (by intro _ _ _ _ _; exact (xv 3))) (xlst xnil)))))⟩
theorem sc_law_ties : FnScope ["_law_bag_here", "_law_ovens", "_law_share", "_law_found", "_law_turn", "_law_one", "_law_other", "_law_low", "_law_tie", "_law_more"] ["_law_bag_here", "_law_ovens", "_law_share"] (defScope s_law_ties) := ⟨rfl, rfl, rfl, by decide +kernel, rfl, by decide +kernel, by decide +kernel⟩
theorem ok_law_ties (T : Facts K mg) {a : Addr} {fd : FuncData} (F : Fun K "_law_ties" "_law_ties" s_law_ties a fd) (hm : mg "_law_ties" = some (.ref a)) (G_law_draw : Known P w K mg base "_law_draw" 1 2 m_law_draw) (G_law_is_torn : Known P w K mg base "_law_is_torn" 2 2 m_law_is_torn) : Known P w K mg base "_law_ties" 3 3 m_law_ties := by
  have S := sc_law_ties
  rw [m_law_ties_eq]
  refine known_of F hm (okD F S rfl rfl fun cdv A outer s H E hr => ?_) (F.binds (ps := ["_law_bag_here", "_law_ovens", "_law_share"]) fun _ _ _ _ _ _ us hl => match us, hl with | [_, _, _], _ => rfl)
  have hu := hr.hu
  have hu1 := hr.hu1
  have hu5 := hr.hu5
  exact ⟨_, (xss_cons (xs_set (i := 3) S.nd (xlst xnil))
    (xss_cons (xs_kfor PassesOwn.never rfl (xi_rng1 T.n_range (xcons (xif (xtcmp q_gt (xv 1) xint) (xkn G_law_draw (hr.mono (by decide)) (xcons (xv 0) (xcons (xop q_mul xint (xv 1)) xnil))) xint) xnil)) (xg_name (i := 4) S.nd) (xss_cons (xs_set (i := 5) S.nd (xkn G_law_draw (hr.mono (by decide)) (xcons (xv 0) (xcons (xv 1) xnil))))
    (xss_cons (xs_set (i := 6) S.nd (xop q_mod (xcallT q_int T.n_int (xcons (xop q_add (xop q_add (xv 5) xint) (xkn G_law_draw (hr.mono (by decide)) (xcons (xv 0) (xcons (xop q_sub (xv 1) xint) xnil)))) xnil)) (xv 1)))
    (xss_cons (xs_set (i := 7) S.nd (xop q_mul (xop q_sub (xkn G_law_draw (hr.mono (by decide)) (xcons (xv 0) (xcons xint xnil))) xint) (xv 2)))
    (xss_cons (xs_set (i := 8) S.nd (xtup (xcons (xv 5) (xcons (xv 6) (xcons (xv 7) (xcons (xop q_add (xv 7) (xop q_mul (xkn G_law_draw (hr.mono (by decide)) (xcons (xv 0) (xcons xint xnil))) (xv 2))) xnil))))))
    (xss_cons (xs_set (i := 9) S.nd (xksortset rfl hu (xop q_add (xv 3) (xlst (xcons (xv 8) xnil))) T.n_sorted T.n_set))
    (xss_one (xs_if (xwand (xtcmp q_lt (xcallB q_len T.n_len (xcons (xv 9) xnil)) xint) (xwand1 (xtnot (xtval (xkn G_law_is_torn (hr.mono (by decide)) (xcons (xv 1) (xcons (xv 9) xnil))))))).toT (xss_one (xs_set (i := 3) S.nd (xv 9))) xss_nil))))))))
    (xss_one (xs_ret (xcallT q_tup T.n_tuple (xcons (xv 3) xnil))))))⟩
theorem sc_law_kitchen : FnScope ["_law_bag_here", "_law_dials", "_law_share", "_law_least", "_law_turn", "_law_slopes", "_law_room", "_law_ovens", "_law_dishes", "_law_low"] ["_law_bag_here", "_law_dials", "_law_share"] (defScope s_law_kitchen) := ⟨rfl, rfl, rfl, by decide +kernel, rfl, by decide +kernel, by decide +kernel⟩
theorem ok_law_kitchen (T : Facts K mg) {a : Addr} {fd : FuncData} (F : Fun K "_law_kitchen" "_law_kitchen" s_law_kitchen a fd) (hm : mg "_law_kitchen" = some (.ref a)) (G_law_draw : Known P w K mg base "_law_draw" 1 2 m_law_draw) (G_law_ties : Known P w K mg base "_law_ties" 3 3 m_law_ties) : Known P w K mg base "_law_kitchen" 4 3 m_law_kitchen := by
  have S := sc_law_kitchen
  rw [m_law_kitchen_eq]
  refine known_of F hm (okD F S rfl rfl fun cdv A outer s H E hr => ?_) (F.binds (ps := ["_law_bag_here", "_law_dials", "_law_share"]) fun _ _ _ _ _ _ us hl => match us, hl with | [_, _, _], _ => rfl)
  have hu := hr.hu
  have hu1 := hr.hu1
  have hu5 := hr.hu5
  exact ⟨_, (xss_cons (xs_set (i := 3) S.nd (xop q_mul (xkn G_law_draw (hr.mono (by decide)) (xcons (xv 0) (xcons xint xnil))) (xv 2)))
    (xss_cons (xs_par (i := 5) (j := 6) rfl S.nd (xcons (xtup (xcons (xv 3) (xcons (xop q_add (xv 3) (xop q_mul (xkn G_law_draw (hr.mono (by decide)) (xcons (xv 0) (xcons xint xnil))) (xv 2))) xnil))) (xcons (xtup (xcons (xop q_mul (xkn G_law_draw (hr.mono (by decide)) (xcons (xv 0) (xcons xint xnil))) (xv 2)) (xcons (xop q_add xint (xop q_mul (xkn G_law_draw (hr.mono (by decide)) (xcons (xv 0) (xcons xint xnil))) (xv 2))) xnil))) xnil)) (by decide))
    (xss_cons (xs_par (i := 7) (j := 8) rfl S.nd (xcons (xop q_add xint (xkn G_law_draw (hr.mono (by decide)) (xcons (xv 0) (xcons xint xnil)))) (xcons (xlst xnil) xnil)) (by decide))
    (xss_cons (xs_kfor PassesOwn.never rfl (xi_rng1 T.n_range (xcons (xop q_add xint (xkn G_law_draw (hr.mono (by decide)) (xcons (xv 0) (xcons xint xnil)))) xnil)) (xg_name (i := 4) S.nd) (xss_cons (xs_set (i := 9) S.nd (xop q_mul (xkn G_law_draw (hr.mono (by decide)) (xcons (xv 0) (xcons xint xnil))) (xv 2)))
    (xss_one (xs_expr (xappend (xv 8) (xtup (xcons (xv 9) (xcons (xop q_add (xv 9) (xop q_mul (xkn G_law_draw (hr.mono (by decide)) (xcons (xv 0) (xcons xint xnil))) (xv 2))) xnil))))))))
    (xss_one (xs_ret (xtup (xcons (xv 1) (xcons (xv 5) (xcons (xv 6) (xcons (xv 7) (xcons (xkn G_law_ties (hr.mono (by decide)) (xcons (xv 0) (xcons (xv 7) (xcons (xv 2) xnil)))) (xcons (xcallT q_tup T.n_tuple (xcons (xv 8) xnil)) xnil)))))))))))))⟩
theorem sc_law_ties_word : FnScope ["_law_ovens", "_law_ties_here", "_law_number", "_law_tie"] ["_law_ovens", "_law_ties_here"] (defScope s_law_ties_word) := ⟨rfl, rfl, rfl, by decide +kernel, rfl, by decide +kernel, by decide +kernel⟩
theorem ok_law_ties_word (T : Facts K mg) {a : Addr} {fd : FuncData} (F : Fun K "_law_ties_word" "_law_ties_word" s_law_ties_word a fd) (hm : mg "_law_ties_word" = some (.ref a)) (G_law_is_pair : Known P w K mg base "_law_is_pair" 2 3 m_law_is_pair) (G_law_is_whole : Known P w K mg base "_law_is_whole" 1 3 m_law_is_whole) : Known P w K mg base "_law_ties_word" 3 2 m_law_ties_word := by
  have S := sc_law_ties_word
  rw [m_law_ties_word_eq]
  refine known_of F hm (okD F S rfl rfl fun cdv A outer s H E hr => ?_) (F.binds (ps := ["_law_ovens", "_law_ties_here"]) fun _ _ _ _ _ _ us hl => match us, hl with | [_, _], _ => rfl)
  have hu := hr.hu
  have hu1 := hr.hu1
  have hu5 := hr.hu5
  exact ⟨_, (xss_cons (xs_if (xwor (xtnot (xtval (xcallB q_isi T.n_isinstance (xcons (xv 1) (xcons (xtype T.n_tuple (by decide +kernel)) xnil))))) (xwor1 (xtcmp q_gt (xcallB q_len T.n_len (xcons (xv 1) xnil)) xint))).toT (xss_one (xs_ret (xtup (xcons xnon (xcons xstr xnil))))) xss_nil)
    (xss_cons (xs_kfor PassesOwn.never rfl (xi_enum T.n_enumerate (xcons (xv 1) xnil)) (xg_tup rfl (xgs_cons (xg_name (i := 2) S.nd) (xgs_cons (xg_name (i := 3) S.nd) xgs_nil))) (xss_cons (xs_if (xwor (xtnot (xtval (xcallB q_isi T.n_isinstance (xcons (xv 3) (xcons (xtype T.n_tuple (by decide +kernel)) xnil))))) (xwor (xtcmp (qk_ne hu) (xcallB q_len T.n_len (xcons (xv 3) xnil)) xint) (xwor1 (xtnot (xtval (xkn G_law_is_pair (hr.mono (by decide)) (xcons (xsl (xv 3) (xo_some xint) xo_none) (xcons (xop q_sub xint (xop q_pow xint xint)) (xcons (xop q_pow xint xint) xnil))))))))).toT (xss_one (xs_ret (xtup (xcons (xv 2) (xcons xstr xnil))))) xss_nil)
    (xss_cons (xs_if (xwor (xtnot (xtval (xkn G_law_is_whole (hr.mono (by decide)) (xcons (xix hu1 (xv 3) xint) (xcons xint (xcons (xop q_sub (xv 0) xint) xnil)))))) (xwor (xtnot (xtval (xkn G_law_is_whole (hr.mono (by decide)) (xcons (xix hu1 (xv 3) xint) (xcons xint (xcons (xop q_sub (xv 0) xint) xnil)))))) (xwor1 (xtcmp (qk_eq hu) (xix hu1 (xv 3) xint) (xix hu1 (xv 3) xint))))).toT (xss_one (xs_ret (xtup (xcons (xv 2) (xcons xstr xnil))))) xss_nil)
    (xss_one (xs_if (xwand (xtcmp q_gt (xv 2) xint) (xwand1 (xtnot (xtcmp (q_ltT hu) (xix hu1 (xv 1) (xop q_sub (xv 2) xint)) (xv 3))))).toT (xss_one (xs_ret (xtup (xcons (xv 2) (xcons xstr xnil))))) xss_nil)))))
    (xss_one (xs_ret xnon))))⟩
theorem sc_law_kitchen_word : FnScope ["_law_value", "_law_wrong", "_law_dials", "_law_slopes", "_law_room", "_law_ovens", "_law_ties_here", "_law_dishes", "_law_number", "_law_dish"] ["_law_value"] (defScope s_law_kitchen_word) := ⟨rfl, rfl, rfl, by decide +kernel, rfl, by decide +kernel, by decide +kernel⟩
theorem ok_law_kitchen_word (T : Facts K mg) {a : Addr} {fd : FuncData} (F : Fun K "_law_kitchen_word" "_law_kitchen_word" s_law_kitchen_word a fd) (hm : mg "_law_kitchen_word" = some (.ref a)) (G_law_is_whole : Known P w K mg base "_law_is_whole" 1 3 m_law_is_whole) (G_law_is_pair : Known P w K mg base "_law_is_pair" 2 3 m_law_is_pair) (G_law_ties_word : Known P w K mg base "_law_ties_word" 3 2 m_law_ties_word) (G_law_is_torn : Known P w K mg base "_law_is_torn" 2 2 m_law_is_torn) : Known P w K mg base "_law_kitchen_word" 4 1 m_law_kitchen_word := by
  have S := sc_law_kitchen_word
  rw [m_law_kitchen_word_eq]
  refine known_of F hm (okD F S rfl rfl fun cdv A outer s H E hr => ?_) (F.binds (ps := ["_law_value"]) fun _ _ _ _ _ _ us hl => match us, hl with | [_], _ => rfl)
  have hu := hr.hu
  have hu1 := hr.hu1
  have hu5 := hr.hu5
  exact ⟨_, (xss_cons (xs_if (xwor (xtnot (xtval (xcallB q_isi T.n_isinstance (xcons (xv 0) (xcons (xtype T.n_tuple (by decide +kernel)) xnil))))) (xwor1 (xtcmp (qk_ne hu) (xcallB q_len T.n_len (xcons (xv 0) xnil)) xint))).toT (xss_one (xs_ret (xtup (xcons xnon (xcons xstr xnil))))) xss_nil)
    (xss_cons (xs_asg (xv 0) (xg_tup rfl (xgs_cons (xg_name (i := 2) S.nd) (xgs_cons (xg_name (i := 3) S.nd) (xgs_cons (xg_name (i := 4) S.nd) (xgs_cons (xg_name (i := 5) S.nd) (xgs_cons (xg_name (i := 6) S.nd) (xgs_cons (xg_name (i := 7) S.nd) xgs_nil))))))))
    (xss_cons (xs_if (xtnot (xtval (xkn G_law_is_whole (hr.mono (by decide)) (xcons (xv 2) (xcons xint (xcons (xop q_pow xint xint) xnil)))))) (xss_one (xs_ret (xtup (xcons xnon (xcons xstr xnil))))) xss_nil)
    (xss_cons (xs_if (xtnot (xtval (xkn G_law_is_pair (hr.mono (by decide)) (xcons (xv 3) (xcons xint (xcons (xop q_pow xint xint) xnil)))))) (xss_one (xs_ret (xtup (xcons xnon (xcons xstr xnil))))) xss_nil)
    (xss_cons (xs_if (xwor (xtnot (xtval (xcallB q_isi T.n_isinstance (xcons (xv 4) (xcons (xtype T.n_tuple (by decide +kernel)) xnil))))) (xwor1 (xtcmp (qk_ne hu) (xcallB q_len T.n_len (xcons (xv 4) xnil)) xint))).toT (xss_one (xs_ret (xtup (xcons xnon (xcons xstr xnil))))) xss_nil)
    (xss_cons (xs_if (xwor (xtnot (xtval (xkn G_law_is_whole (hr.mono (by decide)) (xcons (xix hu1 (xv 4) xint) (xcons xint (xcons (xop q_pow xint xint) xnil)))))) (xwor1 (xtnot (xtval (xkn G_law_is_whole (hr.mono (by decide)) (xcons (xix hu1 (xv 4) xint) (xcons xint (xcons (xop q_pow xint xint) xnil)))))))).toT (xss_one (xs_ret (xtup (xcons xnon (xcons xstr xnil))))) xss_nil)
    (xss_cons (xs_if (xtnot (xtval (xkn G_law_is_whole (hr.mono (by decide)) (xcons (xv 5) (xcons xint (xcons xint xnil)))))) (xss_one (xs_ret (xtup (xcons xnon (xcons xstr xnil))))) xss_nil)
    (xss_cons (xs_set (i := 1) S.nd (xkn G_law_ties_word (hr.mono (by decide)) (xcons (xv 5) (xcons (xv 6) xnil))))
    (xss_cons (xs_if (xtcmp q_isnot (xv 1) xnon) (xss_one (xs_ret (xv 1))) xss_nil)
    (xss_cons (xs_if (xwor (xtnot (xtval (xcallB q_isi T.n_isinstance (xcons (xv 7) (xcons (xtype T.n_tuple (by decide +kernel)) xnil))))) (xwor1 (xtnot (xtchain q_le q_le xint (xcallB q_len T.n_len (xcons (xv 7) xnil)) xint)))).toT (xss_one (xs_ret (xtup (xcons xnon (xcons xstr xnil))))) xss_nil)
    (xss_cons (xs_kfor PassesOwn.never rfl (xi_enum T.n_enumerate (xcons (xv 7) xnil)) (xg_tup rfl (xgs_cons (xg_name (i := 8) S.nd) (xgs_cons (xg_name (i := 9) S.nd) xgs_nil))) (xss_one (xs_if (xtnot (xtval (xkn G_law_is_pair (hr.mono (by decide)) (xcons (xv 9) (xcons xint (xcons (xop q_pow xint xint) xnil)))))) (xss_one (xs_ret (xtup (xcons (xv 8) (xcons xstr xnil))))) xss_nil)))
    (xss_one (xs_ret (xif (xtval (xkn G_law_is_torn (hr.mono (by decide)) (xcons (xv 5) (xcons (xv 6) xnil)))) (xtup (xcons xnon (xcons xstr xnil))) xnon))))))))))))))⟩
theorem sc_law_bent_tie : FnScope ["_law_bag_here", "_law_tie", "_law_ovens", "_law_some", "_law_one", "_law_other", "_law_low", "_law_high"] ["_law_bag_here", "_law_tie", "_law_ovens"] (defScope s_law_bent_tie) := ⟨rfl, rfl, rfl, by decide +kernel, rfl, by decide +kernel, by decide +kernel⟩
theorem ok_law_bent_tie (T : Facts K mg) {a : Addr} {fd : FuncData} (F : Fun K "_law_bent_tie" "_law_bent_tie" s_law_bent_tie a fd) (hm : mg "_law_bent_tie" = some (.ref a)) (G_law_pick : Known P w K mg base "_law_pick" 2 2 m_law_pick) : Known P w K mg base "_law_bent_tie" 3 3 m_law_bent_tie := by
  have S := sc_law_bent_tie
  rw [m_law_bent_tie_eq]
  refine known_of F hm (okD F S rfl rfl fun cdv A outer s H E hr => ?_) (F.binds (ps := ["_law_bag_here", "_law_tie", "_law_ovens"]) fun _ _ _ _ _ _ us hl => match us, hl with | [_, _, _], _ => rfl)
  have hu := hr.hu
  have hu1 := hr.hu1
  have hu5 := hr.hu5
  exact ⟨_, (xss_cons (xs_asg (xv 1) (xg_tup rfl (xgs_cons (xg_name (i := 4) S.nd) (xgs_cons (xg_name (i := 5) S.nd) (xgs_cons (xg_name (i := 6) S.nd) (xgs_cons (xg_name (i := 7) S.nd) xgs_nil))))))
    (xss_cons (xs_set (i := 3) S.nd (xlst (xcons (xtup (xcons (xv 5) (xcons (xv 4) (xcons (xop q_sub xint (xv 7)) (xcons (xop q_sub xint (xv 6)) xnil))))) (xcons (xtup (xcons (xv 4) (xcons (xv 5) (xcons (xv 7) (xcons (xv 6) xnil))))) (xcons (xtup (xcons (xv 4) (xcons (xv 4) (xcons (xv 6) (xcons (xv 7) xnil))))) (xcons (xtup (xcons (xv 2) (xcons (xv 5) (xcons (xv 6) (xcons (xv 7) xnil))))) xnil))))))
    (xss_cons (xs_set (i := 3) S.nd (xop q_add (xv 3) (xlst (xcons (xtup (xcons (xv 4) (xcons (xun q_neg xint) (xcons (xv 6) (xcons (xv 7) xnil))))) (xcons (xtup (xcons (xv 4) (xcons (xv 5) (xcons (xv 6) xnil)))) (xcons (xtup (xcons xbl (xcons (xv 5) (xcons (xv 6) (xcons (xv 7) xnil))))) (xcons (xlst (xcons (xv 4) (xcons (xv 5) (xcons (xv 6) (xcons (xv 7) xnil))))) (xcons (xop q_add (xv 1) (xtup (xcons xint xnil))) xnil))))))))
    (xss_cons (xs_set (i := 3) S.nd (xop q_add (xv 3) (xlst (xcons (xtup (xcons (xv 4) (xcons (xv 5) (xcons (xop q_sub xint (xop q_pow xint xint)) (xcons (xop q_pow xint xint) xnil))))) (xcons (xtup (xcons (xv 4) (xcons (xv 5) (xcons (xv 6) (xcons (xop q_add (xop q_pow xint xint) xint) xnil))))) (xcons (xtup (xcons (xv 4) (xcons (xv 5) (xcons (xop q_sub (xop q_sub xint (xop q_pow xint xint)) xint) (xcons (xv 7) xnil))))) xnil))))))
    (xss_cons (xs_set (i := 3) S.nd (xop q_add (xv 3) (xlst (xcons (xtup (xcons xnon (xcons (xv 5) (xcons (xv 6) (xcons (xv 7) xnil))))) (xcons (xtup (xcons (xv 4) (xcons xstr (xcons (xv 6) (xcons (xv 7) xnil))))) (xcons (xtup (xcons (xv 4) (xcons xbl (xcons (xv 6) (xcons (xv 7) xnil))))) (xcons (xtup (xcons (xv 4) (xcons (xv 5) (xcons xbl (xcons (xv 7) xnil))))) (xcons (xtup (xcons (xv 4) (xcons (xv 5) (xcons (xv 6) (xcons xbl xnil))))) xnil))))))))
    (xss_cons (xs_set (i := 3) S.nd (xop q_add (xv 3) (xlst (xcons (xtup (xcons (xv 4) (xcons (xlst (xcons (xv 5) xnil)) (xcons (xv 6) (xcons (xv 7) xnil))))) (xcons (xtup (xcons (xv 4) (xcons (xv 5) (xcons xstr (xcons (xv 7) xnil))))) (xcons (xtup (xcons (xv 4) (xcons xnon (xcons (xv 6) (xcons (xv 7) xnil))))) (xcons (xtup (xcons (xv 4) (xcons (xv 5) (xcons (xv 6) (xcons xnon xnil))))) xnil)))))))
    (xss_one (xs_ret (xkn G_law_pick (hr.mono (by decide)) (xcons (xv 0) (xcons (xop q_add (xv 3) (xlst (xcons (xtup (xcons (xv 4) (xcons (xv 5) (xcons (xop q_add (xv 7) xint) (xcons (xop q_add (xv 7) xint) xnil))))) (xcons (xtup (xcons (xv 5) (xcons (xv 4) (xcons (xop q_add (xv 6) xint) (xcons (xop q_add (xv 7) xint) xnil))))) (xcons (xtup (xcons (xv 4) (xcons (xv 5) (xcons xnon (xcons (xv 7) xnil))))) xnil))))) xnil)))))))))))⟩
theorem sc_law_bent_dish : FnScope ["_law_bag_here", "_law_dish", "_law_some", "_law_low", "_law_high"] ["_law_bag_here", "_law_dish"] (defScope s_law_bent_dish) := ⟨rfl, rfl, rfl, by decide +kernel, rfl, by decide +kernel, by decide +kernel⟩
theorem ok_law_bent_dish (T : Facts K mg) {a : Addr} {fd : FuncData} (F : Fun K "_law_bent_dish" "_law_bent_dish" s_law_bent_dish a fd) (hm : mg "_law_bent_dish" = some (.ref a)) (G_law_pick : Known P w K mg base "_law_pick" 2 2 m_law_pick) : Known P w K mg base "_law_bent_dish" 3 2 m_law_bent_dish := by
  have S := sc_law_bent_dish
  rw [m_law_bent_dish_eq]
  refine known_of F hm (okD F S rfl rfl fun cdv A outer s H E hr => ?_) (F.binds (ps := ["_law_bag_here", "_law_dish"]) fun _ _ _ _ _ _ us hl => match us, hl with | [_, _], _ => rfl)
  have hu := hr.hu
  have hu1 := hr.hu1
  have hu5 := hr.hu5
  exact ⟨_, (xss_cons (xs_asg (xv 1) (xg_tup rfl (xgs_cons (xg_name (i := 3) S.nd) (xgs_cons (xg_name (i := 4) S.nd) xgs_nil))))
    (xss_cons (xs_set (i := 2) S.nd (xlst (xcons (xtup (xcons (xop q_add (xv 4) xint) (xcons (xv 4) xnil))) (xcons (xtup (xcons (xv 3) (xcons (xop q_pow xint xint) xnil))) (xcons (xtup (xcons (xv 3) (xcons (xop q_add (xop q_pow xint xint) xint) xnil))) (xcons (xtup (xcons (xun q_neg xint) (xcons (xv 4) xnil))) (xcons (xtup (xcons (xv 3) xnil)) (xcons (xlst (xcons (xv 3) (xcons (xv 4) xnil))) (xcons (xtup (xcons (xv 3) (xcons (xv 4) (xcons (xv 4) xnil)))) (xcons xnon xnil))))))))))
    (xss_cons (xs_set (i := 2) S.nd (xop q_add (xv 2) (xlst (xcons (xtup (xcons xnon (xcons (xv 4) xnil))) (xcons (xtup (xcons xstr (xcons (xv 4) xnil))) (xcons (xtup (xcons (xv 3) (xcons xbl xnil))) (xcons (xtup (xcons (xv 3) (xcons xnon xnil))) (xcons (xtup (xcons (xlst (xcons (xv 3) xnil)) (xcons (xv 4) xnil))) (xcons (xtup (xcons xbl (xcons (xv 4) xnil))) xnil)))))))))
    (xss_one (xs_ret (xkn G_law_pick (hr.mono (by decide)) (xcons (xv 0) (xcons (xop q_add (xv 2) (xlst (xcons (xtup (xcons xbl (xcons (xop q_pow xint xint) xnil))) (xcons (xtup (xcons xint (xcons xint xnil))) (xcons (xtup (xcons (xv 3) (xcons xstr xnil))) (xcons (xtup (xcons (xv 4) (xcons (xv 4) xnil))) xnil)))))) xnil))))))))⟩
theorem sc_law_bent : FnScope ["_law_bag_here", "_law_kitchen_here", "_law_part", "_law_spot", "_law_bent_here", "_law_both", "_law_some", "_law_dials", "_law_slopes", "_law_room", "_law_ovens", "_law_ties_here", "_law_dishes", "_law_at", "_law_odd_here", "_law_place", "_law_other", "_law_item", "_law_to"] ["_law_bag_here", "_law_kitchen_here"] (defScope s_law_bent) := ⟨rfl, rfl, rfl, by decide +kernel, rfl, by decide +kernel, by decide +kernel⟩
theorem ok_law_bent (T : Facts K mg) {a : Addr} {fd : FuncData} (F : Fun K "_law_bent" "_law_bent" s_law_bent a fd) (hm : mg "_law_bent" = some (.ref a)) (G_law_odd : Known P w K mg base "_law_odd" 3 1 m_law_odd) (G_law_draw : Known P w K mg base "_law_draw" 1 2 m_law_draw) (G_law_bent_tie : Known P w K mg base "_law_bent_tie" 3 3 m_law_bent_tie) (G_law_bent_dish : Known P w K mg base "_law_bent_dish" 3 2 m_law_bent_dish) (G_law_pick : Known P w K mg base "_law_pick" 2 2 m_law_pick) : Known P w K mg base "_law_bent" 4 2 m_law_bent := by
  have S := sc_law_bent
  rw [m_law_bent_eq]
  refine known_of F hm (okD F S rfl rfl fun cdv A outer s H E hr => ?_) (F.binds (ps := ["_law_bag_here", "_law_kitchen_here"]) fun _ _ _ _ _ _ us hl => match us, hl with | [_, _], _ => rfl)
  have hu := hr.hu
  have hu1 := hr.hu1
  have hu5 := hr.hu5
  exact ⟨_, (xss_cons (xs_asg (xv 1) (xg_tup rfl (xgs_cons (xg_name (i := 7) S.nd) (xgs_cons (xg_name (i := 8) S.nd) (xgs_cons (xg_name (i := 9) S.nd) (xgs_cons (xg_name (i := 10) S.nd) (xgs_cons (xg_name (i := 11) S.nd) (xgs_cons (xg_name (i := 12) S.nd) xgs_nil))))))))
    (xss_cons (xs_par (i := 13) (j := 14) rfl S.nd (xcons (xkn G_law_draw (hr.mono (by decide)) (xcons (xv 0) (xcons xint xnil))) (xcons (xkn G_law_odd (hr.mono (by decide)) (xcons (xv 0) xnil)) xnil)) (by decide))
    (xss_cons (xs_set (i := 2) S.nd (xdisp (xpps_cons xint (xlst (xcons xint (xcons xint (xcons (xop q_pow xint xint) (xcons (xop q_add (xop q_pow xint xint) xint) (xcons xbl (xcons (xun q_neg xint) xnil))))))) (xpps_cons xint (xlst (xcons (xtup (xcons xint (xcons xint xnil))) (xcons (xtup (xcons (xop q_add (xix hu1 (xv 8) xint) xint) (xcons (xix hu1 (xv 8) xint) xnil))) (xcons (xtup (xcons xint (xcons (xop q_pow xint xint) xnil))) (xcons (xtup (xcons xint (xcons (xop q_add (xop q_pow xint xint) xint) xnil))) (xcons (xtup (xcons (xun q_neg xint) (xcons xint xnil))) xnil)))))) xpps_nil))))
    (xss_cons (xs_asg (xop q_add (xix hu1 (xv 2) xint) (xlst (xcons (xcallT q_list T.n_list (xcons (xv 8) xnil)) (xcons (xtup (xcons xnon (xcons xint xnil))) (xcons (xtup (xcons xstr (xcons xint xnil))) (xcons (xtup (xcons xbl (xcons xint xnil))) (xcons (xtup (xcons xint (xcons xbl xnil))) (xcons (xop q_add (xv 8) (xtup (xcons xint xnil))) (xcons (xtup (xcons (xix hu1 (xv 8) xint) xnil)) (xcons (xtup (xcons xbl (xcons (xop q_pow xint xint) xnil))) (xcons (xtup (xcons xint (xcons xnon xnil))) xnil))))))))))) (xg_sub hu1 (xv 2) xint))
    (xss_cons (xs_asg (xlst (xcons (xtup (xcons xbl (xcons xint xnil))) (xcons (xtup (xcons xnon (xcons xint xnil))) (xcons (xtup (xcons xstr (xcons xint xnil))) (xcons (xtup (xcons xint (xcons xbl xnil))) (xcons (xtup (xcons (xix hu1 (xv 9) xint) (xcons xnon xnil))) (xcons (xtup (xcons xbl (xcons xint xnil))) (xcons (xtup (xcons (xix hu1 (xv 9) xint) (xcons xstr xnil))) (xcons (xtup (xcons (xix hu1 (xv 9) xint) xnil)) xnil))))))))) (xg_sub hu1 (xv 2) xint))
    (xss_cons (xs_asg (xop q_add (xix hu1 (xv 2) xint) (xlst (xcons (xtup (xcons (xix hu1 (xv 9) xint) (xcons xint xnil))) (xcons (xtup (xcons (xop q_pow xint xint) (xcons (xop q_pow xint xint) xnil))) (xcons (xtup (xcons (xop q_add (xop q_pow xint xint) xint) (xcons xint xnil))) (xcons (xtup (xcons (xun q_neg xint) (xcons xint xnil))) (xcons (xtup (xcons (xix hu1 (xv 9) xint) (xcons (xop q_add (xop q_pow xint xint) xint) xnil))) (xcons (xop q_add (xv 9) (xtup (xcons xint xnil))) (xcons (xcallT q_list T.n_list (xcons (xv 9) xnil)) xnil))))))))) (xg_sub hu1 (xv 2) xint))
    (xss_cons (xs_asg (xlst (xcons xint (xcons xint (xcons xint (xcons xint (xcons xint (xcons xint (xcons xbl xnil)))))))) (xg_sub hu1 (xv 2) xint))
    (xss_cons (xs_asg (xlst (xcons (xtup xnil) (xcons (xcallT q_list T.n_list (xcons (xv 11) xnil)) (xcons (xrev (xv 11)) (xcons (xop q_add (xv 11) (xsl (xv 11) xo_none (xo_some xint))) (xcons (xsl (xv 11) (xo_some xint) xo_none) (xcons xnon (xcons (xtup (xcons xnon xnil)) xnil)))))))) (xg_sub hu1 (xv 2) xint))
    (xss_cons (xs_if (xtcmp (qk_ne hu) (xv 11) (xtup xnil)) (xss_cons (xs_set (i := 15) S.nd (xkn G_law_draw (hr.mono (by decide)) (xcons (xv 0) (xcons (xcallB q_len T.n_len (xcons (xv 11) xnil)) xnil))))
    (xss_cons (xs_set (i := 4) S.nd (xkn G_law_bent_tie (hr.mono (by decide)) (xcons (xv 0) (xcons (xix hu1 (xv 11) (xv 15)) (xcons (xv 10) xnil)))))
    (xss_cons (xs_set (i := 16) S.nd (xkn G_law_draw (hr.mono (by decide)) (xcons (xv 0) (xcons (xcallB q_len T.n_len (xcons (xv 11) xnil)) xnil))))
    (xss_cons (xs_set (i := 5) S.nd (xop q_add (xop q_add (xsl (xv 11) xo_none (xo_some (xv 15))) (xtup (xcons (xv 4) xnil))) (xsl (xv 11) (xo_some (xop q_add (xv 15) xint)) xo_none)))
    (xss_cons (xs_asg (xop q_add (xix hu1 (xv 2) xint) (xop q_mul (xlst (xcons (xop q_add (xop q_add (xsl (xv 5) xo_none (xo_some (xv 16))) (xtup (xcons (xkn G_law_bent_tie (hr.mono (by decide)) (xcons (xv 0) (xcons (xix hu1 (xv 11) (xv 16)) (xcons (xv 10) xnil)))) xnil))) (xsl (xv 5) (xo_some (xop q_add (xv 16) xint)) xo_none)) xnil)) xint)) (xg_sub hu1 (xv 2) xint))
    (xss_one (xs_asg (xop q_add (xix hu1 (xv 2) xint) (xop q_mul (xlst (xcons (xop q_add (xop q_add (xsl (xv 11) xo_none (xo_some (xv 15))) (xtup (xcons (xv 4) xnil))) (xsl (xv 11) (xo_some (xop q_add (xv 15) xint)) xo_none)) (xcons (xop q_add (xcallT q_tup T.n_tuple (xcons (xcallB q_sortT T.n_sorted (xcons (xv 11) xnil)) xnil)) (xtup (xcons (xv 4) xnil))) xnil))) xint)) (xg_sub hu1 (xv 2) xint)))))))) xss_nil)
    (xss_cons (xs_set (i := 3) S.nd (xkn G_law_draw (hr.mono (by decide)) (xcons (xv 0) (xcons (xcallB q_len T.n_len (xcons (xv 12) xnil)) xnil))))
    (xss_cons (xs_asg (xlst (xcons (xtup xnil) (xcons (xop q_mulT (xv 12) xint) (xcons (xsl (xop q_mulT (xv 12) xint) xo_none (xo_some xint)) (xcons (xcallT q_list T.n_list (xcons (xv 12) xnil)) (xcons (xrev (xv 12)) (xcons (xix hu1 (xv 12) xint) (xcons xnon xnil)))))))) (xg_sub hu1 (xv 2) xint))
    (xss_cons (xs_asg (xop q_add (xix hu1 (xv 2) xint) (xop q_mul (xlst (xcons (xop q_add (xop q_add (xsl (xv 12) xo_none (xo_some (xv 3))) (xtup (xcons (xkn G_law_bent_dish (hr.mono (by decide)) (xcons (xv 0) (xcons (xix hu1 (xv 12) (xv 3)) xnil))) xnil))) (xsl (xv 12) (xo_some (xop q_add (xv 3) xint)) xo_none)) xnil)) xint)) (xg_sub hu1 (xv 2) xint))
    (xss_cons (xs_par (i := 17) (j := 18) rfl S.nd (xcons (xkn G_law_pick (hr.mono (by decide)) (xcons (xv 0) (xcons (xop q_add (xix hu1 (xv 2) (xv 13)) (xlst (xcons (xv 14) xnil))) xnil))) (xcons (xkn G_law_draw (hr.mono (by decide)) (xcons (xv 0) (xcons xint xnil))) xnil)) (by decide))
    (xss_cons (xs_set (i := 4) S.nd (xop q_add (xop q_add (xsl (xv 1) xo_none (xo_some (xv 13))) (xtup (xcons (xv 17) xnil))) (xsl (xv 1) (xo_some (xop q_add (xv 13) xint)) xo_none)))
    (xss_cons (xs_set (i := 5) S.nd (xop q_add (xop q_add (xsl (xv 4) xo_none (xo_some (xv 18))) (xtup (xcons (xkn G_law_pick (hr.mono (by decide)) (xcons (xv 0) (xcons (xix hu1 (xv 2) (xv 18)) xnil))) xnil))) (xsl (xv 4) (xo_some (xop q_add (xv 18) xint)) xo_none)))
    (xss_cons (xs_set (i := 6) S.nd (xop q_add (xop q_add (xop q_mul (xlst (xcons (xv 4) xnil)) xint) (xop q_mul (xlst (xcons (xv 5) xnil)) xint)) (xlst (xcons (xsl (xv 1) (xo_some xint) xo_none) (xcons (xop q_add (xv 1) (xtup (xcons (xv 17) xnil))) (xcons (xcallT q_list T.n_list (xcons (xv 1) xnil)) (xcons (xv 14) xnil)))))))
    (xss_one (xs_ret (xkn G_law_pick (hr.mono (by decide)) (xcons (xv 0) (xcons (xv 6) xnil)))))))))))))))))))))⟩
theorem sc_law : FnScope ["_law_script", "_law_bag_here", "_law_turn", "_law_share", "_law_kitchen_here", "_law_bent_here", "_law_twice", "_law_value", "_law_again", "_law_one", "_law_shown", "_law_due"] ["_law_script"] (defScope s_law) := ⟨rfl, rfl, rfl, by decide +kernel, rfl, by decide +kernel, by decide +kernel⟩
theorem fg_law (T : Facts K mg) {a : Addr} {fd : FuncData} (F : Fun K "law" "law" s_law a fd) (G_law_bag : Known P w K mg base "_law_bag" 1 1 m_law_bag) (G_law_pick : Known P w K mg base "_law_pick" 2 2 m_law_pick) (G_law_kitchen : Known P w K mg base "_law_kitchen" 4 3 m_law_kitchen) (G_law_kitchen_word : Known P w K mg base "_law_kitchen_word" 4 1 m_law_kitchen_word) (G_law_bent : Known P w K mg base "_law_bent" 4 2 m_law_bent) (G_law_odd : Known P w K mg base "_law_odd" 3 1 m_law_odd) (G_kitchen_error : Known P w K mg base "kitchen_error" 5 1 m_kitchen_error) : FnG P w K mg base CX0 6 a fd ["_law_script"] (spD K 1 (runD 12 b_law)) := by
  have S := sc_law
  refine okD F S rfl rfl fun cdv A outer s H E hr => ?_
  have hu := hr.hu
  have hu1 := hr.hu1
  have hu5 := hr.hu5
  exact ⟨_, (xss_cons (xs_set (i := 1) S.nd (xkn G_law_bag (hr.mono (by decide)) (xcons (xv 0) xnil)))
    (xss_cons (xs_kfor PassesOwn.never rfl (xi_rng1 T.n_range (xcons xint xnil)) (xg_name (i := 2) S.nd) (xss_cons (xs_set (i := 3) S.nd (xkn G_law_pick (hr.mono (by decide)) (xcons (xv 1) (xcons (xlst (xcons xint (xcons xint (xcons xint (xcons (xop q_pow xint xint) xnil))))) xnil))))
    (xss_cons (xs_set (i := 4) S.nd (xkn G_law_kitchen (hr.mono (by decide)) (xcons (xv 1) (xcons (xkn G_law_pick (hr.mono (by decide)) (xcons (xv 1) (xcons (xlst (xcons xint (xcons xint (xcons (xop q_pow xint xint) xnil)))) xnil))) (xcons (xv 3) xnil)))))
    (xss_cons (xs_if (xtcmp q_isnot (xkn G_law_kitchen_word (hr.mono (by decide)) (xcons (xv 4) xnil)) xnon) (xss_one (xs_ret xbl)) xss_nil)
    (xss_cons (xs_ksetLc (i := 5) (own := [("_law_again", 8)]) rfl S.nd (xi_rng1 T.n_range (xcons xint xnil)) (blkOk_by (N := ["_law_script", "_law_bag_here", "_law_turn", "_law_share", "_law_kitchen_here", "_law_bent_here", "_law_twice", "_law_value", "_law_again", "_law_one", "_law_shown", "_law_due"]) (sc := defScope s_law) (own := [("_law_again", 8)]) (by decide +kernel)) (fun _ _ _ _ _ => (xg_name (i := 8) S.nd)) (own_name (by decide)) (by intro _ _ _ _ _; exact xts_nil) (by intro _ _ _ _ _; exact (xkn G_law_bent (hr.mono (by decide)) (xcons (xv 1) (xcons (xv 4) xnil)))))
    (xss_cons (xs_ksetLc (i := 6) (own := [("_law_one", 9)]) rfl S.nd (xi_seq (xv 5)) (blkOk_by (N := ["_law_script", "_law_bag_here", "_law_turn", "_law_share", "_law_kitchen_here", "_law_bent_here", "_law_twice", "_law_value", "_law_again", "_law_one", "_law_shown", "_law_due"]) (sc := defScope s_law) (own := [("_law_one", 9)]) (by decide +kernel)) (fun _ _ _ _ _ => (xg_name (i := 9) S.nd)) (own_name (by decide)) (by intro _ _ _ _ _; exact (xts_one (xtcmp q_is (xkn G_law_kitchen_word (hr.mono (by decide)) (xcons (xv 9) xnil)) xnon))) (by intro _ _ _ _ _; exact (xkn G_law_bent (hr.mono (by decide)) (xcons (xv 1) (xcons (xv 9) xnil)))))
    (xss_one (xs_kfor PassesOwn.never rfl (xi_seq (xop q_add (xop q_add (xop q_add (xlst (xcons (xv 4) xnil)) (xv 5)) (xv 6)) (xlst (xcons xnon (xcons (xtup xnil) (xcons (xkn G_law_odd (hr.mono (by decide)) (xcons (xv 1) xnil)) xnil)))))) (xg_name (i := 7) S.nd) (xss_cons (xs_par (i := 10) (j := 11) rfl S.nd (xcons (xcallB (qk_reprX hr) T.n_repr (xcons (xv 7) xnil)) (xcons (xkn G_law_kitchen_word (hr.mono (by decide)) (xcons (xv 7) xnil)) xnil)) (by decide))
    (xss_one (xs_if (xtcmp (qk_ne hu) (xcallB (qk_reprX hr) T.n_repr (xcons (xlst (xcons (xkn G_kitchen_error (hr.mono (by decide)) (xcons (xv 7) xnil)) (xcons (xkn G_kitchen_error (hr.mono (by decide)) (xcons (xv 7) xnil)) (xcons (xcallB (qk_reprX hr) T.n_repr (xcons (xv 7) xnil)) xnil)))) xnil)) (xcallB (qk_reprX hr) T.n_repr (xcons (xlst (xcons (xv 11) (xcons (xv 11) (xcons (xv 10) xnil)))) xnil))) (xss_one (xs_ret xbl)) xss_nil)))))))))))
    (xss_one (xs_ret xbl))))⟩
end
end DL

set_option linter.all false
set_option maxRecDepth 100000
set_option maxHeartbeats 2000000
namespace DL
open PySem PySem.Spec PyProof.Rows L2
/-! the bag -/
def Bag (h : DH) (b : Addr) : Prop := ∃ g s n : Int, h b = some (.lst [.int g, .int s, .int n])
/-- nothing but the bag is otherwise, and new things -/
def Fr (b : Addr) (h h' : DH) : Prop := (∀ a o, a ≠ b → h a = some o → h' a = some o) ∧ Bag h' b
theorem Fr.bag {b : Addr} {h h' : DH} (f : Fr b h h') : Bag h' b := f.2
theorem Fr.trans {b : Addr} {h h' h'' : DH} (f : Fr b h h') (g : Fr b h' h'') : Fr b h h'' := ⟨fun a o e q => g.1 a o e (f.1 a o e q), g.2⟩
theorem Bag.ext {b : Addr} {h h' : DH} (B : Bag h b) (x : Ext h h') : Bag h' b := let ⟨g, s, n, e⟩ := B; ⟨g, s, n, x _ _ e⟩
theorem Fr.of_ext {b : Addr} {h h' : DH} (B : Bag h b) (x : Ext h h') : Fr b h h' := ⟨fun a o _ q => x a o q, B.ext x⟩
theorem Bag.ne {b p : Addr} {h : DH} (B : Bag h b) (e : h p = none) : p ≠ b := fun z => by
  obtain ⟨g, s, n, q⟩ := B
  rw [z, q] at e; cases e
theorem fr_put {h : DH} {b : Addr} {g s n : Int} : Fr b h (hupd h b (.lst [.int g, .int s, .int n])) := ⟨fun a o e q => by rw [hupd_ne e]; exact q, g, s, n, hupd_same⟩
theorem sp_draw {h : DH} {b : Addr} {lim : Int} {Q : DK} (B : Bag h b) (h0 : 0 < lim) (h1 : lim < 2 ^ 250) (k : ∀ v h', Fr b h h' → 0 ≤ v → v < lim → Q (.int v) h') : m_law_draw [.loc b, .int lim] h Q := by
  obtain ⟨g, s, n, hb⟩ := B
  apply m_law_draw_ap
  (conv => whnf); (repeat (first | (refine w_need rfl ?_; (conv => whnf)) | (refine w_ix (by assumption) rfl ?_; (conv => whnf)) | (refine w_ix hupd_same rfl ?_; (conv => whnf)) | (refine w_setL (by assumption) rfl ?_; (conv => whnf)) | (refine w_setL hupd_same rfl ?_; (conv => whnf)) | (refine w_eqi ?_; (conv => whnf)) | (refine w_eqs ?_; (conv => whnf)) | (refine w_t (by first | rfl | decide | assumption) ?_; (conv => whnf)) | (refine w_f (by first | rfl | decide | assumption) ?_; (conv => whnf)) | (refine And.intro (by first | omega | rfl | decide | assumption | exact Nat.le_of_ble_eq_true rfl | exact mulR (by omega) (by omega) | exact mulL (by omega) (by omega) | exact mulM (by omega) (by omega) | exact divOk (by omega) (by omega) | exact Exists.intro _ (by assumption)) ?_; (conv => whnf))))
  refine w_ite (fun hg => ?_) (fun hg => ?_)
  · (conv => whnf); (repeat (first | (refine w_need rfl ?_; (conv => whnf)) | (refine w_ix (by assumption) rfl ?_; (conv => whnf)) | (refine w_ix hupd_same rfl ?_; (conv => whnf)) | (refine w_setL (by assumption) rfl ?_; (conv => whnf)) | (refine w_setL hupd_same rfl ?_; (conv => whnf)) | (refine w_eqi ?_; (conv => whnf)) | (refine w_eqs ?_; (conv => whnf)) | (refine w_t (by first | rfl | decide | assumption) ?_; (conv => whnf)) | (refine w_f (by first | rfl | decide | assumption) ?_; (conv => whnf)) | (refine And.intro (by first | omega | rfl | decide | assumption | exact Nat.le_of_ble_eq_true rfl | exact mulR (by omega) (by omega) | exact mulL (by omega) (by omega) | exact mulM (by omega) (by omega) | exact divOk (by omega) (by omega) | exact Exists.intro _ (by assumption)) ?_; (conv => whnf))))
    exact k _ _ fr_put (Int.emod_nonneg _ (by omega)) (Int.emod_lt_of_pos _ h0)
  · (conv => whnf); (repeat (first | (refine w_need rfl ?_; (conv => whnf)) | (refine w_ix (by assumption) rfl ?_; (conv => whnf)) | (refine w_ix hupd_same rfl ?_; (conv => whnf)) | (refine w_setL (by assumption) rfl ?_; (conv => whnf)) | (refine w_setL hupd_same rfl ?_; (conv => whnf)) | (refine w_eqi ?_; (conv => whnf)) | (refine w_eqs ?_; (conv => whnf)) | (refine w_t (by first | rfl | decide | assumption) ?_; (conv => whnf)) | (refine w_f (by first | rfl | decide | assumption) ?_; (conv => whnf)) | (refine And.intro (by first | omega | rfl | decide | assumption | exact Nat.le_of_ble_eq_true rfl | exact mulR (by omega) (by omega) | exact mulL (by omega) (by omega) | exact mulM (by omega) (by omega) | exact divOk (by omega) (by omega) | exact Exists.intro _ (by assumption)) ?_; (conv => whnf))))
    rw [hupd_hupd]
    exact k _ _ fr_put (Int.emod_nonneg _ (by omega)) (Int.emod_lt_of_pos _ h0)
theorem sp_pick {h : DH} {b p : Addr} {xs : List D} {Q : DK} (B : Bag h b) (hp : h p = some (.lst xs)) (hne : p ≠ b) (h0 : 0 < xs.length) (h1 : xs.length < 1000000) (k : ∀ x h', x ∈ xs → Fr b h h' → Q x h') : m_law_pick [.loc b, .loc p] h Q := by
  apply m_law_pick_ap
  (conv => whnf)
  refine w_need (v := .int xs.length) (by show lenO (h p) = _; rw [hp]; rfl) ?_
  (conv => whnf); (repeat (first | (refine w_need rfl ?_; (conv => whnf)) | (refine w_ix (by assumption) rfl ?_; (conv => whnf)) | (refine w_ix hupd_same rfl ?_; (conv => whnf)) | (refine w_setL (by assumption) rfl ?_; (conv => whnf)) | (refine w_setL hupd_same rfl ?_; (conv => whnf)) | (refine w_eqi ?_; (conv => whnf)) | (refine w_eqs ?_; (conv => whnf)) | (refine w_t (by first | rfl | decide | assumption) ?_; (conv => whnf)) | (refine w_f (by first | rfl | decide | assumption) ?_; (conv => whnf)) | (refine And.intro (by first | omega | rfl | decide | assumption | exact Nat.le_of_ble_eq_true rfl | exact mulR (by omega) (by omega) | exact mulL (by omega) (by omega) | exact mulM (by omega) (by omega) | exact divOk (by omega) (by omega) | exact Exists.intro _ (by assumption)) ?_; (conv => whnf))))
  refine sp_draw B (by omega) (by omega) fun v h' f v0 v1 => ?_
  (conv => whnf)
  have hp' := f.1 _ _ hne hp
  have hv : v.toNat < xs.length := by omega
  refine w_ix hp' (v := xs[v.toNat]) ?_ (k _ _ (List.getElem_mem _) f)
  show atI xs v = _
  exact atI_at v0 hv
end DL

set_option linter.all false
set_option maxRecDepth 100000
set_option maxHeartbeats 2000000
namespace DL
open PySem PySem.Spec PyProof.Rows L2
theorem valD_put {κ : Type} [DecidableEq κ] (k k' : κ) (v : D) : ∀ kvs : List (κ × D), valD (putD kvs k v) k' = if k' = k then some v else valD kvs k' := by
  have hmap : ∀ kvs : List (κ × D), valD (kvs.map fun kv => if kv.1 = k then (kv.1, v) else kv) k' = if k' = k then (valD kvs k').map (fun _ => v) else valD kvs k' := by
    intro kvs
    induction kvs with
    | nil => simp [valD]
    | cons p ps ih =>
      unfold valD at ih ⊢
      rw [List.map_cons, List.find?_cons, List.find?_cons]
      by_cases e : p.1 = k
      · rw [if_pos e]
        by_cases e2 : p.1 = k'
        · subst e2
          rw [if_pos e]
          simp
        · have ne : ¬ k' = k := fun z => e2 (by rw [e, z])
          rw [if_neg ne] at ih ⊢
          simp only [decide_eq_true_eq, e2, decide_false]
          exact ih
      · rw [if_neg e]
        by_cases e2 : p.1 = k'
        · have ne : ¬ k' = k := fun z => e (by rw [← z, ← e2])
          simp [e2, ne]
        · simp only [e2, decide_false]
          exact ih
  have hany : ∀ kvs : List (κ × D), (kvs.any fun kv => decide (kv.1 = k)) = (valD kvs k).isSome := by
    intro kvs
    induction kvs with
    | nil => rfl
    | cons p ps ih =>
      unfold valD at ih ⊢
      rw [List.any_cons, List.find?_cons]
      by_cases e : p.1 = k
      · simp [e]
      · simp only [e, decide_false, Bool.false_or]; exact ih
  have happ : ∀ kvs : List (κ × D), valD (kvs ++ [(k, v)]) k' = (valD kvs k').or (if k' = k then some v else none) := by
    intro kvs
    unfold valD
    rw [List.find?_append]
    cases z : kvs.find? fun kv => decide (kv.1 = k') with
    | some x => simp
    | none =>
      by_cases e : k' = k
      · subst e; simp
      · have e' : ¬ k = k' := fun z => e z.symm
        simp [e, e']
  intro kvs
  unfold putD
  rw [hany]
  cases z : valD kvs k with
  | some x =>
    rw [if_pos (by rfl), hmap]
    by_cases e : k' = k
    · subst e; rw [if_pos rfl, if_pos rfl, z]; rfl
    · rw [if_neg e, if_neg e]
  | none =>
    rw [if_neg (by simp), happ]
    by_cases e : k' = k
    · subst e; rw [if_pos rfl, z, if_pos rfl]; rfl
    · rw [if_neg e, if_neg e]; cases valD kvs k' <;> rfl
theorem putD_length {κ : Type} [DecidableEq κ] (k : κ) (v : D) (kvs : List (κ × D)) : (putD kvs k v).length ≤ kvs.length + 1 := by
  unfold putD
  split <;> simp
theorem putD_length_of {κ : Type} [DecidableEq κ] {k : κ} {v w : D} {kvs : List (κ × D)} (e : valD kvs k = some w) : (putD kvs k v).length = kvs.length := by
  unfold putD
  have hany : (kvs.any fun kv => decide (kv.1 = k)) = true := by
    unfold valD at e
    obtain ⟨x, hx, _⟩ := Option.map_eq_some_iff.mp e
    exact List.any_eq_true.mpr ⟨x, List.mem_of_find?_eq_some hx, List.find?_some (p := fun kv : κ × D => decide (kv.1 = k)) hx⟩
  rw [if_pos hany]
  simp
theorem sp_bag {h : DH} {ns : List Int} {Q : DK} (hl : ns.length ≤ 63) (k : ∀ b h' g s, Ext h h' → h b = none → h' b = none → Q (.loc b) (hupd h' b (.lst [.int g, .int s, .int 0]))) : m_law_bag [.fls (ns.map D.int)] h Q := by
  apply m_law_bag_ap
  (conv => whnf); (repeat (first | (refine w_need rfl ?_; (conv => whnf)) | (refine w_ix (by assumption) rfl ?_; (conv => whnf)) | (refine w_ix hupd_same rfl ?_; (conv => whnf)) | (refine w_setL (by assumption) rfl ?_; (conv => whnf)) | (refine w_setL hupd_same rfl ?_; (conv => whnf)) | (refine w_eqi ?_; (conv => whnf)) | (refine w_eqs ?_; (conv => whnf)) | (refine w_t (by first | rfl | decide | assumption) ?_; (conv => whnf)) | (refine w_f (by first | rfl | decide | assumption) ?_; (conv => whnf)) | (refine And.intro (by first | omega | rfl | decide | assumption | exact Nat.le_of_ble_eq_true rfl | exact mulR (by omega) (by omega) | exact mulL (by omega) (by omega) | exact mulM (by omega) (by omega) | exact divOk (by omega) (by omega) | exact Exists.intro _ (by assumption)) ?_; (conv => whnf))))
  refine w_for ?_
  (conv => whnf)
  intro p hp
  (conv => whnf)
  rw [hupd_same]
  (conv => whnf)
  refine w_loop (I := fun _ τ h' => h' = hupd h p (.lst (cutD (ns.map D.int) none (some 63))) ∧ ∃ c g s, τ = [some (.fls (ns.map D.int)), c, some (.int g), some (.int s)]) ⟨rfl, none, _, _, rfl⟩ (fun _ _ _ _ e => by rw [e.1]; exact hupd_same) ?_ ?_
  · rintro i d τ h' nx e ⟨rfl, c, g, s, rfl⟩ hn
    have hd : ∃ z, d = .int z := by
      have := List.mem_of_getElem? e
      unfold cutD at this
      have := List.mem_of_mem_drop (List.mem_of_mem_take this)
      obtain ⟨z, _, e⟩ := List.mem_map.mp this
      exact ⟨z, e.symm⟩
    obtain ⟨z, rfl⟩ := hd
    (conv => whnf); (repeat (first | (refine w_need rfl ?_; (conv => whnf)) | (refine w_ix (by assumption) rfl ?_; (conv => whnf)) | (refine w_ix hupd_same rfl ?_; (conv => whnf)) | (refine w_setL (by assumption) rfl ?_; (conv => whnf)) | (refine w_setL hupd_same rfl ?_; (conv => whnf)) | (refine w_eqi ?_; (conv => whnf)) | (refine w_eqs ?_; (conv => whnf)) | (refine w_t (by first | rfl | decide | assumption) ?_; (conv => whnf)) | (refine w_f (by first | rfl | decide | assumption) ?_; (conv => whnf)) | (refine And.intro (by first | omega | rfl | decide | assumption | exact Nat.le_of_ble_eq_true rfl | exact mulR (by omega) (by omega) | exact mulL (by omega) (by omega) | exact mulM (by omega) (by omega) | exact divOk (by omega) (by omega) | exact Exists.intro _ (by assumption)) ?_; (conv => whnf))))
    refine w_ite (fun hz => ?_) (fun hz => ?_)
    · (conv => whnf); (repeat (first | (refine w_need rfl ?_; (conv => whnf)) | (refine w_ix (by assumption) rfl ?_; (conv => whnf)) | (refine w_ix hupd_same rfl ?_; (conv => whnf)) | (refine w_setL (by assumption) rfl ?_; (conv => whnf)) | (refine w_setL hupd_same rfl ?_; (conv => whnf)) | (refine w_eqi ?_; (conv => whnf)) | (refine w_eqs ?_; (conv => whnf)) | (refine w_t (by first | rfl | decide | assumption) ?_; (conv => whnf)) | (refine w_f (by first | rfl | decide | assumption) ?_; (conv => whnf)) | (refine And.intro (by first | omega | rfl | decide | assumption | exact Nat.le_of_ble_eq_true rfl | exact mulR (by omega) (by omega) | exact mulL (by omega) (by omega) | exact mulM (by omega) (by omega) | exact divOk (by omega) (by omega) | exact Exists.intro _ (by assumption)) ?_; (conv => whnf))))
      exact hn _ _ ⟨rfl, _, _, _, rfl⟩
    · (conv => whnf); (repeat (first | (refine w_need rfl ?_; (conv => whnf)) | (refine w_ix (by assumption) rfl ?_; (conv => whnf)) | (refine w_ix hupd_same rfl ?_; (conv => whnf)) | (refine w_setL (by assumption) rfl ?_; (conv => whnf)) | (refine w_setL hupd_same rfl ?_; (conv => whnf)) | (refine w_eqi ?_; (conv => whnf)) | (refine w_eqs ?_; (conv => whnf)) | (refine w_t (by first | rfl | decide | assumption) ?_; (conv => whnf)) | (refine w_f (by first | rfl | decide | assumption) ?_; (conv => whnf)) | (refine And.intro (by first | omega | rfl | decide | assumption | exact Nat.le_of_ble_eq_true rfl | exact mulR (by omega) (by omega) | exact mulL (by omega) (by omega) | exact mulM (by omega) (by omega) | exact divOk (by omega) (by omega) | exact Exists.intro _ (by assumption)) ?_; (conv => whnf))))
      exact hn _ _ ⟨rfl, _, _, _, rfl⟩
  · rintro τ h' ⟨rfl, c, g, s, rfl⟩
    (conv => whnf); (repeat (first | (refine w_need rfl ?_; (conv => whnf)) | (refine w_ix (by assumption) rfl ?_; (conv => whnf)) | (refine w_ix hupd_same rfl ?_; (conv => whnf)) | (refine w_setL (by assumption) rfl ?_; (conv => whnf)) | (refine w_setL hupd_same rfl ?_; (conv => whnf)) | (refine w_eqi ?_; (conv => whnf)) | (refine w_eqs ?_; (conv => whnf)) | (refine w_t (by first | rfl | decide | assumption) ?_; (conv => whnf)) | (refine w_f (by first | rfl | decide | assumption) ?_; (conv => whnf)) | (refine And.intro (by first | omega | rfl | decide | assumption | exact Nat.le_of_ble_eq_true rfl | exact mulR (by omega) (by omega) | exact mulL (by omega) (by omega) | exact mulM (by omega) (by omega) | exact divOk (by omega) (by omega) | exact Exists.intro _ (by assumption)) ?_; (conv => whnf))))
    intro b hb
    refine k b _ g s (ext_new hp) ?_ hb
    rw [hupd_ne (fun z => by subst z; rw [hupd_same] at hb; cases hb)] at hb
    exact hb
end DL

set_option linter.all false
set_option maxRecDepth 100000
set_option maxHeartbeats 2000000
namespace DL
open PySem PySem.Spec PyProof.Rows L2
/-! the ties' table: plain mathematics -/
def optD : Option Int → D
  | none => .non
  | some i => .int i
abbrev Tb := Int → Int → Option Int
def upd2 (T : Tb) (i j : Int) (v : Option Int) : Tb := fun a b => if a = i ∧ b = j then v else T a b
def better (o : Option Int) (z : Int) : Bool := match o with
  | none => true
  | some y => decide (z < y)
def relax (T : Tb) (i j z : Int) : Tb := if better (T i j) z = true then upd2 T i j (some z) else T
def mid (T : Tb) (k i j : Int) : Tb := match T i k, T k j with
  | some a, some b => relax T i j (a + b)
  | _, _ => T
def foldN {α : Type} (f : α → Nat → α) (T : α) : Nat → α
  | 0 => T
  | n + 1 => f (foldN f T n) n
theorem foldN_succ {α : Type} (f : α → Nat → α) (T : α) (n : Nat) : foldN f T (n + 1) = f (foldN f T n) n := rfl
def tb0 : Tb := fun i j => if i = j then some 0 else none
structure Tie where
  a : Int
  b : Int
  lo : Int
  hi : Int
def Tie.l (t : Tie) : List Int := [t.a, t.b, t.lo, t.hi]
def tieS (T : Tb) (t : Tie) : Tb := relax (relax T t.a t.b t.hi) t.b t.a (0 - t.lo)
def rowS (n : Nat) (k i : Int) (T : Tb) (m : Nat) : Tb := foldN (fun T (j : Nat) => mid T k i j) T m
def midS (n : Nat) (k : Int) (T : Tb) (m : Nat) : Tb := foldN (fun T (i : Nat) => rowS n k i T n) T m
def roundS (n : Nat) (T : Tb) (m : Nat) : Tb := foldN (fun T (k : Nat) => midS n k T n) T m
def ties0 (ts : List Tie) : Tb := ts.foldl tieS tb0
def gapsF (n : Nat) (ts : List Tie) : Tb := roundS n (ties0 ts) n
def upsF (n : Nat) (ts : List Tie) : Tb := roundS n (gapsF n ts) n
/-- entries only fall -/
def LeT (T U : Tb) : Prop := ∀ a b u, U a b = some u → ∃ w, T a b = some w ∧ w ≤ u
theorem LeT.refl (T : Tb) : LeT T T := fun a b u e => ⟨u, e, Int.le_refl _⟩
theorem LeT.trans {T U V : Tb} (x : LeT T U) (y : LeT U V) : LeT T V := fun a b u e => by
  obtain ⟨w, e1, l1⟩ := y a b u e
  obtain ⟨z, e2, l2⟩ := x a b w e1
  exact ⟨z, e2, Int.le_trans l2 l1⟩
theorem upd2_same {T : Tb} {i j : Int} {v : Option Int} : upd2 T i j v i j = v := by unfold upd2; rw [if_pos ⟨rfl, rfl⟩]
theorem upd2_ne {T : Tb} {i j a b : Int} {v : Option Int} (h : ¬ (a = i ∧ b = j)) : upd2 T i j v a b = T a b := by unfold upd2; rw [if_neg h]
theorem relax_le (T : Tb) (i j z : Int) : LeT (relax T i j z) T := fun a b u e => by
  unfold relax
  split
  · rename_i h
    by_cases q : a = i ∧ b = j
    · obtain ⟨rfl, rfl⟩ := q
      rw [upd2_same]
      unfold better at h
      rw [e] at h
      exact ⟨z, rfl, by have := of_decide_eq_true h; omega⟩
    · rw [upd2_ne q]; exact ⟨u, e, Int.le_refl _⟩
  · exact ⟨u, e, Int.le_refl _⟩
theorem relax_at (T : Tb) (i j z : Int) : ∃ w, relax T i j z i j = some w ∧ w ≤ z ∧ (w = z ∨ T i j = some w) := by
  unfold relax
  cases h : T i j with
  | none => exact ⟨z, by unfold better; rw [if_pos rfl, upd2_same], Int.le_refl _, .inl rfl⟩
  | some y =>
    unfold better
    dsimp only
    by_cases q : z < y
    · rw [if_pos (decide_eq_true q), upd2_same]; exact ⟨z, rfl, Int.le_refl _, .inl rfl⟩
    · rw [if_neg (by simpa using q)]; exact ⟨y, h, by omega, .inr rfl⟩
theorem relax_ne (T : Tb) {i j z a b : Int} (h : ¬ (a = i ∧ b = j)) : relax T i j z a b = T a b := by
  unfold relax
  split
  · exact upd2_ne h
  · rfl
theorem relax_noop {T : Tb} {i j z : Int} (h : ∃ w, T i j = some w ∧ w ≤ z) : relax T i j z = T := by
  obtain ⟨w, e, l⟩ := h
  unfold relax better
  rw [e]
  dsimp only
  rw [if_neg (by simp; omega)]
theorem mid_le (T : Tb) (k i j : Int) : LeT (mid T k i j) T := by
  unfold mid
  split
  · exact relax_le _ _ _ _
  · exact .refl _
theorem foldN_le {f : Tb → Nat → Tb} (h : ∀ T n, LeT (f T n) T) (T : Tb) : ∀ n, LeT (foldN f T n) T
  | 0 => .refl _
  | n + 1 => (h _ _).trans (foldN_le h T n)
theorem rowS_le (n : Nat) (k i : Int) (T : Tb) (m : Nat) : LeT (rowS n k i T m) T := foldN_le (fun T j => mid_le T k i j) T m
theorem midS_le (n : Nat) (k : Int) (T : Tb) (m : Nat) : LeT (midS n k T m) T := foldN_le (fun T i => rowS_le n k i T n) T m
theorem roundS_le (n : Nat) (T : Tb) (m : Nat) : LeT (roundS n T m) T := foldN_le (fun T k => midS_le n k T n) T m
theorem tieS_le (T : Tb) (t : Tie) : LeT (tieS T t) T := (relax_le _ _ _ _).trans (relax_le _ _ _ _)
theorem ties_le : ∀ (ts : List Tie) (T : Tb), LeT (ts.foldl tieS T) T
  | [], T => .refl _
  | t :: ts, T => (ties_le ts (tieS T t)).trans (tieS_le T t)
theorem ties0_dg (ts : List Tie) (i : Int) : ∃ z, ties0 ts i i = some z ∧ z ≤ 0 := ties_le ts tb0 i i 0 (by unfold tb0; rw [if_pos rfl])
theorem gapsF_dg (n : Nat) (ts : List Tie) (i : Int) : ∃ z, gapsF n ts i i = some z ∧ z ≤ 0 := by
  obtain ⟨z, e, l⟩ := ties0_dg ts i
  obtain ⟨w, e2, l2⟩ := roundS_le n (ties0 ts) n i i z e
  exact ⟨w, e2, by omega⟩
theorem upsF_dg (n : Nat) (ts : List Tie) (i : Int) : ∃ z, upsF n ts i i = some z ∧ z ≤ 0 := by
  obtain ⟨z, e, l⟩ := gapsF_dg n ts i
  obtain ⟨w, e2, l2⟩ := roundS_le n (gapsF n ts) n i i z e
  exact ⟨w, e2, by omega⟩
/-- one step of the rounds, entry by entry -/
structure Stp (n : Nat) (k : Int) (T U : Tb) : Prop where
  le1 : LeT U T
  le2 : ∀ a b p q : Int, 0 ≤ a → a < n → 0 ≤ b → b < n → T a k = some p → T k b = some q → ∃ w, U a b = some w ∧ w ≤ p + q
  frm : ∀ a b u : Int, 0 ≤ a → a < n → 0 ≤ b → b < n → U a b = some u → T a b = some u ∨ ∃ p q, T a k = some p ∧ T k b = some q ∧ u = p + q
/-- what stands within the step: rows below i and row i's places below j are done -/
structure Part (n : Nat) (k : Int) (T U : Tb) (i j : Int) : Prop where
  done : ∀ a b p q : Int, 0 ≤ a → a < n → 0 ≤ b → b < n → (a < i ∨ (a = i ∧ b < j)) → T a k = some p → T k b = some q → ∃ w, U a b = some w ∧ w ≤ p + q
  rest : ∀ a b : Int, 0 ≤ a → a < n → 0 ≤ b → b < n → ¬ (a < i ∨ (a = i ∧ b < j)) → U a b = T a b
  frm : ∀ a b u : Int, 0 ≤ a → a < n → 0 ≤ b → b < n → U a b = some u → T a b = some u ∨ ∃ p q, T a k = some p ∧ T k b = some q ∧ u = p + q
  col : ∀ a : Int, 0 ≤ a → a < n → U a k = T a k
  row : ∀ b : Int, 0 ≤ b → b < n → U k b = T k b
theorem part_mid {n : Nat} {k i j v : Int} {T U : Tb} (P : Part n k T U i j) (hk : 0 ≤ k) (hkn : k < n) (hi : 0 ≤ i) (hin : i < n) (hj : 0 ≤ j) (hjn : j < n) (hv : T k k = some v) (hv0 : 0 ≤ v) : Part n k T (mid U k i j) i (j + 1) := by
  have eU : U i j = T i j := P.rest i j hi hin hj hjn (by omega)
  unfold mid
  rw [P.col i hi hin, P.row j hj hjn]
  cases h1 : T i k with
  | none =>
    dsimp only
    refine ⟨fun a b p q h2 h3 h4 h5 h6 e1 e2 => ?_, fun a b h2 h3 h4 h5 h6 => P.rest a b h2 h3 h4 h5 (by omega), P.frm, P.col, P.row⟩
    by_cases z : a = i ∧ b = j
    · obtain ⟨rfl, rfl⟩ := z
      rw [h1] at e1; cases e1
    · exact P.done a b p q h2 h3 h4 h5 (by omega) e1 e2
  | some x =>
    cases h2 : T k j with
    | none =>
      dsimp only
      refine ⟨fun a b p q g2 h3 h4 h5 h6 e1 e2 => ?_, fun a b h2 h3 h4 h5 h6 => P.rest a b h2 h3 h4 h5 (by omega), P.frm, P.col, P.row⟩
      by_cases z : a = i ∧ b = j
      · obtain ⟨rfl, rfl⟩ := z
        rw [h2] at e2; cases e2
      · exact P.done a b p q g2 h3 h4 h5 (by omega) e1 e2
    | some y =>
      dsimp only
      obtain ⟨w, ew, lw, ow⟩ := relax_at U i j (x + y)
      refine ⟨fun a b p q g2 g3 g4 g5 g6 e1 e2 => ?_, fun a b g2 g3 g4 g5 g6 => ?_, fun a b u g2 g3 g4 g5 e => ?_, fun a g2 g3 => ?_, fun b g2 g3 => ?_⟩
      · by_cases z : a = i ∧ b = j
        · obtain ⟨rfl, rfl⟩ := z
          rw [h1] at e1; cases e1
          rw [h2] at e2; cases e2
          exact ⟨w, ew, lw⟩
        · rw [relax_ne U z]
          exact P.done a b p q g2 g3 g4 g5 (by omega) e1 e2
      · rw [relax_ne U (by omega)]
        exact P.rest a b g2 g3 g4 g5 (by omega)
      · by_cases z : a = i ∧ b = j
        · obtain ⟨rfl, rfl⟩ := z
          rw [ew] at e
          have e : w = u := Option.some.inj e
          subst e
          rcases ow with ow | ow
          · exact .inr ⟨x, y, h1, h2, ow⟩
          · exact .inl (by rw [← eU]; exact ow)
        · rw [relax_ne U z] at e
          exact P.frm a b u g2 g3 g4 g5 e
      · by_cases z : a = i ∧ k = j
        · obtain ⟨rfl, rfl⟩ := z
          rw [hv] at h2; cases h2
          rw [relax_noop ⟨x, by rw [eU]; exact h1, by omega⟩]
          exact P.col _ g2 g3
        · rw [relax_ne U z]; exact P.col _ g2 g3
      · by_cases z : k = i ∧ b = j
        · obtain ⟨rfl, rfl⟩ := z
          rw [hv] at h1; cases h1
          rw [relax_noop ⟨y, by rw [eU]; exact h2, by omega⟩]
          exact P.row _ g2 g3
        · rw [relax_ne U z]; exact P.row _ g2 g3
theorem part_row {n : Nat} {k i v : Int} {T U : Tb} (hk : 0 ≤ k) (hkn : k < n) (hi : 0 ≤ i) (hin : i < n) (hv : T k k = some v) (hv0 : 0 ≤ v) (P : Part n k T U i 0) : ∀ m : Nat, m ≤ n → Part n k T (rowS n k i U m) i m
  | 0, _ => P
  | m + 1, hm => by
    have q := part_mid (part_row hk hkn hi hin hv hv0 P m (by omega)) hk hkn hi hin (Int.natCast_nonneg m) (by omega) hv hv0
    exact_mod_cast q
theorem part_next {n : Nat} {k i : Int} {T U : Tb} (P : Part n k T U i n) : Part n k T U (i + 1) 0 :=
  ⟨fun a b p q h1 h2 h3 h4 h5 => P.done a b p q h1 h2 h3 h4 (by omega), fun a b h1 h2 h3 h4 h5 => P.rest a b h1 h2 h3 h4 (by omega), P.frm, P.col, P.row⟩
theorem part_rows {n : Nat} {k v : Int} {T : Tb} (hk : 0 ≤ k) (hkn : k < n) (hv : T k k = some v) (hv0 : 0 ≤ v) : ∀ m : Nat, m ≤ n → Part n k T (midS n k T m) m 0
  | 0, _ => ⟨fun a b p q h1 h2 h3 h4 h5 => by omega, fun a b h1 h2 h3 h4 h5 => rfl, fun a b u h1 h2 h3 h4 e => .inl e, fun _ _ _ => rfl, fun _ _ _ => rfl⟩
  | m + 1, hm => by
    have q := part_next (part_row hk hkn (Int.natCast_nonneg m) (by omega) hv hv0 (part_rows hk hkn hv hv0 m (by omega)) n (Nat.le_refl n))
    exact_mod_cast q
theorem stp_midS {n : Nat} {k v : Int} {T : Tb} (hk : 0 ≤ k) (hkn : k < n) (hv : T k k = some v) (hv0 : 0 ≤ v) : Stp n k T (midS n k T n) := by
  have P := part_rows hk hkn hv hv0 n (Nat.le_refl n)
  exact ⟨midS_le n k T n, fun a b p q h1 h2 h3 h4 e1 e2 => P.done a b p q h1 h2 h3 h4 (by omega) e1 e2, P.frm⟩
/-- by way of the ovens below m nothing is shorter -/
def Clo (n m : Nat) (T : Tb) : Prop := ∀ a b l u v : Int, 0 ≤ a → a < n → 0 ≤ b → b < n → 0 ≤ l → l < m → T a l = some u → T l b = some v → ∃ w, T a b = some w ∧ w ≤ u + v
theorem clo_step {n m : Nat} {v : Int} {T U : Tb} (hm : m < n) (hv : T m m = some v) (hv0 : 0 ≤ v) (S : Stp n m T U) (C : Clo n m T) : Clo n (m + 1) U := by
  have hmn : (m : Int) < n := by omega
  have hm0 : (0 : Int) ≤ m := Int.natCast_nonneg m
  intro a b l u w ha ha2 hb hb2 hl hl2 e1 e2
  have rA : ∀ x, T a m = some x → ∀ y, T m b = some y → x + y ≤ u + w → ∃ z, U a b = some z ∧ z ≤ u + w := fun x h1 y h2 h3 => by
    obtain ⟨z, ez, lz⟩ := S.le2 a b x y ha ha2 hb hb2 h1 h2
    exact ⟨z, ez, by omega⟩
  have f1 := S.frm a l u ha ha2 hl (by omega) e1
  have f2 := S.frm l b w hl (by omega) hb hb2 e2
  by_cases hlm : l < m
  · rcases f1 with f1 | ⟨p, q, f1, f1', rfl⟩
    · rcases f2 with f2 | ⟨r, s, f2, f2', rfl⟩
      · obtain ⟨x, ex, lx⟩ := C a b l u w ha ha2 hb hb2 hl hlm f1 f2
        obtain ⟨z, ez, lz⟩ := S.le1 a b x ex
        exact ⟨z, ez, by omega⟩
      · obtain ⟨x, ex, lx⟩ := C a m l u r ha ha2 hm0 hmn hl hlm f1 f2
        exact rA x ex s f2' (by omega)
    · rcases f2 with f2 | ⟨r, s, f2, f2', rfl⟩
      · obtain ⟨x, ex, lx⟩ := C m b l q w hm0 hmn hb hb2 hl hlm f1' f2
        exact rA p f1 x ex (by omega)
      · obtain ⟨x, ex, lx⟩ := C m m l q r hm0 hmn hm0 hmn hl hlm f1' f2
        rw [hv] at ex
        have ex : v = x := Option.some.inj ex
        exact rA p f1 s f2' (by omega)
  · have e : l = m := by omega
    subst e
    obtain ⟨p, hp, lp⟩ : ∃ p, T a m = some p ∧ p ≤ u := by
      rcases f1 with f1 | ⟨p, q, f1, f1', rfl⟩
      · exact ⟨u, f1, Int.le_refl _⟩
      · rw [hv] at f1'
        have f1' : v = q := Option.some.inj f1'
        exact ⟨p, f1, by omega⟩
    obtain ⟨q, hq, lq⟩ : ∃ q, T m b = some q ∧ q ≤ w := by
      rcases f2 with f2 | ⟨p, q, f2, f2', rfl⟩
      · exact ⟨w, f2, Int.le_refl _⟩
      · rw [hv] at f2
        have f2 : v = p := Option.some.inj f2
        exact ⟨q, f2', by omega⟩
    exact rA p hp q hq (by omega)
/-- the ovens' own entries are not below 0 -/
def NoNeg (n : Nat) (T : Tb) : Prop := ∀ i v : Int, 0 ≤ i → i < n → T i i = some v → 0 ≤ v
theorem foldN_le' {f : Tb → Nat → Tb} (h : ∀ T n, LeT (f T n) T) (T : Tb) {m n : Nat} (hmn : m ≤ n) : LeT (foldN f T n) (foldN f T m) := by
  induction n with
  | zero => have : m = 0 := by omega
            subst this; exact .refl _
  | succ n ih =>
    by_cases e : m = n + 1
    · subst e; exact .refl _
    · exact (h _ _).trans (ih (by omega))
theorem clo_round {n : Nat} {T : Tb} (dg : ∀ i, ∃ z, T i i = some z) (nn : NoNeg n (roundS n T n)) : ∀ m : Nat, m ≤ n → Clo n m (roundS n T m)
  | 0, _ => fun a b l u v _ _ _ _ h5 h6 => by omega
  | m + 1, hm => by
    have C := clo_round dg nn m (by omega)
    obtain ⟨z, ez⟩ := dg m
    obtain ⟨v, ev, _⟩ := roundS_le n T m m m z ez
    obtain ⟨w, ew, lw⟩ := foldN_le' (fun T k => midS_le n k T n) T (show m ≤ n by omega) (m : Int) (m : Int) v ev
    have w0 := nn m w (Int.natCast_nonneg m) (by omega) ew
    have S := stp_midS (T := roundS n T m) (Int.natCast_nonneg m) (by omega : (m : Int) < n) ev (by omega)
    exact clo_step (by omega) ev (by omega) S C
theorem mid_noop {n : Nat} {T : Tb} {k i j : Int} (C : Clo n n T) (hk : 0 ≤ k) (hk2 : k < n) (hi : 0 ≤ i) (hi2 : i < n) (hj : 0 ≤ j) (hj2 : j < n) : mid T k i j = T := by
  unfold mid
  cases h1 : T i k with
  | none => rfl
  | some a =>
    cases h2 : T k j with
    | none => rfl
    | some b => exact relax_noop (C i j k a b hi hi2 hj hj2 hk hk2 h1 h2)
theorem round_noop {n : Nat} {T : Tb} (C : Clo n n T) : ∀ m : Nat, m ≤ n → roundS n T m = T := by
  have r : ∀ (k i : Int), 0 ≤ k → k < n → 0 ≤ i → i < n → ∀ m : Nat, m ≤ n → rowS n k i T m = T := by
    intro k i hk hk2 hi hi2 m
    induction m with
    | zero => intro _; rfl
    | succ m ih =>
      intro hm
      show mid (rowS n k i T m) k i m = T
      rw [ih (by omega)]
      exact mid_noop C hk hk2 hi hi2 (Int.natCast_nonneg m) (by omega)
  have s : ∀ (k : Int), 0 ≤ k → k < n → ∀ m : Nat, m ≤ n → midS n k T m = T := by
    intro k hk hk2 m
    induction m with
    | zero => intro _; rfl
    | succ m ih =>
      intro hm
      show rowS n k m (midS n k T m) n = T
      rw [ih (by omega)]
      exact r k m hk hk2 (Int.natCast_nonneg m) (by omega) n (Nat.le_refl n)
  intro m
  induction m with
  | zero => intro _; rfl
  | succ m ih =>
    intro hm
    show midS n m (roundS n T m) n = T
    rw [ih (by omega)]
    exact s m (Int.natCast_nonneg m) (by omega) n (Nat.le_refl n)
theorem noNeg_iff (n : Nat) (ts : List Tie) : NoNeg n (upsF n ts) ↔ NoNeg n (gapsF n ts) := by
  constructor
  · intro h i v h1 h2 e
    obtain ⟨w, ew, lw⟩ := roundS_le n (gapsF n ts) n i i v e
    have := h i w h1 h2 ew
    omega
  · intro h
    have C := clo_round (fun i => let ⟨z, e, _⟩ := ties0_dg ts i; ⟨z, e⟩) h n (Nat.le_refl n)
    have e : upsF n ts = gapsF n ts := round_noop C n (Nat.le_refl n)
    rw [e]; exact h
theorem ups_gaps {n : Nat} {ts : List Tie} (h : NoNeg n (gapsF n ts)) : upsF n ts = gapsF n ts := round_noop (clo_round (fun i => let ⟨z, e, _⟩ := ties0_dg ts i; ⟨z, e⟩) h n (Nat.le_refl n)) n (Nat.le_refl n)
theorem gaps_clo {n : Nat} {ts : List Tie} (h : NoNeg n (gapsF n ts)) : Clo n n (gapsF n ts) := clo_round (fun i => let ⟨z, e, _⟩ := ties0_dg ts i; ⟨z, e⟩) h n (Nat.le_refl n)
theorem gaps_self {n : Nat} {ts : List Tie} (h : NoNeg n (gapsF n ts)) {i : Int} (h1 : 0 ≤ i) (h2 : i < n) : gapsF n ts i i = some 0 := by
  obtain ⟨z, e, l⟩ := gapsF_dg n ts i
  have := h i z h1 h2 e
  rw [e]
  exact congrArg some (by omega)
/-- whether some oven's own entry is below 0 -/
def tornB (n : Nat) (T : Tb) : Bool := (List.range n).any fun i => match T (i : Nat) (i : Nat) with
  | some v => decide (v < 0)
  | none => false
theorem tornB_iff (n : Nat) (T : Tb) : tornB n T = false ↔ NoNeg n T := by
  unfold tornB
  rw [List.any_eq_false]
  constructor
  · intro h i v h1 h2 e
    have q := h i.toNat (List.mem_range.mpr (by omega))
    rw [Int.toNat_of_nonneg h1, e] at q
    simpa using q
  · intro h i hi
    cases e : T (i : Nat) (i : Nat) with
    | none => simp
    | some v =>
      have := h i v (Int.natCast_nonneg i) (by have := List.mem_range.mp hi; omega) e
      simpa using this
theorem torn_same (n : Nat) (ts : List Tie) : tornB n (upsF n ts) = tornB n (gapsF n ts) := by
  cases h : tornB n (gapsF n ts) with
  | false => exact (tornB_iff _ _).mpr ((noNeg_iff n ts).mpr ((tornB_iff _ _).mp h))
  | true =>
    cases h2 : tornB n (upsF n ts) with
    | true => rfl
    | false =>
      have := (tornB_iff _ _).mpr ((noNeg_iff n ts).mp ((tornB_iff _ _).mp h2))
      rw [this] at h; cases h
/-! how large the entries are -/
def Bd (M : Nat) (T : Tb) : Prop := ∀ a b v, T a b = some v → v.natAbs ≤ M
theorem Bd.mono {M N : Nat} {T : Tb} (h : Bd M T) (l : M ≤ N) : Bd N T := fun a b v e => Nat.le_trans (h a b v e) l
theorem bd_relax {M : Nat} {T : Tb} {i j z : Int} (h : Bd M T) (hz : z.natAbs ≤ M) : Bd M (relax T i j z) := fun a b v e => by
  unfold relax at e
  split at e
  · by_cases q : a = i ∧ b = j
    · obtain ⟨rfl, rfl⟩ := q
      rw [upd2_same] at e
      cases e; exact hz
    · rw [upd2_ne q] at e; exact h a b v e
  · exact h a b v e
theorem bd_mid {M : Nat} {T : Tb} {k i j : Int} (h : Bd M T) : Bd (2 * M) (mid T k i j) := by
  unfold mid
  split
  · rename_i x y e1 e2
    have h1 := h _ _ _ e1
    have h2 := h _ _ _ e2
    exact bd_relax (h.mono (by omega)) (by omega)
  · exact h.mono (by omega)
theorem bd_fold {f : Tb → Nat → Tb} {c : Nat} (h : ∀ T n M, Bd M T → Bd (c * M) (f T n)) {T : Tb} {M : Nat} (b : Bd M T) : ∀ n, Bd (c ^ n * M) (foldN f T n)
  | 0 => by rw [Nat.pow_zero, Nat.one_mul]; exact b
  | n + 1 => by
    have := h _ n _ (bd_fold h b n)
    rw [Nat.pow_succ, Nat.mul_comm (c ^ n) c, Nat.mul_assoc]
    exact this
theorem bd_round {n : Nat} {T : Tb} {M : Nat} (b : Bd M T) : Bd (((2 ^ n) ^ n) ^ n * M) (roundS n T n) :=
  bd_fold (fun _ _ _ b => bd_fold (fun _ _ _ b => bd_fold (fun _ _ _ b => bd_mid b) b n) b n) b n
theorem bd_ties : ∀ (ts : List Tie) {T : Tb} {M : Nat}, Bd M T → (∀ t ∈ ts, t.lo.natAbs ≤ M ∧ t.hi.natAbs ≤ M) → Bd M (ts.foldl tieS T)
  | [], _, _, b, _ => b
  | t :: ts, _, _, b, h => bd_ties ts (bd_relax (bd_relax b (h t List.mem_cons_self).2) (by have := (h t List.mem_cons_self).1; omega)) fun u hu => h u (List.mem_cons_of_mem _ hu)
theorem bd_gaps {n : Nat} {ts : List Tie} {M : Nat} (hn : n ≤ 4) (h : ∀ t ∈ ts, t.lo.natAbs ≤ M ∧ t.hi.natAbs ≤ M) : Bd (2 ^ 64 * M) (gapsF n ts) := by
  have b0 : Bd M tb0 := fun a b v e => by
    unfold tb0 at e
    split at e
    · cases e; exact Nat.zero_le _
    · cases e
  refine (bd_round (bd_ties ts b0 h)).mono (Nat.mul_le_mul_right M ?_)
  match n, hn with
  | 0, _ => decide
  | 1, _ => decide
  | 2, _ => decide
  | 3, _ => decide
  | 4, _ => decide +kernel
end DL

set_option linter.all false
set_option maxRecDepth 100000
set_option maxHeartbeats 2000000
namespace DL
open PySem PySem.Spec PyProof.Rows L2
/-! _law_ups, exactly -/
def SeqIs (h : DH) (t : D) (ts : List D) : Prop := t = .tup ts ∨ ∃ p, t = .loc p ∧ h p = some (.lst ts)
theorem SeqIs.ext {h h' : DH} {t : D} {ts : List D} (S : SeqIs h t ts) (x : Ext h h') : SeqIs h' t ts := S.imp id fun ⟨p, e, q⟩ => ⟨p, e, x _ _ q⟩
theorem w_iseq {e : DE} {τ : DSt} {h0 h : DH} {R : List D → (DH → Prop) → DH → Prop} {t : D} {ts : List D} (S : SeqIs h0 t ts) (x : Ext h0 h) (k : ∀ G : DH → Prop, (∀ h', Ext h0 h' → G h') → R ts G h) (hv : ∀ Q : DK, Q t h → e τ h Q) : diSeq e τ h R := by
  refine hv _ ?_
  rcases S with rfl | ⟨p, rfl, q⟩
  · exact k _ fun _ _ => trivial
  · have e2 := x _ _ q
    show (match lstO (h p) with | some xs => R xs (fun h => h p = some (.lst xs)) h | none => False)
    rw [e2]
    exact k _ fun h' x' => x' _ _ q
theorem small_size {n : Nat} (h : n ≤ 1000000) : n < sizeLine := Nat.lt_of_le_of_lt h (Nat.lt_of_succ_le (Nat.le_of_ble_eq_true rfl))
structure TabIs (n : Int) (kvs : List (List Key × D)) (T : Tb) : Prop where
  at_ : ∀ i j : Int, 0 ≤ i → i < n → 0 ≤ j → j < n → valD kvs [.inl i, .inl j] = some (optD (T i j))
  len : kvs.length ≤ 10000
theorem TabIs.put {n : Int} {kvs : List (List Key × D)} {T : Tb} (t : TabIs n kvs T) {i j : Int} (hi : 0 ≤ i) (hi2 : i < n) (hj : 0 ≤ j) (hj2 : j < n) (z : Int) : TabIs n (putD kvs [.inl i, .inl j] (.int z)) (upd2 T i j (some z)) := by
  refine ⟨fun a b h1 h2 h3 h4 => ?_, by rw [putD_length_of (t.at_ i j hi hi2 hj hj2)]; exact t.len⟩
  rw [valD_put]
  unfold upd2
  by_cases e : a = i ∧ b = j
  · rw [if_pos e, if_pos (by rw [e.1, e.2])]; rfl
  · rw [if_neg e, if_neg (by simp only [List.cons.injEq, Sum.inl.injEq, and_true]; exact e)]
    exact t.at_ a b h1 h2 h3 h4
theorem w_getT {a : Addr} {kvs : List (List Key × D)} {i j : Int} {v : D} {h : DH} {Q : DK} (e : h a = some (.dT kvs)) (g : valD kvs [.inl i, .inl j] = some v) (k : Q v h) : need (ixD h (.loc a) (.tup [.int i, .int j])) h Q := w_need (by show getO (h a) _ = _; rw [e]; exact g) k
theorem w_setT {a : Addr} {kvs : List (List Key × D)} {i j : Int} {v : D} {h : DH} {Q : DH → Prop} (e : h a = some (.dT kvs)) (l : kvs.length < sizeLine) (k : Q (hupd h a (.dT (putD kvs [.inl i, .inl j] v)))) : dSet (.loc a) (.tup [.int i, .int j]) v h Q := w_set (by rw [e]; show (if kvs.length < sizeLine then (keysD [.int i, .int j]).map fun k => DO.dT (putD kvs k v) else none) = _; rw [if_pos l]; rfl) k
def TabAt (n : Int) (q : Addr) (T : Tb) (h h' : DH) : Prop := Ext h h' ∧ h q = none ∧ ∃ kvs, h' q = some (.dT kvs) ∧ TabIs n kvs T
def Rect (n m l : Int) (kvs : List (List Key × D)) : Prop := ∀ i j : Int, 0 ≤ i → 0 ≤ j → j < n → (i < m ∨ (i = m ∧ j < l)) → valD kvs [.inl i, .inl j] = some (optD (tb0 i j))
theorem Rect.put {n m l : Int} {kvs : List (List Key × D)} (r : Rect n m l kvs) : Rect n m (l + 1) (putD kvs [.inl m, .inl l] (optD (tb0 m l))) := fun i j a b c d => by
  rw [valD_put]
  split
  · rename_i e
    simp only [List.cons.injEq, Sum.inl.injEq, and_true] at e
    rw [e.1, e.2]
  · rename_i e
    refine r i j a b c ?_
    simp only [List.cons.injEq, Sum.inl.injEq, and_true, not_and] at e
    rcases d with d | ⟨d1, d2⟩
    · exact .inl d
    · exact .inr ⟨d1, by have := e d1; omega⟩
theorem Rect.tab {n l : Int} {kvs : List (List Key × D)} (r : Rect n n l kvs) (hl : kvs.length ≤ 10000) : TabIs n kvs tb0 := ⟨fun i j a b c d => r i j a c d (.inl b), hl⟩
theorem TabAt.put {n : Int} {q : Addr} {h h' : DH} {kvs : List (List Key × D)} {T : Tb} {i j : Int} (x : Ext h h') (hq : h q = none) (t : TabIs n kvs T) (hi : 0 ≤ i) (hi2 : i < n) (hj : 0 ≤ j) (hj2 : j < n) (z : Int) : TabAt n q (upd2 T i j (some z)) h (hupd h' q (.dT (putD kvs [.inl i, .inl j] (.int z)))) :=
  ⟨fun a o e => by rw [hupd_ne (fun y => by subst y; rw [hq] at e; cases e)]; exact x a o e, hq, _, hupd_same, t.put hi hi2 hj hj2 z⟩
def TieIn (n : Int) (t : Tie) : Prop := (0 ≤ t.a ∧ t.a < n) ∧ (0 ≤ t.b ∧ t.b < n)
def tieI (T : Tb) (t : Tie) : Nat → Tb
  | 0 => T
  | 1 => relax T t.a t.b t.hi
  | _ => tieS T t
def rounds (n : Nat) (T : Tb) : Nat → Tb := foldN (fun T _ => roundS n T n) T
theorem sp_ups {h : DH} {n : Nat} {N : Int} {t : D} {ts : List Tie} {Q : DK} (hN : N = n) (hn2 : n ≤ 100) (S : SeqIs h t (ts.map fun t => tupI t.l)) (ok : ∀ t ∈ ts, TieIn N t) (k : ∀ q h', TabAt N q (upsF n ts) h h' → Q (.loc q) h') : m_law_ups [.int N, t] h Q := by
  have sz : ∀ kvs T, TabIs N kvs T → kvs.length < sizeLine := fun kvs T t => small_size (Nat.le_trans t.len (by decide))
  have en : N.toNat = n := by omega
  apply m_law_ups_ap
  (conv => whnf)
  intro q hq
  (conv => whnf)
  refine w_for ?_
  (conv => whnf); (repeat (first | (refine w_need rfl ?_; (conv => whnf)) | (refine w_ix (by assumption) rfl ?_; (conv => whnf)) | (refine w_ix hupd_same rfl ?_; (conv => whnf)) | (refine w_setL (by assumption) rfl ?_; (conv => whnf)) | (refine w_setL hupd_same rfl ?_; (conv => whnf)) | (refine w_eqi ?_; (conv => whnf)) | (refine w_eqs ?_; (conv => whnf)) | (refine w_t (by first | rfl | decide | assumption) ?_; (conv => whnf)) | (refine w_f (by first | rfl | decide | assumption) ?_; (conv => whnf)) | (refine And.intro (by first | omega | rfl | decide | assumption | exact Nat.le_of_ble_eq_true rfl | exact mulR (by omega) (by omega) | exact mulL (by omega) (by omega) | exact mulM (by omega) (by omega) | exact divOk (by omega) (by omega) | exact Exists.intro _ (by assumption)) ?_; (conv => whnf))))
  refine w_range0 (I := fun m τ h' => ∃ kvs a3 a5, h' = hupd h q (.dT kvs) ∧ τ = [some (.int N), some t, some (.loc q), a3, none, a5, none, none, none, none, none] ∧ Rect N m 0 kvs ∧ kvs.length ≤ m * n) ⟨[], none, none, rfl, rfl, fun i j a b c d => by omega, by simp⟩ ?_ ?_
  · rintro m τ h' nx hm ⟨kvs, a3, a5, rfl, rfl, R, L⟩ hnx
    rw [en] at hm
    (conv => whnf)
    refine w_for ?_
    (conv => whnf); (repeat (first | (refine w_need rfl ?_; (conv => whnf)) | (refine w_ix (by assumption) rfl ?_; (conv => whnf)) | (refine w_ix hupd_same rfl ?_; (conv => whnf)) | (refine w_setL (by assumption) rfl ?_; (conv => whnf)) | (refine w_setL hupd_same rfl ?_; (conv => whnf)) | (refine w_eqi ?_; (conv => whnf)) | (refine w_eqs ?_; (conv => whnf)) | (refine w_t (by first | rfl | decide | assumption) ?_; (conv => whnf)) | (refine w_f (by first | rfl | decide | assumption) ?_; (conv => whnf)) | (refine And.intro (by first | omega | rfl | decide | assumption | exact Nat.le_of_ble_eq_true rfl | exact mulR (by omega) (by omega) | exact mulL (by omega) (by omega) | exact mulM (by omega) (by omega) | exact divOk (by omega) (by omega) | exact Exists.intro _ (by assumption)) ?_; (conv => whnf))))
    refine w_range0 (I := fun l τ h' => ∃ kvs a5, h' = hupd h q (.dT kvs) ∧ τ = [some (.int N), some t, some (.loc q), some (.int (m : Nat)), none, a5, none, none, none, none, none] ∧ Rect N m l kvs ∧ kvs.length ≤ m * n + l) ⟨kvs, a5, rfl, rfl, R, L⟩ ?_ ?_
    · rintro l τ h' nx2 hl ⟨kvs, a5, rfl, rfl, R, L⟩ hnx2
      rw [en] at hl
      have L2 : m * n + l < 10000 := by
        have h1 : m * n + n ≤ n * n := by
          have := Nat.mul_le_mul_right n (show m + 1 ≤ n from hm)
          rw [Nat.add_mul, Nat.one_mul] at this
          exact this
        have h2 : n * n ≤ 100 * 100 := Nat.mul_le_mul hn2 hn2
        omega
      have fin : nx2 [some (.int N), some t, some (.loc q), some (.int (m : Nat)), none, some (.int (l : Nat)), none, none, none, none, none] (hupd (hupd h q (.dT kvs)) q (.dT (putD kvs [.inl (m : Int), .inl (l : Int)] (optD (tb0 m l))))) := by
        refine hnx2 _ _ ⟨_, _, hupd_hupd, rfl, ?_, ?_⟩
        · skip
          have := R.put
          exact_mod_cast this
        · have := putD_length [Sum.inl (m : Int), Sum.inl (l : Int)] (optD (tb0 m l)) kvs
          omega
      (conv => whnf)
      refine w_eqi ?_
      (conv => whnf)
      refine w_ite (fun e => ?_) (fun e => ?_)
      · (conv => whnf); (repeat (first | (refine w_need rfl ?_; (conv => whnf)) | (refine w_ix (by assumption) rfl ?_; (conv => whnf)) | (refine w_ix hupd_same rfl ?_; (conv => whnf)) | (refine w_setL (by assumption) rfl ?_; (conv => whnf)) | (refine w_setL hupd_same rfl ?_; (conv => whnf)) | (refine w_eqi ?_; (conv => whnf)) | (refine w_eqs ?_; (conv => whnf)) | (refine w_t (by first | rfl | decide | assumption) ?_; (conv => whnf)) | (refine w_f (by first | rfl | decide | assumption) ?_; (conv => whnf)) | (refine And.intro (by first | omega | rfl | decide | assumption | exact Nat.le_of_ble_eq_true rfl | exact mulR (by omega) (by omega) | exact mulL (by omega) (by omega) | exact mulM (by omega) (by omega) | exact divOk (by omega) (by omega) | exact Exists.intro _ (by assumption)) ?_; (conv => whnf))))
        refine w_setT hupd_same (small_size (n := kvs.length) (by omega)) ?_
        (conv => whnf)
        have e2 : tb0 m l = some 0 := by unfold tb0; rw [if_pos (by omega)]
        rw [e2] at fin
        exact fin
      · (conv => whnf); (repeat (first | (refine w_need rfl ?_; (conv => whnf)) | (refine w_ix (by assumption) rfl ?_; (conv => whnf)) | (refine w_ix hupd_same rfl ?_; (conv => whnf)) | (refine w_setL (by assumption) rfl ?_; (conv => whnf)) | (refine w_setL hupd_same rfl ?_; (conv => whnf)) | (refine w_eqi ?_; (conv => whnf)) | (refine w_eqs ?_; (conv => whnf)) | (refine w_t (by first | rfl | decide | assumption) ?_; (conv => whnf)) | (refine w_f (by first | rfl | decide | assumption) ?_; (conv => whnf)) | (refine And.intro (by first | omega | rfl | decide | assumption | exact Nat.le_of_ble_eq_true rfl | exact mulR (by omega) (by omega) | exact mulL (by omega) (by omega) | exact mulM (by omega) (by omega) | exact divOk (by omega) (by omega) | exact Exists.intro _ (by assumption)) ?_; (conv => whnf))))
        refine w_setT hupd_same (small_size (n := kvs.length) (by omega)) ?_
        (conv => whnf)
        have e2 : tb0 m l = none := by unfold tb0; rw [if_neg (by omega)]
        rw [e2] at fin
        exact fin
    · rintro τ h' ⟨kvs, a5, rfl, rfl, R, L⟩
      rw [en] at R L
      refine hnx _ _ ⟨kvs, _, _, rfl, rfl, ?_, ?_⟩
      · intro i j a b c d
        refine R i j a b c ?_
        push_cast at d
        omega
      · rw [Nat.add_mul, Nat.one_mul]; exact L
  · rintro τ h' ⟨kvs, a3, a5, rfl, rfl, R, L⟩
    rw [en] at R L
    have T0 : TabAt N q tb0 h (hupd h q (.dT kvs)) := by
      refine ⟨ext_new hq, hq, kvs, hupd_same, Rect.tab (l := 0) (by rw [← hN] at R; exact R) (Nat.le_trans L ?_)⟩
      exact (Nat.mul_le_mul hn2 hn2 : n * n ≤ 100 * 100)
    (conv => whnf)
    refine w_for ?_
    refine w_iseq S (ext_new hq) (fun G hG => ?_) (fun Q w => w)
    refine w_loop (I := fun i τ h' => TabAt N q ((ts.take i).foldl tieS tb0) h h' ∧ ∃ a3 a5 a6 a7 a9 a10, τ = [some (.int N), some t, some (.loc q), a3, none, a5, a6, a7, none, a9, a10]) ⟨T0, _, _, _, _, _, _, rfl⟩ (fun _ _ h' _ I => hG h' I.1.1) ?_ ?_
    · rintro i d τ h' nx ed ⟨T, a3, a5, a6, a7, a9, a10, rfl⟩ hnx
      rw [List.getElem?_map] at ed
      obtain ⟨u, eu, rfl⟩ := Option.map_eq_some_iff.mp ed
      have ou := ok u (List.mem_of_getElem? eu)
      obtain ⟨⟨ha, ha2⟩, hb, hb2⟩ := ou
      have etake : (ts.take (i + 1)).foldl tieS tb0 = tieS ((ts.take i).foldl tieS tb0) u := by
        rw [List.take_add_one, eu, List.foldl_append]; rfl
      rw [etake] at hnx
      generalize (ts.take i).foldl tieS tb0 = T0 at T hnx
      obtain ⟨a, b, lo, hi⟩ := u
      (conv => whnf); (repeat (first | (refine w_need rfl ?_; (conv => whnf)) | (refine w_ix (by assumption) rfl ?_; (conv => whnf)) | (refine w_ix hupd_same rfl ?_; (conv => whnf)) | (refine w_setL (by assumption) rfl ?_; (conv => whnf)) | (refine w_setL hupd_same rfl ?_; (conv => whnf)) | (refine w_eqi ?_; (conv => whnf)) | (refine w_eqs ?_; (conv => whnf)) | (refine w_t (by first | rfl | decide | assumption) ?_; (conv => whnf)) | (refine w_f (by first | rfl | decide | assumption) ?_; (conv => whnf)) | (refine And.intro (by first | omega | rfl | decide | assumption | exact Nat.le_of_ble_eq_true rfl | exact mulR (by omega) (by omega) | exact mulL (by omega) (by omega) | exact mulM (by omega) (by omega) | exact divOk (by omega) (by omega) | exact Exists.intro _ (by assumption)) ?_; (conv => whnf))))
      refine w_for ?_
      (conv => whnf); (repeat (first | (refine w_need rfl ?_; (conv => whnf)) | (refine w_ix (by assumption) rfl ?_; (conv => whnf)) | (refine w_ix hupd_same rfl ?_; (conv => whnf)) | (refine w_setL (by assumption) rfl ?_; (conv => whnf)) | (refine w_setL hupd_same rfl ?_; (conv => whnf)) | (refine w_eqi ?_; (conv => whnf)) | (refine w_eqs ?_; (conv => whnf)) | (refine w_t (by first | rfl | decide | assumption) ?_; (conv => whnf)) | (refine w_f (by first | rfl | decide | assumption) ?_; (conv => whnf)) | (refine And.intro (by first | omega | rfl | decide | assumption | exact Nat.le_of_ble_eq_true rfl | exact mulR (by omega) (by omega) | exact mulL (by omega) (by omega) | exact mulM (by omega) (by omega) | exact divOk (by omega) (by omega) | exact Exists.intro _ (by assumption)) ?_; (conv => whnf))))
      intro p hp
      (conv => whnf)
      rw [hupd_same]
      (conv => whnf)
      obtain ⟨x, hq, kvs, e, T⟩ := T
      have hpq : p ≠ q := fun z => by rw [z, e] at hp; cases hp
      refine w_loop (I := fun i τ h' => TabAt N q (tieI T0 ⟨a, b, lo, hi⟩ i) h h' ∧ h' p = some (.lst [.tup [.tup [.int a, .int b], .int hi], .tup [.tup [.int b, .int a], .int (0 - lo)]]) ∧ ∃ a9 a10, τ = [some (.int N), some t, some (.loc q), some (.int a), none, some (.int b), some (.int lo), some (.int hi), none, a9, a10]) ⟨⟨x.trans (ext_new hp), hq, kvs, by rw [hupd_ne (fun z => hpq z.symm)]; exact e, T⟩, hupd_same, _, _, rfl⟩ (fun _ _ h' _ I => I.2.1) ?_ ?_
      · rintro i d τ h' nx2 ed ⟨⟨x, hq, kvs, e, T⟩, hp2, a9, a10, rfl⟩ hnx2
        obtain ⟨u, v, z, rfl, hu, hu2, hv, hv2, et⟩ : ∃ u v z : Int, d = .tup [.tup [.int u, .int v], .int z] ∧ 0 ≤ u ∧ u < N ∧ 0 ≤ v ∧ v < N ∧ tieI T0 ⟨a, b, lo, hi⟩ (i + 1) = relax (tieI T0 ⟨a, b, lo, hi⟩ i) u v z := by
          match i, ed with
          | 0, ed => cases ed; exact ⟨a, b, hi, rfl, ha, ha2, hb, hb2, rfl⟩
          | 1, ed => cases ed; exact ⟨b, a, 0 - lo, rfl, hb, hb2, ha, ha2, rfl⟩
          | j + 2, ed => simp at ed
        rw [et] at hnx2
        generalize tieI T0 ⟨a, b, lo, hi⟩ i = T1 at T hnx2
        have ew := T.at_ u v hu hu2 hv hv2
        (conv => whnf); (repeat (first | (refine w_need rfl ?_; (conv => whnf)) | (refine w_ix (by assumption) rfl ?_; (conv => whnf)) | (refine w_ix hupd_same rfl ?_; (conv => whnf)) | (refine w_setL (by assumption) rfl ?_; (conv => whnf)) | (refine w_setL hupd_same rfl ?_; (conv => whnf)) | (refine w_eqi ?_; (conv => whnf)) | (refine w_eqs ?_; (conv => whnf)) | (refine w_t (by first | rfl | decide | assumption) ?_; (conv => whnf)) | (refine w_f (by first | rfl | decide | assumption) ?_; (conv => whnf)) | (refine And.intro (by first | omega | rfl | decide | assumption | exact Nat.le_of_ble_eq_true rfl | exact mulR (by omega) (by omega) | exact mulL (by omega) (by omega) | exact mulM (by omega) (by omega) | exact divOk (by omega) (by omega) | exact Exists.intro _ (by assumption)) ?_; (conv => whnf))))
        refine w_getT e ew ?_
        (conv => whnf)
        have fin : better (T1 u v) z = true → nx2 [some (.int N), some t, some (.loc q), some (.int a), none, some (.int b), some (.int lo), some (.int hi), none, some (.tup [.int u, .int v]), some (.int z)] (hupd h' q (.dT (putD kvs [.inl u, .inl v] (.int z)))) := fun hb => hnx2 _ _ ⟨by unfold relax; rw [if_pos hb]; exact TabAt.put x hq T hu hu2 hv hv2 z, by rw [hupd_ne hpq]; exact hp2, _, _, rfl⟩
        have fin2 : better (T1 u v) z = false → nx2 [some (.int N), some t, some (.loc q), some (.int a), none, some (.int b), some (.int lo), some (.int hi), none, some (.tup [.int u, .int v]), some (.int z)] h' := fun hb => hnx2 _ _ ⟨by unfold relax; rw [if_neg (by rw [hb]; exact Bool.false_ne_true)]; exact ⟨x, hq, kvs, e, T⟩, hp2, _, _, rfl⟩
        cases eT : T1 u v with
        | none =>
          rw [eT] at ew fin
          refine w_t rfl ?_
          (conv => whnf)
          refine w_t rfl ?_
          (conv => whnf)
          refine w_setT e (sz _ _ T) ?_
          exact fin rfl
        | some y =>
          rw [eT] at ew fin fin2
          refine w_f rfl ?_
          (conv => whnf)
          refine w_getT e ew ?_
          (conv => whnf)
          refine w_ite (fun c => ?_) (fun c => ?_)
          · (conv => whnf)
            refine w_setT e (sz _ _ T) ?_
            exact fin (decide_eq_true c)
          · (conv => whnf)
            exact fin2 (decide_eq_false c)
      · rintro τ h' ⟨T, hp2, a9, a10, rfl⟩
        exact hnx _ _ ⟨T, _, _, _, _, _, _, rfl⟩
    · rintro τ h' ⟨T, a3, a5, a6, a7, a9, a10, rfl⟩
      rw [List.length_map, List.take_length] at T
      have T : TabAt N q (rounds n (ties0 ts) 0) h h' := T
      (conv => whnf)
      refine w_for ?_
      (conv => whnf); (repeat (first | (refine w_need rfl ?_; (conv => whnf)) | (refine w_ix (by assumption) rfl ?_; (conv => whnf)) | (refine w_ix hupd_same rfl ?_; (conv => whnf)) | (refine w_setL (by assumption) rfl ?_; (conv => whnf)) | (refine w_setL hupd_same rfl ?_; (conv => whnf)) | (refine w_eqi ?_; (conv => whnf)) | (refine w_eqs ?_; (conv => whnf)) | (refine w_t (by first | rfl | decide | assumption) ?_; (conv => whnf)) | (refine w_f (by first | rfl | decide | assumption) ?_; (conv => whnf)) | (refine And.intro (by first | omega | rfl | decide | assumption | exact Nat.le_of_ble_eq_true rfl | exact mulR (by omega) (by omega) | exact mulL (by omega) (by omega) | exact mulM (by omega) (by omega) | exact divOk (by omega) (by omega) | exact Exists.intro _ (by assumption)) ?_; (conv => whnf))))
      refine w_range0 (I := fun r τ h' => TabAt N q (rounds n (ties0 ts) r) h h' ∧ ∃ a3 a4 a5 a8 a10, τ = [some (.int N), some t, some (.loc q), a3, a4, a5, a6, a7, a8, a9, a10]) ⟨T, _, _, _, _, _, rfl⟩ ?_ ?_
      · rintro r τ h' nx hr ⟨T, a3, a4, a5, a8, a10, rfl⟩ hnx
        have er : rounds n (ties0 ts) (r + 1) = roundS n (rounds n (ties0 ts) r) n := rfl
        rw [er] at hnx
        generalize rounds n (ties0 ts) r = T0 at T hnx
        (conv => whnf)
        refine w_for ?_
        (conv => whnf); (repeat (first | (refine w_need rfl ?_; (conv => whnf)) | (refine w_ix (by assumption) rfl ?_; (conv => whnf)) | (refine w_ix hupd_same rfl ?_; (conv => whnf)) | (refine w_setL (by assumption) rfl ?_; (conv => whnf)) | (refine w_setL hupd_same rfl ?_; (conv => whnf)) | (refine w_eqi ?_; (conv => whnf)) | (refine w_eqs ?_; (conv => whnf)) | (refine w_t (by first | rfl | decide | assumption) ?_; (conv => whnf)) | (refine w_f (by first | rfl | decide | assumption) ?_; (conv => whnf)) | (refine And.intro (by first | omega | rfl | decide | assumption | exact Nat.le_of_ble_eq_true rfl | exact mulR (by omega) (by omega) | exact mulL (by omega) (by omega) | exact mulM (by omega) (by omega) | exact divOk (by omega) (by omega) | exact Exists.intro _ (by assumption)) ?_; (conv => whnf))))
        refine w_range0 (I := fun m τ h' => TabAt N q (roundS n T0 m) h h' ∧ ∃ a3 a4 a5 a8 a10, τ = [some (.int N), some t, some (.loc q), a3, a4, a5, a6, a7, a8, a9, a10]) ⟨T, _, _, _, _, _, rfl⟩ ?_ ?_
        · rintro m τ h' nx hm ⟨T, a3, a4, a5, a8, a10, rfl⟩ hnx
          rw [en] at hm
          have er : roundS n T0 (m + 1) = midS n m (roundS n T0 m) n := rfl
          rw [er] at hnx
          generalize roundS n T0 m = T1 at T hnx
          (conv => whnf)
          refine w_for ?_
          (conv => whnf); (repeat (first | (refine w_need rfl ?_; (conv => whnf)) | (refine w_ix (by assumption) rfl ?_; (conv => whnf)) | (refine w_ix hupd_same rfl ?_; (conv => whnf)) | (refine w_setL (by assumption) rfl ?_; (conv => whnf)) | (refine w_setL hupd_same rfl ?_; (conv => whnf)) | (refine w_eqi ?_; (conv => whnf)) | (refine w_eqs ?_; (conv => whnf)) | (refine w_t (by first | rfl | decide | assumption) ?_; (conv => whnf)) | (refine w_f (by first | rfl | decide | assumption) ?_; (conv => whnf)) | (refine And.intro (by first | omega | rfl | decide | assumption | exact Nat.le_of_ble_eq_true rfl | exact mulR (by omega) (by omega) | exact mulL (by omega) (by omega) | exact mulM (by omega) (by omega) | exact divOk (by omega) (by omega) | exact Exists.intro _ (by assumption)) ?_; (conv => whnf))))
          refine w_range0 (I := fun i τ h' => TabAt N q (midS n m T1 i) h h' ∧ ∃ a3 a4 a5 a10, τ = [some (.int N), some t, some (.loc q), a3, a4, a5, a6, a7, some (.int (m : Nat)), a9, a10]) ⟨T, _, _, _, _, rfl⟩ ?_ ?_
          · rintro i τ h' nx hi ⟨T, a3, a4, a5, a10, rfl⟩ hnx
            rw [en] at hi
            have er : midS n m T1 (i + 1) = rowS n m i (midS n m T1 i) n := rfl
            rw [er] at hnx
            generalize midS n m T1 i = T2 at T hnx
            (conv => whnf)
            refine w_for ?_
            (conv => whnf); (repeat (first | (refine w_need rfl ?_; (conv => whnf)) | (refine w_ix (by assumption) rfl ?_; (conv => whnf)) | (refine w_ix hupd_same rfl ?_; (conv => whnf)) | (refine w_setL (by assumption) rfl ?_; (conv => whnf)) | (refine w_setL hupd_same rfl ?_; (conv => whnf)) | (refine w_eqi ?_; (conv => whnf)) | (refine w_eqs ?_; (conv => whnf)) | (refine w_t (by first | rfl | decide | assumption) ?_; (conv => whnf)) | (refine w_f (by first | rfl | decide | assumption) ?_; (conv => whnf)) | (refine And.intro (by first | omega | rfl | decide | assumption | exact Nat.le_of_ble_eq_true rfl | exact mulR (by omega) (by omega) | exact mulL (by omega) (by omega) | exact mulM (by omega) (by omega) | exact divOk (by omega) (by omega) | exact Exists.intro _ (by assumption)) ?_; (conv => whnf))))
            refine w_range0 (I := fun j τ h' => TabAt N q (rowS n m i T2 j) h h' ∧ ∃ a4 a5 a10, τ = [some (.int N), some t, some (.loc q), some (.int (i : Nat)), a4, a5, a6, a7, some (.int (m : Nat)), a9, a10]) ⟨T, _, _, _, rfl⟩ ?_ ?_
            · rintro j τ h' nx hj ⟨⟨x, hq, kvs, e, T⟩, a4, a5, a10, rfl⟩ hnx
              rw [en] at hj
              have er : rowS n m i T2 (j + 1) = mid (rowS n m i T2 j) m i j := rfl
              rw [er] at hnx
              generalize rowS n m i T2 j = T3 at T hnx
              have e1 := T.at_ i m (by omega) (by omega) (by omega) (by omega)
              have e2 := T.at_ m j (by omega) (by omega) (by omega) (by omega)
              have e3 := T.at_ i j (by omega) (by omega) (by omega) (by omega)
              have fin : ∀ u, mid T3 m i j = T3 → nx [some (.int N), some t, some (.loc q), some (.int (i : Nat)), a4, some (.int (j : Nat)), a6, a7, some (.int (m : Nat)), a9, u] h' := fun u em => hnx _ _ ⟨by rw [em]; exact ⟨x, hq, kvs, e, T⟩, _, _, _, rfl⟩
              have fin2 : ∀ z : Int, mid T3 m i j = upd2 T3 i j (some z) → nx [some (.int N), some t, some (.loc q), some (.int (i : Nat)), a4, some (.int (j : Nat)), a6, a7, some (.int (m : Nat)), a9, some (.int z)] (hupd h' q (.dT (putD kvs [.inl (i : Int), .inl (j : Int)] (.int z)))) := fun z em => hnx _ _ ⟨by rw [em]; exact TabAt.put x hq T (by omega) (by omega) (by omega) (by omega) z, _, _, _, rfl⟩
              unfold mid at fin fin2
              (conv => whnf); (repeat (first | (refine w_need rfl ?_; (conv => whnf)) | (refine w_ix (by assumption) rfl ?_; (conv => whnf)) | (refine w_ix hupd_same rfl ?_; (conv => whnf)) | (refine w_setL (by assumption) rfl ?_; (conv => whnf)) | (refine w_setL hupd_same rfl ?_; (conv => whnf)) | (refine w_eqi ?_; (conv => whnf)) | (refine w_eqs ?_; (conv => whnf)) | (refine w_t (by first | rfl | decide | assumption) ?_; (conv => whnf)) | (refine w_f (by first | rfl | decide | assumption) ?_; (conv => whnf)) | (refine And.intro (by first | omega | rfl | decide | assumption | exact Nat.le_of_ble_eq_true rfl | exact mulR (by omega) (by omega) | exact mulL (by omega) (by omega) | exact mulM (by omega) (by omega) | exact divOk (by omega) (by omega) | exact Exists.intro _ (by assumption)) ?_; (conv => whnf))))
              refine w_getT e e1 ?_
              (conv => whnf); (repeat (first | (refine w_need rfl ?_; (conv => whnf)) | (refine w_ix (by assumption) rfl ?_; (conv => whnf)) | (refine w_ix hupd_same rfl ?_; (conv => whnf)) | (refine w_setL (by assumption) rfl ?_; (conv => whnf)) | (refine w_setL hupd_same rfl ?_; (conv => whnf)) | (refine w_eqi ?_; (conv => whnf)) | (refine w_eqs ?_; (conv => whnf)) | (refine w_t (by first | rfl | decide | assumption) ?_; (conv => whnf)) | (refine w_f (by first | rfl | decide | assumption) ?_; (conv => whnf)) | (refine And.intro (by first | omega | rfl | decide | assumption | exact Nat.le_of_ble_eq_true rfl | exact mulR (by omega) (by omega) | exact mulL (by omega) (by omega) | exact mulM (by omega) (by omega) | exact divOk (by omega) (by omega) | exact Exists.intro _ (by assumption)) ?_; (conv => whnf))))
              cases h1 : T3 i m with
              | none =>
                rw [h1] at fin
                refine w_f rfl ?_
                (conv => whnf); (repeat (first | (refine w_need rfl ?_; (conv => whnf)) | (refine w_ix (by assumption) rfl ?_; (conv => whnf)) | (refine w_ix hupd_same rfl ?_; (conv => whnf)) | (refine w_setL (by assumption) rfl ?_; (conv => whnf)) | (refine w_setL hupd_same rfl ?_; (conv => whnf)) | (refine w_eqi ?_; (conv => whnf)) | (refine w_eqs ?_; (conv => whnf)) | (refine w_t (by first | rfl | decide | assumption) ?_; (conv => whnf)) | (refine w_f (by first | rfl | decide | assumption) ?_; (conv => whnf)) | (refine And.intro (by first | omega | rfl | decide | assumption | exact Nat.le_of_ble_eq_true rfl | exact mulR (by omega) (by omega) | exact mulL (by omega) (by omega) | exact mulM (by omega) (by omega) | exact divOk (by omega) (by omega) | exact Exists.intro _ (by assumption)) ?_; (conv => whnf))))
                exact fin _ rfl
              | some y1 =>
                rw [h1] at fin fin2 e1
                refine w_t rfl ?_
                (conv => whnf); (repeat (first | (refine w_need rfl ?_; (conv => whnf)) | (refine w_ix (by assumption) rfl ?_; (conv => whnf)) | (refine w_ix hupd_same rfl ?_; (conv => whnf)) | (refine w_setL (by assumption) rfl ?_; (conv => whnf)) | (refine w_setL hupd_same rfl ?_; (conv => whnf)) | (refine w_eqi ?_; (conv => whnf)) | (refine w_eqs ?_; (conv => whnf)) | (refine w_t (by first | rfl | decide | assumption) ?_; (conv => whnf)) | (refine w_f (by first | rfl | decide | assumption) ?_; (conv => whnf)) | (refine And.intro (by first | omega | rfl | decide | assumption | exact Nat.le_of_ble_eq_true rfl | exact mulR (by omega) (by omega) | exact mulL (by omega) (by omega) | exact mulM (by omega) (by omega) | exact divOk (by omega) (by omega) | exact Exists.intro _ (by assumption)) ?_; (conv => whnf))))
                refine w_getT e e2 ?_
                (conv => whnf); (repeat (first | (refine w_need rfl ?_; (conv => whnf)) | (refine w_ix (by assumption) rfl ?_; (conv => whnf)) | (refine w_ix hupd_same rfl ?_; (conv => whnf)) | (refine w_setL (by assumption) rfl ?_; (conv => whnf)) | (refine w_setL hupd_same rfl ?_; (conv => whnf)) | (refine w_eqi ?_; (conv => whnf)) | (refine w_eqs ?_; (conv => whnf)) | (refine w_t (by first | rfl | decide | assumption) ?_; (conv => whnf)) | (refine w_f (by first | rfl | decide | assumption) ?_; (conv => whnf)) | (refine And.intro (by first | omega | rfl | decide | assumption | exact Nat.le_of_ble_eq_true rfl | exact mulR (by omega) (by omega) | exact mulL (by omega) (by omega) | exact mulM (by omega) (by omega) | exact divOk (by omega) (by omega) | exact Exists.intro _ (by assumption)) ?_; (conv => whnf))))
                cases h2 : T3 m j with
                | none =>
                  rw [h2] at fin
                  refine w_f rfl ?_
                  exact fin _ rfl
                | some y2 =>
                  rw [h2] at fin fin2 e2
                  refine w_t rfl ?_
                  (conv => whnf); (repeat (first | (refine w_need rfl ?_; (conv => whnf)) | (refine w_ix (by assumption) rfl ?_; (conv => whnf)) | (refine w_ix hupd_same rfl ?_; (conv => whnf)) | (refine w_setL (by assumption) rfl ?_; (conv => whnf)) | (refine w_setL hupd_same rfl ?_; (conv => whnf)) | (refine w_eqi ?_; (conv => whnf)) | (refine w_eqs ?_; (conv => whnf)) | (refine w_t (by first | rfl | decide | assumption) ?_; (conv => whnf)) | (refine w_f (by first | rfl | decide | assumption) ?_; (conv => whnf)) | (refine And.intro (by first | omega | rfl | decide | assumption | exact Nat.le_of_ble_eq_true rfl | exact mulR (by omega) (by omega) | exact mulL (by omega) (by omega) | exact mulM (by omega) (by omega) | exact divOk (by omega) (by omega) | exact Exists.intro _ (by assumption)) ?_; (conv => whnf))))
                  refine w_getT e e1 ?_
                  (conv => whnf); (repeat (first | (refine w_need rfl ?_; (conv => whnf)) | (refine w_ix (by assumption) rfl ?_; (conv => whnf)) | (refine w_ix hupd_same rfl ?_; (conv => whnf)) | (refine w_setL (by assumption) rfl ?_; (conv => whnf)) | (refine w_setL hupd_same rfl ?_; (conv => whnf)) | (refine w_eqi ?_; (conv => whnf)) | (refine w_eqs ?_; (conv => whnf)) | (refine w_t (by first | rfl | decide | assumption) ?_; (conv => whnf)) | (refine w_f (by first | rfl | decide | assumption) ?_; (conv => whnf)) | (refine And.intro (by first | omega | rfl | decide | assumption | exact Nat.le_of_ble_eq_true rfl | exact mulR (by omega) (by omega) | exact mulL (by omega) (by omega) | exact mulM (by omega) (by omega) | exact divOk (by omega) (by omega) | exact Exists.intro _ (by assumption)) ?_; (conv => whnf))))
                  refine w_getT e e2 ?_
                  (conv => whnf); (repeat (first | (refine w_need rfl ?_; (conv => whnf)) | (refine w_ix (by assumption) rfl ?_; (conv => whnf)) | (refine w_ix hupd_same rfl ?_; (conv => whnf)) | (refine w_setL (by assumption) rfl ?_; (conv => whnf)) | (refine w_setL hupd_same rfl ?_; (conv => whnf)) | (refine w_eqi ?_; (conv => whnf)) | (refine w_eqs ?_; (conv => whnf)) | (refine w_t (by first | rfl | decide | assumption) ?_; (conv => whnf)) | (refine w_f (by first | rfl | decide | assumption) ?_; (conv => whnf)) | (refine And.intro (by first | omega | rfl | decide | assumption | exact Nat.le_of_ble_eq_true rfl | exact mulR (by omega) (by omega) | exact mulL (by omega) (by omega) | exact mulM (by omega) (by omega) | exact divOk (by omega) (by omega) | exact Exists.intro _ (by assumption)) ?_; (conv => whnf))))
                  refine w_getT e e3 ?_
                  (conv => whnf); (repeat (first | (refine w_need rfl ?_; (conv => whnf)) | (refine w_ix (by assumption) rfl ?_; (conv => whnf)) | (refine w_ix hupd_same rfl ?_; (conv => whnf)) | (refine w_setL (by assumption) rfl ?_; (conv => whnf)) | (refine w_setL hupd_same rfl ?_; (conv => whnf)) | (refine w_eqi ?_; (conv => whnf)) | (refine w_eqs ?_; (conv => whnf)) | (refine w_t (by first | rfl | decide | assumption) ?_; (conv => whnf)) | (refine w_f (by first | rfl | decide | assumption) ?_; (conv => whnf)) | (refine And.intro (by first | omega | rfl | decide | assumption | exact Nat.le_of_ble_eq_true rfl | exact mulR (by omega) (by omega) | exact mulL (by omega) (by omega) | exact mulM (by omega) (by omega) | exact divOk (by omega) (by omega) | exact Exists.intro _ (by assumption)) ?_; (conv => whnf))))
                  unfold relax at fin fin2
                  cases h3 : T3 i j with
                  | none =>
                    rw [h3] at fin2
                    refine w_t rfl ?_
                    (conv => whnf); (repeat (first | (refine w_need rfl ?_; (conv => whnf)) | (refine w_ix (by assumption) rfl ?_; (conv => whnf)) | (refine w_ix hupd_same rfl ?_; (conv => whnf)) | (refine w_setL (by assumption) rfl ?_; (conv => whnf)) | (refine w_setL hupd_same rfl ?_; (conv => whnf)) | (refine w_eqi ?_; (conv => whnf)) | (refine w_eqs ?_; (conv => whnf)) | (refine w_t (by first | rfl | decide | assumption) ?_; (conv => whnf)) | (refine w_f (by first | rfl | decide | assumption) ?_; (conv => whnf)) | (refine And.intro (by first | omega | rfl | decide | assumption | exact Nat.le_of_ble_eq_true rfl | exact mulR (by omega) (by omega) | exact mulL (by omega) (by omega) | exact mulM (by omega) (by omega) | exact divOk (by omega) (by omega) | exact Exists.intro _ (by assumption)) ?_; (conv => whnf))))
                    refine w_setT e (sz _ _ T) ?_
                    exact fin2 _ rfl
                  | some y3 =>
                    rw [h3] at fin fin2 e3
                    refine w_f rfl ?_
                    (conv => whnf); (repeat (first | (refine w_need rfl ?_; (conv => whnf)) | (refine w_ix (by assumption) rfl ?_; (conv => whnf)) | (refine w_ix hupd_same rfl ?_; (conv => whnf)) | (refine w_setL (by assumption) rfl ?_; (conv => whnf)) | (refine w_setL hupd_same rfl ?_; (conv => whnf)) | (refine w_eqi ?_; (conv => whnf)) | (refine w_eqs ?_; (conv => whnf)) | (refine w_t (by first | rfl | decide | assumption) ?_; (conv => whnf)) | (refine w_f (by first | rfl | decide | assumption) ?_; (conv => whnf)) | (refine And.intro (by first | omega | rfl | decide | assumption | exact Nat.le_of_ble_eq_true rfl | exact mulR (by omega) (by omega) | exact mulL (by omega) (by omega) | exact mulM (by omega) (by omega) | exact divOk (by omega) (by omega) | exact Exists.intro _ (by assumption)) ?_; (conv => whnf))))
                    refine w_getT e e3 ?_
                    (conv => whnf); (repeat (first | (refine w_need rfl ?_; (conv => whnf)) | (refine w_ix (by assumption) rfl ?_; (conv => whnf)) | (refine w_ix hupd_same rfl ?_; (conv => whnf)) | (refine w_setL (by assumption) rfl ?_; (conv => whnf)) | (refine w_setL hupd_same rfl ?_; (conv => whnf)) | (refine w_eqi ?_; (conv => whnf)) | (refine w_eqs ?_; (conv => whnf)) | (refine w_t (by first | rfl | decide | assumption) ?_; (conv => whnf)) | (refine w_f (by first | rfl | decide | assumption) ?_; (conv => whnf)) | (refine And.intro (by first | omega | rfl | decide | assumption | exact Nat.le_of_ble_eq_true rfl | exact mulR (by omega) (by omega) | exact mulL (by omega) (by omega) | exact mulM (by omega) (by omega) | exact divOk (by omega) (by omega) | exact Exists.intro _ (by assumption)) ?_; (conv => whnf))))
                    refine w_ite (fun c => ?_) (fun c => ?_)
                    · (conv => whnf); (repeat (first | (refine w_need rfl ?_; (conv => whnf)) | (refine w_ix (by assumption) rfl ?_; (conv => whnf)) | (refine w_ix hupd_same rfl ?_; (conv => whnf)) | (refine w_setL (by assumption) rfl ?_; (conv => whnf)) | (refine w_setL hupd_same rfl ?_; (conv => whnf)) | (refine w_eqi ?_; (conv => whnf)) | (refine w_eqs ?_; (conv => whnf)) | (refine w_t (by first | rfl | decide | assumption) ?_; (conv => whnf)) | (refine w_f (by first | rfl | decide | assumption) ?_; (conv => whnf)) | (refine And.intro (by first | omega | rfl | decide | assumption | exact Nat.le_of_ble_eq_true rfl | exact mulR (by omega) (by omega) | exact mulL (by omega) (by omega) | exact mulM (by omega) (by omega) | exact divOk (by omega) (by omega) | exact Exists.intro _ (by assumption)) ?_; (conv => whnf))))
                      refine w_setT e (sz _ _ T) ?_
                      exact fin2 _ (if_pos (decide_eq_true c))
                    · exact fin _ (if_neg (by unfold better; simp; omega))
            · rintro τ h' ⟨T, a4, a5, a10, rfl⟩
              rw [en] at T
              exact hnx _ _ ⟨T, _, _, _, _, rfl⟩
          · rintro τ h' ⟨T, a3, a4, a5, a10, rfl⟩
            rw [en] at T
            exact hnx _ _ ⟨T, _, _, _, _, _, rfl⟩
        · rintro τ h' ⟨T, a3, a4, a5, a8, a10, rfl⟩
          rw [en] at T
          exact hnx _ _ ⟨T, _, _, _, _, _, rfl⟩
      · rintro τ h' ⟨T, a3, a4, a5, a8, a10, rfl⟩
        (conv => whnf); (repeat (first | (refine w_need rfl ?_; (conv => whnf)) | (refine w_ix (by assumption) rfl ?_; (conv => whnf)) | (refine w_ix hupd_same rfl ?_; (conv => whnf)) | (refine w_setL (by assumption) rfl ?_; (conv => whnf)) | (refine w_setL hupd_same rfl ?_; (conv => whnf)) | (refine w_eqi ?_; (conv => whnf)) | (refine w_eqs ?_; (conv => whnf)) | (refine w_t (by first | rfl | decide | assumption) ?_; (conv => whnf)) | (refine w_f (by first | rfl | decide | assumption) ?_; (conv => whnf)) | (refine And.intro (by first | omega | rfl | decide | assumption | exact Nat.le_of_ble_eq_true rfl | exact mulR (by omega) (by omega) | exact mulL (by omega) (by omega) | exact mulM (by omega) (by omega) | exact divOk (by omega) (by omega) | exact Exists.intro _ (by assumption)) ?_; (conv => whnf))))
        exact k q h' T
end DL

set_option linter.all false
set_option maxRecDepth 100000
set_option maxHeartbeats 2000000
namespace DL
open PySem PySem.Spec PyProof.Rows L2
/-! ties and kitchens as the laws draw them -/
theorem pds_ints (h : DH) : ∀ is : List Int, PDs h (is.map D.int) (is.map PyData.int)
  | [] => .nil
  | i :: is => .cons (.int i) (pds_ints h is)
theorem lay_ints : ∀ is : List Int, PyData.canLayAll0 (is.map PyData.int) = true
  | [] => rfl
  | i :: is => by rw [List.map_cons]; simp only [PyData.canLayAll0, PyData.canLay0, Bool.true_and]; exact lay_ints is
theorem depth_ints : ∀ is : List Int, PyData.depthAll (is.map PyData.int) = 0
  | [] => rfl
  | i :: is => by rw [List.map_cons]; simp only [PyData.depthAll, PyData.depth]; rw [depth_ints is]; rfl
theorem shaped_ints (is : List Int) : SeqAt.shaped (.list (is.map PyData.int)) = true := by
  simp only [SeqAt.shaped, PyData.canLay0, PyData.depth, lay_ints, depth_ints, Bool.true_and]
  decide
def dgNeg (T : Tb) (i : Nat) : Option Int := match T (i : Nat) (i : Nat) with
  | some v => if v < 0 then some (Int.ofNat i) else none
  | none => none
theorem dgNeg_empty (n : Nat) (T : Tb) : (((List.range n).filterMap (dgNeg T)).map PyData.int).isEmpty = !tornB n T := by
  unfold tornB
  generalize List.range n = l
  induction l with
  | nil => rfl
  | cons i l ih =>
    rw [List.filterMap_cons, List.any_cons]
    cases e : T (i : Nat) (i : Nat) with
    | none =>
      have : dgNeg T i = none := by unfold dgNeg; rw [e]
      rw [this]
      simpa using ih
    | some v =>
      by_cases q : v < 0
      · have : dgNeg T i = some (Int.ofNat i) := by unfold dgNeg; rw [e]; dsimp only; rw [if_pos q]
        rw [this]
        simp [q]
      · have : dgNeg T i = none := by unfold dgNeg; rw [e]; dsimp only; rw [if_neg q]
        rw [this]
        simpa [q] using ih
theorem sp_law_torn {h : DH} {n : Nat} {N : Int} {t : D} {ts : List Tie} {Q : DK} (hN : N = n) (hn2 : n ≤ 100) (S : SeqIs h t (ts.map fun t => tupI t.l)) (ok : ∀ t ∈ ts, TieIn N t) (k : ∀ h', Ext h h' → Q (.bl (tornB n (upsF n ts))) h') : m_law_is_torn [.int N, t] h Q := by
  apply m_law_is_torn_ap
  (conv => whnf); (repeat (first | (refine w_need rfl ?_; (conv => whnf)) | (refine w_ix (by assumption) rfl ?_; (conv => whnf)) | (refine w_ix hupd_same rfl ?_; (conv => whnf)) | (refine w_setL (by assumption) rfl ?_; (conv => whnf)) | (refine w_setL hupd_same rfl ?_; (conv => whnf)) | (refine w_eqi ?_; (conv => whnf)) | (refine w_eqs ?_; (conv => whnf)) | (refine w_t (by first | rfl | decide | assumption) ?_; (conv => whnf)) | (refine w_f (by first | rfl | decide | assumption) ?_; (conv => whnf)) | (refine And.intro (by first | omega | rfl | decide | assumption | exact Nat.le_of_ble_eq_true rfl | exact mulR (by omega) (by omega) | exact mulL (by omega) (by omega) | exact mulM (by omega) (by omega) | exact divOk (by omega) (by omega) | exact Exists.intro _ (by assumption)) ?_; (conv => whnf))))
  refine sp_ups hN hn2 S ok fun q h1 ⟨x, hq, kvs, e, T⟩ => ?_
  (conv => whnf)
  refine w_lc ?_
  (conv => whnf); (repeat (first | (refine w_need rfl ?_; (conv => whnf)) | (refine w_ix (by assumption) rfl ?_; (conv => whnf)) | (refine w_ix hupd_same rfl ?_; (conv => whnf)) | (refine w_setL (by assumption) rfl ?_; (conv => whnf)) | (refine w_setL hupd_same rfl ?_; (conv => whnf)) | (refine w_eqi ?_; (conv => whnf)) | (refine w_eqs ?_; (conv => whnf)) | (refine w_t (by first | rfl | decide | assumption) ?_; (conv => whnf)) | (refine w_f (by first | rfl | decide | assumption) ?_; (conv => whnf)) | (refine And.intro (by first | omega | rfl | decide | assumption | exact Nat.le_of_ble_eq_true rfl | exact mulR (by omega) (by omega) | exact mulL (by omega) (by omega) | exact mulM (by omega) (by omega) | exact divOk (by omega) (by omega) | exact Exists.intro _ (by assumption)) ?_; (conv => whnf))))
  intro p hp
  have en : N.toNat = n := by omega
  rw [en]
  refine w_filt (fun i => (dgNeg (upsF n ts) i).map D.int) hp (by rw [rangeD_length]; exact small_size (by omega)) (fun _ _ => trivial) (fun i d h' C1 C0 ed x2 k1 k0 => ?_) (fun h2 x2 e2 => ?_)
  · obtain ⟨hi, rfl⟩ := rangeD_get0 ed
    obtain ⟨z, ez, _⟩ := upsF_dg n ts (i : Nat)
    have ev := T.at_ (i : Nat) (i : Nat) (by omega) (by omega) (by omega) (by omega)
    rw [ez] at ev
    (conv => whnf); (repeat (first | (refine w_need rfl ?_; (conv => whnf)) | (refine w_ix (by assumption) rfl ?_; (conv => whnf)) | (refine w_ix hupd_same rfl ?_; (conv => whnf)) | (refine w_setL (by assumption) rfl ?_; (conv => whnf)) | (refine w_setL hupd_same rfl ?_; (conv => whnf)) | (refine w_eqi ?_; (conv => whnf)) | (refine w_eqs ?_; (conv => whnf)) | (refine w_t (by first | rfl | decide | assumption) ?_; (conv => whnf)) | (refine w_f (by first | rfl | decide | assumption) ?_; (conv => whnf)) | (refine And.intro (by first | omega | rfl | decide | assumption | exact Nat.le_of_ble_eq_true rfl | exact mulR (by omega) (by omega) | exact mulL (by omega) (by omega) | exact mulM (by omega) (by omega) | exact divOk (by omega) (by omega) | exact Exists.intro _ (by assumption)) ?_; (conv => whnf))))
    refine w_getT (x2 _ _ e) ev ?_
    (conv => whnf)
    unfold dgNeg at k1 k0
    simp only [ez] at k1 k0
    refine w_ite (fun c => ?_) (fun c => ?_)
    · exact k1 _ h' (by rw [if_pos c]; rfl) (.refl _)
    · exact k0 h' (by rw [if_neg c]; rfl) (.refl _)
  · rw [rangeD_length] at e2
    have em : (List.range n).filterMap (fun i => (dgNeg (upsF n ts) i).map D.int) = ((List.range n).filterMap (dgNeg (upsF n ts))).map D.int := by rw [List.map_filterMap]
    rw [em] at e2
    (conv => whnf); (repeat (first | (refine w_need rfl ?_; (conv => whnf)) | (refine w_ix (by assumption) rfl ?_; (conv => whnf)) | (refine w_ix hupd_same rfl ?_; (conv => whnf)) | (refine w_setL (by assumption) rfl ?_; (conv => whnf)) | (refine w_setL hupd_same rfl ?_; (conv => whnf)) | (refine w_eqi ?_; (conv => whnf)) | (refine w_eqs ?_; (conv => whnf)) | (refine w_t (by first | rfl | decide | assumption) ?_; (conv => whnf)) | (refine w_f (by first | rfl | decide | assumption) ?_; (conv => whnf)) | (refine And.intro (by first | omega | rfl | decide | assumption | exact Nat.le_of_ble_eq_true rfl | exact mulR (by omega) (by omega) | exact mulL (by omega) (by omega) | exact mulM (by omega) (by omega) | exact divOk (by omega) (by omega) | exact Exists.intro _ (by assumption)) ?_; (conv => whnf))))
    intro p2 hp2; generalize hh_h3 : hupd _ p2 _ = h3; obtain ⟨x3, e3⟩ := newAt hh_h3 hp2
    (conv => whnf)
    refine w_eqd (.lst (x3 _ _ e2) (pds_ints _ _)) (.lst e3 .nil) (shaped_ints _) (shaped_ints []) ?_
    rw [eqv_nil, dgNeg_empty, if_pos rfl, Bool.not_not]
    exact k _ (x.trans (x2.trans x3))
theorem tupsD_map : ∀ ks : List (List Int), tupsD (ks.map tupI) = some ks
  | [] => rfl
  | k :: ks => by
    have h2 : tupD (tupI k) = some k := intsD_map k
    rw [List.map_cons]
    unfold tupsD
    rw [h2, tupsD_map ks]
structure TieK (n share : Int) (t : Tie) : Prop where
  a0 : 0 ≤ t.a
  a1 : t.a < n
  b0 : 0 ≤ t.b
  b1 : t.b < n
  ne : t.a ≠ t.b
  lh : t.lo ≤ t.hi
  lo : -(5 * share) ≤ t.lo
  hi : t.hi ≤ 12 * share
theorem TieK.in_ {n share : Int} {t : Tie} (k : TieK n share t) : TieIn n t := ⟨⟨k.a0, k.a1⟩, k.b0, k.b1⟩
structure TiesOk (n : Nat) (share : Int) (ts : List Tie) : Prop where
  len : ts.length < 7
  all : ∀ t ∈ ts, TieK n share t
  asc : (ts.map Tie.l).Pairwise fun a b => HT.lexLt a b = true
  nn : NoNeg n (gapsF n ts)
theorem tb0_noNeg (n : Nat) : NoNeg n tb0 := fun i v _ _ e => by
  unfold tb0 at e
  rw [if_pos rfl] at e
  cases e; exact Int.le_refl _
theorem tb0_clo (n m : Nat) : Clo n m tb0 := fun a b l u v _ _ _ _ _ _ e1 e2 => by
  unfold tb0 at e1 e2
  split at e1
  · split at e2
    · rename_i z1 z2
      cases e1; cases e2
      exact ⟨0, by unfold tb0; rw [if_pos (by omega)], by omega⟩
    · cases e2
  · cases e1
theorem gaps_nil (n : Nat) : gapsF n [] = tb0 := round_noop (tb0_clo n n) n (Nat.le_refl n)
theorem tiesOk_nil {n : Nat} {share : Int} : TiesOk n share [] := ⟨by decide, (fun _ z => absurd z List.not_mem_nil), List.Pairwise.nil, by rw [gaps_nil]; exact tb0_noNeg n⟩
def toTie : List Int → Tie
  | [a, b, lo, hi] => ⟨a, b, lo, hi⟩
  | _ => ⟨0, 0, 0, 0⟩
theorem toTie_l (t : Tie) : toTie t.l = t := rfl
theorem toTies_l {ms : List (List Int)} (h : ∀ k ∈ ms, ∃ t : Tie, k = t.l) : (ms.map toTie).map Tie.l = ms := by
  rw [List.map_map]
  conv => rhs; rw [← List.map_id ms]
  refine List.map_congr_left fun k hk => ?_
  obtain ⟨t, rfl⟩ := h k hk
  rfl
theorem mod_ne {n a d : Int} (h0 : 0 ≤ a) (h1 : a < n) (h2 : 0 ≤ d) (h3 : d < n - 1) : (a + 1 + d) % n ≠ a := by
  by_cases h : a + 1 + d < n
  · rw [Int.emod_eq_of_lt (by omega) h]; omega
  · have e : (a + 1 + d) % n = (a + 1 + d - n) % n := by rw [Int.sub_emod_right]
    rw [e, Int.emod_eq_of_lt (by omega) (by omega)]; omega
theorem sp_ties {h : DH} {b : Addr} {n share : Int} {Q : DK} (B : Bag h b) (hn : 1 ≤ n) (hn2 : n ≤ 100) (hs : 0 < share) (hs2 : share < 2 ^ 60) (k : ∀ ts h', Fr b h h' → TiesOk n.toNat share ts → Q (.tup (ts.map fun t => tupI t.l)) h') : m_law_ties [.loc b, .int n, .int share] h Q := by
  have en : ((n.toNat : Nat) : Int) = n := Int.toNat_of_nonneg (by omega)
  apply m_law_ties_ap
  (conv => whnf); (repeat (first | (refine w_need rfl ?_; (conv => whnf)) | (refine w_ix (by assumption) rfl ?_; (conv => whnf)) | (refine w_ix hupd_same rfl ?_; (conv => whnf)) | (refine w_setL (by assumption) rfl ?_; (conv => whnf)) | (refine w_setL hupd_same rfl ?_; (conv => whnf)) | (refine w_eqi ?_; (conv => whnf)) | (refine w_eqs ?_; (conv => whnf)) | (refine w_t (by first | rfl | decide | assumption) ?_; (conv => whnf)) | (refine w_f (by first | rfl | decide | assumption) ?_; (conv => whnf)) | (refine And.intro (by first | omega | rfl | decide | assumption | exact Nat.le_of_ble_eq_true rfl | exact mulR (by omega) (by omega) | exact mulL (by omega) (by omega) | exact mulM (by omega) (by omega) | exact divOk (by omega) (by omega) | exact Exists.intro _ (by assumption)) ?_; (conv => whnf))))
  intro pf hpf; generalize hh_hf : hupd _ pf _ = hf; obtain ⟨xf, ef⟩ := newAt hh_hf hpf
  (conv => whnf)
  refine w_for ?_
  have hne : pf ≠ b := B.ne hpf
  have f0 : Fr b h hf := .of_ext B xf
  (conv => whnf)
  by_cases h1 : 1 < n
  · refine w_t (by simpa using h1) ?_
    (conv => whnf); (repeat (first | (refine w_need rfl ?_; (conv => whnf)) | (refine w_ix (by assumption) rfl ?_; (conv => whnf)) | (refine w_ix hupd_same rfl ?_; (conv => whnf)) | (refine w_setL (by assumption) rfl ?_; (conv => whnf)) | (refine w_setL hupd_same rfl ?_; (conv => whnf)) | (refine w_eqi ?_; (conv => whnf)) | (refine w_eqs ?_; (conv => whnf)) | (refine w_t (by first | rfl | decide | assumption) ?_; (conv => whnf)) | (refine w_f (by first | rfl | decide | assumption) ?_; (conv => whnf)) | (refine And.intro (by first | omega | rfl | decide | assumption | exact Nat.le_of_ble_eq_true rfl | exact mulR (by omega) (by omega) | exact mulL (by omega) (by omega) | exact mulM (by omega) (by omega) | exact divOk (by omega) (by omega) | exact Exists.intro _ (by assumption)) ?_; (conv => whnf))))
    refine sp_draw f0.bag (by omega) (by omega) fun v h' f v0 v1 => ?_
    (conv => whnf); (repeat (first | (refine w_need rfl ?_; (conv => whnf)) | (refine w_ix (by assumption) rfl ?_; (conv => whnf)) | (refine w_ix hupd_same rfl ?_; (conv => whnf)) | (refine w_setL (by assumption) rfl ?_; (conv => whnf)) | (refine w_setL hupd_same rfl ?_; (conv => whnf)) | (refine w_eqi ?_; (conv => whnf)) | (refine w_eqs ?_; (conv => whnf)) | (refine w_t (by first | rfl | decide | assumption) ?_; (conv => whnf)) | (refine w_f (by first | rfl | decide | assumption) ?_; (conv => whnf)) | (refine And.intro (by first | omega | rfl | decide | assumption | exact Nat.le_of_ble_eq_true rfl | exact mulR (by omega) (by omega) | exact mulL (by omega) (by omega) | exact mulM (by omega) (by omega) | exact divOk (by omega) (by omega) | exact Exists.intro _ (by assumption)) ?_; (conv => whnf))))
    refine w_range0 (I := fun _ τ h' => Fr b h h' ∧ ∃ pf ts a4 a5 a6 a7 a8 a9, h' pf = some (.lst (ts.map fun t : Tie => tupI t.l)) ∧ pf ≠ b ∧ TiesOk n.toNat share ts ∧ τ = [some (.loc b), some (.int n), some (.int share), some (.loc pf), a4, a5, a6, a7, a8, a9]) ⟨f0.trans f, pf, [], _, _, _, _, _, _, f.1 _ _ hne ef, hne, tiesOk_nil, rfl⟩ ?_ ?_
    · rintro i τ h1 nx hi ⟨f1, pf, ts, a4, a5, a6, a7, a8, a9, e1, hne, T, rfl⟩ hnx
      (conv => whnf); (repeat (first | (refine w_need rfl ?_; (conv => whnf)) | (refine w_ix (by assumption) rfl ?_; (conv => whnf)) | (refine w_ix hupd_same rfl ?_; (conv => whnf)) | (refine w_setL (by assumption) rfl ?_; (conv => whnf)) | (refine w_setL hupd_same rfl ?_; (conv => whnf)) | (refine w_eqi ?_; (conv => whnf)) | (refine w_eqs ?_; (conv => whnf)) | (refine w_t (by first | rfl | decide | assumption) ?_; (conv => whnf)) | (refine w_f (by first | rfl | decide | assumption) ?_; (conv => whnf)) | (refine And.intro (by first | omega | rfl | decide | assumption | exact Nat.le_of_ble_eq_true rfl | exact mulR (by omega) (by omega) | exact mulL (by omega) (by omega) | exact mulM (by omega) (by omega) | exact divOk (by omega) (by omega) | exact Exists.intro _ (by assumption)) ?_; (conv => whnf))))
      refine sp_draw f1.bag (by omega) (by omega) fun a h2 f2 a0 a1 => ?_
      (conv => whnf); (repeat (first | (refine w_need rfl ?_; (conv => whnf)) | (refine w_ix (by assumption) rfl ?_; (conv => whnf)) | (refine w_ix hupd_same rfl ?_; (conv => whnf)) | (refine w_setL (by assumption) rfl ?_; (conv => whnf)) | (refine w_setL hupd_same rfl ?_; (conv => whnf)) | (refine w_eqi ?_; (conv => whnf)) | (refine w_eqs ?_; (conv => whnf)) | (refine w_t (by first | rfl | decide | assumption) ?_; (conv => whnf)) | (refine w_f (by first | rfl | decide | assumption) ?_; (conv => whnf)) | (refine And.intro (by first | omega | rfl | decide | assumption | exact Nat.le_of_ble_eq_true rfl | exact mulR (by omega) (by omega) | exact mulL (by omega) (by omega) | exact mulM (by omega) (by omega) | exact divOk (by omega) (by omega) | exact Exists.intro _ (by assumption)) ?_; (conv => whnf))))
      refine sp_draw f2.bag (by omega) (by omega) fun d h3 f3 d0 d1 => ?_
      (conv => whnf); (repeat (first | (refine w_need rfl ?_; (conv => whnf)) | (refine w_ix (by assumption) rfl ?_; (conv => whnf)) | (refine w_ix hupd_same rfl ?_; (conv => whnf)) | (refine w_setL (by assumption) rfl ?_; (conv => whnf)) | (refine w_setL hupd_same rfl ?_; (conv => whnf)) | (refine w_eqi ?_; (conv => whnf)) | (refine w_eqs ?_; (conv => whnf)) | (refine w_t (by first | rfl | decide | assumption) ?_; (conv => whnf)) | (refine w_f (by first | rfl | decide | assumption) ?_; (conv => whnf)) | (refine And.intro (by first | omega | rfl | decide | assumption | exact Nat.le_of_ble_eq_true rfl | exact mulR (by omega) (by omega) | exact mulL (by omega) (by omega) | exact mulM (by omega) (by omega) | exact divOk (by omega) (by omega) | exact Exists.intro _ (by assumption)) ?_; (conv => whnf))))
      refine sp_draw f3.bag (by omega) (by omega) fun l h4 f4 l0 l1 => ?_
      (conv => whnf); (repeat (first | (refine w_need rfl ?_; (conv => whnf)) | (refine w_ix (by assumption) rfl ?_; (conv => whnf)) | (refine w_ix hupd_same rfl ?_; (conv => whnf)) | (refine w_setL (by assumption) rfl ?_; (conv => whnf)) | (refine w_setL hupd_same rfl ?_; (conv => whnf)) | (refine w_eqi ?_; (conv => whnf)) | (refine w_eqs ?_; (conv => whnf)) | (refine w_t (by first | rfl | decide | assumption) ?_; (conv => whnf)) | (refine w_f (by first | rfl | decide | assumption) ?_; (conv => whnf)) | (refine And.intro (by first | omega | rfl | decide | assumption | exact Nat.le_of_ble_eq_true rfl | exact mulR (by omega) (by omega) | exact mulL (by omega) (by omega) | exact mulM (by omega) (by omega) | exact divOk (by omega) (by omega) | exact Exists.intro _ (by assumption)) ?_; (conv => whnf))))
      refine sp_draw f4.bag (by omega) (by omega) fun u h5 f5 u0 u1 => ?_
      (conv => whnf); (repeat (first | (refine w_need rfl ?_; (conv => whnf)) | (refine w_ix (by assumption) rfl ?_; (conv => whnf)) | (refine w_ix hupd_same rfl ?_; (conv => whnf)) | (refine w_setL (by assumption) rfl ?_; (conv => whnf)) | (refine w_setL hupd_same rfl ?_; (conv => whnf)) | (refine w_eqi ?_; (conv => whnf)) | (refine w_eqs ?_; (conv => whnf)) | (refine w_t (by first | rfl | decide | assumption) ?_; (conv => whnf)) | (refine w_f (by first | rfl | decide | assumption) ?_; (conv => whnf)) | (refine And.intro (by first | omega | rfl | decide | assumption | exact Nat.le_of_ble_eq_true rfl | exact mulR (by omega) (by omega) | exact mulL (by omega) (by omega) | exact mulM (by omega) (by omega) | exact divOk (by omega) (by omega) | exact Exists.intro _ (by assumption)) ?_; (conv => whnf))))
      have f15 := f2.trans (f3.trans (f4.trans f5))
      have e5 := f15.1 _ _ hne e1
      have tk : TieK n share ⟨a, (a + 1 + d) % n, (l - 5) * share, (l - 5) * share + u * share⟩ := by
        have l2 : (l - 5) * share ≤ 5 * share := Int.mul_le_mul_of_nonneg_right (by omega) (by omega)
        have l3 : -5 * share ≤ (l - 5) * share := Int.mul_le_mul_of_nonneg_right (by omega) (by omega)
        have u2 : u * share ≤ 7 * share := Int.mul_le_mul_of_nonneg_right (by omega) (by omega)
        have u3 : 0 * share ≤ u * share := Int.mul_le_mul_of_nonneg_right (by omega) (by omega)
        exact ⟨a0, a1, Int.emod_nonneg _ (by omega), Int.emod_lt_of_pos _ (by omega), (mod_ne a0 a1 d0 d1).symm, by show (l - 5) * share ≤ (l - 5) * share + u * share; omega, by show -(5 * share) ≤ (l - 5) * share; omega, by show (l - 5) * share + u * share ≤ 12 * share; omega⟩
      generalize hti : (⟨a, (a + 1 + d) % n, (l - 5) * share, (l - 5) * share + u * share⟩ : Tie) = ti at tk
      have etl : tupI [a, (a + 1 + d) % n, (l - 5) * share, (l - 5) * share + u * share] = tupI ti.l := by rw [← hti]; rfl
      rw [show D.tup [.int a, .int ((a + 1 + d) % n), .int ((l - 5) * share), .int ((l - 5) * share + u * share)] = tupI ti.l from etl]
      intro p hp; generalize hh_h6 : hupd _ p _ = h6; obtain ⟨x6, e6⟩ := newAt hh_h6 hp
      (conv => whnf)
      have hpb : p ≠ b := f5.bag.ne hp
      refine ⟨ts.map (fun t : Tie => tupI t.l), [tupI ti.l], x6 _ _ e5, e6, ?_, ?_⟩
      · have := T.len
        simp only [List.length_map, List.length_cons, List.length_nil]
        exact Nat.le_of_lt (small_size (by omega))
      intro p2 hp2; generalize hh_h7 : hupd _ p2 _ = h7; obtain ⟨x7, e7⟩ := newAt hh_h7 hp2
      (conv => whnf)
      have e8 : (seqD h7 (.loc p2)).bind tupsD = some (ts.map Tie.l ++ [ti.l]) := by
        show (lstO (h7 p2)).bind tupsD = _
        rw [e7]
        have := tupsD_map (ts.map Tie.l ++ [ti.l])
        rw [List.map_append, List.map_map] at this
        exact this
      refine w_sortset e8 ⟨by have := T.len; simp only [List.length_append, List.length_map, List.length_cons, List.length_nil]; omega, fun k hk => ?_⟩ fun ms p3 h9 hm hs hp3 x9 e9 => ?_
      · rcases List.mem_append.mp hk with hk | hk
        · obtain ⟨t, _, rfl⟩ := List.mem_map.mp hk
          exact List.cons_ne_nil _ _
        · rw [List.mem_singleton.mp hk]; exact List.cons_ne_nil _ _
      have isT : ∀ k ∈ ms, ∃ t : Tie, k = t.l ∧ TieK n share t := fun k hk => by
        rcases List.mem_append.mp ((hm k).mp hk) with hk | hk
        · obtain ⟨t, ht, rfl⟩ := List.mem_map.mp hk
          have := T.all t ht
          rw [en] at this
          exact ⟨t, rfl, this⟩
        · rw [List.mem_singleton.mp hk]; exact ⟨ti, rfl, tk⟩
      have em : (ms.map toTie).map Tie.l = ms := toTies_l fun k hk => let ⟨t, e, _⟩ := isT k hk; ⟨t, e⟩
      have allT : ∀ t ∈ ms.map toTie, TieK n share t := fun t ht => by
        obtain ⟨k, hk, rfl⟩ := List.mem_map.mp ht
        obtain ⟨t, rfl, q⟩ := isT k hk
        exact q
      have emI : ms.map tupI = (ms.map toTie).map (fun t : Tie => tupI t.l) := by
        conv => lhs; rw [← em]
        rw [List.map_map]; rfl
      have lenm : (ms.map toTie).length = ms.length := List.length_map ..
      rw [emI] at e9
      rw [← em] at hs
      generalize ms.map toTie = ns at allT e9 hs lenm
      have hp3b : p3 ≠ b := ((f5.bag.ext x6).ext x7).ne hp3
      have x59 : Ext h5 h9 := x6.trans (x7.trans x9)
      (conv => whnf)
      refine w_need (v := .int ns.length) (by show lenO (h9 p3) = _; rw [e9]; simp [lenO]) ?_
      (conv => whnf)
      have f9 := f1.trans (f15.trans (.of_ext f5.bag x59))
      refine w_ite (fun c => ?_) (fun c => ?_)
      · (conv => whnf); (repeat (first | (refine w_need rfl ?_; (conv => whnf)) | (refine w_ix (by assumption) rfl ?_; (conv => whnf)) | (refine w_ix hupd_same rfl ?_; (conv => whnf)) | (refine w_setL (by assumption) rfl ?_; (conv => whnf)) | (refine w_setL hupd_same rfl ?_; (conv => whnf)) | (refine w_eqi ?_; (conv => whnf)) | (refine w_eqs ?_; (conv => whnf)) | (refine w_t (by first | rfl | decide | assumption) ?_; (conv => whnf)) | (refine w_f (by first | rfl | decide | assumption) ?_; (conv => whnf)) | (refine And.intro (by first | omega | rfl | decide | assumption | exact Nat.le_of_ble_eq_true rfl | exact mulR (by omega) (by omega) | exact mulL (by omega) (by omega) | exact mulM (by omega) (by omega) | exact divOk (by omega) (by omega) | exact Exists.intro _ (by assumption)) ?_; (conv => whnf))))
        refine sp_law_torn (n := n.toNat) en.symm (by omega) (.inr ⟨p3, rfl, e9⟩) (fun t ht => (allT t ht).in_) fun h10 x10 => ?_
        (conv => whnf)
        refine w_iteb (fun c2 => ?_) (fun c2 => ?_)
        · refine hnx _ _ ⟨f9.trans (.of_ext f9.bag x10), p3, ns, _, _, _, _, _, _, x10 _ _ e9, hp3b, ⟨by omega, fun t ht => by rw [en]; exact allT t ht, hs, ?_⟩, rfl⟩
          rw [torn_same] at c2
          exact (tornB_iff _ _).mp (by simpa using c2)
        · exact hnx _ _ ⟨f9.trans (.of_ext f9.bag x10), pf, ts, _, _, _, _, _, _, x10 _ _ (x59 _ _ e5), hne, T, rfl⟩
      · (conv => whnf); (repeat (first | (refine w_need rfl ?_; (conv => whnf)) | (refine w_ix (by assumption) rfl ?_; (conv => whnf)) | (refine w_ix hupd_same rfl ?_; (conv => whnf)) | (refine w_setL (by assumption) rfl ?_; (conv => whnf)) | (refine w_setL hupd_same rfl ?_; (conv => whnf)) | (refine w_eqi ?_; (conv => whnf)) | (refine w_eqs ?_; (conv => whnf)) | (refine w_t (by first | rfl | decide | assumption) ?_; (conv => whnf)) | (refine w_f (by first | rfl | decide | assumption) ?_; (conv => whnf)) | (refine And.intro (by first | omega | rfl | decide | assumption | exact Nat.le_of_ble_eq_true rfl | exact mulR (by omega) (by omega) | exact mulL (by omega) (by omega) | exact mulM (by omega) (by omega) | exact divOk (by omega) (by omega) | exact Exists.intro _ (by assumption)) ?_; (conv => whnf))))
        exact hnx _ _ ⟨f9, pf, ts, _, _, _, _, _, _, x59 _ _ e5, hne, T, rfl⟩
    · rintro τ h1 ⟨f1, pf, ts, a4, a5, a6, a7, a8, a9, e1, hne, T, rfl⟩
      (conv => whnf)
      rw [tup_of e1]
      (conv => whnf)
      exact k ts h1 f1 T
  · refine w_f (by simpa using h1) ?_
    (conv => whnf); (repeat (first | (refine w_need rfl ?_; (conv => whnf)) | (refine w_ix (by assumption) rfl ?_; (conv => whnf)) | (refine w_ix hupd_same rfl ?_; (conv => whnf)) | (refine w_setL (by assumption) rfl ?_; (conv => whnf)) | (refine w_setL hupd_same rfl ?_; (conv => whnf)) | (refine w_eqi ?_; (conv => whnf)) | (refine w_eqs ?_; (conv => whnf)) | (refine w_t (by first | rfl | decide | assumption) ?_; (conv => whnf)) | (refine w_f (by first | rfl | decide | assumption) ?_; (conv => whnf)) | (refine And.intro (by first | omega | rfl | decide | assumption | exact Nat.le_of_ble_eq_true rfl | exact mulR (by omega) (by omega) | exact mulL (by omega) (by omega) | exact mulM (by omega) (by omega) | exact divOk (by omega) (by omega) | exact Exists.intro _ (by assumption)) ?_; (conv => whnf))))
    refine w_range0 (I := fun _ τ h' => h' = hf ∧ ∃ a4, τ = [some (.loc b), some (.int n), some (.int share), some (.loc pf), a4, none, none, none, none, none]) ⟨rfl, _, rfl⟩ (fun i _ _ _ hi => absurd hi (Nat.not_lt_zero i)) ?_
    rintro τ h1 ⟨rfl, a4, rfl⟩
    (conv => whnf)
    rw [tup_of ef]
    (conv => whnf)
    exact k [] _ f0 tiesOk_nil

structure Kit where
  dials : Int
  l1 : Int
  l2 : Int
  cold : Int
  rise : Int
  ov : Int
  ts : List Tie
  ds : List (Int × Int)
def pairD (p : Int × Int) : D := .tup [.int p.1, .int p.2]
def Kit.d (k : Kit) : D := .tup [.int k.dials, .tup [.int k.l1, .int k.l2], .tup [.int k.cold, .int k.rise], .int k.ov, .tup (k.ts.map fun t => tupI t.l), .tup (k.ds.map pairD)]
structure KitOk (share : Int) (k : Kit) : Prop where
  l0 : 0 ≤ k.l1
  ll : k.l1 ≤ k.l2
  l8 : k.l2 ≤ 8 * share
  c0 : 0 ≤ k.cold
  c1 : k.cold ≤ 30 * share
  r0 : 1 ≤ k.rise
  r1 : k.rise ≤ 1 + 11 * share
  o0 : 1 ≤ k.ov
  o1 : k.ov ≤ 4
  ties : ∃ s : Int, 0 < s ∧ s < 2 ^ 60 ∧ TiesOk k.ov.toNat s k.ts
  d0 : 1 ≤ k.ds.length
  d1 : k.ds.length ≤ 3
  dish : ∀ p ∈ k.ds, 0 ≤ p.1 ∧ p.1 ≤ p.2 ∧ p.2 ≤ 418 * share
theorem sp_kitchen {h : DH} {b : Addr} {dials share : Int} {Q : DK} (B : Bag h b) (hs : 0 < share) (hs2 : share < 2 ^ 60)
    (k : ∀ (kk : Kit) h', Fr b h h' → kk.dials = dials → KitOk share kk → TiesOk kk.ov.toNat share kk.ts → Q kk.d h') : m_law_kitchen [.loc b, .int dials, .int share] h Q := by
  have ml : ∀ v m : Int, 0 ≤ v → v ≤ m → 0 ≤ v * share ∧ v * share ≤ m * share := fun v m h0 h1 => ⟨Int.mul_nonneg h0 (by omega), Int.mul_le_mul_of_nonneg_right h1 (by omega)⟩
  apply m_law_kitchen_ap
  (conv => whnf); (repeat (first | (refine w_need rfl ?_; (conv => whnf)) | (refine w_ix (by assumption) rfl ?_; (conv => whnf)) | (refine w_ix hupd_same rfl ?_; (conv => whnf)) | (refine w_setL (by assumption) rfl ?_; (conv => whnf)) | (refine w_setL hupd_same rfl ?_; (conv => whnf)) | (refine w_eqi ?_; (conv => whnf)) | (refine w_eqs ?_; (conv => whnf)) | (refine w_t (by first | rfl | decide | assumption) ?_; (conv => whnf)) | (refine w_f (by first | rfl | decide | assumption) ?_; (conv => whnf)) | (refine And.intro (by first | omega | rfl | decide | assumption | exact Nat.le_of_ble_eq_true rfl | exact mulR (by omega) (by omega) | exact mulL (by omega) (by omega) | exact mulM (by omega) (by omega) | exact divOk (by omega) (by omega) | exact Exists.intro _ (by assumption)) ?_; (conv => whnf))))
  refine sp_draw B (by omega) (by omega) fun a h1 f1 a0 a1 => ?_
  have ma := ml a 3 a0 (by omega)
  (conv => whnf); (repeat (first | (refine w_need rfl ?_; (conv => whnf)) | (refine w_ix (by assumption) rfl ?_; (conv => whnf)) | (refine w_ix hupd_same rfl ?_; (conv => whnf)) | (refine w_setL (by assumption) rfl ?_; (conv => whnf)) | (refine w_setL hupd_same rfl ?_; (conv => whnf)) | (refine w_eqi ?_; (conv => whnf)) | (refine w_eqs ?_; (conv => whnf)) | (refine w_t (by first | rfl | decide | assumption) ?_; (conv => whnf)) | (refine w_f (by first | rfl | decide | assumption) ?_; (conv => whnf)) | (refine And.intro (by first | omega | rfl | decide | assumption | exact Nat.le_of_ble_eq_true rfl | exact mulR (by omega) (by omega) | exact mulL (by omega) (by omega) | exact mulM (by omega) (by omega) | exact divOk (by omega) (by omega) | exact Exists.intro _ (by assumption)) ?_; (conv => whnf))))
  refine sp_draw f1.bag (by omega) (by omega) fun c h2 f2 c0 c1 => ?_
  have mc := ml c 5 c0 (by omega)
  have f12 := f1.trans f2
  (conv => whnf); (repeat (first | (refine w_need rfl ?_; (conv => whnf)) | (refine w_ix (by assumption) rfl ?_; (conv => whnf)) | (refine w_ix hupd_same rfl ?_; (conv => whnf)) | (refine w_setL (by assumption) rfl ?_; (conv => whnf)) | (refine w_setL hupd_same rfl ?_; (conv => whnf)) | (refine w_eqi ?_; (conv => whnf)) | (refine w_eqs ?_; (conv => whnf)) | (refine w_t (by first | rfl | decide | assumption) ?_; (conv => whnf)) | (refine w_f (by first | rfl | decide | assumption) ?_; (conv => whnf)) | (refine And.intro (by first | omega | rfl | decide | assumption | exact Nat.le_of_ble_eq_true rfl | exact mulR (by omega) (by omega) | exact mulL (by omega) (by omega) | exact mulM (by omega) (by omega) | exact divOk (by omega) (by omega) | exact Exists.intro _ (by assumption)) ?_; (conv => whnf))))
  refine sp_draw f12.bag (by omega) (by omega) fun d h3 f3 d0 d1 => ?_
  have md := ml d 30 d0 (by omega)
  have f13 := f12.trans f3
  (conv => whnf); (repeat (first | (refine w_need rfl ?_; (conv => whnf)) | (refine w_ix (by assumption) rfl ?_; (conv => whnf)) | (refine w_ix hupd_same rfl ?_; (conv => whnf)) | (refine w_setL (by assumption) rfl ?_; (conv => whnf)) | (refine w_setL hupd_same rfl ?_; (conv => whnf)) | (refine w_eqi ?_; (conv => whnf)) | (refine w_eqs ?_; (conv => whnf)) | (refine w_t (by first | rfl | decide | assumption) ?_; (conv => whnf)) | (refine w_f (by first | rfl | decide | assumption) ?_; (conv => whnf)) | (refine And.intro (by first | omega | rfl | decide | assumption | exact Nat.le_of_ble_eq_true rfl | exact mulR (by omega) (by omega) | exact mulL (by omega) (by omega) | exact mulM (by omega) (by omega) | exact divOk (by omega) (by omega) | exact Exists.intro _ (by assumption)) ?_; (conv => whnf))))
  refine sp_draw f13.bag (by omega) (by omega) fun e h4 f4 e0 e1 => ?_
  have me := ml e 11 e0 (by omega)
  have f14 := f13.trans f4
  (conv => whnf); (repeat (first | (refine w_need rfl ?_; (conv => whnf)) | (refine w_ix (by assumption) rfl ?_; (conv => whnf)) | (refine w_ix hupd_same rfl ?_; (conv => whnf)) | (refine w_setL (by assumption) rfl ?_; (conv => whnf)) | (refine w_setL hupd_same rfl ?_; (conv => whnf)) | (refine w_eqi ?_; (conv => whnf)) | (refine w_eqs ?_; (conv => whnf)) | (refine w_t (by first | rfl | decide | assumption) ?_; (conv => whnf)) | (refine w_f (by first | rfl | decide | assumption) ?_; (conv => whnf)) | (refine And.intro (by first | omega | rfl | decide | assumption | exact Nat.le_of_ble_eq_true rfl | exact mulR (by omega) (by omega) | exact mulL (by omega) (by omega) | exact mulM (by omega) (by omega) | exact divOk (by omega) (by omega) | exact Exists.intro _ (by assumption)) ?_; (conv => whnf))))
  refine sp_draw f14.bag (by omega) (by omega) fun n h5 f5 n0 n1 => ?_
  have f15 := f14.trans f5
  (conv => whnf); (repeat (first | (refine w_need rfl ?_; (conv => whnf)) | (refine w_ix (by assumption) rfl ?_; (conv => whnf)) | (refine w_ix hupd_same rfl ?_; (conv => whnf)) | (refine w_setL (by assumption) rfl ?_; (conv => whnf)) | (refine w_setL hupd_same rfl ?_; (conv => whnf)) | (refine w_eqi ?_; (conv => whnf)) | (refine w_eqs ?_; (conv => whnf)) | (refine w_t (by first | rfl | decide | assumption) ?_; (conv => whnf)) | (refine w_f (by first | rfl | decide | assumption) ?_; (conv => whnf)) | (refine And.intro (by first | omega | rfl | decide | assumption | exact Nat.le_of_ble_eq_true rfl | exact mulR (by omega) (by omega) | exact mulL (by omega) (by omega) | exact mulM (by omega) (by omega) | exact divOk (by omega) (by omega) | exact Exists.intro _ (by assumption)) ?_; (conv => whnf))))
  intro p hp; generalize hh_h6 : hupd _ p _ = h6; obtain ⟨x6, e6⟩ := newAt hh_h6 hp
  have hpb : p ≠ b := f15.bag.ne hp
  have f16 := f15.trans (.of_ext f15.bag x6)
  (conv => whnf)
  refine w_for ?_
  (conv => whnf); (repeat (first | (refine w_need rfl ?_; (conv => whnf)) | (refine w_ix (by assumption) rfl ?_; (conv => whnf)) | (refine w_ix hupd_same rfl ?_; (conv => whnf)) | (refine w_setL (by assumption) rfl ?_; (conv => whnf)) | (refine w_setL hupd_same rfl ?_; (conv => whnf)) | (refine w_eqi ?_; (conv => whnf)) | (refine w_eqs ?_; (conv => whnf)) | (refine w_t (by first | rfl | decide | assumption) ?_; (conv => whnf)) | (refine w_f (by first | rfl | decide | assumption) ?_; (conv => whnf)) | (refine And.intro (by first | omega | rfl | decide | assumption | exact Nat.le_of_ble_eq_true rfl | exact mulR (by omega) (by omega) | exact mulL (by omega) (by omega) | exact mulM (by omega) (by omega) | exact divOk (by omega) (by omega) | exact Exists.intro _ (by assumption)) ?_; (conv => whnf))))
  refine sp_draw f16.bag (by omega) (by omega) fun m h7 f7 m0 m1 => ?_
  have f17 := f16.trans f7
  (conv => whnf); (repeat (first | (refine w_need rfl ?_; (conv => whnf)) | (refine w_ix (by assumption) rfl ?_; (conv => whnf)) | (refine w_ix hupd_same rfl ?_; (conv => whnf)) | (refine w_setL (by assumption) rfl ?_; (conv => whnf)) | (refine w_setL hupd_same rfl ?_; (conv => whnf)) | (refine w_eqi ?_; (conv => whnf)) | (refine w_eqs ?_; (conv => whnf)) | (refine w_t (by first | rfl | decide | assumption) ?_; (conv => whnf)) | (refine w_f (by first | rfl | decide | assumption) ?_; (conv => whnf)) | (refine And.intro (by first | omega | rfl | decide | assumption | exact Nat.le_of_ble_eq_true rfl | exact mulR (by omega) (by omega) | exact mulL (by omega) (by omega) | exact mulM (by omega) (by omega) | exact divOk (by omega) (by omega) | exact Exists.intro _ (by assumption)) ?_; (conv => whnf))))
  refine w_range0 (I := fun i τ h' => Fr b h h' ∧ ∃ (ds : List (Int × Int)) (a4 a9 : Option D), h' p = some (.lst (ds.map pairD)) ∧ ds.length = i ∧ (∀ p ∈ ds, 0 ≤ p.1 ∧ p.1 ≤ p.2 ∧ p.2 ≤ 418 * share) ∧ τ = [some (.loc b), some (.int dials), some (.int share), some (.int (a * share)), a4, some (.tup [.int (a * share), .int (a * share + c * share)]), some (.tup [.int (d * share), .int (1 + e * share)]), some (.int (1 + n)), some (.loc p), a9]) ⟨f17, [], _, _, f7.1 _ _ hpb e6, rfl, (fun _ z => absurd z List.not_mem_nil), rfl⟩ ?_ ?_
  · rintro i τ h' nx hi ⟨f, ds, a4, a9, ep, hl, hd, rfl⟩ hnx
    (conv => whnf); (repeat (first | (refine w_need rfl ?_; (conv => whnf)) | (refine w_ix (by assumption) rfl ?_; (conv => whnf)) | (refine w_ix hupd_same rfl ?_; (conv => whnf)) | (refine w_setL (by assumption) rfl ?_; (conv => whnf)) | (refine w_setL hupd_same rfl ?_; (conv => whnf)) | (refine w_eqi ?_; (conv => whnf)) | (refine w_eqs ?_; (conv => whnf)) | (refine w_t (by first | rfl | decide | assumption) ?_; (conv => whnf)) | (refine w_f (by first | rfl | decide | assumption) ?_; (conv => whnf)) | (refine And.intro (by first | omega | rfl | decide | assumption | exact Nat.le_of_ble_eq_true rfl | exact mulR (by omega) (by omega) | exact mulL (by omega) (by omega) | exact mulM (by omega) (by omega) | exact divOk (by omega) (by omega) | exact Exists.intro _ (by assumption)) ?_; (conv => whnf))))
    refine sp_draw f.bag (by omega) (by omega) fun u h8 f8 u0 u1 => ?_
    have mu := ml u 259 u0 (by omega)
    have f8' := f.trans f8
    have ep8 := f8.1 _ _ hpb ep
    (conv => whnf); (repeat (first | (refine w_need rfl ?_; (conv => whnf)) | (refine w_ix (by assumption) rfl ?_; (conv => whnf)) | (refine w_ix hupd_same rfl ?_; (conv => whnf)) | (refine w_setL (by assumption) rfl ?_; (conv => whnf)) | (refine w_setL hupd_same rfl ?_; (conv => whnf)) | (refine w_eqi ?_; (conv => whnf)) | (refine w_eqs ?_; (conv => whnf)) | (refine w_t (by first | rfl | decide | assumption) ?_; (conv => whnf)) | (refine w_f (by first | rfl | decide | assumption) ?_; (conv => whnf)) | (refine And.intro (by first | omega | rfl | decide | assumption | exact Nat.le_of_ble_eq_true rfl | exact mulR (by omega) (by omega) | exact mulL (by omega) (by omega) | exact mulM (by omega) (by omega) | exact divOk (by omega) (by omega) | exact Exists.intro _ (by assumption)) ?_; (conv => whnf))))
    refine sp_draw f8'.bag (by omega) (by omega) fun v h9 f9 v0 v1 => ?_
    have mv := ml v 159 v0 (by omega)
    have ep9 := f9.1 _ _ hpb ep8
    (conv => whnf); (repeat (first | (refine w_need rfl ?_; (conv => whnf)) | (refine w_ix (by assumption) rfl ?_; (conv => whnf)) | (refine w_ix hupd_same rfl ?_; (conv => whnf)) | (refine w_setL (by assumption) rfl ?_; (conv => whnf)) | (refine w_setL hupd_same rfl ?_; (conv => whnf)) | (refine w_eqi ?_; (conv => whnf)) | (refine w_eqs ?_; (conv => whnf)) | (refine w_t (by first | rfl | decide | assumption) ?_; (conv => whnf)) | (refine w_f (by first | rfl | decide | assumption) ?_; (conv => whnf)) | (refine And.intro (by first | omega | rfl | decide | assumption | exact Nat.le_of_ble_eq_true rfl | exact mulR (by omega) (by omega) | exact mulL (by omega) (by omega) | exact mulM (by omega) (by omega) | exact divOk (by omega) (by omega) | exact Exists.intro _ (by assumption)) ?_; (conv => whnf))))
    rw [ep9]
    (conv => whnf)
    refine ⟨small_size (by rw [List.length_map]; omega), ?_⟩
    (conv => whnf)
    refine hnx _ _ ⟨⟨fun a o za zb => ?_, ?_⟩, ds ++ [(u * share, u * share + v * share)], _, _, by rw [hupd_same, List.map_append]; rfl, by simp [hl], ?_, rfl⟩
    · have z := f8'.trans f9
      by_cases y : a = p
      · subst y
        have := (f15.1 a o za zb)
        rw [hp] at this; cases this
      · rw [hupd_ne y]; exact z.1 a o za zb
    · obtain ⟨g, s, n, z⟩ := f9.bag
      exact ⟨g, s, n, by rw [hupd_ne hpb.symm]; exact z⟩
    · intro k hk
      rcases List.mem_append.mp hk with hk | hk
      · exact hd k hk
      · rw [List.mem_singleton.mp hk]
        exact ⟨by show 0 ≤ u * share; omega, by show u * share ≤ u * share + v * share; omega, by show u * share + v * share ≤ 418 * share; omega⟩
  · rintro τ h' ⟨f, ds, a4, a9, ep, hl, hd, rfl⟩
    (conv => whnf); (repeat (first | (refine w_need rfl ?_; (conv => whnf)) | (refine w_ix (by assumption) rfl ?_; (conv => whnf)) | (refine w_ix hupd_same rfl ?_; (conv => whnf)) | (refine w_setL (by assumption) rfl ?_; (conv => whnf)) | (refine w_setL hupd_same rfl ?_; (conv => whnf)) | (refine w_eqi ?_; (conv => whnf)) | (refine w_eqs ?_; (conv => whnf)) | (refine w_t (by first | rfl | decide | assumption) ?_; (conv => whnf)) | (refine w_f (by first | rfl | decide | assumption) ?_; (conv => whnf)) | (refine And.intro (by first | omega | rfl | decide | assumption | exact Nat.le_of_ble_eq_true rfl | exact mulR (by omega) (by omega) | exact mulL (by omega) (by omega) | exact mulM (by omega) (by omega) | exact divOk (by omega) (by omega) | exact Exists.intro _ (by assumption)) ?_; (conv => whnf))))
    refine sp_ties f.bag (by omega) (by omega) hs hs2 fun ts h8 f8 T => ?_
    (conv => whnf)
    rw [tup_of (f8.1 _ _ hpb ep)]
    (conv => whnf); (repeat (first | (refine w_need rfl ?_; (conv => whnf)) | (refine w_ix (by assumption) rfl ?_; (conv => whnf)) | (refine w_ix hupd_same rfl ?_; (conv => whnf)) | (refine w_setL (by assumption) rfl ?_; (conv => whnf)) | (refine w_setL hupd_same rfl ?_; (conv => whnf)) | (refine w_eqi ?_; (conv => whnf)) | (refine w_eqs ?_; (conv => whnf)) | (refine w_t (by first | rfl | decide | assumption) ?_; (conv => whnf)) | (refine w_f (by first | rfl | decide | assumption) ?_; (conv => whnf)) | (refine And.intro (by first | omega | rfl | decide | assumption | exact Nat.le_of_ble_eq_true rfl | exact mulR (by omega) (by omega) | exact mulL (by omega) (by omega) | exact mulM (by omega) (by omega) | exact divOk (by omega) (by omega) | exact Exists.intro _ (by assumption)) ?_; (conv => whnf))))
    exact k ⟨dials, a * share, a * share + c * share, d * share, 1 + e * share, 1 + n, ts, ds⟩ _ (f.trans f8) rfl ⟨ma.1, by show a * share ≤ a * share + c * share; omega, by show a * share + c * share ≤ 8 * share; omega, md.1, md.2, by show 1 ≤ 1 + e * share; omega, by show 1 + e * share ≤ 1 + 11 * share; omega, by show 1 ≤ 1 + n; omega, by show 1 + n ≤ 4; omega, ⟨share, hs, hs2, T⟩, by show 1 ≤ ds.length; omega, by show ds.length ≤ 3; omega, hd⟩ T
end DL

set_option linter.all false
set_option maxRecDepth 100000
set_option maxHeartbeats 2000000
namespace DL
open PySem PySem.Spec PyProof.Rows L2
/-! values of any kind, and ovensuntold.values -/
inductive Vl (h : DH) : D → Prop
  | non : Vl h .non
  | bl (b : Bool) : Vl h (.bl b)
  | int (i : Int) : Vl h (.int i)
  | str (s : Str) : Vl h (.str s)
  | tup {ds : List D} : (∀ d ∈ ds, Vl h d) → Vl h (.tup ds)
  | lst {a : Addr} {ds : List D} : h a = some (.lst ds) → (∀ d ∈ ds, Vl h d) → Vl h (.loc a)
  | dct {a : Addr} {kvs : List (Key × D)} : h a = some (.dK kvs) → (∀ p ∈ kvs, Vl h p.2) → Vl h (.loc a)
theorem Vl.ext {h h' : DH} (x : Ext h h') {d : D} (v : Vl h d) : Vl h' d := by
  induction v with
  | non => exact .non
  | bl b => exact .bl b
  | int i => exact .int i
  | str s => exact .str s
  | tup _ ih => exact .tup ih
  | lst e _ ih => exact .lst (x _ _ e) ih
  | dct e _ ih => exact .dct (x _ _ e) ih
theorem Vl.ty {h : DH} {d : D} (v : Vl h d) : ∃ a, tyD h d = some a := by
  cases v with
  | non => exact ⟨_, rfl⟩
  | bl b => exact ⟨_, rfl⟩
  | int i => exact ⟨_, rfl⟩
  | str s => exact ⟨_, rfl⟩
  | tup _ => exact ⟨_, rfl⟩
  | lst e _ => exact ⟨"list", by show tyO (h _) = _; rw [e]; rfl⟩
  | dct e _ => exact ⟨"dict", by show tyO (h _) = _; rw [e]; rfl⟩
theorem Vl.items {h : DH} {ds : List D} (v : Vl h (.tup ds)) : ∀ d ∈ ds, Vl h d := by
  cases v with
  | tup q => exact q
theorem Vl.loc_ty {h : DH} {a : Addr} (v : Vl h (.loc a)) : tyD h (.loc a) = some "list" ∨ tyD h (.loc a) = some "dict" := by
  cases v with
  | lst e _ => exact .inl (by show tyO (h _) = _; rw [e]; rfl)
  | dct e _ => exact .inr (by show tyO (h _) = _; rw [e]; rfl)
def isIntB (d : D) (lo hi : Int) : Bool := match d with
  | .int i => decide (lo ≤ i) && decide (i ≤ hi)
  | _ => false
def isTupB (d : D) (n : Nat) : Bool := match d with
  | .tup ds => ds.length == n
  | _ => false
def leB : D → D → Bool
  | .int i, .int j => decide (i ≤ j)
  | _, _ => false
def isPairB (d : D) (lo hi : Int) : Bool := match d with
  | .tup [x, y] => isIntB x lo hi && isIntB y lo hi && leB x y
  | _ => false
theorem sp_is_integer {h : DH} {d : D} {lo hi : Int} {Q : DK} (v : Vl h d) (k : Q (.bl (isIntB d lo hi)) h) : m_is_integer [d, .int lo, .int hi] h Q := by
  apply m_is_integer_ap
  (conv => whnf)
  cases v with
  | int i =>
    refine w_isi rfl (by decide) ?_
    (conv => whnf)
    refine w_t rfl ?_
    (conv => whnf)
    refine w_isi rfl (by decide) ?_
    (conv => whnf)
    refine w_t rfl ?_
    (conv => whnf)
    have e : isIntB (.int i) lo hi = (decide (lo ≤ i) && decide (i ≤ hi)) := rfl
    rw [e] at k
    refine w_ite (fun c => ?_) (fun c => ?_)
    · rw [decide_eq_true c, Bool.true_and] at k
      exact k
    · rw [decide_eq_false c, Bool.false_and] at k
      exact k
  | bl b =>
    refine w_isi rfl (by decide) ?_
    (conv => whnf)
    refine w_t rfl ?_
    (conv => whnf)
    refine w_isi rfl (by decide) ?_
    (conv => whnf)
    refine w_f rfl ?_
    exact k
  | lst e q =>
    refine w_isi (a := "list") (by show tyO (h _) = _; rw [e]; rfl) (by decide) ?_
    (conv => whnf)
    exact w_f rfl k
  | dct e q =>
    refine w_isi (a := "dict") (by show tyO (h _) = _; rw [e]; rfl) (by decide) ?_
    (conv => whnf)
    exact w_f rfl k
  | _ =>
    refine w_isi rfl (by decide) ?_
    (conv => whnf)
    exact w_f rfl k
theorem sp_is_tuple {h : DH} {d : D} {n : Nat} {N : Int} {Q : DK} (hN : N = n) (v : Vl h d) (k : Q (.bl (isTupB d n)) h) : m_is_tuple [d, .int N] h Q := by
  apply m_is_tuple_ap
  (conv => whnf)
  cases v with
  | tup q =>
    rename_i ds
    refine w_isi rfl (by decide) ?_
    (conv => whnf)
    refine w_t rfl ?_
    (conv => whnf)
    refine w_need (v := .int ds.length) rfl ?_
    (conv => whnf)
    refine w_eqi ?_
    have e : isTupB (.tup ds) n = decide ((ds.length : Int) = N) := by
      show (ds.length == n) = _
      by_cases c : ds.length = n
      · rw [decide_eq_true (by omega), c]; simp
      · rw [decide_eq_false (by omega)]; simpa using c
    rw [e] at k
    exact k
  | lst e q =>
    refine w_isi (a := "list") (by show tyO (h _) = _; rw [e]; rfl) (by decide) ?_
    (conv => whnf)
    exact w_f rfl k
  | dct e q =>
    refine w_isi (a := "dict") (by show tyO (h _) = _; rw [e]; rfl) (by decide) ?_
    (conv => whnf)
    exact w_f rfl k
  | _ =>
    refine w_isi rfl (by decide) ?_
    (conv => whnf)
    exact w_f rfl k
theorem isTupB_eq {d : D} {n : Nat} (e : isTupB d n = true) : ∃ ds, d = .tup ds ∧ ds.length = n := by
  cases d with
  | tup ds => exact ⟨ds, rfl, eq_of_beq e⟩
  | _ => cases e
theorem isIntB_eq {d : D} {lo hi : Int} (e : isIntB d lo hi = true) : ∃ i, d = .int i ∧ lo ≤ i ∧ i ≤ hi := by
  cases d with
  | int i =>
    have e : (decide (lo ≤ i) && decide (i ≤ hi)) = true := e
    rw [Bool.and_eq_true, decide_eq_true_eq, decide_eq_true_eq] at e
    exact ⟨i, rfl, e.1, e.2⟩
  | _ => cases e
/-- all(is_integer(x, lo, hi) for x in ds) of a tuple -/
theorem ints_all (ds : List D) (lo hi : Int) : ((List.range ds.length).map fun i => isIntB (ds.getD i .non) lo hi).all id = ds.all fun d => isIntB d lo hi := by
  induction ds with
  | nil => rfl
  | cons d ds ih =>
    rw [List.length_cons, List.range_succ_eq_map, List.map_cons, List.map_map, List.all_cons, List.all_cons, ← ih]
    rfl
end DL

set_option linter.all false
set_option maxRecDepth 100000
set_option maxHeartbeats 2000000
namespace DL
open PySem PySem.Spec PyProof.Rows L2
/-! is_pair_of -/
theorem sp_is_pair_of {h : DH} {d : D} {lo hi : Int} {Q : DK} (v : Vl h d) (k : ∀ h', Ext h h' → Q (.bl (isPairB d lo hi)) h') : m_is_pair_of [d, .int lo, .int hi] h Q := by
  apply m_is_pair_of_ap
  (conv => whnf); (repeat (first | (refine w_need rfl ?_; (conv => whnf)) | (refine w_ix (by assumption) rfl ?_; (conv => whnf)) | (refine w_ix hupd_same rfl ?_; (conv => whnf)) | (refine w_setL (by assumption) rfl ?_; (conv => whnf)) | (refine w_setL hupd_same rfl ?_; (conv => whnf)) | (refine w_eqi ?_; (conv => whnf)) | (refine w_eqs ?_; (conv => whnf)) | (refine w_t (by first | rfl | decide | assumption) ?_; (conv => whnf)) | (refine w_f (by first | rfl | decide | assumption) ?_; (conv => whnf)) | (refine And.intro (by first | omega | rfl | decide | assumption | exact Nat.le_of_ble_eq_true rfl | exact mulR (by omega) (by omega) | exact mulL (by omega) (by omega) | exact mulM (by omega) (by omega) | exact divOk (by omega) (by omega) | exact Exists.intro _ (by assumption)) ?_; (conv => whnf))))
  refine sp_is_tuple (n := 2) rfl v ?_
  (conv => whnf)
  refine w_iteb (fun c => ?_) (fun c => ?_)
  · obtain ⟨ds, rfl, hl⟩ := isTupB_eq c
    obtain ⟨x, y, rfl⟩ : ∃ x y, ds = [x, y] := by
      match ds, hl with
      | [x, y], _ => exact ⟨x, y, rfl⟩
    have vi := v.items
    (conv => whnf)
    refine w_lc ?_
    (conv => whnf)
    intro p hp
    refine w_map (fun i => .bl (isIntB ([x, y].getD i .non) lo hi)) hp (small2 (show 2 ≤ 1000000 by decide)) (fun _ _ => trivial) (fun i d h' C ed x1 hC => ?_) (fun h1 x1 e1 => ?_)
    · have hd : [x, y].getD i .non = d := by rw [List.getD_eq_getElem?_getD, ed]; rfl
      rw [hd] at hC
      (conv => whnf); (repeat (first | (refine w_need rfl ?_; (conv => whnf)) | (refine w_ix (by assumption) rfl ?_; (conv => whnf)) | (refine w_ix hupd_same rfl ?_; (conv => whnf)) | (refine w_setL (by assumption) rfl ?_; (conv => whnf)) | (refine w_setL hupd_same rfl ?_; (conv => whnf)) | (refine w_eqi ?_; (conv => whnf)) | (refine w_eqs ?_; (conv => whnf)) | (refine w_t (by first | rfl | decide | assumption) ?_; (conv => whnf)) | (refine w_f (by first | rfl | decide | assumption) ?_; (conv => whnf)) | (refine And.intro (by first | omega | rfl | decide | assumption | exact Nat.le_of_ble_eq_true rfl | exact mulR (by omega) (by omega) | exact mulL (by omega) (by omega) | exact mulM (by omega) (by omega) | exact divOk (by omega) (by omega) | exact Exists.intro _ (by assumption)) ?_; (conv => whnf))))
      exact sp_is_integer ((vi d (List.mem_of_getElem? ed)).ext x1) (hC _ (.refl _))
    · (conv => whnf)
      have e2 : h1 p = some (.lst (([isIntB x lo hi, isIntB y lo hi] : List Bool).map D.bl)) := e1
      refine w_all e2 ?_
      (conv => whnf)
      have k1 := k h1 x1
      refine w_iteb (fun c2 => ?_) (fun c2 => ?_)
      · have c3 : (isIntB x lo hi && (isIntB y lo hi && true)) = true := c2
        rw [Bool.and_true, Bool.and_eq_true] at c3
        obtain ⟨i, rfl, _⟩ := isIntB_eq c3.1
        obtain ⟨j, rfl, _⟩ := isIntB_eq c3.2
        (conv => whnf)
        refine w_need (v := .int i) rfl ?_
        (conv => whnf)
        refine w_need (v := .int j) rfl ?_
        (conv => whnf)
        have e4 : isPairB (.tup [.int i, .int j]) lo hi = decide (i ≤ j) := by
          show (isIntB (.int i) lo hi && isIntB (.int j) lo hi && decide (i ≤ j)) = _
          rw [c3.1, c3.2]; rfl
        rw [e4] at k1
        exact k1
      · have c3 : (isIntB x lo hi && (isIntB y lo hi && true)) = false := c2
        rw [Bool.and_true] at c3
        have e4 : isPairB (.tup [x, y]) lo hi = false := by
          show (isIntB x lo hi && isIntB y lo hi && leB x y) = _
          rw [c3]; rfl
        rw [e4] at k1
        exact k1
  · have e4 : isPairB d lo hi = false := by
      cases d with
      | tup ds =>
        match ds, c with
        | [x, y], c => cases c
        | [], _ => rfl
        | [x], _ => rfl
        | x :: y :: z :: r, _ => rfl
      | _ => rfl
    have k1 := k h (.refl _)
    rw [e4] at k1
    exact k1
end DL

set_option linter.all false
set_option maxRecDepth 100000
set_option maxHeartbeats 2000000
namespace DL
open PySem PySem.Spec PyProof.Rows L2
/-! ovensuntold.gaps -/
def lessO : Option Int → Option Int → Option Int
  | none, b => b
  | a, none => a
  | some i, some j => some (if j < i then j else i)
def plusO : Option Int → Option Int → Option Int
  | some i, some j => some (i + j)
  | _, _ => none
theorem sp_less {h : DH} {a b : Option Int} {Q : DK} (k : Q (optD (lessO a b)) h) : m_less [optD a, optD b] h Q := by
  apply m_less_ap
  cases a with
  | none =>
    (conv => whnf); (repeat (first | (refine w_need rfl ?_; (conv => whnf)) | (refine w_ix (by assumption) rfl ?_; (conv => whnf)) | (refine w_ix hupd_same rfl ?_; (conv => whnf)) | (refine w_setL (by assumption) rfl ?_; (conv => whnf)) | (refine w_setL hupd_same rfl ?_; (conv => whnf)) | (refine w_eqi ?_; (conv => whnf)) | (refine w_eqs ?_; (conv => whnf)) | (refine w_t (by first | rfl | decide | assumption) ?_; (conv => whnf)) | (refine w_f (by first | rfl | decide | assumption) ?_; (conv => whnf)) | (refine And.intro (by first | omega | rfl | decide | assumption | exact Nat.le_of_ble_eq_true rfl | exact mulR (by omega) (by omega) | exact mulL (by omega) (by omega) | exact mulM (by omega) (by omega) | exact divOk (by omega) (by omega) | exact Exists.intro _ (by assumption)) ?_; (conv => whnf))))
    exact k
  | some i =>
    cases b with
    | none =>
      (conv => whnf); (repeat (first | (refine w_need rfl ?_; (conv => whnf)) | (refine w_ix (by assumption) rfl ?_; (conv => whnf)) | (refine w_ix hupd_same rfl ?_; (conv => whnf)) | (refine w_setL (by assumption) rfl ?_; (conv => whnf)) | (refine w_setL hupd_same rfl ?_; (conv => whnf)) | (refine w_eqi ?_; (conv => whnf)) | (refine w_eqs ?_; (conv => whnf)) | (refine w_t (by first | rfl | decide | assumption) ?_; (conv => whnf)) | (refine w_f (by first | rfl | decide | assumption) ?_; (conv => whnf)) | (refine And.intro (by first | omega | rfl | decide | assumption | exact Nat.le_of_ble_eq_true rfl | exact mulR (by omega) (by omega) | exact mulL (by omega) (by omega) | exact mulM (by omega) (by omega) | exact divOk (by omega) (by omega) | exact Exists.intro _ (by assumption)) ?_; (conv => whnf))))
      exact k
    | some j =>
      (conv => whnf); (repeat (first | (refine w_need rfl ?_; (conv => whnf)) | (refine w_ix (by assumption) rfl ?_; (conv => whnf)) | (refine w_ix hupd_same rfl ?_; (conv => whnf)) | (refine w_setL (by assumption) rfl ?_; (conv => whnf)) | (refine w_setL hupd_same rfl ?_; (conv => whnf)) | (refine w_eqi ?_; (conv => whnf)) | (refine w_eqs ?_; (conv => whnf)) | (refine w_t (by first | rfl | decide | assumption) ?_; (conv => whnf)) | (refine w_f (by first | rfl | decide | assumption) ?_; (conv => whnf)) | (refine And.intro (by first | omega | rfl | decide | assumption | exact Nat.le_of_ble_eq_true rfl | exact mulR (by omega) (by omega) | exact mulL (by omega) (by omega) | exact mulM (by omega) (by omega) | exact divOk (by omega) (by omega) | exact Exists.intro _ (by assumption)) ?_; (conv => whnf))))
      exact k
theorem sp_plus {h : DH} {a b : Option Int} {Q : DK} (k : Q (optD (plusO a b)) h) : m_plus [optD a, optD b] h Q := by
  apply m_plus_ap
  cases a with
  | none =>
    (conv => whnf); (repeat (first | (refine w_need rfl ?_; (conv => whnf)) | (refine w_ix (by assumption) rfl ?_; (conv => whnf)) | (refine w_ix hupd_same rfl ?_; (conv => whnf)) | (refine w_setL (by assumption) rfl ?_; (conv => whnf)) | (refine w_setL hupd_same rfl ?_; (conv => whnf)) | (refine w_eqi ?_; (conv => whnf)) | (refine w_eqs ?_; (conv => whnf)) | (refine w_t (by first | rfl | decide | assumption) ?_; (conv => whnf)) | (refine w_f (by first | rfl | decide | assumption) ?_; (conv => whnf)) | (refine And.intro (by first | omega | rfl | decide | assumption | exact Nat.le_of_ble_eq_true rfl | exact mulR (by omega) (by omega) | exact mulL (by omega) (by omega) | exact mulM (by omega) (by omega) | exact divOk (by omega) (by omega) | exact Exists.intro _ (by assumption)) ?_; (conv => whnf))))
    exact k
  | some i =>
    cases b with
    | none =>
      (conv => whnf); (repeat (first | (refine w_need rfl ?_; (conv => whnf)) | (refine w_ix (by assumption) rfl ?_; (conv => whnf)) | (refine w_ix hupd_same rfl ?_; (conv => whnf)) | (refine w_setL (by assumption) rfl ?_; (conv => whnf)) | (refine w_setL hupd_same rfl ?_; (conv => whnf)) | (refine w_eqi ?_; (conv => whnf)) | (refine w_eqs ?_; (conv => whnf)) | (refine w_t (by first | rfl | decide | assumption) ?_; (conv => whnf)) | (refine w_f (by first | rfl | decide | assumption) ?_; (conv => whnf)) | (refine And.intro (by first | omega | rfl | decide | assumption | exact Nat.le_of_ble_eq_true rfl | exact mulR (by omega) (by omega) | exact mulL (by omega) (by omega) | exact mulM (by omega) (by omega) | exact divOk (by omega) (by omega) | exact Exists.intro _ (by assumption)) ?_; (conv => whnf))))
      exact k
    | some j =>
      (conv => whnf); (repeat (first | (refine w_need rfl ?_; (conv => whnf)) | (refine w_ix (by assumption) rfl ?_; (conv => whnf)) | (refine w_ix hupd_same rfl ?_; (conv => whnf)) | (refine w_setL (by assumption) rfl ?_; (conv => whnf)) | (refine w_setL hupd_same rfl ?_; (conv => whnf)) | (refine w_eqi ?_; (conv => whnf)) | (refine w_eqs ?_; (conv => whnf)) | (refine w_t (by first | rfl | decide | assumption) ?_; (conv => whnf)) | (refine w_f (by first | rfl | decide | assumption) ?_; (conv => whnf)) | (refine And.intro (by first | omega | rfl | decide | assumption | exact Nat.le_of_ble_eq_true rfl | exact mulR (by omega) (by omega) | exact mulL (by omega) (by omega) | exact mulM (by omega) (by omega) | exact divOk (by omega) (by omega) | exact Exists.intro _ (by assumption)) ?_; (conv => whnf))))
      exact k
theorem upd2_self (T : Tb) (i j : Int) : upd2 T i j (T i j) = T := by
  funext a b
  unfold upd2
  split
  · rename_i e; rw [e.1, e.2]
  · rfl
theorem relax_less (T : Tb) (i j z : Int) : upd2 T i j (lessO (T i j) (some z)) = relax T i j z := by
  unfold relax better
  cases e : T i j with
  | none => rfl
  | some y =>
    dsimp only
    by_cases q : z < y
    · rw [if_pos (decide_eq_true q)]
      show upd2 T i j (some (if z < y then z else y)) = _
      rw [if_pos q]
    · rw [if_neg (by simpa using q)]
      show upd2 T i j (some (if z < y then z else y)) = _
      rw [if_neg q, ← e]
      exact upd2_self T i j
theorem mid_less (T : Tb) (k i j : Int) : upd2 T i j (lessO (T i j) (plusO (T i k) (T k j))) = mid T k i j := by
  unfold mid
  cases e1 : T i k with
  | none =>
    show upd2 T i j (lessO (T i j) none) = T
    have : lessO (T i j) none = T i j := by cases T i j <;> rfl
    rw [this]; exact upd2_self T i j
  | some a =>
    cases e2 : T k j with
    | none =>
      show upd2 T i j (lessO (T i j) none) = T
      have : lessO (T i j) none = T i j := by cases T i j <;> rfl
      rw [this]; exact upd2_self T i j
    | some b => exact relax_less T i j (a + b)
/-- n rows of n, as T tells -/
structure GridAt (n : Nat) (q : Addr) (T : Tb) (h h' : DH) : Prop where
  x : Ext h h'
  new : h q = none
  ex : ∃ rs : List Addr, rs.length = n ∧ h' q = some (.lst (rs.map D.loc)) ∧ rs.Nodup ∧ q ∉ rs ∧ (∀ r ∈ rs, h r = none) ∧ ∀ i r, rs[i]? = some r → h' r = some (.lst ((List.range n).map fun j : Nat => optD (T (i : Nat) (j : Nat))))
theorem grid_row {n : Nat} {T : Tb} {i j : Nat} (hj : j < n) : ((List.range n).map fun j : Nat => optD (T (i : Nat) (j : Nat)))[j]? = some (optD (T (i : Nat) (j : Nat))) := by
  rw [List.getElem?_map, List.getElem?_range hj]; rfl
/-- found[i][j] -/
theorem w_grid {rs : List Addr} {q : Addr} {h : DH} {i j : Nat} {r : Addr} {Q : DK} (e : h q = some (.lst (rs.map D.loc))) (er : rs[i]? = some r) (k : need (ixD h (.loc r) (.int (j : Nat))) h Q) : need (ixD h (.loc q) (.int (i : Nat))) h fun x h1 => need (ixD h1 x (.int (j : Nat))) h1 Q :=
  w_ix e (atI_nth (by rw [List.getElem?_map, er]; rfl)) k
theorem grid_put {n : Nat} {q : Addr} {T : Tb} {h h' : DH} {i j : Nat} {r : Addr} {rs : List Addr} {v : Option Int} (x : Ext h h') (new : h q = none) (hl : rs.length = n) (eq : h' q = some (.lst (rs.map D.loc))) (nd : rs.Nodup) (nq : q ∉ rs) (nr : ∀ r ∈ rs, h r = none)
    (rows : ∀ i r, rs[i]? = some r → h' r = some (.lst ((List.range n).map fun j : Nat => optD (T (i : Nat) (j : Nat))))) (er : rs[i]? = some r) (hj : j < n) :
    GridAt n q (upd2 T (i : Nat) (j : Nat) v) h (hupd h' r (.lst (((List.range n).map fun j : Nat => optD (T (i : Nat) (j : Nat))).set j (optD v)))) := by
  have hr := nr r (List.mem_of_getElem? er)
  refine ⟨fun a o z => ?_, new, rs, hl, ?_, nd, nq, nr, fun i' r' er' => ?_⟩
  · rw [hupd_ne (fun y => by subst y; rw [hr] at z; cases z)]; exact x a o z
  · rw [hupd_ne (fun y => nq (by rw [y]; exact List.mem_of_getElem? er))]; exact eq
  · by_cases c : i' = i
    · subst c
      rw [er] at er'
      cases er'
      rw [hupd_same]
      congr 2
      refine List.ext_getElem? fun m => ?_
      rw [List.getElem?_set]
      by_cases hm : m < n
      · rw [grid_row (T := upd2 T (i' : Nat) (j : Nat) v) (i := i') hm]
        by_cases c : j = m
        · subst c
          rw [if_pos rfl, if_pos (by simpa using hj), upd2_same]
        · rw [if_neg c, grid_row hm, upd2_ne (by omega)]
      · rw [List.getElem?_eq_none (by simpa using hm), List.getElem?_eq_none (by simpa using hm)]
        split
        · rename_i c; rw [if_neg (by simp; omega)]
        · rfl
    · rw [hupd_ne (fun y => c ?_)]
      · rw [rows i' r' er']
        congr 2
        refine List.map_congr_left fun m _ => ?_
        rw [upd2_ne (by omega)]
      · subst y
        have l1 := (List.getElem?_eq_some_iff.mp er).1
        have l2 := (List.getElem?_eq_some_iff.mp er').1
        have e1 := (List.getElem?_eq_some_iff.mp er).2
        have e2 := (List.getElem?_eq_some_iff.mp er').2
        rcases Nat.lt_trichotomy i' i with z | z | z
        · exact absurd (e2.trans e1.symm) (List.pairwise_iff_getElem.mp nd i' i l2 l1 z)
        · exact z
        · exact absurd (e1.trans e2.symm) (List.pairwise_iff_getElem.mp nd i i' l1 l2 z)
theorem set_nat {xs : List D} {j : Nat} {v : D} (h : j < xs.length) : setI xs v (.int (j : Nat)) = some (.lst (xs.set j v)) := by
  show (ixN xs.length (j : Nat)).map _ = _
  unfold ixN
  rw [if_pos (Int.natCast_nonneg j), if_pos (by omega)]
  simp

theorem sp_own_gaps {h : DH} {n : Nat} {N : Int} {t : D} {ts : List Tie} {Q : DK} (hN : N = n) (hn2 : n ≤ 100) (S : SeqIs h t (ts.map fun t => tupI t.l)) (ok : ∀ t ∈ ts, TieIn N t) (k : ∀ q h', GridAt n q (ties0 ts) h h' → Q (.loc q) h') : m_own_gaps [.int N, t] h Q := by
  have en : N.toNat = n := by omega
  apply m_own_gaps_ap
  (conv => whnf)
  refine w_lc ?_
  (conv => whnf); (repeat (first | (refine w_need rfl ?_; (conv => whnf)) | (refine w_ix (by assumption) rfl ?_; (conv => whnf)) | (refine w_ix hupd_same rfl ?_; (conv => whnf)) | (refine w_setL (by assumption) rfl ?_; (conv => whnf)) | (refine w_setL hupd_same rfl ?_; (conv => whnf)) | (refine w_eqi ?_; (conv => whnf)) | (refine w_eqs ?_; (conv => whnf)) | (refine w_t (by first | rfl | decide | assumption) ?_; (conv => whnf)) | (refine w_f (by first | rfl | decide | assumption) ?_; (conv => whnf)) | (refine And.intro (by first | omega | rfl | decide | assumption | exact Nat.le_of_ble_eq_true rfl | exact mulR (by omega) (by omega) | exact mulL (by omega) (by omega) | exact mulM (by omega) (by omega) | exact divOk (by omega) (by omega) | exact Exists.intro _ (by assumption)) ?_; (conv => whnf))))
  intro p hp
  rw [en]
  refine w_go (I := fun i h' => Ext h h' ∧ ∃ rs : List Addr, rs.length = i ∧ h' p = some (.lst (rs.map D.loc)) ∧ rs.Nodup ∧ p ∉ rs ∧ (∀ r ∈ rs, h r = none) ∧ ∀ i r, rs[i]? = some r → h' r = some (.lst ((List.range n).map fun j : Nat => optD (tb0 (i : Nat) (j : Nat))))) ⟨ext_new hp, [], rfl, hupd_same, List.Pairwise.nil, List.not_mem_nil, (fun _ z => absurd z List.not_mem_nil), fun i r z => by simp at z⟩ (fun _ _ _ _ => trivial) ?_ ?_
  · rintro i d h1 C ed ⟨x1, rs, hl, ep, nd, np, nr, rows⟩ hC
    obtain ⟨hi, rfl⟩ := rangeD_get0 ed
    (conv => whnf); (repeat (first | (refine w_need rfl ?_; (conv => whnf)) | (refine w_ix (by assumption) rfl ?_; (conv => whnf)) | (refine w_ix hupd_same rfl ?_; (conv => whnf)) | (refine w_setL (by assumption) rfl ?_; (conv => whnf)) | (refine w_setL hupd_same rfl ?_; (conv => whnf)) | (refine w_eqi ?_; (conv => whnf)) | (refine w_eqs ?_; (conv => whnf)) | (refine w_t (by first | rfl | decide | assumption) ?_; (conv => whnf)) | (refine w_f (by first | rfl | decide | assumption) ?_; (conv => whnf)) | (refine And.intro (by first | omega | rfl | decide | assumption | exact Nat.le_of_ble_eq_true rfl | exact mulR (by omega) (by omega) | exact mulL (by omega) (by omega) | exact mulM (by omega) (by omega) | exact divOk (by omega) (by omega) | exact Exists.intro _ (by assumption)) ?_; (conv => whnf))))
    refine w_lc ?_
    (conv => whnf); (repeat (first | (refine w_need rfl ?_; (conv => whnf)) | (refine w_ix (by assumption) rfl ?_; (conv => whnf)) | (refine w_ix hupd_same rfl ?_; (conv => whnf)) | (refine w_setL (by assumption) rfl ?_; (conv => whnf)) | (refine w_setL hupd_same rfl ?_; (conv => whnf)) | (refine w_eqi ?_; (conv => whnf)) | (refine w_eqs ?_; (conv => whnf)) | (refine w_t (by first | rfl | decide | assumption) ?_; (conv => whnf)) | (refine w_f (by first | rfl | decide | assumption) ?_; (conv => whnf)) | (refine And.intro (by first | omega | rfl | decide | assumption | exact Nat.le_of_ble_eq_true rfl | exact mulR (by omega) (by omega) | exact mulL (by omega) (by omega) | exact mulM (by omega) (by omega) | exact divOk (by omega) (by omega) | exact Exists.intro _ (by assumption)) ?_; (conv => whnf))))
    intro p2 hp2
    rw [en]
    have hpp : p ≠ p2 := fun z => by rw [z, hp2] at ep; cases ep
    refine w_map (fun j => optD (tb0 (i : Nat) (j : Nat))) hp2 (by rw [rangeD_length]; exact small_size (by omega)) (fun _ _ => trivial) (fun j d h2 C2 ed2 x2 hC2 => ?_) (fun h2 x2 e2 => ?_)
    · obtain ⟨hj, rfl⟩ := rangeD_get0 ed2
      (conv => whnf)
      refine w_eqi ?_
      (conv => whnf)
      refine w_ite (fun c => ?_) (fun c => ?_)
      · (conv => whnf)
        have e : tb0 (i : Nat) (j : Nat) = some 0 := by unfold tb0; rw [if_pos c]
        rw [e] at hC2
        exact hC2 _ (.refl _)
      · (conv => whnf)
        have e : tb0 (i : Nat) (j : Nat) = none := by unfold tb0; rw [if_neg c]
        rw [e] at hC2
        exact hC2 _ (.refl _)
    · rw [rangeD_length] at e2
      refine w_push (x2 _ _ ep) (by rw [List.length_map, hl]; exact small_size (by omega)) ?_
      refine hC _ ⟨fun a o z => ?_, rs ++ [p2], by simp [hl], by rw [hupd_same, List.map_append]; rfl, ?_, ?_, fun r hr => ?_, fun i' r er => ?_⟩
      · rw [hupd_ne (fun y => by subst y; rw [hp] at z; cases z)]
        exact x2 _ _ (x1 _ _ z)
      · refine List.nodup_append.mpr ⟨nd, by simp, fun a ha b hb => ?_⟩
        rw [List.mem_singleton] at hb
        subst hb
        rintro rfl
        obtain ⟨i', hi', e⟩ := List.mem_iff_getElem.mp ha
        have := rows i' _ (List.getElem?_eq_some_iff.mpr ⟨hi', e⟩)
        rw [hp2] at this; cases this
      · rw [List.mem_append, List.mem_singleton]
        rintro (z | z)
        · exact np z
        · exact hpp z
      · rcases List.mem_append.mp hr with z | z
        · exact nr r z
        · rw [List.mem_singleton] at z
          subst z
          cases e : h r with
          | none => rfl
          | some o => have := x1 _ _ e; rw [hp2] at this; cases this
      · by_cases c : i' < rs.length
        · rw [List.getElem?_append_left c] at er
          have hne : r ≠ p := fun z => np (by rw [← z]; exact List.mem_of_getElem? er)
          rw [hupd_ne hne]
          exact x2 _ _ (rows i' r er)
        · rw [List.getElem?_append_right (by omega)] at er
          have : i' - rs.length = 0 := by
            rcases Nat.eq_zero_or_pos (i' - rs.length) with z | z
            · exact z
            · rw [List.getElem?_eq_none (by simp; omega)] at er; cases er
          rw [this] at er
          have er : p2 = r := Option.some.inj er
          subst er
          rw [hupd_ne (Ne.symm hpp)]
          have ei : i' = i := by omega
          rw [ei]
          exact e2
  · rintro h1 ⟨x1, rs, hl, ep, nd, np, nr, rows⟩
    rw [rangeD_length] at hl
    have G0 : GridAt n p tb0 h h1 := ⟨x1, hp, rs, hl, ep, nd, np, nr, rows⟩
    (conv => whnf)
    refine w_for ?_
    refine w_iseq S x1 (fun G hG => ?_) (fun Q w => w)
    refine w_loop (I := fun i τ h' => GridAt n p ((ts.take i).foldl tieS tb0) h h' ∧ ∃ a3 a4 a5 a6, τ = [some (.int N), some t, some (.loc p), a3, a4, a5, a6]) ⟨G0, _, _, _, _, rfl⟩ (fun _ _ h' _ I => hG h' I.1.x) ?_ ?_
    · rintro i d τ h2 nx ed ⟨Gr, a3, a4, a5, a6, rfl⟩ hnx
      rw [List.getElem?_map] at ed
      obtain ⟨u, eu, rfl⟩ := Option.map_eq_some_iff.mp ed
      obtain ⟨⟨ha, ha2⟩, hb, hb2⟩ := ok u (List.mem_of_getElem? eu)
      have etake : (ts.take (i + 1)).foldl tieS tb0 = tieS ((ts.take i).foldl tieS tb0) u := by
        rw [List.take_add_one, eu, List.foldl_append]; rfl
      rw [etake] at hnx
      generalize (ts.take i).foldl tieS tb0 = T at Gr hnx
      obtain ⟨a, b, lo, hi⟩ := u
      obtain ⟨a, rfl⟩ := Int.eq_ofNat_of_zero_le ha
      obtain ⟨b, rfl⟩ := Int.eq_ofNat_of_zero_le hb
      have han : a < n := by show a < n; have : (a : Int) < N := ha2; omega
      have hbn : b < n := by show b < n; have : (b : Int) < N := hb2; omega
      obtain ⟨x2, hp0, rs, hl, ep, nd, np, nr, rows⟩ := Gr
      have era : rs[a]? = some rs[a] := List.getElem?_eq_getElem (by omega)
      have erb : rs[b]? = some rs[b] := List.getElem?_eq_getElem (by omega)
      have L : ∀ T : Tb, ∀ i : Nat, ((List.range n).map fun j : Nat => optD (T (i : Nat) (j : Nat))).length = n := fun T i => by simp
      (conv => whnf)
      refine ⟨rfl, ?_⟩
      (conv => whnf)
      refine w_grid ep era (w_ix (rows a _ era) (atI_nth (grid_row hbn)) ?_)
      (conv => whnf); (repeat (first | (refine w_need rfl ?_; (conv => whnf)) | (refine w_ix (by assumption) rfl ?_; (conv => whnf)) | (refine w_ix hupd_same rfl ?_; (conv => whnf)) | (refine w_setL (by assumption) rfl ?_; (conv => whnf)) | (refine w_setL hupd_same rfl ?_; (conv => whnf)) | (refine w_eqi ?_; (conv => whnf)) | (refine w_eqs ?_; (conv => whnf)) | (refine w_t (by first | rfl | decide | assumption) ?_; (conv => whnf)) | (refine w_f (by first | rfl | decide | assumption) ?_; (conv => whnf)) | (refine And.intro (by first | omega | rfl | decide | assumption | exact Nat.le_of_ble_eq_true rfl | exact mulR (by omega) (by omega) | exact mulL (by omega) (by omega) | exact mulM (by omega) (by omega) | exact divOk (by omega) (by omega) | exact Exists.intro _ (by assumption)) ?_; (conv => whnf))))
      refine sp_less (a := T a b) (b := some hi) ?_
      (conv => whnf)
      refine w_ix ep (atI_nth (by rw [List.getElem?_map, era]; rfl)) ?_
      (conv => whnf)
      refine w_setL (rows a _ era) (set_nat (by rw [L]; exact hbn)) ?_
      have G1 := grid_put (v := lessO (T a b) (some hi)) x2 hp0 hl ep nd np nr rows era hbn
      rw [relax_less] at G1
      generalize hupd h2 _ _ = h3 at G1
      generalize eT1 : relax T a b hi = T1 at G1
      obtain ⟨x3, hp0, rs, hl, ep, nd, np, nr, rows⟩ := G1
      have era : rs[a]? = some rs[a] := List.getElem?_eq_getElem (by omega)
      have erb : rs[b]? = some rs[b] := List.getElem?_eq_getElem (by omega)
      (conv => whnf)
      refine w_grid ep erb (w_ix (rows b _ erb) (atI_nth (grid_row han)) ?_)
      (conv => whnf); (repeat (first | (refine w_need rfl ?_; (conv => whnf)) | (refine w_ix (by assumption) rfl ?_; (conv => whnf)) | (refine w_ix hupd_same rfl ?_; (conv => whnf)) | (refine w_setL (by assumption) rfl ?_; (conv => whnf)) | (refine w_setL hupd_same rfl ?_; (conv => whnf)) | (refine w_eqi ?_; (conv => whnf)) | (refine w_eqs ?_; (conv => whnf)) | (refine w_t (by first | rfl | decide | assumption) ?_; (conv => whnf)) | (refine w_f (by first | rfl | decide | assumption) ?_; (conv => whnf)) | (refine And.intro (by first | omega | rfl | decide | assumption | exact Nat.le_of_ble_eq_true rfl | exact mulR (by omega) (by omega) | exact mulL (by omega) (by omega) | exact mulM (by omega) (by omega) | exact divOk (by omega) (by omega) | exact Exists.intro _ (by assumption)) ?_; (conv => whnf))))
      refine sp_less (a := T1 b a) (b := some (-lo)) ?_
      (conv => whnf)
      refine w_ix ep (atI_nth (by rw [List.getElem?_map, erb]; rfl)) ?_
      (conv => whnf)
      refine w_setL (rows b _ erb) (set_nat (by rw [L]; exact han)) ?_
      have G1 := grid_put (v := lessO (T1 b a) (some (-lo))) x3 hp0 hl ep nd np nr rows erb han
      rw [relax_less, show -lo = 0 - lo from (Int.zero_sub lo).symm] at G1
      rw [show -lo = 0 - lo from (Int.zero_sub lo).symm]
      subst eT1
      exact hnx _ _ ⟨G1, _, _, _, _, rfl⟩
    · rintro τ h2 ⟨Gr, a3, a4, a5, a6, rfl⟩
      rw [List.length_map, List.take_length] at Gr
      (conv => whnf)
      exact k p h2 Gr

theorem sp_gaps {h : DH} {n : Nat} {N : Int} {t : D} {ts : List Tie} {Q : DK} (hN : N = n) (hn2 : n ≤ 100) (S : SeqIs h t (ts.map fun t => tupI t.l)) (ok : ∀ t ∈ ts, TieIn N t) (k : ∀ q h', GridAt n q (gapsF n ts) h h' → Q (.loc q) h') : m_gaps [.int N, t] h Q := by
  have en : N.toNat = n := by omega
  apply m_gaps_ap
  (conv => whnf); (repeat (first | (refine w_need rfl ?_; (conv => whnf)) | (refine w_ix (by assumption) rfl ?_; (conv => whnf)) | (refine w_ix hupd_same rfl ?_; (conv => whnf)) | (refine w_setL (by assumption) rfl ?_; (conv => whnf)) | (refine w_setL hupd_same rfl ?_; (conv => whnf)) | (refine w_eqi ?_; (conv => whnf)) | (refine w_eqs ?_; (conv => whnf)) | (refine w_t (by first | rfl | decide | assumption) ?_; (conv => whnf)) | (refine w_f (by first | rfl | decide | assumption) ?_; (conv => whnf)) | (refine And.intro (by first | omega | rfl | decide | assumption | exact Nat.le_of_ble_eq_true rfl | exact mulR (by omega) (by omega) | exact mulL (by omega) (by omega) | exact mulM (by omega) (by omega) | exact divOk (by omega) (by omega) | exact Exists.intro _ (by assumption)) ?_; (conv => whnf))))
  refine sp_own_gaps hN hn2 S ok fun p h1 G => ?_
  (conv => whnf)
  refine w_for ?_
  (conv => whnf); (repeat (first | (refine w_need rfl ?_; (conv => whnf)) | (refine w_ix (by assumption) rfl ?_; (conv => whnf)) | (refine w_ix hupd_same rfl ?_; (conv => whnf)) | (refine w_setL (by assumption) rfl ?_; (conv => whnf)) | (refine w_setL hupd_same rfl ?_; (conv => whnf)) | (refine w_eqi ?_; (conv => whnf)) | (refine w_eqs ?_; (conv => whnf)) | (refine w_t (by first | rfl | decide | assumption) ?_; (conv => whnf)) | (refine w_f (by first | rfl | decide | assumption) ?_; (conv => whnf)) | (refine And.intro (by first | omega | rfl | decide | assumption | exact Nat.le_of_ble_eq_true rfl | exact mulR (by omega) (by omega) | exact mulL (by omega) (by omega) | exact mulM (by omega) (by omega) | exact divOk (by omega) (by omega) | exact Exists.intro _ (by assumption)) ?_; (conv => whnf))))
  rw [en]
  refine w_range0 (I := fun m τ h' => GridAt n p (roundS n (ties0 ts) m) h h' ∧ ∃ a3 a4 a5 a6, τ = [some (.int N), some t, some (.loc p), a3, a4, a5, a6]) ⟨G, _, _, _, _, rfl⟩ ?_ ?_
  · rintro m τ h2 nx hm ⟨G, a3, a4, a5, a6, rfl⟩ hnx
    have er : roundS n (ties0 ts) (m + 1) = midS n m (roundS n (ties0 ts) m) n := rfl
    rw [er] at hnx
    generalize roundS n (ties0 ts) m = T1 at G hnx
    (conv => whnf)
    refine w_for ?_
    (conv => whnf); (repeat (first | (refine w_need rfl ?_; (conv => whnf)) | (refine w_ix (by assumption) rfl ?_; (conv => whnf)) | (refine w_ix hupd_same rfl ?_; (conv => whnf)) | (refine w_setL (by assumption) rfl ?_; (conv => whnf)) | (refine w_setL hupd_same rfl ?_; (conv => whnf)) | (refine w_eqi ?_; (conv => whnf)) | (refine w_eqs ?_; (conv => whnf)) | (refine w_t (by first | rfl | decide | assumption) ?_; (conv => whnf)) | (refine w_f (by first | rfl | decide | assumption) ?_; (conv => whnf)) | (refine And.intro (by first | omega | rfl | decide | assumption | exact Nat.le_of_ble_eq_true rfl | exact mulR (by omega) (by omega) | exact mulL (by omega) (by omega) | exact mulM (by omega) (by omega) | exact divOk (by omega) (by omega) | exact Exists.intro _ (by assumption)) ?_; (conv => whnf))))
    rw [en]
    refine w_range0 (I := fun i τ h' => GridAt n p (midS n m T1 i) h h' ∧ ∃ a4 a5 a6, τ = [some (.int N), some t, some (.loc p), some (.int (m : Nat)), a4, a5, a6]) ⟨G, _, _, _, rfl⟩ ?_ ?_
    · rintro i τ h3 nx hi ⟨G, a4, a5, a6, rfl⟩ hnx
      have er : midS n m T1 (i + 1) = rowS n m i (midS n m T1 i) n := rfl
      rw [er] at hnx
      generalize midS n m T1 i = T2 at G hnx
      (conv => whnf)
      refine w_for ?_
      (conv => whnf); (repeat (first | (refine w_need rfl ?_; (conv => whnf)) | (refine w_ix (by assumption) rfl ?_; (conv => whnf)) | (refine w_ix hupd_same rfl ?_; (conv => whnf)) | (refine w_setL (by assumption) rfl ?_; (conv => whnf)) | (refine w_setL hupd_same rfl ?_; (conv => whnf)) | (refine w_eqi ?_; (conv => whnf)) | (refine w_eqs ?_; (conv => whnf)) | (refine w_t (by first | rfl | decide | assumption) ?_; (conv => whnf)) | (refine w_f (by first | rfl | decide | assumption) ?_; (conv => whnf)) | (refine And.intro (by first | omega | rfl | decide | assumption | exact Nat.le_of_ble_eq_true rfl | exact mulR (by omega) (by omega) | exact mulL (by omega) (by omega) | exact mulM (by omega) (by omega) | exact divOk (by omega) (by omega) | exact Exists.intro _ (by assumption)) ?_; (conv => whnf))))
      rw [en]
      refine w_range0 (I := fun j τ h' => GridAt n p (rowS n m i T2 j) h h' ∧ ∃ a5 a6, τ = [some (.int N), some t, some (.loc p), some (.int (m : Nat)), some (.int (i : Nat)), a5, a6]) ⟨G, _, _, rfl⟩ ?_ ?_
      · rintro j τ h4 nx hj ⟨⟨x2, hp0, rs, hl, ep, nd, np, nr, rows⟩, a5, a6, rfl⟩ hnx
        have er : rowS n m i T2 (j + 1) = mid (rowS n m i T2 j) m i j := rfl
        rw [er] at hnx
        generalize rowS n m i T2 j = T3 at rows hnx
        have eri : rs[i]? = some rs[i] := List.getElem?_eq_getElem (by omega)
        have erm : rs[m]? = some rs[m] := List.getElem?_eq_getElem (by omega)
        have L : ∀ T : Tb, ∀ i : Nat, ((List.range n).map fun j : Nat => optD (T (i : Nat) (j : Nat))).length = n := fun T i => by simp
        (conv => whnf)
        refine w_grid ep eri (w_ix (rows i _ eri) (atI_nth (grid_row hm)) ?_)
        (conv => whnf)
        refine w_grid ep erm (w_ix (rows m _ erm) (atI_nth (grid_row hj)) ?_)
        (conv => whnf); (repeat (first | (refine w_need rfl ?_; (conv => whnf)) | (refine w_ix (by assumption) rfl ?_; (conv => whnf)) | (refine w_ix hupd_same rfl ?_; (conv => whnf)) | (refine w_setL (by assumption) rfl ?_; (conv => whnf)) | (refine w_setL hupd_same rfl ?_; (conv => whnf)) | (refine w_eqi ?_; (conv => whnf)) | (refine w_eqs ?_; (conv => whnf)) | (refine w_t (by first | rfl | decide | assumption) ?_; (conv => whnf)) | (refine w_f (by first | rfl | decide | assumption) ?_; (conv => whnf)) | (refine And.intro (by first | omega | rfl | decide | assumption | exact Nat.le_of_ble_eq_true rfl | exact mulR (by omega) (by omega) | exact mulL (by omega) (by omega) | exact mulM (by omega) (by omega) | exact divOk (by omega) (by omega) | exact Exists.intro _ (by assumption)) ?_; (conv => whnf))))
        refine sp_plus (a := T3 i m) (b := T3 m j) ?_
        (conv => whnf)
        refine w_grid ep eri (w_ix (rows i _ eri) (atI_nth (grid_row hj)) ?_)
        (conv => whnf); (repeat (first | (refine w_need rfl ?_; (conv => whnf)) | (refine w_ix (by assumption) rfl ?_; (conv => whnf)) | (refine w_ix hupd_same rfl ?_; (conv => whnf)) | (refine w_setL (by assumption) rfl ?_; (conv => whnf)) | (refine w_setL hupd_same rfl ?_; (conv => whnf)) | (refine w_eqi ?_; (conv => whnf)) | (refine w_eqs ?_; (conv => whnf)) | (refine w_t (by first | rfl | decide | assumption) ?_; (conv => whnf)) | (refine w_f (by first | rfl | decide | assumption) ?_; (conv => whnf)) | (refine And.intro (by first | omega | rfl | decide | assumption | exact Nat.le_of_ble_eq_true rfl | exact mulR (by omega) (by omega) | exact mulL (by omega) (by omega) | exact mulM (by omega) (by omega) | exact divOk (by omega) (by omega) | exact Exists.intro _ (by assumption)) ?_; (conv => whnf))))
        refine sp_less (a := T3 i j) (b := plusO (T3 i m) (T3 m j)) ?_
        (conv => whnf)
        refine w_ix ep (atI_nth (by rw [List.getElem?_map, eri]; rfl)) ?_
        (conv => whnf)
        refine w_setL (rows i _ eri) (set_nat (by rw [L]; exact hj)) ?_
        have G1 := grid_put (v := lessO (T3 i j) (plusO (T3 i m) (T3 m j))) x2 hp0 hl ep nd np nr rows eri hj
        rw [mid_less] at G1
        exact hnx _ _ ⟨G1, _, _, rfl⟩
      · rintro τ h4 ⟨G, a5, a6, rfl⟩
        exact hnx _ _ ⟨G, _, _, _, rfl⟩
    · rintro τ h3 ⟨G, a4, a5, a6, rfl⟩
      exact hnx _ _ ⟨G, _, _, _, _, rfl⟩
  · rintro τ h2 ⟨G, a3, a4, a5, a6, rfl⟩
    (conv => whnf)
    exact k p h2 G
/-- an entry of the grid -/
theorem GridAt.get {n : Nat} {q : Addr} {T : Tb} {h h' h'' : DH} (G : GridAt n q T h h') (x : Ext h' h'') {i j : Nat} (hi : i < n) (hj : j < n) {Q : DK} (k : Q (optD (T i j)) h'') : need (ixD h'' (.loc q) (.int (i : Nat))) h'' fun y h1 => need (ixD h1 y (.int (j : Nat))) h1 Q := by
  obtain ⟨_, _, rs, hl, ep, _, _, _, rows⟩ := G
  have eri : rs[i]? = some rs[i] := List.getElem?_eq_getElem (by omega)
  exact w_grid (x _ _ ep) eri (w_ix (x _ _ (rows i _ eri)) (atI_nth (grid_row hj)) k)
theorem sp_is_torn {h : DH} {n : Nat} {N : Int} {t : D} {ts : List Tie} {Q : DK} (hN : N = n) (hn2 : n ≤ 100) (S : SeqIs h t (ts.map fun t => tupI t.l)) (ok : ∀ t ∈ ts, TieIn N t) (k : ∀ h', Ext h h' → Q (.bl (tornB n (gapsF n ts))) h') : m_is_torn [.int N, t] h Q := by
  have en : N.toNat = n := by omega
  apply m_is_torn_ap
  (conv => whnf); (repeat (first | (refine w_need rfl ?_; (conv => whnf)) | (refine w_ix (by assumption) rfl ?_; (conv => whnf)) | (refine w_ix hupd_same rfl ?_; (conv => whnf)) | (refine w_setL (by assumption) rfl ?_; (conv => whnf)) | (refine w_setL hupd_same rfl ?_; (conv => whnf)) | (refine w_eqi ?_; (conv => whnf)) | (refine w_eqs ?_; (conv => whnf)) | (refine w_t (by first | rfl | decide | assumption) ?_; (conv => whnf)) | (refine w_f (by first | rfl | decide | assumption) ?_; (conv => whnf)) | (refine And.intro (by first | omega | rfl | decide | assumption | exact Nat.le_of_ble_eq_true rfl | exact mulR (by omega) (by omega) | exact mulL (by omega) (by omega) | exact mulM (by omega) (by omega) | exact divOk (by omega) (by omega) | exact Exists.intro _ (by assumption)) ?_; (conv => whnf))))
  refine sp_gaps hN hn2 S ok fun q h1 G => ?_
  (conv => whnf)
  refine w_lc ?_
  (conv => whnf); (repeat (first | (refine w_need rfl ?_; (conv => whnf)) | (refine w_ix (by assumption) rfl ?_; (conv => whnf)) | (refine w_ix hupd_same rfl ?_; (conv => whnf)) | (refine w_setL (by assumption) rfl ?_; (conv => whnf)) | (refine w_setL hupd_same rfl ?_; (conv => whnf)) | (refine w_eqi ?_; (conv => whnf)) | (refine w_eqs ?_; (conv => whnf)) | (refine w_t (by first | rfl | decide | assumption) ?_; (conv => whnf)) | (refine w_f (by first | rfl | decide | assumption) ?_; (conv => whnf)) | (refine And.intro (by first | omega | rfl | decide | assumption | exact Nat.le_of_ble_eq_true rfl | exact mulR (by omega) (by omega) | exact mulL (by omega) (by omega) | exact mulM (by omega) (by omega) | exact divOk (by omega) (by omega) | exact Exists.intro _ (by assumption)) ?_; (conv => whnf))))
  intro p hp
  rw [en]
  refine w_map (fun i => .bl (match gapsF n ts (i : Nat) (i : Nat) with | some v => decide (v < 0) | none => false)) hp (by rw [rangeD_length]; exact small_size (by omega)) (fun _ _ => trivial) (fun i d h' C ed x2 hC => ?_) (fun h2 x2 e2 => ?_)
  · obtain ⟨hi, rfl⟩ := rangeD_get0 ed
    obtain ⟨z, ez, _⟩ := gapsF_dg n ts (i : Nat)
    (conv => whnf)
    refine G.get x2 hi hi ?_
    (conv => whnf)
    rw [ez] at hC ⊢
    exact hC _ (.refl _)
  · rw [rangeD_length] at e2
    have em : (List.range n).map (fun i : Nat => D.bl (match gapsF n ts (i : Nat) (i : Nat) with | some v => decide (v < 0) | none => false)) = ((List.range n).map fun i : Nat => match gapsF n ts (i : Nat) (i : Nat) with | some v => decide (v < 0) | none => false).map D.bl := by rw [List.map_map]; rfl
    rw [em] at e2
    refine w_any e2 ?_
    (conv => whnf)
    have ea : ((List.range n).map fun i : Nat => match gapsF n ts (i : Nat) (i : Nat) with | some v => decide (v < 0) | none => false).any id = tornB n (gapsF n ts) := by
      rw [List.any_map]; rfl
    rw [ea]
    exact k h2 (G.x.trans x2)
end DL

set_option linter.all false
set_option maxRecDepth 100000
set_option maxHeartbeats 2000000
namespace DL
open PySem PySem.Spec PyProof.Rows L2
/-- the first that is so of the numbers below n, and what is told of it -/
def firstF (f : Nat → Option D) (n : Nat) : D := ((List.range n).findSome? f).getD .non
theorem firstF_hit {f : Nat → Option D} {n i : Nat} {v : D} (hi : i < n) (h0 : ∀ j, j < i → f j = none) (h1 : f i = some v) : firstF f n = v := by
  unfold firstF
  have key : ∀ m, (∀ j, j < m → f j = none) → (List.range m).findSome? f = none := fun m h => by
    rw [List.findSome?_eq_none_iff]
    intro j hj
    exact h j (List.mem_range.mp hj)
  have e : List.range n = List.range i ++ (i :: (List.range (n - (i + 1))).map (· + (i + 1))) := by
    have : n = i + ((n - (i + 1)) + 1) := by omega
    rw [this, List.range_add, List.range_succ_eq_map, List.map_cons, List.map_map]
    have e2 : i + (n - (i + 1) + 1) - (i + 1) = n - (i + 1) := by omega
    rw [e2]
    congr 2
    refine List.map_congr_left fun x _ => ?_
    show i + (x + 1) = x + (i + 1)
    omega
  rw [e, List.findSome?_append, key i h0, Option.none_or, List.findSome?_cons, h1]
  rfl
theorem firstF_none {f : Nat → Option D} {n : Nat} (h0 : ∀ j, j < n → f j = none) : firstF f n = .non := by
  unfold firstF
  have : (List.range n).findSome? f = none := by
    rw [List.findSome?_eq_none_iff]
    intro j hj
    exact h0 j (List.mem_range.mp hj)
  rw [this]; rfl
theorem firstF_of {f : Nat → Option D} {n : Nat} {v : D} (h : firstF f n = v) (hv : v ≠ .non) : ∃ i, i < n ∧ f i = some v := by
  unfold firstF at h
  cases e : (List.range n).findSome? f with
  | none => rw [e] at h; exact absurd h.symm hv
  | some w =>
    rw [e] at h
    obtain ⟨i, hi, ei⟩ := List.exists_of_findSome?_eq_some e
    exact ⟨i, List.mem_range.mp hi, by rw [ei]; exact congrArg some h⟩
end DL

set_option linter.all false
set_option maxRecDepth 100000
set_option maxHeartbeats 2000000
namespace DL
open PySem PySem.Spec PyProof.Rows L2
/-! kitchen_error, for any value -/
abbrev mHeat : Int := 10 ^ 12
abbrev mSlope : Int := 10 ^ 9
abbrev mWarm : Int := 10 ^ 24
theorem notT {b : Bool} (h : (!b) = true) : b = false := by cases b <;> first | rfl | cases h
theorem notF {b : Bool} (h : (!b) = false) : b = true := by cases b <;> first | rfl | cases h
def isRoomB (d : D) : Bool := match d with
  | .tup [x, y] => isIntB x 0 1000000000000 && isIntB y 1 1000000000
  | _ => false
def neB : D → D → Bool
  | .int i, .int j => !decide (i = j)
  | _, _ => false
def isTieB (d : D) (ov : Int) : Bool := match d with
  | .tup [a, b, x, y] => (isIntB a 0 (ov - 1) && isIntB b 0 (ov - 1)) && (neB a b && isPairB (.tup [x, y]) (-1000000000000) 1000000000000)
  | _ => false
theorem sp_is_room {h : DH} {d : D} {Q : DK} (v : Vl h d) (k : Q (.bl (isRoomB d)) h) : m_is_room [d] h Q := by
  apply m_is_room_ap
  (conv => whnf); (repeat (first | (refine w_need rfl ?_; (conv => whnf)) | (refine w_ix (by assumption) rfl ?_; (conv => whnf)) | (refine w_ix hupd_same rfl ?_; (conv => whnf)) | (refine w_setL (by assumption) rfl ?_; (conv => whnf)) | (refine w_setL hupd_same rfl ?_; (conv => whnf)) | (refine w_eqi ?_; (conv => whnf)) | (refine w_eqs ?_; (conv => whnf)) | (refine w_t (by first | rfl | decide | assumption) ?_; (conv => whnf)) | (refine w_f (by first | rfl | decide | assumption) ?_; (conv => whnf)) | (refine And.intro (by first | omega | rfl | decide | assumption | exact Nat.le_of_ble_eq_true rfl | exact mulR (by omega) (by omega) | exact mulL (by omega) (by omega) | exact mulM (by omega) (by omega) | exact divOk (by omega) (by omega) | exact Exists.intro _ (by assumption)) ?_; (conv => whnf))))
  refine sp_is_tuple (n := 2) rfl v ?_
  (conv => whnf)
  refine w_iteb (fun c => ?_) (fun c => ?_)
  · obtain ⟨ds, rfl, hl⟩ := isTupB_eq c
    obtain ⟨x, y, rfl⟩ : ∃ x y, ds = [x, y] := by
      match ds, hl with
      | [x, y], _ => exact ⟨x, y, rfl⟩
    have vi := v.items
    have e : isRoomB (.tup [x, y]) = (isIntB x 0 1000000000000 && isIntB y 1 1000000000) := rfl
    rw [e] at k
    (conv => whnf)
    refine w_need (v := x) rfl ?_
    (conv => whnf); (repeat (first | (refine w_need rfl ?_; (conv => whnf)) | (refine w_ix (by assumption) rfl ?_; (conv => whnf)) | (refine w_ix hupd_same rfl ?_; (conv => whnf)) | (refine w_setL (by assumption) rfl ?_; (conv => whnf)) | (refine w_setL hupd_same rfl ?_; (conv => whnf)) | (refine w_eqi ?_; (conv => whnf)) | (refine w_eqs ?_; (conv => whnf)) | (refine w_t (by first | rfl | decide | assumption) ?_; (conv => whnf)) | (refine w_f (by first | rfl | decide | assumption) ?_; (conv => whnf)) | (refine And.intro (by first | omega | rfl | decide | assumption | exact Nat.le_of_ble_eq_true rfl | exact mulR (by omega) (by omega) | exact mulL (by omega) (by omega) | exact mulM (by omega) (by omega) | exact divOk (by omega) (by omega) | exact Exists.intro _ (by assumption)) ?_; (conv => whnf))))
    refine sp_is_integer (vi x (by simp)) ?_
    (conv => whnf)
    refine w_iteb (fun c2 => ?_) (fun c2 => ?_)
    · (conv => whnf)
      refine w_need (v := y) rfl ?_
      (conv => whnf); (repeat (first | (refine w_need rfl ?_; (conv => whnf)) | (refine w_ix (by assumption) rfl ?_; (conv => whnf)) | (refine w_ix hupd_same rfl ?_; (conv => whnf)) | (refine w_setL (by assumption) rfl ?_; (conv => whnf)) | (refine w_setL hupd_same rfl ?_; (conv => whnf)) | (refine w_eqi ?_; (conv => whnf)) | (refine w_eqs ?_; (conv => whnf)) | (refine w_t (by first | rfl | decide | assumption) ?_; (conv => whnf)) | (refine w_f (by first | rfl | decide | assumption) ?_; (conv => whnf)) | (refine And.intro (by first | omega | rfl | decide | assumption | exact Nat.le_of_ble_eq_true rfl | exact mulR (by omega) (by omega) | exact mulL (by omega) (by omega) | exact mulM (by omega) (by omega) | exact divOk (by omega) (by omega) | exact Exists.intro _ (by assumption)) ?_; (conv => whnf))))
      refine sp_is_integer (vi y (by simp)) ?_
      rw [c2, Bool.true_and] at k
      exact k
    · rw [c2, Bool.false_and] at k
      exact k
  · have e4 : isRoomB d = false := by
      cases d with
      | tup ds =>
        match ds, c with
        | [x, y], c => cases c
        | [], _ => rfl
        | [x], _ => rfl
        | x :: y :: z :: r, _ => rfl
      | _ => rfl
    rw [e4] at k
    exact k
theorem sp_is_tie {h : DH} {d : D} {ov : Int} {Q : DK} (v : Vl h d) (k : ∀ h', Ext h h' → Q (.bl (isTieB d ov)) h') : m_is_tie [d, .int ov] h Q := by
  apply m_is_tie_ap
  (conv => whnf); (repeat (first | (refine w_need rfl ?_; (conv => whnf)) | (refine w_ix (by assumption) rfl ?_; (conv => whnf)) | (refine w_ix hupd_same rfl ?_; (conv => whnf)) | (refine w_setL (by assumption) rfl ?_; (conv => whnf)) | (refine w_setL hupd_same rfl ?_; (conv => whnf)) | (refine w_eqi ?_; (conv => whnf)) | (refine w_eqs ?_; (conv => whnf)) | (refine w_t (by first | rfl | decide | assumption) ?_; (conv => whnf)) | (refine w_f (by first | rfl | decide | assumption) ?_; (conv => whnf)) | (refine And.intro (by first | omega | rfl | decide | assumption | exact Nat.le_of_ble_eq_true rfl | exact mulR (by omega) (by omega) | exact mulL (by omega) (by omega) | exact mulM (by omega) (by omega) | exact divOk (by omega) (by omega) | exact Exists.intro _ (by assumption)) ?_; (conv => whnf))))
  refine sp_is_tuple (n := 4) rfl v ?_
  (conv => whnf)
  refine w_iteb (fun c => ?_) (fun c => ?_)
  · have c : isTupB d 4 = false := by simpa using c
    have e4 : isTieB d ov = false := by
      cases d with
      | tup ds =>
        match ds, c with
        | [a, b, x, y], c => cases c
        | [], _ => rfl
        | [_], _ => rfl
        | [_, _], _ => rfl
        | [_, _, _], _ => rfl
        | _ :: _ :: _ :: _ :: _ :: _, _ => rfl
      | _ => rfl
    have k := k h (.refl _)
    rw [e4] at k
    (conv => whnf); (repeat (first | (refine w_need rfl ?_; (conv => whnf)) | (refine w_ix (by assumption) rfl ?_; (conv => whnf)) | (refine w_ix hupd_same rfl ?_; (conv => whnf)) | (refine w_setL (by assumption) rfl ?_; (conv => whnf)) | (refine w_setL hupd_same rfl ?_; (conv => whnf)) | (refine w_eqi ?_; (conv => whnf)) | (refine w_eqs ?_; (conv => whnf)) | (refine w_t (by first | rfl | decide | assumption) ?_; (conv => whnf)) | (refine w_f (by first | rfl | decide | assumption) ?_; (conv => whnf)) | (refine And.intro (by first | omega | rfl | decide | assumption | exact Nat.le_of_ble_eq_true rfl | exact mulR (by omega) (by omega) | exact mulL (by omega) (by omega) | exact mulM (by omega) (by omega) | exact divOk (by omega) (by omega) | exact Exists.intro _ (by assumption)) ?_; (conv => whnf))))
    exact k
  · have c : isTupB d 4 = true := by simpa using c
    obtain ⟨ds, rfl, hl⟩ := isTupB_eq c
    obtain ⟨a, b, x, y, rfl⟩ : ∃ a b x y, ds = [a, b, x, y] := by
      match ds, hl with
      | [a, b, x, y], _ => exact ⟨a, b, x, y, rfl⟩
    have vi := v.items
    have e4 : isTieB (.tup [a, b, x, y]) ov = ((isIntB a 0 (ov - 1) && isIntB b 0 (ov - 1)) && (neB a b && isPairB (.tup [x, y]) (-1000000000000) 1000000000000)) := rfl
    rw [e4] at k
    (conv => whnf)
    refine w_lc ?_
    (conv => whnf)
    intro p hp
    have e2 : cutD [a, b, x, y] none (some 2) = [a, b] := rfl
    rw [e2]
    refine w_map (fun i => .bl (isIntB ([a, b].getD i .non) 0 (ov - 1))) hp (small2 (show 2 ≤ 1000000 by decide)) (fun _ _ => trivial) (fun i d h' C ed x1 hC => ?_) (fun h1 x1 e1 => ?_)
    · have hd : [a, b].getD i .non = d := by rw [List.getD_eq_getElem?_getD, ed]; rfl
      rw [hd] at hC
      have md := List.mem_of_getElem? ed
      (conv => whnf); (repeat (first | (refine w_need rfl ?_; (conv => whnf)) | (refine w_ix (by assumption) rfl ?_; (conv => whnf)) | (refine w_ix hupd_same rfl ?_; (conv => whnf)) | (refine w_setL (by assumption) rfl ?_; (conv => whnf)) | (refine w_setL hupd_same rfl ?_; (conv => whnf)) | (refine w_eqi ?_; (conv => whnf)) | (refine w_eqs ?_; (conv => whnf)) | (refine w_t (by first | rfl | decide | assumption) ?_; (conv => whnf)) | (refine w_f (by first | rfl | decide | assumption) ?_; (conv => whnf)) | (refine And.intro (by first | omega | rfl | decide | assumption | exact Nat.le_of_ble_eq_true rfl | exact mulR (by omega) (by omega) | exact mulL (by omega) (by omega) | exact mulM (by omega) (by omega) | exact divOk (by omega) (by omega) | exact Exists.intro _ (by assumption)) ?_; (conv => whnf))))
      refine sp_is_integer ((vi d ?_).ext x1) (hC _ (.refl _))
      simp only [List.mem_cons, List.not_mem_nil, or_false] at md ⊢
      rcases md with z | z
      · exact .inl z
      · exact .inr (.inl z)
    · have e3 : h1 p = some (.lst (([isIntB a 0 (ov - 1), isIntB b 0 (ov - 1)] : List Bool).map D.bl)) := e1
      (conv => whnf)
      refine w_all e3 ?_
      have ea : ([isIntB a 0 (ov - 1), isIntB b 0 (ov - 1)] : List Bool).all id = (isIntB a 0 (ov - 1) && isIntB b 0 (ov - 1)) := by
        show (isIntB a 0 (ov - 1) && (isIntB b 0 (ov - 1) && true)) = _
        rw [Bool.and_true]
      rw [ea]
      (conv => whnf)
      refine w_iteb (fun c => ?_) (fun c => ?_)
      · have c : (isIntB a 0 (ov - 1) && isIntB b 0 (ov - 1)) = false := notT c
        have k := k h1 x1
        rw [c, Bool.false_and] at k
        (conv => whnf); (repeat (first | (refine w_need rfl ?_; (conv => whnf)) | (refine w_ix (by assumption) rfl ?_; (conv => whnf)) | (refine w_ix hupd_same rfl ?_; (conv => whnf)) | (refine w_setL (by assumption) rfl ?_; (conv => whnf)) | (refine w_setL hupd_same rfl ?_; (conv => whnf)) | (refine w_eqi ?_; (conv => whnf)) | (refine w_eqs ?_; (conv => whnf)) | (refine w_t (by first | rfl | decide | assumption) ?_; (conv => whnf)) | (refine w_f (by first | rfl | decide | assumption) ?_; (conv => whnf)) | (refine And.intro (by first | omega | rfl | decide | assumption | exact Nat.le_of_ble_eq_true rfl | exact mulR (by omega) (by omega) | exact mulL (by omega) (by omega) | exact mulM (by omega) (by omega) | exact divOk (by omega) (by omega) | exact Exists.intro _ (by assumption)) ?_; (conv => whnf))))
        exact k
      · have c : (isIntB a 0 (ov - 1) && isIntB b 0 (ov - 1)) = true := notF c
        have c' := c
        rw [Bool.and_eq_true] at c'
        obtain ⟨i, rfl, _⟩ := isIntB_eq c'.1
        obtain ⟨j, rfl, _⟩ := isIntB_eq c'.2
        rw [c] at k
        have en : neB (.int i) (.int j) = !decide (i = j) := rfl
        rw [en, Bool.true_and] at k
        (conv => whnf)
        refine w_need (v := .int i) rfl ?_
        (conv => whnf)
        refine w_need (v := .int j) rfl ?_
        (conv => whnf)
        refine w_eqi ?_
        rw [if_pos rfl]
        (conv => whnf)
        refine w_iteb (fun c2 => ?_) (fun c2 => ?_)
        · rw [c2] at k
          (conv => whnf)
          refine ⟨rfl, ?_⟩
          have e5 : cutD [.int i, .int j, x, y] (some 2) none = [x, y] := rfl
          rw [e5]
          refine sp_is_pair_of ((Vl.tup (ds := [x, y]) (fun d hd => vi d ?_)).ext x1) fun h2 x2 => ?_
          · simp only [List.mem_cons, List.not_mem_nil, or_false] at hd ⊢
            rcases hd with z | z
            · exact .inr (.inr (.inl z))
            · exact .inr (.inr (.inr z))
          · exact k h2 (x1.trans x2)
        · rw [c2] at k
          exact k h1 x1
def intsOf (d : D) : List Int := (tupD d).getD []
def ordBad (a b : D) : Bool := leT (intsOf a) (intsOf b)
def tieBad (ov : Int) (ds : List D) (i : Nat) : Option D :=
  if isTieB (ds.getD i .non) ov = false then some (.tup [.int (i : Nat), .str "tie"])
  else if 0 < i ∧ ordBad (ds.getD i .non) (ds.getD (i - 1) .non) = true then some (.tup [.int (i : Nat), .str "order"]) else none
def tiesErrF (ov : Int) (d : D) : D := match d with
  | .tup ds => if 6 < ds.length then .tup [.non, .str "ties"] else firstF (tieBad ov ds) ds.length
  | _ => .tup [.non, .str "ties"]
theorem isTieB_ints {d : D} {ov : Int} (h : isTieB d ov = true) : ∃ a b x y : Int, d = .tup [.int a, .int b, .int x, .int y] ∧ (0 ≤ a ∧ a < ov) ∧ (0 ≤ b ∧ b < ov) ∧ a ≠ b ∧ x ≤ y ∧ -1000000000000 ≤ x ∧ y ≤ 1000000000000 := by
  cases d with
  | tup ds =>
    match ds, h with
    | [a, b, x, y], h =>
      have h : ((isIntB a 0 (ov - 1) && isIntB b 0 (ov - 1)) && (neB a b && (isIntB x (-1000000000000) 1000000000000 && isIntB y (-1000000000000) 1000000000000 && leB x y))) = true := h
      simp only [Bool.and_eq_true] at h
      obtain ⟨⟨h1, h2⟩, h3, ⟨h4, h5⟩, h6⟩ := h
      obtain ⟨a, rfl, a1, a2⟩ := isIntB_eq h1
      obtain ⟨b, rfl, b1, b2⟩ := isIntB_eq h2
      obtain ⟨x, rfl, x1, x2⟩ := isIntB_eq h4
      obtain ⟨y, rfl, y1, y2⟩ := isIntB_eq h5
      have h3 : (!decide (a = b)) = true := h3
      have h6 : decide (x ≤ y) = true := h6
      exact ⟨a, b, x, y, rfl, ⟨a1, by omega⟩, ⟨b1, by omega⟩, by simpa using h3, of_decide_eq_true h6, x1, y2⟩
  | _ => cases h
theorem sp_ties_error {h : DH} {d : D} {ov : Int} {Q : DK} (v : Vl h d) (k : ∀ h', Ext h h' → Q (tiesErrF ov d) h') : m_ties_error [.int ov, d] h Q := by
  have no : ∀ h', Ext h h' → tiesErrF ov d = .tup [.non, .str "ties"] → Q (.tup [.non, .str "ties"]) h' := fun h' x e => by rw [← e]; exact k h' x
  apply m_ties_error_ap
  have notTup : ∀ a, tyD h d = some a → isTy a "tuple" = false → tiesErrF ov d = .tup [.non, .str "ties"] → b_ties_error { nx := fun _ h => Q .non h, rt := Q } [some (.int ov), some d, none, none] h := fun a ea ht e => by
    (conv => whnf)
    refine w_isi ea (by decide) ?_
    rw [ht]
    (conv => whnf)
    refine w_t rfl ?_
    (conv => whnf); (repeat (first | (refine w_need rfl ?_; (conv => whnf)) | (refine w_ix (by assumption) rfl ?_; (conv => whnf)) | (refine w_ix hupd_same rfl ?_; (conv => whnf)) | (refine w_setL (by assumption) rfl ?_; (conv => whnf)) | (refine w_setL hupd_same rfl ?_; (conv => whnf)) | (refine w_eqi ?_; (conv => whnf)) | (refine w_eqs ?_; (conv => whnf)) | (refine w_t (by first | rfl | decide | assumption) ?_; (conv => whnf)) | (refine w_f (by first | rfl | decide | assumption) ?_; (conv => whnf)) | (refine And.intro (by first | omega | rfl | decide | assumption | exact Nat.le_of_ble_eq_true rfl | exact mulR (by omega) (by omega) | exact mulL (by omega) (by omega) | exact mulM (by omega) (by omega) | exact divOk (by omega) (by omega) | exact Exists.intro _ (by assumption)) ?_; (conv => whnf))))
    exact no h (.refl _) e
  cases v with
  | tup q =>
    rename_i ds
    (conv => whnf)
    refine w_isi rfl (by decide) ?_
    (conv => whnf)
    refine w_f rfl ?_
    (conv => whnf)
    refine w_need (v := .int ds.length) rfl ?_
    (conv => whnf)
    have e6 : tiesErrF ov (.tup ds) = if 6 < ds.length then .tup [.non, .str "ties"] else firstF (tieBad ov ds) ds.length := rfl
    refine w_ite (fun c => ?_) (fun c => ?_)
    · (conv => whnf); (repeat (first | (refine w_need rfl ?_; (conv => whnf)) | (refine w_ix (by assumption) rfl ?_; (conv => whnf)) | (refine w_ix hupd_same rfl ?_; (conv => whnf)) | (refine w_setL (by assumption) rfl ?_; (conv => whnf)) | (refine w_setL hupd_same rfl ?_; (conv => whnf)) | (refine w_eqi ?_; (conv => whnf)) | (refine w_eqs ?_; (conv => whnf)) | (refine w_t (by first | rfl | decide | assumption) ?_; (conv => whnf)) | (refine w_f (by first | rfl | decide | assumption) ?_; (conv => whnf)) | (refine And.intro (by first | omega | rfl | decide | assumption | exact Nat.le_of_ble_eq_true rfl | exact mulR (by omega) (by omega) | exact mulL (by omega) (by omega) | exact mulM (by omega) (by omega) | exact divOk (by omega) (by omega) | exact Exists.intro _ (by assumption)) ?_; (conv => whnf))))
      exact no h (.refl _) (by rw [e6, if_pos (by omega)])
    · rw [e6, if_neg (by omega)] at k
      (conv => whnf)
      refine w_for ?_
      (conv => whnf)
      refine w_loop (I := fun i τ h' => Ext h h' ∧ (∀ j, j < i → tieBad ov ds j = none) ∧ ∃ a2 a3, τ = [some (.int ov), some (.tup ds), a2, a3]) ⟨.refl _, fun j hj => absurd hj (Nat.not_lt_zero j), _, _, rfl⟩ (fun _ _ _ _ _ => trivial) ?_ ?_
      · rintro i d τ h1 nx ed ⟨x1, ok, a2, a3, rfl⟩ hnx
        obtain ⟨y, ey, rfl⟩ := enumD_get ed
        have hi : i < ds.length := (List.getElem?_eq_some_iff.mp ey).1
        have gy : ds.getD i .non = y := by rw [List.getD_eq_getElem?_getD, ey]; rfl
        have vy : Vl h1 y := (q y (List.mem_of_getElem? ey)).ext x1
        (conv => whnf); (repeat (first | (refine w_need rfl ?_; (conv => whnf)) | (refine w_ix (by assumption) rfl ?_; (conv => whnf)) | (refine w_ix hupd_same rfl ?_; (conv => whnf)) | (refine w_setL (by assumption) rfl ?_; (conv => whnf)) | (refine w_setL hupd_same rfl ?_; (conv => whnf)) | (refine w_eqi ?_; (conv => whnf)) | (refine w_eqs ?_; (conv => whnf)) | (refine w_t (by first | rfl | decide | assumption) ?_; (conv => whnf)) | (refine w_f (by first | rfl | decide | assumption) ?_; (conv => whnf)) | (refine And.intro (by first | omega | rfl | decide | assumption | exact Nat.le_of_ble_eq_true rfl | exact mulR (by omega) (by omega) | exact mulL (by omega) (by omega) | exact mulM (by omega) (by omega) | exact divOk (by omega) (by omega) | exact Exists.intro _ (by assumption)) ?_; (conv => whnf))))
        refine sp_is_tie vy fun h2 x2 => ?_
        have x12 := x1.trans x2
        (conv => whnf)
        refine w_iteb (fun c2 => ?_) (fun c2 => ?_)
        · have c2 : isTieB y ov = false := by simpa using c2
          have eb : tieBad ov ds i = some (.tup [.int (i : Nat), .str "tie"]) := by unfold tieBad; rw [gy, if_pos c2]
          (conv => whnf); (repeat (first | (refine w_need rfl ?_; (conv => whnf)) | (refine w_ix (by assumption) rfl ?_; (conv => whnf)) | (refine w_ix hupd_same rfl ?_; (conv => whnf)) | (refine w_setL (by assumption) rfl ?_; (conv => whnf)) | (refine w_setL hupd_same rfl ?_; (conv => whnf)) | (refine w_eqi ?_; (conv => whnf)) | (refine w_eqs ?_; (conv => whnf)) | (refine w_t (by first | rfl | decide | assumption) ?_; (conv => whnf)) | (refine w_f (by first | rfl | decide | assumption) ?_; (conv => whnf)) | (refine And.intro (by first | omega | rfl | decide | assumption | exact Nat.le_of_ble_eq_true rfl | exact mulR (by omega) (by omega) | exact mulL (by omega) (by omega) | exact mulM (by omega) (by omega) | exact divOk (by omega) (by omega) | exact Exists.intro _ (by assumption)) ?_; (conv => whnf))))
          have := k h2 x12
          rw [firstF_hit hi ok eb] at this
          exact this
        · have c2 : isTieB y ov = true := by simpa using c2
          (conv => whnf)
          refine w_ite (fun c3 => ?_) (fun c3 => ?_)
          · have hi0 : 0 < i := by omega
            obtain ⟨z, ez⟩ : ∃ z, ds[i - 1]? = some z := ⟨ds[i - 1], List.getElem?_eq_getElem (by omega)⟩
            have gz : ds.getD (i - 1) .non = z := by rw [List.getD_eq_getElem?_getD, ez]; rfl
            have okz : isTieB z ov = true := by
              have := ok (i - 1) (by omega)
              unfold tieBad at this
              rw [gz] at this
              cases e : isTieB z ov with
              | true => rfl
              | false => rw [if_pos e] at this; cases this
            obtain ⟨a, b, u, w, rfl, _⟩ := isTieB_ints c2
            obtain ⟨a', b', u', w', rfl, _⟩ := isTieB_ints okz
            (conv => whnf)
            have e1 : ((i : Int) - 1) = ((i - 1 : Nat) : Int) := by omega
            rw [e1]
            refine w_need (v := .tup [.int a', .int b', .int u', .int w']) (atI_nth ez) ?_
            refine w_leT (ns := [a, b, u, w]) (ms := [a', b', u', w']) ?_
            (conv => whnf)
            have eo : ordBad (.tup [.int a, .int b, .int u, .int w]) (.tup [.int a', .int b', .int u', .int w']) = leT [a, b, u, w] [a', b', u', w'] := rfl
            refine w_iteb (fun c4 => ?_) (fun c4 => ?_)
            · have eb : tieBad ov ds i = some (.tup [.int (i : Nat), .str "order"]) := by
                unfold tieBad
                rw [gy, gz, if_neg (by rw [c2]; exact Bool.noConfusion), if_pos ⟨hi0, by rw [eo]; exact c4⟩]
              (conv => whnf); (repeat (first | (refine w_need rfl ?_; (conv => whnf)) | (refine w_ix (by assumption) rfl ?_; (conv => whnf)) | (refine w_ix hupd_same rfl ?_; (conv => whnf)) | (refine w_setL (by assumption) rfl ?_; (conv => whnf)) | (refine w_setL hupd_same rfl ?_; (conv => whnf)) | (refine w_eqi ?_; (conv => whnf)) | (refine w_eqs ?_; (conv => whnf)) | (refine w_t (by first | rfl | decide | assumption) ?_; (conv => whnf)) | (refine w_f (by first | rfl | decide | assumption) ?_; (conv => whnf)) | (refine And.intro (by first | omega | rfl | decide | assumption | exact Nat.le_of_ble_eq_true rfl | exact mulR (by omega) (by omega) | exact mulL (by omega) (by omega) | exact mulM (by omega) (by omega) | exact divOk (by omega) (by omega) | exact Exists.intro _ (by assumption)) ?_; (conv => whnf))))
              have := k h2 x12
              rw [firstF_hit hi ok eb] at this
              exact this
            · have eb : tieBad ov ds i = none := by
                unfold tieBad
                rw [gy, gz, if_neg (by rw [c2]; exact Bool.noConfusion), if_neg (fun z => by rw [eo, c4] at z; exact Bool.noConfusion z.2)]
              refine hnx _ _ ⟨x12, fun j hj => ?_, _, _, rfl⟩
              by_cases z : j = i
              · subst z; exact eb
              · exact ok j (by omega)
          · have eb : tieBad ov ds i = none := by
              unfold tieBad
              rw [gy, if_neg (by rw [c2]; exact Bool.noConfusion), if_neg (fun z => by omega)]
            (conv => whnf); (repeat (first | (refine w_need rfl ?_; (conv => whnf)) | (refine w_ix (by assumption) rfl ?_; (conv => whnf)) | (refine w_ix hupd_same rfl ?_; (conv => whnf)) | (refine w_setL (by assumption) rfl ?_; (conv => whnf)) | (refine w_setL hupd_same rfl ?_; (conv => whnf)) | (refine w_eqi ?_; (conv => whnf)) | (refine w_eqs ?_; (conv => whnf)) | (refine w_t (by first | rfl | decide | assumption) ?_; (conv => whnf)) | (refine w_f (by first | rfl | decide | assumption) ?_; (conv => whnf)) | (refine And.intro (by first | omega | rfl | decide | assumption | exact Nat.le_of_ble_eq_true rfl | exact mulR (by omega) (by omega) | exact mulL (by omega) (by omega) | exact mulM (by omega) (by omega) | exact divOk (by omega) (by omega) | exact Exists.intro _ (by assumption)) ?_; (conv => whnf))))
            refine hnx _ _ ⟨x12, fun j hj => ?_, _, _, rfl⟩
            by_cases z : j = i
            · subst z; exact eb
            · exact ok j (by omega)
      · rintro τ h1 ⟨x1, ok, a2, a3, rfl⟩
        rw [enumD_length] at ok
        (conv => whnf); (repeat (first | (refine w_need rfl ?_; (conv => whnf)) | (refine w_ix (by assumption) rfl ?_; (conv => whnf)) | (refine w_ix hupd_same rfl ?_; (conv => whnf)) | (refine w_setL (by assumption) rfl ?_; (conv => whnf)) | (refine w_setL hupd_same rfl ?_; (conv => whnf)) | (refine w_eqi ?_; (conv => whnf)) | (refine w_eqs ?_; (conv => whnf)) | (refine w_t (by first | rfl | decide | assumption) ?_; (conv => whnf)) | (refine w_f (by first | rfl | decide | assumption) ?_; (conv => whnf)) | (refine And.intro (by first | omega | rfl | decide | assumption | exact Nat.le_of_ble_eq_true rfl | exact mulR (by omega) (by omega) | exact mulL (by omega) (by omega) | exact mulM (by omega) (by omega) | exact divOk (by omega) (by omega) | exact Exists.intro _ (by assumption)) ?_; (conv => whnf))))
        have := k h1 x1
        rw [firstF_none ok] at this
        exact this
  | lst e q => exact notTup "list" (by show tyO (h _) = _; rw [e]; rfl) rfl rfl
  | dct e q => exact notTup "dict" (by show tyO (h _) = _; rw [e]; rfl) rfl rfl
  | non => exact notTup _ rfl rfl rfl
  | bl b => exact notTup _ rfl rfl rfl
  | int i => exact notTup _ rfl rfl rfl
  | str s => exact notTup _ rfl rfl rfl
def dishBad (ds : List D) (i : Nat) : Option D := if isPairB (ds.getD i .non) 0 1000000000000000000000000 = false then some (.tup [.int (i : Nat), .str "dish"]) else none
def dishesErrF (d : D) : D := match d with
  | .tup ds => if 1 ≤ ds.length ∧ ds.length ≤ 6 then firstF (dishBad ds) ds.length else .tup [.non, .str "dishes"]
  | _ => .tup [.non, .str "dishes"]
theorem sp_dishes_error {h : DH} {d : D} {Q : DK} (v : Vl h d) (k : ∀ h', Ext h h' → Q (dishesErrF d) h') : m_dishes_error [d] h Q := by
  apply m_dishes_error_ap
  have notTup : ∀ a, tyD h d = some a → isTy a "tuple" = false → dishesErrF d = .tup [.non, .str "dishes"] → b_dishes_error { nx := fun _ h => Q .non h, rt := Q } [some d, none, none] h := fun a ea ht e => by
    have k := k h (.refl _)
    rw [e] at k
    (conv => whnf)
    refine w_isi ea (by decide) ?_
    rw [ht]
    (conv => whnf)
    refine w_t rfl ?_
    (conv => whnf); (repeat (first | (refine w_need rfl ?_; (conv => whnf)) | (refine w_ix (by assumption) rfl ?_; (conv => whnf)) | (refine w_ix hupd_same rfl ?_; (conv => whnf)) | (refine w_setL (by assumption) rfl ?_; (conv => whnf)) | (refine w_setL hupd_same rfl ?_; (conv => whnf)) | (refine w_eqi ?_; (conv => whnf)) | (refine w_eqs ?_; (conv => whnf)) | (refine w_t (by first | rfl | decide | assumption) ?_; (conv => whnf)) | (refine w_f (by first | rfl | decide | assumption) ?_; (conv => whnf)) | (refine And.intro (by first | omega | rfl | decide | assumption | exact Nat.le_of_ble_eq_true rfl | exact mulR (by omega) (by omega) | exact mulL (by omega) (by omega) | exact mulM (by omega) (by omega) | exact divOk (by omega) (by omega) | exact Exists.intro _ (by assumption)) ?_; (conv => whnf))))
    exact k
  cases v with
  | tup q =>
    rename_i ds
    (conv => whnf)
    refine w_isi rfl (by decide) ?_
    (conv => whnf)
    refine w_f rfl ?_
    (conv => whnf)
    refine w_need (v := .int ds.length) rfl ?_
    (conv => whnf)
    have e6 : dishesErrF (.tup ds) = if 1 ≤ ds.length ∧ ds.length ≤ 6 then firstF (dishBad ds) ds.length else .tup [.non, .str "dishes"] := rfl
    have body : ∀ G : Prop, True := fun _ => trivial
    refine w_ite (fun c => ?_) (fun c => ?_)
    · (conv => whnf)
      refine w_iteb (fun c2 => ?_) (fun c2 => ?_)
      · have c2 := of_decide_eq_false (notT c2)
        (conv => whnf); (repeat (first | (refine w_need rfl ?_; (conv => whnf)) | (refine w_ix (by assumption) rfl ?_; (conv => whnf)) | (refine w_ix hupd_same rfl ?_; (conv => whnf)) | (refine w_setL (by assumption) rfl ?_; (conv => whnf)) | (refine w_setL hupd_same rfl ?_; (conv => whnf)) | (refine w_eqi ?_; (conv => whnf)) | (refine w_eqs ?_; (conv => whnf)) | (refine w_t (by first | rfl | decide | assumption) ?_; (conv => whnf)) | (refine w_f (by first | rfl | decide | assumption) ?_; (conv => whnf)) | (refine And.intro (by first | omega | rfl | decide | assumption | exact Nat.le_of_ble_eq_true rfl | exact mulR (by omega) (by omega) | exact mulL (by omega) (by omega) | exact mulM (by omega) (by omega) | exact divOk (by omega) (by omega) | exact Exists.intro _ (by assumption)) ?_; (conv => whnf))))
        have := k h (.refl _)
        rw [e6, if_neg (by omega)] at this
        exact this
      · have c2 := of_decide_eq_true (notF c2)
        rw [e6, if_pos (by omega)] at k
        (conv => whnf)
        refine w_for ?_
        (conv => whnf)
        refine w_loop (I := fun i τ h' => Ext h h' ∧ (∀ j, j < i → dishBad ds j = none) ∧ ∃ a1 a2, τ = [some (.tup ds), a1, a2]) ⟨.refl _, fun j hj => absurd hj (Nat.not_lt_zero j), _, _, rfl⟩ (fun _ _ _ _ _ => trivial) ?_ ?_
        · rintro i d τ h1 nx ed ⟨x1, ok, a1, a2, rfl⟩ hnx
          obtain ⟨y, ey, rfl⟩ := enumD_get ed
          have hi : i < ds.length := (List.getElem?_eq_some_iff.mp ey).1
          have gy : ds.getD i .non = y := by rw [List.getD_eq_getElem?_getD, ey]; rfl
          (conv => whnf); (repeat (first | (refine w_need rfl ?_; (conv => whnf)) | (refine w_ix (by assumption) rfl ?_; (conv => whnf)) | (refine w_ix hupd_same rfl ?_; (conv => whnf)) | (refine w_setL (by assumption) rfl ?_; (conv => whnf)) | (refine w_setL hupd_same rfl ?_; (conv => whnf)) | (refine w_eqi ?_; (conv => whnf)) | (refine w_eqs ?_; (conv => whnf)) | (refine w_t (by first | rfl | decide | assumption) ?_; (conv => whnf)) | (refine w_f (by first | rfl | decide | assumption) ?_; (conv => whnf)) | (refine And.intro (by first | omega | rfl | decide | assumption | exact Nat.le_of_ble_eq_true rfl | exact mulR (by omega) (by omega) | exact mulL (by omega) (by omega) | exact mulM (by omega) (by omega) | exact divOk (by omega) (by omega) | exact Exists.intro _ (by assumption)) ?_; (conv => whnf))))
          refine sp_is_pair_of ((q y (List.mem_of_getElem? ey)).ext x1) fun h2 x2 => ?_
          have x12 := x1.trans x2
          (conv => whnf)
          refine w_iteb (fun c3 => ?_) (fun c3 => ?_)
          · have c3 := notT c3
            have eb : dishBad ds i = some (.tup [.int (i : Nat), .str "dish"]) := by unfold dishBad; rw [gy, if_pos c3]
            (conv => whnf); (repeat (first | (refine w_need rfl ?_; (conv => whnf)) | (refine w_ix (by assumption) rfl ?_; (conv => whnf)) | (refine w_ix hupd_same rfl ?_; (conv => whnf)) | (refine w_setL (by assumption) rfl ?_; (conv => whnf)) | (refine w_setL hupd_same rfl ?_; (conv => whnf)) | (refine w_eqi ?_; (conv => whnf)) | (refine w_eqs ?_; (conv => whnf)) | (refine w_t (by first | rfl | decide | assumption) ?_; (conv => whnf)) | (refine w_f (by first | rfl | decide | assumption) ?_; (conv => whnf)) | (refine And.intro (by first | omega | rfl | decide | assumption | exact Nat.le_of_ble_eq_true rfl | exact mulR (by omega) (by omega) | exact mulL (by omega) (by omega) | exact mulM (by omega) (by omega) | exact divOk (by omega) (by omega) | exact Exists.intro _ (by assumption)) ?_; (conv => whnf))))
            have := k h2 x12
            rw [firstF_hit hi ok eb] at this
            exact this
          · have c3 := notF c3
            have eb : dishBad ds i = none := by unfold dishBad; rw [gy, if_neg (by rw [c3]; exact Bool.noConfusion)]
            refine hnx _ _ ⟨x12, fun j hj => ?_, _, _, rfl⟩
            by_cases z : j = i
            · subst z; exact eb
            · exact ok j (by omega)
        · rintro τ h1 ⟨x1, ok, a1, a2, rfl⟩
          rw [enumD_length] at ok
          (conv => whnf); (repeat (first | (refine w_need rfl ?_; (conv => whnf)) | (refine w_ix (by assumption) rfl ?_; (conv => whnf)) | (refine w_ix hupd_same rfl ?_; (conv => whnf)) | (refine w_setL (by assumption) rfl ?_; (conv => whnf)) | (refine w_setL hupd_same rfl ?_; (conv => whnf)) | (refine w_eqi ?_; (conv => whnf)) | (refine w_eqs ?_; (conv => whnf)) | (refine w_t (by first | rfl | decide | assumption) ?_; (conv => whnf)) | (refine w_f (by first | rfl | decide | assumption) ?_; (conv => whnf)) | (refine And.intro (by first | omega | rfl | decide | assumption | exact Nat.le_of_ble_eq_true rfl | exact mulR (by omega) (by omega) | exact mulL (by omega) (by omega) | exact mulM (by omega) (by omega) | exact divOk (by omega) (by omega) | exact Exists.intro _ (by assumption)) ?_; (conv => whnf))))
          have := k h1 x1
          rw [firstF_none ok] at this
          exact this
    · (conv => whnf); (repeat (first | (refine w_need rfl ?_; (conv => whnf)) | (refine w_ix (by assumption) rfl ?_; (conv => whnf)) | (refine w_ix hupd_same rfl ?_; (conv => whnf)) | (refine w_setL (by assumption) rfl ?_; (conv => whnf)) | (refine w_setL hupd_same rfl ?_; (conv => whnf)) | (refine w_eqi ?_; (conv => whnf)) | (refine w_eqs ?_; (conv => whnf)) | (refine w_t (by first | rfl | decide | assumption) ?_; (conv => whnf)) | (refine w_f (by first | rfl | decide | assumption) ?_; (conv => whnf)) | (refine And.intro (by first | omega | rfl | decide | assumption | exact Nat.le_of_ble_eq_true rfl | exact mulR (by omega) (by omega) | exact mulL (by omega) (by omega) | exact mulM (by omega) (by omega) | exact divOk (by omega) (by omega) | exact Exists.intro _ (by assumption)) ?_; (conv => whnf))))
      have := k h (.refl _)
      rw [e6, if_neg (by omega)] at this
      exact this
  | lst e q => exact notTup "list" (by show tyO (h _) = _; rw [e]; rfl) rfl rfl
  | dct e q => exact notTup "dict" (by show tyO (h _) = _; rw [e]; rfl) rfl rfl
  | non => exact notTup _ rfl rfl rfl
  | bl b => exact notTup _ rfl rfl rfl
  | int i => exact notTup _ rfl rfl rfl
  | str s => exact notTup _ rfl rfl rfl
end DL

set_option linter.all false
set_option maxRecDepth 100000
set_option maxHeartbeats 2000000
namespace DL
open PySem PySem.Spec PyProof.Rows L2
/-! kitchen_error whole -/
theorem firstF_tup {f : Nat → Option D} {n : Nat} (h : ∀ i v, f i = some v → ∃ ds, v = .tup ds) : firstF f n = .non ∨ ∃ ds, firstF f n = .tup ds := by
  unfold firstF
  cases e : (List.range n).findSome? f with
  | none => exact .inl rfl
  | some v =>
    obtain ⟨i, _, ei⟩ := List.exists_of_findSome?_eq_some e
    obtain ⟨ds, rfl⟩ := h i v ei
    exact .inr ⟨ds, rfl⟩
theorem tiesErrF_or (ov : Int) (d : D) : tiesErrF ov d = .non ∨ ∃ ds, tiesErrF ov d = .tup ds := by
  cases d with
  | tup ds =>
    show (if 6 < ds.length then D.tup [.non, .str "ties"] else firstF (tieBad ov ds) ds.length) = .non ∨ ∃ es, (if 6 < ds.length then D.tup [.non, .str "ties"] else firstF (tieBad ov ds) ds.length) = .tup es
    split
    · exact .inr ⟨_, rfl⟩
    · refine firstF_tup fun i v e => ?_
      unfold tieBad at e
      split at e
      · cases e; exact ⟨_, rfl⟩
      · split at e
        · cases e; exact ⟨_, rfl⟩
        · cases e
  | _ => exact .inr ⟨_, rfl⟩
theorem dishesErrF_or (d : D) : dishesErrF d = .non ∨ ∃ ds, dishesErrF d = .tup ds := by
  cases d with
  | tup ds =>
    show (if 1 ≤ ds.length ∧ ds.length ≤ 6 then firstF (dishBad ds) ds.length else D.tup [.non, .str "dishes"]) = .non ∨ ∃ es, (if 1 ≤ ds.length ∧ ds.length ≤ 6 then firstF (dishBad ds) ds.length else D.tup [.non, .str "dishes"]) = .tup es
    split
    · refine firstF_tup fun i v e => ?_
      unfold dishBad at e
      split at e
      · cases e; exact ⟨_, rfl⟩
      · cases e
    · exact .inr ⟨_, rfl⟩
  | _ => exact .inr ⟨_, rfl⟩
theorem firstF_all {f : Nat → Option D} {n : Nat} (hv : ∀ i v, f i = some v → v ≠ .non) (h : firstF f n = .non) : ∀ i, i < n → f i = none := by
  intro i hi
  unfold firstF at h
  cases e : (List.range n).findSome? f with
  | none => exact (List.findSome?_eq_none_iff.mp e) i (List.mem_range.mpr hi)
  | some v =>
    rw [e] at h
    obtain ⟨j, _, ej⟩ := List.exists_of_findSome?_eq_some e
    exact absurd h (hv j v ej)
def tiesOf (d : D) : List Tie := match d with
  | .tup ds => ds.map fun d => toTie (intsOf d)
  | _ => []
theorem ties_good {ov : Int} {d : D} (h : tiesErrF ov d = .non) : d = .tup ((tiesOf d).map fun t => tupI t.l) ∧ (∀ t ∈ tiesOf d, TieIn ov t) ∧ (tiesOf d).length ≤ 6 := by
  cases d with
  | tup ds =>
    have h : (if 6 < ds.length then D.tup [.non, .str "ties"] else firstF (tieBad ov ds) ds.length) = .non := h
    split at h
    · cases h
    · rename_i hl
      have al := firstF_all (fun i v e => by
        unfold tieBad at e
        split at e
        · cases e; exact D.noConfusion
        · split at e
          · cases e; exact D.noConfusion
          · cases e) h
      have good : ∀ d ∈ ds, isTieB d ov = true := fun d hd => by
        obtain ⟨i, hi, e⟩ := List.mem_iff_getElem.mp hd
        have := al i hi
        unfold tieBad at this
        have g : ds.getD i .non = d := by rw [List.getD_eq_getElem?_getD, List.getElem?_eq_getElem hi, e]; rfl
        rw [g] at this
        cases z : isTieB d ov with
        | true => rfl
        | false => rw [if_pos z] at this; cases this
      refine ⟨?_, ?_, ?_⟩
      · show D.tup ds = .tup ((ds.map fun d => toTie (intsOf d)).map fun t => tupI t.l)
        congr 1
        rw [List.map_map]
        conv => lhs; rw [← List.map_id ds]
        refine List.map_congr_left fun d hd => ?_
        obtain ⟨a, b, x, y, rfl, _⟩ := isTieB_ints (good d hd)
        rfl
      · intro t ht
        obtain ⟨d, hd, rfl⟩ := List.mem_map.mp (show t ∈ ds.map fun d => toTie (intsOf d) from ht)
        obtain ⟨a, b, x, y, rfl, h1, h2, _⟩ := isTieB_ints (good d hd)
        exact ⟨h1, h2⟩
      · show (ds.map fun d => toTie (intsOf d)).length ≤ 6
        rw [List.length_map]; omega
  | _ => cases h
def kitErrF (d : D) : D := match d with
  | .tup [dials, slopes, room, ov, ties, dishes] =>
    if isIntB dials 1 1000000000 = false then .tup [.non, .str "dials"] else
    if isPairB slopes 0 1000000000 = false then .tup [.non, .str "slopes"] else
    if isRoomB room = false then .tup [.non, .str "room"] else
    match ov with
    | .int n => if isIntB ov 1 4 = false then .tup [.non, .str "ovens"] else
      if isNon (tiesErrF n ties) = false then tiesErrF n ties else
      if isNon (dishesErrF dishes) = false then dishesErrF dishes else
      if tornB n.toNat (gapsF n.toNat (tiesOf ties)) = true then .tup [.non, .str "torn"] else .non
    | _ => .tup [.non, .str "ovens"]
  | _ => .tup [.non, .str "kitchen"]
theorem sp_kitchen_error {h : DH} {d : D} {Q : DK} (v : Vl h d) (k : ∀ h', Ext h h' → Q (kitErrF d) h') : m_kitchen_error [d] h Q := by
  apply m_kitchen_error_ap
  (conv => whnf); (repeat (first | (refine w_need rfl ?_; (conv => whnf)) | (refine w_ix (by assumption) rfl ?_; (conv => whnf)) | (refine w_ix hupd_same rfl ?_; (conv => whnf)) | (refine w_setL (by assumption) rfl ?_; (conv => whnf)) | (refine w_setL hupd_same rfl ?_; (conv => whnf)) | (refine w_eqi ?_; (conv => whnf)) | (refine w_eqs ?_; (conv => whnf)) | (refine w_t (by first | rfl | decide | assumption) ?_; (conv => whnf)) | (refine w_f (by first | rfl | decide | assumption) ?_; (conv => whnf)) | (refine And.intro (by first | omega | rfl | decide | assumption | exact Nat.le_of_ble_eq_true rfl | exact mulR (by omega) (by omega) | exact mulL (by omega) (by omega) | exact mulM (by omega) (by omega) | exact divOk (by omega) (by omega) | exact Exists.intro _ (by assumption)) ?_; (conv => whnf))))
  refine sp_is_tuple (n := 6) rfl v ?_
  (conv => whnf)
  refine w_iteb (fun c => ?_) (fun c => ?_)
  · have c := notT c
    have e4 : kitErrF d = .tup [.non, .str "kitchen"] := by
      cases d with
      | tup ds =>
        match ds, c with
        | [a, b, x, y, z, w], c => cases c
        | [], _ => rfl
        | [_], _ => rfl
        | [_, _], _ => rfl
        | [_, _, _], _ => rfl
        | [_, _, _, _], _ => rfl
        | [_, _, _, _, _], _ => rfl
        | _ :: _ :: _ :: _ :: _ :: _ :: _ :: _, _ => rfl
      | _ => rfl
    have k := k h (.refl _)
    rw [e4] at k
    (conv => whnf); (repeat (first | (refine w_need rfl ?_; (conv => whnf)) | (refine w_ix (by assumption) rfl ?_; (conv => whnf)) | (refine w_ix hupd_same rfl ?_; (conv => whnf)) | (refine w_setL (by assumption) rfl ?_; (conv => whnf)) | (refine w_setL hupd_same rfl ?_; (conv => whnf)) | (refine w_eqi ?_; (conv => whnf)) | (refine w_eqs ?_; (conv => whnf)) | (refine w_t (by first | rfl | decide | assumption) ?_; (conv => whnf)) | (refine w_f (by first | rfl | decide | assumption) ?_; (conv => whnf)) | (refine And.intro (by first | omega | rfl | decide | assumption | exact Nat.le_of_ble_eq_true rfl | exact mulR (by omega) (by omega) | exact mulL (by omega) (by omega) | exact mulM (by omega) (by omega) | exact divOk (by omega) (by omega) | exact Exists.intro _ (by assumption)) ?_; (conv => whnf))))
    exact k
  · have c := notF c
    obtain ⟨ds, rfl, hl⟩ := isTupB_eq c
    obtain ⟨dials, slopes, room, ov, ties, dishes, rfl⟩ : ∃ a b x y z w, ds = [a, b, x, y, z, w] := by
      match ds, hl with
      | [a, b, x, y, z, w], _ => exact ⟨a, b, x, y, z, w, rfl⟩
    have vi := v.items
    (conv => whnf); (repeat (first | (refine w_need rfl ?_; (conv => whnf)) | (refine w_ix (by assumption) rfl ?_; (conv => whnf)) | (refine w_ix hupd_same rfl ?_; (conv => whnf)) | (refine w_setL (by assumption) rfl ?_; (conv => whnf)) | (refine w_setL hupd_same rfl ?_; (conv => whnf)) | (refine w_eqi ?_; (conv => whnf)) | (refine w_eqs ?_; (conv => whnf)) | (refine w_t (by first | rfl | decide | assumption) ?_; (conv => whnf)) | (refine w_f (by first | rfl | decide | assumption) ?_; (conv => whnf)) | (refine And.intro (by first | omega | rfl | decide | assumption | exact Nat.le_of_ble_eq_true rfl | exact mulR (by omega) (by omega) | exact mulL (by omega) (by omega) | exact mulM (by omega) (by omega) | exact divOk (by omega) (by omega) | exact Exists.intro _ (by assumption)) ?_; (conv => whnf))))
    refine sp_is_integer (vi dials (by simp)) ?_
    (conv => whnf)
    unfold kitErrF at k
    dsimp only at k
    refine w_iteb (fun c1 => ?_) (fun c1 => ?_)
    · have k := k h (.refl _)
      rw [if_pos (notT c1)] at k
      (conv => whnf); (repeat (first | (refine w_need rfl ?_; (conv => whnf)) | (refine w_ix (by assumption) rfl ?_; (conv => whnf)) | (refine w_ix hupd_same rfl ?_; (conv => whnf)) | (refine w_setL (by assumption) rfl ?_; (conv => whnf)) | (refine w_setL hupd_same rfl ?_; (conv => whnf)) | (refine w_eqi ?_; (conv => whnf)) | (refine w_eqs ?_; (conv => whnf)) | (refine w_t (by first | rfl | decide | assumption) ?_; (conv => whnf)) | (refine w_f (by first | rfl | decide | assumption) ?_; (conv => whnf)) | (refine And.intro (by first | omega | rfl | decide | assumption | exact Nat.le_of_ble_eq_true rfl | exact mulR (by omega) (by omega) | exact mulL (by omega) (by omega) | exact mulM (by omega) (by omega) | exact divOk (by omega) (by omega) | exact Exists.intro _ (by assumption)) ?_; (conv => whnf))))
      exact k
    rw [if_neg (by rw [notF c1]; exact Bool.noConfusion)] at k
    (conv => whnf); (repeat (first | (refine w_need rfl ?_; (conv => whnf)) | (refine w_ix (by assumption) rfl ?_; (conv => whnf)) | (refine w_ix hupd_same rfl ?_; (conv => whnf)) | (refine w_setL (by assumption) rfl ?_; (conv => whnf)) | (refine w_setL hupd_same rfl ?_; (conv => whnf)) | (refine w_eqi ?_; (conv => whnf)) | (refine w_eqs ?_; (conv => whnf)) | (refine w_t (by first | rfl | decide | assumption) ?_; (conv => whnf)) | (refine w_f (by first | rfl | decide | assumption) ?_; (conv => whnf)) | (refine And.intro (by first | omega | rfl | decide | assumption | exact Nat.le_of_ble_eq_true rfl | exact mulR (by omega) (by omega) | exact mulL (by omega) (by omega) | exact mulM (by omega) (by omega) | exact divOk (by omega) (by omega) | exact Exists.intro _ (by assumption)) ?_; (conv => whnf))))
    refine sp_is_pair_of (vi slopes (by simp)) fun h1 x1 => ?_
    (conv => whnf)
    refine w_iteb (fun c2 => ?_) (fun c2 => ?_)
    · have k := k h1 x1
      rw [if_pos (notT c2)] at k
      (conv => whnf); (repeat (first | (refine w_need rfl ?_; (conv => whnf)) | (refine w_ix (by assumption) rfl ?_; (conv => whnf)) | (refine w_ix hupd_same rfl ?_; (conv => whnf)) | (refine w_setL (by assumption) rfl ?_; (conv => whnf)) | (refine w_setL hupd_same rfl ?_; (conv => whnf)) | (refine w_eqi ?_; (conv => whnf)) | (refine w_eqs ?_; (conv => whnf)) | (refine w_t (by first | rfl | decide | assumption) ?_; (conv => whnf)) | (refine w_f (by first | rfl | decide | assumption) ?_; (conv => whnf)) | (refine And.intro (by first | omega | rfl | decide | assumption | exact Nat.le_of_ble_eq_true rfl | exact mulR (by omega) (by omega) | exact mulL (by omega) (by omega) | exact mulM (by omega) (by omega) | exact divOk (by omega) (by omega) | exact Exists.intro _ (by assumption)) ?_; (conv => whnf))))
      exact k
    rw [if_neg (by rw [notF c2]; exact Bool.noConfusion)] at k
    (conv => whnf); (repeat (first | (refine w_need rfl ?_; (conv => whnf)) | (refine w_ix (by assumption) rfl ?_; (conv => whnf)) | (refine w_ix hupd_same rfl ?_; (conv => whnf)) | (refine w_setL (by assumption) rfl ?_; (conv => whnf)) | (refine w_setL hupd_same rfl ?_; (conv => whnf)) | (refine w_eqi ?_; (conv => whnf)) | (refine w_eqs ?_; (conv => whnf)) | (refine w_t (by first | rfl | decide | assumption) ?_; (conv => whnf)) | (refine w_f (by first | rfl | decide | assumption) ?_; (conv => whnf)) | (refine And.intro (by first | omega | rfl | decide | assumption | exact Nat.le_of_ble_eq_true rfl | exact mulR (by omega) (by omega) | exact mulL (by omega) (by omega) | exact mulM (by omega) (by omega) | exact divOk (by omega) (by omega) | exact Exists.intro _ (by assumption)) ?_; (conv => whnf))))
    refine sp_is_room ((vi room (by simp)).ext x1) ?_
    (conv => whnf)
    refine w_iteb (fun c3 => ?_) (fun c3 => ?_)
    · have k := k h1 x1
      rw [if_pos (notT c3)] at k
      (conv => whnf); (repeat (first | (refine w_need rfl ?_; (conv => whnf)) | (refine w_ix (by assumption) rfl ?_; (conv => whnf)) | (refine w_ix hupd_same rfl ?_; (conv => whnf)) | (refine w_setL (by assumption) rfl ?_; (conv => whnf)) | (refine w_setL hupd_same rfl ?_; (conv => whnf)) | (refine w_eqi ?_; (conv => whnf)) | (refine w_eqs ?_; (conv => whnf)) | (refine w_t (by first | rfl | decide | assumption) ?_; (conv => whnf)) | (refine w_f (by first | rfl | decide | assumption) ?_; (conv => whnf)) | (refine And.intro (by first | omega | rfl | decide | assumption | exact Nat.le_of_ble_eq_true rfl | exact mulR (by omega) (by omega) | exact mulL (by omega) (by omega) | exact mulM (by omega) (by omega) | exact divOk (by omega) (by omega) | exact Exists.intro _ (by assumption)) ?_; (conv => whnf))))
      exact k
    rw [if_neg (by rw [notF c3]; exact Bool.noConfusion)] at k
    (conv => whnf); (repeat (first | (refine w_need rfl ?_; (conv => whnf)) | (refine w_ix (by assumption) rfl ?_; (conv => whnf)) | (refine w_ix hupd_same rfl ?_; (conv => whnf)) | (refine w_setL (by assumption) rfl ?_; (conv => whnf)) | (refine w_setL hupd_same rfl ?_; (conv => whnf)) | (refine w_eqi ?_; (conv => whnf)) | (refine w_eqs ?_; (conv => whnf)) | (refine w_t (by first | rfl | decide | assumption) ?_; (conv => whnf)) | (refine w_f (by first | rfl | decide | assumption) ?_; (conv => whnf)) | (refine And.intro (by first | omega | rfl | decide | assumption | exact Nat.le_of_ble_eq_true rfl | exact mulR (by omega) (by omega) | exact mulL (by omega) (by omega) | exact mulM (by omega) (by omega) | exact divOk (by omega) (by omega) | exact Exists.intro _ (by assumption)) ?_; (conv => whnf))))
    refine sp_is_integer ((vi ov (by simp)).ext x1) ?_
    (conv => whnf)
    refine w_iteb (fun c4 => ?_) (fun c4 => ?_)
    · have k := k h1 x1
      have c4 := notT c4
      (conv => whnf); (repeat (first | (refine w_need rfl ?_; (conv => whnf)) | (refine w_ix (by assumption) rfl ?_; (conv => whnf)) | (refine w_ix hupd_same rfl ?_; (conv => whnf)) | (refine w_setL (by assumption) rfl ?_; (conv => whnf)) | (refine w_setL hupd_same rfl ?_; (conv => whnf)) | (refine w_eqi ?_; (conv => whnf)) | (refine w_eqs ?_; (conv => whnf)) | (refine w_t (by first | rfl | decide | assumption) ?_; (conv => whnf)) | (refine w_f (by first | rfl | decide | assumption) ?_; (conv => whnf)) | (refine And.intro (by first | omega | rfl | decide | assumption | exact Nat.le_of_ble_eq_true rfl | exact mulR (by omega) (by omega) | exact mulL (by omega) (by omega) | exact mulM (by omega) (by omega) | exact divOk (by omega) (by omega) | exact Exists.intro _ (by assumption)) ?_; (conv => whnf))))
      cases ov with
      | int n =>
        dsimp only at k
        rw [if_pos c4] at k
        exact k
      | _ => exact k
    have c4 := notF c4
    obtain ⟨n, rfl, n1, n4⟩ := isIntB_eq c4
    dsimp only at k
    rw [if_neg (by rw [c4]; exact Bool.noConfusion)] at k
    (conv => whnf); (repeat (first | (refine w_need rfl ?_; (conv => whnf)) | (refine w_ix (by assumption) rfl ?_; (conv => whnf)) | (refine w_ix hupd_same rfl ?_; (conv => whnf)) | (refine w_setL (by assumption) rfl ?_; (conv => whnf)) | (refine w_setL hupd_same rfl ?_; (conv => whnf)) | (refine w_eqi ?_; (conv => whnf)) | (refine w_eqs ?_; (conv => whnf)) | (refine w_t (by first | rfl | decide | assumption) ?_; (conv => whnf)) | (refine w_f (by first | rfl | decide | assumption) ?_; (conv => whnf)) | (refine And.intro (by first | omega | rfl | decide | assumption | exact Nat.le_of_ble_eq_true rfl | exact mulR (by omega) (by omega) | exact mulL (by omega) (by omega) | exact mulM (by omega) (by omega) | exact divOk (by omega) (by omega) | exact Exists.intro _ (by assumption)) ?_; (conv => whnf))))
    refine sp_ties_error ((vi ties (by simp)).ext x1) fun h2 x2 => ?_
    have x12 := x1.trans x2
    rcases tiesErrF_or n ties with e1 | ⟨es, e1⟩
    · rw [e1]
      rw [e1, if_neg (show ¬ isNon .non = false from Bool.noConfusion)] at k
      (conv => whnf); (repeat (first | (refine w_need rfl ?_; (conv => whnf)) | (refine w_ix (by assumption) rfl ?_; (conv => whnf)) | (refine w_ix hupd_same rfl ?_; (conv => whnf)) | (refine w_setL (by assumption) rfl ?_; (conv => whnf)) | (refine w_setL hupd_same rfl ?_; (conv => whnf)) | (refine w_eqi ?_; (conv => whnf)) | (refine w_eqs ?_; (conv => whnf)) | (refine w_t (by first | rfl | decide | assumption) ?_; (conv => whnf)) | (refine w_f (by first | rfl | decide | assumption) ?_; (conv => whnf)) | (refine And.intro (by first | omega | rfl | decide | assumption | exact Nat.le_of_ble_eq_true rfl | exact mulR (by omega) (by omega) | exact mulL (by omega) (by omega) | exact mulM (by omega) (by omega) | exact divOk (by omega) (by omega) | exact Exists.intro _ (by assumption)) ?_; (conv => whnf))))
      refine sp_dishes_error ((vi dishes (by simp)).ext x12) fun h3 x3 => ?_
      have x13 := x12.trans x3
      rcases dishesErrF_or dishes with e2 | ⟨es, e2⟩
      · rw [e2]
        rw [e2, if_neg (show ¬ isNon .non = false from Bool.noConfusion)] at k
        obtain ⟨g1, g2, g3⟩ := ties_good e1
        (conv => whnf); (repeat (first | (refine w_need rfl ?_; (conv => whnf)) | (refine w_ix (by assumption) rfl ?_; (conv => whnf)) | (refine w_ix hupd_same rfl ?_; (conv => whnf)) | (refine w_setL (by assumption) rfl ?_; (conv => whnf)) | (refine w_setL hupd_same rfl ?_; (conv => whnf)) | (refine w_eqi ?_; (conv => whnf)) | (refine w_eqs ?_; (conv => whnf)) | (refine w_t (by first | rfl | decide | assumption) ?_; (conv => whnf)) | (refine w_f (by first | rfl | decide | assumption) ?_; (conv => whnf)) | (refine And.intro (by first | omega | rfl | decide | assumption | exact Nat.le_of_ble_eq_true rfl | exact mulR (by omega) (by omega) | exact mulL (by omega) (by omega) | exact mulM (by omega) (by omega) | exact divOk (by omega) (by omega) | exact Exists.intro _ (by assumption)) ?_; (conv => whnf))))
        have en : ((n.toNat : Nat) : Int) = n := Int.toNat_of_nonneg (by omega)
        refine sp_is_torn (n := n.toNat) en.symm (by omega) (.inl g1) (fun t ht => g2 t ht) fun h4 x4 => ?_
        (conv => whnf)
        refine w_iteb (fun c5 => ?_) (fun c5 => ?_)
        · have k := k h4 (x13.trans x4)
          rw [if_pos c5] at k
          (conv => whnf); (repeat (first | (refine w_need rfl ?_; (conv => whnf)) | (refine w_ix (by assumption) rfl ?_; (conv => whnf)) | (refine w_ix hupd_same rfl ?_; (conv => whnf)) | (refine w_setL (by assumption) rfl ?_; (conv => whnf)) | (refine w_setL hupd_same rfl ?_; (conv => whnf)) | (refine w_eqi ?_; (conv => whnf)) | (refine w_eqs ?_; (conv => whnf)) | (refine w_t (by first | rfl | decide | assumption) ?_; (conv => whnf)) | (refine w_f (by first | rfl | decide | assumption) ?_; (conv => whnf)) | (refine And.intro (by first | omega | rfl | decide | assumption | exact Nat.le_of_ble_eq_true rfl | exact mulR (by omega) (by omega) | exact mulL (by omega) (by omega) | exact mulM (by omega) (by omega) | exact divOk (by omega) (by omega) | exact Exists.intro _ (by assumption)) ?_; (conv => whnf))))
          exact k
        · have k := k h4 (x13.trans x4)
          rw [if_neg (by rw [c5]; exact Bool.noConfusion)] at k
          (conv => whnf); (repeat (first | (refine w_need rfl ?_; (conv => whnf)) | (refine w_ix (by assumption) rfl ?_; (conv => whnf)) | (refine w_ix hupd_same rfl ?_; (conv => whnf)) | (refine w_setL (by assumption) rfl ?_; (conv => whnf)) | (refine w_setL hupd_same rfl ?_; (conv => whnf)) | (refine w_eqi ?_; (conv => whnf)) | (refine w_eqs ?_; (conv => whnf)) | (refine w_t (by first | rfl | decide | assumption) ?_; (conv => whnf)) | (refine w_f (by first | rfl | decide | assumption) ?_; (conv => whnf)) | (refine And.intro (by first | omega | rfl | decide | assumption | exact Nat.le_of_ble_eq_true rfl | exact mulR (by omega) (by omega) | exact mulL (by omega) (by omega) | exact mulM (by omega) (by omega) | exact divOk (by omega) (by omega) | exact Exists.intro _ (by assumption)) ?_; (conv => whnf))))
          exact k
      · have k := k h3 x13
        rw [e2, if_pos (show isNon (.tup es) = false from rfl)] at k
        rw [e2]
        (conv => whnf); (repeat (first | (refine w_need rfl ?_; (conv => whnf)) | (refine w_ix (by assumption) rfl ?_; (conv => whnf)) | (refine w_ix hupd_same rfl ?_; (conv => whnf)) | (refine w_setL (by assumption) rfl ?_; (conv => whnf)) | (refine w_setL hupd_same rfl ?_; (conv => whnf)) | (refine w_eqi ?_; (conv => whnf)) | (refine w_eqs ?_; (conv => whnf)) | (refine w_t (by first | rfl | decide | assumption) ?_; (conv => whnf)) | (refine w_f (by first | rfl | decide | assumption) ?_; (conv => whnf)) | (refine And.intro (by first | omega | rfl | decide | assumption | exact Nat.le_of_ble_eq_true rfl | exact mulR (by omega) (by omega) | exact mulL (by omega) (by omega) | exact mulM (by omega) (by omega) | exact divOk (by omega) (by omega) | exact Exists.intro _ (by assumption)) ?_; (conv => whnf))))
        exact k
    · have k := k h2 x12
      rw [e1, if_pos (show isNon (.tup es) = false from rfl)] at k
      rw [e1]
      (conv => whnf); (repeat (first | (refine w_need rfl ?_; (conv => whnf)) | (refine w_ix (by assumption) rfl ?_; (conv => whnf)) | (refine w_ix hupd_same rfl ?_; (conv => whnf)) | (refine w_setL (by assumption) rfl ?_; (conv => whnf)) | (refine w_setL hupd_same rfl ?_; (conv => whnf)) | (refine w_eqi ?_; (conv => whnf)) | (refine w_eqs ?_; (conv => whnf)) | (refine w_t (by first | rfl | decide | assumption) ?_; (conv => whnf)) | (refine w_f (by first | rfl | decide | assumption) ?_; (conv => whnf)) | (refine And.intro (by first | omega | rfl | decide | assumption | exact Nat.le_of_ble_eq_true rfl | exact mulR (by omega) (by omega) | exact mulL (by omega) (by omega) | exact mulM (by omega) (by omega) | exact divOk (by omega) (by omega) | exact Exists.intro _ (by assumption)) ?_; (conv => whnf))))
      exact k
/-- kitchens are right -/
theorem dec_flip (a b : Int) (h : a ≠ b) : decide (a ≤ b) = !decide (b < a) := by
  by_cases c : a ≤ b
  · rw [decide_eq_true c, decide_eq_false (by omega)]; rfl
  · rw [decide_eq_false c, decide_eq_true (by omega)]; rfl
theorem leT_tie (t u : Tie) : leT t.l u.l = !HT.lexLt u.l t.l := by
  obtain ⟨a, b, x, y⟩ := t
  obtain ⟨a', b', x', y'⟩ := u
  have e1 : leT [a, b, x, y] [a', b', x', y'] = if decide (a = a') = true then (if decide (b = b') = true then (if decide (x = x') = true then (if decide (y = y') = true then true else decide (y ≤ y')) else decide (x ≤ x')) else decide (b ≤ b')) else decide (a ≤ a') := rfl
  have e2 : HT.lexLt [a', b', x', y'] [a, b, x, y] = if a' = a then (if b' = b then (if x' = x then (if y' = y then false else decide (y' < y)) else decide (x' < x)) else decide (b' < b)) else decide (a' < a) := rfl
  show leT [a, b, x, y] [a', b', x', y'] = !HT.lexLt [a', b', x', y'] [a, b, x, y]
  rw [e1, e2]
  by_cases h1 : a = a'
  · subst h1
    rw [if_pos (decide_eq_true rfl), if_pos rfl]
    by_cases h2 : b = b'
    · subst h2
      rw [if_pos (decide_eq_true rfl), if_pos rfl]
      by_cases h3 : x = x'
      · subst h3
        rw [if_pos (decide_eq_true rfl), if_pos rfl]
        by_cases h4 : y = y'
        · subst h4
          rw [if_pos (decide_eq_true rfl), if_pos rfl]; rfl
        · rw [if_neg (by simpa using h4), if_neg (fun z => h4 z.symm)]
          exact dec_flip _ _ h4
      · rw [if_neg (by simpa using h3), if_neg (fun z => h3 z.symm)]
        exact dec_flip _ _ h3
    · rw [if_neg (by simpa using h2), if_neg (fun z => h2 z.symm)]
      exact dec_flip _ _ h2
  · rw [if_neg (by simpa using h1), if_neg (fun z => h1 z.symm)]
    exact dec_flip _ _ h1
theorem intsOf_tup (k : List Int) : intsOf (tupI k) = k := by unfold intsOf; rw [show tupD (tupI k) = some k from intsD_map k]; rfl
theorem vl_tupI (h : DH) (k : List Int) : Vl h (tupI k) := .tup fun d hd => by
  obtain ⟨i, _, rfl⟩ := List.mem_map.mp hd
  exact .int i
theorem Kit.vl (h : DH) (k : Kit) : Vl h k.d := by
  refine .tup fun d hd => ?_
  simp only [List.mem_cons, List.not_mem_nil, or_false] at hd
  rcases hd with rfl | rfl | rfl | rfl | rfl | rfl
  · exact .int _
  · exact vl_tupI h [k.l1, k.l2]
  · exact vl_tupI h [k.cold, k.rise]
  · exact .int _
  · refine .tup fun d hd => ?_
    obtain ⟨t, _, rfl⟩ := List.mem_map.mp hd
    exact vl_tupI h _
  · refine .tup fun d hd => ?_
    obtain ⟨p, _, rfl⟩ := List.mem_map.mp hd
    exact vl_tupI h [p.1, p.2]
theorem isIntB_of {i lo hi : Int} (h1 : lo ≤ i) (h2 : i ≤ hi) : isIntB (.int i) lo hi = true := by
  show (decide (lo ≤ i) && decide (i ≤ hi)) = true
  rw [decide_eq_true h1, decide_eq_true h2]; rfl
theorem isPairB_of {i j lo hi : Int} (h1 : lo ≤ i) (h2 : i ≤ j) (h3 : j ≤ hi) : isPairB (.tup [.int i, .int j]) lo hi = true := by
  show (isIntB (.int i) lo hi && isIntB (.int j) lo hi && decide (i ≤ j)) = true
  rw [isIntB_of h1 (by omega), isIntB_of (by omega) h3, decide_eq_true h2]; rfl
theorem getD_map {α : Type} (f : α → D) (l : List α) {i : Nat} {a : α} (h : l[i]? = some a) : (l.map f).getD i .non = f a := by
  rw [List.getD_eq_getElem?_getD, List.getElem?_map, h]; rfl
theorem ties_right {n : Int} {share : Int} {ts : List Tie} (T : TiesOk n.toNat share ts) (hn : 0 ≤ n) (hs : 12 * share ≤ 1000000000000) (hs0 : 0 ≤ share) : tiesErrF n (.tup (ts.map fun t => tupI t.l)) = .non ∧ tiesOf (.tup (ts.map fun t => tupI t.l)) = ts := by
  have en : ((n.toNat : Nat) : Int) = n := Int.toNat_of_nonneg hn
  constructor
  · show (if 6 < (ts.map fun t => tupI t.l).length then D.tup [.non, .str "ties"] else firstF (tieBad n (ts.map fun t => tupI t.l)) (ts.map fun t => tupI t.l).length) = .non
    have hl := T.len
    rw [List.length_map, if_neg (by omega)]
    refine firstF_none fun i hi => ?_
    obtain ⟨t, et⟩ : ∃ t, ts[i]? = some t := ⟨ts[i], List.getElem?_eq_getElem hi⟩
    have tk := T.all t (List.mem_of_getElem? et)
    rw [en] at tk
    have g1 := getD_map (fun t : Tie => tupI t.l) ts et
    unfold tieBad
    rw [g1]
    have good : isTieB (tupI t.l) n = true := by
      show ((isIntB (.int t.a) 0 (n - 1) && isIntB (.int t.b) 0 (n - 1)) && (!decide (t.a = t.b) && isPairB (.tup [.int t.lo, .int t.hi]) (-1000000000000) 1000000000000)) = true
      have := tk.a0; have := tk.a1; have := tk.b0; have := tk.b1; have := tk.lo; have := tk.hi
      rw [isIntB_of (by omega) (by omega), isIntB_of (by omega) (by omega), isPairB_of (by omega) tk.lh (by omega), decide_eq_false tk.ne]; rfl
    rw [if_neg (by rw [good]; exact Bool.noConfusion), if_neg]
    rintro ⟨hi0, hb⟩
    obtain ⟨u, eu⟩ : ∃ u, ts[i - 1]? = some u := ⟨ts[i - 1], List.getElem?_eq_getElem (by omega)⟩
    rw [getD_map (fun t : Tie => tupI t.l) ts eu] at hb
    unfold ordBad at hb
    rw [intsOf_tup, intsOf_tup, leT_tie] at hb
    have lt : HT.lexLt u.l t.l = true := by
      have := List.pairwise_iff_getElem.mp T.asc (i - 1) i (by rw [List.length_map]; omega) (by rw [List.length_map]; omega) (by omega)
      rw [List.getElem_map, List.getElem_map] at this
      have e1 := (List.getElem?_eq_some_iff.mp et).2
      have e2 := (List.getElem?_eq_some_iff.mp eu).2
      rw [e1, e2] at this
      exact this
    rw [lt] at hb
    cases hb
  · show (ts.map fun t => tupI t.l).map (fun d => toTie (intsOf d)) = ts
    rw [List.map_map]
    conv => rhs; rw [← List.map_id ts]
    refine List.map_congr_left fun t _ => ?_
    show toTie (intsOf (tupI t.l)) = t
    rw [intsOf_tup]; rfl
theorem dishes_right {M : Int} {ds : List (Int × Int)} (h0 : 1 ≤ ds.length) (h1 : ds.length ≤ 6) (hM : M ≤ 1000000000000000000000000) (h : ∀ p ∈ ds, 0 ≤ p.1 ∧ p.1 ≤ p.2 ∧ p.2 ≤ M) : dishesErrF (.tup (ds.map pairD)) = .non := by
  show (if 1 ≤ (ds.map pairD).length ∧ (ds.map pairD).length ≤ 6 then firstF (dishBad (ds.map pairD)) (ds.map pairD).length else D.tup [.non, .str "dishes"]) = .non
  rw [List.length_map, if_pos ⟨h0, h1⟩]
  refine firstF_none fun i hi => ?_
  obtain ⟨p, ep⟩ : ∃ p, ds[i]? = some p := ⟨ds[i], List.getElem?_eq_getElem hi⟩
  obtain ⟨q1, q2, q3⟩ := h p (List.mem_of_getElem? ep)
  unfold dishBad
  rw [getD_map pairD ds ep]
  rw [if_neg]
  rw [show isPairB (pairD p) 0 1000000000000000000000000 = true from isPairB_of q1 q2 (by omega)]
  exact Bool.noConfusion
theorem kit_right {share sh2 : Int} {k : Kit} (K : KitOk share k) (T : TiesOk k.ov.toNat sh2 k.ts) (hd : 1 ≤ k.dials) (hd2 : k.dials ≤ 1000000000) (h1 : 30 * share ≤ 1000000000) (h2 : 12 * sh2 ≤ 1000000000000) (h3 : 0 ≤ sh2) : kitErrF k.d = .non := by
  have e1 := isIntB_of hd hd2
  have e2 : isPairB (.tup [.int k.l1, .int k.l2]) 0 1000000000 = true := isPairB_of K.l0 K.ll (by have := K.l8; have := K.l0; have := K.ll; omega)
  have e3 : isRoomB (.tup [.int k.cold, .int k.rise]) = true := by
    show (isIntB (.int k.cold) 0 1000000000000 && isIntB (.int k.rise) 1 1000000000) = true
    have := K.c0; have := K.c1; have := K.r0; have := K.r1
    rw [isIntB_of (by omega) (by omega), isIntB_of (by omega) (by omega)]; rfl
  have e4 := isIntB_of K.o0 K.o1
  obtain ⟨t1, t2⟩ := ties_right T (by have := K.o0; omega) h2 h3
  have e5 := dishes_right K.d0 (by have := K.d1; omega) (show 418 * share ≤ 1000000000000000000000000 by omega) K.dish
  unfold kitErrF Kit.d
  dsimp only
  rw [if_neg (by rw [e1]; exact Bool.noConfusion), if_neg (by rw [e2]; exact Bool.noConfusion), if_neg (by rw [e3]; exact Bool.noConfusion), if_neg (by rw [e4]; exact Bool.noConfusion), t1, e5, t2]
  rw [if_neg (show ¬ isNon .non = false from Bool.noConfusion), if_neg (show ¬ isNon .non = false from Bool.noConfusion), if_neg]
  rw [(tornB_iff _ _).mpr T.nn]
  exact Bool.noConfusion
end DL

set_option linter.all false
set_option maxRecDepth 100000
set_option maxHeartbeats 2000000
namespace DL
open PySem PySem.Spec PyProof.Rows L2
/-! the law's look at kitchens -/
theorem torn_ups (n : Nat) (ts : List Tie) : tornB n (upsF n ts) = tornB n (gapsF n ts) := by
  cases z : tornB n (gapsF n ts) with
  | false =>
    have hn := (tornB_iff n _).mp z
    rw [ups_gaps hn]; exact z
  | true =>
    cases y : tornB n (upsF n ts) with
    | true => rfl
    | false =>
      have hu := (tornB_iff n _).mp y
      have : tornB n (gapsF n ts) = false := (tornB_iff n _).mpr fun i v h0 h1 e => by
        obtain ⟨w, ew, lw⟩ := roundS_le n (gapsF n ts) n i i v e
        have := hu i w h0 h1 ew
        omega
      rw [this] at z; cases z
theorem sp_law_is_whole {h : DH} {d : D} {lo hi : Int} {Q : DK} (v : Vl h d) (k : Q (.bl (isIntB d lo hi)) h) : m_law_is_whole [d, .int lo, .int hi] h Q := by
  apply m_law_is_whole_ap
  (conv => whnf)
  cases v with
  | int i =>
    refine w_isi rfl (by decide) ?_
    (conv => whnf)
    refine w_t rfl ?_
    (conv => whnf)
    refine w_isi rfl (by decide) ?_
    (conv => whnf)
    refine w_t rfl ?_
    (conv => whnf)
    have e : isIntB (.int i) lo hi = (decide (lo ≤ i) && decide (i ≤ hi)) := rfl
    rw [e] at k
    refine w_ite (fun c => ?_) (fun c => ?_)
    · rw [decide_eq_true c, Bool.true_and] at k
      exact k
    · rw [decide_eq_false c, Bool.false_and] at k
      exact k
  | bl b =>
    refine w_isi rfl (by decide) ?_
    (conv => whnf)
    refine w_t rfl ?_
    (conv => whnf)
    refine w_isi rfl (by decide) ?_
    (conv => whnf)
    refine w_f rfl ?_
    exact k
  | lst e q =>
    refine w_isi (a := "list") (by show tyO (h _) = _; rw [e]; rfl) (by decide) ?_
    (conv => whnf)
    exact w_f rfl k
  | dct e q =>
    refine w_isi (a := "dict") (by show tyO (h _) = _; rw [e]; rfl) (by decide) ?_
    (conv => whnf)
    exact w_f rfl k
  | _ =>
    refine w_isi rfl (by decide) ?_
    (conv => whnf)
    exact w_f rfl k
theorem w_isTup {h : DH} {d : D} {Q : DK} (v : Vl h d) (k1 : ∀ ds, d = .tup ds → Q (.bl true) h) (k0 : (∀ n, isTupB d n = false) → Q (.bl false) h) : kIsi [d, .ty "tuple"] h Q := by
  cases v with
  | tup q => exact w_isi rfl (by decide) (k1 _ rfl)
  | lst e q => exact w_isi (a := "list") (by show tyO (h _) = _; rw [e]; rfl) (by decide) (k0 fun n => rfl)
  | dct e q => exact w_isi (a := "dict") (by show tyO (h _) = _; rw [e]; rfl) (by decide) (k0 fun n => rfl)
  | _ => exact w_isi rfl (by decide) (k0 fun n => rfl)
theorem isPairB_not {d : D} {lo hi : Int} (e : isTupB d 2 = false) : isPairB d lo hi = false := by
  unfold isPairB
  split
  · cases e
  · rfl
theorem isPairB_law (x y : D) (lo hi : Int) (i : Int) (e : x = .int i) : isPairB (.tup [x, y]) lo hi = (isIntB x lo hi && isIntB y i hi) := by
  subst e
  show (isIntB (.int i) lo hi && isIntB y lo hi && leB (.int i) y) = _
  cases y with
  | int j =>
    show ((decide (lo ≤ i) && decide (i ≤ hi)) && (decide (lo ≤ j) && decide (j ≤ hi)) && decide (i ≤ j)) = ((decide (lo ≤ i) && decide (i ≤ hi)) && (decide (i ≤ j) && decide (j ≤ hi)))
    by_cases h1 : lo ≤ i <;> by_cases h2 : i ≤ hi <;> by_cases h3 : lo ≤ j <;> by_cases h4 : j ≤ hi <;> by_cases h5 : i ≤ j <;> simp [h1, h2, h3, h4, h5] <;> omega
  | _ => show (_ && false && _) = (_ && false); simp
theorem sp_law_is_pair {h : DH} {d : D} {lo hi : Int} {Q : DK} (v : Vl h d) (k : Q (.bl (isPairB d lo hi)) h) : m_law_is_pair [d, .int lo, .int hi] h Q := by
  apply m_law_is_pair_ap
  dsimp only [b_law_is_pair]
  refine w_cut (P := fun τ' h' => h = h' ∧ τ' = [some d, some (.int lo), some (.int hi)] ∧ isTupB d 2 = true) (fun nx hnx => ?_) ?_
  · (conv => whnf)
    refine w_isTup v (fun ds e => ?_) (fun e => ?_)
    · subst e
      (conv => whnf)
      refine w_f rfl ?_
      (conv => whnf)
      refine w_need (v := .int ds.length) rfl ?_
      (conv => whnf)
      refine w_eqi ?_
      rw [if_pos rfl]
      refine w_iteb (fun c => ?_) (fun c => ?_)
      · rw [isPairB_not (by
          show (ds.length == 2) = false
          have : ¬ (ds.length : Int) = 2 := by simpa using c
          exact beq_eq_false_iff_ne.mpr (by omega))] at k
        (conv => whnf); (repeat (first | (refine w_need rfl ?_; (conv => whnf)) | (refine w_ix (by assumption) rfl ?_; (conv => whnf)) | (refine w_ix hupd_same rfl ?_; (conv => whnf)) | (refine w_setL (by assumption) rfl ?_; (conv => whnf)) | (refine w_setL hupd_same rfl ?_; (conv => whnf)) | (refine w_eqi ?_; (conv => whnf)) | (refine w_eqs ?_; (conv => whnf)) | (refine w_t (by first | rfl | decide | assumption) ?_; (conv => whnf)) | (refine w_f (by first | rfl | decide | assumption) ?_; (conv => whnf)) | (refine And.intro (by first | omega | rfl | decide | assumption | exact Nat.le_of_ble_eq_true rfl | exact mulR (by omega) (by omega) | exact mulL (by omega) (by omega) | exact mulM (by omega) (by omega) | exact divOk (by omega) (by omega) | exact Exists.intro _ (by assumption)) ?_; (conv => whnf))))
        exact k
      · refine hnx _ _ ⟨rfl, rfl, ?_⟩
        show (ds.length == 2) = true
        have : (ds.length : Int) = 2 := by simpa using c
        exact beq_iff_eq.mpr (by omega)
    · rw [isPairB_not (e 2)] at k
      (conv => whnf); (repeat (first | (refine w_need rfl ?_; (conv => whnf)) | (refine w_ix (by assumption) rfl ?_; (conv => whnf)) | (refine w_ix hupd_same rfl ?_; (conv => whnf)) | (refine w_setL (by assumption) rfl ?_; (conv => whnf)) | (refine w_setL hupd_same rfl ?_; (conv => whnf)) | (refine w_eqi ?_; (conv => whnf)) | (refine w_eqs ?_; (conv => whnf)) | (refine w_t (by first | rfl | decide | assumption) ?_; (conv => whnf)) | (refine w_f (by first | rfl | decide | assumption) ?_; (conv => whnf)) | (refine And.intro (by first | omega | rfl | decide | assumption | exact Nat.le_of_ble_eq_true rfl | exact mulR (by omega) (by omega) | exact mulL (by omega) (by omega) | exact mulM (by omega) (by omega) | exact divOk (by omega) (by omega) | exact Exists.intro _ (by assumption)) ?_; (conv => whnf))))
      exact k
  rintro τ' h' ⟨rfl, rfl, c⟩
  obtain ⟨ds, rfl, hl⟩ := isTupB_eq c
  obtain ⟨x, y, rfl⟩ : ∃ x y, ds = [x, y] := by
    match ds, hl with
    | [x, y], _ => exact ⟨x, y, rfl⟩
  have vx := v.items x (by simp)
  have vy := v.items y (by simp)
  (conv => whnf); (repeat (first | (refine w_need rfl ?_; (conv => whnf)) | (refine w_ix (by assumption) rfl ?_; (conv => whnf)) | (refine w_ix hupd_same rfl ?_; (conv => whnf)) | (refine w_setL (by assumption) rfl ?_; (conv => whnf)) | (refine w_setL hupd_same rfl ?_; (conv => whnf)) | (refine w_eqi ?_; (conv => whnf)) | (refine w_eqs ?_; (conv => whnf)) | (refine w_t (by first | rfl | decide | assumption) ?_; (conv => whnf)) | (refine w_f (by first | rfl | decide | assumption) ?_; (conv => whnf)) | (refine And.intro (by first | omega | rfl | decide | assumption | exact Nat.le_of_ble_eq_true rfl | exact mulR (by omega) (by omega) | exact mulL (by omega) (by omega) | exact mulM (by omega) (by omega) | exact divOk (by omega) (by omega) | exact Exists.intro _ (by assumption)) ?_; (conv => whnf))))
  refine sp_law_is_whole vx ?_
  (conv => whnf)
  refine w_iteb (fun c1 => ?_) (fun c1 => ?_)
  · obtain ⟨i, rfl, _⟩ := isIntB_eq c1
    rw [isPairB_law _ _ _ _ _ rfl, c1, Bool.true_and] at k
    (conv => whnf); (repeat (first | (refine w_need rfl ?_; (conv => whnf)) | (refine w_ix (by assumption) rfl ?_; (conv => whnf)) | (refine w_ix hupd_same rfl ?_; (conv => whnf)) | (refine w_setL (by assumption) rfl ?_; (conv => whnf)) | (refine w_setL hupd_same rfl ?_; (conv => whnf)) | (refine w_eqi ?_; (conv => whnf)) | (refine w_eqs ?_; (conv => whnf)) | (refine w_t (by first | rfl | decide | assumption) ?_; (conv => whnf)) | (refine w_f (by first | rfl | decide | assumption) ?_; (conv => whnf)) | (refine And.intro (by first | omega | rfl | decide | assumption | exact Nat.le_of_ble_eq_true rfl | exact mulR (by omega) (by omega) | exact mulL (by omega) (by omega) | exact mulM (by omega) (by omega) | exact divOk (by omega) (by omega) | exact Exists.intro _ (by assumption)) ?_; (conv => whnf))))
    exact sp_law_is_whole vy k
  · have e : isPairB (.tup [x, y]) lo hi = false := by
      show (isIntB x lo hi && isIntB y lo hi && leB x y) = false
      rw [c1]; rfl
    rw [e] at k
    exact k
theorem isTieB_not {d : D} {ov : Int} (e : isTupB d 4 = false) : isTieB d ov = false := by
  unfold isTieB
  split
  · cases e
  · rfl
theorem sp_law_ties_word {h : DH} {d : D} {ov : Int} {Q : DK} (v : Vl h d) (k : ∀ h', Ext h h' → Q (tiesErrF ov d) h') : m_law_ties_word [.int ov, d] h Q := by
  apply m_law_ties_word_ap
  (conv => whnf)
  refine w_isTup v (fun ds e => ?_) (fun e => ?_)
  rotate_left
  · have e2 : tiesErrF ov d = .tup [.non, .str "ties"] := by
      unfold tiesErrF
      split
      · rename_i ds
        have : (ds.length == ds.length) = false := e ds.length
        simp at this
      · rfl
    have k := k h (.refl _)
    rw [e2] at k
    (conv => whnf); (repeat (first | (refine w_need rfl ?_; (conv => whnf)) | (refine w_ix (by assumption) rfl ?_; (conv => whnf)) | (refine w_ix hupd_same rfl ?_; (conv => whnf)) | (refine w_setL (by assumption) rfl ?_; (conv => whnf)) | (refine w_setL hupd_same rfl ?_; (conv => whnf)) | (refine w_eqi ?_; (conv => whnf)) | (refine w_eqs ?_; (conv => whnf)) | (refine w_t (by first | rfl | decide | assumption) ?_; (conv => whnf)) | (refine w_f (by first | rfl | decide | assumption) ?_; (conv => whnf)) | (refine And.intro (by first | omega | rfl | decide | assumption | exact Nat.le_of_ble_eq_true rfl | exact mulR (by omega) (by omega) | exact mulL (by omega) (by omega) | exact mulM (by omega) (by omega) | exact divOk (by omega) (by omega) | exact Exists.intro _ (by assumption)) ?_; (conv => whnf))))
    exact k
  subst e
  have e6 : tiesErrF ov (.tup ds) = if 6 < ds.length then .tup [.non, .str "ties"] else firstF (tieBad ov ds) ds.length := rfl
  rw [e6] at k
  (conv => whnf)
  refine w_f rfl ?_
  (conv => whnf)
  refine w_need (v := .int ds.length) rfl ?_
  (conv => whnf)
  refine w_ite (fun c => ?_) (fun c => ?_)
  · rw [if_pos (by omega)] at k
    (conv => whnf); (repeat (first | (refine w_need rfl ?_; (conv => whnf)) | (refine w_ix (by assumption) rfl ?_; (conv => whnf)) | (refine w_ix hupd_same rfl ?_; (conv => whnf)) | (refine w_setL (by assumption) rfl ?_; (conv => whnf)) | (refine w_setL hupd_same rfl ?_; (conv => whnf)) | (refine w_eqi ?_; (conv => whnf)) | (refine w_eqs ?_; (conv => whnf)) | (refine w_t (by first | rfl | decide | assumption) ?_; (conv => whnf)) | (refine w_f (by first | rfl | decide | assumption) ?_; (conv => whnf)) | (refine And.intro (by first | omega | rfl | decide | assumption | exact Nat.le_of_ble_eq_true rfl | exact mulR (by omega) (by omega) | exact mulL (by omega) (by omega) | exact mulM (by omega) (by omega) | exact divOk (by omega) (by omega) | exact Exists.intro _ (by assumption)) ?_; (conv => whnf))))
    exact k h (.refl _)
  rw [if_neg (by omega)] at k
  (conv => whnf)
  refine w_for ?_
  (conv => whnf)
  refine w_loop (I := fun i τ h' => h = h' ∧ (∀ j, j < i → tieBad ov ds j = none) ∧ ∃ a2 a3, τ = [some (.int ov), some (.tup ds), a2, a3]) ⟨rfl, fun j hj => absurd hj (Nat.not_lt_zero j), _, _, rfl⟩ (fun _ _ _ _ _ => trivial) ?_ ?_
  rotate_left
  · rintro τ h1 ⟨rfl, ok, a2, a3, rfl⟩
    rw [enumD_length] at ok
    rw [firstF_none ok] at k
    (conv => whnf); (repeat (first | (refine w_need rfl ?_; (conv => whnf)) | (refine w_ix (by assumption) rfl ?_; (conv => whnf)) | (refine w_ix hupd_same rfl ?_; (conv => whnf)) | (refine w_setL (by assumption) rfl ?_; (conv => whnf)) | (refine w_setL hupd_same rfl ?_; (conv => whnf)) | (refine w_eqi ?_; (conv => whnf)) | (refine w_eqs ?_; (conv => whnf)) | (refine w_t (by first | rfl | decide | assumption) ?_; (conv => whnf)) | (refine w_f (by first | rfl | decide | assumption) ?_; (conv => whnf)) | (refine And.intro (by first | omega | rfl | decide | assumption | exact Nat.le_of_ble_eq_true rfl | exact mulR (by omega) (by omega) | exact mulL (by omega) (by omega) | exact mulM (by omega) (by omega) | exact divOk (by omega) (by omega) | exact Exists.intro _ (by assumption)) ?_; (conv => whnf))))
    exact k h (.refl _)
  rintro i d τ h1 nx ed ⟨rfl, ok, a2, a3, rfl⟩ hnx
  obtain ⟨y, ey, rfl⟩ := enumD_get ed
  have hi : i < ds.length := (List.getElem?_eq_some_iff.mp ey).1
  have gy : ds.getD i .non = y := by rw [List.getD_eq_getElem?_getD, ey]; rfl
  have vy : Vl h y := v.items y (List.mem_of_getElem? ey)
  have bad : isTieB y ov = false → Q (.tup [.int (i : Nat), .str "tie"]) h := fun c2 => by
    have eb : tieBad ov ds i = some (.tup [.int (i : Nat), .str "tie"]) := by unfold tieBad; rw [gy, if_pos c2]
    have := k h (.refl _)
    rw [firstF_hit hi ok eb] at this
    exact this
  refine ⟨rfl, ?_⟩
  dsimp only [gdCons, gdName, gdNil]
  refine w_cut (P := fun τ' h' => h = h' ∧ τ' = [some (.int ov), some (.tup ds), some (.int (i : Nat)), some y] ∧ ∃ a b x z, y = .tup [a, b, x, z] ∧ isPairB (.tup [x, z]) (-1000000000000) 1000000000000 = true) (fun nx2 hnx2 => ?_) ?_
  · (conv => whnf)
    refine w_isTup vy (fun es e => ?_) (fun e => ?_)
    rotate_left
    · (conv => whnf); (repeat (first | (refine w_need rfl ?_; (conv => whnf)) | (refine w_ix (by assumption) rfl ?_; (conv => whnf)) | (refine w_ix hupd_same rfl ?_; (conv => whnf)) | (refine w_setL (by assumption) rfl ?_; (conv => whnf)) | (refine w_setL hupd_same rfl ?_; (conv => whnf)) | (refine w_eqi ?_; (conv => whnf)) | (refine w_eqs ?_; (conv => whnf)) | (refine w_t (by first | rfl | decide | assumption) ?_; (conv => whnf)) | (refine w_f (by first | rfl | decide | assumption) ?_; (conv => whnf)) | (refine And.intro (by first | omega | rfl | decide | assumption | exact Nat.le_of_ble_eq_true rfl | exact mulR (by omega) (by omega) | exact mulL (by omega) (by omega) | exact mulM (by omega) (by omega) | exact divOk (by omega) (by omega) | exact Exists.intro _ (by assumption)) ?_; (conv => whnf))))
      exact bad (isTieB_not (e 4))
    subst e
    (conv => whnf)
    refine w_f rfl ?_
    (conv => whnf)
    refine w_need (v := .int es.length) rfl ?_
    (conv => whnf)
    refine w_eqi ?_
    rw [if_pos rfl]
    refine w_iteb (fun c => ?_) (fun c => ?_)
    · have e4 : isTupB (.tup es) 4 = false := by
        show (es.length == 4) = false
        have : ¬ (es.length : Int) = 4 := by simpa using c
        exact beq_eq_false_iff_ne.mpr (by omega)
      (conv => whnf); (repeat (first | (refine w_need rfl ?_; (conv => whnf)) | (refine w_ix (by assumption) rfl ?_; (conv => whnf)) | (refine w_ix hupd_same rfl ?_; (conv => whnf)) | (refine w_setL (by assumption) rfl ?_; (conv => whnf)) | (refine w_setL hupd_same rfl ?_; (conv => whnf)) | (refine w_eqi ?_; (conv => whnf)) | (refine w_eqs ?_; (conv => whnf)) | (refine w_t (by first | rfl | decide | assumption) ?_; (conv => whnf)) | (refine w_f (by first | rfl | decide | assumption) ?_; (conv => whnf)) | (refine And.intro (by first | omega | rfl | decide | assumption | exact Nat.le_of_ble_eq_true rfl | exact mulR (by omega) (by omega) | exact mulL (by omega) (by omega) | exact mulM (by omega) (by omega) | exact divOk (by omega) (by omega) | exact Exists.intro _ (by assumption)) ?_; (conv => whnf))))
      exact bad (isTieB_not e4)
    have l4 : es.length = 4 := by
      have : (es.length : Int) = 4 := by simpa using c
      omega
    obtain ⟨a, b, x, z, rfl⟩ : ∃ a b x z, es = [a, b, x, z] := by
      match es, l4 with
      | [a, b, x, z], _ => exact ⟨a, b, x, z, rfl⟩
    (conv => whnf); (repeat (first | (refine w_need rfl ?_; (conv => whnf)) | (refine w_ix (by assumption) rfl ?_; (conv => whnf)) | (refine w_ix hupd_same rfl ?_; (conv => whnf)) | (refine w_setL (by assumption) rfl ?_; (conv => whnf)) | (refine w_setL hupd_same rfl ?_; (conv => whnf)) | (refine w_eqi ?_; (conv => whnf)) | (refine w_eqs ?_; (conv => whnf)) | (refine w_t (by first | rfl | decide | assumption) ?_; (conv => whnf)) | (refine w_f (by first | rfl | decide | assumption) ?_; (conv => whnf)) | (refine And.intro (by first | omega | rfl | decide | assumption | exact Nat.le_of_ble_eq_true rfl | exact mulR (by omega) (by omega) | exact mulL (by omega) (by omega) | exact mulM (by omega) (by omega) | exact divOk (by omega) (by omega) | exact Exists.intro _ (by assumption)) ?_; (conv => whnf))))
    have ec : cutD [a, b, x, z] (some 2) none = [x, z] := rfl
    rw [ec]
    refine sp_law_is_pair (.tup fun q hq => vy.items q (by simp at hq ⊢; rcases hq with rfl | rfl <;> simp)) ?_
    (conv => whnf)
    refine w_iteb (fun c2 => ?_) (fun c2 => ?_)
    · have c2 : isPairB (.tup [x, z]) (-1000000000000) 1000000000000 = false := notT c2
      (conv => whnf); (repeat (first | (refine w_need rfl ?_; (conv => whnf)) | (refine w_ix (by assumption) rfl ?_; (conv => whnf)) | (refine w_ix hupd_same rfl ?_; (conv => whnf)) | (refine w_setL (by assumption) rfl ?_; (conv => whnf)) | (refine w_setL hupd_same rfl ?_; (conv => whnf)) | (refine w_eqi ?_; (conv => whnf)) | (refine w_eqs ?_; (conv => whnf)) | (refine w_t (by first | rfl | decide | assumption) ?_; (conv => whnf)) | (refine w_f (by first | rfl | decide | assumption) ?_; (conv => whnf)) | (refine And.intro (by first | omega | rfl | decide | assumption | exact Nat.le_of_ble_eq_true rfl | exact mulR (by omega) (by omega) | exact mulL (by omega) (by omega) | exact mulM (by omega) (by omega) | exact divOk (by omega) (by omega) | exact Exists.intro _ (by assumption)) ?_; (conv => whnf))))
      refine bad ?_
      show ((isIntB a 0 (ov - 1) && isIntB b 0 (ov - 1)) && (neB a b && isPairB (.tup [x, z]) (-1000000000000) 1000000000000)) = false
      rw [c2]; simp
    · exact hnx2 _ _ ⟨rfl, rfl, a, b, x, z, rfl, notF c2⟩
  rintro τ' h1 ⟨rfl, rfl, a, b, x, z, rfl, cp⟩
  have va := vy.items a (by simp)
  have vb := vy.items b (by simp)
  have et : isTieB (.tup [a, b, x, z]) ov = ((isIntB a 0 (ov - 1) && isIntB b 0 (ov - 1)) && (neB a b && isPairB (.tup [x, z]) (-1000000000000) 1000000000000)) := rfl
  rw [cp, Bool.and_true] at et
  (conv => whnf); (repeat (first | (refine w_need rfl ?_; (conv => whnf)) | (refine w_ix (by assumption) rfl ?_; (conv => whnf)) | (refine w_ix hupd_same rfl ?_; (conv => whnf)) | (refine w_setL (by assumption) rfl ?_; (conv => whnf)) | (refine w_setL hupd_same rfl ?_; (conv => whnf)) | (refine w_eqi ?_; (conv => whnf)) | (refine w_eqs ?_; (conv => whnf)) | (refine w_t (by first | rfl | decide | assumption) ?_; (conv => whnf)) | (refine w_f (by first | rfl | decide | assumption) ?_; (conv => whnf)) | (refine And.intro (by first | omega | rfl | decide | assumption | exact Nat.le_of_ble_eq_true rfl | exact mulR (by omega) (by omega) | exact mulL (by omega) (by omega) | exact mulM (by omega) (by omega) | exact divOk (by omega) (by omega) | exact Exists.intro _ (by assumption)) ?_; (conv => whnf))))
  refine sp_law_is_whole va ?_
  (conv => whnf)
  refine w_iteb (fun c1 => ?_) (fun c1 => ?_)
  · rw [notT c1] at et
    (conv => whnf); (repeat (first | (refine w_need rfl ?_; (conv => whnf)) | (refine w_ix (by assumption) rfl ?_; (conv => whnf)) | (refine w_ix hupd_same rfl ?_; (conv => whnf)) | (refine w_setL (by assumption) rfl ?_; (conv => whnf)) | (refine w_setL hupd_same rfl ?_; (conv => whnf)) | (refine w_eqi ?_; (conv => whnf)) | (refine w_eqs ?_; (conv => whnf)) | (refine w_t (by first | rfl | decide | assumption) ?_; (conv => whnf)) | (refine w_f (by first | rfl | decide | assumption) ?_; (conv => whnf)) | (refine And.intro (by first | omega | rfl | decide | assumption | exact Nat.le_of_ble_eq_true rfl | exact mulR (by omega) (by omega) | exact mulL (by omega) (by omega) | exact mulM (by omega) (by omega) | exact divOk (by omega) (by omega) | exact Exists.intro _ (by assumption)) ?_; (conv => whnf))))
    exact bad (by rw [et]; rfl)
  rw [notF c1, Bool.true_and] at et
  have c1 := notF c1
  (conv => whnf); (repeat (first | (refine w_need rfl ?_; (conv => whnf)) | (refine w_ix (by assumption) rfl ?_; (conv => whnf)) | (refine w_ix hupd_same rfl ?_; (conv => whnf)) | (refine w_setL (by assumption) rfl ?_; (conv => whnf)) | (refine w_setL hupd_same rfl ?_; (conv => whnf)) | (refine w_eqi ?_; (conv => whnf)) | (refine w_eqs ?_; (conv => whnf)) | (refine w_t (by first | rfl | decide | assumption) ?_; (conv => whnf)) | (refine w_f (by first | rfl | decide | assumption) ?_; (conv => whnf)) | (refine And.intro (by first | omega | rfl | decide | assumption | exact Nat.le_of_ble_eq_true rfl | exact mulR (by omega) (by omega) | exact mulL (by omega) (by omega) | exact mulM (by omega) (by omega) | exact divOk (by omega) (by omega) | exact Exists.intro _ (by assumption)) ?_; (conv => whnf))))
  refine sp_law_is_whole vb ?_
  (conv => whnf)
  refine w_iteb (fun c2 => ?_) (fun c2 => ?_)
  · rw [notT c2] at et
    (conv => whnf); (repeat (first | (refine w_need rfl ?_; (conv => whnf)) | (refine w_ix (by assumption) rfl ?_; (conv => whnf)) | (refine w_ix hupd_same rfl ?_; (conv => whnf)) | (refine w_setL (by assumption) rfl ?_; (conv => whnf)) | (refine w_setL hupd_same rfl ?_; (conv => whnf)) | (refine w_eqi ?_; (conv => whnf)) | (refine w_eqs ?_; (conv => whnf)) | (refine w_t (by first | rfl | decide | assumption) ?_; (conv => whnf)) | (refine w_f (by first | rfl | decide | assumption) ?_; (conv => whnf)) | (refine And.intro (by first | omega | rfl | decide | assumption | exact Nat.le_of_ble_eq_true rfl | exact mulR (by omega) (by omega) | exact mulL (by omega) (by omega) | exact mulM (by omega) (by omega) | exact divOk (by omega) (by omega) | exact Exists.intro _ (by assumption)) ?_; (conv => whnf))))
    exact bad (by rw [et]; rfl)
  rw [notF c2, Bool.true_and] at et
  have c2 := notF c2
  obtain ⟨a, rfl, a0, a1⟩ := isIntB_eq c1
  obtain ⟨b, rfl, b0, b1⟩ := isIntB_eq c2
  have et : isTieB (.tup [.int a, .int b, x, z]) ov = !decide (a = b) := et
  (conv => whnf)
  refine w_need (v := .int a) rfl ?_
  (conv => whnf)
  refine w_need (v := .int b) rfl ?_
  (conv => whnf)
  refine w_eqi ?_
  rw [if_neg Bool.false_ne_true]
  refine w_iteb (fun c3 => ?_) (fun c3 => ?_)
  · (conv => whnf); (repeat (first | (refine w_need rfl ?_; (conv => whnf)) | (refine w_ix (by assumption) rfl ?_; (conv => whnf)) | (refine w_ix hupd_same rfl ?_; (conv => whnf)) | (refine w_setL (by assumption) rfl ?_; (conv => whnf)) | (refine w_setL hupd_same rfl ?_; (conv => whnf)) | (refine w_eqi ?_; (conv => whnf)) | (refine w_eqs ?_; (conv => whnf)) | (refine w_t (by first | rfl | decide | assumption) ?_; (conv => whnf)) | (refine w_f (by first | rfl | decide | assumption) ?_; (conv => whnf)) | (refine And.intro (by first | omega | rfl | decide | assumption | exact Nat.le_of_ble_eq_true rfl | exact mulR (by omega) (by omega) | exact mulL (by omega) (by omega) | exact mulM (by omega) (by omega) | exact divOk (by omega) (by omega) | exact Exists.intro _ (by assumption)) ?_; (conv => whnf))))
    exact bad (by rw [et, c3]; rfl)
  rw [c3] at et
  have et : isTieB (.tup [.int a, .int b, x, z]) ov = true := et
  obtain ⟨_, _, x', z', e, _⟩ := isTieB_ints et
  cases e
  (conv => whnf)
  refine w_ite (fun c4 => ?_) (fun c4 => ?_)
  rotate_left
  · (conv => whnf)
    refine w_f rfl ?_
    refine hnx _ _ ⟨rfl, fun j hj => ?_, _, _, rfl⟩
    by_cases e : j = i
    · rw [e]; unfold tieBad; rw [gy, if_neg (by rw [et]; exact Bool.noConfusion), if_neg (by omega)]
    · exact ok j (by omega)
  have hi0 : 0 < i := by omega
  obtain ⟨w, ew⟩ : ∃ w, ds[i - 1]? = some w := ⟨ds[i - 1], List.getElem?_eq_getElem (by omega)⟩
  have gw : ds.getD (i - 1) .non = w := by rw [List.getD_eq_getElem?_getD, ew]; rfl
  have okw : isTieB w ov = true := by
    have := ok (i - 1) (by omega)
    unfold tieBad at this
    rw [gw] at this
    cases e : isTieB w ov with
    | true => rfl
    | false => rw [if_pos e] at this; cases this
  obtain ⟨p, q, u, y', rfl, _⟩ := isTieB_ints okw
  (conv => whnf)
  refine w_need (v := .tup [.int p, .int q, .int u, .int y']) (by
    have : ((i : Int) - 1) = ((i - 1 : Nat) : Int) := by omega
    rw [this]; exact atI_nth ew) ?_
  (conv => whnf)
  refine w_ltT (ns := [p, q, u, y']) (ms := [a, b, x', z']) ?_
  have eo : ordBad (.tup [.int a, .int b, .int x', .int z']) (.tup [.int p, .int q, .int u, .int y']) = !HT.lexLt [p, q, u, y'] [a, b, x', z'] := leT_tie ⟨a, b, x', z'⟩ ⟨p, q, u, y'⟩
  have ti : tieBad ov ds i = if ordBad (.tup [.int a, .int b, .int x', .int z']) (.tup [.int p, .int q, .int u, .int y']) = true then some (.tup [.int (i : Nat), .str "order"]) else none := by
    unfold tieBad
    rw [gy, gw, if_neg (by rw [et]; exact Bool.noConfusion)]
    by_cases o : ordBad (.tup [.int a, .int b, .int x', .int z']) (.tup [.int p, .int q, .int u, .int y']) = true
    · rw [if_pos ⟨hi0, o⟩, if_pos o]
    · rw [if_neg (fun z => o z.2), if_neg o]
  rw [eo] at ti
  (conv => whnf)
  refine w_iteb (fun c5 => ?_) (fun c5 => ?_)
  · rw [if_pos c5] at ti
    have := k h (.refl _)
    rw [firstF_hit hi ok ti] at this
    (conv => whnf); (repeat (first | (refine w_need rfl ?_; (conv => whnf)) | (refine w_ix (by assumption) rfl ?_; (conv => whnf)) | (refine w_ix hupd_same rfl ?_; (conv => whnf)) | (refine w_setL (by assumption) rfl ?_; (conv => whnf)) | (refine w_setL hupd_same rfl ?_; (conv => whnf)) | (refine w_eqi ?_; (conv => whnf)) | (refine w_eqs ?_; (conv => whnf)) | (refine w_t (by first | rfl | decide | assumption) ?_; (conv => whnf)) | (refine w_f (by first | rfl | decide | assumption) ?_; (conv => whnf)) | (refine And.intro (by first | omega | rfl | decide | assumption | exact Nat.le_of_ble_eq_true rfl | exact mulR (by omega) (by omega) | exact mulL (by omega) (by omega) | exact mulM (by omega) (by omega) | exact divOk (by omega) (by omega) | exact Exists.intro _ (by assumption)) ?_; (conv => whnf))))
    exact this
  · rw [if_neg (by rw [c5]; exact Bool.false_ne_true)] at ti
    refine hnx _ _ ⟨rfl, fun j hj => ?_, _, _, rfl⟩
    by_cases e : j = i
    · rw [e]; exact ti
    · exact ok j (by omega)
end DL

set_option linter.all false
set_option maxRecDepth 100000
set_option maxHeartbeats 2000000
namespace DL
open PySem PySem.Spec PyProof.Rows L2
/-! the law's look at kitchens, whole -/
theorem tup_not {d : D} {n : Nat} : isTupB d n = false → ∀ ds, d = .tup ds → ds.length ≠ n := fun e ds q l => by
  subst q
  have : (ds.length == n) = false := e
  rw [l] at this; simp at this
theorem kitErrF_not {d : D} (c : isTupB d 6 = false) : kitErrF d = .tup [.non, .str "kitchen"] := by
  unfold kitErrF
  split
  · cases c
  · rfl
theorem isRoomB_not {d : D} (c : isTupB d 2 = false) : isRoomB d = false := by
  unfold isRoomB
  split
  · cases c
  · rfl
theorem dishesErrF_not {d : D} (c : ∀ n, isTupB d n = false) : dishesErrF d = .tup [.non, .str "dishes"] := by
  unfold dishesErrF
  split
  · rename_i ds
    have : (ds.length == ds.length) = false := c ds.length
    simp at this
  · rfl
theorem sp_law_kitchen_word {h : DH} {d : D} {Q : DK} (v : Vl h d) (k : ∀ h', Ext h h' → Q (kitErrF d) h') : m_law_kitchen_word [d] h Q := by
  apply m_law_kitchen_word_ap
  dsimp only [b_law_kitchen_word]
  refine w_cut (P := fun τ' h' => h = h' ∧ τ' = [some d, none, none, none, none, none, none, none, none, none] ∧ isTupB d 6 = true) (fun nx hnx => ?_) ?_
  · (conv => whnf)
    refine w_isTup v (fun ds e => ?_) (fun e => ?_)
    · subst e
      (conv => whnf)
      refine w_f rfl ?_
      (conv => whnf)
      refine w_need (v := .int ds.length) rfl ?_
      (conv => whnf)
      refine w_eqi ?_
      rw [if_pos rfl]
      refine w_iteb (fun c => ?_) (fun c => ?_)
      · have k := k h (.refl _)
        rw [kitErrF_not (by
          show (ds.length == 6) = false
          have : ¬ (ds.length : Int) = 6 := by simpa using c
          exact beq_eq_false_iff_ne.mpr (by omega))] at k
        (conv => whnf); (repeat (first | (refine w_need rfl ?_; (conv => whnf)) | (refine w_ix (by assumption) rfl ?_; (conv => whnf)) | (refine w_ix hupd_same rfl ?_; (conv => whnf)) | (refine w_setL (by assumption) rfl ?_; (conv => whnf)) | (refine w_setL hupd_same rfl ?_; (conv => whnf)) | (refine w_eqi ?_; (conv => whnf)) | (refine w_eqs ?_; (conv => whnf)) | (refine w_t (by first | rfl | decide | assumption) ?_; (conv => whnf)) | (refine w_f (by first | rfl | decide | assumption) ?_; (conv => whnf)) | (refine And.intro (by first | omega | rfl | decide | assumption | exact Nat.le_of_ble_eq_true rfl | exact mulR (by omega) (by omega) | exact mulL (by omega) (by omega) | exact mulM (by omega) (by omega) | exact divOk (by omega) (by omega) | exact Exists.intro _ (by assumption)) ?_; (conv => whnf))))
        exact k
      · refine hnx _ _ ⟨rfl, rfl, ?_⟩
        show (ds.length == 6) = true
        have : (ds.length : Int) = 6 := by simpa using c
        exact beq_iff_eq.mpr (by omega)
    · have k := k h (.refl _)
      rw [kitErrF_not (e 6)] at k
      (conv => whnf); (repeat (first | (refine w_need rfl ?_; (conv => whnf)) | (refine w_ix (by assumption) rfl ?_; (conv => whnf)) | (refine w_ix hupd_same rfl ?_; (conv => whnf)) | (refine w_setL (by assumption) rfl ?_; (conv => whnf)) | (refine w_setL hupd_same rfl ?_; (conv => whnf)) | (refine w_eqi ?_; (conv => whnf)) | (refine w_eqs ?_; (conv => whnf)) | (refine w_t (by first | rfl | decide | assumption) ?_; (conv => whnf)) | (refine w_f (by first | rfl | decide | assumption) ?_; (conv => whnf)) | (refine And.intro (by first | omega | rfl | decide | assumption | exact Nat.le_of_ble_eq_true rfl | exact mulR (by omega) (by omega) | exact mulL (by omega) (by omega) | exact mulM (by omega) (by omega) | exact divOk (by omega) (by omega) | exact Exists.intro _ (by assumption)) ?_; (conv => whnf))))
      exact k
  rintro τ' h' ⟨rfl, rfl, c⟩
  obtain ⟨ds, rfl, hl⟩ := isTupB_eq c
  obtain ⟨dials, slopes, room, ov, ties, dishes, rfl⟩ : ∃ a b x y z w, ds = [a, b, x, y, z, w] := by
    match ds, hl with
    | [a, b, x, y, z, w], _ => exact ⟨a, b, x, y, z, w, rfl⟩
  have vi := v.items
  have vrm := vi room (by simp)
  have vti := vi ties (by simp)
  have vdi := vi dishes (by simp)
  have vov := vi ov (by simp)
  unfold kitErrF at k
  dsimp only at k
  (conv => whnf); (repeat (first | (refine w_need rfl ?_; (conv => whnf)) | (refine w_ix (by assumption) rfl ?_; (conv => whnf)) | (refine w_ix hupd_same rfl ?_; (conv => whnf)) | (refine w_setL (by assumption) rfl ?_; (conv => whnf)) | (refine w_setL hupd_same rfl ?_; (conv => whnf)) | (refine w_eqi ?_; (conv => whnf)) | (refine w_eqs ?_; (conv => whnf)) | (refine w_t (by first | rfl | decide | assumption) ?_; (conv => whnf)) | (refine w_f (by first | rfl | decide | assumption) ?_; (conv => whnf)) | (refine And.intro (by first | omega | rfl | decide | assumption | exact Nat.le_of_ble_eq_true rfl | exact mulR (by omega) (by omega) | exact mulL (by omega) (by omega) | exact mulM (by omega) (by omega) | exact divOk (by omega) (by omega) | exact Exists.intro _ (by assumption)) ?_; (conv => whnf))))
  refine sp_law_is_whole (vi dials (by simp)) ?_
  (conv => whnf)
  refine w_iteb (fun c1 => ?_) (fun c1 => ?_)
  · have k := k h (.refl _)
    rw [if_pos (show isIntB dials 1 1000000000 = false from notT c1)] at k
    (conv => whnf); (repeat (first | (refine w_need rfl ?_; (conv => whnf)) | (refine w_ix (by assumption) rfl ?_; (conv => whnf)) | (refine w_ix hupd_same rfl ?_; (conv => whnf)) | (refine w_setL (by assumption) rfl ?_; (conv => whnf)) | (refine w_setL hupd_same rfl ?_; (conv => whnf)) | (refine w_eqi ?_; (conv => whnf)) | (refine w_eqs ?_; (conv => whnf)) | (refine w_t (by first | rfl | decide | assumption) ?_; (conv => whnf)) | (refine w_f (by first | rfl | decide | assumption) ?_; (conv => whnf)) | (refine And.intro (by first | omega | rfl | decide | assumption | exact Nat.le_of_ble_eq_true rfl | exact mulR (by omega) (by omega) | exact mulL (by omega) (by omega) | exact mulM (by omega) (by omega) | exact divOk (by omega) (by omega) | exact Exists.intro _ (by assumption)) ?_; (conv => whnf))))
    exact k
  rw [if_neg (by rw [show isIntB dials 1 1000000000 = true from notF c1]; exact Bool.noConfusion)] at k
  (conv => whnf); (repeat (first | (refine w_need rfl ?_; (conv => whnf)) | (refine w_ix (by assumption) rfl ?_; (conv => whnf)) | (refine w_ix hupd_same rfl ?_; (conv => whnf)) | (refine w_setL (by assumption) rfl ?_; (conv => whnf)) | (refine w_setL hupd_same rfl ?_; (conv => whnf)) | (refine w_eqi ?_; (conv => whnf)) | (refine w_eqs ?_; (conv => whnf)) | (refine w_t (by first | rfl | decide | assumption) ?_; (conv => whnf)) | (refine w_f (by first | rfl | decide | assumption) ?_; (conv => whnf)) | (refine And.intro (by first | omega | rfl | decide | assumption | exact Nat.le_of_ble_eq_true rfl | exact mulR (by omega) (by omega) | exact mulL (by omega) (by omega) | exact mulM (by omega) (by omega) | exact divOk (by omega) (by omega) | exact Exists.intro _ (by assumption)) ?_; (conv => whnf))))
  refine sp_law_is_pair (vi slopes (by simp)) ?_
  (conv => whnf)
  refine w_iteb (fun c2 => ?_) (fun c2 => ?_)
  · have k := k h (.refl _)
    rw [if_pos (show isPairB slopes 0 1000000000 = false from notT c2)] at k
    (conv => whnf); (repeat (first | (refine w_need rfl ?_; (conv => whnf)) | (refine w_ix (by assumption) rfl ?_; (conv => whnf)) | (refine w_ix hupd_same rfl ?_; (conv => whnf)) | (refine w_setL (by assumption) rfl ?_; (conv => whnf)) | (refine w_setL hupd_same rfl ?_; (conv => whnf)) | (refine w_eqi ?_; (conv => whnf)) | (refine w_eqs ?_; (conv => whnf)) | (refine w_t (by first | rfl | decide | assumption) ?_; (conv => whnf)) | (refine w_f (by first | rfl | decide | assumption) ?_; (conv => whnf)) | (refine And.intro (by first | omega | rfl | decide | assumption | exact Nat.le_of_ble_eq_true rfl | exact mulR (by omega) (by omega) | exact mulL (by omega) (by omega) | exact mulM (by omega) (by omega) | exact divOk (by omega) (by omega) | exact Exists.intro _ (by assumption)) ?_; (conv => whnf))))
    exact k
  rw [if_neg (by rw [show isPairB slopes 0 1000000000 = true from notF c2]; exact Bool.noConfusion)] at k
  dsimp only [dNext]
  refine w_cut (P := fun τ' h' => h = h' ∧ τ' = [some (.tup [dials, slopes, room, ov, ties, dishes]), none, some dials, some slopes, some room, some ov, some ties, some dishes, none, none] ∧ isTupB room 2 = true) (fun nx hnx => ?_) ?_
  · (conv => whnf)
    refine w_isTup vrm (fun ds e => ?_) (fun e => ?_)
    · subst e
      (conv => whnf)
      refine w_f rfl ?_
      (conv => whnf)
      refine w_need (v := .int ds.length) rfl ?_
      (conv => whnf)
      refine w_eqi ?_
      rw [if_pos rfl]
      refine w_iteb (fun c => ?_) (fun c => ?_)
      · have k := k h (.refl _)
        rw [isRoomB_not (by
          show (ds.length == 2) = false
          have : ¬ (ds.length : Int) = 2 := by simpa using c
          exact beq_eq_false_iff_ne.mpr (by omega)), if_pos rfl] at k
        (conv => whnf); (repeat (first | (refine w_need rfl ?_; (conv => whnf)) | (refine w_ix (by assumption) rfl ?_; (conv => whnf)) | (refine w_ix hupd_same rfl ?_; (conv => whnf)) | (refine w_setL (by assumption) rfl ?_; (conv => whnf)) | (refine w_setL hupd_same rfl ?_; (conv => whnf)) | (refine w_eqi ?_; (conv => whnf)) | (refine w_eqs ?_; (conv => whnf)) | (refine w_t (by first | rfl | decide | assumption) ?_; (conv => whnf)) | (refine w_f (by first | rfl | decide | assumption) ?_; (conv => whnf)) | (refine And.intro (by first | omega | rfl | decide | assumption | exact Nat.le_of_ble_eq_true rfl | exact mulR (by omega) (by omega) | exact mulL (by omega) (by omega) | exact mulM (by omega) (by omega) | exact divOk (by omega) (by omega) | exact Exists.intro _ (by assumption)) ?_; (conv => whnf))))
        exact k
      · refine hnx _ _ ⟨rfl, rfl, ?_⟩
        show (ds.length == 2) = true
        have : (ds.length : Int) = 2 := by simpa using c
        exact beq_iff_eq.mpr (by omega)
    · have k := k h (.refl _)
      rw [isRoomB_not (e 2), if_pos rfl] at k
      (conv => whnf); (repeat (first | (refine w_need rfl ?_; (conv => whnf)) | (refine w_ix (by assumption) rfl ?_; (conv => whnf)) | (refine w_ix hupd_same rfl ?_; (conv => whnf)) | (refine w_setL (by assumption) rfl ?_; (conv => whnf)) | (refine w_setL hupd_same rfl ?_; (conv => whnf)) | (refine w_eqi ?_; (conv => whnf)) | (refine w_eqs ?_; (conv => whnf)) | (refine w_t (by first | rfl | decide | assumption) ?_; (conv => whnf)) | (refine w_f (by first | rfl | decide | assumption) ?_; (conv => whnf)) | (refine And.intro (by first | omega | rfl | decide | assumption | exact Nat.le_of_ble_eq_true rfl | exact mulR (by omega) (by omega) | exact mulL (by omega) (by omega) | exact mulM (by omega) (by omega) | exact divOk (by omega) (by omega) | exact Exists.intro _ (by assumption)) ?_; (conv => whnf))))
      exact k
  rintro τ' h' ⟨rfl, rfl, cr⟩
  obtain ⟨rs, rfl, hl⟩ := isTupB_eq cr
  obtain ⟨r0, r1, rfl⟩ : ∃ x y, rs = [x, y] := by
    match rs, hl with
    | [x, y], _ => exact ⟨x, y, rfl⟩
  have er : isRoomB (.tup [r0, r1]) = (isIntB r0 0 1000000000000 && isIntB r1 1 1000000000) := rfl
  rw [er] at k
  (conv => whnf); (repeat (first | (refine w_need rfl ?_; (conv => whnf)) | (refine w_ix (by assumption) rfl ?_; (conv => whnf)) | (refine w_ix hupd_same rfl ?_; (conv => whnf)) | (refine w_setL (by assumption) rfl ?_; (conv => whnf)) | (refine w_setL hupd_same rfl ?_; (conv => whnf)) | (refine w_eqi ?_; (conv => whnf)) | (refine w_eqs ?_; (conv => whnf)) | (refine w_t (by first | rfl | decide | assumption) ?_; (conv => whnf)) | (refine w_f (by first | rfl | decide | assumption) ?_; (conv => whnf)) | (refine And.intro (by first | omega | rfl | decide | assumption | exact Nat.le_of_ble_eq_true rfl | exact mulR (by omega) (by omega) | exact mulL (by omega) (by omega) | exact mulM (by omega) (by omega) | exact divOk (by omega) (by omega) | exact Exists.intro _ (by assumption)) ?_; (conv => whnf))))
  refine sp_law_is_whole (vrm.items r0 (by simp)) ?_
  (conv => whnf)
  refine w_iteb (fun c3 => ?_) (fun c3 => ?_)
  · have k := k h (.refl _)
    rw [show isIntB r0 0 1000000000000 = false from notT c3, Bool.false_and, if_pos rfl] at k
    (conv => whnf); (repeat (first | (refine w_need rfl ?_; (conv => whnf)) | (refine w_ix (by assumption) rfl ?_; (conv => whnf)) | (refine w_ix hupd_same rfl ?_; (conv => whnf)) | (refine w_setL (by assumption) rfl ?_; (conv => whnf)) | (refine w_setL hupd_same rfl ?_; (conv => whnf)) | (refine w_eqi ?_; (conv => whnf)) | (refine w_eqs ?_; (conv => whnf)) | (refine w_t (by first | rfl | decide | assumption) ?_; (conv => whnf)) | (refine w_f (by first | rfl | decide | assumption) ?_; (conv => whnf)) | (refine And.intro (by first | omega | rfl | decide | assumption | exact Nat.le_of_ble_eq_true rfl | exact mulR (by omega) (by omega) | exact mulL (by omega) (by omega) | exact mulM (by omega) (by omega) | exact divOk (by omega) (by omega) | exact Exists.intro _ (by assumption)) ?_; (conv => whnf))))
    exact k
  rw [show isIntB r0 0 1000000000000 = true from notF c3, Bool.true_and] at k
  (conv => whnf); (repeat (first | (refine w_need rfl ?_; (conv => whnf)) | (refine w_ix (by assumption) rfl ?_; (conv => whnf)) | (refine w_ix hupd_same rfl ?_; (conv => whnf)) | (refine w_setL (by assumption) rfl ?_; (conv => whnf)) | (refine w_setL hupd_same rfl ?_; (conv => whnf)) | (refine w_eqi ?_; (conv => whnf)) | (refine w_eqs ?_; (conv => whnf)) | (refine w_t (by first | rfl | decide | assumption) ?_; (conv => whnf)) | (refine w_f (by first | rfl | decide | assumption) ?_; (conv => whnf)) | (refine And.intro (by first | omega | rfl | decide | assumption | exact Nat.le_of_ble_eq_true rfl | exact mulR (by omega) (by omega) | exact mulL (by omega) (by omega) | exact mulM (by omega) (by omega) | exact divOk (by omega) (by omega) | exact Exists.intro _ (by assumption)) ?_; (conv => whnf))))
  refine sp_law_is_whole (vrm.items r1 (by simp)) ?_
  (conv => whnf)
  refine w_iteb (fun c4 => ?_) (fun c4 => ?_)
  · have k := k h (.refl _)
    rw [show isIntB r1 1 1000000000 = false from notT c4, if_pos rfl] at k
    (conv => whnf); (repeat (first | (refine w_need rfl ?_; (conv => whnf)) | (refine w_ix (by assumption) rfl ?_; (conv => whnf)) | (refine w_ix hupd_same rfl ?_; (conv => whnf)) | (refine w_setL (by assumption) rfl ?_; (conv => whnf)) | (refine w_setL hupd_same rfl ?_; (conv => whnf)) | (refine w_eqi ?_; (conv => whnf)) | (refine w_eqs ?_; (conv => whnf)) | (refine w_t (by first | rfl | decide | assumption) ?_; (conv => whnf)) | (refine w_f (by first | rfl | decide | assumption) ?_; (conv => whnf)) | (refine And.intro (by first | omega | rfl | decide | assumption | exact Nat.le_of_ble_eq_true rfl | exact mulR (by omega) (by omega) | exact mulL (by omega) (by omega) | exact mulM (by omega) (by omega) | exact divOk (by omega) (by omega) | exact Exists.intro _ (by assumption)) ?_; (conv => whnf))))
    exact k
  rw [show isIntB r1 1 1000000000 = true from notF c4, if_neg Bool.noConfusion] at k
  (conv => whnf); (repeat (first | (refine w_need rfl ?_; (conv => whnf)) | (refine w_ix (by assumption) rfl ?_; (conv => whnf)) | (refine w_ix hupd_same rfl ?_; (conv => whnf)) | (refine w_setL (by assumption) rfl ?_; (conv => whnf)) | (refine w_setL hupd_same rfl ?_; (conv => whnf)) | (refine w_eqi ?_; (conv => whnf)) | (refine w_eqs ?_; (conv => whnf)) | (refine w_t (by first | rfl | decide | assumption) ?_; (conv => whnf)) | (refine w_f (by first | rfl | decide | assumption) ?_; (conv => whnf)) | (refine And.intro (by first | omega | rfl | decide | assumption | exact Nat.le_of_ble_eq_true rfl | exact mulR (by omega) (by omega) | exact mulL (by omega) (by omega) | exact mulM (by omega) (by omega) | exact divOk (by omega) (by omega) | exact Exists.intro _ (by assumption)) ?_; (conv => whnf))))
  refine sp_law_is_whole vov ?_
  (conv => whnf)
  refine w_iteb (fun c5 => ?_) (fun c5 => ?_)
  · have k := k h (.refl _)
    have c5 := notT c5
    (conv => whnf); (repeat (first | (refine w_need rfl ?_; (conv => whnf)) | (refine w_ix (by assumption) rfl ?_; (conv => whnf)) | (refine w_ix hupd_same rfl ?_; (conv => whnf)) | (refine w_setL (by assumption) rfl ?_; (conv => whnf)) | (refine w_setL hupd_same rfl ?_; (conv => whnf)) | (refine w_eqi ?_; (conv => whnf)) | (refine w_eqs ?_; (conv => whnf)) | (refine w_t (by first | rfl | decide | assumption) ?_; (conv => whnf)) | (refine w_f (by first | rfl | decide | assumption) ?_; (conv => whnf)) | (refine And.intro (by first | omega | rfl | decide | assumption | exact Nat.le_of_ble_eq_true rfl | exact mulR (by omega) (by omega) | exact mulL (by omega) (by omega) | exact mulM (by omega) (by omega) | exact divOk (by omega) (by omega) | exact Exists.intro _ (by assumption)) ?_; (conv => whnf))))
    cases ov with
    | int n =>
      dsimp only at k
      rw [if_pos c5] at k
      exact k
    | _ => exact k
  have c5 := notF c5
  obtain ⟨n, rfl, n1, n4⟩ := isIntB_eq c5
  dsimp only at k
  rw [if_neg (by rw [c5]; exact Bool.noConfusion)] at k
  (conv => whnf); (repeat (first | (refine w_need rfl ?_; (conv => whnf)) | (refine w_ix (by assumption) rfl ?_; (conv => whnf)) | (refine w_ix hupd_same rfl ?_; (conv => whnf)) | (refine w_setL (by assumption) rfl ?_; (conv => whnf)) | (refine w_setL hupd_same rfl ?_; (conv => whnf)) | (refine w_eqi ?_; (conv => whnf)) | (refine w_eqs ?_; (conv => whnf)) | (refine w_t (by first | rfl | decide | assumption) ?_; (conv => whnf)) | (refine w_f (by first | rfl | decide | assumption) ?_; (conv => whnf)) | (refine And.intro (by first | omega | rfl | decide | assumption | exact Nat.le_of_ble_eq_true rfl | exact mulR (by omega) (by omega) | exact mulL (by omega) (by omega) | exact mulM (by omega) (by omega) | exact divOk (by omega) (by omega) | exact Exists.intro _ (by assumption)) ?_; (conv => whnf))))
  refine sp_law_ties_word vti fun h2 x2 => ?_
  rcases tiesErrF_or n ties with e1 | ⟨es, e1⟩
  rotate_left
  · have k := k h2 x2
    rw [e1, if_pos (show isNon (.tup es) = false from rfl)] at k
    rw [e1]
    (conv => whnf); (repeat (first | (refine w_need rfl ?_; (conv => whnf)) | (refine w_ix (by assumption) rfl ?_; (conv => whnf)) | (refine w_ix hupd_same rfl ?_; (conv => whnf)) | (refine w_setL (by assumption) rfl ?_; (conv => whnf)) | (refine w_setL hupd_same rfl ?_; (conv => whnf)) | (refine w_eqi ?_; (conv => whnf)) | (refine w_eqs ?_; (conv => whnf)) | (refine w_t (by first | rfl | decide | assumption) ?_; (conv => whnf)) | (refine w_f (by first | rfl | decide | assumption) ?_; (conv => whnf)) | (refine And.intro (by first | omega | rfl | decide | assumption | exact Nat.le_of_ble_eq_true rfl | exact mulR (by omega) (by omega) | exact mulL (by omega) (by omega) | exact mulM (by omega) (by omega) | exact divOk (by omega) (by omega) | exact Exists.intro _ (by assumption)) ?_; (conv => whnf))))
    exact k
  rw [e1]
  rw [e1, if_neg (show ¬ isNon .non = false from Bool.noConfusion)] at k
  have bad : ∀ es h', Ext h h' → dishesErrF dishes = .tup es → Q (.tup es) h' := fun es h' x e => by
    have k := k h' x
    rw [e, if_pos (show isNon (.tup es) = false from rfl)] at k
    exact k
  (conv => whnf); (repeat (first | (refine w_need rfl ?_; (conv => whnf)) | (refine w_ix (by assumption) rfl ?_; (conv => whnf)) | (refine w_ix hupd_same rfl ?_; (conv => whnf)) | (refine w_setL (by assumption) rfl ?_; (conv => whnf)) | (refine w_setL hupd_same rfl ?_; (conv => whnf)) | (refine w_eqi ?_; (conv => whnf)) | (refine w_eqs ?_; (conv => whnf)) | (refine w_t (by first | rfl | decide | assumption) ?_; (conv => whnf)) | (refine w_f (by first | rfl | decide | assumption) ?_; (conv => whnf)) | (refine And.intro (by first | omega | rfl | decide | assumption | exact Nat.le_of_ble_eq_true rfl | exact mulR (by omega) (by omega) | exact mulL (by omega) (by omega) | exact mulM (by omega) (by omega) | exact divOk (by omega) (by omega) | exact Exists.intro _ (by assumption)) ?_; (conv => whnf))))
  refine w_isTup (vdi.ext x2) (fun ds e => ?_) (fun e => ?_)
  rotate_left
  · (conv => whnf); (repeat (first | (refine w_need rfl ?_; (conv => whnf)) | (refine w_ix (by assumption) rfl ?_; (conv => whnf)) | (refine w_ix hupd_same rfl ?_; (conv => whnf)) | (refine w_setL (by assumption) rfl ?_; (conv => whnf)) | (refine w_setL hupd_same rfl ?_; (conv => whnf)) | (refine w_eqi ?_; (conv => whnf)) | (refine w_eqs ?_; (conv => whnf)) | (refine w_t (by first | rfl | decide | assumption) ?_; (conv => whnf)) | (refine w_f (by first | rfl | decide | assumption) ?_; (conv => whnf)) | (refine And.intro (by first | omega | rfl | decide | assumption | exact Nat.le_of_ble_eq_true rfl | exact mulR (by omega) (by omega) | exact mulL (by omega) (by omega) | exact mulM (by omega) (by omega) | exact divOk (by omega) (by omega) | exact Exists.intro _ (by assumption)) ?_; (conv => whnf))))
    exact bad _ _ x2 (dishesErrF_not e)
  subst e
  have e6 : dishesErrF (.tup ds) = if 1 ≤ ds.length ∧ ds.length ≤ 6 then firstF (dishBad ds) ds.length else .tup [.non, .str "dishes"] := rfl
  (conv => whnf)
  refine w_f rfl ?_
  (conv => whnf)
  refine w_need (v := .int ds.length) rfl ?_
  (conv => whnf)
  refine w_ite (fun c => ?_) (fun c => ?_)
  rotate_left
  · (conv => whnf)
    refine w_t rfl ?_
    (conv => whnf); (repeat (first | (refine w_need rfl ?_; (conv => whnf)) | (refine w_ix (by assumption) rfl ?_; (conv => whnf)) | (refine w_ix hupd_same rfl ?_; (conv => whnf)) | (refine w_setL (by assumption) rfl ?_; (conv => whnf)) | (refine w_setL hupd_same rfl ?_; (conv => whnf)) | (refine w_eqi ?_; (conv => whnf)) | (refine w_eqs ?_; (conv => whnf)) | (refine w_t (by first | rfl | decide | assumption) ?_; (conv => whnf)) | (refine w_f (by first | rfl | decide | assumption) ?_; (conv => whnf)) | (refine And.intro (by first | omega | rfl | decide | assumption | exact Nat.le_of_ble_eq_true rfl | exact mulR (by omega) (by omega) | exact mulL (by omega) (by omega) | exact mulM (by omega) (by omega) | exact divOk (by omega) (by omega) | exact Exists.intro _ (by assumption)) ?_; (conv => whnf))))
    exact bad _ _ x2 (by rw [e6, if_neg (by omega)])
  (conv => whnf)
  refine w_iteb (fun c2 => ?_) (fun c2 => ?_)
  · have c2 := of_decide_eq_false (notT c2)
    (conv => whnf); (repeat (first | (refine w_need rfl ?_; (conv => whnf)) | (refine w_ix (by assumption) rfl ?_; (conv => whnf)) | (refine w_ix hupd_same rfl ?_; (conv => whnf)) | (refine w_setL (by assumption) rfl ?_; (conv => whnf)) | (refine w_setL hupd_same rfl ?_; (conv => whnf)) | (refine w_eqi ?_; (conv => whnf)) | (refine w_eqs ?_; (conv => whnf)) | (refine w_t (by first | rfl | decide | assumption) ?_; (conv => whnf)) | (refine w_f (by first | rfl | decide | assumption) ?_; (conv => whnf)) | (refine And.intro (by first | omega | rfl | decide | assumption | exact Nat.le_of_ble_eq_true rfl | exact mulR (by omega) (by omega) | exact mulL (by omega) (by omega) | exact mulM (by omega) (by omega) | exact divOk (by omega) (by omega) | exact Exists.intro _ (by assumption)) ?_; (conv => whnf))))
    exact bad _ _ x2 (by rw [e6, if_neg (by omega)])
  have c2 := of_decide_eq_true (notF c2)
  rw [if_pos (by omega)] at e6
  (conv => whnf)
  refine w_for ?_
  (conv => whnf)
  refine w_loop (I := fun i τ h' => h2 = h' ∧ (∀ j, j < i → dishBad ds j = none) ∧ ∃ a8 a9, τ = [some (.tup [dials, slopes, .tup [r0, r1], .int n, ties, .tup ds]), some .non, some dials, some slopes, some (.tup [r0, r1]), some (.int n), some ties, some (.tup ds), a8, a9]) ⟨rfl, fun j hj => absurd hj (Nat.not_lt_zero j), _, _, rfl⟩ (fun _ _ _ _ _ => trivial) ?_ ?_
  · rintro i d τ h1 nx ed ⟨rfl, ok, a8, a9, rfl⟩ hnx
    obtain ⟨y, ey, rfl⟩ := enumD_get ed
    have hi : i < ds.length := (List.getElem?_eq_some_iff.mp ey).1
    have gy : ds.getD i .non = y := by rw [List.getD_eq_getElem?_getD, ey]; rfl
    (conv => whnf); (repeat (first | (refine w_need rfl ?_; (conv => whnf)) | (refine w_ix (by assumption) rfl ?_; (conv => whnf)) | (refine w_ix hupd_same rfl ?_; (conv => whnf)) | (refine w_setL (by assumption) rfl ?_; (conv => whnf)) | (refine w_setL hupd_same rfl ?_; (conv => whnf)) | (refine w_eqi ?_; (conv => whnf)) | (refine w_eqs ?_; (conv => whnf)) | (refine w_t (by first | rfl | decide | assumption) ?_; (conv => whnf)) | (refine w_f (by first | rfl | decide | assumption) ?_; (conv => whnf)) | (refine And.intro (by first | omega | rfl | decide | assumption | exact Nat.le_of_ble_eq_true rfl | exact mulR (by omega) (by omega) | exact mulL (by omega) (by omega) | exact mulM (by omega) (by omega) | exact divOk (by omega) (by omega) | exact Exists.intro _ (by assumption)) ?_; (conv => whnf))))
    refine sp_law_is_pair ((vdi.items y (List.mem_of_getElem? ey)).ext x2) ?_
    (conv => whnf)
    refine w_iteb (fun c3 => ?_) (fun c3 => ?_)
    · have c3 : isPairB y 0 1000000000000000000000000 = false := notT c3
      have eb : dishBad ds i = some (.tup [.int (i : Nat), .str "dish"]) := by unfold dishBad; rw [gy, if_pos c3]
      (conv => whnf); (repeat (first | (refine w_need rfl ?_; (conv => whnf)) | (refine w_ix (by assumption) rfl ?_; (conv => whnf)) | (refine w_ix hupd_same rfl ?_; (conv => whnf)) | (refine w_setL (by assumption) rfl ?_; (conv => whnf)) | (refine w_setL hupd_same rfl ?_; (conv => whnf)) | (refine w_eqi ?_; (conv => whnf)) | (refine w_eqs ?_; (conv => whnf)) | (refine w_t (by first | rfl | decide | assumption) ?_; (conv => whnf)) | (refine w_f (by first | rfl | decide | assumption) ?_; (conv => whnf)) | (refine And.intro (by first | omega | rfl | decide | assumption | exact Nat.le_of_ble_eq_true rfl | exact mulR (by omega) (by omega) | exact mulL (by omega) (by omega) | exact mulM (by omega) (by omega) | exact divOk (by omega) (by omega) | exact Exists.intro _ (by assumption)) ?_; (conv => whnf))))
      exact bad _ _ x2 (by rw [e6, firstF_hit hi ok eb])
    · have c3 : isPairB y 0 1000000000000000000000000 = true := notF c3
      refine hnx _ _ ⟨rfl, fun j hj => ?_, _, _, rfl⟩
      by_cases e : j = i
      · rw [e]; unfold dishBad; rw [gy, if_neg (by rw [c3]; exact Bool.noConfusion)]
      · exact ok j (by omega)
  · rintro τ h1 ⟨rfl, ok, a8, a9, rfl⟩
    rw [enumD_length] at ok
    rw [firstF_none ok] at e6
    rw [e6, if_neg (show ¬ isNon .non = false from Bool.noConfusion)] at k
    obtain ⟨g1, g2, g3⟩ := ties_good e1
    have en : ((n.toNat : Nat) : Int) = n := Int.toNat_of_nonneg (by omega)
    (conv => whnf); (repeat (first | (refine w_need rfl ?_; (conv => whnf)) | (refine w_ix (by assumption) rfl ?_; (conv => whnf)) | (refine w_ix hupd_same rfl ?_; (conv => whnf)) | (refine w_setL (by assumption) rfl ?_; (conv => whnf)) | (refine w_setL hupd_same rfl ?_; (conv => whnf)) | (refine w_eqi ?_; (conv => whnf)) | (refine w_eqs ?_; (conv => whnf)) | (refine w_t (by first | rfl | decide | assumption) ?_; (conv => whnf)) | (refine w_f (by first | rfl | decide | assumption) ?_; (conv => whnf)) | (refine And.intro (by first | omega | rfl | decide | assumption | exact Nat.le_of_ble_eq_true rfl | exact mulR (by omega) (by omega) | exact mulL (by omega) (by omega) | exact mulM (by omega) (by omega) | exact divOk (by omega) (by omega) | exact Exists.intro _ (by assumption)) ?_; (conv => whnf))))
    refine sp_law_torn (n := n.toNat) en.symm (by omega) (.inl g1) (fun t ht => g2 t ht) fun h4 x4 => ?_
    rw [torn_ups]
    have k := k h4 (x2.trans x4)
    (conv => whnf)
    refine w_iteb (fun c5 => ?_) (fun c5 => ?_)
    · rw [if_pos c5] at k
      (conv => whnf); (repeat (first | (refine w_need rfl ?_; (conv => whnf)) | (refine w_ix (by assumption) rfl ?_; (conv => whnf)) | (refine w_ix hupd_same rfl ?_; (conv => whnf)) | (refine w_setL (by assumption) rfl ?_; (conv => whnf)) | (refine w_setL hupd_same rfl ?_; (conv => whnf)) | (refine w_eqi ?_; (conv => whnf)) | (refine w_eqs ?_; (conv => whnf)) | (refine w_t (by first | rfl | decide | assumption) ?_; (conv => whnf)) | (refine w_f (by first | rfl | decide | assumption) ?_; (conv => whnf)) | (refine And.intro (by first | omega | rfl | decide | assumption | exact Nat.le_of_ble_eq_true rfl | exact mulR (by omega) (by omega) | exact mulL (by omega) (by omega) | exact mulM (by omega) (by omega) | exact divOk (by omega) (by omega) | exact Exists.intro _ (by assumption)) ?_; (conv => whnf))))
      exact k
    · rw [if_neg (by rw [c5]; exact Bool.noConfusion)] at k
      (conv => whnf); (repeat (first | (refine w_need rfl ?_; (conv => whnf)) | (refine w_ix (by assumption) rfl ?_; (conv => whnf)) | (refine w_ix hupd_same rfl ?_; (conv => whnf)) | (refine w_setL (by assumption) rfl ?_; (conv => whnf)) | (refine w_setL hupd_same rfl ?_; (conv => whnf)) | (refine w_eqi ?_; (conv => whnf)) | (refine w_eqs ?_; (conv => whnf)) | (refine w_t (by first | rfl | decide | assumption) ?_; (conv => whnf)) | (refine w_f (by first | rfl | decide | assumption) ?_; (conv => whnf)) | (refine And.intro (by first | omega | rfl | decide | assumption | exact Nat.le_of_ble_eq_true rfl | exact mulR (by omega) (by omega) | exact mulL (by omega) (by omega) | exact mulM (by omega) (by omega) | exact divOk (by omega) (by omega) | exact Exists.intro _ (by assumption)) ?_; (conv => whnf))))
      exact k
end DL

set_option linter.all false
set_option maxRecDepth 100000
set_option maxHeartbeats 2000000
namespace DL
open PySem PySem.Spec PyProof.Rows L2
/-! values of any kind that can be shown, away from what is written -/
def offb (S : List Addr) (h : DH) : DH := fun a => if a ∈ S then none else h a
theorem offb_ne {S : List Addr} {a : Addr} {h : DH} (e : a ∉ S) : offb S h a = h a := by unfold offb; rw [if_neg e]
theorem offb_ext {S : List Addr} {h : DH} : Ext (offb S h) h := fun a o e => by
  unfold offb at e
  split at e
  · cases e
  · exact e
theorem off_by {S S' : List Addr} {h h' : DH} (k : ∀ a o, a ∉ S → h a = some o → a ∉ S' ∧ h' a = some o) : Ext (offb S h) (offb S' h') := fun a o e => by
  unfold offb at e
  split at e
  · cases e
  · rename_i ne
    obtain ⟨n, q⟩ := k a o ne e
    rw [offb_ne n]; exact q
theorem Ext.off {S : List Addr} {h h' : DH} (x : Ext h h') : Ext (offb S h) (offb S h') := off_by fun a o n e => ⟨n, x a o e⟩
theorem off_put {S : List Addr} {h : DH} {p : Addr} {o : DO} (m : p ∈ S) : Ext (offb S h) (offb S (hupd h p o)) := off_by fun a u n e => ⟨n, by rw [hupd_ne (fun z => n (by rw [z]; exact m))]; exact e⟩
theorem off_new {S : List Addr} {h : DH} {p : Addr} {o : DO} (hp : h p = none) : Ext (offb S h) (offb (p :: S) (hupd h p o)) := off_by fun a u n e => by
  have ne : a ≠ p := fun z => by rw [z, hp] at e; cases e
  exact ⟨fun z => (List.mem_cons.mp z).elim ne n, by rw [hupd_ne ne]; exact e⟩
/-- what is written stands: the bag among it -/
structure Hid (S : List Addr) (b : Addr) (h : DH) : Prop where
  mem : b ∈ S
  al : ∀ a ∈ S, h a ≠ none
  bag : Bag h b
theorem Hid.ext {S : List Addr} {b : Addr} {h h' : DH} (B : Hid S b h) (x : Ext h h') : Hid S b h' := ⟨B.mem, fun a ha => by
  cases e : h a with
  | none => exact absurd e (B.al a ha)
  | some o => rw [x a o e]; exact Option.some_ne_none _, B.bag.ext x⟩
theorem Hid.fr {S : List Addr} {b : Addr} {h h' : DH} (B : Hid S b h) (f : Fr b h h') : Hid S b h' := ⟨B.mem, fun a ha => by
  by_cases z : a = b
  · obtain ⟨_, _, _, q⟩ := f.bag
    rw [z, q]; exact Option.some_ne_none _
  · cases e : h a with
    | none => exact absurd e (B.al a ha)
    | some o => rw [f.1 a o z e]; exact Option.some_ne_none _, f.bag⟩
theorem Hid.ne {S : List Addr} {b p : Addr} {h : DH} (B : Hid S b h) (hp : h p = none) : p ∉ S := fun z => B.al p z hp
theorem Hid.put {S : List Addr} {b p : Addr} {h : DH} {o : DO} (B : Hid S b h) (hp : p ≠ b) : Hid S b (hupd h p o) := ⟨B.mem, fun a ha => by
  by_cases z : a = p
  · rw [z, hupd_same]; exact Option.some_ne_none _
  · rw [hupd_ne z]; exact B.al a ha, let ⟨g, s, n, e⟩ := B.bag; ⟨g, s, n, by rw [hupd_ne hp.symm]; exact e⟩⟩
theorem Hid.new {S : List Addr} {b p : Addr} {h : DH} {o : DO} (B : Hid S b h) (hp : h p = none) : Hid (p :: S) b (hupd h p o) := ⟨List.mem_cons_of_mem _ B.mem, fun a ha => by
  by_cases z : a = p
  · rw [z, hupd_same]; exact Option.some_ne_none _
  · rw [hupd_ne z]; exact B.al a ((List.mem_cons.mp ha).resolve_left z), B.bag.ext (ext_new hp)⟩
theorem Hid.one {b : Addr} {h : DH} (B : Bag h b) : Hid [b] b h := ⟨List.mem_singleton.mpr rfl, fun a ha => by
  obtain ⟨_, _, _, q⟩ := B
  rw [List.mem_singleton.mp ha, q]; exact Option.some_ne_none _, B⟩
theorem Fr.off {S : List Addr} {b : Addr} {h h' : DH} (f : Fr b h h') (m : b ∈ S) : Ext (offb S h) (offb S h') := off_by fun a o n e => ⟨n, f.1 a o (fun z => n (by rw [z]; exact m)) e⟩
theorem Ext.put {h h2 : DH} {p : Addr} {o : DO} (x : Ext h h2) (hp : h p = none) : Ext h (hupd h2 p o) := fun a u e => by
  have : a ≠ p := fun z => by rw [z, hp] at e; cases e
  rw [hupd_ne this]; exact x a u e
mutual
theorem PX.vl {h : DH} : ∀ {d : D} {p : PyData}, PX h d p → Vl h d
  | _, _, .non => .non
  | _, _, .bl b => .bl b
  | _, _, .int b => .int b
  | _, _, .str b => .str b
  | _, _, .tup q => .tup (PXs.vl q)
  | _, _, .lst e q => .lst e (PXs.vl q)
  | _, _, .dct e k q => .dct e fun p hp => PXs.vl q p.2 (List.mem_map_of_mem hp)
theorem PXs.vl {h : DH} : ∀ {d : List D} {p : List PyData}, PXs h d p → ∀ x ∈ d, Vl h x
  | _, _, .nil => fun _ hx => absurd hx List.not_mem_nil
  | _, _, .cons q r => List.forall_mem_cons.mpr ⟨PX.vl q, PXs.vl r⟩
end
def VX (S : List Addr) (h : DH) (d : D) (n m : Nat) : Prop := ∃ p, PX (offb S h) d p ∧ Rp p n m
theorem VX.fr {S : List Addr} {b : Addr} {h h' : DH} {d : D} {n m : Nat} (v : VX S h d n m) (f : Fr b h h') (k : b ∈ S) : VX S h' d n m := let ⟨p, q, r⟩ := v; ⟨p, q.ext (f.off k), r⟩
theorem VX.off {S S' : List Addr} {h h' : DH} {d : D} {n m : Nat} (v : VX S h d n m) (x : Ext (offb S h) (offb S' h')) : VX S' h' d n m := let ⟨p, q, r⟩ := v; ⟨p, q.ext x, r⟩
theorem VX.ext {S : List Addr} {h h' : DH} {d : D} {n m : Nat} (v : VX S h d n m) (x : Ext h h') : VX S h' d n m := let ⟨p, q, r⟩ := v; ⟨p, q.ext x.off, r⟩
theorem VX.vl {S : List Addr} {h : DH} {d : D} {n m : Nat} (v : VX S h d n m) : Vl h d := let ⟨_, q, _⟩ := v; (q.ext offb_ext).vl
theorem VX.px {S : List Addr} {h : DH} {d : D} {n m : Nat} (v : VX S h d n m) : ∃ p, PX h d p ∧ Rp p n m := let ⟨p, q, r⟩ := v; ⟨p, q.ext offb_ext, r⟩
theorem VX.mono {S : List Addr} {h : DH} {d : D} {n m n2 m2 : Nat} (v : VX S h d n m) (h1 : n ≤ n2) (h2 : m ≤ m2) : VX S h d n2 m2 := let ⟨p, q, r⟩ := v; ⟨p, q, r.mono h1 h2⟩
def VXs (S : List Addr) (h : DH) (ds : List D) (n m : Nat) : Prop := ∃ ps, PXs (offb S h) ds ps ∧ RpL ps n m
theorem VXs.n {S : List Addr} {h : DH} {n m : Nat} : VXs S h [] n m := ⟨[], .nil, .nil⟩
theorem VXs.c {S : List Addr} {h : DH} {d : D} {ds : List D} {n m m2 m3 : Nat} (v : VX S h d n m) (w : VXs S h ds n m2) (e : m + 1 + m2 ≤ m3 := by omega) : VXs S h (d :: ds) n m3 := let ⟨p, q, r⟩ := v; let ⟨ps, qs, rs⟩ := w; ⟨p :: ps, .cons q qs, .cons r rs e⟩
theorem VXs.all {S : List Addr} {h : DH} {n m : Nat} : ∀ {ds : List D}, (∀ d ∈ ds, VX S h d n m) → VXs S h ds n (ds.length * (m + 1))
  | [], _ => .n
  | d :: ds, v => .c (v d List.mem_cons_self) (VXs.all fun x hx => v x (List.mem_cons_of_mem _ hx)) (by rw [List.length_cons, Nat.succ_mul]; omega)
theorem VX.tup {S : List Addr} {h : DH} {ds : List D} {n m : Nat} (v : VXs S h ds n m) : VX S h (.tup ds) (n + 1) m := let ⟨ps, q, r⟩ := v; ⟨.tuple ps, .tup q, .tup r⟩
theorem VX.lst {S : List Addr} {a : Addr} {h : DH} {ds : List D} {n m : Nat} (e : h a = some (.lst ds)) (ne : a ∉ S) (v : VXs S h ds n m) : VX S h (.loc a) (n + 1) m := let ⟨ps, q, r⟩ := v; ⟨.list ps, .lst (by rw [offb_ne ne]; exact e) q, .list r⟩
theorem VX.non {S : List Addr} {h : DH} {n m : Nat} : VX S h .non n m := ⟨.none, .non, .non⟩
theorem VX.bl {S : List Addr} {h : DH} {x : Bool} {n m : Nat} : VX S h (.bl x) n m := ⟨.bool x, .bl x, .bl⟩
theorem VX.int {S : List Addr} {h : DH} {i : Int} {n m : Nat} (k : okI i) : VX S h (.int i) n m := ⟨.int i, .int i, .int k⟩
theorem VX.str {S : List Addr} {h : DH} {s : Str} {n m : Nat} (k : s.cps.size ≤ m) (hl : PyData.leavesShort 101 (.str s) = true := by rfl) : VX S h (.str s) n m := ⟨.str s, .str s, .str k hl⟩
theorem VX.dct0 {S : List Addr} {a : Addr} {h : DH} {n m : Nat} (e : h a = some (.dK [])) (ne : a ∉ S) : VX S h (.loc a) (n + 1) m :=
  ⟨.dict [], .dct (kvs := []) (by rw [offb_ne ne]; exact e) rfl .nil, ⟨by simp [PyData.showable, PyData.showableKv], by simp [PyData.depth, PyData.depthKv], by simp [PyData.leavesShort, PyData.leavesShortKv], by simp [PyData.bulk, PyData.bulkKv]⟩⟩
theorem okI_small {i : Int} (h : i.natAbs < 10 ^ 99) : okI i := Nat.lt_trans h (by decide)
end DL

set_option linter.all false
set_option maxRecDepth 100000
set_option maxHeartbeats 2000000
namespace DL
open PySem PySem.Spec PyProof.Rows L2
/-! odd values -/
theorem newAt2 {h h2 h' : DH} {p : Addr} {o : DO} (hh : hupd h2 p o = h') (hp : h p = none) (x : Ext h h2) : Ext h h' ∧ h' p = some o := by subst hh; exact ⟨x.put hp, hupd_same⟩
structure OddOk (S : List Addr) (h : DH) (y : D) : Prop where
  vx : VX S h y 3 6
  tup : ∀ xs, y = .tup xs → xs.length ≤ 2
theorem sp_odd {h : DH} {S : List Addr} {b : Addr} {Q : DK} (B : Hid S b h) (k : ∀ y h', Fr b h h' → OddOk S h' y → Q y h') : m_law_odd [.loc b] h Q := by
  apply m_law_odd_ap
  (conv => whnf); (repeat (first | (refine w_need rfl ?_; (conv => whnf)) | (refine w_ix (by assumption) rfl ?_; (conv => whnf)) | (refine w_ix hupd_same rfl ?_; (conv => whnf)) | (refine w_setL (by assumption) rfl ?_; (conv => whnf)) | (refine w_setL hupd_same rfl ?_; (conv => whnf)) | (refine w_eqi ?_; (conv => whnf)) | (refine w_eqs ?_; (conv => whnf)) | (refine w_t (by first | rfl | decide | assumption) ?_; (conv => whnf)) | (refine w_f (by first | rfl | decide | assumption) ?_; (conv => whnf)) | (refine And.intro (by first | omega | rfl | decide | assumption | exact Nat.le_of_ble_eq_true rfl | exact mulR (by omega) (by omega) | exact mulL (by omega) (by omega) | exact mulM (by omega) (by omega) | exact divOk (by omega) (by omega) | exact Exists.intro _ (by assumption)) ?_; (conv => whnf))))
  intro p1 hp1; generalize hh_h1 : hupd _ p1 _ = h1; obtain ⟨x1, e1⟩ := newAt hh_h1 hp1
  (conv => whnf); (repeat (first | (refine w_need rfl ?_; (conv => whnf)) | (refine w_ix (by assumption) rfl ?_; (conv => whnf)) | (refine w_ix hupd_same rfl ?_; (conv => whnf)) | (refine w_setL (by assumption) rfl ?_; (conv => whnf)) | (refine w_setL hupd_same rfl ?_; (conv => whnf)) | (refine w_eqi ?_; (conv => whnf)) | (refine w_eqs ?_; (conv => whnf)) | (refine w_t (by first | rfl | decide | assumption) ?_; (conv => whnf)) | (refine w_f (by first | rfl | decide | assumption) ?_; (conv => whnf)) | (refine And.intro (by first | omega | rfl | decide | assumption | exact Nat.le_of_ble_eq_true rfl | exact mulR (by omega) (by omega) | exact mulL (by omega) (by omega) | exact mulM (by omega) (by omega) | exact divOk (by omega) (by omega) | exact Exists.intro _ (by assumption)) ?_; (conv => whnf))))
  intro p2 hp2; generalize hh_h2 : hupd _ p2 _ = h2; obtain ⟨x2, e2⟩ := newAt hh_h2 hp2
  (conv => whnf); (repeat (first | (refine w_need rfl ?_; (conv => whnf)) | (refine w_ix (by assumption) rfl ?_; (conv => whnf)) | (refine w_ix hupd_same rfl ?_; (conv => whnf)) | (refine w_setL (by assumption) rfl ?_; (conv => whnf)) | (refine w_setL hupd_same rfl ?_; (conv => whnf)) | (refine w_eqi ?_; (conv => whnf)) | (refine w_eqs ?_; (conv => whnf)) | (refine w_t (by first | rfl | decide | assumption) ?_; (conv => whnf)) | (refine w_f (by first | rfl | decide | assumption) ?_; (conv => whnf)) | (refine And.intro (by first | omega | rfl | decide | assumption | exact Nat.le_of_ble_eq_true rfl | exact mulR (by omega) (by omega) | exact mulL (by omega) (by omega) | exact mulM (by omega) (by omega) | exact divOk (by omega) (by omega) | exact Exists.intro _ (by assumption)) ?_; (conv => whnf))))
  intro p3 hp3; generalize hh_h3 : hupd _ p3 _ = h3; obtain ⟨x3, e3⟩ := newAt hh_h3 hp3
  (conv => whnf); (repeat (first | (refine w_need rfl ?_; (conv => whnf)) | (refine w_ix (by assumption) rfl ?_; (conv => whnf)) | (refine w_ix hupd_same rfl ?_; (conv => whnf)) | (refine w_setL (by assumption) rfl ?_; (conv => whnf)) | (refine w_setL hupd_same rfl ?_; (conv => whnf)) | (refine w_eqi ?_; (conv => whnf)) | (refine w_eqs ?_; (conv => whnf)) | (refine w_t (by first | rfl | decide | assumption) ?_; (conv => whnf)) | (refine w_f (by first | rfl | decide | assumption) ?_; (conv => whnf)) | (refine And.intro (by first | omega | rfl | decide | assumption | exact Nat.le_of_ble_eq_true rfl | exact mulR (by omega) (by omega) | exact mulL (by omega) (by omega) | exact mulM (by omega) (by omega) | exact divOk (by omega) (by omega) | exact Exists.intro _ (by assumption)) ?_; (conv => whnf))))
  intro p4 hp4; generalize hh_h4 : hupd _ p4 _ = h4; obtain ⟨x4, e4⟩ := newAt hh_h4 hp4
  (conv => whnf); (repeat (first | (refine w_need rfl ?_; (conv => whnf)) | (refine w_ix (by assumption) rfl ?_; (conv => whnf)) | (refine w_ix hupd_same rfl ?_; (conv => whnf)) | (refine w_setL (by assumption) rfl ?_; (conv => whnf)) | (refine w_setL hupd_same rfl ?_; (conv => whnf)) | (refine w_eqi ?_; (conv => whnf)) | (refine w_eqs ?_; (conv => whnf)) | (refine w_t (by first | rfl | decide | assumption) ?_; (conv => whnf)) | (refine w_f (by first | rfl | decide | assumption) ?_; (conv => whnf)) | (refine And.intro (by first | omega | rfl | decide | assumption | exact Nat.le_of_ble_eq_true rfl | exact mulR (by omega) (by omega) | exact mulL (by omega) (by omega) | exact mulM (by omega) (by omega) | exact divOk (by omega) (by omega) | exact Exists.intro _ (by assumption)) ?_; (conv => whnf))))
  intro p5 hp5; generalize hh_h5 : hupd _ p5 _ = h5; obtain ⟨x5, e5⟩ := newAt hh_h5 hp5
  (conv => whnf); (repeat (first | (refine w_need rfl ?_; (conv => whnf)) | (refine w_ix (by assumption) rfl ?_; (conv => whnf)) | (refine w_ix hupd_same rfl ?_; (conv => whnf)) | (refine w_setL (by assumption) rfl ?_; (conv => whnf)) | (refine w_setL hupd_same rfl ?_; (conv => whnf)) | (refine w_eqi ?_; (conv => whnf)) | (refine w_eqs ?_; (conv => whnf)) | (refine w_t (by first | rfl | decide | assumption) ?_; (conv => whnf)) | (refine w_f (by first | rfl | decide | assumption) ?_; (conv => whnf)) | (refine And.intro (by first | omega | rfl | decide | assumption | exact Nat.le_of_ble_eq_true rfl | exact mulR (by omega) (by omega) | exact mulL (by omega) (by omega) | exact mulM (by omega) (by omega) | exact divOk (by omega) (by omega) | exact Exists.intro _ (by assumption)) ?_; (conv => whnf))))
  intro p6 hp6; generalize hh_h6 : hupd _ p6 _ = h6; obtain ⟨x6, e6⟩ := newAt hh_h6 hp6
  (conv => whnf); (repeat (first | (refine w_need rfl ?_; (conv => whnf)) | (refine w_ix (by assumption) rfl ?_; (conv => whnf)) | (refine w_ix hupd_same rfl ?_; (conv => whnf)) | (refine w_setL (by assumption) rfl ?_; (conv => whnf)) | (refine w_setL hupd_same rfl ?_; (conv => whnf)) | (refine w_eqi ?_; (conv => whnf)) | (refine w_eqs ?_; (conv => whnf)) | (refine w_t (by first | rfl | decide | assumption) ?_; (conv => whnf)) | (refine w_f (by first | rfl | decide | assumption) ?_; (conv => whnf)) | (refine And.intro (by first | omega | rfl | decide | assumption | exact Nat.le_of_ble_eq_true rfl | exact mulR (by omega) (by omega) | exact mulL (by omega) (by omega) | exact mulM (by omega) (by omega) | exact divOk (by omega) (by omega) | exact Exists.intro _ (by assumption)) ?_; (conv => whnf))))
  intro p7 hp7
  (conv => whnf); (repeat (first | (refine w_need rfl ?_; (conv => whnf)) | (refine w_ix (by assumption) rfl ?_; (conv => whnf)) | (refine w_ix hupd_same rfl ?_; (conv => whnf)) | (refine w_setL (by assumption) rfl ?_; (conv => whnf)) | (refine w_setL hupd_same rfl ?_; (conv => whnf)) | (refine w_eqi ?_; (conv => whnf)) | (refine w_eqs ?_; (conv => whnf)) | (refine w_t (by first | rfl | decide | assumption) ?_; (conv => whnf)) | (refine w_f (by first | rfl | decide | assumption) ?_; (conv => whnf)) | (refine And.intro (by first | omega | rfl | decide | assumption | exact Nat.le_of_ble_eq_true rfl | exact mulR (by omega) (by omega) | exact mulL (by omega) (by omega) | exact mulM (by omega) (by omega) | exact divOk (by omega) (by omega) | exact Exists.intro _ (by assumption)) ?_; (conv => whnf))))
  refine ⟨hupd_same, by decide, ?_⟩
  generalize hh7 : hupd (hupd h6 p7 _) p7 _ = h7
  obtain ⟨x7, e7⟩ := newAt2 hh7 hp7 (ext_new hp7)
  (conv => whnf); (repeat (first | (refine w_need rfl ?_; (conv => whnf)) | (refine w_ix (by assumption) rfl ?_; (conv => whnf)) | (refine w_ix hupd_same rfl ?_; (conv => whnf)) | (refine w_setL (by assumption) rfl ?_; (conv => whnf)) | (refine w_setL hupd_same rfl ?_; (conv => whnf)) | (refine w_eqi ?_; (conv => whnf)) | (refine w_eqs ?_; (conv => whnf)) | (refine w_t (by first | rfl | decide | assumption) ?_; (conv => whnf)) | (refine w_f (by first | rfl | decide | assumption) ?_; (conv => whnf)) | (refine And.intro (by first | omega | rfl | decide | assumption | exact Nat.le_of_ble_eq_true rfl | exact mulR (by omega) (by omega) | exact mulL (by omega) (by omega) | exact mulM (by omega) (by omega) | exact divOk (by omega) (by omega) | exact Exists.intro _ (by assumption)) ?_; (conv => whnf))))
  intro p8 hp8; generalize hh_h8 : hupd _ p8 _ = h8; obtain ⟨x8, e8⟩ := newAt hh_h8 hp8
  (conv => whnf)
  have x48 : Ext h4 h8 := x5.trans (x6.trans (x7.trans x8))
  refine ⟨_, _, x48 _ _ e4, e8, (show 30 ≤ sizeLine by decide), ?_⟩
  intro p9 hp9; generalize hh_h9 : hupd _ p9 _ = h9; obtain ⟨x9, e9⟩ := newAt hh_h9 hp9
  simp only [List.cons_append, List.nil_append] at e9
  have x09 : Ext h h9 := x1.trans (x2.trans (x3.trans (x4.trans (x48.trans x9))))
  have n1 := B.ne hp1
  have B1 := B.ext x1
  have n2 := B1.ne hp2
  have B2 := B1.ext x2
  have n3 := B2.ne hp3
  have B4 := (B2.ext x3).ext x4
  have n5 := B4.ne hp5
  have B5 := B4.ext x5
  have n6 := B5.ne hp6
  have B6 := B5.ext x6
  have n7 := B6.ne hp7
  have B8 := (B6.ext x7).ext x8
  have n9 := B8.bag.ne hp9
  have q1 : h9 p1 = _ := (x2.trans (x3.trans (x4.trans (x48.trans x9)))) _ _ e1
  have q2 : h9 p2 = _ := (x3.trans (x4.trans (x48.trans x9))) _ _ e2
  have q3 : h9 p3 = _ := (x4.trans (x48.trans x9)) _ _ e3
  have q5 : h9 p5 = _ := (x6.trans (x7.trans (x8.trans x9))) _ _ e5
  have q6 : h9 p6 = _ := (x7.trans (x8.trans x9)) _ _ e6
  have q7 : h9 p7 = _ := (x8.trans x9) _ _ e7
  (conv => whnf); (repeat (first | (refine w_need rfl ?_; (conv => whnf)) | (refine w_ix (by assumption) rfl ?_; (conv => whnf)) | (refine w_ix hupd_same rfl ?_; (conv => whnf)) | (refine w_setL (by assumption) rfl ?_; (conv => whnf)) | (refine w_setL hupd_same rfl ?_; (conv => whnf)) | (refine w_eqi ?_; (conv => whnf)) | (refine w_eqs ?_; (conv => whnf)) | (refine w_t (by first | rfl | decide | assumption) ?_; (conv => whnf)) | (refine w_f (by first | rfl | decide | assumption) ?_; (conv => whnf)) | (refine And.intro (by first | omega | rfl | decide | assumption | exact Nat.le_of_ble_eq_true rfl | exact mulR (by omega) (by omega) | exact mulL (by omega) (by omega) | exact mulM (by omega) (by omega) | exact divOk (by omega) (by omega) | exact Exists.intro _ (by assumption)) ?_; (conv => whnf))))
  refine sp_pick (B8.bag.ext x9) e9 n9 (show 0 < 30 by decide) (show 30 < 1000000 by decide) fun y h10 hy f => ?_
  refine k y h10 ((Fr.of_ext B.bag x09).trans f) ?_
  have small : ∀ i : Int, i.natAbs ≤ 10 ^ 40 → okI i := fun i hi => Nat.lt_of_le_of_lt hi (by decide)
  have vi : ∀ (i : Int) (n m : Nat), i.natAbs ≤ 10 ^ 40 → VX S h9 (.int i) n m := fun i n m hi => .int (small i hi)
  have v0 : VX S h9 (.int 0) 0 0 := vi _ _ _ (by decide)
  have v1 : VX S h9 (.int 1) 0 0 := vi _ _ _ (by decide)
  suffices VX S h9 y 3 6 ∧ ∀ xs, y = .tup xs → xs.length ≤ 2 from ⟨this.1.fr f B.mem, this.2⟩
  have ne : ∀ {d : D}, (∀ xs, d ≠ .tup xs) → ∀ xs, d = .tup xs → xs.length ≤ 2 := fun z xs e => absurd e (z xs)
  simp only [List.mem_cons, List.not_mem_nil, or_false] at hy
  rcases hy with rfl | rfl | rfl | rfl | rfl | rfl | rfl | rfl | rfl | rfl | rfl | rfl | rfl | rfl | rfl | rfl | rfl | rfl | rfl | rfl | rfl | rfl | rfl | rfl | rfl | rfl | rfl | rfl | rfl | rfl
  case _ => exact ⟨.non, fun xs e => by cases e⟩
  case _ => exact ⟨.bl, fun xs e => by cases e⟩
  case _ => exact ⟨.bl, fun xs e => by cases e⟩
  case _ => exact ⟨vi _ _ _ (by decide), fun xs e => by cases e⟩
  case _ => exact ⟨vi _ _ _ (by decide), fun xs e => by cases e⟩
  case _ => exact ⟨vi _ _ _ (by decide), fun xs e => by cases e⟩
  case _ => exact ⟨vi _ _ _ (by decide), fun xs e => by cases e⟩
  case _ => exact ⟨vi _ _ _ (by decide), fun xs e => by cases e⟩
  case _ => exact ⟨vi _ _ _ (by decide), fun xs e => by cases e⟩
  case _ => exact ⟨.str (by decide), fun xs e => by cases e⟩
  case _ => exact ⟨.str (by decide), fun xs e => by cases e⟩
  case _ => exact ⟨.str (by decide), fun xs e => by cases e⟩
  case _ => exact ⟨.str (by decide), fun xs e => by cases e⟩
  case _ => exact ⟨.tup .n, fun xs e => by cases e; decide⟩
  case _ => exact ⟨.lst q1 n1 .n, fun xs e => by cases e⟩
  case _ => exact ⟨.tup (.c (vi _ _ 0 (by decide)) .n (m2 := 0)), fun xs e => by cases e; decide⟩
  case _ => exact ⟨.tup (.c (vi _ _ 0 (by decide)) (.c (vi _ _ 0 (by decide)) .n (m2 := 0) (m3 := 1))), fun xs e => by cases e; decide⟩
  case _ => exact ⟨.lst q2 n2 (.c (vi _ _ 0 (by decide)) .n (m2 := 0)), fun xs e => by cases e⟩
  case _ => exact ⟨.tup (.c (vi _ _ 0 (by decide)) (.c (m := 0) .bl .n (m2 := 0) (m3 := 1))), fun xs e => by cases e; decide⟩
  case _ => exact ⟨.dct0 q3 n3, fun xs e => by cases e⟩
  case _ => exact ⟨.tup (.c (m := 0) (.lst q5 n5 .n) .n (m2 := 0)), fun xs e => by cases e; exact (show 1 ≤ 2 by decide)⟩
  case _ => exact ⟨.tup (.c (m := 0) .non .n (m2 := 0)), fun xs e => by cases e; decide⟩
  case _ => exact ⟨.tup (.c (m := 4) (.str (by decide)) .n (m2 := 0)), fun xs e => by cases e; decide⟩
  case _ => exact ⟨.tup (.c (m := 4) (.tup (.c (vi _ _ 0 (by decide)) (.c (vi _ _ 0 (by decide)) .n (m2 := 0) (m3 := 1)))) .n (m2 := 0)), fun xs e => by cases e; decide⟩
  case _ => exact ⟨.tup (.c (vi _ _ 0 (by decide)) (.c (vi _ _ 0 (by decide)) .n (m2 := 0) (m3 := 1))), fun xs e => by cases e; decide⟩
  case _ => exact ⟨.tup (.c (m := 0) (.dct0 q6 n6) .n (m2 := 0)), fun xs e => by cases e; exact (show 1 ≤ 2 by decide)⟩
  case _ =>
    refine ⟨⟨.dict [(.str "0", .int 1)], .dct (by rw [offb_ne n7]; exact q7) rfl (.cons (.int 1) .nil), ?_⟩, fun xs e => by cases e⟩
    exact ⟨by decide +kernel, by decide +kernel, by decide +kernel, by decide +kernel⟩
  case _ => exact ⟨.tup (.c (vi _ _ 0 (by decide)) (.c (vi _ _ 0 (by decide)) .n (m2 := 0) (m3 := 1))), fun xs e => by cases e; decide⟩
  case _ => exact ⟨.tup (.c (vi _ _ 0 (by decide)) (.c (vi _ _ 0 (by decide)) .n (m2 := 0) (m3 := 1))), fun xs e => by cases e; decide⟩
  case _ => exact ⟨vi _ _ _ (by decide), fun xs e => by cases e⟩
end DL

set_option linter.all false
set_option maxRecDepth 100000
set_option maxHeartbeats 2000000
namespace DL
open PySem PySem.Spec PyProof.Rows L2
/-! small facts for things bent -/
theorem put_at {h h' : DH} {p pd : Addr} {o u : DO} (hh : hupd h pd o = h') (ne : p ≠ pd) (e : h p = some u) : h' p = some u := by subst hh; rw [hupd_ne ne]; exact e
theorem new_ne {h : DH} {p q : Addr} {u : DO} (hp : h p = none) (e : h q = some u) : p ≠ q := fun z => by rw [z, e] at hp; cases hp
theorem OddOk.fr {S : List Addr} {b : Addr} {h h' : DH} {y : D} (o : OddOk S h y) (f : Fr b h h') (k : b ∈ S) : OddOk S h' y := ⟨o.vx.fr f k, o.tup⟩
theorem mem_cutD {x : D} {xs : List D} {lo hi : Option Int} (h : x ∈ cutD xs lo hi) : x ∈ xs := by
  unfold cutD at h
  exact List.mem_of_mem_drop (List.mem_of_mem_take h)
theorem cutD_len (xs : List D) (lo hi : Option Int) : (cutD xs lo hi).length ≤ xs.length := by
  unfold cutD
  rw [List.length_take, List.length_drop]; omega
theorem cut_at {xs : List D} {i : Nat} (h : i < xs.length) : (cutD xs none (some (i : Int))).length = i ∧ (cutD xs (some ((i : Int) + 1)) none).length + (i + 1) = xs.length := by
  have e : ((i : Int) + 1) = ((i + 1 : Nat) : Int) := by omega
  rw [e, cutD_take, cutD_drop, List.length_take, List.length_drop]
  omega
theorem av_nil {P : D → Prop} : ∀ x ∈ ([] : List D), P x := fun x hx => absurd hx List.not_mem_nil
theorem av_cons {P : D → Prop} {y : D} {l : List D} (a : P y) (r : ∀ x ∈ l, P x) : ∀ x ∈ y :: l, P x := List.forall_mem_cons.mpr ⟨a, r⟩
theorem av_app {P : D → Prop} {l m : List D} (a : ∀ x ∈ l, P x) (r : ∀ x ∈ m, P x) : ∀ x ∈ l ++ m, P x := List.forall_mem_append.mpr ⟨a, r⟩
theorem iv {S : List Addr} {h : DH} {n m : Nat} (i : Int) (k : i.natAbs ≤ 10 ^ 40) : VX S h (.int i) n m := .int (Nat.lt_of_le_of_lt k (by decide))
end DL

set_option linter.all false
set_option maxRecDepth 100000
set_option maxHeartbeats 2000000
namespace DL
open PySem PySem.Spec PyProof.Rows L2
/-! ties and dishes bent -/
theorem tp {S : List Addr} {h : DH} {xs : List D} (a : ∀ x ∈ xs, VX S h x 1 3) (l : xs.length ≤ 5) : VX S h (.tup xs) 2 20 :=
  (VX.tup (.all a)).mono (by decide) (by have : xs.length * (3 + 1) ≤ 5 * 4 := Nat.mul_le_mul_right _ l; omega)
theorem sp_bent_tie {h : DH} {S : List Addr} {b : Addr} {one other lo hi : Int} {ov : Int} {Q : DK} (B : Hid S b h) (a0 : 0 ≤ one) (a1 : one < 4) (b0 : 0 ≤ other) (b1 : other < 4) (o0 : 0 ≤ ov) (o1 : ov ≤ 4) (l0 : -(10 ^ 13) ≤ lo) (l1 : lo ≤ 10 ^ 13) (h0 : -(10 ^ 13) ≤ hi) (h1 : hi ≤ 10 ^ 13)
    (k : ∀ y h', Fr b h h' → VX S h' y 2 20 → Q y h') : m_law_bent_tie [.loc b, .tup [.int one, .int other, .int lo, .int hi], .int ov] h Q := by
  apply m_law_bent_tie_ap
  dsimp only [b_law_bent_tie]
  (conv => whnf); (repeat (first | (refine w_need rfl ?_; (conv => whnf)) | (refine w_ix (by assumption) rfl ?_; (conv => whnf)) | (refine w_ix hupd_same rfl ?_; (conv => whnf)) | (refine w_setL (by assumption) rfl ?_; (conv => whnf)) | (refine w_setL hupd_same rfl ?_; (conv => whnf)) | (refine w_eqi ?_; (conv => whnf)) | (refine w_eqs ?_; (conv => whnf)) | (refine w_t (by first | rfl | decide | assumption) ?_; (conv => whnf)) | (refine w_f (by first | rfl | decide | assumption) ?_; (conv => whnf)) | (refine And.intro (by first | omega | rfl | decide | assumption | exact Nat.le_of_ble_eq_true rfl | exact mulR (by omega) (by omega) | exact mulL (by omega) (by omega) | exact mulM (by omega) (by omega) | exact divOk (by omega) (by omega) | exact Exists.intro _ (by assumption)) ?_; (conv => whnf))))
  intro p1 hp1; generalize hh_g1 : hupd _ p1 _ = g1; obtain ⟨x1, e1⟩ := newAt hh_g1 hp1
  (conv => whnf); (repeat (first | (refine w_need rfl ?_; (conv => whnf)) | (refine w_ix (by assumption) rfl ?_; (conv => whnf)) | (refine w_ix hupd_same rfl ?_; (conv => whnf)) | (refine w_setL (by assumption) rfl ?_; (conv => whnf)) | (refine w_setL hupd_same rfl ?_; (conv => whnf)) | (refine w_eqi ?_; (conv => whnf)) | (refine w_eqs ?_; (conv => whnf)) | (refine w_t (by first | rfl | decide | assumption) ?_; (conv => whnf)) | (refine w_f (by first | rfl | decide | assumption) ?_; (conv => whnf)) | (refine And.intro (by first | omega | rfl | decide | assumption | exact Nat.le_of_ble_eq_true rfl | exact mulR (by omega) (by omega) | exact mulL (by omega) (by omega) | exact mulM (by omega) (by omega) | exact divOk (by omega) (by omega) | exact Exists.intro _ (by assumption)) ?_; (conv => whnf))))
  intro q2 hq2; generalize hh_g2 : hupd _ q2 _ = g2; obtain ⟨x2, f2⟩ := newAt hh_g2 hq2
  (conv => whnf); (repeat (first | (refine w_need rfl ?_; (conv => whnf)) | (refine w_ix (by assumption) rfl ?_; (conv => whnf)) | (refine w_ix hupd_same rfl ?_; (conv => whnf)) | (refine w_setL (by assumption) rfl ?_; (conv => whnf)) | (refine w_setL hupd_same rfl ?_; (conv => whnf)) | (refine w_eqi ?_; (conv => whnf)) | (refine w_eqs ?_; (conv => whnf)) | (refine w_t (by first | rfl | decide | assumption) ?_; (conv => whnf)) | (refine w_f (by first | rfl | decide | assumption) ?_; (conv => whnf)) | (refine And.intro (by first | omega | rfl | decide | assumption | exact Nat.le_of_ble_eq_true rfl | exact mulR (by omega) (by omega) | exact mulL (by omega) (by omega) | exact mulM (by omega) (by omega) | exact divOk (by omega) (by omega) | exact Exists.intro _ (by assumption)) ?_; (conv => whnf))))
  intro p3 hp3; generalize hh_g3 : hupd _ p3 _ = g3; obtain ⟨x3, e3⟩ := newAt hh_g3 hp3
  (conv => whnf)
  refine ⟨_, _, (x2.trans x3) _ _ e1, e3, Nat.le_of_lt (small2 (show 4 + 5 ≤ 1000000 by decide)), ?_⟩
  intro p4 hp4; generalize hh_g4 : hupd _ p4 _ = g4; obtain ⟨x4, e4⟩ := newAt hh_g4 hp4
  (conv => whnf); (repeat (first | (refine w_need rfl ?_; (conv => whnf)) | (refine w_ix (by assumption) rfl ?_; (conv => whnf)) | (refine w_ix hupd_same rfl ?_; (conv => whnf)) | (refine w_setL (by assumption) rfl ?_; (conv => whnf)) | (refine w_setL hupd_same rfl ?_; (conv => whnf)) | (refine w_eqi ?_; (conv => whnf)) | (refine w_eqs ?_; (conv => whnf)) | (refine w_t (by first | rfl | decide | assumption) ?_; (conv => whnf)) | (refine w_f (by first | rfl | decide | assumption) ?_; (conv => whnf)) | (refine And.intro (by first | omega | rfl | decide | assumption | exact Nat.le_of_ble_eq_true rfl | exact mulR (by omega) (by omega) | exact mulL (by omega) (by omega) | exact mulM (by omega) (by omega) | exact divOk (by omega) (by omega) | exact Exists.intro _ (by assumption)) ?_; (conv => whnf))))
  intro p5 hp5; generalize hh_g5 : hupd _ p5 _ = g5; obtain ⟨x5, e5⟩ := newAt hh_g5 hp5
  (conv => whnf)
  refine ⟨_, _, x5 _ _ e4, e5, Nat.le_of_lt (small2 (show 9 + 3 ≤ 1000000 by decide)), ?_⟩
  intro p6 hp6; generalize hh_g6 : hupd _ p6 _ = g6; obtain ⟨x6, e6⟩ := newAt hh_g6 hp6
  (conv => whnf); (repeat (first | (refine w_need rfl ?_; (conv => whnf)) | (refine w_ix (by assumption) rfl ?_; (conv => whnf)) | (refine w_ix hupd_same rfl ?_; (conv => whnf)) | (refine w_setL (by assumption) rfl ?_; (conv => whnf)) | (refine w_setL hupd_same rfl ?_; (conv => whnf)) | (refine w_eqi ?_; (conv => whnf)) | (refine w_eqs ?_; (conv => whnf)) | (refine w_t (by first | rfl | decide | assumption) ?_; (conv => whnf)) | (refine w_f (by first | rfl | decide | assumption) ?_; (conv => whnf)) | (refine And.intro (by first | omega | rfl | decide | assumption | exact Nat.le_of_ble_eq_true rfl | exact mulR (by omega) (by omega) | exact mulL (by omega) (by omega) | exact mulM (by omega) (by omega) | exact divOk (by omega) (by omega) | exact Exists.intro _ (by assumption)) ?_; (conv => whnf))))
  intro p7 hp7; generalize hh_g7 : hupd _ p7 _ = g7; obtain ⟨x7, e7⟩ := newAt hh_g7 hp7
  (conv => whnf)
  refine ⟨_, _, x7 _ _ e6, e7, Nat.le_of_lt (small2 (show 12 + 5 ≤ 1000000 by decide)), ?_⟩
  intro p8 hp8; generalize hh_g8 : hupd _ p8 _ = g8; obtain ⟨x8, e8⟩ := newAt hh_g8 hp8
  (conv => whnf); (repeat (first | (refine w_need rfl ?_; (conv => whnf)) | (refine w_ix (by assumption) rfl ?_; (conv => whnf)) | (refine w_ix hupd_same rfl ?_; (conv => whnf)) | (refine w_setL (by assumption) rfl ?_; (conv => whnf)) | (refine w_setL hupd_same rfl ?_; (conv => whnf)) | (refine w_eqi ?_; (conv => whnf)) | (refine w_eqs ?_; (conv => whnf)) | (refine w_t (by first | rfl | decide | assumption) ?_; (conv => whnf)) | (refine w_f (by first | rfl | decide | assumption) ?_; (conv => whnf)) | (refine And.intro (by first | omega | rfl | decide | assumption | exact Nat.le_of_ble_eq_true rfl | exact mulR (by omega) (by omega) | exact mulL (by omega) (by omega) | exact mulM (by omega) (by omega) | exact divOk (by omega) (by omega) | exact Exists.intro _ (by assumption)) ?_; (conv => whnf))))
  intro q9 hq9; generalize hh_g9 : hupd _ q9 _ = g9; obtain ⟨x9, f9⟩ := newAt hh_g9 hq9
  (conv => whnf); (repeat (first | (refine w_need rfl ?_; (conv => whnf)) | (refine w_ix (by assumption) rfl ?_; (conv => whnf)) | (refine w_ix hupd_same rfl ?_; (conv => whnf)) | (refine w_setL (by assumption) rfl ?_; (conv => whnf)) | (refine w_setL hupd_same rfl ?_; (conv => whnf)) | (refine w_eqi ?_; (conv => whnf)) | (refine w_eqs ?_; (conv => whnf)) | (refine w_t (by first | rfl | decide | assumption) ?_; (conv => whnf)) | (refine w_f (by first | rfl | decide | assumption) ?_; (conv => whnf)) | (refine And.intro (by first | omega | rfl | decide | assumption | exact Nat.le_of_ble_eq_true rfl | exact mulR (by omega) (by omega) | exact mulL (by omega) (by omega) | exact mulM (by omega) (by omega) | exact divOk (by omega) (by omega) | exact Exists.intro _ (by assumption)) ?_; (conv => whnf))))
  intro p10 hp10; generalize hh_g10 : hupd _ p10 _ = g10; obtain ⟨x10, e10⟩ := newAt hh_g10 hp10
  (conv => whnf)
  refine ⟨_, _, (x9.trans x10) _ _ e8, e10, Nat.le_of_lt (small2 (show 17 + 4 ≤ 1000000 by decide)), ?_⟩
  intro p11 hp11; generalize hh_g11 : hupd _ p11 _ = g11; obtain ⟨x11, e11⟩ := newAt hh_g11 hp11
  (conv => whnf); (repeat (first | (refine w_need rfl ?_; (conv => whnf)) | (refine w_ix (by assumption) rfl ?_; (conv => whnf)) | (refine w_ix hupd_same rfl ?_; (conv => whnf)) | (refine w_setL (by assumption) rfl ?_; (conv => whnf)) | (refine w_setL hupd_same rfl ?_; (conv => whnf)) | (refine w_eqi ?_; (conv => whnf)) | (refine w_eqs ?_; (conv => whnf)) | (refine w_t (by first | rfl | decide | assumption) ?_; (conv => whnf)) | (refine w_f (by first | rfl | decide | assumption) ?_; (conv => whnf)) | (refine And.intro (by first | omega | rfl | decide | assumption | exact Nat.le_of_ble_eq_true rfl | exact mulR (by omega) (by omega) | exact mulL (by omega) (by omega) | exact mulM (by omega) (by omega) | exact divOk (by omega) (by omega) | exact Exists.intro _ (by assumption)) ?_; (conv => whnf))))
  intro p12 hp12; generalize hh_g12 : hupd _ p12 _ = g12; obtain ⟨x12, e12⟩ := newAt hh_g12 hp12
  (conv => whnf)
  refine ⟨_, _, x12 _ _ e11, e12, Nat.le_of_lt (small2 (show 21 + 3 ≤ 1000000 by decide)), ?_⟩
  intro p13 hp13; generalize hh_g13 : hupd _ p13 _ = g13; obtain ⟨x13, e13⟩ := newAt hh_g13 hp13
  have x9d := x10.trans (x11.trans (x12.trans x13))
  have x2d := x3.trans (x4.trans (x5.trans (x6.trans (x7.trans (x8.trans (x9.trans x9d))))))
  have x1d := x1.trans (x2.trans x2d)
  have n2 := (B.ext x1).ne hq2
  have n9 := (B.ext (x1.trans (x2.trans (x3.trans (x4.trans (x5.trans (x6.trans (x7.trans x8)))))))).ne hq9
  have n13 := ((B.ext (x1.trans (x2.trans (x3.trans (x4.trans (x5.trans (x6.trans (x7.trans (x8.trans (x9.trans (x10.trans (x11.trans x12))))))))))))).bag.ne hp13
  have f2d := x2d _ _ f2
  have f9d := x9d _ _ f9
  clear e1 e3 e4 e5 e6 e7 e8 e10 e11 e12
  simp only [List.cons_append, List.nil_append, show (10 : Int) ^ Int.toNat 12 = 1000000000000 from by decide] at e13
  (conv => whnf); (repeat (first | (refine w_need rfl ?_; (conv => whnf)) | (refine w_ix (by assumption) rfl ?_; (conv => whnf)) | (refine w_ix hupd_same rfl ?_; (conv => whnf)) | (refine w_setL (by assumption) rfl ?_; (conv => whnf)) | (refine w_setL hupd_same rfl ?_; (conv => whnf)) | (refine w_eqi ?_; (conv => whnf)) | (refine w_eqs ?_; (conv => whnf)) | (refine w_t (by first | rfl | decide | assumption) ?_; (conv => whnf)) | (refine w_f (by first | rfl | decide | assumption) ?_; (conv => whnf)) | (refine And.intro (by first | omega | rfl | decide | assumption | exact Nat.le_of_ble_eq_true rfl | exact mulR (by omega) (by omega) | exact mulL (by omega) (by omega) | exact mulM (by omega) (by omega) | exact divOk (by omega) (by omega) | exact Exists.intro _ (by assumption)) ?_; (conv => whnf))))
  refine sp_pick (B.bag.ext x1d) e13 n13 (show 0 < 24 by decide) (show 24 < 1000000 by decide) fun y h' hy f => ?_
  refine k y h' ((Fr.of_ext B.bag x1d).trans f) ?_
  suffices VX S g13 y 2 20 from this.fr f B.mem
  have v9 : VX S g13 (.loc q9) 1 3 := VX.mono (.lst (n := 0) (m := 1) f9d n9 (.c (m := 0) (m2 := 0) (iv _ (by omega)) .n)) (by decide) (by decide)
  have v2 : VX S g13 (.loc q2) 2 20 := VX.mono (.lst (n := 0) (m := 4) f2d n2 (.all (m := 0) (by (repeat' (first | exact av_nil | refine av_cons ?_ ?_)); all_goals exact iv _ (by omega)))) (by decide) (by decide)
  refine (?_ : ∀ x ∈ _, VX S g13 x 2 20) y hy
  ((repeat' (first | exact av_nil | refine av_cons ?_ ?_)); all_goals (first | (refine tp ?_ (Nat.le_of_ble_eq_true rfl); (repeat' (first | exact av_nil | refine av_cons ?_ ?_)); all_goals (first | exact iv _ (by omega) | exact .bl | exact .non | exact .str (by decide) | assumption)) | (first | exact iv _ (by omega) | exact .bl | exact .non | exact .str (by decide) | assumption)))
theorem sp_bent_dish {h : DH} {S : List Addr} {b : Addr} {lo hi : Int} {Q : DK} (B : Hid S b h) (l0 : 0 ≤ lo) (l1 : lo ≤ 10 ^ 25) (h0 : 0 ≤ hi) (h1 : hi ≤ 10 ^ 25)
    (k : ∀ y h', Fr b h h' → VX S h' y 2 20 → Q y h') : m_law_bent_dish [.loc b, .tup [.int lo, .int hi]] h Q := by
  apply m_law_bent_dish_ap
  dsimp only [b_law_bent_dish]
  (conv => whnf); (repeat (first | (refine w_need rfl ?_; (conv => whnf)) | (refine w_ix (by assumption) rfl ?_; (conv => whnf)) | (refine w_ix hupd_same rfl ?_; (conv => whnf)) | (refine w_setL (by assumption) rfl ?_; (conv => whnf)) | (refine w_setL hupd_same rfl ?_; (conv => whnf)) | (refine w_eqi ?_; (conv => whnf)) | (refine w_eqs ?_; (conv => whnf)) | (refine w_t (by first | rfl | decide | assumption) ?_; (conv => whnf)) | (refine w_f (by first | rfl | decide | assumption) ?_; (conv => whnf)) | (refine And.intro (by first | omega | rfl | decide | assumption | exact Nat.le_of_ble_eq_true rfl | exact mulR (by omega) (by omega) | exact mulL (by omega) (by omega) | exact mulM (by omega) (by omega) | exact divOk (by omega) (by omega) | exact Exists.intro _ (by assumption)) ?_; (conv => whnf))))
  intro q1 hq1; generalize hh_g1 : hupd _ q1 _ = g1; obtain ⟨x1, f1⟩ := newAt hh_g1 hq1
  (conv => whnf); (repeat (first | (refine w_need rfl ?_; (conv => whnf)) | (refine w_ix (by assumption) rfl ?_; (conv => whnf)) | (refine w_ix hupd_same rfl ?_; (conv => whnf)) | (refine w_setL (by assumption) rfl ?_; (conv => whnf)) | (refine w_setL hupd_same rfl ?_; (conv => whnf)) | (refine w_eqi ?_; (conv => whnf)) | (refine w_eqs ?_; (conv => whnf)) | (refine w_t (by first | rfl | decide | assumption) ?_; (conv => whnf)) | (refine w_f (by first | rfl | decide | assumption) ?_; (conv => whnf)) | (refine And.intro (by first | omega | rfl | decide | assumption | exact Nat.le_of_ble_eq_true rfl | exact mulR (by omega) (by omega) | exact mulL (by omega) (by omega) | exact mulM (by omega) (by omega) | exact divOk (by omega) (by omega) | exact Exists.intro _ (by assumption)) ?_; (conv => whnf))))
  intro p2 hp2; generalize hh_g2 : hupd _ p2 _ = g2; obtain ⟨x2, e2⟩ := newAt hh_g2 hp2
  (conv => whnf); (repeat (first | (refine w_need rfl ?_; (conv => whnf)) | (refine w_ix (by assumption) rfl ?_; (conv => whnf)) | (refine w_ix hupd_same rfl ?_; (conv => whnf)) | (refine w_setL (by assumption) rfl ?_; (conv => whnf)) | (refine w_setL hupd_same rfl ?_; (conv => whnf)) | (refine w_eqi ?_; (conv => whnf)) | (refine w_eqs ?_; (conv => whnf)) | (refine w_t (by first | rfl | decide | assumption) ?_; (conv => whnf)) | (refine w_f (by first | rfl | decide | assumption) ?_; (conv => whnf)) | (refine And.intro (by first | omega | rfl | decide | assumption | exact Nat.le_of_ble_eq_true rfl | exact mulR (by omega) (by omega) | exact mulL (by omega) (by omega) | exact mulM (by omega) (by omega) | exact divOk (by omega) (by omega) | exact Exists.intro _ (by assumption)) ?_; (conv => whnf))))
  intro q3 hq3; generalize hh_g3 : hupd _ q3 _ = g3; obtain ⟨x3, f3⟩ := newAt hh_g3 hq3
  (conv => whnf); (repeat (first | (refine w_need rfl ?_; (conv => whnf)) | (refine w_ix (by assumption) rfl ?_; (conv => whnf)) | (refine w_ix hupd_same rfl ?_; (conv => whnf)) | (refine w_setL (by assumption) rfl ?_; (conv => whnf)) | (refine w_setL hupd_same rfl ?_; (conv => whnf)) | (refine w_eqi ?_; (conv => whnf)) | (refine w_eqs ?_; (conv => whnf)) | (refine w_t (by first | rfl | decide | assumption) ?_; (conv => whnf)) | (refine w_f (by first | rfl | decide | assumption) ?_; (conv => whnf)) | (refine And.intro (by first | omega | rfl | decide | assumption | exact Nat.le_of_ble_eq_true rfl | exact mulR (by omega) (by omega) | exact mulL (by omega) (by omega) | exact mulM (by omega) (by omega) | exact divOk (by omega) (by omega) | exact Exists.intro _ (by assumption)) ?_; (conv => whnf))))
  intro p4 hp4; generalize hh_g4 : hupd _ p4 _ = g4; obtain ⟨x4, e4⟩ := newAt hh_g4 hp4
  (conv => whnf)
  refine ⟨_, _, (x3.trans x4) _ _ e2, e4, Nat.le_of_lt (small2 (show 8 + 6 ≤ 1000000 by decide)), ?_⟩
  intro p5 hp5; generalize hh_g5 : hupd _ p5 _ = g5; obtain ⟨x5, e5⟩ := newAt hh_g5 hp5
  (conv => whnf); (repeat (first | (refine w_need rfl ?_; (conv => whnf)) | (refine w_ix (by assumption) rfl ?_; (conv => whnf)) | (refine w_ix hupd_same rfl ?_; (conv => whnf)) | (refine w_setL (by assumption) rfl ?_; (conv => whnf)) | (refine w_setL hupd_same rfl ?_; (conv => whnf)) | (refine w_eqi ?_; (conv => whnf)) | (refine w_eqs ?_; (conv => whnf)) | (refine w_t (by first | rfl | decide | assumption) ?_; (conv => whnf)) | (refine w_f (by first | rfl | decide | assumption) ?_; (conv => whnf)) | (refine And.intro (by first | omega | rfl | decide | assumption | exact Nat.le_of_ble_eq_true rfl | exact mulR (by omega) (by omega) | exact mulL (by omega) (by omega) | exact mulM (by omega) (by omega) | exact divOk (by omega) (by omega) | exact Exists.intro _ (by assumption)) ?_; (conv => whnf))))
  intro p6 hp6; generalize hh_g6 : hupd _ p6 _ = g6; obtain ⟨x6, e6⟩ := newAt hh_g6 hp6
  (conv => whnf)
  refine ⟨_, _, x6 _ _ e5, e6, Nat.le_of_lt (small2 (show 14 + 4 ≤ 1000000 by decide)), ?_⟩
  intro p7 hp7; generalize hh_g7 : hupd _ p7 _ = g7; obtain ⟨x7, e7⟩ := newAt hh_g7 hp7
  have x3d := x4.trans (x5.trans (x6.trans x7))
  have x1d := x2.trans (x3.trans x3d)
  have n1 := B.ne hq1
  have n3 := (B.ext (x1.trans x2)).ne hq3
  have n7 := (B.ext (x1.trans (x2.trans (x3.trans (x4.trans (x5.trans x6)))))).bag.ne hp7
  have f1d := x1d _ _ f1
  have f3d := x3d _ _ f3
  clear e2 e4 e5 e6
  simp only [List.cons_append, List.nil_append, show (10 : Int) ^ Int.toNat 24 = 1000000000000000000000000 from by decide, show (10 : Int) ^ Int.toNat 20 = 100000000000000000000 from by decide] at e7
  (conv => whnf); (repeat (first | (refine w_need rfl ?_; (conv => whnf)) | (refine w_ix (by assumption) rfl ?_; (conv => whnf)) | (refine w_ix hupd_same rfl ?_; (conv => whnf)) | (refine w_setL (by assumption) rfl ?_; (conv => whnf)) | (refine w_setL hupd_same rfl ?_; (conv => whnf)) | (refine w_eqi ?_; (conv => whnf)) | (refine w_eqs ?_; (conv => whnf)) | (refine w_t (by first | rfl | decide | assumption) ?_; (conv => whnf)) | (refine w_f (by first | rfl | decide | assumption) ?_; (conv => whnf)) | (refine And.intro (by first | omega | rfl | decide | assumption | exact Nat.le_of_ble_eq_true rfl | exact mulR (by omega) (by omega) | exact mulL (by omega) (by omega) | exact mulM (by omega) (by omega) | exact divOk (by omega) (by omega) | exact Exists.intro _ (by assumption)) ?_; (conv => whnf))))
  refine sp_pick (B.bag.ext (x1.trans x1d)) e7 n7 (show 0 < 18 by decide) (show 18 < 1000000 by decide) fun y h' hy f => ?_
  refine k y h' ((Fr.of_ext B.bag (x1.trans x1d)).trans f) ?_
  suffices VX S g7 y 2 20 from this.fr f B.mem
  have v1 : VX S g7 (.loc q1) 2 20 := VX.mono (.lst (n := 0) (m := 2) f1d n1 (.all (m := 0) (by (repeat' (first | exact av_nil | refine av_cons ?_ ?_)); all_goals exact iv _ (by omega)))) (by decide) (by decide)
  have v3 : VX S g7 (.loc q3) 1 3 := VX.mono (.lst (n := 0) (m := 1) f3d n3 (.c (m := 0) (m2 := 0) (iv _ (by omega)) .n)) (by decide) (by decide)
  refine (?_ : ∀ x ∈ _, VX S g7 x 2 20) y hy
  ((repeat' (first | exact av_nil | refine av_cons ?_ ?_)); all_goals (first | (refine tp ?_ (Nat.le_of_ble_eq_true rfl); (repeat' (first | exact av_nil | refine av_cons ?_ ?_)); all_goals (first | exact iv _ (by omega) | exact .bl | exact .non | exact .str (by decide) | assumption)) | (first | exact iv _ (by omega) | exact .bl | exact .non | exact .str (by decide) | assumption)))
end DL

set_option linter.all false
set_option maxRecDepth 100000
set_option maxHeartbeats 2000000
namespace DL
open PySem PySem.Spec PyProof.Rows L2
/-! a dict of lists that is filled -/
theorem putD_len1 {κ : Type} [DecidableEq κ] (kvs : List (κ × D)) (k : κ) (v : D) : (putD kvs k v).length ≤ kvs.length + 1 := by
  unfold putD
  split
  · rw [List.length_map]; omega
  · rw [List.length_append]; simp
def LPart (S : List Addr) (h : DH) (pd : Addr) (i : Int) (c : Nat) : Prop := ∃ pL L, getO (h pd) (.int i) = some (.loc pL) ∧ pL ≠ pd ∧ pL ∉ S ∧ h pL = some (.lst L) ∧ L.length ≤ c ∧ 0 < L.length ∧ ∀ x ∈ L, VX S h x 3 400
structure Dk (b pd : Addr) (S : List Addr) (h0 : DH) (od : D) (h : DH) (m : Nat) (n : List Int) : Prop where
  pd0 : h0 pd = none
  fr0 : Fr b h0 h
  od : VX S h od 3 6
  hid : Hid S b h
  mem : pd ∈ S
  ne : pd ≠ b
  at_ : ∃ KV, h pd = some (.dK KV) ∧ KV.length ≤ m
  pt : ∀ i ∈ n, LPart S h pd i (100 * (m + 1))
theorem Dk.fr {b pd : Addr} {S : List Addr} {h0 h h' : DH} {od : D} {m : Nat} {n : List Int} (D : Dk b pd S h0 od h m n) (f : Fr b h h') : Dk b pd S h0 od h' m n := by
  obtain ⟨KV, e, l⟩ := D.at_
  have e' := f.1 _ _ D.ne e
  refine ⟨D.pd0, D.fr0.trans f, D.od.fr f D.hid.mem, D.hid.fr f, D.mem, D.ne, ⟨KV, e', l⟩, fun i hi => ?_⟩
  obtain ⟨pL, L, g, n1, n2, q, l1, l2, v⟩ := D.pt i hi
  refine ⟨pL, L, by rw [e']; rw [e] at g; exact g, n1, n2, f.1 _ _ (fun z => n2 (by rw [z]; exact D.hid.mem)) q, l1, l2, fun x hx => (v x hx).fr f D.hid.mem⟩
theorem Dk.up {b pd : Addr} {S : List Addr} {h0 h : DH} {od : D} {m m2 : Nat} {n n2 : List Int} (D : Dk b pd S h0 od h m n) (e : m ≤ m2) (k : ∀ i ∈ n2, i ∈ n) : Dk b pd S h0 od h m2 n2 := by
  obtain ⟨KV, e0, l⟩ := D.at_
  refine ⟨D.pd0, D.fr0, D.od, D.hid, D.mem, D.ne, ⟨KV, e0, Nat.le_trans l e⟩, fun i hi => ?_⟩
  obtain ⟨pL, L, g, n1, n2, q, l1, l2, v⟩ := D.pt i (k i hi)
  exact ⟨pL, L, g, n1, n2, q, Nat.le_trans l1 (Nat.mul_le_mul_left _ (by omega)), l2, v⟩
theorem Dk.ext {b pd : Addr} {S : List Addr} {h0 h h' : DH} {od : D} {m : Nat} {n : List Int} (D : Dk b pd S h0 od h m n) (x : Ext h h') : Dk b pd S h0 od h' m n := D.fr (.of_ext D.hid.bag x)
theorem Dk.set {b pd p : Addr} {S : List Addr} {h0 h : DH} {od : D} {m : Nat} {n : List Int} {L : List D} {j : Int} {y : D} {Q : DH → Prop} (D : Dk b pd S h0 od h m n) (ey : y = .int j) (hm : m < 1000) (e : h p = some (.lst L)) (np : p ∉ S) (l1 : L.length ≤ 100 * (m + 1 + 1)) (l2 : 0 < L.length) (v : ∀ x ∈ L, VX S h x 3 400)
    (k : ∀ h', Dk b pd S h0 od h' (m + 1) (j :: n) → Ext (offb S h) (offb S h') → Q h') : dSet (.loc pd) y (.loc p) h Q := by
  subst ey
  obtain ⟨KV, e0, l⟩ := D.at_
  have es : sizeLine = 16777216 := rfl
  refine w_set (u := .dK (putD KV (.inl j) (.loc p))) (by rw [e0]; show (if KV.length < sizeLine then _ else _) = _; rw [if_pos (by omega)]; rfl) ?_
  have npd : p ≠ pd := fun z => np (by rw [z]; exact D.mem)
  refine k _ ⟨D.pd0, ⟨fun a o za zb => by
    have : a ≠ pd := fun z => by rw [z, D.pd0] at zb; cases zb
    rw [hupd_ne this]; exact D.fr0.1 a o za zb, (D.hid.put D.ne).bag⟩, D.od.off (off_put D.mem), D.hid.put D.ne, D.mem, D.ne, ⟨_, hupd_same, Nat.le_trans (putD_len1 _ _ _) (by omega)⟩, fun i hi => ?_⟩ (off_put D.mem)
  have o := off_put (S := S) (h := h) (o := .dK (putD KV (.inl j) (.loc p))) D.mem
  by_cases z : i = j
  · subst z
    refine ⟨p, L, ?_, npd, np, by rw [hupd_ne npd]; exact e, l1, l2, fun x hx => (v x hx).off o⟩
    rw [hupd_same]
    show valD (putD KV (.inl i) (.loc p)) (.inl i) = _
    rw [valD_put, if_pos rfl]
  · obtain ⟨pL, L', g, n1, n2, q, l1', l2', v'⟩ := D.pt i ((List.mem_cons.mp hi).resolve_left z)
    refine ⟨pL, L', ?_, n1, n2, by rw [hupd_ne n1]; exact q, Nat.le_trans l1' (by omega), l2', fun x hx => (v' x hx).off o⟩
    rw [hupd_same]
    show valD (putD KV (.inl j) (.loc p)) (.inl i) = _
    rw [valD_put, if_neg (fun y => z (Sum.inl.inj y))]
    rw [e0] at g
    exact g
theorem tpw {S : List Addr} {h : DH} {xs : List D} (a : ∀ x ∈ xs, VX S h x 1 3) (l : xs.length ≤ 5) : VX S h (.tup xs) 3 400 := (tp a l).mono (by decide) (by decide)
theorem tpl {S : List Addr} {h : DH} {xs : List D} (a : ∀ x ∈ xs, VX S h x 2 20) (l : xs.length ≤ 18) : VX S h (.tup xs) 3 400 :=
  (VX.tup (.all a)).mono (by decide) (by have : xs.length * (20 + 1) ≤ 18 * 21 := Nat.mul_le_mul_right _ l; omega)
/-- kitchens of any size -/
structure KW (kk : Kit) : Prop where
  d0 : 1 ≤ kk.dials
  d1 : kk.dials ≤ 1000000000
  l0 : 0 ≤ kk.l1
  ll : kk.l1 ≤ kk.l2
  l1 : kk.l2 ≤ 1000000000
  c0 : 0 ≤ kk.cold
  c1 : kk.cold ≤ 1000000000000
  r0 : 1 ≤ kk.rise
  r1 : kk.rise ≤ 1000000000
  o0 : 1 ≤ kk.ov
  o1 : kk.ov ≤ 4
  tl : kk.ts.length ≤ 6
  ti : ∀ t ∈ kk.ts, (0 ≤ t.a ∧ t.a < 4) ∧ (0 ≤ t.b ∧ t.b < 4) ∧ (-1000000000000 ≤ t.lo ∧ t.lo ≤ 1000000000000) ∧ (-1000000000000 ≤ t.hi ∧ t.hi ≤ 1000000000000)
  dl0 : 1 ≤ kk.ds.length
  dl : kk.ds.length ≤ 6
  di : ∀ p ∈ kk.ds, 0 ≤ p.1 ∧ p.1 ≤ p.2 ∧ p.2 ≤ 1000000000000000000000000
end DL

set_option linter.all false
set_option maxRecDepth 100000
set_option maxHeartbeats 2000000
namespace DL
open PySem PySem.Spec PyProof.Rows L2
/-! kitchens bent -/
theorem sp_bentK {h : DH} {S : List Addr} {b : Addr} {kk : Kit} {Q : DK} (B : Hid S b h) (K : KW kk) (k : ∀ y h', Fr b h h' → VX S h' y 4 5000 → Q y h') : m_law_bent [.loc b, kk.d] h Q := by
  apply m_law_bent_ap
  have K1 := K.d0; have K2 := K.d1; have K3 := K.l0; have K4 := K.ll; have K5 := K.l1; have K6 := K.c0; have K7 := K.c1; have K8 := K.r0; have K9 := K.r1; have K10 := K.o0; have K11 := K.o1; have K12 := K.tl; have K13 := K.dl0; have K14 := K.dl
  dsimp only [b_law_bent]
  (conv => whnf); (repeat (first | (refine w_need rfl ?_; (conv => whnf)) | (refine w_ix (by assumption) rfl ?_; (conv => whnf)) | (refine w_ix hupd_same rfl ?_; (conv => whnf)) | (refine w_setL (by assumption) rfl ?_; (conv => whnf)) | (refine w_setL hupd_same rfl ?_; (conv => whnf)) | (refine w_eqi ?_; (conv => whnf)) | (refine w_eqs ?_; (conv => whnf)) | (refine w_t (by first | rfl | decide | assumption) ?_; (conv => whnf)) | (refine w_f (by first | rfl | decide | assumption) ?_; (conv => whnf)) | (refine And.intro (by first | omega | rfl | decide | assumption | exact Nat.le_of_ble_eq_true rfl | exact mulR (by omega) (by omega) | exact mulL (by omega) (by omega) | exact mulM (by omega) (by omega) | exact divOk (by omega) (by omega) | exact Exists.intro _ (by assumption)) ?_; (conv => whnf))))
  refine sp_draw B.bag (by omega) (by omega) fun at_ h1 f1 a0 a1 => ?_
  (conv => whnf); (repeat (first | (refine w_need rfl ?_; (conv => whnf)) | (refine w_ix (by assumption) rfl ?_; (conv => whnf)) | (refine w_ix hupd_same rfl ?_; (conv => whnf)) | (refine w_setL (by assumption) rfl ?_; (conv => whnf)) | (refine w_setL hupd_same rfl ?_; (conv => whnf)) | (refine w_eqi ?_; (conv => whnf)) | (refine w_eqs ?_; (conv => whnf)) | (refine w_t (by first | rfl | decide | assumption) ?_; (conv => whnf)) | (refine w_f (by first | rfl | decide | assumption) ?_; (conv => whnf)) | (refine And.intro (by first | omega | rfl | decide | assumption | exact Nat.le_of_ble_eq_true rfl | exact mulR (by omega) (by omega) | exact mulL (by omega) (by omega) | exact mulM (by omega) (by omega) | exact divOk (by omega) (by omega) | exact Exists.intro _ (by assumption)) ?_; (conv => whnf))))
  refine sp_odd (B.fr f1) fun od h2 f2 oo => ?_
  have f2' := f1.trans f2
  have B2 := B.fr f2'
  (conv => whnf); (repeat (first | (refine w_need rfl ?_; (conv => whnf)) | (refine w_ix (by assumption) rfl ?_; (conv => whnf)) | (refine w_ix hupd_same rfl ?_; (conv => whnf)) | (refine w_setL (by assumption) rfl ?_; (conv => whnf)) | (refine w_setL hupd_same rfl ?_; (conv => whnf)) | (refine w_eqi ?_; (conv => whnf)) | (refine w_eqs ?_; (conv => whnf)) | (refine w_t (by first | rfl | decide | assumption) ?_; (conv => whnf)) | (refine w_f (by first | rfl | decide | assumption) ?_; (conv => whnf)) | (refine And.intro (by first | omega | rfl | decide | assumption | exact Nat.le_of_ble_eq_true rfl | exact mulR (by omega) (by omega) | exact mulL (by omega) (by omega) | exact mulM (by omega) (by omega) | exact divOk (by omega) (by omega) | exact Exists.intro _ (by assumption)) ?_; (conv => whnf))))
  intro pd hpd
  have npd := B2.ne hpd
  (conv => whnf); (repeat (first | (refine w_need rfl ?_; (conv => whnf)) | (refine w_ix (by assumption) rfl ?_; (conv => whnf)) | (refine w_ix hupd_same rfl ?_; (conv => whnf)) | (refine w_setL (by assumption) rfl ?_; (conv => whnf)) | (refine w_setL hupd_same rfl ?_; (conv => whnf)) | (refine w_eqi ?_; (conv => whnf)) | (refine w_eqs ?_; (conv => whnf)) | (refine w_t (by first | rfl | decide | assumption) ?_; (conv => whnf)) | (refine w_f (by first | rfl | decide | assumption) ?_; (conv => whnf)) | (refine And.intro (by first | omega | rfl | decide | assumption | exact Nat.le_of_ble_eq_true rfl | exact mulR (by omega) (by omega) | exact mulL (by omega) (by omega) | exact mulM (by omega) (by omega) | exact divOk (by omega) (by omega) | exact Exists.intro _ (by assumption)) ?_; (conv => whnf))))
  have H0 := B2.new (o := .dK []) hpd
  have xd := ext_new (o := .dK []) hpd
  have o0 := off_new (S := S) (o := .dK []) hpd
  generalize hhd : hupd h2 pd (.dK []) = h3 at *
  have ed : h3 pd = some (.dK []) := by rw [← hhd]; exact hupd_same
  intro p1 hp1; generalize hh_h4 : hupd _ p1 _ = h4; obtain ⟨x4, e4⟩ := newAt hh_h4 hp1
  (conv => whnf); (repeat (first | (refine w_need rfl ?_; (conv => whnf)) | (refine w_ix (by assumption) rfl ?_; (conv => whnf)) | (refine w_ix hupd_same rfl ?_; (conv => whnf)) | (refine w_setL (by assumption) rfl ?_; (conv => whnf)) | (refine w_setL hupd_same rfl ?_; (conv => whnf)) | (refine w_eqi ?_; (conv => whnf)) | (refine w_eqs ?_; (conv => whnf)) | (refine w_t (by first | rfl | decide | assumption) ?_; (conv => whnf)) | (refine w_f (by first | rfl | decide | assumption) ?_; (conv => whnf)) | (refine And.intro (by first | omega | rfl | decide | assumption | exact Nat.le_of_ble_eq_true rfl | exact mulR (by omega) (by omega) | exact mulL (by omega) (by omega) | exact mulM (by omega) (by omega) | exact divOk (by omega) (by omega) | exact Exists.intro _ (by assumption)) ?_; (conv => whnf))))
  intro p2 hp2; generalize hh_h5 : hupd _ p2 _ = h5; obtain ⟨x5, e5⟩ := newAt hh_h5 hp2
  (conv => whnf); (repeat (first | (refine w_need rfl ?_; (conv => whnf)) | (refine w_ix (by assumption) rfl ?_; (conv => whnf)) | (refine w_ix hupd_same rfl ?_; (conv => whnf)) | (refine w_setL (by assumption) rfl ?_; (conv => whnf)) | (refine w_setL hupd_same rfl ?_; (conv => whnf)) | (refine w_eqi ?_; (conv => whnf)) | (refine w_eqs ?_; (conv => whnf)) | (refine w_t (by first | rfl | decide | assumption) ?_; (conv => whnf)) | (refine w_f (by first | rfl | decide | assumption) ?_; (conv => whnf)) | (refine And.intro (by first | omega | rfl | decide | assumption | exact Nat.le_of_ble_eq_true rfl | exact mulR (by omega) (by omega) | exact mulL (by omega) (by omega) | exact mulM (by omega) (by omega) | exact divOk (by omega) (by omega) | exact Exists.intro _ (by assumption)) ?_; (conv => whnf))))
  refine ⟨(x4.trans x5) _ _ ed, (show 2 ≤ 15 by decide), ?_⟩
  have H5 := (H0.ext x4).ext x5
  have n1 := H0.ne hp1
  have n2 := (H0.ext x4).ne hp2
  have q1 := x5 _ _ e4
  have nepd : pd ≠ b := B2.bag.ne hpd
  have pd0 : h pd = none := by
    cases e : h pd with
    | none => rfl
    | some o => rw [f2'.1 _ _ nepd e] at hpd; cases hpd
  have fd : Fr b h2 (hupd h5 pd (.dK (mergeD [] [(Sum.inl 0, D.loc p1), (Sum.inl 1, D.loc p2)]))) := .of_ext B2.bag ((xd.trans (x4.trans x5)).put hpd)
  have od6 : VX (pd :: S) (hupd h5 pd (.dK (mergeD [] [(Sum.inl 0, D.loc p1), (Sum.inl 1, D.loc p2)]))) od 3 6 := ((oo.vx.off o0).ext (x4.trans x5)).off (off_put List.mem_cons_self)
  have D6 : Dk b pd (pd :: S) h od (hupd h5 pd (.dK (mergeD [] [(Sum.inl 0, D.loc p1), (Sum.inl 1, D.loc p2)]))) 2 [0, 1] := by
    have m := List.mem_cons_self (a := pd) (l := S)
    have m1 : p1 ≠ pd := fun z => n1 (by rw [z]; exact m)
    have m2 : p2 ≠ pd := fun z => n2 (by rw [z]; exact m)
    refine ⟨pd0, f2'.trans fd, od6, H5.put nepd, m, nepd, ⟨_, hupd_same, (show 2 ≤ 2 by decide)⟩, fun i hi => ?_⟩
    simp only [List.mem_cons, List.not_mem_nil, or_false] at hi
    have Q1 := put_at (o := .dK (mergeD [] [(Sum.inl 0, D.loc p1), (Sum.inl 1, D.loc p2)])) rfl m1 q1
    have Q2 := put_at (o := .dK (mergeD [] [(Sum.inl 0, D.loc p1), (Sum.inl 1, D.loc p2)])) rfl m2 e5
    rcases hi with rfl | rfl
    · refine ⟨p1, _, by rw [hupd_same]; rfl, m1, n1, Q1, (show 6 ≤ 300 by decide), (show 0 < 6 by decide), ?_⟩
      simp only [show (10 : Int) ^ Int.toNat 9 = 1000000000 from by decide]
      ((repeat' (first | exact av_nil | refine av_cons ?_ ?_)); all_goals (first | (refine tpw ?_ (Nat.le_of_ble_eq_true rfl); (repeat' (first | exact av_nil | refine av_cons ?_ ?_)); all_goals (first | exact iv _ (by omega) | exact .bl | exact .non | exact .str (by decide) | assumption)) | (first | exact iv _ (by omega) | exact .bl | exact .non | exact .str (by decide) | assumption)))
    · refine ⟨p2, _, by rw [hupd_same]; rfl, m2, n2, Q2, (show 5 ≤ 300 by decide), (show 0 < 5 by decide), ?_⟩
      simp only [show (10 : Int) ^ Int.toNat 9 = 1000000000 from by decide]
      ((repeat' (first | exact av_nil | refine av_cons ?_ ?_)); all_goals (first | (refine tpw ?_ (Nat.le_of_ble_eq_true rfl); (repeat' (first | exact av_nil | refine av_cons ?_ ?_)); all_goals (first | exact iv _ (by omega) | exact .bl | exact .non | exact .str (by decide) | assumption)) | (first | exact iv _ (by omega) | exact .bl | exact .non | exact .str (by decide) | assumption)))
  generalize hupd h5 pd (.dK (mergeD [] [(Sum.inl 0, D.loc p1), (Sum.inl 1, D.loc p2)])) = h6 at D6
  clear q1 n1 n2 e4 e5 hp1 hp2 x4 x5 ed hhd xd o0 H0 H5 fd od6 oo f1 f2 f2' B2 hpd npd nepd hh_h4 hh_h5
  have hSS : ∀ a ∈ S, a ∈ pd :: S := fun a ha => List.mem_cons_of_mem _ ha
  generalize pd :: S = S' at D6 hSS
  (conv => whnf); (repeat (first | (refine w_need rfl ?_; (conv => whnf)) | (refine w_ix (by assumption) rfl ?_; (conv => whnf)) | (refine w_ix hupd_same rfl ?_; (conv => whnf)) | (refine w_setL (by assumption) rfl ?_; (conv => whnf)) | (refine w_setL hupd_same rfl ?_; (conv => whnf)) | (refine w_eqi ?_; (conv => whnf)) | (refine w_eqs ?_; (conv => whnf)) | (refine w_t (by first | rfl | decide | assumption) ?_; (conv => whnf)) | (refine w_f (by first | rfl | decide | assumption) ?_; (conv => whnf)) | (refine And.intro (by first | omega | rfl | decide | assumption | exact Nat.le_of_ble_eq_true rfl | exact mulR (by omega) (by omega) | exact mulL (by omega) (by omega) | exact mulM (by omega) (by omega) | exact divOk (by omega) (by omega) | exact Exists.intro _ (by assumption)) ?_; (conv => whnf))))
  obtain ⟨pL, L, g1, m1, n1, q1, l1, _, v1⟩ := D6.pt 1 (by simp)
  refine w_need g1 ?_
  (conv => whnf); (repeat (first | (refine w_need rfl ?_; (conv => whnf)) | (refine w_ix (by assumption) rfl ?_; (conv => whnf)) | (refine w_ix hupd_same rfl ?_; (conv => whnf)) | (refine w_setL (by assumption) rfl ?_; (conv => whnf)) | (refine w_setL hupd_same rfl ?_; (conv => whnf)) | (refine w_eqi ?_; (conv => whnf)) | (refine w_eqs ?_; (conv => whnf)) | (refine w_t (by first | rfl | decide | assumption) ?_; (conv => whnf)) | (refine w_f (by first | rfl | decide | assumption) ?_; (conv => whnf)) | (refine And.intro (by first | omega | rfl | decide | assumption | exact Nat.le_of_ble_eq_true rfl | exact mulR (by omega) (by omega) | exact mulL (by omega) (by omega) | exact mulM (by omega) (by omega) | exact divOk (by omega) (by omega) | exact Exists.intro _ (by assumption)) ?_; (conv => whnf))))
  intro r1 hr1; generalize hh_h7 : hupd _ r1 _ = h7; obtain ⟨x7, e7⟩ := newAt hh_h7 hr1
  (conv => whnf); (repeat (first | (refine w_need rfl ?_; (conv => whnf)) | (refine w_ix (by assumption) rfl ?_; (conv => whnf)) | (refine w_ix hupd_same rfl ?_; (conv => whnf)) | (refine w_setL (by assumption) rfl ?_; (conv => whnf)) | (refine w_setL hupd_same rfl ?_; (conv => whnf)) | (refine w_eqi ?_; (conv => whnf)) | (refine w_eqs ?_; (conv => whnf)) | (refine w_t (by first | rfl | decide | assumption) ?_; (conv => whnf)) | (refine w_f (by first | rfl | decide | assumption) ?_; (conv => whnf)) | (refine And.intro (by first | omega | rfl | decide | assumption | exact Nat.le_of_ble_eq_true rfl | exact mulR (by omega) (by omega) | exact mulL (by omega) (by omega) | exact mulM (by omega) (by omega) | exact divOk (by omega) (by omega) | exact Exists.intro _ (by assumption)) ?_; (conv => whnf))))
  intro r2 hr2; generalize hh_h8 : hupd _ r2 _ = h8; obtain ⟨x8, e8⟩ := newAt hh_h8 hr2
  (conv => whnf)
  refine ⟨_, _, (x7.trans x8) _ _ q1, e8, Nat.le_of_lt (small2 (show L.length + 9 ≤ 1000000 by omega)), ?_⟩
  intro r3 hr3; generalize hh_h9 : hupd _ r3 _ = h9; obtain ⟨x9, e9⟩ := newAt hh_h9 hr3
  (conv => whnf); (repeat (first | (refine w_need rfl ?_; (conv => whnf)) | (refine w_ix (by assumption) rfl ?_; (conv => whnf)) | (refine w_ix hupd_same rfl ?_; (conv => whnf)) | (refine w_setL (by assumption) rfl ?_; (conv => whnf)) | (refine w_setL hupd_same rfl ?_; (conv => whnf)) | (refine w_eqi ?_; (conv => whnf)) | (refine w_eqs ?_; (conv => whnf)) | (refine w_t (by first | rfl | decide | assumption) ?_; (conv => whnf)) | (refine w_f (by first | rfl | decide | assumption) ?_; (conv => whnf)) | (refine And.intro (by first | omega | rfl | decide | assumption | exact Nat.le_of_ble_eq_true rfl | exact mulR (by omega) (by omega) | exact mulL (by omega) (by omega) | exact mulM (by omega) (by omega) | exact divOk (by omega) (by omega) | exact Exists.intro _ (by assumption)) ?_; (conv => whnf))))
  have x69 := x7.trans (x8.trans x9)
  refine (D6.ext x69).set rfl (by decide) e9 ((D6.ext (x7.trans x8)).hid.ne hr3) ?_ ?_ ?_ fun h10 D10 oD10 => ?_
  · rw [List.length_append]; simp only [List.length_cons, List.length_nil]; omega
  · rw [List.length_append]; simp only [List.length_cons, List.length_nil]; omega
  · refine av_app (fun x hx => (v1 x hx).ext x69) ?_
    have vr : VX S' h9 (.loc r1) 3 400 := VX.mono (.lst (n := 0) (m := 2) ((x8.trans x9) _ _ e7) (D6.hid.ne hr1) (.all (m := 0) (by (repeat' (first | exact av_nil | refine av_cons ?_ ?_)); all_goals exact iv _ (by omega)))) (by decide) (by decide)
    simp only [List.cons_append, List.nil_append, show (10 : Int) ^ Int.toNat 9 = 1000000000 from by decide]
    ((repeat' (first | exact av_nil | refine av_cons ?_ ?_)); all_goals (first | (refine tpw ?_ (Nat.le_of_ble_eq_true rfl); (repeat' (first | exact av_nil | refine av_cons ?_ ?_)); all_goals (first | exact iv _ (by omega) | exact .bl | exact .non | exact .str (by decide) | assumption)) | (first | exact iv _ (by omega) | exact .bl | exact .non | exact .str (by decide) | assumption)))
  clear D6 x69 e9 hr3 e8 hr2 e7 hr1 x7 x8 x9 q1 n1 m1 g1 v1
  (conv => whnf); (repeat (first | (refine w_need rfl ?_; (conv => whnf)) | (refine w_ix (by assumption) rfl ?_; (conv => whnf)) | (refine w_ix hupd_same rfl ?_; (conv => whnf)) | (refine w_setL (by assumption) rfl ?_; (conv => whnf)) | (refine w_setL hupd_same rfl ?_; (conv => whnf)) | (refine w_eqi ?_; (conv => whnf)) | (refine w_eqs ?_; (conv => whnf)) | (refine w_t (by first | rfl | decide | assumption) ?_; (conv => whnf)) | (refine w_f (by first | rfl | decide | assumption) ?_; (conv => whnf)) | (refine And.intro (by first | omega | rfl | decide | assumption | exact Nat.le_of_ble_eq_true rfl | exact mulR (by omega) (by omega) | exact mulL (by omega) (by omega) | exact mulM (by omega) (by omega) | exact divOk (by omega) (by omega) | exact Exists.intro _ (by assumption)) ?_; (conv => whnf))))
  intro r1 hr1; generalize hh_h11 : hupd _ r1 _ = h11; obtain ⟨x11, e11⟩ := newAt hh_h11 hr1
  (conv => whnf); (repeat (first | (refine w_need rfl ?_; (conv => whnf)) | (refine w_ix (by assumption) rfl ?_; (conv => whnf)) | (refine w_ix hupd_same rfl ?_; (conv => whnf)) | (refine w_setL (by assumption) rfl ?_; (conv => whnf)) | (refine w_setL hupd_same rfl ?_; (conv => whnf)) | (refine w_eqi ?_; (conv => whnf)) | (refine w_eqs ?_; (conv => whnf)) | (refine w_t (by first | rfl | decide | assumption) ?_; (conv => whnf)) | (refine w_f (by first | rfl | decide | assumption) ?_; (conv => whnf)) | (refine And.intro (by first | omega | rfl | decide | assumption | exact Nat.le_of_ble_eq_true rfl | exact mulR (by omega) (by omega) | exact mulL (by omega) (by omega) | exact mulM (by omega) (by omega) | exact divOk (by omega) (by omega) | exact Exists.intro _ (by assumption)) ?_; (conv => whnf))))
  refine (D10.ext x11).set rfl (by decide) e11 (D10.hid.ne hr1) (show 8 ≤ 500 by decide) (show 0 < 8 by decide) ?_ fun h12 D12 oD12 => ?_
  · ((repeat' (first | exact av_nil | refine av_cons ?_ ?_)); all_goals (first | (refine tpw ?_ (Nat.le_of_ble_eq_true rfl); (repeat' (first | exact av_nil | refine av_cons ?_ ?_)); all_goals (first | exact iv _ (by omega) | exact .bl | exact .non | exact .str (by decide) | assumption)) | (first | exact iv _ (by omega) | exact .bl | exact .non | exact .str (by decide) | assumption)))
  clear D10 hr1 e11 x11
  (conv => whnf); (repeat (first | (refine w_need rfl ?_; (conv => whnf)) | (refine w_ix (by assumption) rfl ?_; (conv => whnf)) | (refine w_ix hupd_same rfl ?_; (conv => whnf)) | (refine w_setL (by assumption) rfl ?_; (conv => whnf)) | (refine w_setL hupd_same rfl ?_; (conv => whnf)) | (refine w_eqi ?_; (conv => whnf)) | (refine w_eqs ?_; (conv => whnf)) | (refine w_t (by first | rfl | decide | assumption) ?_; (conv => whnf)) | (refine w_f (by first | rfl | decide | assumption) ?_; (conv => whnf)) | (refine And.intro (by first | omega | rfl | decide | assumption | exact Nat.le_of_ble_eq_true rfl | exact mulR (by omega) (by omega) | exact mulL (by omega) (by omega) | exact mulM (by omega) (by omega) | exact divOk (by omega) (by omega) | exact Exists.intro _ (by assumption)) ?_; (conv => whnf))))
  obtain ⟨pL, L, g1, m1, n1, q1, l1, _, v1⟩ := D12.pt 2 (by simp)
  refine w_need g1 ?_
  (conv => whnf); (repeat (first | (refine w_need rfl ?_; (conv => whnf)) | (refine w_ix (by assumption) rfl ?_; (conv => whnf)) | (refine w_ix hupd_same rfl ?_; (conv => whnf)) | (refine w_setL (by assumption) rfl ?_; (conv => whnf)) | (refine w_setL hupd_same rfl ?_; (conv => whnf)) | (refine w_eqi ?_; (conv => whnf)) | (refine w_eqs ?_; (conv => whnf)) | (refine w_t (by first | rfl | decide | assumption) ?_; (conv => whnf)) | (refine w_f (by first | rfl | decide | assumption) ?_; (conv => whnf)) | (refine And.intro (by first | omega | rfl | decide | assumption | exact Nat.le_of_ble_eq_true rfl | exact mulR (by omega) (by omega) | exact mulL (by omega) (by omega) | exact mulM (by omega) (by omega) | exact divOk (by omega) (by omega) | exact Exists.intro _ (by assumption)) ?_; (conv => whnf))))
  intro r1 hr1; generalize hh_h13 : hupd _ r1 _ = h13; obtain ⟨x13, e13⟩ := newAt hh_h13 hr1
  (conv => whnf); (repeat (first | (refine w_need rfl ?_; (conv => whnf)) | (refine w_ix (by assumption) rfl ?_; (conv => whnf)) | (refine w_ix hupd_same rfl ?_; (conv => whnf)) | (refine w_setL (by assumption) rfl ?_; (conv => whnf)) | (refine w_setL hupd_same rfl ?_; (conv => whnf)) | (refine w_eqi ?_; (conv => whnf)) | (refine w_eqs ?_; (conv => whnf)) | (refine w_t (by first | rfl | decide | assumption) ?_; (conv => whnf)) | (refine w_f (by first | rfl | decide | assumption) ?_; (conv => whnf)) | (refine And.intro (by first | omega | rfl | decide | assumption | exact Nat.le_of_ble_eq_true rfl | exact mulR (by omega) (by omega) | exact mulL (by omega) (by omega) | exact mulM (by omega) (by omega) | exact divOk (by omega) (by omega) | exact Exists.intro _ (by assumption)) ?_; (conv => whnf))))
  intro r2 hr2; generalize hh_h14 : hupd _ r2 _ = h14; obtain ⟨x14, e14⟩ := newAt hh_h14 hr2
  (conv => whnf)
  refine ⟨_, _, (x13.trans x14) _ _ q1, e14, Nat.le_of_lt (small2 (show L.length + 7 ≤ 1000000 by omega)), ?_⟩
  intro r3 hr3; generalize hh_h15 : hupd _ r3 _ = h15; obtain ⟨x15, e15⟩ := newAt hh_h15 hr3
  (conv => whnf); (repeat (first | (refine w_need rfl ?_; (conv => whnf)) | (refine w_ix (by assumption) rfl ?_; (conv => whnf)) | (refine w_ix hupd_same rfl ?_; (conv => whnf)) | (refine w_setL (by assumption) rfl ?_; (conv => whnf)) | (refine w_setL hupd_same rfl ?_; (conv => whnf)) | (refine w_eqi ?_; (conv => whnf)) | (refine w_eqs ?_; (conv => whnf)) | (refine w_t (by first | rfl | decide | assumption) ?_; (conv => whnf)) | (refine w_f (by first | rfl | decide | assumption) ?_; (conv => whnf)) | (refine And.intro (by first | omega | rfl | decide | assumption | exact Nat.le_of_ble_eq_true rfl | exact mulR (by omega) (by omega) | exact mulL (by omega) (by omega) | exact mulM (by omega) (by omega) | exact divOk (by omega) (by omega) | exact Exists.intro _ (by assumption)) ?_; (conv => whnf))))
  have x1215 := x13.trans (x14.trans x15)
  refine (D12.ext x1215).set rfl (by decide) e15 ((D12.ext (x13.trans x14)).hid.ne hr3) ?_ ?_ ?_ fun h16 D16 oD16 => ?_
  · rw [List.length_append]; simp only [List.length_cons, List.length_nil]; omega
  · rw [List.length_append]; simp only [List.length_cons, List.length_nil]; omega
  · refine av_app (fun x hx => (v1 x hx).ext x1215) ?_
    have vr : VX S' h15 (.loc r1) 3 400 := VX.mono (.lst (n := 0) (m := 2) ((x14.trans x15) _ _ e13) (D12.hid.ne hr1) (.all (m := 0) (by (repeat' (first | exact av_nil | refine av_cons ?_ ?_)); all_goals exact iv _ (by omega)))) (by decide) (by decide)
    simp only [List.cons_append, List.nil_append, show (10 : Int) ^ Int.toNat 9 = 1000000000 from by decide, show (10 : Int) ^ Int.toNat 12 = 1000000000000 from by decide]
    ((repeat' (first | exact av_nil | refine av_cons ?_ ?_)); all_goals (first | (refine tpw ?_ (Nat.le_of_ble_eq_true rfl); (repeat' (first | exact av_nil | refine av_cons ?_ ?_)); all_goals (first | exact iv _ (by omega) | exact .bl | exact .non | exact .str (by decide) | assumption)) | (first | exact iv _ (by omega) | exact .bl | exact .non | exact .str (by decide) | assumption)))
  clear D12 x1215 e15 hr3 e14 hr2 e13 hr1 x13 x14 x15 q1 n1 m1 g1 v1
  (conv => whnf); (repeat (first | (refine w_need rfl ?_; (conv => whnf)) | (refine w_ix (by assumption) rfl ?_; (conv => whnf)) | (refine w_ix hupd_same rfl ?_; (conv => whnf)) | (refine w_setL (by assumption) rfl ?_; (conv => whnf)) | (refine w_setL hupd_same rfl ?_; (conv => whnf)) | (refine w_eqi ?_; (conv => whnf)) | (refine w_eqs ?_; (conv => whnf)) | (refine w_t (by first | rfl | decide | assumption) ?_; (conv => whnf)) | (refine w_f (by first | rfl | decide | assumption) ?_; (conv => whnf)) | (refine And.intro (by first | omega | rfl | decide | assumption | exact Nat.le_of_ble_eq_true rfl | exact mulR (by omega) (by omega) | exact mulL (by omega) (by omega) | exact mulM (by omega) (by omega) | exact divOk (by omega) (by omega) | exact Exists.intro _ (by assumption)) ?_; (conv => whnf))))
  intro r1 hr1; generalize hh_h17 : hupd _ r1 _ = h17; obtain ⟨x17, e17⟩ := newAt hh_h17 hr1
  (conv => whnf); (repeat (first | (refine w_need rfl ?_; (conv => whnf)) | (refine w_ix (by assumption) rfl ?_; (conv => whnf)) | (refine w_ix hupd_same rfl ?_; (conv => whnf)) | (refine w_setL (by assumption) rfl ?_; (conv => whnf)) | (refine w_setL hupd_same rfl ?_; (conv => whnf)) | (refine w_eqi ?_; (conv => whnf)) | (refine w_eqs ?_; (conv => whnf)) | (refine w_t (by first | rfl | decide | assumption) ?_; (conv => whnf)) | (refine w_f (by first | rfl | decide | assumption) ?_; (conv => whnf)) | (refine And.intro (by first | omega | rfl | decide | assumption | exact Nat.le_of_ble_eq_true rfl | exact mulR (by omega) (by omega) | exact mulL (by omega) (by omega) | exact mulM (by omega) (by omega) | exact divOk (by omega) (by omega) | exact Exists.intro _ (by assumption)) ?_; (conv => whnf))))
  refine (D16.ext x17).set rfl (by decide) e17 (D16.hid.ne hr1) (show 7 ≤ 700 by decide) (show 0 < 7 by decide) ?_ fun h18 D18 oD18 => ?_
  · ((repeat' (first | exact av_nil | refine av_cons ?_ ?_)); all_goals (first | (refine tpw ?_ (Nat.le_of_ble_eq_true rfl); (repeat' (first | exact av_nil | refine av_cons ?_ ?_)); all_goals (first | exact iv _ (by omega) | exact .bl | exact .non | exact .str (by decide) | assumption)) | (first | exact iv _ (by omega) | exact .bl | exact .non | exact .str (by decide) | assumption)))
  clear D16 hr1 e17 x17
  have vt : ∀ x ∈ kk.ts.map (fun t => tupI t.l), ∀ h, VX S' h x 2 20 := fun x hx h => by
    obtain ⟨t, ht, rfl⟩ := List.mem_map.mp hx
    obtain ⟨⟨a, c⟩, ⟨a', c'⟩, ⟨d, e⟩, f, g⟩ := K.ti t ht
    show VX S' h (.tup [.int t.a, .int t.b, .int t.lo, .int t.hi]) 2 20
    refine tp ?_ (Nat.le_of_ble_eq_true rfl)
    (repeat' (first | exact av_nil | refine av_cons ?_ ?_))
    all_goals exact iv _ (by omega)
  have lt : (kk.ts.map fun t => tupI t.l).length ≤ 6 := by rw [List.length_map]; exact K12
  have lc1 : (cutD (kk.ts.map fun t => tupI t.l) none (some 1)).length ≤ 6 := Nat.le_trans (cutD_len _ _ _) lt
  have lc2 : (cutD (kk.ts.map fun t => tupI t.l) (some 1) none).length ≤ 6 := Nat.le_trans (cutD_len _ _ _) lt
  have vc1 : ∀ x ∈ cutD (kk.ts.map fun t => tupI t.l) none (some 1), ∀ h, VX S' h x 2 20 := fun x hx => vt x (mem_cutD hx)
  have vc2 : ∀ x ∈ cutD (kk.ts.map fun t => tupI t.l) (some 1) none, ∀ h, VX S' h x 2 20 := fun x hx => vt x (mem_cutD hx)
  (conv => whnf); (repeat (first | (refine w_need rfl ?_; (conv => whnf)) | (refine w_ix (by assumption) rfl ?_; (conv => whnf)) | (refine w_ix hupd_same rfl ?_; (conv => whnf)) | (refine w_setL (by assumption) rfl ?_; (conv => whnf)) | (refine w_setL hupd_same rfl ?_; (conv => whnf)) | (refine w_eqi ?_; (conv => whnf)) | (refine w_eqs ?_; (conv => whnf)) | (refine w_t (by first | rfl | decide | assumption) ?_; (conv => whnf)) | (refine w_f (by first | rfl | decide | assumption) ?_; (conv => whnf)) | (refine And.intro (by first | omega | rfl | decide | assumption | exact Nat.le_of_ble_eq_true rfl | exact mulR (by omega) (by omega) | exact mulL (by omega) (by omega) | exact mulM (by omega) (by omega) | exact divOk (by omega) (by omega) | exact Exists.intro _ (by assumption)) ?_; (conv => whnf))))
  intro r1 hr1; generalize hh_h19 : hupd _ r1 _ = h19; obtain ⟨x19, e19⟩ := newAt hh_h19 hr1
  (conv => whnf); (repeat (first | (refine w_need rfl ?_; (conv => whnf)) | (refine w_ix (by assumption) rfl ?_; (conv => whnf)) | (refine w_ix hupd_same rfl ?_; (conv => whnf)) | (refine w_setL (by assumption) rfl ?_; (conv => whnf)) | (refine w_setL hupd_same rfl ?_; (conv => whnf)) | (refine w_eqi ?_; (conv => whnf)) | (refine w_eqs ?_; (conv => whnf)) | (refine w_t (by first | rfl | decide | assumption) ?_; (conv => whnf)) | (refine w_f (by first | rfl | decide | assumption) ?_; (conv => whnf)) | (refine And.intro (by first | omega | rfl | decide | assumption | exact Nat.le_of_ble_eq_true rfl | exact mulR (by omega) (by omega) | exact mulL (by omega) (by omega) | exact mulM (by omega) (by omega) | exact divOk (by omega) (by omega) | exact Exists.intro _ (by assumption)) ?_; (conv => whnf))))
  generalize cutD (kk.ts.map fun t => tupI t.l) none (some 1) = C1 at lc1 vc1 ⊢
  refine ⟨Nat.le_of_lt (small2 (by omega)), ?_⟩
  (conv => whnf); (repeat (first | (refine w_need rfl ?_; (conv => whnf)) | (refine w_ix (by assumption) rfl ?_; (conv => whnf)) | (refine w_ix hupd_same rfl ?_; (conv => whnf)) | (refine w_setL (by assumption) rfl ?_; (conv => whnf)) | (refine w_setL hupd_same rfl ?_; (conv => whnf)) | (refine w_eqi ?_; (conv => whnf)) | (refine w_eqs ?_; (conv => whnf)) | (refine w_t (by first | rfl | decide | assumption) ?_; (conv => whnf)) | (refine w_f (by first | rfl | decide | assumption) ?_; (conv => whnf)) | (refine And.intro (by first | omega | rfl | decide | assumption | exact Nat.le_of_ble_eq_true rfl | exact mulR (by omega) (by omega) | exact mulL (by omega) (by omega) | exact mulM (by omega) (by omega) | exact divOk (by omega) (by omega) | exact Exists.intro _ (by assumption)) ?_; (conv => whnf))))
  generalize cutD (kk.ts.map fun t => tupI t.l) (some 1) none = C2 at lc2 vc2 ⊢
  intro r2 hr2; generalize hh_h20 : hupd _ r2 _ = h20; obtain ⟨x20, e20⟩ := newAt hh_h20 hr2
  (conv => whnf); (repeat (first | (refine w_need rfl ?_; (conv => whnf)) | (refine w_ix (by assumption) rfl ?_; (conv => whnf)) | (refine w_ix hupd_same rfl ?_; (conv => whnf)) | (refine w_setL (by assumption) rfl ?_; (conv => whnf)) | (refine w_setL hupd_same rfl ?_; (conv => whnf)) | (refine w_eqi ?_; (conv => whnf)) | (refine w_eqs ?_; (conv => whnf)) | (refine w_t (by first | rfl | decide | assumption) ?_; (conv => whnf)) | (refine w_f (by first | rfl | decide | assumption) ?_; (conv => whnf)) | (refine And.intro (by first | omega | rfl | decide | assumption | exact Nat.le_of_ble_eq_true rfl | exact mulR (by omega) (by omega) | exact mulL (by omega) (by omega) | exact mulM (by omega) (by omega) | exact divOk (by omega) (by omega) | exact Exists.intro _ (by assumption)) ?_; (conv => whnf))))
  refine (D18.ext (x19.trans x20)).set rfl (by decide) e20 ((D18.ext x19).hid.ne hr2) (show 7 ≤ 800 by decide) (show 0 < 7 by decide) ?_ fun h21 D21 oD21 => ?_
  · refine av_cons ?_ (av_cons ?_ (av_cons ?_ (av_cons ?_ (av_cons ?_ (av_cons ?_ (av_cons ?_ av_nil))))))
    · exact VX.mono (.tup (n := 0) (m := 0) .n) (by decide) (by decide)
    · refine VX.mono (.lst (x20 _ _ e19) (D18.hid.ne hr1) (.all fun x hx => vt x hx _)) (by decide) ?_
      have : (kk.ts.map fun t => tupI t.l).length * (20 + 1) ≤ 6 * 21 := Nat.mul_le_mul_right _ lt
      omega
    · exact tpl (fun x hx => vt x (List.mem_reverse.mp hx) _) (by rw [List.length_reverse]; omega)
    · exact tpl (av_app (fun x hx => vt x hx _) (fun x hx => vc1 x hx _)) (by rw [List.length_append]; omega)
    · exact tpl (fun x hx => vc2 x hx _) (by omega)
    · exact .non
    · exact tpw (av_cons .non av_nil) (by decide)
  clear D18 hr1 hr2 e19 e20 x19 x20 lc1 lc2 vc1 vc2
  have pdT : ∀ h, PD h (.tup (kk.ts.map fun t => tupI t.l)) (.tuple (kk.ts.map fun t => .tuple [.int t.a, .int t.b, .int t.lo, .int t.hi])) := fun h => .tup (pds_map (fun t => PD.tup (.cons (.int _) (.cons (.int _) (.cons (.int _) (.cons (.int _) .nil))))) kk.ts)
  have shT : SeqAt.shaped (.tuple (kk.ts.map fun t => .tuple [.int t.a, .int t.b, .int t.lo, .int t.hi])) = true := (Sh.tup (ShL.map (d := 2) fun t _ => .tup (.c .int (.c .int (.c .int (.c .int .n)))))).ok (by decide)
  dsimp only
  refine w_cut (P := fun τ' h' => Dk b pd S' h od h' 9 [0, 1, 2, 3, 4] ∧ ∃ a4 a5 a15 a16, τ' = [some (.loc b), some kk.d, some (.loc pd), none, a4, a5, none, some (.int kk.dials), some (.tup [.int kk.l1, .int kk.l2]), some (.tup [.int kk.cold, .int kk.rise]), some (.int kk.ov), some (.tup (kk.ts.map fun t => tupI t.l)), some (.tup (kk.ds.map pairD)), some (.int at_), some od, a15, a16, none, none]) (fun nx hnx => ?_) ?_
  · (conv => whnf)
    refine ⟨Nat.zero_le _, ?_⟩
    (conv => whnf)
    refine w_eqd (pdT _) (.tup .nil) shT ((Sh.tup (d := 0) .n).ok (by decide)) ?_
    rw [if_pos rfl, eqvT_nil]
    refine w_iteb (fun c => ?_) (fun c => ?_)
    rotate_left
    · exact hnx _ _ ⟨D21.up (by decide) (by decide), _, _, _, _, rfl⟩
    have hne : kk.ts ≠ [] := fun z => by rw [z] at c; cases c
    have lne : 0 < kk.ts.length := List.length_pos_iff.mpr hne
    (conv => whnf)
    refine w_need (v := .int kk.ts.length) (by show some (D.int ((kk.ts.map fun t => tupI t.l).length : Nat)) = _; rw [List.length_map]) ?_
    (conv => whnf); (repeat (first | (refine w_need rfl ?_; (conv => whnf)) | (refine w_ix (by assumption) rfl ?_; (conv => whnf)) | (refine w_ix hupd_same rfl ?_; (conv => whnf)) | (refine w_setL (by assumption) rfl ?_; (conv => whnf)) | (refine w_setL hupd_same rfl ?_; (conv => whnf)) | (refine w_eqi ?_; (conv => whnf)) | (refine w_eqs ?_; (conv => whnf)) | (refine w_t (by first | rfl | decide | assumption) ?_; (conv => whnf)) | (refine w_f (by first | rfl | decide | assumption) ?_; (conv => whnf)) | (refine And.intro (by first | omega | rfl | decide | assumption | exact Nat.le_of_ble_eq_true rfl | exact mulR (by omega) (by omega) | exact mulL (by omega) (by omega) | exact mulM (by omega) (by omega) | exact divOk (by omega) (by omega) | exact Exists.intro _ (by assumption)) ?_; (conv => whnf))))
    refine sp_draw D21.hid.bag (by omega) (by omega) fun i h22 f22 i0 i1 => ?_
    obtain ⟨i, rfl⟩ := Int.eq_ofNat_of_zero_le i0
    have D22 := D21.fr f22
    clear D21 f22
    obtain ⟨t1, et1⟩ : ∃ q, kk.ts[i]? = some q := ⟨kk.ts[i]'(by omega), List.getElem?_eq_getElem _⟩
    obtain ⟨⟨ta, tb⟩, ⟨tc, td⟩, ⟨te, tf⟩, tg, th⟩ := K.ti t1 (List.mem_of_getElem? et1)
    (conv => whnf); (repeat (first | (refine w_need rfl ?_; (conv => whnf)) | (refine w_ix (by assumption) rfl ?_; (conv => whnf)) | (refine w_ix hupd_same rfl ?_; (conv => whnf)) | (refine w_setL (by assumption) rfl ?_; (conv => whnf)) | (refine w_setL hupd_same rfl ?_; (conv => whnf)) | (refine w_eqi ?_; (conv => whnf)) | (refine w_eqs ?_; (conv => whnf)) | (refine w_t (by first | rfl | decide | assumption) ?_; (conv => whnf)) | (refine w_f (by first | rfl | decide | assumption) ?_; (conv => whnf)) | (refine And.intro (by first | omega | rfl | decide | assumption | exact Nat.le_of_ble_eq_true rfl | exact mulR (by omega) (by omega) | exact mulL (by omega) (by omega) | exact mulM (by omega) (by omega) | exact divOk (by omega) (by omega) | exact Exists.intro _ (by assumption)) ?_; (conv => whnf))))
    refine w_need (v := .tup [.int t1.a, .int t1.b, .int t1.lo, .int t1.hi]) (atI_nth (by rw [List.getElem?_map, et1]; rfl)) ?_
    (conv => whnf); (repeat (first | (refine w_need rfl ?_; (conv => whnf)) | (refine w_ix (by assumption) rfl ?_; (conv => whnf)) | (refine w_ix hupd_same rfl ?_; (conv => whnf)) | (refine w_setL (by assumption) rfl ?_; (conv => whnf)) | (refine w_setL hupd_same rfl ?_; (conv => whnf)) | (refine w_eqi ?_; (conv => whnf)) | (refine w_eqs ?_; (conv => whnf)) | (refine w_t (by first | rfl | decide | assumption) ?_; (conv => whnf)) | (refine w_f (by first | rfl | decide | assumption) ?_; (conv => whnf)) | (refine And.intro (by first | omega | rfl | decide | assumption | exact Nat.le_of_ble_eq_true rfl | exact mulR (by omega) (by omega) | exact mulL (by omega) (by omega) | exact mulM (by omega) (by omega) | exact divOk (by omega) (by omega) | exact Exists.intro _ (by assumption)) ?_; (conv => whnf))))
    refine sp_bent_tie D22.hid ta tb tc td (by omega) (by omega) (by omega) (by omega) (by omega) (by omega) fun z1 h23 f23 vz1 => ?_
    have D23 := D22.fr f23
    clear D22 f23
    (conv => whnf)
    refine w_need (v := .int kk.ts.length) (by show some (D.int ((kk.ts.map fun t => tupI t.l).length : Nat)) = _; rw [List.length_map]) ?_
    (conv => whnf); (repeat (first | (refine w_need rfl ?_; (conv => whnf)) | (refine w_ix (by assumption) rfl ?_; (conv => whnf)) | (refine w_ix hupd_same rfl ?_; (conv => whnf)) | (refine w_setL (by assumption) rfl ?_; (conv => whnf)) | (refine w_setL hupd_same rfl ?_; (conv => whnf)) | (refine w_eqi ?_; (conv => whnf)) | (refine w_eqs ?_; (conv => whnf)) | (refine w_t (by first | rfl | decide | assumption) ?_; (conv => whnf)) | (refine w_f (by first | rfl | decide | assumption) ?_; (conv => whnf)) | (refine And.intro (by first | omega | rfl | decide | assumption | exact Nat.le_of_ble_eq_true rfl | exact mulR (by omega) (by omega) | exact mulL (by omega) (by omega) | exact mulM (by omega) (by omega) | exact divOk (by omega) (by omega) | exact Exists.intro _ (by assumption)) ?_; (conv => whnf))))
    refine sp_draw D23.hid.bag (by omega) (by omega) fun j h24 f24 j0 j1 => ?_
    obtain ⟨j, rfl⟩ := Int.eq_ofNat_of_zero_le j0
    have D24 := D23.fr f24
    have vz := vz1.fr f24 D23.hid.mem
    clear D23 f24 vz1
    obtain ⟨la, lb⟩ := cut_at (xs := kk.ts.map fun t => tupI t.l) (i := i) (by rw [List.length_map]; omega)
    have va : ∀ x ∈ cutD (kk.ts.map fun t => tupI t.l) none (some (i : Int)), ∀ h, VX S' h x 2 20 := fun x hx => vt x (mem_cutD hx)
    have vb : ∀ x ∈ cutD (kk.ts.map fun t => tupI t.l) (some ((i : Int) + 1)) none, ∀ h, VX S' h x 2 20 := fun x hx => vt x (mem_cutD hx)
    rw [List.length_map] at lb
    (conv => whnf); (repeat (first | (refine w_need rfl ?_; (conv => whnf)) | (refine w_ix (by assumption) rfl ?_; (conv => whnf)) | (refine w_ix hupd_same rfl ?_; (conv => whnf)) | (refine w_setL (by assumption) rfl ?_; (conv => whnf)) | (refine w_setL hupd_same rfl ?_; (conv => whnf)) | (refine w_eqi ?_; (conv => whnf)) | (refine w_eqs ?_; (conv => whnf)) | (refine w_t (by first | rfl | decide | assumption) ?_; (conv => whnf)) | (refine w_f (by first | rfl | decide | assumption) ?_; (conv => whnf)) | (refine And.intro (by first | omega | rfl | decide | assumption | exact Nat.le_of_ble_eq_true rfl | exact mulR (by omega) (by omega) | exact mulL (by omega) (by omega) | exact mulM (by omega) (by omega) | exact divOk (by omega) (by omega) | exact Exists.intro _ (by assumption)) ?_; (conv => whnf))))
    generalize cutD (kk.ts.map fun t => tupI t.l) none (some (i : Int)) = A at la va ⊢
    refine ⟨Nat.le_of_lt (small2 (by simp only [List.length_cons, List.length_nil]; omega)), ?_⟩
    (conv => whnf)
    generalize cutD (kk.ts.map fun t => tupI t.l) (some ((i : Int) + 1)) none = A2 at lb vb ⊢
    refine ⟨Nat.le_of_lt (small2 (by simp only [List.length_append, List.length_cons, List.length_nil]; omega)), ?_⟩
    have lw : (A ++ [z1] ++ A2).length = kk.ts.length := by simp only [List.length_append, List.length_cons, List.length_nil]; omega
    have vw : ∀ h', (∀ n m, VX S' h24 z1 n m → VX S' h' z1 n m) → ∀ x ∈ A ++ [z1] ++ A2, VX S' h' x 2 20 := fun h' kz => av_app (av_app (fun x hx => va x hx _) (av_cons (kz _ _ vz) av_nil)) (fun x hx => vb x hx _)
    generalize A ++ [z1] ++ A2 = W at lw vw ⊢
    obtain ⟨t2, et2⟩ : ∃ q, kk.ts[j]? = some q := ⟨kk.ts[j]'(by omega), List.getElem?_eq_getElem _⟩
    obtain ⟨⟨ua, ub⟩, ⟨uc, ud⟩, ⟨ue, uf⟩, ug, uh⟩ := K.ti t2 (List.mem_of_getElem? et2)
    obtain ⟨ld, le⟩ := cut_at (xs := W) (i := j) (by omega)
    (conv => whnf); (repeat (first | (refine w_need rfl ?_; (conv => whnf)) | (refine w_ix (by assumption) rfl ?_; (conv => whnf)) | (refine w_ix hupd_same rfl ?_; (conv => whnf)) | (refine w_setL (by assumption) rfl ?_; (conv => whnf)) | (refine w_setL hupd_same rfl ?_; (conv => whnf)) | (refine w_eqi ?_; (conv => whnf)) | (refine w_eqs ?_; (conv => whnf)) | (refine w_t (by first | rfl | decide | assumption) ?_; (conv => whnf)) | (refine w_f (by first | rfl | decide | assumption) ?_; (conv => whnf)) | (refine And.intro (by first | omega | rfl | decide | assumption | exact Nat.le_of_ble_eq_true rfl | exact mulR (by omega) (by omega) | exact mulL (by omega) (by omega) | exact mulM (by omega) (by omega) | exact divOk (by omega) (by omega) | exact Exists.intro _ (by assumption)) ?_; (conv => whnf))))
    obtain ⟨pL, L, g1, m1, n1, q1, l1, _, v1⟩ := D24.pt 4 (by simp)
    refine w_need g1 ?_
    (conv => whnf); (repeat (first | (refine w_need rfl ?_; (conv => whnf)) | (refine w_ix (by assumption) rfl ?_; (conv => whnf)) | (refine w_ix hupd_same rfl ?_; (conv => whnf)) | (refine w_setL (by assumption) rfl ?_; (conv => whnf)) | (refine w_setL hupd_same rfl ?_; (conv => whnf)) | (refine w_eqi ?_; (conv => whnf)) | (refine w_eqs ?_; (conv => whnf)) | (refine w_t (by first | rfl | decide | assumption) ?_; (conv => whnf)) | (refine w_f (by first | rfl | decide | assumption) ?_; (conv => whnf)) | (refine And.intro (by first | omega | rfl | decide | assumption | exact Nat.le_of_ble_eq_true rfl | exact mulR (by omega) (by omega) | exact mulL (by omega) (by omega) | exact mulM (by omega) (by omega) | exact divOk (by omega) (by omega) | exact Exists.intro _ (by assumption)) ?_; (conv => whnf))))
    refine w_need (v := .tup [.int t2.a, .int t2.b, .int t2.lo, .int t2.hi]) (atI_nth (by rw [List.getElem?_map, et2]; rfl)) ?_
    (conv => whnf); (repeat (first | (refine w_need rfl ?_; (conv => whnf)) | (refine w_ix (by assumption) rfl ?_; (conv => whnf)) | (refine w_ix hupd_same rfl ?_; (conv => whnf)) | (refine w_setL (by assumption) rfl ?_; (conv => whnf)) | (refine w_setL hupd_same rfl ?_; (conv => whnf)) | (refine w_eqi ?_; (conv => whnf)) | (refine w_eqs ?_; (conv => whnf)) | (refine w_t (by first | rfl | decide | assumption) ?_; (conv => whnf)) | (refine w_f (by first | rfl | decide | assumption) ?_; (conv => whnf)) | (refine And.intro (by first | omega | rfl | decide | assumption | exact Nat.le_of_ble_eq_true rfl | exact mulR (by omega) (by omega) | exact mulL (by omega) (by omega) | exact mulM (by omega) (by omega) | exact divOk (by omega) (by omega) | exact Exists.intro _ (by assumption)) ?_; (conv => whnf))))
    refine sp_bent_tie D24.hid ua ub uc ud (by omega) (by omega) (by omega) (by omega) (by omega) (by omega) fun z2 h25 f25 vz2 => ?_
    have D25 := D24.fr f25
    have q1 := f25.1 _ _ (fun z => n1 (by rw [z]; exact D24.hid.mem)) q1
    have v1 : ∀ x ∈ L, VX S' h25 x 3 400 := fun x hx => (v1 x hx).fr f25 D24.hid.mem
    have vw5 : ∀ x ∈ W, VX S' h25 x 2 20 := vw h25 fun _ _ v => v.fr f25 D24.hid.mem
    have vz5 := vz.fr f25 D24.hid.mem
    have vd : ∀ x ∈ cutD W none (some (j : Int)), VX S' h25 x 2 20 := fun x hx => vw5 x (mem_cutD hx)
    have ve : ∀ x ∈ cutD W (some ((j : Int) + 1)) none, VX S' h25 x 2 20 := fun x hx => vw5 x (mem_cutD hx)
    clear D24 f25 vw vw5 g1 vz
    (conv => whnf); (repeat (first | (refine w_need rfl ?_; (conv => whnf)) | (refine w_ix (by assumption) rfl ?_; (conv => whnf)) | (refine w_ix hupd_same rfl ?_; (conv => whnf)) | (refine w_setL (by assumption) rfl ?_; (conv => whnf)) | (refine w_setL hupd_same rfl ?_; (conv => whnf)) | (refine w_eqi ?_; (conv => whnf)) | (refine w_eqs ?_; (conv => whnf)) | (refine w_t (by first | rfl | decide | assumption) ?_; (conv => whnf)) | (refine w_f (by first | rfl | decide | assumption) ?_; (conv => whnf)) | (refine And.intro (by first | omega | rfl | decide | assumption | exact Nat.le_of_ble_eq_true rfl | exact mulR (by omega) (by omega) | exact mulL (by omega) (by omega) | exact mulM (by omega) (by omega) | exact divOk (by omega) (by omega) | exact Exists.intro _ (by assumption)) ?_; (conv => whnf))))
    generalize cutD W none (some (j : Int)) = W1 at ld vd ⊢
    refine ⟨Nat.le_of_lt (small2 (by simp only [List.length_cons, List.length_nil]; omega)), ?_⟩
    (conv => whnf)
    generalize cutD W (some ((j : Int) + 1)) none = W2 at le ve ⊢
    refine ⟨Nat.le_of_lt (small2 (by simp only [List.length_append, List.length_cons, List.length_nil]; omega)), ?_⟩
    have vF : VX S' h25 (.tup (W1 ++ [z2] ++ W2)) 3 400 := tpl (av_app (av_app vd (av_cons vz2 av_nil)) ve) (by simp only [List.length_append, List.length_cons, List.length_nil]; omega)
    generalize W1 ++ [z2] ++ W2 = F at vF ⊢
    (conv => whnf); (repeat (first | (refine w_need rfl ?_; (conv => whnf)) | (refine w_ix (by assumption) rfl ?_; (conv => whnf)) | (refine w_ix hupd_same rfl ?_; (conv => whnf)) | (refine w_setL (by assumption) rfl ?_; (conv => whnf)) | (refine w_setL hupd_same rfl ?_; (conv => whnf)) | (refine w_eqi ?_; (conv => whnf)) | (refine w_eqs ?_; (conv => whnf)) | (refine w_t (by first | rfl | decide | assumption) ?_; (conv => whnf)) | (refine w_f (by first | rfl | decide | assumption) ?_; (conv => whnf)) | (refine And.intro (by first | omega | rfl | decide | assumption | exact Nat.le_of_ble_eq_true rfl | exact mulR (by omega) (by omega) | exact mulL (by omega) (by omega) | exact mulM (by omega) (by omega) | exact divOk (by omega) (by omega) | exact Exists.intro _ (by assumption)) ?_; (conv => whnf))))
    intro r1 hr1; generalize hh_h26 : hupd _ r1 _ = h26; obtain ⟨x26, e26⟩ := newAt hh_h26 hr1
    (conv => whnf)
    refine ⟨_, e26, by decide, by decide, Nat.le_of_lt (small2 (show 1 * 2 ≤ 1000000 by decide)), ?_⟩
    intro r2 hr2; generalize hh_h27 : hupd _ r2 _ = h27; obtain ⟨x27, e27⟩ := newAt hh_h27 hr2
    (conv => whnf)
    refine ⟨_, _, (x26.trans x27) _ _ q1, e27, Nat.le_of_lt (small2 (show L.length + 2 ≤ 1000000 by omega)), ?_⟩
    intro r3 hr3; generalize hh_h28 : hupd _ r3 _ = h28; obtain ⟨x28, e28⟩ := newAt hh_h28 hr3
    (conv => whnf); (repeat (first | (refine w_need rfl ?_; (conv => whnf)) | (refine w_ix (by assumption) rfl ?_; (conv => whnf)) | (refine w_ix hupd_same rfl ?_; (conv => whnf)) | (refine w_setL (by assumption) rfl ?_; (conv => whnf)) | (refine w_setL hupd_same rfl ?_; (conv => whnf)) | (refine w_eqi ?_; (conv => whnf)) | (refine w_eqs ?_; (conv => whnf)) | (refine w_t (by first | rfl | decide | assumption) ?_; (conv => whnf)) | (refine w_f (by first | rfl | decide | assumption) ?_; (conv => whnf)) | (refine And.intro (by first | omega | rfl | decide | assumption | exact Nat.le_of_ble_eq_true rfl | exact mulR (by omega) (by omega) | exact mulL (by omega) (by omega) | exact mulM (by omega) (by omega) | exact divOk (by omega) (by omega) | exact Exists.intro _ (by assumption)) ?_; (conv => whnf))))
    have x2528 := x26.trans (x27.trans x28)
    refine (D25.ext x2528).set rfl (by decide) e28 ((D25.ext (x26.trans x27)).hid.ne hr3) ?_ ?_ ?_ fun h29 D29 oD29 => ?_
    · rw [List.length_append]
      show L.length + 2 ≤ _
      omega
    · rw [List.length_append]
      show 0 < L.length + 2
      omega
    · refine av_app (fun x hx => (v1 x hx).ext x2528) ?_
      exact av_cons (vF.ext x2528) (av_cons (vF.ext x2528) av_nil)
    have vz9 : VX S' h29 z1 2 20 := (vz5.ext x2528).off oD29
    clear D25 x2528 e28 hr3 e27 hr2 e26 hr1 x26 x27 x28 q1 n1 m1 v1 vF vz5 vz2 vd ve oD29 ld le
    obtain ⟨la, lb⟩ := cut_at (xs := kk.ts.map fun t => tupI t.l) (i := i) (by rw [List.length_map]; omega)
    have va : ∀ x ∈ cutD (kk.ts.map fun t => tupI t.l) none (some (i : Int)), ∀ h, VX S' h x 2 20 := fun x hx => vt x (mem_cutD hx)
    have vb : ∀ x ∈ cutD (kk.ts.map fun t => tupI t.l) (some ((i : Int) + 1)) none, ∀ h, VX S' h x 2 20 := fun x hx => vt x (mem_cutD hx)
    rw [List.length_map] at lb
    (conv => whnf); (repeat (first | (refine w_need rfl ?_; (conv => whnf)) | (refine w_ix (by assumption) rfl ?_; (conv => whnf)) | (refine w_ix hupd_same rfl ?_; (conv => whnf)) | (refine w_setL (by assumption) rfl ?_; (conv => whnf)) | (refine w_setL hupd_same rfl ?_; (conv => whnf)) | (refine w_eqi ?_; (conv => whnf)) | (refine w_eqs ?_; (conv => whnf)) | (refine w_t (by first | rfl | decide | assumption) ?_; (conv => whnf)) | (refine w_f (by first | rfl | decide | assumption) ?_; (conv => whnf)) | (refine And.intro (by first | omega | rfl | decide | assumption | exact Nat.le_of_ble_eq_true rfl | exact mulR (by omega) (by omega) | exact mulL (by omega) (by omega) | exact mulM (by omega) (by omega) | exact divOk (by omega) (by omega) | exact Exists.intro _ (by assumption)) ?_; (conv => whnf))))
    obtain ⟨pL, L, g1, m1, n1, q1, l1, _, v1⟩ := D29.pt 4 (by simp)
    refine w_need g1 ?_
    (conv => whnf); (repeat (first | (refine w_need rfl ?_; (conv => whnf)) | (refine w_ix (by assumption) rfl ?_; (conv => whnf)) | (refine w_ix hupd_same rfl ?_; (conv => whnf)) | (refine w_setL (by assumption) rfl ?_; (conv => whnf)) | (refine w_setL hupd_same rfl ?_; (conv => whnf)) | (refine w_eqi ?_; (conv => whnf)) | (refine w_eqs ?_; (conv => whnf)) | (refine w_t (by first | rfl | decide | assumption) ?_; (conv => whnf)) | (refine w_f (by first | rfl | decide | assumption) ?_; (conv => whnf)) | (refine And.intro (by first | omega | rfl | decide | assumption | exact Nat.le_of_ble_eq_true rfl | exact mulR (by omega) (by omega) | exact mulL (by omega) (by omega) | exact mulM (by omega) (by omega) | exact divOk (by omega) (by omega) | exact Exists.intro _ (by assumption)) ?_; (conv => whnf))))
    generalize cutD (kk.ts.map fun t => tupI t.l) none (some (i : Int)) = A at la va ⊢
    refine ⟨Nat.le_of_lt (small2 (by simp only [List.length_cons, List.length_nil]; omega)), ?_⟩
    (conv => whnf)
    generalize cutD (kk.ts.map fun t => tupI t.l) (some ((i : Int) + 1)) none = A2 at lb vb ⊢
    refine ⟨Nat.le_of_lt (small2 (by simp only [List.length_append, List.length_cons, List.length_nil]; omega)), ?_⟩
    have vF : ∀ h', Ext h29 h' → VX S' h' (.tup (A ++ [z1] ++ A2)) 3 400 := fun h' x => tpl (av_app (av_app (fun x hx => va x hx _) (av_cons (vz9.ext x) av_nil)) (fun x hx => vb x hx _)) (by simp only [List.length_append, List.length_cons, List.length_nil]; omega)
    generalize A ++ [z1] ++ A2 = F at vF ⊢
    (conv => whnf)
    have em : (kk.ts.map fun t => tupI t.l) = (kk.ts.map Tie.l).map tupI := by rw [List.map_map]; rfl
    have sk : ∀ (h' : DH) (R : DK), (∀ ys p h2, ys.Perm (kk.ts.map fun t => tupI t.l) → h' p = none → Ext h' h2 → h2 p = some (.lst ys) → R (.loc p) h2) → kSortT [.tup (kk.ts.map fun t => tupI t.l)] h' R := fun h' R kR => by
      rw [em] at kR ⊢
      exact w_sortT (by rw [List.length_map]; omega) (fun l hl => by
        obtain ⟨t, _, rfl⟩ := List.mem_map.mp hl
        exact List.cons_ne_nil _ _) kR
    refine sk _ _ fun ys ps h30 pm hps x30 e30 => ?_
    (conv => whnf)
    rw [tup_of e30]
    (conv => whnf); (repeat (first | (refine w_need rfl ?_; (conv => whnf)) | (refine w_ix (by assumption) rfl ?_; (conv => whnf)) | (refine w_ix hupd_same rfl ?_; (conv => whnf)) | (refine w_setL (by assumption) rfl ?_; (conv => whnf)) | (refine w_setL hupd_same rfl ?_; (conv => whnf)) | (refine w_eqi ?_; (conv => whnf)) | (refine w_eqs ?_; (conv => whnf)) | (refine w_t (by first | rfl | decide | assumption) ?_; (conv => whnf)) | (refine w_f (by first | rfl | decide | assumption) ?_; (conv => whnf)) | (refine And.intro (by first | omega | rfl | decide | assumption | exact Nat.le_of_ble_eq_true rfl | exact mulR (by omega) (by omega) | exact mulL (by omega) (by omega) | exact mulM (by omega) (by omega) | exact divOk (by omega) (by omega) | exact Exists.intro _ (by assumption)) ?_; (conv => whnf))))
    have ly : ys.length ≤ 6 := by rw [pm.length_eq]; exact lt
    have vy : ∀ x ∈ ys, ∀ h, VX S' h x 2 20 := fun x hx => vt x (pm.mem_iff.mp hx)
    refine ⟨Nat.le_of_lt (small2 (by simp only [List.length_cons, List.length_nil]; omega)), ?_⟩
    (conv => whnf); (repeat (first | (refine w_need rfl ?_; (conv => whnf)) | (refine w_ix (by assumption) rfl ?_; (conv => whnf)) | (refine w_ix hupd_same rfl ?_; (conv => whnf)) | (refine w_setL (by assumption) rfl ?_; (conv => whnf)) | (refine w_setL hupd_same rfl ?_; (conv => whnf)) | (refine w_eqi ?_; (conv => whnf)) | (refine w_eqs ?_; (conv => whnf)) | (refine w_t (by first | rfl | decide | assumption) ?_; (conv => whnf)) | (refine w_f (by first | rfl | decide | assumption) ?_; (conv => whnf)) | (refine And.intro (by first | omega | rfl | decide | assumption | exact Nat.le_of_ble_eq_true rfl | exact mulR (by omega) (by omega) | exact mulL (by omega) (by omega) | exact mulM (by omega) (by omega) | exact divOk (by omega) (by omega) | exact Exists.intro _ (by assumption)) ?_; (conv => whnf))))
    intro r1 hr1; generalize hh_h31 : hupd _ r1 _ = h31; obtain ⟨x31, e31⟩ := newAt hh_h31 hr1
    (conv => whnf)
    refine ⟨_, e31, by decide, by decide, Nat.le_of_lt (small2 (show 2 * 3 ≤ 1000000 by decide)), ?_⟩
    intro r2 hr2; generalize hh_h32 : hupd _ r2 _ = h32; obtain ⟨x32, e32⟩ := newAt hh_h32 hr2
    (conv => whnf)
    refine ⟨_, _, (x30.trans (x31.trans x32)) _ _ q1, e32, Nat.le_of_lt (small2 (show L.length + 6 ≤ 1000000 by omega)), ?_⟩
    intro r3 hr3; generalize hh_h33 : hupd _ r3 _ = h33; obtain ⟨x33, e33⟩ := newAt hh_h33 hr3
    (conv => whnf); (repeat (first | (refine w_need rfl ?_; (conv => whnf)) | (refine w_ix (by assumption) rfl ?_; (conv => whnf)) | (refine w_ix hupd_same rfl ?_; (conv => whnf)) | (refine w_setL (by assumption) rfl ?_; (conv => whnf)) | (refine w_setL hupd_same rfl ?_; (conv => whnf)) | (refine w_eqi ?_; (conv => whnf)) | (refine w_eqs ?_; (conv => whnf)) | (refine w_t (by first | rfl | decide | assumption) ?_; (conv => whnf)) | (refine w_f (by first | rfl | decide | assumption) ?_; (conv => whnf)) | (refine And.intro (by first | omega | rfl | decide | assumption | exact Nat.le_of_ble_eq_true rfl | exact mulR (by omega) (by omega) | exact mulL (by omega) (by omega) | exact mulM (by omega) (by omega) | exact divOk (by omega) (by omega) | exact Exists.intro _ (by assumption)) ?_; (conv => whnf))))
    have x2933 := x30.trans (x31.trans (x32.trans x33))
    refine (D29.ext x2933).set rfl (by decide) e33 ((D29.ext (x30.trans (x31.trans x32))).hid.ne hr3) ?_ ?_ ?_ fun h34 D34 oD34 => ?_
    · rw [List.length_append]
      show L.length + 6 ≤ _
      omega
    · rw [List.length_append]
      show 0 < L.length + 6
      omega
    · refine av_app (fun x hx => (v1 x hx).ext x2933) ?_
      have g1 := vF h33 x2933
      have g2 : VX S' h33 (.tup (ys ++ [z1])) 3 400 := tpl (av_app (fun x hx => vy x hx _) (av_cons (vz9.ext x2933) av_nil)) (by simp only [List.length_append, List.length_cons, List.length_nil]; omega)
      exact av_cons g1 (av_cons g2 (av_cons g1 (av_cons g2 (av_cons g1 (av_cons g2 av_nil)))))
    exact hnx _ _ ⟨D34.up (by decide) (by decide), _, _, _, _, rfl⟩
  rintro τ h40 ⟨D40, a4, a5, a15, a16, rfl⟩
  clear D21
  have vg : ∀ x ∈ kk.ds.map pairD, ∀ h, VX S' h x 2 20 := fun x hx h => by
    obtain ⟨p, hp, rfl⟩ := List.mem_map.mp hx
    obtain ⟨a, b, c⟩ := K.di p hp
    exact tp (av_cons (iv _ (by omega)) (av_cons (iv _ (by omega)) av_nil)) (Nat.le_of_ble_eq_true rfl)
  have lg : (kk.ds.map pairD).length = kk.ds.length := List.length_map ..
  have v6 : ∀ x ∈ [.int kk.dials, .tup [.int kk.l1, .int kk.l2], .tup [.int kk.cold, .int kk.rise], .int kk.ov, .tup (kk.ts.map fun t => tupI t.l), .tup (kk.ds.map pairD)], ∀ h, VX S' h x 3 400 := by
    refine av_cons (fun h => iv _ (by omega)) (av_cons (fun h => ?_) (av_cons (fun h => ?_) (av_cons (fun h => iv _ (by omega)) (av_cons (fun h => ?_) (av_cons (fun h => ?_) av_nil)))))
    · exact tpw (av_cons (iv _ (by omega)) (av_cons (iv _ (by omega)) av_nil)) (Nat.le_of_ble_eq_true rfl)
    · exact tpw (av_cons (iv _ (by omega)) (av_cons (iv _ (by omega)) av_nil)) (Nat.le_of_ble_eq_true rfl)
    · exact tpl (fun x hx => vt x hx h) (by omega)
    · exact tpl (fun x hx => vg x hx h) (by omega)
  have ng : kk.ds.map pairD ≠ [] := fun z => by rw [z] at lg; rw [← lg] at K13; exact absurd K13 (by decide)
  have cutN : ∀ (xs : List D) (n : Nat), (cutD xs none (some (n : Int))).length ≤ n := fun xs n => by rw [cutD_take, List.length_take]; exact Nat.min_le_left ..
  have vM : ∀ n h, ∀ x ∈ (List.replicate n (kk.ds.map pairD)).flatten, VX S' h x 2 20 := fun n h x hx => by
    obtain ⟨l, hl, hx⟩ := List.mem_flatten.mp hx
    rw [(List.mem_replicate.mp hl).2] at hx
    exact vg x hx h
  have lM : (List.replicate (3 : Int).toNat (kk.ds.map pairD)).flatten.length ≤ 18 := by
    show (kk.ds.map pairD ++ (kk.ds.map pairD ++ (kk.ds.map pairD ++ []))).length ≤ 18
    simp only [List.length_append, List.length_nil]; omega
  (conv => whnf)
  refine w_need (v := .int kk.ds.length) (by show some (D.int ((kk.ds.map pairD).length : Nat)) = _; rw [lg]) ?_
  (conv => whnf); (repeat (first | (refine w_need rfl ?_; (conv => whnf)) | (refine w_ix (by assumption) rfl ?_; (conv => whnf)) | (refine w_ix hupd_same rfl ?_; (conv => whnf)) | (refine w_setL (by assumption) rfl ?_; (conv => whnf)) | (refine w_setL hupd_same rfl ?_; (conv => whnf)) | (refine w_eqi ?_; (conv => whnf)) | (refine w_eqs ?_; (conv => whnf)) | (refine w_t (by first | rfl | decide | assumption) ?_; (conv => whnf)) | (refine w_f (by first | rfl | decide | assumption) ?_; (conv => whnf)) | (refine And.intro (by first | omega | rfl | decide | assumption | exact Nat.le_of_ble_eq_true rfl | exact mulR (by omega) (by omega) | exact mulL (by omega) (by omega) | exact mulM (by omega) (by omega) | exact divOk (by omega) (by omega) | exact Exists.intro _ (by assumption)) ?_; (conv => whnf))))
  refine sp_draw D40.hid.bag (by omega) (by omega) fun sp h41 f41 s0 s1 => ?_
  obtain ⟨sp, rfl⟩ := Int.eq_ofNat_of_zero_le s0
  have D41 := D40.fr f41
  clear D40 f41
  obtain ⟨p0, ep0⟩ : ∃ q, kk.ds[0]? = some q := ⟨kk.ds[0]'(by omega), List.getElem?_eq_getElem _⟩
  obtain ⟨p1, ep1⟩ : ∃ q, kk.ds[sp]? = some q := ⟨kk.ds[sp]'(by omega), List.getElem?_eq_getElem _⟩
  have eg0 : (kk.ds.map pairD)[0]? = some (.tup [.int p0.1, .int p0.2]) := by rw [List.getElem?_map, ep0]; rfl
  have eg1 : (kk.ds.map pairD)[sp]? = some (.tup [.int p1.1, .int p1.2]) := by rw [List.getElem?_map, ep1]; rfl
  obtain ⟨pa, pb, pc⟩ := K.di p1 (List.mem_of_getElem? ep1)
  generalize kk.ds.map pairD = G at vg lg ng vM lM eg0 eg1 ⊢
  (conv => whnf)
  refine ⟨Nat.zero_le _, ?_⟩
  (conv => whnf)
  refine ⟨ng, by decide, by decide, by omega, ?_⟩
  (conv => whnf)
  refine ⟨ng, by decide, by decide, by omega, ?_⟩
  have l7 : (cutD (List.replicate (7 : Int).toNat G).flatten none (some 7)).length ≤ 7 := cutN _ 7
  have v7 : ∀ h, ∀ x ∈ cutD (List.replicate (7 : Int).toNat G).flatten none (some 7), VX S' h x 2 20 := fun h x hx => vM _ h x (mem_cutD hx)
  (conv => whnf); (repeat (first | (refine w_need rfl ?_; (conv => whnf)) | (refine w_ix (by assumption) rfl ?_; (conv => whnf)) | (refine w_ix hupd_same rfl ?_; (conv => whnf)) | (refine w_setL (by assumption) rfl ?_; (conv => whnf)) | (refine w_setL hupd_same rfl ?_; (conv => whnf)) | (refine w_eqi ?_; (conv => whnf)) | (refine w_eqs ?_; (conv => whnf)) | (refine w_t (by first | rfl | decide | assumption) ?_; (conv => whnf)) | (refine w_f (by first | rfl | decide | assumption) ?_; (conv => whnf)) | (refine And.intro (by first | omega | rfl | decide | assumption | exact Nat.le_of_ble_eq_true rfl | exact mulR (by omega) (by omega) | exact mulL (by omega) (by omega) | exact mulM (by omega) (by omega) | exact divOk (by omega) (by omega) | exact Exists.intro _ (by assumption)) ?_; (conv => whnf))))
  intro r1 hr1; generalize hh_h42 : hupd _ r1 _ = h42; obtain ⟨x42, e42⟩ := newAt hh_h42 hr1
  (conv => whnf); (repeat (first | (refine w_need rfl ?_; (conv => whnf)) | (refine w_ix (by assumption) rfl ?_; (conv => whnf)) | (refine w_ix hupd_same rfl ?_; (conv => whnf)) | (refine w_setL (by assumption) rfl ?_; (conv => whnf)) | (refine w_setL hupd_same rfl ?_; (conv => whnf)) | (refine w_eqi ?_; (conv => whnf)) | (refine w_eqs ?_; (conv => whnf)) | (refine w_t (by first | rfl | decide | assumption) ?_; (conv => whnf)) | (refine w_f (by first | rfl | decide | assumption) ?_; (conv => whnf)) | (refine And.intro (by first | omega | rfl | decide | assumption | exact Nat.le_of_ble_eq_true rfl | exact mulR (by omega) (by omega) | exact mulL (by omega) (by omega) | exact mulM (by omega) (by omega) | exact divOk (by omega) (by omega) | exact Exists.intro _ (by assumption)) ?_; (conv => whnf))))
  refine w_need (v := .tup [.int p0.1, .int p0.2]) (atI_nth (i := 0) eg0) ?_
  (conv => whnf); (repeat (first | (refine w_need rfl ?_; (conv => whnf)) | (refine w_ix (by assumption) rfl ?_; (conv => whnf)) | (refine w_ix hupd_same rfl ?_; (conv => whnf)) | (refine w_setL (by assumption) rfl ?_; (conv => whnf)) | (refine w_setL hupd_same rfl ?_; (conv => whnf)) | (refine w_eqi ?_; (conv => whnf)) | (refine w_eqs ?_; (conv => whnf)) | (refine w_t (by first | rfl | decide | assumption) ?_; (conv => whnf)) | (refine w_f (by first | rfl | decide | assumption) ?_; (conv => whnf)) | (refine And.intro (by first | omega | rfl | decide | assumption | exact Nat.le_of_ble_eq_true rfl | exact mulR (by omega) (by omega) | exact mulL (by omega) (by omega) | exact mulM (by omega) (by omega) | exact divOk (by omega) (by omega) | exact Exists.intro _ (by assumption)) ?_; (conv => whnf))))
  generalize cutD (List.replicate (7 : Int).toNat G).flatten none (some 7) = C7 at l7 v7 ⊢
  have v3 := vM (3 : Int).toNat
  generalize (List.replicate (3 : Int).toNat G).flatten = C3 at lM v3 ⊢
  intro r2 hr2; generalize hh_h43 : hupd _ r2 _ = h43; obtain ⟨x43, e43⟩ := newAt hh_h43 hr2
  (conv => whnf); (repeat (first | (refine w_need rfl ?_; (conv => whnf)) | (refine w_ix (by assumption) rfl ?_; (conv => whnf)) | (refine w_ix hupd_same rfl ?_; (conv => whnf)) | (refine w_setL (by assumption) rfl ?_; (conv => whnf)) | (refine w_setL hupd_same rfl ?_; (conv => whnf)) | (refine w_eqi ?_; (conv => whnf)) | (refine w_eqs ?_; (conv => whnf)) | (refine w_t (by first | rfl | decide | assumption) ?_; (conv => whnf)) | (refine w_f (by first | rfl | decide | assumption) ?_; (conv => whnf)) | (refine And.intro (by first | omega | rfl | decide | assumption | exact Nat.le_of_ble_eq_true rfl | exact mulR (by omega) (by omega) | exact mulL (by omega) (by omega) | exact mulM (by omega) (by omega) | exact divOk (by omega) (by omega) | exact Exists.intro _ (by assumption)) ?_; (conv => whnf))))
  refine (D41.ext (x42.trans x43)).set rfl (by decide) e43 ((D41.ext x42).hid.ne hr2) (show 7 ≤ 1100 by decide) (show 0 < 7 by decide) ?_ fun h44 D44 oD44 => ?_
  · refine av_cons ?_ (av_cons ?_ (av_cons ?_ (av_cons ?_ (av_cons ?_ (av_cons ?_ (av_cons ?_ av_nil))))))
    · exact VX.mono (.tup (n := 0) (m := 0) .n) (by decide) (by decide)
    · exact tpl (v3 _) lM
    · exact tpl (v7 _) (by omega)
    · refine VX.mono (.lst (x43 _ _ e42) (D41.hid.ne hr1) (.all fun x hx => vg x hx _)) (by decide) ?_
      have : G.length * (20 + 1) ≤ 6 * 21 := Nat.mul_le_mul_right _ (by omega)
      omega
    · exact tpl (fun x hx => vg x (List.mem_reverse.mp hx) _) (by rw [List.length_reverse]; omega)
    · exact (vg _ (List.mem_of_getElem? eg0) _).mono (by decide) (by decide)
    · exact .non
  clear D41 hr1 hr2 e42 e43 x42 x43 lM v3 l7 v7 oD44
  obtain ⟨la, lb⟩ := cut_at (xs := G) (i := sp) (by omega)
  have va : ∀ x ∈ cutD G none (some (sp : Int)), ∀ h, VX S' h x 2 20 := fun x hx => vg x (mem_cutD hx)
  have vb : ∀ x ∈ cutD G (some ((sp : Int) + 1)) none, ∀ h, VX S' h x 2 20 := fun x hx => vg x (mem_cutD hx)
  (conv => whnf); (repeat (first | (refine w_need rfl ?_; (conv => whnf)) | (refine w_ix (by assumption) rfl ?_; (conv => whnf)) | (refine w_ix hupd_same rfl ?_; (conv => whnf)) | (refine w_setL (by assumption) rfl ?_; (conv => whnf)) | (refine w_setL hupd_same rfl ?_; (conv => whnf)) | (refine w_eqi ?_; (conv => whnf)) | (refine w_eqs ?_; (conv => whnf)) | (refine w_t (by first | rfl | decide | assumption) ?_; (conv => whnf)) | (refine w_f (by first | rfl | decide | assumption) ?_; (conv => whnf)) | (refine And.intro (by first | omega | rfl | decide | assumption | exact Nat.le_of_ble_eq_true rfl | exact mulR (by omega) (by omega) | exact mulL (by omega) (by omega) | exact mulM (by omega) (by omega) | exact divOk (by omega) (by omega) | exact Exists.intro _ (by assumption)) ?_; (conv => whnf))))
  obtain ⟨pL, L, g1, m1, n1, q1, l1, _, v1⟩ := D44.pt 5 (by simp)
  refine w_need g1 ?_
  (conv => whnf); (repeat (first | (refine w_need rfl ?_; (conv => whnf)) | (refine w_ix (by assumption) rfl ?_; (conv => whnf)) | (refine w_ix hupd_same rfl ?_; (conv => whnf)) | (refine w_setL (by assumption) rfl ?_; (conv => whnf)) | (refine w_setL hupd_same rfl ?_; (conv => whnf)) | (refine w_eqi ?_; (conv => whnf)) | (refine w_eqs ?_; (conv => whnf)) | (refine w_t (by first | rfl | decide | assumption) ?_; (conv => whnf)) | (refine w_f (by first | rfl | decide | assumption) ?_; (conv => whnf)) | (refine And.intro (by first | omega | rfl | decide | assumption | exact Nat.le_of_ble_eq_true rfl | exact mulR (by omega) (by omega) | exact mulL (by omega) (by omega) | exact mulM (by omega) (by omega) | exact divOk (by omega) (by omega) | exact Exists.intro _ (by assumption)) ?_; (conv => whnf))))
  refine w_need (v := .tup [.int p1.1, .int p1.2]) (atI_nth (i := sp) eg1) ?_
  (conv => whnf); (repeat (first | (refine w_need rfl ?_; (conv => whnf)) | (refine w_ix (by assumption) rfl ?_; (conv => whnf)) | (refine w_ix hupd_same rfl ?_; (conv => whnf)) | (refine w_setL (by assumption) rfl ?_; (conv => whnf)) | (refine w_setL hupd_same rfl ?_; (conv => whnf)) | (refine w_eqi ?_; (conv => whnf)) | (refine w_eqs ?_; (conv => whnf)) | (refine w_t (by first | rfl | decide | assumption) ?_; (conv => whnf)) | (refine w_f (by first | rfl | decide | assumption) ?_; (conv => whnf)) | (refine And.intro (by first | omega | rfl | decide | assumption | exact Nat.le_of_ble_eq_true rfl | exact mulR (by omega) (by omega) | exact mulL (by omega) (by omega) | exact mulM (by omega) (by omega) | exact divOk (by omega) (by omega) | exact Exists.intro _ (by assumption)) ?_; (conv => whnf))))
  refine sp_bent_dish D44.hid pa (by omega) (by omega) (by omega) fun z h45 f45 vz => ?_
  have D45 := D44.fr f45
  have q1 := f45.1 _ _ (fun z => n1 (by rw [z]; exact D44.hid.mem)) q1
  have v1 : ∀ x ∈ L, VX S' h45 x 3 400 := fun x hx => (v1 x hx).fr f45 D44.hid.mem
  clear D44 f45 g1
  (conv => whnf); (repeat (first | (refine w_need rfl ?_; (conv => whnf)) | (refine w_ix (by assumption) rfl ?_; (conv => whnf)) | (refine w_ix hupd_same rfl ?_; (conv => whnf)) | (refine w_setL (by assumption) rfl ?_; (conv => whnf)) | (refine w_setL hupd_same rfl ?_; (conv => whnf)) | (refine w_eqi ?_; (conv => whnf)) | (refine w_eqs ?_; (conv => whnf)) | (refine w_t (by first | rfl | decide | assumption) ?_; (conv => whnf)) | (refine w_f (by first | rfl | decide | assumption) ?_; (conv => whnf)) | (refine And.intro (by first | omega | rfl | decide | assumption | exact Nat.le_of_ble_eq_true rfl | exact mulR (by omega) (by omega) | exact mulL (by omega) (by omega) | exact mulM (by omega) (by omega) | exact divOk (by omega) (by omega) | exact Exists.intro _ (by assumption)) ?_; (conv => whnf))))
  generalize cutD G none (some (sp : Int)) = A at la va ⊢
  refine ⟨Nat.le_of_lt (small2 (by simp only [List.length_cons, List.length_nil]; omega)), ?_⟩
  (conv => whnf)
  generalize cutD G (some ((sp : Int) + 1)) none = A2 at lb vb ⊢
  refine ⟨Nat.le_of_lt (small2 (by simp only [List.length_append, List.length_cons, List.length_nil]; omega)), ?_⟩
  have vF : VX S' h45 (.tup (A ++ [z] ++ A2)) 3 400 := tpl (av_app (av_app (fun x hx => va x hx _) (av_cons vz av_nil)) (fun x hx => vb x hx _)) (by simp only [List.length_append, List.length_cons, List.length_nil]; omega)
  generalize A ++ [z] ++ A2 = F at vF ⊢
  (conv => whnf); (repeat (first | (refine w_need rfl ?_; (conv => whnf)) | (refine w_ix (by assumption) rfl ?_; (conv => whnf)) | (refine w_ix hupd_same rfl ?_; (conv => whnf)) | (refine w_setL (by assumption) rfl ?_; (conv => whnf)) | (refine w_setL hupd_same rfl ?_; (conv => whnf)) | (refine w_eqi ?_; (conv => whnf)) | (refine w_eqs ?_; (conv => whnf)) | (refine w_t (by first | rfl | decide | assumption) ?_; (conv => whnf)) | (refine w_f (by first | rfl | decide | assumption) ?_; (conv => whnf)) | (refine And.intro (by first | omega | rfl | decide | assumption | exact Nat.le_of_ble_eq_true rfl | exact mulR (by omega) (by omega) | exact mulL (by omega) (by omega) | exact mulM (by omega) (by omega) | exact divOk (by omega) (by omega) | exact Exists.intro _ (by assumption)) ?_; (conv => whnf))))
  intro r1 hr1; generalize hh_h46 : hupd _ r1 _ = h46; obtain ⟨x46, e46⟩ := newAt hh_h46 hr1
  (conv => whnf)
  refine ⟨_, e46, by decide, by decide, Nat.le_of_lt (small2 (show 1 * 4 ≤ 1000000 by decide)), ?_⟩
  intro r2 hr2; generalize hh_h47 : hupd _ r2 _ = h47; obtain ⟨x47, e47⟩ := newAt hh_h47 hr2
  (conv => whnf)
  refine ⟨_, _, (x46.trans x47) _ _ q1, e47, Nat.le_of_lt (small2 (show L.length + 4 ≤ 1000000 by omega)), ?_⟩
  intro r3 hr3; generalize hh_h48 : hupd _ r3 _ = h48; obtain ⟨x48, e48⟩ := newAt hh_h48 hr3
  (conv => whnf); (repeat (first | (refine w_need rfl ?_; (conv => whnf)) | (refine w_ix (by assumption) rfl ?_; (conv => whnf)) | (refine w_ix hupd_same rfl ?_; (conv => whnf)) | (refine w_setL (by assumption) rfl ?_; (conv => whnf)) | (refine w_setL hupd_same rfl ?_; (conv => whnf)) | (refine w_eqi ?_; (conv => whnf)) | (refine w_eqs ?_; (conv => whnf)) | (refine w_t (by first | rfl | decide | assumption) ?_; (conv => whnf)) | (refine w_f (by first | rfl | decide | assumption) ?_; (conv => whnf)) | (refine And.intro (by first | omega | rfl | decide | assumption | exact Nat.le_of_ble_eq_true rfl | exact mulR (by omega) (by omega) | exact mulL (by omega) (by omega) | exact mulM (by omega) (by omega) | exact divOk (by omega) (by omega) | exact Exists.intro _ (by assumption)) ?_; (conv => whnf))))
  have x4548 := x46.trans (x47.trans x48)
  refine (D45.ext x4548).set rfl (by decide) e48 ((D45.ext (x46.trans x47)).hid.ne hr3) ?_ ?_ ?_ fun h50 D50 oD50 => ?_
  · rw [List.length_append]
    show L.length + 4 ≤ _
    omega
  · rw [List.length_append]
    show 0 < L.length + 4
    omega
  · refine av_app (fun x hx => (v1 x hx).ext x4548) ?_
    have g := vF.ext x4548
    exact av_cons g (av_cons g (av_cons g (av_cons g av_nil)))
  clear D45 x4548 e48 hr3 e47 hr2 e46 hr1 x46 x47 x48 q1 n1 m1 v1 vF vz oD50 va vb la lb
  have D50 := D50.up (m2 := 11) (n2 := [0, 1, 2, 3, 4, 5]) (by decide) (by decide)
  obtain ⟨pL, L, g1, m1, n1, q1, l1, l2, v1⟩ := D50.pt at_ (by simp only [List.mem_cons, List.not_mem_nil, or_false]; omega)
  (conv => whnf); (repeat (first | (refine w_need rfl ?_; (conv => whnf)) | (refine w_ix (by assumption) rfl ?_; (conv => whnf)) | (refine w_ix hupd_same rfl ?_; (conv => whnf)) | (refine w_setL (by assumption) rfl ?_; (conv => whnf)) | (refine w_setL hupd_same rfl ?_; (conv => whnf)) | (refine w_eqi ?_; (conv => whnf)) | (refine w_eqs ?_; (conv => whnf)) | (refine w_t (by first | rfl | decide | assumption) ?_; (conv => whnf)) | (refine w_f (by first | rfl | decide | assumption) ?_; (conv => whnf)) | (refine And.intro (by first | omega | rfl | decide | assumption | exact Nat.le_of_ble_eq_true rfl | exact mulR (by omega) (by omega) | exact mulL (by omega) (by omega) | exact mulM (by omega) (by omega) | exact divOk (by omega) (by omega) | exact Exists.intro _ (by assumption)) ?_; (conv => whnf))))
  refine w_need g1 ?_
  (conv => whnf); (repeat (first | (refine w_need rfl ?_; (conv => whnf)) | (refine w_ix (by assumption) rfl ?_; (conv => whnf)) | (refine w_ix hupd_same rfl ?_; (conv => whnf)) | (refine w_setL (by assumption) rfl ?_; (conv => whnf)) | (refine w_setL hupd_same rfl ?_; (conv => whnf)) | (refine w_eqi ?_; (conv => whnf)) | (refine w_eqs ?_; (conv => whnf)) | (refine w_t (by first | rfl | decide | assumption) ?_; (conv => whnf)) | (refine w_f (by first | rfl | decide | assumption) ?_; (conv => whnf)) | (refine And.intro (by first | omega | rfl | decide | assumption | exact Nat.le_of_ble_eq_true rfl | exact mulR (by omega) (by omega) | exact mulL (by omega) (by omega) | exact mulM (by omega) (by omega) | exact divOk (by omega) (by omega) | exact Exists.intro _ (by assumption)) ?_; (conv => whnf))))
  intro r1 hr1; generalize hh_h51 : hupd _ r1 _ = h51; obtain ⟨x51, e51⟩ := newAt hh_h51 hr1
  (conv => whnf)
  refine ⟨_, _, x51 _ _ q1, e51, Nat.le_of_lt (small2 (show L.length + 1 ≤ 1000000 by omega)), ?_⟩
  intro r2 hr2; generalize hh_h52 : hupd _ r2 _ = h52; obtain ⟨x52, e52⟩ := newAt hh_h52 hr2
  have D52 := D50.ext (x51.trans x52)
  have nr2 := (D50.ext x51).hid.bag.ne hr2
  (conv => whnf); (repeat (first | (refine w_need rfl ?_; (conv => whnf)) | (refine w_ix (by assumption) rfl ?_; (conv => whnf)) | (refine w_ix hupd_same rfl ?_; (conv => whnf)) | (refine w_setL (by assumption) rfl ?_; (conv => whnf)) | (refine w_setL hupd_same rfl ?_; (conv => whnf)) | (refine w_eqi ?_; (conv => whnf)) | (refine w_eqs ?_; (conv => whnf)) | (refine w_t (by first | rfl | decide | assumption) ?_; (conv => whnf)) | (refine w_f (by first | rfl | decide | assumption) ?_; (conv => whnf)) | (refine And.intro (by first | omega | rfl | decide | assumption | exact Nat.le_of_ble_eq_true rfl | exact mulR (by omega) (by omega) | exact mulL (by omega) (by omega) | exact mulM (by omega) (by omega) | exact divOk (by omega) (by omega) | exact Exists.intro _ (by assumption)) ?_; (conv => whnf))))
  refine sp_pick D52.hid.bag e52 nr2 (by rw [List.length_append]; show 0 < L.length + 1; omega) (by rw [List.length_append]; show L.length + 1 < 1000000; omega) fun it h53 hit f53 => ?_
  have D53 := D52.fr f53
  have vit : VX S' h53 it 3 400 := by
    rcases List.mem_append.mp hit with hit | hit
    · exact ((v1 it hit).ext (x51.trans x52)).fr f53 D52.hid.mem
    · rw [List.mem_singleton.mp hit]; exact D53.od.mono (by decide) (by decide)
  clear D50 D52 q1 m1 n1 g1 v1 e51 e52 hr1 hr2 x51 x52 f53 nr2 hit
  obtain ⟨at_, rfl⟩ := Int.eq_ofNat_of_zero_le a0
  (conv => whnf); (repeat (first | (refine w_need rfl ?_; (conv => whnf)) | (refine w_ix (by assumption) rfl ?_; (conv => whnf)) | (refine w_ix hupd_same rfl ?_; (conv => whnf)) | (refine w_setL (by assumption) rfl ?_; (conv => whnf)) | (refine w_setL hupd_same rfl ?_; (conv => whnf)) | (refine w_eqi ?_; (conv => whnf)) | (refine w_eqs ?_; (conv => whnf)) | (refine w_t (by first | rfl | decide | assumption) ?_; (conv => whnf)) | (refine w_f (by first | rfl | decide | assumption) ?_; (conv => whnf)) | (refine And.intro (by first | omega | rfl | decide | assumption | exact Nat.le_of_ble_eq_true rfl | exact mulR (by omega) (by omega) | exact mulL (by omega) (by omega) | exact mulM (by omega) (by omega) | exact divOk (by omega) (by omega) | exact Exists.intro _ (by assumption)) ?_; (conv => whnf))))
  refine sp_draw D53.hid.bag (by omega) (by omega) fun to h54 f54 t0 t1 => ?_
  obtain ⟨to, rfl⟩ := Int.eq_ofNat_of_zero_le t0
  have D54 := D53.fr f54
  have vit := vit.fr f54 D53.hid.mem
  clear D53 f54
  obtain ⟨la, lb⟩ := cut_at (xs := [.int kk.dials, .tup [.int kk.l1, .int kk.l2], .tup [.int kk.cold, .int kk.rise], .int kk.ov, .tup (kk.ts.map fun t => tupI t.l), .tup (kk.ds.map pairD)]) (i := at_) (show at_ < 6 by omega)
  have lb : _ = 6 := lb
  have va : ∀ x ∈ cutD [.int kk.dials, .tup [.int kk.l1, .int kk.l2], .tup [.int kk.cold, .int kk.rise], .int kk.ov, .tup (kk.ts.map fun t => tupI t.l), .tup (kk.ds.map pairD)] none (some (at_ : Int)), ∀ h, VX S' h x 3 400 := fun x hx => v6 x (mem_cutD hx)
  have vb : ∀ x ∈ cutD [.int kk.dials, .tup [.int kk.l1, .int kk.l2], .tup [.int kk.cold, .int kk.rise], .int kk.ov, .tup (kk.ts.map fun t => tupI t.l), .tup (kk.ds.map pairD)] (some ((at_ : Int) + 1)) none, ∀ h, VX S' h x 3 400 := fun x hx => v6 x (mem_cutD hx)
  (conv => whnf); (repeat (first | (refine w_need rfl ?_; (conv => whnf)) | (refine w_ix (by assumption) rfl ?_; (conv => whnf)) | (refine w_ix hupd_same rfl ?_; (conv => whnf)) | (refine w_setL (by assumption) rfl ?_; (conv => whnf)) | (refine w_setL hupd_same rfl ?_; (conv => whnf)) | (refine w_eqi ?_; (conv => whnf)) | (refine w_eqs ?_; (conv => whnf)) | (refine w_t (by first | rfl | decide | assumption) ?_; (conv => whnf)) | (refine w_f (by first | rfl | decide | assumption) ?_; (conv => whnf)) | (refine And.intro (by first | omega | rfl | decide | assumption | exact Nat.le_of_ble_eq_true rfl | exact mulR (by omega) (by omega) | exact mulL (by omega) (by omega) | exact mulM (by omega) (by omega) | exact divOk (by omega) (by omega) | exact Exists.intro _ (by assumption)) ?_; (conv => whnf))))
  generalize cutD [.int kk.dials, .tup [.int kk.l1, .int kk.l2], .tup [.int kk.cold, .int kk.rise], .int kk.ov, .tup (kk.ts.map fun t => tupI t.l), .tup (kk.ds.map pairD)] none (some (at_ : Int)) = A at la va ⊢
  refine ⟨Nat.le_of_lt (small2 (by simp only [List.length_cons, List.length_nil]; omega)), ?_⟩
  (conv => whnf)
  generalize cutD [.int kk.dials, .tup [.int kk.l1, .int kk.l2], .tup [.int kk.cold, .int kk.rise], .int kk.ov, .tup (kk.ts.map fun t => tupI t.l), .tup (kk.ds.map pairD)] (some ((at_ : Int) + 1)) none = A2 at lb vb ⊢
  refine ⟨Nat.le_of_lt (small2 (by simp only [List.length_append, List.length_cons, List.length_nil]; omega)), ?_⟩
  have lW : (A ++ [it] ++ A2).length = 6 := by simp only [List.length_append, List.length_cons, List.length_nil]; omega
  have vW : ∀ h', Fr b h54 h' → ∀ x ∈ A ++ [it] ++ A2, VX S' h' x 3 400 := fun h' f => av_app (av_app (fun x hx => va x hx _) (av_cons (vit.fr f D54.hid.mem) av_nil)) (fun x hx => vb x hx _)
  generalize A ++ [it] ++ A2 = W at lW vW ⊢
  obtain ⟨lc, ld⟩ := cut_at (xs := W) (i := to) (by omega)
  have vc : ∀ x ∈ cutD W none (some (to : Int)), ∀ h', Fr b h54 h' → VX S' h' x 3 400 := fun x hx h' f => vW h' f x (mem_cutD hx)
  have vd : ∀ x ∈ cutD W (some ((to : Int) + 1)) none, ∀ h', Fr b h54 h' → VX S' h' x 3 400 := fun x hx h' f => vW h' f x (mem_cutD hx)
  obtain ⟨pL, L, g1, m1, n1, q1, l1, l2, v1⟩ := D54.pt to (by simp only [List.mem_cons, List.not_mem_nil, or_false]; omega)
  have n1 : pL ≠ b := fun z => n1 (by rw [z]; exact D54.hid.mem)
  (conv => whnf); (repeat (first | (refine w_need rfl ?_; (conv => whnf)) | (refine w_ix (by assumption) rfl ?_; (conv => whnf)) | (refine w_ix hupd_same rfl ?_; (conv => whnf)) | (refine w_setL (by assumption) rfl ?_; (conv => whnf)) | (refine w_setL hupd_same rfl ?_; (conv => whnf)) | (refine w_eqi ?_; (conv => whnf)) | (refine w_eqs ?_; (conv => whnf)) | (refine w_t (by first | rfl | decide | assumption) ?_; (conv => whnf)) | (refine w_f (by first | rfl | decide | assumption) ?_; (conv => whnf)) | (refine And.intro (by first | omega | rfl | decide | assumption | exact Nat.le_of_ble_eq_true rfl | exact mulR (by omega) (by omega) | exact mulL (by omega) (by omega) | exact mulM (by omega) (by omega) | exact divOk (by omega) (by omega) | exact Exists.intro _ (by assumption)) ?_; (conv => whnf))))
  refine w_need g1 ?_
  (conv => whnf); (repeat (first | (refine w_need rfl ?_; (conv => whnf)) | (refine w_ix (by assumption) rfl ?_; (conv => whnf)) | (refine w_ix hupd_same rfl ?_; (conv => whnf)) | (refine w_setL (by assumption) rfl ?_; (conv => whnf)) | (refine w_setL hupd_same rfl ?_; (conv => whnf)) | (refine w_eqi ?_; (conv => whnf)) | (refine w_eqs ?_; (conv => whnf)) | (refine w_t (by first | rfl | decide | assumption) ?_; (conv => whnf)) | (refine w_f (by first | rfl | decide | assumption) ?_; (conv => whnf)) | (refine And.intro (by first | omega | rfl | decide | assumption | exact Nat.le_of_ble_eq_true rfl | exact mulR (by omega) (by omega) | exact mulL (by omega) (by omega) | exact mulM (by omega) (by omega) | exact divOk (by omega) (by omega) | exact Exists.intro _ (by assumption)) ?_; (conv => whnf))))
  refine sp_pick D54.hid.bag q1 n1 l2 (by omega) fun it2 h55 hit2 f55 => ?_
  have D55 := D54.fr f55
  have vi2 : VX S' h55 it2 3 400 := (v1 it2 hit2).fr f55 D54.hid.mem
  (conv => whnf); (repeat (first | (refine w_need rfl ?_; (conv => whnf)) | (refine w_ix (by assumption) rfl ?_; (conv => whnf)) | (refine w_ix hupd_same rfl ?_; (conv => whnf)) | (refine w_setL (by assumption) rfl ?_; (conv => whnf)) | (refine w_setL hupd_same rfl ?_; (conv => whnf)) | (refine w_eqi ?_; (conv => whnf)) | (refine w_eqs ?_; (conv => whnf)) | (refine w_t (by first | rfl | decide | assumption) ?_; (conv => whnf)) | (refine w_f (by first | rfl | decide | assumption) ?_; (conv => whnf)) | (refine And.intro (by first | omega | rfl | decide | assumption | exact Nat.le_of_ble_eq_true rfl | exact mulR (by omega) (by omega) | exact mulL (by omega) (by omega) | exact mulM (by omega) (by omega) | exact divOk (by omega) (by omega) | exact Exists.intro _ (by assumption)) ?_; (conv => whnf))))
  generalize cutD W none (some (to : Int)) = W1 at lc vc ⊢
  refine ⟨Nat.le_of_lt (small2 (by simp only [List.length_cons, List.length_nil]; omega)), ?_⟩
  (conv => whnf)
  generalize cutD W (some ((to : Int) + 1)) none = W2 at ld vd ⊢
  refine ⟨Nat.le_of_lt (small2 (by simp only [List.length_append, List.length_cons, List.length_nil]; omega)), ?_⟩
  have lX : (W1 ++ [it2] ++ W2).length = 6 := by simp only [List.length_append, List.length_cons, List.length_nil]; omega
  have vX : ∀ x ∈ W1 ++ [it2] ++ W2, VX S' h55 x 3 400 := av_app (av_app (fun x hx => vc x hx _ f55) (av_cons vi2 av_nil)) (fun x hx => vd x hx _ f55)
  have vW5 := vW h55 f55
  have vit5 := vit.fr f55 D54.hid.mem
  generalize W1 ++ [it2] ++ W2 = X at lX vX ⊢
  clear D54 va vb vc vd la lb lc ld g1 m1 q1 l1 l2 v1 n1 vW vit
  have t7 : ∀ (h' : DH) (xs : List D), (∀ x ∈ xs, VX S' h' x 3 400) → xs.length ≤ 7 → VX S' h' (.tup xs) 4 5000 := fun h' xs a l => (VX.tup (.all a)).mono (by decide) (by have : xs.length * (400 + 1) ≤ 7 * 401 := Nat.mul_le_mul_right _ l; omega)
  have le1 : (cutD [.int kk.dials, .tup [.int kk.l1, .int kk.l2], .tup [.int kk.cold, .int kk.rise], .int kk.ov, .tup (kk.ts.map fun t => tupI t.l), .tup (kk.ds.map pairD)] (some 1) none).length ≤ 6 := cutD_len _ _ _
  have ve1 : ∀ x ∈ cutD [.int kk.dials, .tup [.int kk.l1, .int kk.l2], .tup [.int kk.cold, .int kk.rise], .int kk.ov, .tup (kk.ts.map fun t => tupI t.l), .tup (kk.ds.map pairD)] (some 1) none, ∀ h, VX S' h x 3 400 := fun x hx => v6 x (mem_cutD hx)
  (conv => whnf); (repeat (first | (refine w_need rfl ?_; (conv => whnf)) | (refine w_ix (by assumption) rfl ?_; (conv => whnf)) | (refine w_ix hupd_same rfl ?_; (conv => whnf)) | (refine w_setL (by assumption) rfl ?_; (conv => whnf)) | (refine w_setL hupd_same rfl ?_; (conv => whnf)) | (refine w_eqi ?_; (conv => whnf)) | (refine w_eqs ?_; (conv => whnf)) | (refine w_t (by first | rfl | decide | assumption) ?_; (conv => whnf)) | (refine w_f (by first | rfl | decide | assumption) ?_; (conv => whnf)) | (refine And.intro (by first | omega | rfl | decide | assumption | exact Nat.le_of_ble_eq_true rfl | exact mulR (by omega) (by omega) | exact mulL (by omega) (by omega) | exact mulM (by omega) (by omega) | exact divOk (by omega) (by omega) | exact Exists.intro _ (by assumption)) ?_; (conv => whnf))))
  intro r1 hr1; generalize hh_h56 : hupd _ r1 _ = h56; obtain ⟨x56, e56⟩ := newAt hh_h56 hr1
  (conv => whnf)
  refine ⟨_, e56, by decide, by decide, Nat.le_of_lt (small2 (show 1 * 6 ≤ 1000000 by decide)), ?_⟩
  intro r2 hr2; generalize hh_h57 : hupd _ r2 _ = h57; obtain ⟨x57, e57⟩ := newAt hh_h57 hr2
  (conv => whnf); (repeat (first | (refine w_need rfl ?_; (conv => whnf)) | (refine w_ix (by assumption) rfl ?_; (conv => whnf)) | (refine w_ix hupd_same rfl ?_; (conv => whnf)) | (refine w_setL (by assumption) rfl ?_; (conv => whnf)) | (refine w_setL hupd_same rfl ?_; (conv => whnf)) | (refine w_eqi ?_; (conv => whnf)) | (refine w_eqs ?_; (conv => whnf)) | (refine w_t (by first | rfl | decide | assumption) ?_; (conv => whnf)) | (refine w_f (by first | rfl | decide | assumption) ?_; (conv => whnf)) | (refine And.intro (by first | omega | rfl | decide | assumption | exact Nat.le_of_ble_eq_true rfl | exact mulR (by omega) (by omega) | exact mulL (by omega) (by omega) | exact mulM (by omega) (by omega) | exact divOk (by omega) (by omega) | exact Exists.intro _ (by assumption)) ?_; (conv => whnf))))
  intro r3 hr3; generalize hh_h58 : hupd _ r3 _ = h58; obtain ⟨x58, e58⟩ := newAt hh_h58 hr3
  (conv => whnf)
  refine ⟨_, e58, by decide, by decide, Nat.le_of_lt (small2 (show 1 * 5 ≤ 1000000 by decide)), ?_⟩
  intro r4 hr4; generalize hh_h59 : hupd _ r4 _ = h59; obtain ⟨x59, e59⟩ := newAt hh_h59 hr4
  (conv => whnf)
  refine ⟨_, _, (x58.trans x59) _ _ e57, e59, Nat.le_of_lt (small2 (show 6 + 5 ≤ 1000000 by decide)), ?_⟩
  intro r5 hr5; generalize hh_h60 : hupd _ r5 _ = h60; obtain ⟨x60, e60⟩ := newAt hh_h60 hr5
  (conv => whnf); (repeat (first | (refine w_need rfl ?_; (conv => whnf)) | (refine w_ix (by assumption) rfl ?_; (conv => whnf)) | (refine w_ix hupd_same rfl ?_; (conv => whnf)) | (refine w_setL (by assumption) rfl ?_; (conv => whnf)) | (refine w_setL hupd_same rfl ?_; (conv => whnf)) | (refine w_eqi ?_; (conv => whnf)) | (refine w_eqs ?_; (conv => whnf)) | (refine w_t (by first | rfl | decide | assumption) ?_; (conv => whnf)) | (refine w_f (by first | rfl | decide | assumption) ?_; (conv => whnf)) | (refine And.intro (by first | omega | rfl | decide | assumption | exact Nat.le_of_ble_eq_true rfl | exact mulR (by omega) (by omega) | exact mulL (by omega) (by omega) | exact mulM (by omega) (by omega) | exact divOk (by omega) (by omega) | exact Exists.intro _ (by assumption)) ?_; (conv => whnf))))
  intro r6 hr6; generalize hh_h61 : hupd _ r6 _ = h61; obtain ⟨x61, e61⟩ := newAt hh_h61 hr6
  (conv => whnf); (repeat (first | (refine w_need rfl ?_; (conv => whnf)) | (refine w_ix (by assumption) rfl ?_; (conv => whnf)) | (refine w_ix hupd_same rfl ?_; (conv => whnf)) | (refine w_setL (by assumption) rfl ?_; (conv => whnf)) | (refine w_setL hupd_same rfl ?_; (conv => whnf)) | (refine w_eqi ?_; (conv => whnf)) | (refine w_eqs ?_; (conv => whnf)) | (refine w_t (by first | rfl | decide | assumption) ?_; (conv => whnf)) | (refine w_f (by first | rfl | decide | assumption) ?_; (conv => whnf)) | (refine And.intro (by first | omega | rfl | decide | assumption | exact Nat.le_of_ble_eq_true rfl | exact mulR (by omega) (by omega) | exact mulL (by omega) (by omega) | exact mulM (by omega) (by omega) | exact divOk (by omega) (by omega) | exact Exists.intro _ (by assumption)) ?_; (conv => whnf))))
  generalize cutD [.int kk.dials, .tup [.int kk.l1, .int kk.l2], .tup [.int kk.cold, .int kk.rise], .int kk.ov, .tup (kk.ts.map fun t => tupI t.l), .tup (kk.ds.map pairD)] (some 1) none = C1 at le1 ve1 ⊢
  intro r7 hr7; generalize hh_h62 : hupd _ r7 _ = h62; obtain ⟨x62, e62⟩ := newAt hh_h62 hr7
  (conv => whnf)
  refine ⟨_, _, (x61.trans x62) _ _ e60, e62, Nat.le_of_lt (small2 (show 11 + 4 ≤ 1000000 by decide)), ?_⟩
  intro r8 hr8; generalize hh_h63 : hupd _ r8 _ = h63; obtain ⟨x63, e63⟩ := newAt hh_h63 hr8
  have e63 : h63 r8 = some (.lst [.tup W, .tup W, .tup W, .tup W, .tup W, .tup W, .tup X, .tup X, .tup X, .tup X, .tup X, .tup C1, .tup ([.int kk.dials, .tup [.int kk.l1, .int kk.l2], .tup [.int kk.cold, .int kk.rise], .int kk.ov, .tup (kk.ts.map fun t => tupI t.l), .tup (kk.ds.map pairD)] ++ [it]), .loc r6, od]) := e63
  have x5560 := x56.trans (x57.trans (x58.trans (x59.trans x60)))
  have x6163 := x62.trans x63
  have x5563 := x5560.trans (x61.trans x6163)
  have D60 := D55.ext x5560
  have n6 := D60.hid.ne hr6
  have n8 := (D60.ext (x61.trans x62)).hid.bag.ne hr8
  have D63 := D55.ext x5563
  (conv => whnf); (repeat (first | (refine w_need rfl ?_; (conv => whnf)) | (refine w_ix (by assumption) rfl ?_; (conv => whnf)) | (refine w_ix hupd_same rfl ?_; (conv => whnf)) | (refine w_setL (by assumption) rfl ?_; (conv => whnf)) | (refine w_setL hupd_same rfl ?_; (conv => whnf)) | (refine w_eqi ?_; (conv => whnf)) | (refine w_eqs ?_; (conv => whnf)) | (refine w_t (by first | rfl | decide | assumption) ?_; (conv => whnf)) | (refine w_f (by first | rfl | decide | assumption) ?_; (conv => whnf)) | (refine And.intro (by first | omega | rfl | decide | assumption | exact Nat.le_of_ble_eq_true rfl | exact mulR (by omega) (by omega) | exact mulL (by omega) (by omega) | exact mulM (by omega) (by omega) | exact divOk (by omega) (by omega) | exact Exists.intro _ (by assumption)) ?_; (conv => whnf))))
  refine sp_pick D63.hid.bag e63 n8 (show 0 < 15 by decide) (show 15 < 1000000 by decide) fun y h64 hy f64 => ?_
  have D64 := D63.fr f64
  refine k y h64 D64.fr0 ?_
  suffices VX S' h63 y 4 5000 from (this.fr f64 D63.hid.mem).off (off_by fun a u n e => ⟨fun z => n (hSS a z), e⟩)
  have gW : VX S' h63 (.tup W) 4 5000 := t7 _ _ (fun x hx => (vW5 x hx).ext x5563) (by omega)
  have gX : VX S' h63 (.tup X) 4 5000 := t7 _ _ (fun x hx => (vX x hx).ext x5563) (by omega)
  refine (?_ : ∀ y ∈ _, VX S' h63 y 4 5000) y hy
  refine av_cons gW (av_cons gW (av_cons gW (av_cons gW (av_cons gW (av_cons gW (av_cons gX (av_cons gX (av_cons gX (av_cons gX (av_cons gX (av_cons ?_ (av_cons ?_ (av_cons ?_ (av_cons ?_ av_nil))))))))))))))
  · exact t7 _ _ (fun x hx => ve1 x hx _) (by omega)
  · exact t7 _ _ (av_app (fun x hx => v6 x hx _) (av_cons (vit5.ext x5563) av_nil)) (Nat.le_of_ble_eq_true rfl)
  · exact VX.mono (.lst (x6163 _ _ e61) n6 (.all fun x hx => v6 x hx _)) (by decide) (show 6 * 401 ≤ 5000 by decide)
  · exact D63.od.mono (by decide) (by decide)
end DL

set_option linter.all false
set_option maxRecDepth 100000
set_option maxHeartbeats 2000000
namespace DL
open PySem PySem.Spec PyProof.Rows L2
/-! kitchens that are right; what is told -/
theorem nf1 {b : Bool} (h : ¬ b = false) : b = true := by cases b with
  | true => rfl
  | false => exact absurd rfl h
theorem isNon_is {d : D} (e : isNon d = true) : d = .non := by cases d <;> first | rfl | cases e
theorem pairB_ints {d : D} {lo hi : Int} (e : isPairB d lo hi = true) : ∃ x y : Int, d = .tup [.int x, .int y] ∧ lo ≤ x ∧ x ≤ y ∧ y ≤ hi := by
  unfold isPairB at e
  split at e
  · rename_i x y
    rw [Bool.and_eq_true, Bool.and_eq_true] at e
    obtain ⟨i, rfl, i0, i1⟩ := isIntB_eq e.1.1
    obtain ⟨j, rfl, j0, j1⟩ := isIntB_eq e.1.2
    exact ⟨i, j, rfl, i0, of_decide_eq_true e.2, j1⟩
  · cases e
theorem map_back {α : Type} {f : α → D} {P : α → Prop} : ∀ {ds : List D}, (∀ d ∈ ds, ∃ a, d = f a ∧ P a) → ∃ as : List α, ds = as.map f ∧ ∀ a ∈ as, P a
  | [], _ => ⟨[], rfl, fun _ h => absurd h List.not_mem_nil⟩
  | d :: ds, h => by
    obtain ⟨a, e, pa⟩ := h d List.mem_cons_self
    obtain ⟨as, e2, p2⟩ := map_back fun x hx => h x (List.mem_cons_of_mem _ hx)
    exact ⟨a :: as, by rw [List.map_cons, e, e2], fun x hx => (List.mem_cons.mp hx).elim (fun z => z ▸ pa) (p2 x)⟩
theorem getD_mem {ds : List D} {d : D} (hd : d ∈ ds) : ∃ i, i < ds.length ∧ ds.getD i .non = d := by
  obtain ⟨i, hi, e⟩ := List.mem_iff_getElem.mp hd
  exact ⟨i, hi, by rw [List.getD_eq_getElem?_getD, List.getElem?_eq_getElem hi, e]; rfl⟩
theorem ties_wide {ov : Int} {d : D} (h : tiesErrF ov d = .non) : ∃ ts : List Tie, d = .tup (ts.map fun t => tupI t.l) ∧ ts.length ≤ 6 ∧ ∀ t ∈ ts, (0 ≤ t.a ∧ t.a < ov) ∧ (0 ≤ t.b ∧ t.b < ov) ∧ (-1000000000000 ≤ t.lo ∧ t.lo ≤ 1000000000000) ∧ (-1000000000000 ≤ t.hi ∧ t.hi ≤ 1000000000000) := by
  cases d with
  | tup ds =>
    have h : (if 6 < ds.length then D.tup [.non, .str "ties"] else firstF (tieBad ov ds) ds.length) = .non := h
    split at h
    · cases h
    · rename_i hl
      have al := firstF_all (fun i v e => by
        unfold tieBad at e
        split at e
        · cases e; exact D.noConfusion
        · split at e
          · cases e; exact D.noConfusion
          · cases e) h
      have good : ∀ d ∈ ds, ∃ t : Tie, d = tupI t.l ∧ ((0 ≤ t.a ∧ t.a < ov) ∧ (0 ≤ t.b ∧ t.b < ov) ∧ (-1000000000000 ≤ t.lo ∧ t.lo ≤ 1000000000000) ∧ (-1000000000000 ≤ t.hi ∧ t.hi ≤ 1000000000000)) := fun d hd => by
        obtain ⟨i, hi, g⟩ := getD_mem hd
        have := al i hi
        unfold tieBad at this
        rw [g] at this
        cases z : isTieB d ov with
        | true =>
          obtain ⟨a, b, x, y, rfl, h1, h2, h3, h4, h5, h6⟩ := isTieB_ints z
          exact ⟨⟨a, b, x, y⟩, rfl, h1, h2, ⟨h5, show x ≤ _ by omega⟩, ⟨show _ ≤ y by omega, h6⟩⟩
        | false => rw [if_pos z] at this; cases this
      obtain ⟨ts, e, p⟩ := map_back good
      exact ⟨ts, by rw [e], by rw [e, List.length_map] at hl; omega, p⟩
  | _ => cases h
theorem dishes_wide {d : D} (h : dishesErrF d = .non) : ∃ ps : List (Int × Int), d = .tup (ps.map pairD) ∧ 1 ≤ ps.length ∧ ps.length ≤ 6 ∧ ∀ p ∈ ps, 0 ≤ p.1 ∧ p.1 ≤ p.2 ∧ p.2 ≤ 1000000000000000000000000 := by
  cases d with
  | tup ds =>
    have h : (if 1 ≤ ds.length ∧ ds.length ≤ 6 then firstF (dishBad ds) ds.length else D.tup [.non, .str "dishes"]) = .non := h
    split at h
    · rename_i hl
      have al := firstF_all (fun i v e => by
        unfold dishBad at e
        split at e
        · cases e; exact D.noConfusion
        · cases e) h
      have good : ∀ d ∈ ds, ∃ p : Int × Int, d = pairD p ∧ (0 ≤ p.1 ∧ p.1 ≤ p.2 ∧ p.2 ≤ 1000000000000000000000000) := fun d hd => by
        obtain ⟨i, hi, g⟩ := getD_mem hd
        have := al i hi
        unfold dishBad at this
        rw [g] at this
        cases z : isPairB d 0 1000000000000000000000000 with
        | true =>
          obtain ⟨x, y, rfl, h1, h2, h3⟩ := pairB_ints z
          exact ⟨(x, y), rfl, h1, h2, h3⟩
        | false => rw [if_pos z] at this; cases this
      obtain ⟨ps, e, p⟩ := map_back good
      rw [e, List.length_map] at hl
      exact ⟨ps, by rw [e], hl.1, hl.2, p⟩
    · cases h
  | _ => cases h
theorem kit_good {d : D} (h : kitErrF d = .non) : ∃ kk, KW kk ∧ d = kk.d := by
  unfold kitErrF at h
  split at h
  rotate_left
  · cases h
  rename_i dials slopes room ov ties dishes
  split at h
  · cases h
  rename_i c1
  split at h
  · cases h
  rename_i c2
  split at h
  · cases h
  rename_i c3
  split at h
  rotate_left
  · cases h
  rename_i n
  split at h
  · cases h
  rename_i c4
  split at h
  · rename_i c5
    rw [h] at c5; cases c5
  rename_i c5
  split at h
  · rename_i c6
    rw [h] at c6; cases c6
  rename_i c6
  obtain ⟨dl, rfl, d0, d1⟩ := isIntB_eq (nf1 c1)
  obtain ⟨x, y, rfl, x0, xy, y1⟩ := pairB_ints (nf1 c2)
  obtain ⟨n', e, n0, n1⟩ := isIntB_eq (nf1 c4)
  cases e
  have c3 := nf1 c3
  unfold isRoomB at c3
  split at c3
  rotate_left
  · cases c3
  rename_i r0 r1
  rw [Bool.and_eq_true] at c3
  obtain ⟨u, rfl, u0, u1⟩ := isIntB_eq c3.1
  obtain ⟨v, rfl, v0, v1⟩ := isIntB_eq c3.2
  obtain ⟨ts, rfl, tl, ti⟩ := ties_wide (isNon_is (nf1 c5))
  obtain ⟨ps, rfl, p0, p1, pi⟩ := dishes_wide (isNon_is (nf1 c6))
  refine ⟨⟨dl, x, y, u, v, n, ts, ps⟩, ⟨d0, d1, x0, xy, y1, u0, u1, v0, v1, n0, n1, tl, fun t ht => ?_, p0, p1, pi⟩, rfl⟩
  obtain ⟨⟨a, b⟩, ⟨c, d⟩, e, f⟩ := ti t ht
  exact ⟨⟨a, by omega⟩, ⟨c, by omega⟩, e, f⟩
def ToldD (d : D) : Prop := ∃ p, (∀ h, PX h d p) ∧ Rp p 1 40
theorem told_non : ToldD .non := ⟨.none, fun _ => .non, .non⟩
theorem told_word (s : Str) (h1 : s.cps.size ≤ 20) (h2 : PyData.leavesShort 101 (.str s) = true) : ToldD (.tup [.non, .str s]) := ⟨.tuple [.none, .str s], fun h => .tup (.cons .non (.cons (.str _) .nil)), (Rp.tup (d := 0) (.c (b := 0) .non (.c (.str h1 h2) .n))).mono (by decide) (by decide)⟩
theorem told_at (i : Nat) (hi : i ≤ 20) (s : Str) (h1 : s.cps.size ≤ 20) (h2 : PyData.leavesShort 101 (.str s) = true) : ToldD (.tup [.int (i : Nat), .str s]) := ⟨.tuple [.int (i : Nat), .str s], fun h => .tup (.cons (.int _) (.cons (.str _) .nil)), (Rp.tup (d := 0) (.c (b := 0) (.int (Nat.lt_of_le_of_lt (show ((i : Int)).natAbs ≤ 20 by omega) (by decide))) (.c (.str h1 h2) .n))).mono (by decide) (by decide)⟩
theorem told_first {f : Nat → Option D} {n : Nat} (hn : n ≤ 20) (h : ∀ i v, i < n → f i = some v → ToldD v) : ToldD (firstF f n) := by
  by_cases z : firstF f n = .non
  · rw [z]; exact told_non
  · obtain ⟨i, hi, ei⟩ := firstF_of rfl z
    exact h i _ hi ei
theorem told_kit (d : D) : ToldD (kitErrF d) := by
  have tt : ∀ ov d, ToldD (tiesErrF ov d) := fun ov d => by
    unfold tiesErrF
    split
    · split
      · exact told_word _ (by decide) (by decide)
      · refine told_first (by omega) fun i v hi e => ?_
        unfold tieBad at e
        split at e
        · rw [← Option.some.inj e]; exact told_at i (by omega) _ (by decide) (by decide)
        · split at e
          · rw [← Option.some.inj e]; exact told_at i (by omega) _ (by decide) (by decide)
          · cases e
    · exact told_word _ (by decide) (by decide)
  have td : ∀ d, ToldD (dishesErrF d) := fun d => by
    unfold dishesErrF
    split
    · split
      · refine told_first (by omega) fun i v hi e => ?_
        unfold dishBad at e
        split at e
        · rw [← Option.some.inj e]; exact told_at i (by omega) _ (by decide) (by decide)
        · cases e
      · exact told_word _ (by decide) (by decide)
    · exact told_word _ (by decide) (by decide)
  unfold kitErrF
  repeat' split
  all_goals first | exact told_non | exact told_word _ (by decide) (by decide) | exact tt _ _ | exact td _
end DL

set_option linter.all false
set_option maxRecDepth 100000
set_option maxHeartbeats 2000000
namespace DL
open PySem PySem.Spec PyProof.Rows L2
/-! repr of [x, y, a shown text] -/
theorem w_repX3 {h : DH} {a : Addr} {d1 d2 : D} {p1 p2 : PyData} {s : Str} {n b : Nat} {Q : DK} (e : h a = some (.lst [d1, d2, .str s])) (q1 : PX h d1 p1) (q2 : PX h d2 p2) (r1 : Rp p1 n b) (r2 : Rp p2 n b) (hn : n ≤ 40) (hb : b ≤ 10000) (hs : s.length ≤ 1000000) (lo : Lo s)
    (k : Q (.str (PyData.list [p1, p2, .str s]).shown) h) : kReprX [.loc a] h Q := by
  rw [kReprX_eq]
  refine ⟨_, .lst e (.cons q1 (.cons q2 (.cons (.str s) .nil))), ?_, ?_, ?_, k⟩
  · simp [PyData.showable, PyData.showableAll, r1.sh, r2.sh]
  · have := r1.dp; have := r2.dp
    simp only [PyData.depth, PyData.depthAll]; omega
  · have a1 := PyData.shown_le_bulk 101 (by decide) p1 r1.lv
    have a2 := PyData.shown_le_bulk 101 (by decide) p2 r2.lv
    have a3 := StrLaws.reprText_len s lo
    have := r1.bk; have := r2.bk
    have e1 : (PyData.list [p1, p2, .str s]).shown = listText (PyData.shownAll [p1, p2, .str s]) := by simp only [PyData.shown]
    have e2 : PyData.shownAll [p1, p2, .str s] = [p1.shown, p2.shown, reprText s] := by simp only [PyData.shownAll, PyData.shown]
    rw [e1, e2]
    have a4 := listText_len_le [p1.shown, p2.shown, reprText s]
    simp only [List.map_cons, List.map_nil, List.sum_cons, List.sum_nil, List.length_cons, List.length_nil] at a4
    have e : sizeLine = 16777216 := rfl
    omega
end DL

set_option linter.all false
set_option maxRecDepth 100000
set_option maxHeartbeats 2000000
namespace DL
open PySem PySem.Spec PyProof.Rows L2
theorem fr_push {b p : Addr} {h h' : DH} {o : DO} (f : Fr b h h') (hp : h p = none) (ne : p ≠ b) : Fr b h (hupd h' p o) := ⟨fun a u za zb => by
  rw [hupd_ne (fun y => by rw [y, hp] at zb; cases zb)]; exact f.1 a u za zb, let ⟨g, s, n, z⟩ := f.bag; ⟨g, s, n, by rw [hupd_ne ne.symm]; exact z⟩⟩
theorem off_fr_new {S : List Addr} {b p : Addr} {h h' : DH} (f : Fr b h h') (hp : h p = none) (k : b ∈ S) : Ext (offb S h) (offb (p :: S) h') := off_by fun a u n e => by
  have ne : a ≠ p := fun z => by rw [z, hp] at e; cases e
  exact ⟨fun z => (List.mem_cons.mp z).elim ne n, f.1 a u (fun z => n (by rw [z]; exact k)) e⟩
theorem kw_of {share : Int} {kk : Kit} (K : KitOk share kk) (e : kitErrF kk.d = .non) : KW kk := by
  obtain ⟨k2, w, e2⟩ := kit_good e
  have : kk = k2 := by
    obtain ⟨a1, a2, a3, a4, a5, a6, a7, a8⟩ := kk
    obtain ⟨b1, b2, b3, b4, b5, b6, b7, b8⟩ := k2
    simp only [Kit.d, D.tup.injEq, List.cons.injEq, D.int.injEq, and_true] at e2
    obtain ⟨rfl, ⟨rfl, rfl⟩, ⟨rfl, rfl⟩, rfl, e7, e8⟩ := e2
    have i7 : a7 = b7 := (List.map_inj_right fun x y h => by
      obtain ⟨x1, x2, x3, x4⟩ := x
      obtain ⟨y1, y2, y3, y4⟩ := y
      have h : D.tup [.int x1, .int x2, .int x3, .int x4] = D.tup [.int y1, .int y2, .int y3, .int y4] := h
      cases h; rfl).mp e7
    have i8 : a8 = b8 := (List.map_inj_right fun x y h => by
      obtain ⟨x1, x2⟩ := x
      obtain ⟨y1, y2⟩ := y
      have h : D.tup [.int x1, .int x2] = D.tup [.int y1, .int y2] := h
      cases h; rfl).mp e8
    rw [i7, i8]
  rw [this]; exact w
theorem vx_kit {S : List Addr} {h : DH} {kk : Kit} (K : KW kk) : VX S h kk.d 4 5000 := by
  have K1 := K.d0; have K2 := K.d1; have K3 := K.l0; have K4 := K.ll; have K5 := K.l1; have K6 := K.c0; have K7 := K.c1; have K8 := K.r0; have K9 := K.r1; have K10 := K.o0; have K11 := K.o1; have K12 := K.tl; have K13 := K.dl0; have K14 := K.dl
  refine VX.mono (.tup (.all (n := 3) (m := 400) ?_)) (by decide) (show 6 * 401 ≤ 5000 by decide)
  refine av_cons (iv _ (by omega)) (av_cons ?_ (av_cons ?_ (av_cons (iv _ (by omega)) (av_cons ?_ (av_cons ?_ av_nil)))))
  · exact tpw (av_cons (iv _ (by omega)) (av_cons (iv _ (by omega)) av_nil)) (Nat.le_of_ble_eq_true rfl)
  · exact tpw (av_cons (iv _ (by omega)) (av_cons (iv _ (by omega)) av_nil)) (Nat.le_of_ble_eq_true rfl)
  · refine tpl (fun x hx => ?_) (by rw [List.length_map]; omega)
    obtain ⟨t, ht, rfl⟩ := List.mem_map.mp hx
    obtain ⟨⟨a, c⟩, ⟨a', c'⟩, ⟨d, e⟩, f, g⟩ := K.ti t ht
    show VX S h (.tup [.int t.a, .int t.b, .int t.lo, .int t.hi]) 2 20
    refine tp ?_ (Nat.le_of_ble_eq_true rfl)
    (repeat' (first | exact av_nil | refine av_cons ?_ ?_))
    all_goals exact iv _ (by omega)
  · refine tpl (fun x hx => ?_) (by rw [List.length_map]; omega)
    obtain ⟨p, hp, rfl⟩ := List.mem_map.mp hx
    obtain ⟨a, b, c⟩ := K.di p hp
    exact tp (av_cons (iv _ (by omega)) (av_cons (iv _ (by omega)) av_nil)) (Nat.le_of_ble_eq_true rfl)
theorem law_holds (ns : List Int) (hl : ns.length ≤ 63) : runD 12 b_law [.fls (ns.map D.int)] (fun _ => none) fun d _ => d = .bl true := by
  show b_law _ [some (.fls (ns.map D.int)), none, none, none, none, none, none, none, none, none, none, none] _
  (conv => whnf); (repeat (first | (refine w_need rfl ?_; (conv => whnf)) | (refine w_ix (by assumption) rfl ?_; (conv => whnf)) | (refine w_ix hupd_same rfl ?_; (conv => whnf)) | (refine w_setL (by assumption) rfl ?_; (conv => whnf)) | (refine w_setL hupd_same rfl ?_; (conv => whnf)) | (refine w_eqi ?_; (conv => whnf)) | (refine w_eqs ?_; (conv => whnf)) | (refine w_t (by first | rfl | decide | assumption) ?_; (conv => whnf)) | (refine w_f (by first | rfl | decide | assumption) ?_; (conv => whnf)) | (refine And.intro (by first | omega | rfl | decide | assumption | exact Nat.le_of_ble_eq_true rfl | exact mulR (by omega) (by omega) | exact mulL (by omega) (by omega) | exact mulM (by omega) (by omega) | exact divOk (by omega) (by omega) | exact Exists.intro _ (by assumption)) ?_; (conv => whnf))))
  refine sp_bag hl fun b h0 g s x0 hb hb2 => ?_
  (conv => whnf)
  refine w_for ?_
  (conv => whnf); (repeat (first | (refine w_need rfl ?_; (conv => whnf)) | (refine w_ix (by assumption) rfl ?_; (conv => whnf)) | (refine w_ix hupd_same rfl ?_; (conv => whnf)) | (refine w_setL (by assumption) rfl ?_; (conv => whnf)) | (refine w_setL hupd_same rfl ?_; (conv => whnf)) | (refine w_eqi ?_; (conv => whnf)) | (refine w_eqs ?_; (conv => whnf)) | (refine w_t (by first | rfl | decide | assumption) ?_; (conv => whnf)) | (refine w_f (by first | rfl | decide | assumption) ?_; (conv => whnf)) | (refine And.intro (by first | omega | rfl | decide | assumption | exact Nat.le_of_ble_eq_true rfl | exact mulR (by omega) (by omega) | exact mulL (by omega) (by omega) | exact mulM (by omega) (by omega) | exact divOk (by omega) (by omega) | exact Exists.intro _ (by assumption)) ?_; (conv => whnf))))
  have B0 : Bag (hupd h0 b (.lst [.int g, .int s, .int 0])) b := ⟨g, s, 0, hupd_same⟩
  generalize hupd h0 b (.lst [.int g, .int s, .int 0]) = h1 at B0
  refine w_range0 (I := fun _ τ h' => Bag h' b ∧ ∃ a2 a3 a4 a5 a6 a7 a8 a9 a10 a11, τ = [some (.fls (ns.map D.int)), some (.loc b), a2, a3, a4, a5, a6, a7, a8, a9, a10, a11]) ⟨B0, _, _, _, _, _, _, _, _, _, _, rfl⟩ ?_ ?_
  · rintro t τ h1 nx ht ⟨B1, a2, a3, a4, a5, a6, a7, a8, a9, a10, a11, rfl⟩ hnx
    (conv => whnf); (repeat (first | (refine w_need rfl ?_; (conv => whnf)) | (refine w_ix (by assumption) rfl ?_; (conv => whnf)) | (refine w_ix hupd_same rfl ?_; (conv => whnf)) | (refine w_setL (by assumption) rfl ?_; (conv => whnf)) | (refine w_setL hupd_same rfl ?_; (conv => whnf)) | (refine w_eqi ?_; (conv => whnf)) | (refine w_eqs ?_; (conv => whnf)) | (refine w_t (by first | rfl | decide | assumption) ?_; (conv => whnf)) | (refine w_f (by first | rfl | decide | assumption) ?_; (conv => whnf)) | (refine And.intro (by first | omega | rfl | decide | assumption | exact Nat.le_of_ble_eq_true rfl | exact mulR (by omega) (by omega) | exact mulL (by omega) (by omega) | exact mulM (by omega) (by omega) | exact divOk (by omega) (by omega) | exact Exists.intro _ (by assumption)) ?_; (conv => whnf))))
    intro pp hpp; generalize hh_h2 : hupd _ pp _ = h2; obtain ⟨x2, e2⟩ := newAt hh_h2 hpp
    (conv => whnf); (repeat (first | (refine w_need rfl ?_; (conv => whnf)) | (refine w_ix (by assumption) rfl ?_; (conv => whnf)) | (refine w_ix hupd_same rfl ?_; (conv => whnf)) | (refine w_setL (by assumption) rfl ?_; (conv => whnf)) | (refine w_setL hupd_same rfl ?_; (conv => whnf)) | (refine w_eqi ?_; (conv => whnf)) | (refine w_eqs ?_; (conv => whnf)) | (refine w_t (by first | rfl | decide | assumption) ?_; (conv => whnf)) | (refine w_f (by first | rfl | decide | assumption) ?_; (conv => whnf)) | (refine And.intro (by first | omega | rfl | decide | assumption | exact Nat.le_of_ble_eq_true rfl | exact mulR (by omega) (by omega) | exact mulL (by omega) (by omega) | exact mulM (by omega) (by omega) | exact divOk (by omega) (by omega) | exact Exists.intro _ (by assumption)) ?_; (conv => whnf))))
    refine sp_pick (B1.ext x2) e2 (B1.ne hpp) (show 0 < 4 by decide) (show 4 < 1000000 by decide) fun y h3 hy f3 => ?_
    have f3 := (Fr.of_ext B1 x2).trans f3
    obtain ⟨share, rfl, s0, s1⟩ : ∃ share : Int, y = .int share ∧ 1 ≤ share ∧ share ≤ 10000000 := by
      simp only [List.mem_cons, List.not_mem_nil, or_false] at hy
      rcases hy with rfl | rfl | rfl | rfl
      · exact ⟨_, rfl, by decide, by decide⟩
      · exact ⟨_, rfl, by decide, by decide⟩
      · exact ⟨_, rfl, by decide, by decide⟩
      · exact ⟨_, rfl, by decide, by decide⟩
    (conv => whnf); (repeat (first | (refine w_need rfl ?_; (conv => whnf)) | (refine w_ix (by assumption) rfl ?_; (conv => whnf)) | (refine w_ix hupd_same rfl ?_; (conv => whnf)) | (refine w_setL (by assumption) rfl ?_; (conv => whnf)) | (refine w_setL hupd_same rfl ?_; (conv => whnf)) | (refine w_eqi ?_; (conv => whnf)) | (refine w_eqs ?_; (conv => whnf)) | (refine w_t (by first | rfl | decide | assumption) ?_; (conv => whnf)) | (refine w_f (by first | rfl | decide | assumption) ?_; (conv => whnf)) | (refine And.intro (by first | omega | rfl | decide | assumption | exact Nat.le_of_ble_eq_true rfl | exact mulR (by omega) (by omega) | exact mulL (by omega) (by omega) | exact mulM (by omega) (by omega) | exact divOk (by omega) (by omega) | exact Exists.intro _ (by assumption)) ?_; (conv => whnf))))
    intro pq hpq; generalize hh_h4 : hupd _ pq _ = h4; obtain ⟨x4, e4⟩ := newAt hh_h4 hpq
    (conv => whnf); (repeat (first | (refine w_need rfl ?_; (conv => whnf)) | (refine w_ix (by assumption) rfl ?_; (conv => whnf)) | (refine w_ix hupd_same rfl ?_; (conv => whnf)) | (refine w_setL (by assumption) rfl ?_; (conv => whnf)) | (refine w_setL hupd_same rfl ?_; (conv => whnf)) | (refine w_eqi ?_; (conv => whnf)) | (refine w_eqs ?_; (conv => whnf)) | (refine w_t (by first | rfl | decide | assumption) ?_; (conv => whnf)) | (refine w_f (by first | rfl | decide | assumption) ?_; (conv => whnf)) | (refine And.intro (by first | omega | rfl | decide | assumption | exact Nat.le_of_ble_eq_true rfl | exact mulR (by omega) (by omega) | exact mulL (by omega) (by omega) | exact mulM (by omega) (by omega) | exact divOk (by omega) (by omega) | exact Exists.intro _ (by assumption)) ?_; (conv => whnf))))
    refine sp_pick (f3.bag.ext x4) e4 (f3.bag.ne hpq) (show 0 < 3 by decide) (show 3 < 1000000 by decide) fun y h5 hy f5 => ?_
    have f5 := f3.trans ((Fr.of_ext f3.bag x4).trans f5)
    obtain ⟨many, rfl, hm, hm2⟩ : ∃ many : Int, y = .int many ∧ 1 ≤ many ∧ many ≤ 1000000000 := by
      simp only [List.mem_cons, List.not_mem_nil, or_false] at hy
      rcases hy with rfl | rfl | rfl
      · exact ⟨_, rfl, by decide, by decide⟩
      · exact ⟨_, rfl, by decide, by decide⟩
      · exact ⟨_, rfl, by decide, by decide⟩
    (conv => whnf); (repeat (first | (refine w_need rfl ?_; (conv => whnf)) | (refine w_ix (by assumption) rfl ?_; (conv => whnf)) | (refine w_ix hupd_same rfl ?_; (conv => whnf)) | (refine w_setL (by assumption) rfl ?_; (conv => whnf)) | (refine w_setL hupd_same rfl ?_; (conv => whnf)) | (refine w_eqi ?_; (conv => whnf)) | (refine w_eqs ?_; (conv => whnf)) | (refine w_t (by first | rfl | decide | assumption) ?_; (conv => whnf)) | (refine w_f (by first | rfl | decide | assumption) ?_; (conv => whnf)) | (refine And.intro (by first | omega | rfl | decide | assumption | exact Nat.le_of_ble_eq_true rfl | exact mulR (by omega) (by omega) | exact mulL (by omega) (by omega) | exact mulM (by omega) (by omega) | exact divOk (by omega) (by omega) | exact Exists.intro _ (by assumption)) ?_; (conv => whnf))))
    refine sp_kitchen f5.bag (by omega) (by omega) fun kk h6 f6 ed K T => ?_
    have f6 := f5.trans f6
    rw [← ed] at hm hm2
    have ek : kitErrF kk.d = .non := kit_right K T hm hm2 (by omega) (by omega) (by omega)
    have W := kw_of K ek
    (conv => whnf); (repeat (first | (refine w_need rfl ?_; (conv => whnf)) | (refine w_ix (by assumption) rfl ?_; (conv => whnf)) | (refine w_ix hupd_same rfl ?_; (conv => whnf)) | (refine w_setL (by assumption) rfl ?_; (conv => whnf)) | (refine w_setL hupd_same rfl ?_; (conv => whnf)) | (refine w_eqi ?_; (conv => whnf)) | (refine w_eqs ?_; (conv => whnf)) | (refine w_t (by first | rfl | decide | assumption) ?_; (conv => whnf)) | (refine w_f (by first | rfl | decide | assumption) ?_; (conv => whnf)) | (refine And.intro (by first | omega | rfl | decide | assumption | exact Nat.le_of_ble_eq_true rfl | exact mulR (by omega) (by omega) | exact mulL (by omega) (by omega) | exact mulM (by omega) (by omega) | exact divOk (by omega) (by omega) | exact Exists.intro _ (by assumption)) ?_; (conv => whnf))))
    refine sp_law_kitchen_word (Kit.vl _ kk) fun h7 x7 => ?_
    rw [ek]
    have f7 := f6.trans (.of_ext f6.bag x7)
    (conv => whnf); (repeat (first | (refine w_need rfl ?_; (conv => whnf)) | (refine w_ix (by assumption) rfl ?_; (conv => whnf)) | (refine w_ix hupd_same rfl ?_; (conv => whnf)) | (refine w_setL (by assumption) rfl ?_; (conv => whnf)) | (refine w_setL hupd_same rfl ?_; (conv => whnf)) | (refine w_eqi ?_; (conv => whnf)) | (refine w_eqs ?_; (conv => whnf)) | (refine w_t (by first | rfl | decide | assumption) ?_; (conv => whnf)) | (refine w_f (by first | rfl | decide | assumption) ?_; (conv => whnf)) | (refine And.intro (by first | omega | rfl | decide | assumption | exact Nat.le_of_ble_eq_true rfl | exact mulR (by omega) (by omega) | exact mulL (by omega) (by omega) | exact mulM (by omega) (by omega) | exact divOk (by omega) (by omega) | exact Exists.intro _ (by assumption)) ?_; (conv => whnf))))
    refine w_lc ?_
    (conv => whnf); (repeat (first | (refine w_need rfl ?_; (conv => whnf)) | (refine w_ix (by assumption) rfl ?_; (conv => whnf)) | (refine w_ix hupd_same rfl ?_; (conv => whnf)) | (refine w_setL (by assumption) rfl ?_; (conv => whnf)) | (refine w_setL hupd_same rfl ?_; (conv => whnf)) | (refine w_eqi ?_; (conv => whnf)) | (refine w_eqs ?_; (conv => whnf)) | (refine w_t (by first | rfl | decide | assumption) ?_; (conv => whnf)) | (refine w_f (by first | rfl | decide | assumption) ?_; (conv => whnf)) | (refine And.intro (by first | omega | rfl | decide | assumption | exact Nat.le_of_ble_eq_true rfl | exact mulR (by omega) (by omega) | exact mulL (by omega) (by omega) | exact mulM (by omega) (by omega) | exact divOk (by omega) (by omega) | exact Exists.intro _ (by assumption)) ?_; (conv => whnf))))
    intro p8 hp8
    have n8 := f7.bag.ne hp8
    refine w_go (I := fun i h' => Fr b h7 h' ∧ Hid [p8, b] b h' ∧ ∃ ys : List D, h' p8 = some (.lst ys) ∧ ys.length = i ∧ ∀ y ∈ ys, VX [p8, b] h' y 4 5000) ⟨.of_ext f7.bag (ext_new hp8), (Hid.one f7.bag).new hp8, [], hupd_same, rfl, fun y hy => absurd hy List.not_mem_nil⟩ (fun _ _ _ _ => trivial) ?_ ?_
    · rintro i d h' C ed2 ⟨f, Hd, ys, ey, ly, oy⟩ hC
      have hi : i < 6 := (rangeD_get ed2).1
      (conv => whnf)
      refine w_t rfl ?_
      (conv => whnf); (repeat (first | (refine w_need rfl ?_; (conv => whnf)) | (refine w_ix (by assumption) rfl ?_; (conv => whnf)) | (refine w_ix hupd_same rfl ?_; (conv => whnf)) | (refine w_setL (by assumption) rfl ?_; (conv => whnf)) | (refine w_setL hupd_same rfl ?_; (conv => whnf)) | (refine w_eqi ?_; (conv => whnf)) | (refine w_eqs ?_; (conv => whnf)) | (refine w_t (by first | rfl | decide | assumption) ?_; (conv => whnf)) | (refine w_f (by first | rfl | decide | assumption) ?_; (conv => whnf)) | (refine And.intro (by first | omega | rfl | decide | assumption | exact Nat.le_of_ble_eq_true rfl | exact mulR (by omega) (by omega) | exact mulL (by omega) (by omega) | exact mulM (by omega) (by omega) | exact divOk (by omega) (by omega) | exact Exists.intro _ (by assumption)) ?_; (conv => whnf))))
      refine sp_bentK Hd W fun y h'' f2 by2 => ?_
      have ey2 := f2.1 _ _ n8 ey
      refine w_push ey2 (small2 (by omega)) (hC _ ⟨fr_push (f.trans f2) hp8 n8, (Hd.fr f2).put n8, ys ++ [y], hupd_same, by simp [ly], fun z hz => ?_⟩)
      have x := off_put (S := [p8, b]) (h := h'') (o := .lst (ys ++ [y])) List.mem_cons_self
      rcases List.mem_append.mp hz with hz | hz
      · exact ((oy z hz).fr f2 Hd.mem).off x
      · rw [List.mem_singleton.mp hz]; exact by2.off x
    rintro h8 ⟨f8, H8, ys, ey, ly, oy⟩
    rw [rangeD_length] at ly
    have f8' := f7.trans f8
    (conv => whnf); (repeat (first | (refine w_need rfl ?_; (conv => whnf)) | (refine w_ix (by assumption) rfl ?_; (conv => whnf)) | (refine w_ix hupd_same rfl ?_; (conv => whnf)) | (refine w_setL (by assumption) rfl ?_; (conv => whnf)) | (refine w_setL hupd_same rfl ?_; (conv => whnf)) | (refine w_eqi ?_; (conv => whnf)) | (refine w_eqs ?_; (conv => whnf)) | (refine w_t (by first | rfl | decide | assumption) ?_; (conv => whnf)) | (refine w_f (by first | rfl | decide | assumption) ?_; (conv => whnf)) | (refine And.intro (by first | omega | rfl | decide | assumption | exact Nat.le_of_ble_eq_true rfl | exact mulR (by omega) (by omega) | exact mulL (by omega) (by omega) | exact mulM (by omega) (by omega) | exact divOk (by omega) (by omega) | exact Exists.intro _ (by assumption)) ?_; (conv => whnf))))
    refine w_lc ?_
    (conv => whnf)
    rw [ey]
    (conv => whnf)
    intro p9 hp9
    have n9 := f8.bag.ne hp9
    refine w_go (I := fun i h' => Fr b h8 h' ∧ Hid [p9, p8, b] b h' ∧ ∃ zs : List D, h' p9 = some (.lst zs) ∧ zs.length ≤ i ∧ ∀ y ∈ zs, VX [p9, p8, b] h' y 4 5000) ⟨.of_ext f8.bag (ext_new hp9), H8.new hp9, [], hupd_same, Nat.le_refl _, fun y hy => absurd hy List.not_mem_nil⟩ (fun i h' _ I => I.1.1 _ _ n8 ey) ?_ ?_
    · rintro i d h' C ed2 ⟨f, Hd, zs, ez, lz, oz⟩ hC
      have hi : i < ys.length := (List.getElem?_eq_some_iff.mp ed2).1
      have od := (oy d (List.mem_of_getElem? ed2)).off (off_fr_new f hp9 H8.mem)
      (conv => whnf); (repeat (first | (refine w_need rfl ?_; (conv => whnf)) | (refine w_ix (by assumption) rfl ?_; (conv => whnf)) | (refine w_ix hupd_same rfl ?_; (conv => whnf)) | (refine w_setL (by assumption) rfl ?_; (conv => whnf)) | (refine w_setL hupd_same rfl ?_; (conv => whnf)) | (refine w_eqi ?_; (conv => whnf)) | (refine w_eqs ?_; (conv => whnf)) | (refine w_t (by first | rfl | decide | assumption) ?_; (conv => whnf)) | (refine w_f (by first | rfl | decide | assumption) ?_; (conv => whnf)) | (refine And.intro (by first | omega | rfl | decide | assumption | exact Nat.le_of_ble_eq_true rfl | exact mulR (by omega) (by omega) | exact mulL (by omega) (by omega) | exact mulM (by omega) (by omega) | exact divOk (by omega) (by omega) | exact Exists.intro _ (by assumption)) ?_; (conv => whnf))))
      refine sp_law_kitchen_word od.vl fun h'' x' => ?_
      have f' := f.trans (.of_ext f.bag x')
      have Hd := Hd.ext x'
      have ez := x' _ _ ez
      have oz : ∀ y ∈ zs, VX [p9, p8, b] h'' y 4 5000 := fun y hy => (oz y hy).ext x'
      by_cases z : kitErrF d = .non
      · obtain ⟨k2, w2, rfl⟩ := kit_good z
        rw [z]
        (conv => whnf); (repeat (first | (refine w_need rfl ?_; (conv => whnf)) | (refine w_ix (by assumption) rfl ?_; (conv => whnf)) | (refine w_ix hupd_same rfl ?_; (conv => whnf)) | (refine w_setL (by assumption) rfl ?_; (conv => whnf)) | (refine w_setL hupd_same rfl ?_; (conv => whnf)) | (refine w_eqi ?_; (conv => whnf)) | (refine w_eqs ?_; (conv => whnf)) | (refine w_t (by first | rfl | decide | assumption) ?_; (conv => whnf)) | (refine w_f (by first | rfl | decide | assumption) ?_; (conv => whnf)) | (refine And.intro (by first | omega | rfl | decide | assumption | exact Nat.le_of_ble_eq_true rfl | exact mulR (by omega) (by omega) | exact mulL (by omega) (by omega) | exact mulM (by omega) (by omega) | exact divOk (by omega) (by omega) | exact Exists.intro _ (by assumption)) ?_; (conv => whnf))))
        refine sp_bentK Hd w2 fun y h3 f2 by2 => ?_
        have ez2 := f2.1 _ _ n9 ez
        refine w_push ez2 (small2 (by omega)) (hC _ ⟨fr_push (f'.trans f2) hp9 n9, (Hd.fr f2).put n9, zs ++ [y], hupd_same, by simp; omega, fun q hz => ?_⟩)
        have x := off_put (S := [p9, p8, b]) (h := h3) (o := .lst (zs ++ [y])) List.mem_cons_self
        rcases List.mem_append.mp hz with hz | hz
        · exact ((oz q hz).fr f2 Hd.mem).off x
        · rw [List.mem_singleton.mp hz]; exact by2.off x
      · have zn : isNon (kitErrF d) = false := by
          cases e : isNon (kitErrF d) with
          | false => rfl
          | true => exact absurd (isNon_is e) z
        generalize kitErrF d = er at zn
        (conv => whnf)
        refine w_f zn ?_
        exact hC _ ⟨f', Hd, zs, ez, by omega, oz⟩
    rintro h9 ⟨f9, H9, zs, ez, lz, oz⟩
    have f9' := f8'.trans f9
    have oy9 : ∀ y ∈ ys, VX [p9, p8, b] h9 y 4 5000 := fun y hy => (oy y hy).off (off_fr_new f9 hp9 H8.mem)
    have ey9 := f9.1 _ _ n8 ey
    (conv => whnf); (repeat (first | (refine w_need rfl ?_; (conv => whnf)) | (refine w_ix (by assumption) rfl ?_; (conv => whnf)) | (refine w_ix hupd_same rfl ?_; (conv => whnf)) | (refine w_setL (by assumption) rfl ?_; (conv => whnf)) | (refine w_setL hupd_same rfl ?_; (conv => whnf)) | (refine w_eqi ?_; (conv => whnf)) | (refine w_eqs ?_; (conv => whnf)) | (refine w_t (by first | rfl | decide | assumption) ?_; (conv => whnf)) | (refine w_f (by first | rfl | decide | assumption) ?_; (conv => whnf)) | (refine And.intro (by first | omega | rfl | decide | assumption | exact Nat.le_of_ble_eq_true rfl | exact mulR (by omega) (by omega) | exact mulL (by omega) (by omega) | exact mulM (by omega) (by omega) | exact divOk (by omega) (by omega) | exact Exists.intro _ (by assumption)) ?_; (conv => whnf))))
    refine w_for ?_
    (conv => whnf); (repeat (first | (refine w_need rfl ?_; (conv => whnf)) | (refine w_ix (by assumption) rfl ?_; (conv => whnf)) | (refine w_ix hupd_same rfl ?_; (conv => whnf)) | (refine w_setL (by assumption) rfl ?_; (conv => whnf)) | (refine w_setL hupd_same rfl ?_; (conv => whnf)) | (refine w_eqi ?_; (conv => whnf)) | (refine w_eqs ?_; (conv => whnf)) | (refine w_t (by first | rfl | decide | assumption) ?_; (conv => whnf)) | (refine w_f (by first | rfl | decide | assumption) ?_; (conv => whnf)) | (refine And.intro (by first | omega | rfl | decide | assumption | exact Nat.le_of_ble_eq_true rfl | exact mulR (by omega) (by omega) | exact mulL (by omega) (by omega) | exact mulM (by omega) (by omega) | exact divOk (by omega) (by omega) | exact Exists.intro _ (by assumption)) ?_; (conv => whnf))))
    intro p10 hp10; generalize hh_h10 : hupd _ p10 _ = h10; obtain ⟨x10, e10⟩ := newAt hh_h10 hp10
    (conv => whnf)
    refine ⟨_, _, e10, x10 _ _ ey9, Nat.le_of_lt (small2 (by simp only [List.length_cons, List.length_nil]; omega)), ?_⟩
    intro p11 hp11; generalize hh_h11 : hupd _ p11 _ = h11; obtain ⟨x11, e11⟩ := newAt hh_h11 hp11
    (conv => whnf)
    refine ⟨_, _, e11, (x10.trans x11) _ _ ez, Nat.le_of_lt (small2 (by simp only [List.length_append, List.length_cons, List.length_nil]; omega)), ?_⟩
    intro p12 hp12; generalize hh_h12 : hupd _ p12 _ = h12; obtain ⟨x12, e12⟩ := newAt hh_h12 hp12
    (conv => whnf); (repeat (first | (refine w_need rfl ?_; (conv => whnf)) | (refine w_ix (by assumption) rfl ?_; (conv => whnf)) | (refine w_ix hupd_same rfl ?_; (conv => whnf)) | (refine w_setL (by assumption) rfl ?_; (conv => whnf)) | (refine w_setL hupd_same rfl ?_; (conv => whnf)) | (refine w_eqi ?_; (conv => whnf)) | (refine w_eqs ?_; (conv => whnf)) | (refine w_t (by first | rfl | decide | assumption) ?_; (conv => whnf)) | (refine w_f (by first | rfl | decide | assumption) ?_; (conv => whnf)) | (refine And.intro (by first | omega | rfl | decide | assumption | exact Nat.le_of_ble_eq_true rfl | exact mulR (by omega) (by omega) | exact mulL (by omega) (by omega) | exact mulM (by omega) (by omega) | exact divOk (by omega) (by omega) | exact Exists.intro _ (by assumption)) ?_; (conv => whnf))))
    have H12 := ((H9.ext x10).ext x11).ext x12
    have n12 := ((H9.ext x10).ext x11).bag.ne hp12
    refine sp_odd H12 fun od h13 f13 oo => ?_
    (conv => whnf); (repeat (first | (refine w_need rfl ?_; (conv => whnf)) | (refine w_ix (by assumption) rfl ?_; (conv => whnf)) | (refine w_ix hupd_same rfl ?_; (conv => whnf)) | (refine w_setL (by assumption) rfl ?_; (conv => whnf)) | (refine w_setL hupd_same rfl ?_; (conv => whnf)) | (refine w_eqi ?_; (conv => whnf)) | (refine w_eqs ?_; (conv => whnf)) | (refine w_t (by first | rfl | decide | assumption) ?_; (conv => whnf)) | (refine w_f (by first | rfl | decide | assumption) ?_; (conv => whnf)) | (refine And.intro (by first | omega | rfl | decide | assumption | exact Nat.le_of_ble_eq_true rfl | exact mulR (by omega) (by omega) | exact mulL (by omega) (by omega) | exact mulM (by omega) (by omega) | exact divOk (by omega) (by omega) | exact Exists.intro _ (by assumption)) ?_; (conv => whnf))))
    intro p14 hp14; generalize hh_h14 : hupd _ p14 _ = h14; obtain ⟨x14, e14⟩ := newAt hh_h14 hp14
    (conv => whnf)
    have f1214 : Fr b h12 h14 := f13.trans (.of_ext (H12.fr f13).bag x14)
    refine ⟨_, _, f1214.1 _ _ n12 e12, e14, Nat.le_of_lt (small2 (by simp only [List.length_append, List.length_cons, List.length_nil]; omega)), ?_⟩
    intro p15 hp15; generalize hh_h15 : hupd _ p15 _ = h15; obtain ⟨x15, e15⟩ := newAt hh_h15 hp15
    have f915 : Fr b h9 h15 := ((Fr.of_ext H9.bag (x10.trans (x11.trans x12))).trans f1214).trans (.of_ext f1214.bag x15)
    have all : ∀ v ∈ [kk.d] ++ ys ++ zs ++ [.non, .tup [], od], VX [p9, p8, b] h15 v 4 5000 := by
      refine av_app (av_app (av_app (av_cons (vx_kit W) av_nil) fun v hv => (oy9 v hv).fr f915 H9.mem) fun v hv => (oz v hv).fr f915 H9.mem) ?_
      refine av_cons .non (av_cons ?_ (av_cons ?_ av_nil))
      · exact VX.mono (.tup (n := 0) (m := 0) .n) (by decide) (by decide)
      · exact (oo.vx.ext (x14.trans x15)).mono (by decide) (by decide)
    have f15 := f9'.trans f915
    generalize [kk.d] ++ ys ++ zs ++ [.non, .tup [], od] = vs at all e15
    clear oy9 oz oy e12 e11 e10 hp14 hp15 hp10 hp11 hp12 ey ey9 ez
    (conv => whnf)
    rw [e15]
    (conv => whnf)
    refine w_loop (I := fun _ τ h' => Ext h15 h' ∧ ∃ a7 a8 a9 a10 a11, τ = [some (.fls (ns.map D.int)), some (.loc b), some (.int (t : Nat)), some (.int share), some kk.d, some (.loc p8), some (.loc p9), a7, a8, a9, a10, a11]) ⟨.refl _, _, _, _, _, _, rfl⟩ (fun _ _ h' _ I => I.1 _ _ e15) ?_ ?_
    · rintro i d τ h16 nx3 ed3 ⟨x16, a7, a8, a9, a10, a11, rfl⟩ hnx3
      have vd := (all d (List.mem_of_getElem? ed3)).ext x16
      have vl := vd.vl
      obtain ⟨p, px, rp⟩ := vd.px
      (conv => whnf)
      refine w_repX px rp (by decide) (by decide) ?_
      (conv => whnf); (repeat (first | (refine w_need rfl ?_; (conv => whnf)) | (refine w_ix (by assumption) rfl ?_; (conv => whnf)) | (refine w_ix hupd_same rfl ?_; (conv => whnf)) | (refine w_setL (by assumption) rfl ?_; (conv => whnf)) | (refine w_setL hupd_same rfl ?_; (conv => whnf)) | (refine w_eqi ?_; (conv => whnf)) | (refine w_eqs ?_; (conv => whnf)) | (refine w_t (by first | rfl | decide | assumption) ?_; (conv => whnf)) | (refine w_f (by first | rfl | decide | assumption) ?_; (conv => whnf)) | (refine And.intro (by first | omega | rfl | decide | assumption | exact Nat.le_of_ble_eq_true rfl | exact mulR (by omega) (by omega) | exact mulL (by omega) (by omega) | exact mulM (by omega) (by omega) | exact divOk (by omega) (by omega) | exact Exists.intro _ (by assumption)) ?_; (conv => whnf))))
      refine sp_law_kitchen_word vl fun h17 x17 => ?_
      (conv => whnf); (repeat (first | (refine w_need rfl ?_; (conv => whnf)) | (refine w_ix (by assumption) rfl ?_; (conv => whnf)) | (refine w_ix hupd_same rfl ?_; (conv => whnf)) | (refine w_setL (by assumption) rfl ?_; (conv => whnf)) | (refine w_setL hupd_same rfl ?_; (conv => whnf)) | (refine w_eqi ?_; (conv => whnf)) | (refine w_eqs ?_; (conv => whnf)) | (refine w_t (by first | rfl | decide | assumption) ?_; (conv => whnf)) | (refine w_f (by first | rfl | decide | assumption) ?_; (conv => whnf)) | (refine And.intro (by first | omega | rfl | decide | assumption | exact Nat.le_of_ble_eq_true rfl | exact mulR (by omega) (by omega) | exact mulL (by omega) (by omega) | exact mulM (by omega) (by omega) | exact divOk (by omega) (by omega) | exact Exists.intro _ (by assumption)) ?_; (conv => whnf))))
      refine sp_kitchen_error (vl.ext x17) fun h18 x18 => ?_
      (conv => whnf); (repeat (first | (refine w_need rfl ?_; (conv => whnf)) | (refine w_ix (by assumption) rfl ?_; (conv => whnf)) | (refine w_ix hupd_same rfl ?_; (conv => whnf)) | (refine w_setL (by assumption) rfl ?_; (conv => whnf)) | (refine w_setL hupd_same rfl ?_; (conv => whnf)) | (refine w_eqi ?_; (conv => whnf)) | (refine w_eqs ?_; (conv => whnf)) | (refine w_t (by first | rfl | decide | assumption) ?_; (conv => whnf)) | (refine w_f (by first | rfl | decide | assumption) ?_; (conv => whnf)) | (refine And.intro (by first | omega | rfl | decide | assumption | exact Nat.le_of_ble_eq_true rfl | exact mulR (by omega) (by omega) | exact mulL (by omega) (by omega) | exact mulM (by omega) (by omega) | exact divOk (by omega) (by omega) | exact Exists.intro _ (by assumption)) ?_; (conv => whnf))))
      refine sp_kitchen_error (vl.ext (x17.trans x18)) fun h19 x19 => ?_
      obtain ⟨q, qx, rq⟩ := told_kit d
      generalize kitErrF d = due at qx
      (conv => whnf); (repeat (first | (refine w_need rfl ?_; (conv => whnf)) | (refine w_ix (by assumption) rfl ?_; (conv => whnf)) | (refine w_ix hupd_same rfl ?_; (conv => whnf)) | (refine w_setL (by assumption) rfl ?_; (conv => whnf)) | (refine w_setL hupd_same rfl ?_; (conv => whnf)) | (refine w_eqi ?_; (conv => whnf)) | (refine w_eqs ?_; (conv => whnf)) | (refine w_t (by first | rfl | decide | assumption) ?_; (conv => whnf)) | (refine w_f (by first | rfl | decide | assumption) ?_; (conv => whnf)) | (refine And.intro (by first | omega | rfl | decide | assumption | exact Nat.le_of_ble_eq_true rfl | exact mulR (by omega) (by omega) | exact mulL (by omega) (by omega) | exact mulM (by omega) (by omega) | exact divOk (by omega) (by omega) | exact Exists.intro _ (by assumption)) ?_; (conv => whnf))))
      refine w_repX (px.ext (x17.trans (x18.trans x19))) rp (by decide) (by decide) ?_
      have ls : p.shown.length ≤ 1000000 := by
        have := PyData.shown_le_bulk 101 (by decide) p rp.lv
        have := rp.bk
        omega
      have lo := lo_shown 101 p rp.lv
      (conv => whnf); (repeat (first | (refine w_need rfl ?_; (conv => whnf)) | (refine w_ix (by assumption) rfl ?_; (conv => whnf)) | (refine w_ix hupd_same rfl ?_; (conv => whnf)) | (refine w_setL (by assumption) rfl ?_; (conv => whnf)) | (refine w_setL hupd_same rfl ?_; (conv => whnf)) | (refine w_eqi ?_; (conv => whnf)) | (refine w_eqs ?_; (conv => whnf)) | (refine w_t (by first | rfl | decide | assumption) ?_; (conv => whnf)) | (refine w_f (by first | rfl | decide | assumption) ?_; (conv => whnf)) | (refine And.intro (by first | omega | rfl | decide | assumption | exact Nat.le_of_ble_eq_true rfl | exact mulR (by omega) (by omega) | exact mulL (by omega) (by omega) | exact mulM (by omega) (by omega) | exact divOk (by omega) (by omega) | exact Exists.intro _ (by assumption)) ?_; (conv => whnf))))
      intro p20 hp20; generalize hh_h20 : hupd _ p20 _ = h20; obtain ⟨x20, e20⟩ := newAt hh_h20 hp20
      (conv => whnf)
      refine w_repX3 e20 (qx _) (qx _) rq rq (by decide) (by decide) ls lo ?_
      (conv => whnf); (repeat (first | (refine w_need rfl ?_; (conv => whnf)) | (refine w_ix (by assumption) rfl ?_; (conv => whnf)) | (refine w_ix hupd_same rfl ?_; (conv => whnf)) | (refine w_setL (by assumption) rfl ?_; (conv => whnf)) | (refine w_setL hupd_same rfl ?_; (conv => whnf)) | (refine w_eqi ?_; (conv => whnf)) | (refine w_eqs ?_; (conv => whnf)) | (refine w_t (by first | rfl | decide | assumption) ?_; (conv => whnf)) | (refine w_f (by first | rfl | decide | assumption) ?_; (conv => whnf)) | (refine And.intro (by first | omega | rfl | decide | assumption | exact Nat.le_of_ble_eq_true rfl | exact mulR (by omega) (by omega) | exact mulL (by omega) (by omega) | exact mulM (by omega) (by omega) | exact divOk (by omega) (by omega) | exact Exists.intro _ (by assumption)) ?_; (conv => whnf))))
      intro p21 hp21; generalize hh_h21 : hupd _ p21 _ = h21; obtain ⟨x21, e21⟩ := newAt hh_h21 hp21
      (conv => whnf)
      refine w_repX3 e21 (qx _) (qx _) rq rq (by decide) (by decide) ls lo ?_
      (conv => whnf)
      refine w_eqs ?_
      rw [if_pos rfl, decide_eq_true rfl]
      refine w_f rfl ?_
      exact hnx3 _ _ ⟨x16.trans (x17.trans (x18.trans (x19.trans (x20.trans x21)))), _, _, _, _, _, rfl⟩
    · rintro τ h16 ⟨x16, a7, a8, a9, a10, a11, rfl⟩
      exact hnx _ _ ⟨f15.bag.ext x16, _, _, _, _, _, _, _, _, _, _, rfl⟩
  · rintro τ h2 ⟨B2, a2, a3, a4, a5, a6, a7, a8, a9, a10, a11, rfl⟩
    rfl
end DL

set_option Elab.async false
set_option linter.all false
set_option maxRecDepth 100000
set_option maxHeartbeats 4000000
namespace DL
open PySem PySem.Spec PyProof.Rows L2
theorem all_mk {l : PySem.W.OpenLaw} {w : World} {K : PySem.W.Frag} {h : Heap} {mg : Str → Option Value} {fa : Addr} (X : K.In h) (G : h.Ns mainGlobals mg) (hfa : mg "law" = some (.ref fa))
    {f_less f_plus f_own_gaps f_gaps f_is_torn f_is_integer f_is_tuple f_is_pair_of f_is_room f_is_tie f_ties_error f_dishes_error f_kitchen_error f_law_bag f_law_draw f_law_pick f_law_odd f_law_is_whole f_law_is_pair f_law_ups f_law_is_torn f_law_ties f_law_kitchen f_law_ties_word f_law_kitchen_word f_law_bent_tie f_law_bent_dish f_law_bent f_law : Addr}
    {od_less an_less od_plus an_plus od_own_gaps an_own_gaps od_gaps an_gaps od_is_torn an_is_torn od_is_integer an_is_integer od_is_tuple an_is_tuple od_is_pair_of an_is_pair_of od_is_room an_is_room od_is_tie an_is_tie od_ties_error an_ties_error od_dishes_error an_dishes_error od_kitchen_error an_kitchen_error od_law_bag an_law_bag od_law_draw an_law_draw od_law_pick an_law_pick od_law_odd an_law_odd od_law_is_whole an_law_is_whole od_law_is_pair an_law_is_pair od_law_ups an_law_ups od_law_is_torn an_law_is_torn od_law_ties an_law_ties od_law_kitchen an_law_kitchen od_law_ties_word an_law_ties_word od_law_kitchen_word an_law_kitchen_word od_law_bent_tie an_law_bent_tie od_law_bent_dish an_law_bent_dish od_law_bent an_law_bent od_law an_law : Option Addr}
    {sl_less sl_plus sl_own_gaps sl_gaps sl_is_torn sl_is_integer sl_is_tuple sl_is_pair_of sl_is_room sl_is_tie sl_ties_error sl_dishes_error sl_kitchen_error sl_law_bag sl_law_draw sl_law_pick sl_law_odd sl_law_is_whole sl_law_is_pair sl_law_ups sl_law_is_torn sl_law_ties sl_law_kitchen sl_law_ties_word sl_law_kitchen_word sl_law_bent_tie sl_law_bent_dish sl_law_bent sl_law : Array (Option Value)}
    {oc_less kV_less dc_less pm_less cd_less ct_less oc_plus kV_plus dc_plus pm_plus cd_plus ct_plus oc_own_gaps kV_own_gaps dc_own_gaps pm_own_gaps cd_own_gaps ct_own_gaps oc_gaps kV_gaps dc_gaps pm_gaps cd_gaps ct_gaps oc_is_torn kV_is_torn dc_is_torn pm_is_torn cd_is_torn ct_is_torn oc_is_integer kV_is_integer dc_is_integer pm_is_integer cd_is_integer ct_is_integer oc_is_tuple kV_is_tuple dc_is_tuple pm_is_tuple cd_is_tuple ct_is_tuple oc_is_pair_of kV_is_pair_of dc_is_pair_of pm_is_pair_of cd_is_pair_of ct_is_pair_of oc_is_room kV_is_room dc_is_room pm_is_room cd_is_room ct_is_room oc_is_tie kV_is_tie dc_is_tie pm_is_tie cd_is_tie ct_is_tie oc_ties_error kV_ties_error dc_ties_error pm_ties_error cd_ties_error ct_ties_error oc_dishes_error kV_dishes_error dc_dishes_error pm_dishes_error cd_dishes_error ct_dishes_error oc_kitchen_error kV_kitchen_error dc_kitchen_error pm_kitchen_error cd_kitchen_error ct_kitchen_error oc_law_bag kV_law_bag dc_law_bag pm_law_bag cd_law_bag ct_law_bag oc_law_draw kV_law_draw dc_law_draw pm_law_draw cd_law_draw ct_law_draw oc_law_pick kV_law_pick dc_law_pick pm_law_pick cd_law_pick ct_law_pick oc_law_odd kV_law_odd dc_law_odd pm_law_odd cd_law_odd ct_law_odd oc_law_is_whole kV_law_is_whole dc_law_is_whole pm_law_is_whole cd_law_is_whole ct_law_is_whole oc_law_is_pair kV_law_is_pair dc_law_is_pair pm_law_is_pair cd_law_is_pair ct_law_is_pair oc_law_ups kV_law_ups dc_law_ups pm_law_ups cd_law_ups ct_law_ups oc_law_is_torn kV_law_is_torn dc_law_is_torn pm_law_is_torn cd_law_is_torn ct_law_is_torn oc_law_ties kV_law_ties dc_law_ties pm_law_ties cd_law_ties ct_law_ties oc_law_kitchen kV_law_kitchen dc_law_kitchen pm_law_kitchen cd_law_kitchen ct_law_kitchen oc_law_ties_word kV_law_ties_word dc_law_ties_word pm_law_ties_word cd_law_ties_word ct_law_ties_word oc_law_kitchen_word kV_law_kitchen_word dc_law_kitchen_word pm_law_kitchen_word cd_law_kitchen_word ct_law_kitchen_word oc_law_bent_tie kV_law_bent_tie dc_law_bent_tie pm_law_bent_tie cd_law_bent_tie ct_law_bent_tie oc_law_bent_dish kV_law_bent_dish dc_law_bent_dish pm_law_bent_dish cd_law_bent_dish ct_law_bent_dish oc_law_bent kV_law_bent dc_law_bent pm_law_bent cd_law_bent ct_law_bent oc_law kV_law dc_law pm_law cd_law ct_law : Value}
    (a_less : PySem.W.nsIn K mainGlobals "less" = some (some (.ref f_less)))
    (l_less : K.lookup f_less = some ⟨oc_less, od_less, .func (PySem.W.fnOf "less" "less" (defArgs s_less) (defBody s_less) (defScope s_less) .none kV_less dc_less pm_less an_less cd_less ct_less), sl_less⟩)
    (c_less : PySem.W.codeIn K cd_less "less" = true)
    (k_less : PySem.W.keepIn K (.ref f_less) = true)
    (a_plus : PySem.W.nsIn K mainGlobals "plus" = some (some (.ref f_plus)))
    (l_plus : K.lookup f_plus = some ⟨oc_plus, od_plus, .func (PySem.W.fnOf "plus" "plus" (defArgs s_plus) (defBody s_plus) (defScope s_plus) .none kV_plus dc_plus pm_plus an_plus cd_plus ct_plus), sl_plus⟩)
    (c_plus : PySem.W.codeIn K cd_plus "plus" = true)
    (k_plus : PySem.W.keepIn K (.ref f_plus) = true)
    (a_own_gaps : PySem.W.nsIn K mainGlobals "own_gaps" = some (some (.ref f_own_gaps)))
    (l_own_gaps : K.lookup f_own_gaps = some ⟨oc_own_gaps, od_own_gaps, .func (PySem.W.fnOf "own_gaps" "own_gaps" (defArgs s_own_gaps) (defBody s_own_gaps) (defScope s_own_gaps) .none kV_own_gaps dc_own_gaps pm_own_gaps an_own_gaps cd_own_gaps ct_own_gaps), sl_own_gaps⟩)
    (c_own_gaps : PySem.W.codeIn K cd_own_gaps "own_gaps" = true)
    (k_own_gaps : PySem.W.keepIn K (.ref f_own_gaps) = true)
    (a_gaps : PySem.W.nsIn K mainGlobals "gaps" = some (some (.ref f_gaps)))
    (l_gaps : K.lookup f_gaps = some ⟨oc_gaps, od_gaps, .func (PySem.W.fnOf "gaps" "gaps" (defArgs s_gaps) (defBody s_gaps) (defScope s_gaps) .none kV_gaps dc_gaps pm_gaps an_gaps cd_gaps ct_gaps), sl_gaps⟩)
    (c_gaps : PySem.W.codeIn K cd_gaps "gaps" = true)
    (k_gaps : PySem.W.keepIn K (.ref f_gaps) = true)
    (a_is_torn : PySem.W.nsIn K mainGlobals "is_torn" = some (some (.ref f_is_torn)))
    (l_is_torn : K.lookup f_is_torn = some ⟨oc_is_torn, od_is_torn, .func (PySem.W.fnOf "is_torn" "is_torn" (defArgs s_is_torn) (defBody s_is_torn) (defScope s_is_torn) .none kV_is_torn dc_is_torn pm_is_torn an_is_torn cd_is_torn ct_is_torn), sl_is_torn⟩)
    (c_is_torn : PySem.W.codeIn K cd_is_torn "is_torn" = true)
    (k_is_torn : PySem.W.keepIn K (.ref f_is_torn) = true)
    (a_is_integer : PySem.W.nsIn K mainGlobals "is_integer" = some (some (.ref f_is_integer)))
    (l_is_integer : K.lookup f_is_integer = some ⟨oc_is_integer, od_is_integer, .func (PySem.W.fnOf "is_integer" "is_integer" (defArgs s_is_integer) (defBody s_is_integer) (defScope s_is_integer) .none kV_is_integer dc_is_integer pm_is_integer an_is_integer cd_is_integer ct_is_integer), sl_is_integer⟩)
    (c_is_integer : PySem.W.codeIn K cd_is_integer "is_integer" = true)
    (k_is_integer : PySem.W.keepIn K (.ref f_is_integer) = true)
    (a_is_tuple : PySem.W.nsIn K mainGlobals "is_tuple" = some (some (.ref f_is_tuple)))
    (l_is_tuple : K.lookup f_is_tuple = some ⟨oc_is_tuple, od_is_tuple, .func (PySem.W.fnOf "is_tuple" "is_tuple" (defArgs s_is_tuple) (defBody s_is_tuple) (defScope s_is_tuple) .none kV_is_tuple dc_is_tuple pm_is_tuple an_is_tuple cd_is_tuple ct_is_tuple), sl_is_tuple⟩)
    (c_is_tuple : PySem.W.codeIn K cd_is_tuple "is_tuple" = true)
    (k_is_tuple : PySem.W.keepIn K (.ref f_is_tuple) = true)
    (a_is_pair_of : PySem.W.nsIn K mainGlobals "is_pair_of" = some (some (.ref f_is_pair_of)))
    (l_is_pair_of : K.lookup f_is_pair_of = some ⟨oc_is_pair_of, od_is_pair_of, .func (PySem.W.fnOf "is_pair_of" "is_pair_of" (defArgs s_is_pair_of) (defBody s_is_pair_of) (defScope s_is_pair_of) .none kV_is_pair_of dc_is_pair_of pm_is_pair_of an_is_pair_of cd_is_pair_of ct_is_pair_of), sl_is_pair_of⟩)
    (c_is_pair_of : PySem.W.codeIn K cd_is_pair_of "is_pair_of" = true)
    (k_is_pair_of : PySem.W.keepIn K (.ref f_is_pair_of) = true)
    (a_is_room : PySem.W.nsIn K mainGlobals "is_room" = some (some (.ref f_is_room)))
    (l_is_room : K.lookup f_is_room = some ⟨oc_is_room, od_is_room, .func (PySem.W.fnOf "is_room" "is_room" (defArgs s_is_room) (defBody s_is_room) (defScope s_is_room) .none kV_is_room dc_is_room pm_is_room an_is_room cd_is_room ct_is_room), sl_is_room⟩)
    (c_is_room : PySem.W.codeIn K cd_is_room "is_room" = true)
    (k_is_room : PySem.W.keepIn K (.ref f_is_room) = true)
    (a_is_tie : PySem.W.nsIn K mainGlobals "is_tie" = some (some (.ref f_is_tie)))
    (l_is_tie : K.lookup f_is_tie = some ⟨oc_is_tie, od_is_tie, .func (PySem.W.fnOf "is_tie" "is_tie" (defArgs s_is_tie) (defBody s_is_tie) (defScope s_is_tie) .none kV_is_tie dc_is_tie pm_is_tie an_is_tie cd_is_tie ct_is_tie), sl_is_tie⟩)
    (c_is_tie : PySem.W.codeIn K cd_is_tie "is_tie" = true)
    (k_is_tie : PySem.W.keepIn K (.ref f_is_tie) = true)
    (a_ties_error : PySem.W.nsIn K mainGlobals "ties_error" = some (some (.ref f_ties_error)))
    (l_ties_error : K.lookup f_ties_error = some ⟨oc_ties_error, od_ties_error, .func (PySem.W.fnOf "ties_error" "ties_error" (defArgs s_ties_error) (defBody s_ties_error) (defScope s_ties_error) .none kV_ties_error dc_ties_error pm_ties_error an_ties_error cd_ties_error ct_ties_error), sl_ties_error⟩)
    (c_ties_error : PySem.W.codeIn K cd_ties_error "ties_error" = true)
    (k_ties_error : PySem.W.keepIn K (.ref f_ties_error) = true)
    (a_dishes_error : PySem.W.nsIn K mainGlobals "dishes_error" = some (some (.ref f_dishes_error)))
    (l_dishes_error : K.lookup f_dishes_error = some ⟨oc_dishes_error, od_dishes_error, .func (PySem.W.fnOf "dishes_error" "dishes_error" (defArgs s_dishes_error) (defBody s_dishes_error) (defScope s_dishes_error) .none kV_dishes_error dc_dishes_error pm_dishes_error an_dishes_error cd_dishes_error ct_dishes_error), sl_dishes_error⟩)
    (c_dishes_error : PySem.W.codeIn K cd_dishes_error "dishes_error" = true)
    (k_dishes_error : PySem.W.keepIn K (.ref f_dishes_error) = true)
    (a_kitchen_error : PySem.W.nsIn K mainGlobals "kitchen_error" = some (some (.ref f_kitchen_error)))
    (l_kitchen_error : K.lookup f_kitchen_error = some ⟨oc_kitchen_error, od_kitchen_error, .func (PySem.W.fnOf "kitchen_error" "kitchen_error" (defArgs s_kitchen_error) (defBody s_kitchen_error) (defScope s_kitchen_error) .none kV_kitchen_error dc_kitchen_error pm_kitchen_error an_kitchen_error cd_kitchen_error ct_kitchen_error), sl_kitchen_error⟩)
    (c_kitchen_error : PySem.W.codeIn K cd_kitchen_error "kitchen_error" = true)
    (k_kitchen_error : PySem.W.keepIn K (.ref f_kitchen_error) = true)
    (a_law_bag : PySem.W.nsIn K mainGlobals "_law_bag" = some (some (.ref f_law_bag)))
    (l_law_bag : K.lookup f_law_bag = some ⟨oc_law_bag, od_law_bag, .func (PySem.W.fnOf "_law_bag" "_law_bag" (defArgs s_law_bag) (defBody s_law_bag) (defScope s_law_bag) .none kV_law_bag dc_law_bag pm_law_bag an_law_bag cd_law_bag ct_law_bag), sl_law_bag⟩)
    (c_law_bag : PySem.W.codeIn K cd_law_bag "_law_bag" = true)
    (k_law_bag : PySem.W.keepIn K (.ref f_law_bag) = true)
    (a_law_draw : PySem.W.nsIn K mainGlobals "_law_draw" = some (some (.ref f_law_draw)))
    (l_law_draw : K.lookup f_law_draw = some ⟨oc_law_draw, od_law_draw, .func (PySem.W.fnOf "_law_draw" "_law_draw" (defArgs s_law_draw) (defBody s_law_draw) (defScope s_law_draw) .none kV_law_draw dc_law_draw pm_law_draw an_law_draw cd_law_draw ct_law_draw), sl_law_draw⟩)
    (c_law_draw : PySem.W.codeIn K cd_law_draw "_law_draw" = true)
    (k_law_draw : PySem.W.keepIn K (.ref f_law_draw) = true)
    (a_law_pick : PySem.W.nsIn K mainGlobals "_law_pick" = some (some (.ref f_law_pick)))
    (l_law_pick : K.lookup f_law_pick = some ⟨oc_law_pick, od_law_pick, .func (PySem.W.fnOf "_law_pick" "_law_pick" (defArgs s_law_pick) (defBody s_law_pick) (defScope s_law_pick) .none kV_law_pick dc_law_pick pm_law_pick an_law_pick cd_law_pick ct_law_pick), sl_law_pick⟩)
    (c_law_pick : PySem.W.codeIn K cd_law_pick "_law_pick" = true)
    (k_law_pick : PySem.W.keepIn K (.ref f_law_pick) = true)
    (a_law_odd : PySem.W.nsIn K mainGlobals "_law_odd" = some (some (.ref f_law_odd)))
    (l_law_odd : K.lookup f_law_odd = some ⟨oc_law_odd, od_law_odd, .func (PySem.W.fnOf "_law_odd" "_law_odd" (defArgs s_law_odd) (defBody s_law_odd) (defScope s_law_odd) .none kV_law_odd dc_law_odd pm_law_odd an_law_odd cd_law_odd ct_law_odd), sl_law_odd⟩)
    (c_law_odd : PySem.W.codeIn K cd_law_odd "_law_odd" = true)
    (k_law_odd : PySem.W.keepIn K (.ref f_law_odd) = true)
    (a_law_is_whole : PySem.W.nsIn K mainGlobals "_law_is_whole" = some (some (.ref f_law_is_whole)))
    (l_law_is_whole : K.lookup f_law_is_whole = some ⟨oc_law_is_whole, od_law_is_whole, .func (PySem.W.fnOf "_law_is_whole" "_law_is_whole" (defArgs s_law_is_whole) (defBody s_law_is_whole) (defScope s_law_is_whole) .none kV_law_is_whole dc_law_is_whole pm_law_is_whole an_law_is_whole cd_law_is_whole ct_law_is_whole), sl_law_is_whole⟩)
    (c_law_is_whole : PySem.W.codeIn K cd_law_is_whole "_law_is_whole" = true)
    (k_law_is_whole : PySem.W.keepIn K (.ref f_law_is_whole) = true)
    (a_law_is_pair : PySem.W.nsIn K mainGlobals "_law_is_pair" = some (some (.ref f_law_is_pair)))
    (l_law_is_pair : K.lookup f_law_is_pair = some ⟨oc_law_is_pair, od_law_is_pair, .func (PySem.W.fnOf "_law_is_pair" "_law_is_pair" (defArgs s_law_is_pair) (defBody s_law_is_pair) (defScope s_law_is_pair) .none kV_law_is_pair dc_law_is_pair pm_law_is_pair an_law_is_pair cd_law_is_pair ct_law_is_pair), sl_law_is_pair⟩)
    (c_law_is_pair : PySem.W.codeIn K cd_law_is_pair "_law_is_pair" = true)
    (k_law_is_pair : PySem.W.keepIn K (.ref f_law_is_pair) = true)
    (a_law_ups : PySem.W.nsIn K mainGlobals "_law_ups" = some (some (.ref f_law_ups)))
    (l_law_ups : K.lookup f_law_ups = some ⟨oc_law_ups, od_law_ups, .func (PySem.W.fnOf "_law_ups" "_law_ups" (defArgs s_law_ups) (defBody s_law_ups) (defScope s_law_ups) .none kV_law_ups dc_law_ups pm_law_ups an_law_ups cd_law_ups ct_law_ups), sl_law_ups⟩)
    (c_law_ups : PySem.W.codeIn K cd_law_ups "_law_ups" = true)
    (k_law_ups : PySem.W.keepIn K (.ref f_law_ups) = true)
    (a_law_is_torn : PySem.W.nsIn K mainGlobals "_law_is_torn" = some (some (.ref f_law_is_torn)))
    (l_law_is_torn : K.lookup f_law_is_torn = some ⟨oc_law_is_torn, od_law_is_torn, .func (PySem.W.fnOf "_law_is_torn" "_law_is_torn" (defArgs s_law_is_torn) (defBody s_law_is_torn) (defScope s_law_is_torn) .none kV_law_is_torn dc_law_is_torn pm_law_is_torn an_law_is_torn cd_law_is_torn ct_law_is_torn), sl_law_is_torn⟩)
    (c_law_is_torn : PySem.W.codeIn K cd_law_is_torn "_law_is_torn" = true)
    (k_law_is_torn : PySem.W.keepIn K (.ref f_law_is_torn) = true)
    (a_law_ties : PySem.W.nsIn K mainGlobals "_law_ties" = some (some (.ref f_law_ties)))
    (l_law_ties : K.lookup f_law_ties = some ⟨oc_law_ties, od_law_ties, .func (PySem.W.fnOf "_law_ties" "_law_ties" (defArgs s_law_ties) (defBody s_law_ties) (defScope s_law_ties) .none kV_law_ties dc_law_ties pm_law_ties an_law_ties cd_law_ties ct_law_ties), sl_law_ties⟩)
    (c_law_ties : PySem.W.codeIn K cd_law_ties "_law_ties" = true)
    (k_law_ties : PySem.W.keepIn K (.ref f_law_ties) = true)
    (a_law_kitchen : PySem.W.nsIn K mainGlobals "_law_kitchen" = some (some (.ref f_law_kitchen)))
    (l_law_kitchen : K.lookup f_law_kitchen = some ⟨oc_law_kitchen, od_law_kitchen, .func (PySem.W.fnOf "_law_kitchen" "_law_kitchen" (defArgs s_law_kitchen) (defBody s_law_kitchen) (defScope s_law_kitchen) .none kV_law_kitchen dc_law_kitchen pm_law_kitchen an_law_kitchen cd_law_kitchen ct_law_kitchen), sl_law_kitchen⟩)
    (c_law_kitchen : PySem.W.codeIn K cd_law_kitchen "_law_kitchen" = true)
    (k_law_kitchen : PySem.W.keepIn K (.ref f_law_kitchen) = true)
    (a_law_ties_word : PySem.W.nsIn K mainGlobals "_law_ties_word" = some (some (.ref f_law_ties_word)))
    (l_law_ties_word : K.lookup f_law_ties_word = some ⟨oc_law_ties_word, od_law_ties_word, .func (PySem.W.fnOf "_law_ties_word" "_law_ties_word" (defArgs s_law_ties_word) (defBody s_law_ties_word) (defScope s_law_ties_word) .none kV_law_ties_word dc_law_ties_word pm_law_ties_word an_law_ties_word cd_law_ties_word ct_law_ties_word), sl_law_ties_word⟩)
    (c_law_ties_word : PySem.W.codeIn K cd_law_ties_word "_law_ties_word" = true)
    (k_law_ties_word : PySem.W.keepIn K (.ref f_law_ties_word) = true)
    (a_law_kitchen_word : PySem.W.nsIn K mainGlobals "_law_kitchen_word" = some (some (.ref f_law_kitchen_word)))
    (l_law_kitchen_word : K.lookup f_law_kitchen_word = some ⟨oc_law_kitchen_word, od_law_kitchen_word, .func (PySem.W.fnOf "_law_kitchen_word" "_law_kitchen_word" (defArgs s_law_kitchen_word) (defBody s_law_kitchen_word) (defScope s_law_kitchen_word) .none kV_law_kitchen_word dc_law_kitchen_word pm_law_kitchen_word an_law_kitchen_word cd_law_kitchen_word ct_law_kitchen_word), sl_law_kitchen_word⟩)
    (c_law_kitchen_word : PySem.W.codeIn K cd_law_kitchen_word "_law_kitchen_word" = true)
    (k_law_kitchen_word : PySem.W.keepIn K (.ref f_law_kitchen_word) = true)
    (a_law_bent_tie : PySem.W.nsIn K mainGlobals "_law_bent_tie" = some (some (.ref f_law_bent_tie)))
    (l_law_bent_tie : K.lookup f_law_bent_tie = some ⟨oc_law_bent_tie, od_law_bent_tie, .func (PySem.W.fnOf "_law_bent_tie" "_law_bent_tie" (defArgs s_law_bent_tie) (defBody s_law_bent_tie) (defScope s_law_bent_tie) .none kV_law_bent_tie dc_law_bent_tie pm_law_bent_tie an_law_bent_tie cd_law_bent_tie ct_law_bent_tie), sl_law_bent_tie⟩)
    (c_law_bent_tie : PySem.W.codeIn K cd_law_bent_tie "_law_bent_tie" = true)
    (k_law_bent_tie : PySem.W.keepIn K (.ref f_law_bent_tie) = true)
    (a_law_bent_dish : PySem.W.nsIn K mainGlobals "_law_bent_dish" = some (some (.ref f_law_bent_dish)))
    (l_law_bent_dish : K.lookup f_law_bent_dish = some ⟨oc_law_bent_dish, od_law_bent_dish, .func (PySem.W.fnOf "_law_bent_dish" "_law_bent_dish" (defArgs s_law_bent_dish) (defBody s_law_bent_dish) (defScope s_law_bent_dish) .none kV_law_bent_dish dc_law_bent_dish pm_law_bent_dish an_law_bent_dish cd_law_bent_dish ct_law_bent_dish), sl_law_bent_dish⟩)
    (c_law_bent_dish : PySem.W.codeIn K cd_law_bent_dish "_law_bent_dish" = true)
    (k_law_bent_dish : PySem.W.keepIn K (.ref f_law_bent_dish) = true)
    (a_law_bent : PySem.W.nsIn K mainGlobals "_law_bent" = some (some (.ref f_law_bent)))
    (l_law_bent : K.lookup f_law_bent = some ⟨oc_law_bent, od_law_bent, .func (PySem.W.fnOf "_law_bent" "_law_bent" (defArgs s_law_bent) (defBody s_law_bent) (defScope s_law_bent) .none kV_law_bent dc_law_bent pm_law_bent an_law_bent cd_law_bent ct_law_bent), sl_law_bent⟩)
    (c_law_bent : PySem.W.codeIn K cd_law_bent "_law_bent" = true)
    (k_law_bent : PySem.W.keepIn K (.ref f_law_bent) = true)
    (a_law : PySem.W.nsIn K mainGlobals "law" = some (some (.ref f_law)))
    (l_law : K.lookup f_law = some ⟨oc_law, od_law, .func (PySem.W.fnOf "law" "law" (defArgs s_law) (defBody s_law) (defScope s_law) .none kV_law dc_law pm_law an_law cd_law ct_law), sl_law⟩)
    (c_law : PySem.W.codeIn K cd_law "law" = true)
    (k_law : PySem.W.keepIn K (.ref f_law) = true)
    (n_abs : PySem.W.nsIn K mainGlobals "abs" = some none)
    (n_all : PySem.W.nsIn K mainGlobals "all" = some none)
    (n_any : PySem.W.nsIn K mainGlobals "any" = some none)
    (n_bool : PySem.W.nsIn K mainGlobals "bool" = some none)
    (n_enumerate : PySem.W.nsIn K mainGlobals "enumerate" = some none)
    (n_int : PySem.W.nsIn K mainGlobals "int" = some none)
    (n_isinstance : PySem.W.nsIn K mainGlobals "isinstance" = some none)
    (n_len : PySem.W.nsIn K mainGlobals "len" = some none)
    (n_list : PySem.W.nsIn K mainGlobals "list" = some none)
    (n_min : PySem.W.nsIn K mainGlobals "min" = some none)
    (n_range : PySem.W.nsIn K mainGlobals "range" = some none)
    (n_repr : PySem.W.nsIn K mainGlobals "repr" = some none)
    (n_set : PySem.W.nsIn K mainGlobals "set" = some none)
    (n_sorted : PySem.W.nsIn K mainGlobals "sorted" = some none)
    (n_tuple : PySem.W.nsIn K mainGlobals "tuple" = some none)
    {t_cMAX_DIALS : Tok} (v_cMAX_DIALS : PySem.W.nsIn K mainGlobals "MAX_DIALS" = some (some (.int 1000000000 t_cMAX_DIALS)))
    {t_cMAX_DISHES : Tok} (v_cMAX_DISHES : PySem.W.nsIn K mainGlobals "MAX_DISHES" = some (some (.int 6 t_cMAX_DISHES)))
    {t_cMAX_HEAT : Tok} (v_cMAX_HEAT : PySem.W.nsIn K mainGlobals "MAX_HEAT" = some (some (.int 1000000000000 t_cMAX_HEAT)))
    {t_cMAX_OVENS : Tok} (v_cMAX_OVENS : PySem.W.nsIn K mainGlobals "MAX_OVENS" = some (some (.int 4 t_cMAX_OVENS)))
    {t_cMAX_SLOPE : Tok} (v_cMAX_SLOPE : PySem.W.nsIn K mainGlobals "MAX_SLOPE" = some (some (.int 1000000000 t_cMAX_SLOPE)))
    {t_cMAX_TIES : Tok} (v_cMAX_TIES : PySem.W.nsIn K mainGlobals "MAX_TIES" = some (some (.int 6 t_cMAX_TIES)))
    {t_cMAX_WARMTH : Tok} (v_cMAX_WARMTH : PySem.W.nsIn K mainGlobals "MAX_WARMTH" = some (some (.int 1000000000000000000000000 t_cMAX_WARMTH))) :
    ∃ fd : FuncData, (∀ (s : Shared) (v : Value), BindsTo s fd ⟨[v], []⟩ [("_law_script", v)]) ∧ ∀ base : Heap, K.In base → base.Ns mainGlobals mg → FnG l.prog w K mg base CX0 6 fa fd ["_law_script"] (spD K 1 (runD 12 b_law)) := by
  have e := hfa.symm.trans (PySem.W.mg_of X G a_law)
  cases e
  have T : Facts K mg := ⟨PySem.W.mg_none_of X G n_abs, PySem.W.mg_none_of X G n_all, PySem.W.mg_none_of X G n_any, PySem.W.mg_none_of X G n_bool, PySem.W.mg_none_of X G n_enumerate, PySem.W.mg_none_of X G n_int, PySem.W.mg_none_of X G n_isinstance, PySem.W.mg_none_of X G n_len, PySem.W.mg_none_of X G n_list, PySem.W.mg_none_of X G n_min, PySem.W.mg_none_of X G n_range, PySem.W.mg_none_of X G n_repr, PySem.W.mg_none_of X G n_set, PySem.W.mg_none_of X G n_sorted, PySem.W.mg_none_of X G n_tuple, ⟨_, PySem.W.mg_of X G v_cMAX_DIALS⟩, ⟨_, PySem.W.mg_of X G v_cMAX_DISHES⟩, ⟨_, PySem.W.mg_of X G v_cMAX_HEAT⟩, ⟨_, PySem.W.mg_of X G v_cMAX_OVENS⟩, ⟨_, PySem.W.mg_of X G v_cMAX_SLOPE⟩, ⟨_, PySem.W.mg_of X G v_cMAX_TIES⟩, ⟨_, PySem.W.mg_of X G v_cMAX_WARMTH⟩⟩
  apply Exists.intro
  apply And.intro
  case right =>
    intro base _ _
    have G_less := ok_less (P := l.prog) (w := w) (base := base) T (fun_mk (st := s_less) l_less c_less k_less) (PySem.W.mg_of X G a_less) 
    have G_plus := ok_plus (P := l.prog) (w := w) (base := base) T (fun_mk (st := s_plus) l_plus c_plus k_plus) (PySem.W.mg_of X G a_plus) 
    have G_own_gaps := ok_own_gaps (P := l.prog) (w := w) (base := base) T (fun_mk (st := s_own_gaps) l_own_gaps c_own_gaps k_own_gaps) (PySem.W.mg_of X G a_own_gaps) G_less
    have G_gaps := ok_gaps (P := l.prog) (w := w) (base := base) T (fun_mk (st := s_gaps) l_gaps c_gaps k_gaps) (PySem.W.mg_of X G a_gaps) G_own_gaps G_plus G_less
    have G_is_torn := ok_is_torn (P := l.prog) (w := w) (base := base) T (fun_mk (st := s_is_torn) l_is_torn c_is_torn k_is_torn) (PySem.W.mg_of X G a_is_torn) G_gaps
    have G_is_integer := ok_is_integer (P := l.prog) (w := w) (base := base) T (fun_mk (st := s_is_integer) l_is_integer c_is_integer k_is_integer) (PySem.W.mg_of X G a_is_integer) 
    have G_is_tuple := ok_is_tuple (P := l.prog) (w := w) (base := base) T (fun_mk (st := s_is_tuple) l_is_tuple c_is_tuple k_is_tuple) (PySem.W.mg_of X G a_is_tuple) 
    have G_is_pair_of := ok_is_pair_of (P := l.prog) (w := w) (base := base) T (fun_mk (st := s_is_pair_of) l_is_pair_of c_is_pair_of k_is_pair_of) (PySem.W.mg_of X G a_is_pair_of) G_is_tuple G_is_integer
    have G_is_room := ok_is_room (P := l.prog) (w := w) (base := base) T (fun_mk (st := s_is_room) l_is_room c_is_room k_is_room) (PySem.W.mg_of X G a_is_room) G_is_tuple G_is_integer
    have G_is_tie := ok_is_tie (P := l.prog) (w := w) (base := base) T (fun_mk (st := s_is_tie) l_is_tie c_is_tie k_is_tie) (PySem.W.mg_of X G a_is_tie) G_is_tuple G_is_integer G_is_pair_of
    have G_ties_error := ok_ties_error (P := l.prog) (w := w) (base := base) T (fun_mk (st := s_ties_error) l_ties_error c_ties_error k_ties_error) (PySem.W.mg_of X G a_ties_error) G_is_tie
    have G_dishes_error := ok_dishes_error (P := l.prog) (w := w) (base := base) T (fun_mk (st := s_dishes_error) l_dishes_error c_dishes_error k_dishes_error) (PySem.W.mg_of X G a_dishes_error) G_is_pair_of
    have G_kitchen_error := ok_kitchen_error (P := l.prog) (w := w) (base := base) T (fun_mk (st := s_kitchen_error) l_kitchen_error c_kitchen_error k_kitchen_error) (PySem.W.mg_of X G a_kitchen_error) G_is_tuple G_is_integer G_is_pair_of G_is_room G_ties_error G_dishes_error G_is_torn
    have G_law_bag := ok_law_bag (P := l.prog) (w := w) (base := base) T (fun_mk (st := s_law_bag) l_law_bag c_law_bag k_law_bag) (PySem.W.mg_of X G a_law_bag) 
    have G_law_draw := ok_law_draw (P := l.prog) (w := w) (base := base) T (fun_mk (st := s_law_draw) l_law_draw c_law_draw k_law_draw) (PySem.W.mg_of X G a_law_draw) 
    have G_law_pick := ok_law_pick (P := l.prog) (w := w) (base := base) T (fun_mk (st := s_law_pick) l_law_pick c_law_pick k_law_pick) (PySem.W.mg_of X G a_law_pick) G_law_draw
    have G_law_odd := ok_law_odd (P := l.prog) (w := w) (base := base) T (fun_mk (st := s_law_odd) l_law_odd c_law_odd k_law_odd) (PySem.W.mg_of X G a_law_odd) G_law_pick
    have G_law_is_whole := ok_law_is_whole (P := l.prog) (w := w) (base := base) T (fun_mk (st := s_law_is_whole) l_law_is_whole c_law_is_whole k_law_is_whole) (PySem.W.mg_of X G a_law_is_whole) 
    have G_law_is_pair := ok_law_is_pair (P := l.prog) (w := w) (base := base) T (fun_mk (st := s_law_is_pair) l_law_is_pair c_law_is_pair k_law_is_pair) (PySem.W.mg_of X G a_law_is_pair) G_law_is_whole
    have G_law_ups := ok_law_ups (P := l.prog) (w := w) (base := base) T (fun_mk (st := s_law_ups) l_law_ups c_law_ups k_law_ups) (PySem.W.mg_of X G a_law_ups) 
    have G_law_is_torn := ok_law_is_torn (P := l.prog) (w := w) (base := base) T (fun_mk (st := s_law_is_torn) l_law_is_torn c_law_is_torn k_law_is_torn) (PySem.W.mg_of X G a_law_is_torn) G_law_ups
    have G_law_ties := ok_law_ties (P := l.prog) (w := w) (base := base) T (fun_mk (st := s_law_ties) l_law_ties c_law_ties k_law_ties) (PySem.W.mg_of X G a_law_ties) G_law_draw G_law_is_torn
    have G_law_kitchen := ok_law_kitchen (P := l.prog) (w := w) (base := base) T (fun_mk (st := s_law_kitchen) l_law_kitchen c_law_kitchen k_law_kitchen) (PySem.W.mg_of X G a_law_kitchen) G_law_draw G_law_ties
    have G_law_ties_word := ok_law_ties_word (P := l.prog) (w := w) (base := base) T (fun_mk (st := s_law_ties_word) l_law_ties_word c_law_ties_word k_law_ties_word) (PySem.W.mg_of X G a_law_ties_word) G_law_is_pair G_law_is_whole
    have G_law_kitchen_word := ok_law_kitchen_word (P := l.prog) (w := w) (base := base) T (fun_mk (st := s_law_kitchen_word) l_law_kitchen_word c_law_kitchen_word k_law_kitchen_word) (PySem.W.mg_of X G a_law_kitchen_word) G_law_is_whole G_law_is_pair G_law_ties_word G_law_is_torn
    have G_law_bent_tie := ok_law_bent_tie (P := l.prog) (w := w) (base := base) T (fun_mk (st := s_law_bent_tie) l_law_bent_tie c_law_bent_tie k_law_bent_tie) (PySem.W.mg_of X G a_law_bent_tie) G_law_pick
    have G_law_bent_dish := ok_law_bent_dish (P := l.prog) (w := w) (base := base) T (fun_mk (st := s_law_bent_dish) l_law_bent_dish c_law_bent_dish k_law_bent_dish) (PySem.W.mg_of X G a_law_bent_dish) G_law_pick
    have G_law_bent := ok_law_bent (P := l.prog) (w := w) (base := base) T (fun_mk (st := s_law_bent) l_law_bent c_law_bent k_law_bent) (PySem.W.mg_of X G a_law_bent) G_law_odd G_law_draw G_law_bent_tie G_law_bent_dish G_law_pick
    exact fg_law (P := l.prog) (w := w) (base := base) T (fun_mk (st := s_law) l_law c_law k_law) G_law_bag G_law_pick G_law_kitchen G_law_kitchen_word G_law_bent G_law_odd G_kitchen_error
  case left => exact fun s v => .of_eq rfl
end DL
open PySem PySem.W PyProof.Rows
set_option maxRecDepth 100000 in
set_option maxHeartbeats 0 in
theorem PySem.Challenge.cw_ovensuntold_k01_kitchens_judged_holds : PySem.Challenge.rw_ovensuntold_k01_kitchens_judged.Holds := by
  w_on; o_law; k_head; (case hw => w_witness2)
  k_fill
  refine DL.walkG (l := PySem.Challenge.rw_ovensuntold_k01_kitchens_judged) (n := 63) (k := 6) (x := "_law_script") (m := 12) (b := DL.b_law) rfl (by decide) rfl ⟨⟨rfl, by decide, by decide⟩, rfl⟩ (fun w h Y => PySem.W.kIn_of Y) ?F DL.law_holds
  case F =>
    intro w mg fa h KX G hmg
    refine' DL.all_mk KX G hmg ?a_less ?l_less ?c_less ?k_less ?a_plus ?l_plus ?c_plus ?k_plus ?a_own_gaps ?l_own_gaps ?c_own_gaps ?k_own_gaps ?a_gaps ?l_gaps ?c_gaps ?k_gaps ?a_is_torn ?l_is_torn ?c_is_torn ?k_is_torn ?a_is_integer ?l_is_integer ?c_is_integer ?k_is_integer ?a_is_tuple ?l_is_tuple ?c_is_tuple ?k_is_tuple ?a_is_pair_of ?l_is_pair_of ?c_is_pair_of ?k_is_pair_of ?a_is_room ?l_is_room ?c_is_room ?k_is_room ?a_is_tie ?l_is_tie ?c_is_tie ?k_is_tie ?a_ties_error ?l_ties_error ?c_ties_error ?k_ties_error ?a_dishes_error ?l_dishes_error ?c_dishes_error ?k_dishes_error ?a_kitchen_error ?l_kitchen_error ?c_kitchen_error ?k_kitchen_error ?a_law_bag ?l_law_bag ?c_law_bag ?k_law_bag ?a_law_draw ?l_law_draw ?c_law_draw ?k_law_draw ?a_law_pick ?l_law_pick ?c_law_pick ?k_law_pick ?a_law_odd ?l_law_odd ?c_law_odd ?k_law_odd ?a_law_is_whole ?l_law_is_whole ?c_law_is_whole ?k_law_is_whole ?a_law_is_pair ?l_law_is_pair ?c_law_is_pair ?k_law_is_pair ?a_law_ups ?l_law_ups ?c_law_ups ?k_law_ups ?a_law_is_torn ?l_law_is_torn ?c_law_is_torn ?k_law_is_torn ?a_law_ties ?l_law_ties ?c_law_ties ?k_law_ties ?a_law_kitchen ?l_law_kitchen ?c_law_kitchen ?k_law_kitchen ?a_law_ties_word ?l_law_ties_word ?c_law_ties_word ?k_law_ties_word ?a_law_kitchen_word ?l_law_kitchen_word ?c_law_kitchen_word ?k_law_kitchen_word ?a_law_bent_tie ?l_law_bent_tie ?c_law_bent_tie ?k_law_bent_tie ?a_law_bent_dish ?l_law_bent_dish ?c_law_bent_dish ?k_law_bent_dish ?a_law_bent ?l_law_bent ?c_law_bent ?k_law_bent ?a_law ?l_law ?c_law ?k_law ?n_abs ?n_all ?n_any ?n_bool ?n_enumerate ?n_int ?n_isinstance ?n_len ?n_list ?n_min ?n_range ?n_repr ?n_set ?n_sorted ?n_tuple ?v_cMAX_DIALS ?v_cMAX_DISHES ?v_cMAX_HEAT ?v_cMAX_OVENS ?v_cMAX_SLOPE ?v_cMAX_TIES ?v_cMAX_WARMTH
    (case a_less => k_is)
    (case l_less => k_is)
    (case c_less => k_is)
    (case k_less => k_is)
    (case a_plus => k_is)
    (case l_plus => k_is)
    (case c_plus => k_is)
    (case k_plus => k_is)
    (case a_own_gaps => k_is)
    (case l_own_gaps => k_is)
    (case c_own_gaps => k_is)
    (case k_own_gaps => k_is)
    (case a_gaps => k_is)
    (case l_gaps => k_is)
    (case c_gaps => k_is)
    (case k_gaps => k_is)
    (case a_is_torn => k_is)
    (case l_is_torn => k_is)
    (case c_is_torn => k_is)
    (case k_is_torn => k_is)
    (case a_is_integer => k_is)
    (case l_is_integer => k_is)
    (case c_is_integer => k_is)
    (case k_is_integer => k_is)
    (case a_is_tuple => k_is)
    (case l_is_tuple => k_is)
    (case c_is_tuple => k_is)
    (case k_is_tuple => k_is)
    (case a_is_pair_of => k_is)
    (case l_is_pair_of => k_is)
    (case c_is_pair_of => k_is)
    (case k_is_pair_of => k_is)
    (case a_is_room => k_is)
    (case l_is_room => k_is)
    (case c_is_room => k_is)
    (case k_is_room => k_is)
    (case a_is_tie => k_is)
    (case l_is_tie => k_is)
    (case c_is_tie => k_is)
    (case k_is_tie => k_is)
    (case a_ties_error => k_is)
    (case l_ties_error => k_is)
    (case c_ties_error => k_is)
    (case k_ties_error => k_is)
    (case a_dishes_error => k_is)
    (case l_dishes_error => k_is)
    (case c_dishes_error => k_is)
    (case k_dishes_error => k_is)
    (case a_kitchen_error => k_is)
    (case l_kitchen_error => k_is)
    (case c_kitchen_error => k_is)
    (case k_kitchen_error => k_is)
    (case a_law_bag => k_is)
    (case l_law_bag => k_is)
    (case c_law_bag => k_is)
    (case k_law_bag => k_is)
    (case a_law_draw => k_is)
    (case l_law_draw => k_is)
    (case c_law_draw => k_is)
    (case k_law_draw => k_is)
    (case a_law_pick => k_is)
    (case l_law_pick => k_is)
    (case c_law_pick => k_is)
    (case k_law_pick => k_is)
    (case a_law_odd => k_is)
    (case l_law_odd => k_is)
    (case c_law_odd => k_is)
    (case k_law_odd => k_is)
    (case a_law_is_whole => k_is)
    (case l_law_is_whole => k_is)
    (case c_law_is_whole => k_is)
    (case k_law_is_whole => k_is)
    (case a_law_is_pair => k_is)
    (case l_law_is_pair => k_is)
    (case c_law_is_pair => k_is)
    (case k_law_is_pair => k_is)
    (case a_law_ups => k_is)
    (case l_law_ups => k_is)
    (case c_law_ups => k_is)
    (case k_law_ups => k_is)
    (case a_law_is_torn => k_is)
    (case l_law_is_torn => k_is)
    (case c_law_is_torn => k_is)
    (case k_law_is_torn => k_is)
    (case a_law_ties => k_is)
    (case l_law_ties => k_is)
    (case c_law_ties => k_is)
    (case k_law_ties => k_is)
    (case a_law_kitchen => k_is)
    (case l_law_kitchen => k_is)
    (case c_law_kitchen => k_is)
    (case k_law_kitchen => k_is)
    (case a_law_ties_word => k_is)
    (case l_law_ties_word => k_is)
    (case c_law_ties_word => k_is)
    (case k_law_ties_word => k_is)
    (case a_law_kitchen_word => k_is)
    (case l_law_kitchen_word => k_is)
    (case c_law_kitchen_word => k_is)
    (case k_law_kitchen_word => k_is)
    (case a_law_bent_tie => k_is)
    (case l_law_bent_tie => k_is)
    (case c_law_bent_tie => k_is)
    (case k_law_bent_tie => k_is)
    (case a_law_bent_dish => k_is)
    (case l_law_bent_dish => k_is)
    (case c_law_bent_dish => k_is)
    (case k_law_bent_dish => k_is)
    (case a_law_bent => k_is)
    (case l_law_bent => k_is)
    (case c_law_bent => k_is)
    (case k_law_bent => k_is)
    (case a_law => k_is)
    (case l_law => k_is)
    (case c_law => k_is)
    (case k_law => k_is)
    (case n_abs => k_is)
    (case n_all => k_is)
    (case n_any => k_is)
    (case n_bool => k_is)
    (case n_enumerate => k_is)
    (case n_int => k_is)
    (case n_isinstance => k_is)
    (case n_len => k_is)
    (case n_list => k_is)
    (case n_min => k_is)
    (case n_range => k_is)
    (case n_repr => k_is)
    (case n_set => k_is)
    (case n_sorted => k_is)
    (case n_tuple => k_is)
    (case v_cMAX_DIALS => k_is)
    (case v_cMAX_DISHES => k_is)
    (case v_cMAX_HEAT => k_is)
    (case v_cMAX_OVENS => k_is)
    (case v_cMAX_SLOPE => k_is)
    (case v_cMAX_TIES => k_is)
    (case v_cMAX_WARMTH => k_is)

