import PyProof.Rows.All
import Wide.All
import OpenK.AllK
import Wide.FinOn
import HandS.ForMost
import HandS.IsInst
import HandS.Wide
import HandS.Zip
import HandS.TupAny
import HandS.TupSets
import HandS.Deep
import HandS.Flow
import HandS.Conv
import HandS.Property
import HandS.Exc
import HandS.ExcInit
import HandS.ExcOwn
import HandS.TryOnly
import HandS.TryMany
import HandS.WordsExc
import HandS.Lambda
import KE.KDictKeyed
import KE.KSortTupG
import PyProof.ReprBulk
import HandS.Style
import HandS.TupLe
import KE.GoesEnum
import HandS.SetFor
import HandS.Strs
import HandS.SortInts
import HandS.TupMul
import KE.DataMinMax
import KE.SortData
import KE.GoesMore
import HandS.More
import PyProof.EqKinds
import PyProof.FactsAll.dict_1
import PyProof.FactsAll.subtypes
import KE.KDictWalk
import KE.KExcInit
import KE.KDictZip
import HandS.ExcValue
import KE.KExcIs
import HandS.FStr
import KE.KIntText
import PySem.Challenge.RW_ovensuntold_k66_errors_and_bounds
set_option Elab.async false
set_option linter.all false
set_option maxRecDepth 100000
/-! DL1: values as trees (tuples by their items, mutable things by their addresses), heaps of such, and the link from the hand layer's readings. -/
namespace DL
open PySem PySem.Spec PyProof.Rows L2
/-- a word that stands still, for the kernel too -/
theorem op_ex {α : Sort u} (a : α) : ∃ b : α, b = a := ⟨a, rfl⟩
noncomputable def hide {α : Sort u} (a : α) : α := Classical.choose (op_ex a)
theorem hide_eq {α : Sort u} (a : α) : hide a = a := Classical.choose_spec (op_ex a)

inductive D where
  | non | bl (b : Bool) | int (i : Int) | str (x : Str) | tup (ds : List D) | ktp (ds : List D) | fls (ds : List D) | loc (a : Addr) | ty (n : String)
/-- a list that is never written: locked, or of the module -/
def SqF (K : PySem.W.Frag) (H : Hp) (a : Addr) (xs : List V) : Prop :=
  (∃ o, H a = some (.frz o (.lst xs))) ∨
    ∃ (o : Obj) (its : Array Value) (n : Nat), K.lookup a = some o ∧ o.cls = .type "list" ∧ o.dict = none ∧ o.data = .seq its n ∧ its.size ≤ sizeLine ∧ Vals xs its.toList
/-- a tuple of the module -/
def SqK (K : PySem.W.Frag) (a : Addr) (xs : List V) : Prop :=
  ∃ (o : Obj) (its : Array Value) (n : Nat), K.lookup a = some o ∧ o.cls = .type "tuple" ∧ o.data = .seq its n ∧ its.size ≤ sizeLine ∧ Vals xs its.toList
theorem SqK.t {K : PySem.W.Frag} {H : Hp} {a : Addr} {xs : List V} (h : SqK K a xs) : SqT K H a xs := .inr h
theorem SqF.l {K : PySem.W.Frag} {H : Hp} {a : Addr} {xs : List V} (h : SqF K H a xs) : SqL K H a xs := by
  rcases h with h | h
  · exact .inl (.inr h)
  · exact .inr h

/-- what a tree is as a key: an int, a text, None, a tuple of ints and texts -/
def keyN1 : D → Option NestedKey
  | .int i => some (.num i)
  | .str x => some (.text x)
  | _ => none
def keysN : List D → Option (List NestedKey)
  | [] => some []
  | d :: ds => match keyN1 d, keysN ds with
    | some k, some ks => some (k :: ks)
    | _, _ => none
def keyN : D → Option NestedKey
  | .int i => some (.num i)
  | .str x => some (.text x)
  | .tup ds => (keysN ds).map .tup
  | _ => none
/-- a dict's entries as they stand -/
def RawD (a : Addr) (raw : List DictEntry) : Heap → Prop := fun h => (a == sysModules) = false ∧ ∃ o ep, h.get? a = some o ∧ o.ExactDict ∧ o.data = .dict raw.toArray ep
/-- a code object's table: each code object that it tells bears the name q, and stands still -/
def TabF (H : Hp) (P : Addr) (q : Str) : Prop := ∃ ps : Array Value, H P = some (.tbl ps) ∧ TriplesOk ps.toList ∧ ∀ (pos : Pos) (cv : Value), codeAmong pos ps.toList = some cv → ∃ (c : Addr) (oc : Obj), cv = .ref c ∧ H c = some (.frz oc (LamX.CodeO c q))
inductive DO where
  | lst (ds : List D)
  | dK (kvs : List (Key × D))
  | dT (kvs : List (List Key × D))
  | dM (w : World) (kvs : List (NestedKey × D))
  | ins (C : Addr) (fs : List (Str × D))
  | xdc (fs : List (Str × D))
  | tab (q : Str)
  | clo (φ : Obj → Addr → Str → Prop)
  | exc (C : Addr) (fs : List (Str × D))
  | opq (o : HO)
abbrev DH := Addr → Option DO
def hupd (h : DH) (a : Addr) (o : DO) : DH := fun b => if b = a then some o else h b
theorem hupd_same {h : DH} {a : Addr} {o : DO} : hupd h a o a = some o := by unfold hupd; rw [if_pos rfl]
theorem hupd_ne {h : DH} {a b : Addr} {o : DO} (e : b ≠ a) : hupd h a o b = h b := by unfold hupd; rw [if_neg e]
theorem hupd_hupd {h : DH} {a : Addr} {o u : DO} : hupd (hupd h a o) a u = hupd h a u := by
  funext b; unfold hupd; split <;> rfl

section
variable (K : PySem.W.Frag) (H : Hp)
mutual
def RV : D → V → Prop
  | .non, v => v = .non
  | .bl b, v => v = .bl b
  | .int i, v => v = .int i
  | .str x, v => v = .str x
  | .ty n, v => v = .ty n
  | .loc a, v => v = .ref a
  | .tup ds, v => ∃ a vs, v = .ref a ∧ H a = some (.tup vs) ∧ RVs ds vs
  | .ktp ds, v => ∃ a vs, v = .ref a ∧ SqK K a vs ∧ RVs ds vs
  | .fls ds, v => ∃ a vs, v = .ref a ∧ SqF K H a vs ∧ RVs ds vs
def RVs : List D → List V → Prop
  | [], vs => vs = []
  | d :: ds, vs => ∃ x xs, vs = x :: xs ∧ RV d x ∧ RVs ds xs
end
def RKV {κ : Type} (kvs : List (κ × D)) (us : List (κ × V)) : Prop := Paired (fun p q => p.1 = q.1 ∧ RV K H p.2 q.2) kvs us
/-- an entry, by its key's tree and its value's -/
def EntD (w : World) (p : NestedKey × D) (e : DictEntry) : Prop := ∃ kd kv v, keyN kd = some p.1 ∧ RV K H kd kv ∧ RelV kv e.key ∧ RV K H p.2 v ∧ RelV v e.val ∧ e.hash = p.1.hash w
structure RM (w : World) (kvs : List (NestedKey × D)) (raw : List DictEntry) : Prop where
  en : Paired (EntD K H w) kvs raw
  nd : (kvs.map (·.1)).Nodup
  sz : kvs.length ≤ sizeLine
def RO (a : Addr) : DO → Prop
  | .lst ds => ∃ vs, H a = some (.lst vs) ∧ RVs K H ds vs
  | .dK kvs => ∃ us, H a = some (.dK us) ∧ RKV K H kvs us
  | .dT kvs => ∃ us, H a = some (.dT us) ∧ RKV K H kvs us
  | .dM w kvs => ∃ raw, H a = some (.ext (RawD a raw)) ∧ RM K H w kvs raw
  | .ins C fs => ∃ dx us, H a = some (.ins C dx us) ∧ RKV K H fs us
  | .xdc fs => ∃ us, H a = some (.xd us) ∧ RKV K H fs us
  | .tab q => TabF H a q
  | .clo φ => ∃ o c oc q ψ, H a = some (.frz o (.ext ψ)) ∧ H c = some (.frz oc (LamX.CodeO c q)) ∧ φ o c q
  | .exc C fs => ∃ o u, H a = some (.frz o u) ∧ o.cls = .ref C ∧ (∃ vs, o.data = .fields vs) ∧ ((o.dict = none ∧ fs = []) ∨ ∃ dx od us, o.dict = some dx ∧ H dx = some (.frz od (exd dx us)) ∧ RKV K H fs us)
  | .opq o => H a = some o
def HR (h : DH) : Prop := ∀ a o, h a = some o → RO K H a o
end
def TX (_ : PySem.W.Frag) (H H' : Hp) : Prop := (∀ a vs, H a = some (.tup vs) → H' a = some (.tup vs)) ∧ ∀ a o u, H a = some (.frz o u) → H' a = some (.frz o u)

section
variable {K : PySem.W.Frag} {H H' H'' : Hp} {h : DH} {a : Addr}
theorem TX.refl : TX K H H := ⟨fun _ _ q => q, fun _ _ _ q => q⟩
theorem TX.trans (x : TX K H H') (y : TX K H' H'') : TX K H H'' := ⟨fun a vs q => y.1 a vs (x.1 a vs q), fun a o u q => y.2 a o u (x.2 a o u q)⟩
theorem TX.sqf (x : TX K H H') (a : Addr) (vs : List V) (s : SqF K H a vs) : SqF K H' a vs := by
  rcases s with ⟨o, e⟩ | e
  · exact .inl ⟨o, x.2 _ _ _ e⟩
  · exact .inr e
theorem TabF.mono {P : Addr} {q : Str} (x : TX K H H') (e : H' P = H P) (t : TabF H P q) : TabF H' P q := by
  obtain ⟨ps, h1, h2, h3⟩ := t
  refine ⟨ps, by rw [e]; exact h1, h2, fun pos cv hc => ?_⟩
  obtain ⟨c, oc, e1, e2⟩ := h3 pos cv hc
  exact ⟨c, oc, e1, x.2 _ _ _ e2⟩
mutual
theorem RV.mono (x : TX K H H') : ∀ (d : D) (v : V), RV K H d v → RV K H' d v
  | .non, _, q => q
  | .bl _, _, q => q
  | .int _, _, q => q
  | .str _, _, q => q
  | .ty _, _, q => q
  | .loc _, _, q => q
  | .tup ds, v, q => by
    unfold RV at q ⊢
    obtain ⟨a, vs, e, s, r⟩ := q
    exact ⟨a, vs, e, x.1 a vs s, RVs.mono x ds vs r⟩
  | .ktp ds, v, q => by
    unfold RV at q ⊢
    obtain ⟨a, vs, e, s, r⟩ := q
    exact ⟨a, vs, e, s, RVs.mono x ds vs r⟩
  | .fls ds, v, q => by
    unfold RV at q ⊢
    obtain ⟨a, vs, e, s, r⟩ := q
    exact ⟨a, vs, e, x.sqf a vs s, RVs.mono x ds vs r⟩
theorem RVs.mono (x : TX K H H') : ∀ (ds : List D) (vs : List V), RVs K H ds vs → RVs K H' ds vs
  | [], _, q => q
  | d :: ds, vs, q => by
    unfold RVs at q ⊢
    obtain ⟨y, ys, e, r1, r2⟩ := q
    exact ⟨y, ys, e, RV.mono x d y r1, RVs.mono x ds ys r2⟩
end
theorem RKV.mono {κ : Type} (x : TX K H H') {kvs : List (κ × D)} {us : List (κ × V)} (r : RKV K H kvs us) : RKV K H' kvs us :=
  Paired.mapP r fun p q z => ⟨z.1, RV.mono x _ _ z.2⟩
theorem EntD.mono {w : World} (x : TX K H H') {p : NestedKey × D} {e : DictEntry} (r : EntD K H w p e) : EntD K H' w p e :=
  let ⟨kd, kv, v, h1, h2, h3, h4, h5, h6⟩ := r
  ⟨kd, kv, v, h1, RV.mono x _ _ h2, h3, RV.mono x _ _ h4, h5, h6⟩
theorem RM.mono {w : World} (x : TX K H H') {kvs : List (NestedKey × D)} {raw : List DictEntry} (r : RM K H w kvs raw) : RM K H' w kvs raw := ⟨Paired.mapP r.en fun p q z => EntD.mono x z, r.nd, r.sz⟩
theorem rvs_nil {vs : List V} (r : RVs K H [] vs) : vs = [] := by unfold RVs at r; exact r
theorem rvs_nil' : RVs K H [] [] := by unfold RVs; rfl
theorem rvs_cons {d : D} {ds : List D} {vs : List V} (r : RVs K H (d :: ds) vs) : ∃ x xs, vs = x :: xs ∧ RV K H d x ∧ RVs K H ds xs := by unfold RVs at r; exact r
theorem rvs_cons' {d : D} {ds : List D} {x : V} {xs : List V} (r : RV K H d x) (s : RVs K H ds xs) : RVs K H (d :: ds) (x :: xs) := by unfold RVs; exact ⟨x, xs, rfl, r, s⟩
theorem RVs.length : ∀ {ds : List D} {vs : List V}, RVs K H ds vs → ds.length = vs.length
  | [], vs, r => by rw [rvs_nil r]; rfl
  | d :: ds, vs, r => by
    obtain ⟨x, xs, e, _, r2⟩ := rvs_cons r
    subst e
    simp [RVs.length r2]
theorem RVs.get : ∀ {ds : List D} {vs : List V} {i : Nat} {d : D}, RVs K H ds vs → ds[i]? = some d → ∃ v, vs[i]? = some v ∧ RV K H d v
  | [], _, _, _, _, e => by simp at e
  | d :: ds, vs, 0, d', r, e => by
    obtain ⟨x, xs, e1, r1, _⟩ := rvs_cons r
    subst e1
    simp at e; subst e
    exact ⟨x, rfl, r1⟩
  | d :: ds, vs, i + 1, d', r, e => by
    obtain ⟨x, xs, e1, _, r2⟩ := rvs_cons r
    subst e1
    obtain ⟨v, h1, h2⟩ := RVs.get (i := i) r2 (by simpa using e)
    exact ⟨v, by simpa using h1, h2⟩
theorem RVs.append : ∀ {ds es : List D} {vs ws : List V}, RVs K H ds vs → RVs K H es ws → RVs K H (ds ++ es) (vs ++ ws)
  | [], _, vs, _, r, s => by rw [rvs_nil r]; exact s
  | d :: ds, es, vs, ws, r, s => by
    obtain ⟨x, xs, e1, r1, r2⟩ := rvs_cons r
    subst e1
    exact rvs_cons' r1 (RVs.append r2 s)
theorem RVs.take : ∀ {ds : List D} {vs : List V} (n : Nat), RVs K H ds vs → RVs K H (ds.take n) (vs.take n)
  | _, _, 0, _ => by simp [rvs_nil']
  | [], vs, n + 1, r => by rw [rvs_nil r]; exact rvs_nil'
  | d :: ds, vs, n + 1, r => by
    obtain ⟨x, xs, e1, r1, r2⟩ := rvs_cons r
    subst e1
    exact rvs_cons' r1 (RVs.take n r2)
theorem RVs.drop : ∀ {ds : List D} {vs : List V} (n : Nat), RVs K H ds vs → RVs K H (ds.drop n) (vs.drop n)
  | _, _, 0, r => r
  | [], vs, n + 1, r => by rw [rvs_nil r]; exact rvs_nil'
  | d :: ds, vs, n + 1, r => by
    obtain ⟨x, xs, e1, r1, r2⟩ := rvs_cons r
    subst e1
    exact RVs.drop n r2
theorem RVs.set {d : D} {v : V} (r : RV K H d v) : ∀ {ds : List D} {vs : List V} (i : Nat), RVs K H ds vs → RVs K H (ds.set i d) (vs.set i v)
  | [], vs, _, s => by rw [rvs_nil s]; exact rvs_nil'
  | d' :: ds, vs, 0, s => by
    obtain ⟨x, xs, e1, r1, r2⟩ := rvs_cons s
    subst e1
    exact rvs_cons' r r2
  | d' :: ds, vs, i + 1, s => by
    obtain ⟨x, xs, e1, r1, r2⟩ := rvs_cons s
    subst e1
    exact rvs_cons' r1 (RVs.set r i r2)
theorem RVs.reverse {ds : List D} {vs : List V} (r : RVs K H ds vs) : RVs K H ds.reverse vs.reverse := by
  induction ds generalizing vs with
  | nil => rw [rvs_nil r]; exact rvs_nil'
  | cons d ds ih =>
    obtain ⟨x, xs, e1, r1, r2⟩ := rvs_cons r
    subst e1
    rw [List.reverse_cons, List.reverse_cons]
    exact (ih r2).append (rvs_cons' r1 rvs_nil')
theorem RVs.ints : ∀ {ns : List Int} {vs : List V}, RVs K H (ns.map D.int) vs → vs = ns.map V.int
  | [], vs, r => by rw [rvs_nil r]; rfl
  | n :: ns, vs, r => by
    obtain ⟨x, xs, e1, r1, r2⟩ := rvs_cons r
    subst e1
    unfold RV at r1
    subst r1
    rw [RVs.ints r2]; rfl
theorem rvs_ints : ∀ ns : List Int, RVs K H (ns.map D.int) (ns.map V.int)
  | [] => rvs_nil'
  | n :: ns => rvs_cons' (by unfold RV; rfl) (rvs_ints ns)
theorem rv_tup {ds : List D} {v : V} (r : RV K H (.tup ds) v) : ∃ a vs, v = .ref a ∧ H a = some (.tup vs) ∧ RVs K H ds vs := by unfold RV at r; exact r
theorem rv_ktp {ds : List D} {v : V} (r : RV K H (.ktp ds) v) : ∃ a vs, v = .ref a ∧ SqK K a vs ∧ RVs K H ds vs := by unfold RV at r; exact r
theorem rv_ktp' {ds : List D} {a : Addr} {vs : List V} (s : SqK K a vs) (r : RVs K H ds vs) : RV K H (.ktp ds) (.ref a) := by unfold RV; exact ⟨a, vs, rfl, s, r⟩
theorem rv_tup' {ds : List D} {a : Addr} {vs : List V} (s : H a = some (.tup vs)) (r : RVs K H ds vs) : RV K H (.tup ds) (.ref a) := by unfold RV; exact ⟨a, vs, rfl, s, r⟩
theorem rv_fls {ds : List D} {v : V} (r : RV K H (.fls ds) v) : ∃ a vs, v = .ref a ∧ SqF K H a vs ∧ RVs K H ds vs := by unfold RV at r; exact r
theorem rv_fls' {ds : List D} {a : Addr} {vs : List V} (s : SqF K H a vs) (r : RVs K H ds vs) : RV K H (.fls ds) (.ref a) := by unfold RV; exact ⟨a, vs, rfl, s, r⟩
theorem rv_loc {a : Addr} {v : V} (r : RV K H (.loc a) v) : v = .ref a := by unfold RV at r; exact r
theorem rv_loc' {a : Addr} : RV K H (.loc a) (.ref a) := by unfold RV; rfl
theorem rv_int {i : Int} {v : V} (r : RV K H (.int i) v) : v = .int i := by unfold RV at r; exact r
theorem rv_int' {i : Int} : RV K H (.int i) (.int i) := by unfold RV; rfl
theorem rv_bl {i : Bool} {v : V} (r : RV K H (.bl i) v) : v = .bl i := by unfold RV at r; exact r
theorem rv_bl' {i : Bool} : RV K H (.bl i) (.bl i) := by unfold RV; rfl
theorem rv_str {i : Str} {v : V} (r : RV K H (.str i) v) : v = .str i := by unfold RV at r; exact r
theorem rv_str' {i : Str} : RV K H (.str i) (.str i) := by unfold RV; rfl
theorem rv_non {v : V} (r : RV K H .non v) : v = .non := by unfold RV at r; exact r
theorem rv_non' : RV K H .non .non := by unfold RV; rfl
theorem rv_ty {n : String} {v : V} (r : RV K H (.ty n) v) : v = .ty n := by unfold RV at r; exact r
theorem rv_ty' {n : String} : RV K H (.ty n) (.ty n) := by unfold RV; rfl

/-! ### a heap grows, an object is written -/
theorem tx_upd {p : Addr} {o : HO} (hp : ∀ u, H p = some u → (∀ xs, u ≠ .tup xs) ∧ ∀ ob w, u ≠ .frz ob w) : TX K H (upd H p o) :=
  ⟨fun a vs s => by
    have ne : a ≠ p := fun z => by subst z; exact (hp _ s).1 vs rfl
    rw [upd_ne ne]; exact s, fun a ob u e => by
    have ne : a ≠ p := fun z => by subst z; exact (hp _ e).2 ob _ rfl
    rw [upd_ne ne]; exact e⟩
theorem tx_xd {p : Addr} {o : HO} {xs : List (Str × V)} (hp : H p = some (.xd xs)) : TX K H (upd H p o) := tx_upd fun u e => by
  rw [hp] at e; cases e
  exact ⟨fun _ z => (by cases z), fun _ _ z => (by cases z)⟩
theorem tx_tbl {p : Addr} {o : HO} {ps : Array Value} (hp : H p = some (.tbl ps)) : TX K H (upd H p o) := tx_upd fun u e => by
  rw [hp] at e; cases e
  exact ⟨fun _ z => (by cases z), fun _ _ z => (by cases z)⟩
theorem tx_new {p : Addr} {o : HO} (hp : H p = none) : TX K H (upd H p o) := tx_upd fun u e => by rw [hp] at e; cases e
theorem tx_lst {p : Addr} {o : HO} {xs : List V} (hp : H p = some (.lst xs)) : TX K H (upd H p o) := tx_upd fun u e => by
  rw [hp] at e; cases e
  exact ⟨fun _ z => (by cases z), fun _ _ z => (by cases z)⟩
theorem tx_dK {p : Addr} {o : HO} {xs : List (Key × V)} (hp : H p = some (.dK xs)) : TX K H (upd H p o) := tx_upd fun u e => by
  rw [hp] at e; cases e
  exact ⟨fun _ z => (by cases z), fun _ _ z => (by cases z)⟩
theorem tx_dT {p : Addr} {o : HO} {xs : List (List Key × V)} (hp : H p = some (.dT xs)) : TX K H (upd H p o) := tx_upd fun u e => by
  rw [hp] at e; cases e
  exact ⟨fun _ z => (by cases z), fun _ _ z => (by cases z)⟩
theorem tx_ins {p : Addr} {o : HO} {C dx : Addr} {xs : List (Str × V)} (hp : H p = some (.ins C dx xs)) : TX K H (upd H p o) := tx_upd fun u e => by
  rw [hp] at e; cases e
  exact ⟨fun _ z => (by cases z), fun _ _ z => (by cases z)⟩
theorem tx_ext {p : Addr} {o : HO} {f : Heap → Prop} (hp : H p = some (.ext f)) : TX K H (upd H p o) := tx_upd fun u e => by
  rw [hp] at e; cases e
  exact ⟨fun _ z => (by cases z), fun _ _ z => (by cases z)⟩
theorem ro_keep {o : DO} (x : TX K H H') (e : H' a = H a) (r : RO K H a o) : RO K H' a o := by
  cases o with
  | lst ds =>
    obtain ⟨vs, q, s⟩ := r
    exact ⟨vs, by rw [e]; exact q, RVs.mono x _ _ s⟩
  | dK kvs =>
    obtain ⟨vs, q, s⟩ := r
    exact ⟨vs, by rw [e]; exact q, s.mono x⟩
  | dT kvs =>
    obtain ⟨vs, q, s⟩ := r
    exact ⟨vs, by rw [e]; exact q, s.mono x⟩
  | dM w kvs =>
    obtain ⟨vs, q, s⟩ := r
    exact ⟨vs, by rw [e]; exact q, s.mono x⟩
  | ins C fs =>
    obtain ⟨dx, vs, q, s⟩ := r
    exact ⟨dx, vs, by rw [e]; exact q, s.mono x⟩
  | xdc fs =>
    obtain ⟨vs, q, s⟩ := r
    exact ⟨vs, by rw [e]; exact q, s.mono x⟩
  | tab q => exact TabF.mono x e r
  | clo φ =>
    obtain ⟨ob, c, oc, q, ψ, h1, h2, h3⟩ := r
    exact ⟨ob, c, oc, q, ψ, x.2 _ _ _ h1, x.2 _ _ _ h2, h3⟩
  | exc C fs =>
    obtain ⟨ob, u, h1, h2, h3, h4⟩ := r
    refine ⟨ob, u, x.2 _ _ _ h1, h2, h3, ?_⟩
    rcases h4 with h4 | ⟨dx, od, us, e1, e2, e3⟩
    · exact .inl h4
    · exact .inr ⟨dx, od, us, e1, x.2 _ _ _ e2, e3.mono x⟩
  | opq o => exact (show H' a = some o from by rw [e]; exact r)
/-- what is new to the heap is new to the tree heap -/
theorem HR.free (r : HR K H h) {p : Addr} (hp : H p = none) : h p = none := by
  cases e : h p with
  | none => rfl
  | some o =>
    have q := r p o e
    cases o with
    | lst ds => obtain ⟨vs, q, _⟩ := q; rw [hp] at q; cases q
    | dK ds => obtain ⟨vs, q, _⟩ := q; rw [hp] at q; cases q
    | dT ds => obtain ⟨vs, q, _⟩ := q; rw [hp] at q; cases q
    | dM w ds => obtain ⟨vs, q, _⟩ := q; rw [hp] at q; cases q
    | ins C ds => obtain ⟨dx, vs, q, _⟩ := q; rw [hp] at q; cases q
    | xdc ds => obtain ⟨vs, q, _⟩ := q; rw [hp] at q; cases q
    | tab q0 => obtain ⟨vs, q, _⟩ := q; rw [hp] at q; cases q
    | clo φ => obtain ⟨_, _, _, _, _, q, _⟩ := q; rw [hp] at q; cases q
    | exc C fs => obtain ⟨_, _, q, _⟩ := q; rw [hp] at q; cases q
    | opq o =>
      have q : H p = some o := q
      rw [hp] at q; cases q
/-- an object is written, or laid -/
theorem HR.put (r : HR K H h) {p : Addr} {o : DO} {O : HO} (x : TX K H (upd H p O)) (n : RO K (upd H p O) p o) : HR K (upd H p O) (hupd h p o) := fun a u e => by
  by_cases z : a = p
  · subst z
    rw [hupd_same] at e; cases e
    exact n
  · rw [hupd_ne z] at e
    exact ro_keep x (upd_ne z) (r a u e)
/-- .. a thing that the tree heap does not tell -/
theorem HR.keep (r : HR K H h) (x : TX K H H') (e : ∀ a, h a ≠ none → H' a = H a) : HR K H' h := fun a o q => ro_keep x (e a (by rw [q]; simp)) (r a o q)
theorem HR.lay (r : HR K H h) {p : Addr} {O : HO} (hp : H p = none) : HR K (upd H p O) h := r.keep (tx_new hp) fun a q => by
  refine upd_ne fun z => ?_
  subst z
  exact q (r.free hp)
end
end DL

set_option Elab.async false
set_option linter.all false
set_option maxRecDepth 100000
/-! DL2: readings over tree heaps, and their links to the hand layer's readings. -/
namespace DL
open PySem PySem.Spec PyProof.Rows L2

abbrev DSt := List (Option D)
abbrev DK := D → DH → Prop
abbrev DE := DSt → DH → DK → Prop
abbrev DT := DSt → DH → (Bool → DH → Prop) → Prop
abbrev DA := DSt → DH → (List D → DH → Prop) → Prop
structure DEnds where
  nx : DSt → DH → Prop
  rt : DK
  bk : DSt → DH → Prop := fun _ _ => False
  ct : DSt → DH → Prop := fun _ _ => False
abbrev DS := DEnds → DSt → DH → Prop
abbrev DR2 := D → D → DH → DK → Prop
abbrev DR1 := D → DH → DK → Prop
abbrev DC := List D → DH → DK → Prop

@[irreducible] noncomputable def kIte : Bool → Prop → Prop → Prop := hide fun b p q => if b = true then p else q
theorem kIte_eq {b : Bool} {p q : Prop} : kIte b p q = if b = true then p else q := by unfold kIte; rw [hide_eq]
theorem kt {p q : Prop} (w : kIte true p q) : p := by rw [kIte_eq] at w; rwa [if_pos rfl] at w
theorem kf {p q : Prop} (w : kIte false p q) : q := by rw [kIte_eq] at w; rwa [if_neg Bool.false_ne_true] at w
/-- the names' trees -/
def RS (K : PySem.W.Frag) (H : Hp) (τ : DSt) (σ : L2.St) : Prop := τ.length = σ.length ∧ ∀ (i : Nat) (d : D), τ[i]? = some (some d) → ∃ v, σ[i]? = some (some v) ∧ RV K H d v
def Bw (K : PySem.W.Frag) (H : Hp) (Q : DK) (Q0 : VK) : Prop := ∀ d h' v H', TX K H H' → RV K H' d v → HR K H' h' → Q d h' → Q0 v H'
def BwT (K : PySem.W.Frag) (H : Hp) (Q : Bool → DH → Prop) (Q0 : Bool → Hp → Prop) : Prop := ∀ b h' H', TX K H H' → HR K H' h' → Q b h' → Q0 b H'
def BwA (K : PySem.W.Frag) (H : Hp) (Q : List D → DH → Prop) (Q0 : List V → Hp → Prop) : Prop := ∀ ds h' vs H', TX K H H' → RVs K H' ds vs → HR K H' h' → Q ds h' → Q0 vs H'
structure BwS (K : PySem.W.Frag) (H : Hp) (D : DEnds) (D0 : Ends) : Prop where
  nx : ∀ τ' σ' h' H', TX K H H' → RS K H' τ' σ' → HR K H' h' → D.nx τ' h' → D0.nx σ' H'
  rt : Bw K H D.rt D0.rt
  bk : ∀ τ' σ' h' H', TX K H H' → RS K H' τ' σ' → HR K H' h' → D.bk τ' h' → D0.bk σ' H'
  ct : ∀ τ' σ' h' H', TX K H H' → RS K H' τ' σ' → HR K H' h' → D.ct τ' h' → D0.ct σ' H'
def LE (K : PySem.W.Frag) (t0 : TE) (t : DE) : Prop := ∀ τ σ h H Q Q0, RS K H τ σ → HR K H h → Bw K H Q Q0 → t τ h Q → t0 σ H Q0
def LT (K : PySem.W.Frag) (t0 : TT) (t : DT) : Prop := ∀ τ σ h H Q Q0, RS K H τ σ → HR K H h → BwT K H Q Q0 → t τ h Q → t0 σ H Q0
def LA (K : PySem.W.Frag) (t0 : TA) (t : DA) : Prop := ∀ τ σ h H Q Q0, RS K H τ σ → HR K H h → BwA K H Q Q0 → t τ h Q → t0 σ H Q0
def LS (K : PySem.W.Frag) (t0 : TS) (t : DS) : Prop := ∀ τ σ h H D D0, RS K H τ σ → HR K H h → BwS K H D D0 → t D τ h → t0 D0 σ H
def LR2 (K : PySem.W.Frag) (r : R2) (q : DR2) : Prop := ∀ d e x y h H Q Q0, RV K H d x → RV K H e y → HR K H h → Bw K H Q Q0 → q d e h Q → r x y H Q0
def LR1 (K : PySem.W.Frag) (r : V → Hp → VK → Prop) (q : DR1) : Prop := ∀ d x h H Q Q0, RV K H d x → HR K H h → Bw K H Q Q0 → q d h Q → r x H Q0
def LC (K : PySem.W.Frag) (r : List V → Hp → VK → Prop) (q : DC) : Prop := ∀ ds vs h H Q Q0, RVs K H ds vs → HR K H h → Bw K H Q Q0 → q ds h Q → r vs H Q0

section
variable {K : PySem.W.Frag} {H H' : Hp}
theorem RS.mono {τ : DSt} {σ : L2.St} (x : TX K H H') (r : RS K H τ σ) : RS K H' τ σ := ⟨r.1, fun i d e => let ⟨v, h1, h2⟩ := r.2 i d e; ⟨v, h1, RV.mono x d v h2⟩⟩
theorem Bw.mono {Q : DK} {Q0 : VK} (x : TX K H H') (r : Bw K H Q Q0) : Bw K H' Q Q0 := fun d h v H2 t => r d h v H2 (x.trans t)
theorem BwT.mono {Q : Bool → DH → Prop} {Q0 : Bool → Hp → Prop} (x : TX K H H') (r : BwT K H Q Q0) : BwT K H' Q Q0 := fun d h H2 t => r d h H2 (x.trans t)
theorem BwA.mono {Q : List D → DH → Prop} {Q0 : List V → Hp → Prop} (x : TX K H H') (r : BwA K H Q Q0) : BwA K H' Q Q0 := fun d h v H2 t => r d h v H2 (x.trans t)
theorem BwS.mono {D : DEnds} {D0 : Ends} (x : TX K H H') (r : BwS K H D D0) : BwS K H' D D0 :=
  ⟨fun a b c d t => r.nx a b c d (x.trans t), r.rt.mono x, fun a b c d t => r.bk a b c d (x.trans t), fun a b c d t => r.ct a b c d (x.trans t)⟩
theorem RS.set {τ : DSt} {σ : L2.St} {d : D} {v : V} (r : RS K H τ σ) (i : Nat) (q : RV K H d v) : RS K H (τ.set i (some d)) (σ.set i (some v)) := by
  refine ⟨by rw [List.length_set, List.length_set]; exact r.1, fun j e hj => ?_⟩
  by_cases z : i = j
  · subst z
    by_cases hl : i < τ.length
    · rw [List.getElem?_set_self hl] at hj
      cases hj
      exact ⟨v, by rw [List.getElem?_set_self (by rw [← r.1]; exact hl)], q⟩
    · rw [List.getElem?_eq_none (by simpa using hl)] at hj; cases hj
  · rw [List.getElem?_set_ne z] at hj ⊢
    exact r.2 j e hj
theorem RS.unset {τ : DSt} {σ : L2.St} (r : RS K H τ σ) (i : Nat) : RS K H (τ.set i none) (σ.set i none) := by
  refine ⟨by rw [List.length_set, List.length_set]; exact r.1, fun j e hj => ?_⟩
  by_cases z : i = j
  · subst z
    by_cases hl : i < τ.length
    · rw [List.getElem?_set_self hl] at hj; cases hj
    · rw [List.getElem?_eq_none (by simpa using hl)] at hj; cases hj
  · rw [List.getElem?_set_ne z] at hj ⊢
    exact r.2 j e hj
end

structure XE (X : Cx) (K : PySem.W.Frag) (e : Expr) (t0 : TE) (t : DE) : Prop where
  p : PE X e t0
  l : LE K t0 t
structure XT (X : Cx) (K : PySem.W.Frag) (e : Expr) (t0 : TT) (t : DT) : Prop where
  p : PT X e t0
  l : LT K t0 t
structure XW (X : Cx) (K : PySem.W.Frag) (e : Expr) (t0 : TT) (t : DT) : Prop where
  p : PW X e t0
  l : LT K t0 t
structure XA (X : Cx) (K : PySem.W.Frag) (es : List Expr) (t0 : TA) (t : DA) : Prop where
  p : PA X es t0
  l : LA K t0 t
structure XS (X : Cx) (K : PySem.W.Frag) (st : Stmt) (t0 : TS) (t : DS) : Prop where
  p : PS X st t0
  l : LS K t0 t
structure XSs (X : Cx) (K : PySem.W.Frag) (st : List Stmt) (t0 : TS) (t : DS) : Prop where
  p : PSs X st t0
  l : LS K t0 t

/-! ### names, constants -/
def ld (τ : DSt) (i : Nat) : Option D := τ.getD i none
def dVar (i : Nat) : DE := fun τ h Q => match ld τ i with
  | some d => Q d h
  | none => False
def dC (d : D) : DE := fun _ h Q => Q d h
section
variable {X : Cx} {K : PySem.W.Frag}
theorem ld_get {τ : DSt} {i : Nat} {d : D} (e : ld τ i = some d) : τ[i]? = some (some d) := by
  unfold ld at e
  rw [List.getD_eq_getElem?_getD] at e
  cases h : τ[i]? with
  | none => rw [h] at e; cases e
  | some o => rw [h] at e; exact congrArg some e
theorem le_var {K : PySem.W.Frag} (i : Nat) : LE K (tVar i) (dVar i) := fun τ σ h H Q Q0 rs hr bw q => by
  unfold dVar at q
  cases e : ld τ i with
  | none => rw [e] at q; exact q.elim
  | some d =>
    rw [e] at q
    obtain ⟨v, h1, h2⟩ := rs.2 i d (ld_get e)
    exact ⟨v, h1, bw d h v H TX.refl h2 hr q⟩
theorem xv (i : Nat) {x : Str} {pos : Pos} (hN : X.N[i]? = some x := by rfl) (hv : Vis X.env.scope x := by first | exact Or.inl rfl | exact Or.inr (Or.inl rfl) | exact Or.inr (Or.inr rfl)) (hd : (x == ("__debug__" : Str)) = false := by decide)
    (hcd : (x == ("__classdict__" : Str)) = false := by decide) : XE X K (.Name x pos) (tVar i) (dVar i) := ⟨pe_var hN hv hd hcd, le_var i⟩
theorem le_c {K : PySem.W.Frag} {v : V} {d : D} (r : ∀ H, RV K H d v) : LE K (tC v) (dC d) := fun τ σ h H Q Q0 rs hr bw q => bw d h v H TX.refl (r H) hr q
theorem xint {i : Int} {j pos} : XE X K (.Constant (.int i) j pos) (tC (.int i)) (dC (.int i)) := ⟨pe_int, le_c fun _ => rv_int'⟩
theorem xbl {i : Bool} {j pos} : XE X K (.Constant (.bool i) j pos) (tC (.bl i)) (dC (.bl i)) := ⟨pe_bl, le_c fun _ => rv_bl'⟩
theorem xnon {j pos} : XE X K (.Constant .none j pos) (tC .non) (dC .non) := ⟨pe_non, le_c fun _ => rv_non'⟩
theorem xstr {i : Str} {j pos} : XE X K (.Constant (.str i) j pos) (tC (.str i)) (dC (.str i)) := ⟨pe_str, le_c fun _ => rv_str'⟩
/-- a constant of the module -/
theorem xglob {x : Str} {v : V} {d : D} {u : Value} {pos : Pos} (hm : X.mg x = some u) (r : RelV v u) (q : ∀ H, RV K H d v) (hg : Gl X x := by rfl) (hd : (x == ("__debug__" : Str)) = false := by decide) : XE X K (.Name x pos) (tC v) (dC d) := ⟨pe_glob hg hm r hd, le_c q⟩
/-- a type as a value -/
theorem xtype {x : Str} {n : String} {pos : Pos} (hm : X.mg x = none) (hv : bootBuiltins x = some (.type n)) (hg : Gl X x := by rfl) (hn : x ≠ "__name__" := by decide) (hd : (x == ("__debug__" : Str)) = false := by decide) : XE X K (.Name x pos) (tC (.ty n)) (dC (.ty n)) :=
  ⟨pe_bltn hg hm hv rfl hn hd, le_c fun _ => rv_ty'⟩
end

/-! ### operators -/
def dOp (q : DR2) (a b : DE) : DE := fun τ h Q => a τ h fun x h1 => b τ h1 fun y h2 => q x y h2 Q
def dUn (q : DR1) (a : DE) : DE := fun τ h Q => a τ h fun x h1 => q x h1 Q
section
variable {X : Cx} {K : PySem.W.Frag} {a b c : Expr} {ta tb tc : TE} {da db dc : DE} {pos : Pos}
theorem le_op {K : PySem.W.Frag} {r : R2} {q : DR2} (lr : LR2 K r q) (la : LE K ta da) (lb : LE K tb db) : LE K (tOp r ta tb) (dOp q da db) := fun τ σ h H Q Q0 rs hr bw w =>
  la τ σ h H _ _ rs hr (fun d h1 v H1 x1 r1 hr1 w1 => lb τ σ h1 H1 _ _ (rs.mono x1) hr1 (fun e h2 u H2 x2 r2 hr2 w2 => lr d e v u h2 H2 Q Q0 (RV.mono x2 d v r1) r2 hr2 (bw.mono (x1.trans x2)) w2) w1) w
theorem le_un {K : PySem.W.Frag} {r : V → Hp → VK → Prop} {q : DR1} (lr : LR1 K r q) (la : LE K ta da) : LE K (tUn r ta) (dUn q da) := fun τ σ h H Q Q0 rs hr bw w =>
  la τ σ h H _ _ rs hr (fun d h1 v H1 x1 r1 hr1 w1 => lr d v h1 H1 Q Q0 r1 hr1 (bw.mono x1) w1) w
theorem xop {op : Operator} {r : R2} {q : DR2} (o : OpR X (binaryOp op) r ∧ LR2 K r q) (ha : XE X K a ta da) (hb : XE X K b tb db) : XE X K (.BinOp a op b pos) (tOp r ta tb) (dOp q da db) := ⟨pe_op o.1 ha.p hb.p, le_op o.2 ha.l hb.l⟩
theorem xun {op : UnaryOp} {r : V → Hp → VK → Prop} {q : DR1} (o : UnR X (unaryOp op) r ∧ LR1 K r q) (ha : XE X K a ta da) : XE X K (.UnaryOp op a pos) (tUn r ta) (dUn q da) := ⟨pe_un o.1 ha.p, le_un o.2 ha.l⟩
/-- a comparison's two ways: as a value, as a test -/
theorem xcmp {op : CmpOp} {r : R2} {q : DR2} (o : OpR X (compareOp op) r ∧ LR2 K r q) (ha : XE X K a ta da) (hb : XE X K b tb db) (hm : behindInMarks op b = false := by first | exact nomark _ | rfl) : XE X K (.Compare a [op] [b] pos) (tOp r ta tb) (dOp q da db) := ⟨pe_cmpR o.1 ha.p hb.p hm, le_op o.2 ha.l hb.l⟩
def dTest (t : DE) : DT := fun τ h Q => t τ h fun x h' => match x with
  | .bl k => Q k h'
  | _ => False
theorem lt_test {K : PySem.W.Frag} {t : TE} {d : DE} (l : LE K t d) : LT K (tTest t) (dTest d) := fun τ σ h H Q Q0 rs hr bw w =>
  l τ σ h H _ _ rs hr (fun x h1 v H1 x1 r1 hr1 w1 => by
    cases x with
    | bl k => exact ⟨k, rv_bl r1, bw k h1 H1 x1 hr1 w1⟩
    | _ => exact w1.elim) w
theorem xtcmp {op : CmpOp} {r : R2} {q : DR2} (o : OpR X (compareOp op) r ∧ LR2 K r q) (ha : XE X K a ta da) (hb : XE X K b tb db) (hm : behindInMarks op b = false := by first | exact nomark _ | rfl) : XT X K (.Compare a [op] [b] pos) (tTest (tOp r ta tb)) (dTest (dOp q da db)) := ⟨pt_cmpR o.1 ha.p hb.p hm, lt_test (le_op o.2 ha.l hb.l)⟩
/-- an expression whose value is a bool, as a test -/
theorem xtval {e : Expr} {t : TE} {d : DE} (h : XE X K e t d) (he : ∀ whole, isTrue e X.env whole = (do let v ← whole; standAt e.pos; holding [v] (truthy v)) := by intro _; rfl) : XT X K e (tB t) (dTest d) := ⟨pt_val h.p he, lt_test h.l⟩
end

section
variable {X : Cx} {K : PySem.W.Frag} {a b c : Expr} {ta tb tc : TE} {da db dc : DE} {pos : Pos} {t t' : TT} {d d' : DT} {rest : List Expr}
def dAnd (t u : DT) : DT := fun τ h Q => t τ h fun c h1 => kIte c (u τ h1 Q) (Q false h1)
def dOr (t u : DT) : DT := fun τ h Q => t τ h fun c h1 => kIte c (Q true h1) (u τ h1 Q)
def dNot (t : DT) : DT := fun τ h Q => t τ h fun c h1 => Q (!c) h1
theorem xwand1 (ha : XT X K a t d) : XW X K (.BoolOp .And [a] pos) t d := ⟨pw_and1 ha.p, ha.l⟩
theorem xwor1 (ha : XT X K a t d) : XW X K (.BoolOp .Or [a] pos) t d := ⟨pw_or1 ha.p, ha.l⟩
theorem xwand (ha : XT X K a t d) (hb : XW X K (.BoolOp .And (b :: rest) pos) t' d') : XW X K (.BoolOp .And (a :: b :: rest) pos) (tAnd t t') (dAnd d d') :=
  ⟨pw_and ha.p hb.p, fun τ σ h H Q Q0 rs hr bw w => ha.l τ σ h H _ _ rs hr (fun k h1 H1 x1 hr1 w1 => by
    cases k with
    | true => have w1 := kt w1; rw [if_pos rfl]; exact hb.l τ σ h1 H1 Q Q0 (rs.mono x1) hr1 (bw.mono x1) w1
    | false => have w1 := kf w1; rw [if_neg Bool.false_ne_true]; exact bw false h1 H1 x1 hr1 w1) w⟩
theorem xwor (ha : XT X K a t d) (hb : XW X K (.BoolOp .Or (b :: rest) pos) t' d') : XW X K (.BoolOp .Or (a :: b :: rest) pos) (tOr t t') (dOr d d') :=
  ⟨pw_or ha.p hb.p, fun τ σ h H Q Q0 rs hr bw w => ha.l τ σ h H _ _ rs hr (fun k h1 H1 x1 hr1 w1 => by
    cases k with
    | true => have w1 := kt w1; rw [if_pos rfl]; exact bw true h1 H1 x1 hr1 w1
    | false => have w1 := kf w1; rw [if_neg Bool.false_ne_true]; exact hb.l τ σ h1 H1 Q Q0 (rs.mono x1) hr1 (bw.mono x1) w1) w⟩
theorem XW.toT {e : Expr} (h : XW X K e t d) : XT X K e t d := ⟨h.p.pt, h.l⟩
theorem xtnot (ha : XT X K a t d) : XT X K (.UnaryOp .Not a pos) (tNot t) (dNot d) :=
  ⟨pt_not ha.p, fun τ σ h H Q Q0 rs hr bw w => ha.l τ σ h H _ _ rs hr (fun k h1 H1 x1 hr1 w1 => bw (!k) h1 H1 x1 hr1 w1) w⟩
/-- and, or, not as values of bools -/
def dAndV (a b : DE) : DE := fun τ h Q => a τ h fun x h1 => match x with
  | .bl c => kIte c (b τ h1 Q) (Q (.bl false) h1)
  | _ => False
def dOrV (a b : DE) : DE := fun τ h Q => a τ h fun x h1 => match x with
  | .bl c => kIte c (Q (.bl true) h1) (b τ h1 Q)
  | _ => False
def dNotV (a : DE) : DE := fun τ h Q => a τ h fun x h1 => match x with
  | .bl c => Q (.bl (!c)) h1
  | _ => False
theorem xone {op} (h : XE X K a ta da) : XE X K (.BoolOp op [a] pos) ta da := ⟨pe_one h.p, h.l⟩
theorem xand (ha : XE X K a ta da) (hb : XE X K (.BoolOp .And (b :: rest) pos) tb db) : XE X K (.BoolOp .And (a :: b :: rest) pos) (tAndV ta tb) (dAndV da db) :=
  ⟨pe_and ha.p hb.p, fun τ σ h H Q Q0 rs hr bw w => ha.l τ σ h H _ _ rs hr (fun x h1 v H1 x1 r1 hr1 w1 => by
    cases x with
    | bl k =>
      refine ⟨k, rv_bl r1, ?_⟩
      cases k with
      | true => have w1 := kt w1; exact hb.l τ σ h1 H1 Q Q0 (rs.mono x1) hr1 (bw.mono x1) w1
      | false => have w1 := kf w1; exact bw _ h1 _ H1 x1 rv_bl' hr1 w1
    | _ => exact w1.elim) w⟩
theorem xor (ha : XE X K a ta da) (hb : XE X K (.BoolOp .Or (b :: rest) pos) tb db) : XE X K (.BoolOp .Or (a :: b :: rest) pos) (tOrV ta tb) (dOrV da db) :=
  ⟨pe_or ha.p hb.p, fun τ σ h H Q Q0 rs hr bw w => ha.l τ σ h H _ _ rs hr (fun x h1 v H1 x1 r1 hr1 w1 => by
    cases x with
    | bl k =>
      refine ⟨k, rv_bl r1, ?_⟩
      cases k with
      | false => have w1 := kf w1; exact hb.l τ σ h1 H1 Q Q0 (rs.mono x1) hr1 (bw.mono x1) w1
      | true => have w1 := kt w1; exact bw _ h1 _ H1 x1 rv_bl' hr1 w1
    | _ => exact w1.elim) w⟩
theorem xnot (ha : XE X K a ta da) : XE X K (.UnaryOp .Not a pos) (tNotV ta) (dNotV da) :=
  ⟨pe_not ha.p, fun τ σ h H Q Q0 rs hr bw w => ha.l τ σ h H _ _ rs hr (fun x h1 v H1 x1 r1 hr1 w1 => by
    cases x with
    | bl k => exact ⟨k, rv_bl r1, bw _ h1 _ H1 x1 rv_bl' hr1 w1⟩
    | _ => exact w1.elim) w⟩
/-- a if t else b -/
def dIf (t : DT) (a b : DE) : DE := fun τ h Q => t τ h fun c h1 => kIte c (a τ h1 Q) (b τ h1 Q)
theorem xif {c : Expr} (hc : XT X K c t d) (ha : XE X K a ta da) (hb : XE X K b tb db) : XE X K (.IfExp c a b pos) (tIf t ta tb) (dIf d da db) :=
  ⟨pe_ifExp hc.p ha.p hb.p, fun τ σ h H Q Q0 rs hr bw w => hc.l τ σ h H _ _ rs hr (fun k h1 H1 x1 hr1 w1 => by
    cases k with
    | true => have w1 := kt w1; exact ha.l τ σ h1 H1 Q Q0 (rs.mono x1) hr1 (bw.mono x1) w1
    | false => have w1 := kf w1; exact hb.l τ σ h1 H1 Q Q0 (rs.mono x1) hr1 (bw.mono x1) w1) w⟩
/-- chains of two comparisons -/
def dChain (q q' : DR2) (a b c : DE) : DE := fun τ h Q => a τ h fun x h1 => b τ h1 fun y h2 => q x y h2 fun z h3 => match z with
  | .bl k => kIte k (c τ h3 fun w h4 => q' y w h4 Q) (Q (.bl false) h3)
  | _ => False
end
end DL

set_option Elab.async false
set_option linter.all false
set_option maxRecDepth 100000
/-! DL3: data, operators, displays, subscripts. -/
namespace DL
open PySem PySem.Spec PyProof.Rows L2

/-! ### data as it stands -/
mutual
inductive PD (h : DH) : D → PyData → Prop
  | non : PD h .non .none
  | bl (b : Bool) : PD h (.bl b) (.bool b)
  | int (i : Int) : PD h (.int i) (.int i)
  | str (x : Str) : PD h (.str x) (.str x)
  | tup {ds : List D} {ps : List PyData} : PDs h ds ps → PD h (.tup ds) (.tuple ps)
  | ktp {ds : List D} {ps : List PyData} : PDs h ds ps → PD h (.ktp ds) (.tuple ps)
  | fls {ds : List D} {ps : List PyData} : PDs h ds ps → PD h (.fls ds) (.list ps)
  | lst {a : Addr} {ds : List D} {ps : List PyData} : h a = some (.lst ds) → PDs h ds ps → PD h (.loc a) (.list ps)
inductive PDs (h : DH) : List D → List PyData → Prop
  | nil : PDs h [] []
  | cons {d : D} {ds : List D} {p : PyData} {ps : List PyData} : PD h d p → PDs h ds ps → PDs h (d :: ds) (p :: ps)
end
def Ext (h h' : DH) : Prop := ∀ a o, h a = some o → h' a = some o
theorem Ext.refl (h : DH) : Ext h h := fun _ _ q => q
theorem Ext.trans {h h' h'' : DH} (x : Ext h h') (y : Ext h' h'') : Ext h h'' := fun a o q => y a o (x a o q)
theorem ext_new {h : DH} {p : Addr} {o : DO} (hp : h p = none) : Ext h (hupd h p o) := fun a u q => by
  rw [hupd_ne (fun e => by subst e; rw [hp] at q; cases q)]; exact q
section
variable {h h' : DH}
mutual
theorem PD.ext (x : Ext h h') : ∀ {d : D} {p : PyData}, PD h d p → PD h' d p
  | _, _, .non => .non
  | _, _, .bl b => .bl b
  | _, _, .int b => .int b
  | _, _, .str b => .str b
  | _, _, .tup q => .tup (PDs.ext x q)
  | _, _, .ktp q => .ktp (PDs.ext x q)
  | _, _, .fls q => .fls (PDs.ext x q)
  | _, _, .lst e q => .lst (x _ _ e) (PDs.ext x q)
theorem PDs.ext (x : Ext h h') : ∀ {d : List D} {p : List PyData}, PDs h d p → PDs h' d p
  | _, _, .nil => .nil
  | _, _, .cons q r => .cons (PD.ext x q) (PDs.ext x r)
end
mutual
theorem PD.dp {K : PySem.W.Frag} {H : Hp} (hr : HR K H h) : ∀ {d : D} {p : PyData} {v : V}, PD h d p → RV K H d v → Dp K H v p
  | _, _, _, .non, r => by rw [rv_non r]; exact .non
  | _, _, _, .bl b, r => by rw [rv_bl r]; exact .bl b
  | _, _, _, .int b, r => by rw [rv_int r]; exact .int b
  | _, _, _, .str b, r => by rw [rv_str r]; exact .str b
  | _, _, _, .tup q, r => by
    obtain ⟨a, vs, e, s, rs⟩ := rv_tup r
    subst e
    exact .tup (.inl (.inl s)) (PDs.dp hr q rs)
  | _, _, _, .ktp q, r => by
    obtain ⟨a, vs, e, s, rs⟩ := rv_ktp r
    subst e
    exact .tup s.t (PDs.dp hr q rs)
  | _, _, _, .fls q, r => by
    obtain ⟨a, vs, e, s, rs⟩ := rv_fls r
    subst e
    exact .lst s.l (PDs.dp hr q rs)
  | _, _, _, .lst e q, r => by
    obtain ⟨vs, s, rs⟩ := hr _ _ e
    rw [rv_loc r]
    exact .lst (.inl (.inl s)) (PDs.dp hr q rs)
theorem PDs.dp {K : PySem.W.Frag} {H : Hp} (hr : HR K H h) : ∀ {ds : List D} {ps : List PyData} {vs : List V}, PDs h ds ps → RVs K H ds vs → DpAll K H vs ps
  | _, _, _, .nil, r => by rw [rvs_nil r]; exact .nil
  | _, _, _, .cons q s, r => by
    obtain ⟨x, xs, e, r1, r2⟩ := rvs_cons r
    subst e
    exact .cons (PD.dp hr q r1) (PDs.dp hr s r2)
end
mutual
theorem PD.noDict : ∀ {d : D} {p : PyData}, PD h d p → p.hasDict = false
  | _, _, .non => by simp [PyData.hasDict]
  | _, _, .bl b => by simp [PyData.hasDict]
  | _, _, .int b => by simp [PyData.hasDict]
  | _, _, .str b => by simp [PyData.hasDict]
  | _, _, .tup q => by simp only [PyData.hasDict]; exact PDs.noDict q
  | _, _, .ktp q => by simp only [PyData.hasDict]; exact PDs.noDict q
  | _, _, .fls q => by simp only [PyData.hasDict]; exact PDs.noDict q
  | _, _, .lst e q => by simp only [PyData.hasDict]; exact PDs.noDict q
theorem PDs.noDict : ∀ {ds : List D} {ps : List PyData}, PDs h ds ps → PyData.hasDictAll ps = false
  | _, _, .nil => by simp [PyData.hasDictAll]
  | _, _, .cons q s => by simp [PyData.hasDictAll, PD.noDict q, PDs.noDict s]
end
end

/-! ### operators by value -/
def dSize (n : Nat) : Prop := n ≤ sizeLine
def dAdd : DR2
  | .int i, .int j, h, Q => Q (.int (i + j)) h
  | .str x, .str y, h, Q => x.length + y.length ≤ sizeLine ∧ Q (.str (x ++ y)) h
  | .tup xs, .tup ys, h, Q => xs.length + ys.length ≤ sizeLine ∧ Q (.tup (xs ++ ys)) h
  | .loc a, .loc b, h, Q => ∃ xs ys, h a = some (.lst xs) ∧ h b = some (.lst ys) ∧ xs.length + ys.length ≤ sizeLine ∧ ∀ p, h p = none → Q (.loc p) (hupd h p (.lst (xs ++ ys)))
  | _, _, _, _ => False
def dSub : DR2
  | .int i, .int j, h, Q => Q (.int (i - j)) h
  | _, _, _, _ => False
def MulOk (i j : Int) : Prop := (-(2 ^ 64) < i ∧ i < 2 ^ 64) ∨ (-(2 ^ 64) < j ∧ j < 2 ^ 64) ∨ (i.natAbs < 2 ^ 250 ∧ j.natAbs < 2 ^ 250)
def dMul : DR2
  | .int i, .int j, h, Q => MulOk i j ∧ Q (.int (i * j)) h
  | .loc a, .int k, h, Q => ∃ xs, h a = some (.lst xs) ∧ 0 ≤ k ∧ k < 2 ^ 63 ∧ xs.length * k.toNat ≤ sizeLine ∧ ∀ p, h p = none → Q (.loc p) (hupd h p (.lst (List.replicate k.toNat xs).flatten))
  | _, _, _, _ => False
def DivOk (j : Int) : Prop := 0 < j ∧ j < 2 ^ 250
def dFdiv : DR2
  | .int i, .int j, h, Q => DivOk j ∧ Q (.int (i / j)) h
  | _, _, _, _ => False
def dMod : DR2
  | .int i, .int j, h, Q => 0 < j ∧ Q (.int (i % j)) h
  | _, _, _, _ => False
def dPow : DR2
  | .int i, .int j, h, Q => (0 ≤ j ∧ j ≤ 1000000 ∧ i.natAbs < 2 ^ 64) ∧ Q (.int (i ^ j.toNat)) h
  | _, _, _, _ => False
def dNeg : DR1
  | .int i, h, Q => Q (.int (-i)) h
  | _, _, _ => False
def dCmp (f : Int → Int → Bool) : DR2
  | .int i, .int j, h, Q => Q (.bl (f i j)) h
  | _, _, _, _ => False
def isNon : D → Bool
  | .non => true
  | _ => false
def dIsN (neg : Bool) : DR2
  | x, .non, h, Q => Q (.bl (if neg then !isNon x else isNon x)) h
  | _, _, _, _ => False
def dEq (neg : Bool) : DR2 := fun x y h Q => ∃ p q, PD h x p ∧ PD h y q ∧ SeqAt.shaped p = true ∧ SeqAt.shaped q = true ∧ Q (.bl (if neg then !PyData.eqv p q else PyData.eqv p q)) h

section
variable {X : Cx} {K : PySem.W.Frag}
theorem lrI {C : Int → Int → Prop} {g : Int → Int → Int} {q : DR2} (h1 : ∀ x y h Q, q x y h Q → ∃ i j, x = .int i ∧ y = .int j ∧ C i j ∧ Q (.int (g i j)) h) : LR2 K (rI C fun i j => .int (g i j)) q := fun d e x y h H Q Q0 r1 r2 hr bw w => by
  obtain ⟨i, j, e1, e2, c, w1⟩ := h1 d e h Q w
  rw [e1] at r1; rw [e2] at r2
  exact ⟨i, j, rv_int r1, rv_int r2, c, bw _ h _ H TX.refl rv_int' hr w1⟩
theorem lrI0 {g : Int → Int → Int} {q : DR2} (h1 : ∀ x y h Q, q x y h Q → ∃ i j, x = .int i ∧ y = .int j ∧ Q (.int (g i j)) h) : LR2 K (rI0 fun i j => .int (g i j)) q := fun d e x y h H Q Q0 r1 r2 hr bw w => by
  obtain ⟨i, j, e1, e2, w1⟩ := h1 d e h Q w
  rw [e1] at r1; rw [e2] at r2
  exact ⟨i, j, rv_int r1, rv_int r2, bw _ h _ H TX.refl rv_int' hr w1⟩
theorem lr_cmp (f : Int → Int → Bool) : LR2 K (rI0 fun i j => .bl (f i j)) (dCmp f) := fun d e x y h H Q Q0 r1 r2 hr bw w => by
  cases d with
  | int i =>
    cases e with
    | int j => exact ⟨i, j, rv_int r1, rv_int r2, bw _ h _ H TX.refl rv_bl' hr w⟩
    | _ => exact w.elim
  | _ => exact w.elim
theorem q_sub : OpR X (binaryOp .Sub) (rI0 fun i j => .int (i - j)) ∧ LR2 K (rI0 fun i j => .int (i - j)) dSub := ⟨op_sub, lrI0 fun x y h Q w => by
  cases x <;> cases y <;> first | exact w.elim | exact ⟨_, _, rfl, rfl, w⟩⟩
theorem q_fdiv : OpR X (binaryOp .FloorDiv) (rI CDivW fun i j => .int (i / j)) ∧ LR2 K (rI CDivW fun i j => .int (i / j)) dFdiv := ⟨op_fdivW, lrI fun x y h Q w => by
  cases x <;> cases y <;> first
    | exact w.elim
    | (obtain ⟨⟨c1, c2⟩, w⟩ := w
       exact ⟨_, _, rfl, rfl, wide_div (b := 250) c1 (by omega) (by decide) (by decide), w⟩)⟩
theorem q_mod : OpR X (binaryOp .Mod) (rI (fun _ j => 0 < j) fun i j => .int (i % j)) ∧ LR2 K (rI (fun _ j => 0 < j) fun i j => .int (i % j)) dMod := ⟨op_mod, lrI fun x y h Q w => by
  cases x <;> cases y <;> first | exact w.elim | exact ⟨_, _, rfl, rfl, w.1, w.2⟩⟩
theorem q_pow : OpR X (binaryOp .Pow) (rI CPow fun i j => .int (i ^ j.toNat)) ∧ LR2 K (rI CPow fun i j => .int (i ^ j.toNat)) dPow := ⟨op_pow, lrI fun x y h Q w => by
  cases x <;> cases y <;> first | exact w.elim | exact ⟨_, _, rfl, rfl, w.1, w.2⟩⟩
theorem q_lt : OpR X (compareOp .Lt) (rI0 fun i j => .bl (decide (i < j))) ∧ LR2 K (rI0 fun i j => .bl (decide (i < j))) (dCmp fun i j => decide (i < j)) := ⟨op_lt, lr_cmp _⟩
theorem q_le : OpR X (compareOp .LtE) (rI0 fun i j => .bl (decide (i ≤ j))) ∧ LR2 K (rI0 fun i j => .bl (decide (i ≤ j))) (dCmp fun i j => decide (i ≤ j)) := ⟨op_le, lr_cmp _⟩
theorem q_gt : OpR X (compareOp .Gt) (rI0 fun i j => .bl (decide (j < i))) ∧ LR2 K (rI0 fun i j => .bl (decide (j < i))) (dCmp fun i j => decide (j < i)) := ⟨op_gt, lr_cmp _⟩
theorem q_ge : OpR X (compareOp .GtE) (rI0 fun i j => .bl (decide (j ≤ i))) ∧ LR2 K (rI0 fun i j => .bl (decide (j ≤ i))) (dCmp fun i j => decide (j ≤ i)) := ⟨op_ge, lr_cmp _⟩
theorem q_neg : UnR X (unaryOp .USub) (rU fun i => .int (-i)) ∧ LR1 K (rU fun i => .int (-i)) dNeg := ⟨un_neg, fun d x h H Q Q0 r1 hr bw w => by
  cases d with
  | int i => exact ⟨i, rv_int r1, bw _ h _ H TX.refl rv_int' hr w⟩
  | _ => exact w.elim⟩
theorem isNon_v {d : D} {v : V} {H : Hp} (r : RV K H d v) : decide (v = .non) = isNon d := by
  cases d with
  | non => rw [rv_non r]; rfl
  | bl b => rw [rv_bl r]; rfl
  | int b => rw [rv_int r]; rfl
  | str b => rw [rv_str r]; rfl
  | ty b => rw [rv_ty r]; rfl
  | loc b => rw [rv_loc r]; rfl
  | tup ds => obtain ⟨a, vs, e, _⟩ := rv_tup r; rw [e]; rfl
  | ktp ds => obtain ⟨a, vs, e, _⟩ := rv_ktp r; rw [e]; rfl
  | fls ds => obtain ⟨a, vs, e, _⟩ := rv_fls r; rw [e]; rfl
theorem q_is : OpR X (compareOp .Is) (fun x y H Q => y = .non ∧ Q (.bl (decide (x = .non))) H) ∧ LR2 K (fun x y H Q => y = .non ∧ Q (.bl (decide (x = .non))) H) (dIsN false) := ⟨op_isN, fun d e x y h H Q Q0 r1 r2 hr bw w => by
  cases e with
  | non =>
    refine ⟨rv_non r2, ?_⟩
    rw [isNon_v r1]
    exact bw _ h _ H TX.refl rv_bl' hr w
  | _ => exact w.elim⟩
theorem q_isnot : OpR X (compareOp .IsNot) (fun x y H Q => y = .non ∧ Q (.bl (!decide (x = .non))) H) ∧ LR2 K (fun x y H Q => y = .non ∧ Q (.bl (!decide (x = .non))) H) (dIsN true) := ⟨op_notN, fun d e x y h H Q Q0 r1 r2 hr bw w => by
  cases e with
  | non =>
    refine ⟨rv_non r2, ?_⟩
    rw [isNon_v r1]
    exact bw _ h _ H TX.refl rv_bl' hr w
  | _ => exact w.elim⟩
theorem q_eq (hu : X.A.units + 64 < cLine) (hK : X.K = K := by rfl) : OpR X (compareOp .Eq) (rEqD K) ∧ LR2 K (rEqD K) (dEq false) := ⟨by subst hK; exact op_eqD hu, fun d e x y h H Q Q0 r1 r2 hr bw ⟨p, q, p1, p2, s1, s2, w⟩ =>
  ⟨p, q, p1.dp hr r1, p2.dp hr r2, s1, s2, bw _ h _ H TX.refl rv_bl' hr w⟩⟩
theorem q_ne (hu : X.A.units + 64 < cLine) (hK : X.K = K := by rfl) : OpR X (compareOp .NotEq) (rNeD K) ∧ LR2 K (rNeD K) (dEq true) := ⟨by subst hK; exact op_neD hu, fun d e x y h H Q Q0 r1 r2 hr bw ⟨p, q, p1, p2, s1, s2, w⟩ =>
  ⟨p, q, p1.dp hr r1, p2.dp hr r2, s1, s2, bw _ h _ H TX.refl rv_bl' hr w⟩⟩
/-- a new thing is laid -/
theorem bw_new {h : DH} {H : Hp} {Q : DK} {Q0 : VK} {p : Addr} {o : DO} {O : HO} (hr : HR K H h) (bw : Bw K H Q Q0) (hp : H p = none) (n : RO K (upd H p O) p o) (w : h p = none → Q (.loc p) (hupd h p o)) : Q0 (.ref p) (upd H p O) :=
  bw _ _ _ _ (tx_new hp) rv_loc' (hr.put (tx_new hp) n) (w (hr.free hp))
theorem bw_tup {h : DH} {H : Hp} {Q : DK} {Q0 : VK} {p : Addr} {ds : List D} {vs : List V} (hr : HR K H h) (bw : Bw K H Q Q0) (hp : H p = none) (r : RVs K H ds vs) (w : Q (.tup ds) h) : Q0 (.ref p) (upd H p (.tup vs)) :=
  bw _ _ _ _ (tx_new hp) (rv_tup' upd_same (RVs.mono (tx_new hp) _ _ r)) (hr.lay hp) w
theorem ro_lst {H : Hp} {p : Addr} {ds : List D} {vs : List V} (x : TX K H (upd H p (.lst vs))) (r : RVs K H ds vs) : RO K (upd H p (.lst vs)) p (.lst ds) := ⟨vs, upd_same, RVs.mono x _ _ r⟩
def rAddU (K : PySem.W.Frag) : R2 := fun x y H Q => rI0 (fun i j => .int (i + j)) x y H Q ∨ ((∃ i j, x = .str i ∧ y = .str j ∧ i.length + j.length ≤ sizeLine ∧ Q (.str (i ++ j)) H) ∨ (rCatA K x y H Q ∨ rCat x y H Q))
theorem q_add (hK : X.K = K := by rfl) : OpR X (binaryOp .Add) (rAddU K) ∧ LR2 K (rAddU K) dAdd := by
  subst hK
  refine ⟨op_add.or (op_add_str.or (op_catA.or op_cat)), fun d e x y h H Q Q0 r1 r2 hr bw w => ?_⟩
  cases d with
  | int i =>
    cases e with
    | int j => exact .inl ⟨i, j, rv_int r1, rv_int r2, bw _ h _ H TX.refl rv_int' hr w⟩
    | _ => exact w.elim
  | str i =>
    cases e with
    | str j => exact .inr (.inl ⟨i, j, rv_str r1, rv_str r2, w.1, bw _ h _ H TX.refl rv_str' hr w.2⟩)
    | _ => exact w.elim
  | tup ds =>
    cases e with
    | tup es =>
      obtain ⟨a, xs, e1, s1, q1⟩ := rv_tup r1
      obtain ⟨b, ys, e2, s2, q2⟩ := rv_tup r2
      have z1 := q1.length
      have z2 := q2.length
      obtain ⟨w1, w⟩ := w
      refine .inr (.inr (.inl ⟨a, b, xs, ys, e1, e2, .inl (.inl s1), .inl (.inl s2), by omega, fun z => ?_, fun z1 z => ?_, fun z1 z p hp => ?_⟩))
      · subst z
        have e0 : ds = [] := List.length_eq_zero_iff.mp (by simpa using z1)
        subst e0
        exact bw _ h _ H TX.refl (rv_tup' s2 q2) hr w
      · subst z
        have e0 : es = [] := List.length_eq_zero_iff.mp (by simpa using z2)
        subst e0
        rw [List.append_nil] at w
        exact bw _ h _ H TX.refl (rv_tup' s1 q1) hr w
      · exact bw_tup hr bw hp (q1.append q2) w
    | _ => exact w.elim
  | loc a =>
    cases e with
    | loc b =>
      obtain ⟨xs, ys, h1, h2, z, w⟩ := w
      obtain ⟨vs, s1, q1⟩ := hr _ _ h1
      obtain ⟨us, s2, q2⟩ := hr _ _ h2
      have z1 := q1.length
      have z2 := q2.length
      exact .inr (.inr (.inr ⟨a, b, vs, us, rv_loc r1, rv_loc r2, s1, s2, by omega, fun p hp => bw_new hr bw hp (ro_lst (tx_new hp) (q1.append q2)) (w p)⟩))
    | _ => exact w.elim
  | _ => exact w.elim
theorem rvs_rep {H : Hp} {ds : List D} {vs : List V} (r : RVs K H ds vs) : ∀ k : Nat, RVs K H (List.replicate k ds).flatten (List.replicate k vs).flatten
  | 0 => rvs_nil'
  | k + 1 => by
    rw [List.replicate_succ, List.replicate_succ, List.flatten_cons, List.flatten_cons]
    exact r.append (rvs_rep r k)
def rMulU (K : PySem.W.Frag) : R2 := fun x y H Q => rI CMul (fun i j => .int (i * j)) x y H Q ∨ (rI CMulW (fun i j => .int (i * j)) x y H Q ∨ rRep x y H Q)
theorem q_mul : OpR X (binaryOp .Mult) (rMulU K) ∧ LR2 K (rMulU K) dMul := by
  refine ⟨op_mul.or (op_mulW.or op_rep), fun d e x y h H Q Q0 r1 r2 hr bw w => ?_⟩
  cases d with
  | int i =>
    cases e with
    | int j =>
      obtain ⟨c, w1⟩ := w
      have fin := bw _ h _ H TX.refl (rv_int' (i := i * j)) hr w1
      rcases c with c | c | ⟨c1, c2⟩
      · exact .inl ⟨i, j, rv_int r1, rv_int r2, .inl c, fin⟩
      · exact .inl ⟨i, j, rv_int r1, rv_int r2, .inr c, fin⟩
      · exact .inr (.inl ⟨i, j, rv_int r1, rv_int r2, wide_mul c1 c2 (by decide) (by decide) (by decide), fin⟩)
    | _ => exact w.elim
  | loc a =>
    cases e with
    | int k =>
      obtain ⟨xs, h1, k0, k1, z, w1⟩ := w
      obtain ⟨vs, s1, q1⟩ := hr _ _ h1
      have z1 := q1.length
      exact .inr (.inr ⟨a, k, vs, rv_loc r1, rv_int r2, s1, by omega, k1, by rw [← z1]; exact z, fun p hp => bw_new hr bw hp (ro_lst (tx_new hp) (rvs_rep q1 _)) (w1 p)⟩)
    | _ => exact w.elim
  | _ => exact w.elim

/-! ### argument lists, displays -/
def dNil : DA := fun _ h Q => Q [] h
def dCons (a : DE) (r : DA) : DA := fun τ h Q => a τ h fun x h1 => r τ h1 fun xs h2 => Q (x :: xs) h2
def dTup (r : DA) : DE := fun τ h Q => r τ h fun xs h1 => xs.length ≤ sizeLine ∧ Q (.tup xs) h1
def dLst (r : DA) : DE := fun τ h Q => r τ h fun xs h1 => xs.length ≤ sizeLine ∧ ∀ p, h1 p = none → Q (.loc p) (hupd h1 p (.lst xs))
variable {e : Expr} {es : List Expr} {te : TE} {de : DE} {ta : TA} {da : DA} {pos : Pos}
theorem xnil : XA X K [] tNil dNil := ⟨pa_nil, fun τ σ h H Q Q0 rs hr bw w => bw [] h [] H TX.refl rvs_nil' hr w⟩
theorem xcons (he : XE X K e te de) (ha : XA X K es ta da) (hs : starEach (e :: es) X.env = (false, eval e X.env) :: starEach es X.env := by rfl) : XA X K (e :: es) (tCons te ta) (dCons de da) :=
  ⟨pa_cons he.p ha.p hs, fun τ σ h H Q Q0 rs hr bw w => he.l τ σ h H _ _ rs hr (fun d h1 v H1 x1 r1 hr1 w1 =>
    ha.l τ σ h1 H1 _ _ (rs.mono x1) hr1 (fun ds h2 vs H2 x2 r2 hr2 w2 => bw _ h2 _ H2 (x1.trans x2) (rvs_cons' (RV.mono x2 d v r1) r2) hr2 w2) w1) w⟩
theorem xtup {k} (h : XA X K es ta da) : XE X K (.Tuple es k pos) (tTup ta) (dTup da) :=
  ⟨pe_tup h.p, fun τ σ h0 H Q Q0 rs hr bw w => h.l τ σ h0 H _ _ rs hr (fun ds h1 vs H1 x1 r1 hr1 w1 => ⟨by rw [← r1.length]; exact w1.1, fun p hp => bw_tup hr1 (bw.mono x1) hp r1 w1.2⟩) w⟩
theorem xlst (h : XA X K es ta da) : XE X K (.List es pos) (tLst ta) (dLst da) :=
  ⟨pe_lst h.p, fun τ σ h0 H Q Q0 rs hr bw w => h.l τ σ h0 H _ _ rs hr (fun ds h1 vs H1 x1 r1 hr1 w1 => ⟨by rw [← r1.length]; exact w1.1, fun p hp => bw_new hr1 (bw.mono x1) hp (ro_lst (tx_new hp) r1) (w1.2 p)⟩) w⟩
end
end DL

set_option Elab.async false
set_option linter.all false
set_option maxRecDepth 100000
/-! DL4: subscripts, slices, dicts, targets, statements. -/
namespace DL
open PySem PySem.Spec PyProof.Rows L2

/-! ### keys -/
def keyD : D → Option Key
  | .int i => some (.inl i)
  | .str x => some (.inr x)
  | _ => none
def keysD : List D → Option (List Key)
  | [] => some []
  | d :: ds => match keyD d, keysD ds with
    | some k, some ks => some (k :: ks)
    | _, _ => none
def valD {κ : Type} [DecidableEq κ] (kvs : List (κ × D)) (k : κ) : Option D := (kvs.find? fun kv => decide (kv.1 = k)).map (·.2)
def putD {κ : Type} [DecidableEq κ] (kvs : List (κ × D)) (k : κ) (v : D) : List (κ × D) :=
  if (kvs.any fun kv => decide (kv.1 = k)) = true then kvs.map (fun kv => if kv.1 = k then (kv.1, v) else kv) else kvs ++ [(k, v)]
section
variable {K : PySem.W.Frag} {H : Hp}
theorem keyD_v {d : D} {k : Key} {v : V} (e : keyD d = some k) (r : RV K H d v) : v = kV k := by
  cases d with
  | int i => cases e; exact rv_int r
  | str x => cases e; exact rv_str r
  | _ => cases e
theorem keysD_v : ∀ {ds : List D} {ks : List Key} {vs : List V}, keysD ds = some ks → RVs K H ds vs → vs = ks.map kV
  | [], ks, vs, e, r => by cases e; rw [rvs_nil r]; rfl
  | d :: ds, ks, vs, e, r => by
    obtain ⟨x, xs, e1, r1, r2⟩ := rvs_cons r
    subst e1
    unfold keysD at e
    cases h1 : keyD d with
    | none => rw [h1] at e; cases e
    | some k =>
      cases h2 : keysD ds with
      | none => rw [h1, h2] at e; cases e
      | some kr =>
        rw [h1, h2] at e
        cases e
        rw [keyD_v h1 r1, keysD_v h2 r2]; rfl
theorem rkv_find {κ : Type} [DecidableEq κ] {kvs : List (κ × D)} {us : List (κ × V)} (r : RKV K H kvs us) (k : κ) : (valD kvs k = none ∧ valV us k = none) ∨ ∃ d v, valD kvs k = some d ∧ valV us k = some v ∧ RV K H d v := by
  unfold RKV at r
  induction r with
  | nil => exact .inl ⟨rfl, rfl⟩
  | @cons p q ps qs hq t ih =>
    by_cases e : p.1 = k
    · refine .inr ⟨p.2, q.2, by simp [valD, List.find?_cons, e], by simp [valV, List.find?_cons, ← hq.1, e], hq.2⟩
    · have e2 : ¬ q.1 = k := by rw [← hq.1]; exact e
      have h1 : valD (p :: ps) k = valD ps k := by simp [valD, List.find?_cons, e]
      have h2 : valV (q :: qs) k = valV qs k := by simp [valV, List.find?_cons, e2]
      rw [h1, h2]
      exact ih
theorem rkv_any {κ : Type} [DecidableEq κ] {kvs : List (κ × D)} {us : List (κ × V)} (r : RKV K H kvs us) (k : κ) : (kvs.any fun kv => decide (kv.1 = k)) = us.any fun kv => decide (kv.1 = k) := by
  unfold RKV at r
  induction r with
  | nil => rfl
  | @cons p q ps qs hq t ih => rw [List.any_cons, List.any_cons, ih, hq.1]
theorem rkv_put {κ : Type} [DecidableEq κ] {kvs : List (κ × D)} {us : List (κ × V)} (r : RKV K H kvs us) (k : κ) {d : D} {v : V} (rv : RV K H d v) : RKV K H (putD kvs k d) (putK us k v) := by
  unfold putD putK
  rw [rkv_any r k]
  split
  · unfold RKV at r ⊢
    rename_i z
    clear z
    induction r with
    | nil => exact .nil
    | @cons p q ps qs hq t ih =>
      rw [List.map_cons, List.map_cons]
      refine .cons ?_ ih
      by_cases e : p.1 = k
      · rw [if_pos e, if_pos (by rw [← hq.1]; exact e)]; exact ⟨hq.1, rv⟩
      · rw [if_neg e, if_neg (by rw [← hq.1]; exact e)]; exact hq
  · unfold RKV at r ⊢
    rename_i z
    clear z
    induction r with
    | nil => exact .cons ⟨rfl, rv⟩ .nil
    | @cons p q ps qs hq t ih => exact .cons hq ih
theorem rkv_length {κ : Type} {kvs : List (κ × D)} {us : List (κ × V)} (r : RKV K H kvs us) : kvs.length = us.length := Paired.length r
end

/-! ### a[b] -/
def need0 (o : Option D) (h : DH) (Q : DK) : Prop := match o with
  | some d => Q d h
  | none => False
@[irreducible] noncomputable def need : Option D → DH → DK → Prop := hide need0
theorem need_eq {o : Option D} {h : DH} {Q : DK} : need o h Q = need0 o h Q := by unfold need; rw [hide_eq]
theorem need_of {o : Option D} {h : DH} {Q : DK} (w : need o h Q) : ∃ d, o = some d ∧ Q d h := by
  rw [need_eq] at w; unfold need0 at w
  cases o with
  | none => exact w.elim
  | some d => exact ⟨d, rfl, w⟩
def getI : List D → D → Option D
  | xs, .int i => atI xs i
  | _, _ => none
def getS : Str → D → Option D
  | z, .int i => if z.length ≤ sizeLine then (atI z.cps.toList i).map fun c => .str ⟨#[c]⟩ else none
  | _, _ => none
def getT (kvs : List (List Key × D)) : D → Option D
  | .tup ks => (keysD ks).bind (valD kvs)
  | _ => none
def getO : Option DO → D → Option D
  | some (.lst xs), y => getI xs y
  | some (.dK kvs), y => (keyD y).bind (valD kvs)
  | some (.dT kvs), y => getT kvs y
  | _, _ => none
def ixD (h : DH) (x y : D) : Option D := match x with
  | .tup xs => getI xs y
  | .ktp xs => getI xs y
  | .fls xs => getI xs y
  | .str z => getS z y
  | .loc a => getO (h a) y
  | _ => none
def dIx : DR2 := fun x y h Q => need (ixD h x y) h Q
section
variable {X : Cx} {K : PySem.W.Frag}
theorem atI_rvs {H : Hp} {ds : List D} {vs : List V} {i : Int} {d : D} (r : RVs K H ds vs) (e : atI ds i = some d) : ∃ v, atI vs i = some v ∧ RV K H d v := by
  unfold atI at e ⊢
  rw [← r.length]
  cases h : ixN ds.length i with
  | none => rw [h] at e; cases e
  | some j =>
    rw [h] at e
    have e : ds[j]? = some d := e
    exact r.get e
def rIxD : R2 := fun x y H Q => ∃ a v, x = .ref a ∧ DGet H a y (some v) ∧ Q v H
theorem ix_dict (hu : X.A.units + 1 < cLine) : IxR X rIxD := by
  intro value slice pins s σ H x y v u Q I rx ry h hs
  obtain ⟨a, w, rfl, g, q⟩ := h
  cases rx
  exact tail_any (dict_typeIs I g) PySem.F.slot_dict_getitem.lookup (d_getItem hu I g ry fun w' s' I' r => ⟨w, H, I', r, q⟩) hs
def rIxU (K : PySem.W.Frag) : R2 := fun x y H Q => rIx K x y H Q ∨ rIxD x y H Q
theorem ix_all (hu : X.A.units + 1 < cLine) : IxR X (rIxU X.K) := ix_seq.or (ix_dict hu)
theorem getI_rvs {H : Hp} {ds : List D} {vs : List V} {e : D} {y : V} {d : D} (r : RVs K H ds vs) (ry : RV K H e y) (z : getI ds e = some d) : ∃ i v, y = .int i ∧ atI vs i = some v ∧ RV K H d v := by
  cases e with
  | int i =>
    obtain ⟨v, h1, h2⟩ := atI_rvs r (show atI ds i = some d from z)
    exact ⟨i, v, rv_int ry, h1, h2⟩
  | _ => cases z
theorem lr_ix : LR2 K (rIxU K) dIx := fun d e x y h H Q Q0 r1 r2 hr bw w => by
  obtain ⟨d0, z, w1⟩ := need_of w
  cases d with
  | tup ds =>
    obtain ⟨a, vs, e1, s, q⟩ := rv_tup r1
    obtain ⟨i, v, ey, h1, h2⟩ := getI_rvs q r2 z
    exact .inl (.inr (.inl ⟨a, vs, i, v, e1, ey, .inl (.inl s), h1, bw _ h _ H TX.refl h2 hr w1⟩))
  | ktp ds =>
    obtain ⟨a, vs, e1, s, q⟩ := rv_ktp r1
    obtain ⟨i, v, ey, h1, h2⟩ := getI_rvs q r2 z
    exact .inl (.inr (.inl ⟨a, vs, i, v, e1, ey, s.t, h1, bw _ h _ H TX.refl h2 hr w1⟩))
  | fls ds =>
    obtain ⟨a, vs, e1, s, q⟩ := rv_fls r1
    obtain ⟨i, v, ey, h1, h2⟩ := getI_rvs q r2 z
    exact .inl (.inl ⟨a, vs, i, v, e1, ey, s.l, h1, bw _ h _ H TX.refl h2 hr w1⟩)
  | str x0 =>
    cases e with
    | int i =>
      have z : (if x0.length ≤ sizeLine then (atI x0.cps.toList i).map fun c => D.str ⟨#[c]⟩ else none) = some d0 := z
      by_cases hl : x0.length ≤ sizeLine
      · rw [if_pos hl] at z
        obtain ⟨c, z1, z2⟩ := Option.map_eq_some_iff.mp z
        subst z2
        exact .inl (.inr (.inr ⟨x0, i, c, rv_str r1, rv_int r2, hl, z1, bw _ h _ H TX.refl rv_str' hr w1⟩))
      · rw [if_neg hl] at z; cases z
    | _ => cases z
  | loc a =>
    have e1 := rv_loc r1
    have z : getO (h a) e = some d0 := z
    cases ha : h a with
    | none => rw [ha] at z; cases z
    | some o =>
      rw [ha] at z
      cases o with
      | lst xs =>
        obtain ⟨vs, s, q⟩ := hr _ _ ha
        obtain ⟨i, v, ey, h1, h2⟩ := getI_rvs q r2 z
        exact .inl (.inl ⟨a, vs, i, v, e1, ey, .inl (.inl s), h1, bw _ h _ H TX.refl h2 hr w1⟩)
      | dK kvs =>
        obtain ⟨us, s, q⟩ := hr _ _ ha
        obtain ⟨k, z1, z2⟩ := Option.bind_eq_some_iff.mp (show (keyD e).bind (valD kvs) = some d0 from z)
        rcases rkv_find q k with ⟨n1, _⟩ | ⟨d1, v0, n1, n2, rv⟩
        · rw [n1] at z2; cases z2
        · rw [n1] at z2; cases z2
          refine .inr ⟨a, v0, e1, ?_, bw _ h _ H TX.refl rv hr w1⟩
          rw [keyD_v z1 r2, ← n2]
          exact DGet.k s
      | dT kvs =>
        obtain ⟨us, s, q⟩ := hr _ _ ha
        cases e with
        | tup ks =>
          obtain ⟨k, z1, z2⟩ := Option.bind_eq_some_iff.mp (show (keysD ks).bind (valD kvs) = some d0 from z)
          obtain ⟨b, bs, eb, sb, qb⟩ := rv_tup r2
          rcases rkv_find q k with ⟨n1, _⟩ | ⟨d1, v0, n1, n2, rv⟩
          · rw [n1] at z2; cases z2
          · rw [n1] at z2; cases z2
            refine .inr ⟨a, v0, e1, ?_, bw _ h _ H TX.refl rv hr w1⟩
            rw [eb, ← n2]
            exact DGet.t s (by rw [sb, keysD_v z1 qb])
        | _ => cases z
      | _ => cases z
  | _ => cases z
variable {a b : Expr} {ta tb : TE} {da db : DE} {pos : Pos}
theorem xix (hu : X.A.units + 1 < cLine) (ha : XE X K a ta da) (hb : XE X K b tb db) (hs : PlainIx b := by exact fun _ _ => rfl) (hK : X.K = K := by rfl) : XE X K (.Subscript a b pos) (tOp (rIxU K) ta tb) (dOp dIx da db) := ⟨by subst hK; exact pe_ix (ix_all hu) ha.p hb.p hs, le_op lr_ix ha.l hb.l⟩
end

/-! ### slices -/
def cutD (xs : List D) (lo hi : Option Int) : List D := (xs.drop (HT.sIx xs.length 0 lo)).take (HT.sIx xs.length xs.length hi - HT.sIx xs.length 0 lo)
abbrev DO' := DSt → DH → (Option Int → DH → Prop) → Prop
def LO (K : PySem.W.Frag) (t0 : TO) (t : DO') : Prop := ∀ τ σ h H (Q : Option Int → DH → Prop) (Q0 : Option Int → Hp → Prop), RS K H τ σ → HR K H h → (∀ o h' H', TX K H H' → HR K H' h' → Q o h' → Q0 o H') → t τ h Q → t0 σ H Q0
structure XO (X : Cx) (K : PySem.W.Frag) (e : Option Expr) (t0 : TO) (t : DO') : Prop where
  p : PO X e t0
  l : LO K t0 t
def dNoPart : DO' := fun _ h Q => Q none h
def dPart (t : DE) : DO' := fun τ h Q => t τ h fun x h1 => match x with
  | .int i => Q (some i) h1
  | _ => False
def lstO : Option DO → Option (List D)
  | some (.lst xs) => some xs
  | _ => none
def seqD (h : DH) : D → Option (List D)
  | .loc a => lstO (h a)
  | .fls xs => some xs
  | _ => none
def dCut (x : D) (lo hi : Option Int) (h : DH) (Q : DK) : Prop := match x with
  | .tup xs => Q (.tup (cutD xs lo hi)) h
  | .str z => z.length ≤ sizeLine ∧ Q (.str (cutS z lo hi)) h
  | y => match seqD h y with
    | some xs => ∀ p, h p = none → Q (.loc p) (hupd h p (.lst (cutD xs lo hi)))
    | none => False
theorem lstO_of {o : Option DO} {xs : List D} (e : lstO o = some xs) : o = some (.lst xs) := by
  cases o with
  | none => cases e
  | some u => cases u <;> cases e; rfl
def dSl (t : DE) (l u : DO') : DE := fun τ h Q => t τ h fun x h1 => l τ h1 fun lo h2 => u τ h2 fun hi h3 => dCut x lo hi h3 Q
section
variable {X : Cx} {K : PySem.W.Frag}
theorem xo_none : XO X K none tNoPart dNoPart := ⟨po_none, fun τ σ h H Q Q0 rs hr bw w => bw none h H TX.refl hr w⟩
theorem xo_some {e : Expr} {t : TE} {d : DE} (x : XE X K e t d) : XO X K (some e) (tPart t) (dPart d) := ⟨po_some x.p, fun τ σ h H Q Q0 rs hr bw w => x.l τ σ h H _ _ rs hr (fun y h1 v H1 x1 r1 hr1 w1 => by
  cases y with
  | int i => exact ⟨i, rv_int r1, bw _ h1 H1 x1 hr1 w1⟩
  | _ => exact w1.elim) w⟩
def rSlU (K : PySem.W.Frag) : V → Option Int → Option Int → Hp → VK → Prop := fun x lo hi H Q => rSlA K x lo hi H Q ∨ (rSlL K x lo hi H Q ∨ rSlS x lo hi H Q)
theorem cut_rvs {H : Hp} {ds : List D} {vs : List V} (r : RVs K H ds vs) (lo hi : Option Int) : RVs K H (cutD ds lo hi) (cutV vs lo hi) := by
  unfold cutD cutV
  rw [r.length]
  exact (r.drop _).take _
theorem cutD_whole {ds : List D} {lo hi : Option Int} (e : HT.sIx ds.length 0 lo = 0 ∧ HT.sIx ds.length ds.length hi = ds.length) : cutD ds lo hi = ds := by
  unfold cutD
  rw [e.1, e.2, List.drop_zero, Nat.sub_zero, List.take_length]
theorem xsl {e : Expr} {te : TE} {de : DE} {lo hi : Option Expr} {tl th : TO} {dl dh : DO'} {pos p2 : Pos} (he : XE X K e te de) (hl : XO X K lo tl dl) (hh : XO X K hi th dh) (hK : X.K = K := by rfl) : XE X K (.Subscript e (.Slice lo hi none p2) pos) (tSl (rSlU K) te tl th) (dSl de dl dh) := by
  subst hK
  refine ⟨pe_slice (sl_tupA.or (sl_list.or sl_str)) he.p hl.p hh.p, fun τ σ h H Q Q0 rs hr bw w => he.l τ σ h H _ _ rs hr (fun y h1 v H1 x1 r1 hr1 w1 => hl.l τ σ h1 H1 _ _ (rs.mono x1) hr1 (fun i h2 H2 x2 hr2 w2 => hh.l τ σ h2 H2 _ _ (rs.mono (x1.trans x2)) hr2 (fun j h3 H3 x3 hr3 w3 => ?_) w2) w1) w⟩
  have r := RV.mono (x2.trans x3) _ _ r1
  have bw := bw.mono ((x1.trans x2).trans x3)
  cases y with
  | tup ds =>
    obtain ⟨a, vs, e1, s, q⟩ := rv_tup r
    refine .inl ⟨a, vs, e1, .inl (.inl s), fun z => ?_, fun z p hp => bw_tup hr3 bw hp (cut_rvs q i j) w3⟩
    rw [← q.length] at z
    have w3 : Q (.tup (cutD ds i j)) h3 := w3
    rw [cutD_whole z] at w3
    exact bw _ h3 _ H3 TX.refl (rv_tup' s q) hr3 w3
  | loc a =>
    have w3 : (match lstO (h3 a) with | some xs => ∀ p, h3 p = none → Q (.loc p) (hupd h3 p (.lst (cutD xs i j))) | none => False) := w3
    cases ha : lstO (h3 a) with
    | none => rw [ha] at w3; exact w3.elim
    | some xs =>
      rw [ha] at w3
      obtain ⟨vs, s, q⟩ := hr3 _ _ (lstO_of ha)
      exact .inr (.inl ⟨a, vs, rv_loc r, .inl (.inl s), fun p hp => bw_new hr3 bw hp (ro_lst (tx_new hp) (cut_rvs q i j)) (w3 p)⟩)
  | fls xs =>
    obtain ⟨a, vs, e1, s, q⟩ := rv_fls r
    exact .inr (.inl ⟨a, vs, e1, s.l, fun p hp => bw_new hr3 bw hp (ro_lst (tx_new hp) (cut_rvs q i j)) (w3 p)⟩)
  | str z => exact .inr (.inr ⟨z, rv_str r, w3.1, bw _ h3 _ H3 TX.refl rv_str' hr3 w3.2⟩)
  | _ => exact w3.elim
end

/-! ### dicts: {} -/
def dNewK : DE := fun _ h Q => ∀ p, h p = none → Q (.loc p) (hupd h p (.dK []))
def dNewT : DE := fun _ h Q => ∀ p, h p = none → Q (.loc p) (hupd h p (.dT []))
theorem ro_dK {K : PySem.W.Frag} {H : Hp} {p : Addr} {kvs : List (Key × D)} {us : List (Key × V)} (r : RKV K (upd H p (.dK us)) kvs us) : RO K (upd H p (.dK us)) p (.dK kvs) := ⟨us, upd_same, r⟩
theorem ro_dT {K : PySem.W.Frag} {H : Hp} {p : Addr} {kvs : List (List Key × D)} {us : List (List Key × V)} (r : RKV K (upd H p (.dT us)) kvs us) : RO K (upd H p (.dT us)) p (.dT kvs) := ⟨us, upd_same, r⟩
section
variable {X : Cx} {K : PySem.W.Frag} {pos : Pos}
theorem xnewK : XE X K (.Dict [] [] pos) tDNewK dNewK := ⟨pe_dnewK, fun τ σ h H Q Q0 rs hr bw w p hp => bw_new hr bw hp (ro_dK (kvs := []) .nil) (w p)⟩
theorem xnewT : XE X K (.Dict [] [] pos) tDNewT dNewT := ⟨pe_dnewT, fun τ σ h H Q Q0 rs hr bw w p hp => bw_new hr bw hp (ro_dT (kvs := []) .nil) (w p)⟩
end

/-! ### targets -/
abbrev DTG := D → DSt → DH → (DSt → DH → Prop) → Prop
abbrev DTGs := List D → DSt → DH → (DSt → DH → Prop) → Prop
def BwG (K : PySem.W.Frag) (H : Hp) (Q : DSt → DH → Prop) (Q0 : L2.St → Hp → Prop) : Prop := ∀ τ' σ' h' H', TX K H H' → RS K H' τ' σ' → HR K H' h' → Q τ' h' → Q0 σ' H'
theorem BwG.mono {K : PySem.W.Frag} {H H' : Hp} {Q : DSt → DH → Prop} {Q0 : L2.St → Hp → Prop} (x : TX K H H') (r : BwG K H Q Q0) : BwG K H' Q Q0 := fun a b c d t => r a b c d (x.trans t)
def LG (K : PySem.W.Frag) (g0 : TG) (g : DTG) : Prop := ∀ d v τ σ h H Q Q0, RV K H d v → RS K H τ σ → HR K H h → BwG K H Q Q0 → g d τ h Q → g0 v σ H Q0
def LGs (K : PySem.W.Frag) (g0 : TGs) (g : DTGs) : Prop := ∀ d v τ σ h H Q Q0, RVs K H d v → RS K H τ σ → HR K H h → BwG K H Q Q0 → g d τ h Q → g0 v σ H Q0
structure XG (X : Cx) (K : PySem.W.Frag) (e : Expr) (g0 : TG) (g : DTG) : Prop where
  p : PG X e g0
  l : LG K g0 g
structure XGs (X : Cx) (K : PySem.W.Frag) (es : List Expr) (g0 : TGs) (g : DTGs) : Prop where
  p : PGs X es g0
  l : LGs K g0 g
def gdName (i : Nat) : DTG := fun d τ h Q => Q (τ.set i (some d)) h
def gdNil : DTGs := fun ds τ h Q => match ds with
  | [] => Q τ h
  | _ => False
def gdCons (g : DTG) (r : DTGs) : DTGs := fun ds τ h Q => match ds with
  | d :: ds => g d τ h fun τ' h' => r ds τ' h' Q
  | [] => False
def gdTup (n : Nat) (g : DTGs) : DTG := fun d τ h Q => match d with
  | .tup ds => ds.length = n ∧ g ds τ h Q
  | .ktp ds => ds.length = n ∧ g ds τ h Q
  | _ => False
def setI (xs : List D) (v : D) : D → Option DO
  | .int i => (ixN xs.length i).map fun j => .lst (xs.set j v)
  | _ => none
def setT (kvs : List (List Key × D)) (v : D) : D → Option DO
  | .tup ks => if kvs.length < sizeLine then (keysD ks).map fun k => .dT (putD kvs k v) else none
  | _ => none
def setO : Option DO → D → D → Option DO
  | some (.lst xs), y, v => setI xs v y
  | some (.dK kvs), y, v => if kvs.length < sizeLine then (keyD y).map fun k => .dK (putD kvs k v) else none
  | some (.dT kvs), y, v => setT kvs v y
  | _, _, _ => none
def dSet0 (o y v : D) (h : DH) (Q : DH → Prop) : Prop := match o with
  | .loc a => (match setO (h a) y v with
    | some u => Q (hupd h a u)
    | none => False)
  | _ => False
@[irreducible] noncomputable def dSet : D → D → D → DH → (DH → Prop) → Prop := hide dSet0
theorem dSet_eq {o y v : D} {h : DH} {Q : DH → Prop} : dSet o y v h Q = dSet0 o y v h Q := by unfold dSet; rw [hide_eq]
def gdSub (to ti : DE) : DTG := fun d τ h Q => to τ h fun o h1 => ti τ h1 fun i h2 => dSet o i d h2 fun h3 => Q τ h3
section
variable {X : Cx} {K : PySem.W.Frag} {pos : Pos}
theorem xg_name {i : Nat} {x : Str} (hN : X.N.Nodup) (hi : X.N[i]? = some x := by rfl) (hx : Loc X.env.scope x := by first | exact Or.inl rfl | exact Or.inr rfl) (hf : X.fn x = true ∨ X.env.scope.names.lookup x = some .local := by first | exact .inl rfl | exact .inr rfl) : XG X K (.Name x pos) (gName i) (gdName i) :=
  ⟨pg_name hN hi hx hf, fun d v τ σ h H Q Q0 r rs hr bw w => bw _ _ h H TX.refl (rs.set i r) hr w⟩
theorem xgs_nil : XGs X K [] gNil gdNil := ⟨pgs_nil, fun d v τ σ h H Q Q0 r rs hr bw w => by
  cases d with
  | nil => exact ⟨rvs_nil r, bw _ _ h H TX.refl rs hr w⟩
  | cons _ _ => exact w.elim⟩
theorem xgs_cons {e : Expr} {es : List Expr} {t : TG} {u : TGs} {dt : DTG} {du : DTGs} (h1 : XG X K e t dt) (h2 : XGs X K es u du)
    (hs : (assignEach (e :: es) X.env).map (·.2) = assign e X.env :: (assignEach es X.env).map (·.2) := by rfl) : XGs X K (e :: es) (gCons t u) (gdCons dt du) := ⟨pgs_cons h1.p h2.p hs, fun d v τ σ h H Q Q0 r rs hr bw w => by
  cases d with
  | nil => exact w.elim
  | cons d ds =>
    obtain ⟨x, xs, e1, r1, r2⟩ := rvs_cons r
    exact ⟨x, xs, e1, h1.l d x τ σ h H _ _ r1 rs hr (fun τ1 σ1 h1' H1 x1 rs1 hr1 w1 => h2.l ds xs τ1 σ1 h1' H1 Q Q0 (RVs.mono x1 _ _ r2) rs1 hr1 (bw.mono x1) w1) w⟩⟩
theorem xg_tup {es : List Expr} {k : Nat} {t : TGs} {dt : DTGs} {n : Nat} (hc : X.calm = true) (h : XGs X K es t dt)
    (hn : (assignEach es X.env).length = n := by rfl) (hst : (assignEach es X.env).findIdx? (·.1) = none := by rfl) (hK : X.K = K := by rfl) : XG X K (.Tuple es k pos) (gTup K n t) (gdTup n dt) := ⟨by subst hK; exact pg_tup hc h.p hn hst, fun d v τ σ h0 H Q Q0 r rs hr bw w => by
  cases d with
  | tup ds =>
    obtain ⟨a, vs, e1, s, q⟩ := rv_tup r
    exact ⟨a, vs, e1, .inl (.inl s), by rw [← q.length]; exact w.1, h.l ds vs τ σ h0 H Q Q0 q rs hr bw w.2⟩
  | ktp ds =>
    obtain ⟨a, vs, e1, s, q⟩ := rv_ktp r
    exact ⟨a, vs, e1, s.t, by rw [← q.length]; exact w.1, h.l ds vs τ σ h0 H Q Q0 q rs hr bw w.2⟩
  | _ => exact w.elim⟩
def rSetU : TSet := fun o i v H Q => rSetL o i v H Q ∨ ∃ a H', o = .ref a ∧ DPut H a i v H' ∧ Q H'
theorem set_all (hu : X.A.units + 1 < cLine) : PSet X rSetU := by
  intro pins s σ H o i v ov iv u Q I ro ri rv h
  rcases h with h | ⟨a, H', rfl, g, q⟩
  · exact set_list pins s σ H o i v ov iv u Q I ro ri rv h
  · cases ro
    exact d_setItem hu I g ri rv fun s' I' => ⟨H', I', q⟩
theorem set_link {o i d : D} {ov iv v : V} {h : DH} {H : Hp} {Q : DH → Prop} {Q0 : Hp → Prop} (ro : RV K H o ov) (ri : RV K H i iv) (rv : RV K H d v) (hr : HR K H h) (bw : ∀ h' H', TX K H H' → HR K H' h' → Q h' → Q0 H') (w : dSet o i d h Q) : rSetU ov iv v H Q0 := by
  rw [dSet_eq] at w; unfold dSet0 at w
  cases o with
  | loc a =>
    have e1 := rv_loc ro
    have w : (match setO (h a) i d with | some u => Q (hupd h a u) | none => False) := w
    cases z : setO (h a) i d with
    | none => rw [z] at w; exact w.elim
    | some u =>
      rw [z] at w
      cases ha : h a with
      | none => rw [ha] at z; cases z
      | some ob =>
        rw [ha] at z
        cases ob with
        | lst xs =>
          obtain ⟨vs, s, q⟩ := hr _ _ ha
          cases i with
          | int k =>
            obtain ⟨j, z1, z2⟩ := Option.map_eq_some_iff.mp (show (ixN xs.length k).map (fun j => DO.lst (xs.set j d)) = some u from z)
            subst z2
            have x := tx_lst (K := K) (o := .lst (vs.set j v)) s
            exact .inl ⟨a, vs, k, j, e1, rv_int ri, s, by rw [← q.length]; exact z1, bw _ _ x (hr.put x (ro_lst (ds := xs.set j d) x (RVs.set rv j q))) w⟩
          | _ => cases z
        | dK kvs =>
          obtain ⟨us, s, q⟩ := hr _ _ ha
          have z : (if kvs.length < sizeLine then (keyD i).map fun k => DO.dK (putD kvs k d) else none) = some u := z
          by_cases hl : kvs.length < sizeLine
          · rw [if_pos hl] at z
            obtain ⟨k, z1, z2⟩ := Option.map_eq_some_iff.mp z
            subst z2
            have x := tx_dK (K := K) (o := .dK (putK us k v)) s
            refine .inr ⟨a, _, e1, ?_, bw _ _ x (hr.put x (ro_dK (rkv_put (q.mono x) k (RV.mono x _ _ rv)))) w⟩
            rw [keyD_v z1 ri]
            exact DPut.k s (by rw [← rkv_length q]; exact hl)
          · rw [if_neg hl] at z; cases z
        | dT kvs =>
          obtain ⟨us, s, q⟩ := hr _ _ ha
          cases i with
          | tup ks =>
            have z : (if kvs.length < sizeLine then (keysD ks).map fun k => DO.dT (putD kvs k d) else none) = some u := z
            by_cases hl : kvs.length < sizeLine
            · rw [if_pos hl] at z
              obtain ⟨k, z1, z2⟩ := Option.map_eq_some_iff.mp z
              subst z2
              obtain ⟨b, bs, eb, sb, qb⟩ := rv_tup ri
              have x := tx_dT (K := K) (o := .dT (putK us k v)) s
              refine .inr ⟨a, _, e1, ?_, bw _ _ x (hr.put x (ro_dT (rkv_put (q.mono x) k (RV.mono x _ _ rv)))) w⟩
              rw [eb]
              exact DPut.t s (by rw [sb, keysD_v z1 qb]) (by rw [← rkv_length q]; exact hl)
            · rw [if_neg hl] at z; cases z
          | _ => cases z
        | _ => cases z
  | _ => exact w.elim
theorem xg_sub {o i : Expr} {to ti : TE} {do' di : DE} (hu : X.A.units + 1 < cLine) (ho : XE X K o to do') (hi : XE X K i ti di)
    (ha : ∀ v, assign (.Subscript o i pos) X.env v = (do
      let ov ← holding [v] (eval o X.env)
      let iv ← holding [v, ov] (eval i X.env)
      standAt pos
      holding [v, ov, iv] (setItem ov iv v)
      release [v, ov, iv] []) := by intro _; rfl) : XG X K (.Subscript o i pos) (gSub to ti rSetU) (gdSub do' di) := ⟨pg_sub ho.p hi.p (set_all hu) ha, fun d v τ σ h H Q Q0 r rs hr bw w =>
  ho.l τ σ h H _ _ rs hr (fun od h1 ov H1 x1 r1 hr1 w1 => hi.l τ σ h1 H1 _ _ (rs.mono x1) hr1 (fun idd h2 iv H2 x2 r2 hr2 w2 =>
    set_link (RV.mono x2 _ _ r1) r2 (RV.mono (x1.trans x2) _ _ r) hr2 (fun h3 H3 x3 hr3 w3 => bw _ _ h3 H3 ((x1.trans x2).trans x3) (rs.mono ((x1.trans x2).trans x3)) hr3 w3) w2) w1) w⟩
end
end DL

set_option Elab.async false
set_option linter.all false
set_option maxRecDepth 100000
/-! DL5: statements, what is walked, loops, comprehensions. -/
namespace DL
open PySem PySem.Spec PyProof.Rows L2

/-! ### statements -/
def dNext : DS := fun D τ h => D.nx τ h
def dSeq (t u : DS) : DS := fun D τ h => t { D with nx := u D } τ h
def dRet (t : DE) : DS := fun D τ h => t τ h D.rt
def dRetN : DS := fun D _ h => D.rt .non h
def dDrop (t : DE) : DS := fun D τ h => t τ h fun _ h1 => D.nx τ h1
def dIfS (c : DT) (t u : DS) : DS := fun D τ h => c τ h fun b h1 => kIte b (t D τ h1) (u D τ h1)
def dBreak : DS := fun D τ h => D.bk τ h
def dCont : DS := fun D τ h => D.ct τ h
def dAsg (t : DE) (g : DTG) : DS := fun D τ h => t τ h fun x h1 => g x τ h1 D.nx
def dPar (i j : Nat) (a : DA) : DS := fun D τ h => a τ h fun ds h1 => match ds with
  | [v, w] => D.nx ((τ.set i (some v)).set j (some w)) h1
  | _ => False
def dNever : DS := fun _ _ _ => False
section
variable {X : Cx} {K : PySem.W.Frag} {st : Stmt} {rest : List Stmt} {t t' : TS} {d d' : DS} {e : Expr} {te : TE} {de : DE} {pos : Pos}
theorem BwS.g {K : PySem.W.Frag} {H : Hp} {D : DEnds} {D0 : Ends} (b : BwS K H D D0) : BwG K H D.nx D0.nx := fun a b' c d t r1 r2 w => b.nx a b' c d t r1 r2 w
theorem xss_nil : XSs X K [] tNext dNext := ⟨pss_nil, fun τ σ h H D D0 rs hr bw w => bw.nx τ σ h H TX.refl rs hr w⟩
theorem xss_cons (h1 : XS X K st t d) (h2 : XSs X K rest t' d') : XSs X K (st :: rest) (tSeq t t') (dSeq d d') := ⟨pss_cons h1.p h2.p, fun τ σ h H D D0 rs hr bw w =>
  h1.l τ σ h H { D with nx := d' D } { D0 with nx := t' D0 } rs hr ⟨fun τ' σ' h' H' x rs' hr' w' => h2.l τ' σ' h' H' D D0 rs' hr' (bw.mono x) w', bw.rt, bw.bk, bw.ct⟩ w⟩
theorem xss_one (h1 : XS X K st t d) : XSs X K [st] t d := ⟨pss_one h1.p, h1.l⟩
theorem xs_pass : XS X K (.Pass pos) tNext dNext := ⟨ps_pass, fun τ σ h H D D0 rs hr bw w => bw.nx τ σ h H TX.refl rs hr w⟩
theorem xs_break : XS X K (.Break pos) tBreak dBreak := ⟨ps_break, fun τ σ h H D D0 rs hr bw w => bw.bk τ σ h H TX.refl rs hr w⟩
theorem xs_continue : XS X K (.Continue pos) tCont dCont := ⟨ps_continue, fun τ σ h H D D0 rs hr bw w => bw.ct τ σ h H TX.refl rs hr w⟩
theorem xs_expr (he : XE X K e te de) (hs : swapsWith e none pos.line X.env = pure false := by rfl) : XS X K (.Expr e pos) (tDrop te) (dDrop de) := ⟨ps_expr he.p hs, fun τ σ h H D D0 rs hr bw w =>
  he.l τ σ h H _ _ rs hr (fun x h1 v H1 x1 r1 hr1 w1 => bw.nx τ σ h1 H1 x1 (rs.mono x1) hr1 w1) w⟩
theorem xs_ret (he : XE X K e te de) : XS X K (.Return (some e) pos) (tRet te) (dRet de) := ⟨ps_ret he.p, fun τ σ h H D D0 rs hr bw w => he.l τ σ h H _ _ rs hr bw.rt w⟩
theorem xs_retN : XS X K (.Return none pos) tRetN dRetN := ⟨ps_retN, fun τ σ h H D D0 rs hr bw w => bw.rt _ h _ H TX.refl rv_non' hr w⟩
theorem xs_if {c : Expr} {a b : List Stmt} {tc : TT} {dc : DT} (hc : XT X K c tc dc) (ha : XSs X K a t d) (hb : XSs X K b t' d') : XS X K (.If c a b pos) (tIfS tc t t') (dIfS dc d d') := ⟨ps_if hc.p ha.p hb.p, fun τ σ h H D D0 rs hr bw w =>
  hc.l τ σ h H _ _ rs hr (fun k h1 H1 x1 hr1 w1 => by
    cases k with
    | true => have w1 := kt w1; exact ha.l τ σ h1 H1 D D0 (rs.mono x1) hr1 (bw.mono x1) w1
    | false => have w1 := kf w1; exact hb.l τ σ h1 H1 D D0 (rs.mono x1) hr1 (bw.mono x1) w1) w⟩
theorem ls_asg {K : PySem.W.Frag} {g0 : TG} {g : DTG} (le : LE K te de) (lg : LG K g0 g) : LS K (tAsg te g0) (dAsg de g) := fun τ σ h H D D0 rs hr bw w =>
  le τ σ h H _ _ rs hr (fun x h1 v H1 x1 r1 hr1 w1 => lg x v τ σ h1 H1 _ _ r1 (rs.mono x1) hr1 (bw.g.mono x1) w1) w
theorem xs_asg {tg : Expr} {g0 : TG} {g : DTG} (he : XE X K e te de) (hg : XG X K tg g0 g) (hs : swapsWithSole [tg] e pos.line X.env = pure false := by rfl) (hw : swappedStores [tg] e X.env = pure none := by rfl)
    (h1 : (assignEach [tg] X.env).map (·.2) = [assign tg X.env] := by rfl) : XS X K (.Assign [tg] e pos) (tAsg te g0) (dAsg de g) := ⟨ps_asg he.p hg.p hs hw h1, ls_asg he.l hg.l⟩
theorem lg_name {K : PySem.W.Frag} (i : Nat) : LG K (gName i) (gdName i) := fun d v τ σ h H Q Q0 r rs hr bw w => bw _ _ h H TX.refl (rs.set i r) hr w
theorem xs_set {i : Nat} {x : Str} {pos' : Pos} (hN : X.N.Nodup) (he : XE X K e te de) (hi : X.N[i]? = some x := by rfl) (hx : Loc X.env.scope x := by first | exact Or.inl rfl | exact Or.inr rfl) (hs : swapsWith e (some (.Name x pos')) pos.line X.env = pure false := by rfl) (hf : X.fn x = true ∨ X.env.scope.names.lookup x = some .local := by first | exact .inl rfl | exact .inr rfl) :
    XS X K (.Assign [.Name x pos'] e pos) (tAsg te (gName i)) (dAsg de (gdName i)) := ⟨ps_set hN hi hx he.p hs hf, ls_asg he.l (lg_name i)⟩
theorem xs_par {i j : Nat} {x y : Str} {a b : Expr} {ta : TA} {da : DA} {px py pt : Pos} {kt k2 pt2} (hc : X.calm = true) (hN : X.N.Nodup) (ha : XA X K [a, b] ta da) (hij : i ≠ j) (hi : X.N[i]? = some x := by rfl) (hj : X.N[j]? = some y := by rfl)
    (hx : X.env.scope.names.lookup x = some .local := by rfl) (hy : X.env.scope.names.lookup y = some .local := by rfl)
    (hw : swappedStores [.Tuple [.Name x px, .Name y py] kt pt] (.Tuple [a, b] k2 pt2) X.env = pure (some [x, y]) := by rfl)
    (hs : swapsWithSole [.Tuple [.Name x px, .Name y py] kt pt] (.Tuple [a, b] k2 pt2) pos.line X.env = pure false := by rfl) :
    XS X K (.Assign [.Tuple [.Name x px, .Name y py] kt pt] (.Tuple [a, b] k2 pt2) pos) (tPar i j ta) (dPar i j da) := ⟨ps_par hc hN hi hj hij hx hy ha.p hw hs, fun τ σ h H D D0 rs hr bw w =>
  ha.l τ σ h H _ _ rs hr (fun ds h1 vs H1 x1 r1 hr1 w1 => by
    match ds, w1, r1 with
    | [v, w0], w1, r1 =>
      obtain ⟨u1, us1, e1, q1, r2⟩ := rvs_cons r1
      obtain ⟨u2, us2, e2, q2, r3⟩ := rvs_cons r2
      have e3 := rvs_nil r3
      subst e3 e2 e1
      exact ⟨u1, u2, rfl, bw.nx _ _ h1 H1 x1 (((rs.mono x1).set i q1).set j q2) hr1 w1⟩) w⟩
/-- name op= e, by the operator's own rule -/
def dAug (i : Nat) (t : DE) (q : DR2) : DS := fun D τ h => match ld τ i with
  | some x => t τ h fun y h1 => q x y h1 fun z h2 => D.nx (τ.set i (some z)) h2
  | none => False
theorem xs_aug {i : Nat} {x : Str} {op : Operator} {r : R2} {q : DR2} {pos' : Pos} (hN : X.N.Nodup) (o : OpR X (inplaceOp op) r ∧ LR2 K r q) (he : XE X K e te de) (hi : X.N[i]? = some x := by rfl) (hx : Loc X.env.scope x := by first | exact Or.inl rfl | exact Or.inr rfl) (hf : X.fn x = true ∨ X.env.scope.names.lookup x = some .local := by first | exact .inl rfl | exact .inr rfl) :
    XS X K (.AugAssign (.Name x pos') op e pos) (tAug i te r) (dAug i de q) := ⟨ps_aug hN hi hx he.p (fun pins s σ H x y v u Q I r1 r2 w => o.1 pins s σ H x y v u Q I r1 r2 w) hf, fun τ σ h H D D0 rs hr bw w => by
  unfold dAug at w
  cases z : ld τ i with
  | none => rw [z] at w; exact w.elim
  | some d0 =>
    rw [z] at w
    obtain ⟨v0, s0, r0⟩ := rs.2 i d0 (ld_get z)
    exact ⟨v0, s0, he.l τ σ h H _ _ rs hr (fun y h1 v H1 x1 r1 hr1 w1 => o.2 d0 y v0 v h1 H1 _ _ (RV.mono x1 _ _ r0) r1 hr1 (fun z h2 zv H2 x2 r2 hr2 w2 => bw.nx _ _ h2 H2 (x1.trans x2) ((rs.mono (x1.trans x2)).set i r2) hr2 w2) w1) w⟩⟩
end

/-! ### what is walked -/
abbrev DI := DSt → DH → (List D → (DH → Prop) → DH → Prop) → Prop
def Fol (K : PySem.W.Frag) (H0 : Hp) (J : It) (items : List D) (G : DH → Prop) : Prop := ∀ (i : Nat) (h : DH) (H : Hp), TX K H0 H → HR K H h → G h →
  (items.length ≤ i → J.stop i H) ∧ ∀ d, items[i]? = some d → J.go i H ∧ ∀ x H', J.yld i H x H' → TX K H H' ∧ HR K H' h ∧ RV K H' d x
def LI (K : PySem.W.Frag) (w0 : TI) (di : DI) : Prop := ∀ τ σ h H (R : List D → (DH → Prop) → DH → Prop) (R0 : It → Hp → Prop), RS K H τ σ → HR K H h →
  (∀ items G h' H' J, TX K H H' → HR K H' h' → R items G h' → Fol K H' J items G → R0 J H') → di τ h R → w0 σ H R0
structure XI (X : Cx) (K : PySem.W.Frag) (tg e : Expr) (w0 : TI) (di : DI) : Prop where
  p : PI X tg e w0
  l : LI K w0 di
/-- a list or a tuple -/
def iSeq (K : PySem.W.Frag) (tl : TE) : TI := fun σ H R => tl σ H fun x H1 => ∃ a, x = .ref a ∧ (((∃ xs, SqL K H1 a xs) ∧ R (Itl K a) H1) ∨ ((∃ xs, SqT K H1 a xs) ∧ R (Itt K a) H1))
def diSeq (t : DE) : DI := fun τ h R => t τ h fun x h1 => match x with
  | .tup xs => R xs (fun _ => True) h1
  | .ktp xs => R xs (fun _ => True) h1
  | .fls xs => R xs (fun _ => True) h1
  | .loc a => (match lstO (h1 a) with
    | some xs => R xs (fun h => h a = some (.lst xs)) h1
    | none => False)
  | _ => False
section
variable {X : Cx} {K : PySem.W.Frag} {tg : Expr}
theorem pi_seq {l : Expr} {tl : TE} (hl : PE X l tl) : PI X tg l (iSeq X.K tl) := by
  refine ⟨fun pins s σ H R I h => ?_⟩
  refine thn (hl.run pins s σ H _ I h) fun v s1 ⟨x, H1, I1, r1, a, e, q⟩ => ?_
  subst e
  cases r1
  have fresh : ∀ b ∈ [s1.heap.objs.size], FpOk X pins H1 b := fun b hb => by
    cases List.mem_singleton.mp hb
    exact I1.fpOk (Nat.le_refl _) (I1.hok.fresh (Nat.le_refl _))
  rcases q with ⟨⟨xs, hq⟩, q⟩ | ⟨⟨xs, hq⟩, q⟩
  · obtain ⟨its, rv, p, hz⟩ := I1.list hq
    exact wpAny_pyIter_list p.isList ⟨s1.heap.objs.size, [s1.heap.objs.size], _, _, H1, rfl, I1.kept (t' := s1.toks) (fun b o e => Heap.get?_push_of_some _ e), turn_list a _, ⟨_, Heap.get?_push_size _ rfl, rfl, rfl⟩, fresh, q⟩
  · obtain ⟨its, rv, p, hz⟩ := I1.tuple hq
    exact wpAny_pyIter_tuple (show s1.heap.IsTuple a its.toArray from p) ⟨s1.heap.objs.size, [s1.heap.objs.size], _, _, H1, rfl, I1.kept (t' := s1.toks) (fun b o e => Heap.get?_push_of_some _ e), turn_tuple a _, ⟨_, Heap.get?_push_size _ rfl, rfl, rfl⟩, fresh, q⟩
variable {K : PySem.W.Frag}
theorem fol_l {H0 : Hp} {a : Addr} {items : List D} {G : DH → Prop} (q : ∀ h H, TX K H0 H → HR K H h → G h → ∃ vs, SqL K H a vs ∧ RVs K H items vs) : Fol K H0 (Itl K a) items G := fun i h H x hr g => by
  obtain ⟨vs, s, r⟩ := q h H x hr g
  refine ⟨fun hi => ⟨vs, s, by rw [← r.length]; exact hi⟩, fun d hd => ?_⟩
  obtain ⟨v, hv, rv⟩ := r.get hd
  refine ⟨⟨vs, v, s, hv⟩, fun y H' ⟨e, hy⟩ => ?_⟩
  subst e
  have e2 := hy vs s
  rw [hv] at e2
  cases e2
  exact ⟨TX.refl, hr, rv⟩
theorem fol_t {H0 : Hp} {a : Addr} {items : List D} {G : DH → Prop} (q : ∀ h H, TX K H0 H → HR K H h → G h → ∃ vs, SqT K H a vs ∧ RVs K H items vs) : Fol K H0 (Itt K a) items G := fun i h H x hr g => by
  obtain ⟨vs, s, r⟩ := q h H x hr g
  refine ⟨fun hi => ⟨vs, s, by rw [← r.length]; exact hi⟩, fun d hd => ?_⟩
  obtain ⟨v, hv, rv⟩ := r.get hd
  refine ⟨⟨vs, v, s, hv⟩, fun y H' ⟨e, hy⟩ => ?_⟩
  subst e
  have e2 := hy vs s
  rw [hv] at e2
  cases e2
  exact ⟨TX.refl, hr, rv⟩
theorem xi_seq {e : Expr} {te : TE} {de : DE} (he : XE X K e te de) (hK : X.K = K := by rfl) : XI X K tg e (iSeq K te) (diSeq de) := ⟨by subst hK; exact pi_seq he.p, fun τ σ h H R R0 rs hr bw w => he.l τ σ h H _ _ rs hr (fun d h1 v H1 x1 r1 hr1 w1 => by
  cases d with
  | tup ds =>
    obtain ⟨a, vs, e1, s, q⟩ := rv_tup r1
    exact ⟨a, e1, .inr ⟨⟨vs, .inl (.inl s)⟩, bw ds _ h1 H1 _ x1 hr1 w1 (fol_t fun h H x _ _ => ⟨vs, .inl (.inl (x.1 _ _ s)), RVs.mono x _ _ q⟩)⟩⟩
  | ktp ds =>
    obtain ⟨a, vs, e1, s, q⟩ := rv_ktp r1
    exact ⟨a, e1, .inr ⟨⟨vs, s.t⟩, bw ds _ h1 H1 _ x1 hr1 w1 (fol_t fun h H x _ _ => ⟨vs, s.t, RVs.mono x _ _ q⟩)⟩⟩
  | fls ds =>
    obtain ⟨a, vs, e1, s, q⟩ := rv_fls r1
    exact ⟨a, e1, .inl ⟨⟨vs, s.l⟩, bw ds _ h1 H1 _ x1 hr1 w1 (fol_l fun h H x _ _ => ⟨vs, (x.sqf _ _ s).l, RVs.mono x _ _ q⟩)⟩⟩
  | loc a =>
    have w1 : (match lstO (h1 a) with | some xs => R xs (fun h => h a = some (.lst xs)) h1 | none => False) := w1
    cases z : lstO (h1 a) with
    | none => rw [z] at w1; exact w1.elim
    | some xs =>
      rw [z] at w1
      obtain ⟨vs, s, q⟩ := hr1 _ _ (lstO_of z)
      refine ⟨a, rv_loc r1, .inl ⟨⟨vs, .inl (.inl s)⟩, bw xs _ h1 H1 _ x1 hr1 w1 (fol_l fun h H x hr g => ?_)⟩⟩
      obtain ⟨vs', s', q'⟩ := hr _ _ g
      exact ⟨vs', .inl (.inl s'), q'⟩
  | _ => exact w1.elim) w⟩
def rangeD (lo : Int) (n : Nat) : List D := (List.range n).map fun (i : Nat) => D.int (lo + (i : Int))
theorem fol_r {H0 : Hp} {lo : Int} {n : Nat} {G : DH → Prop} : Fol K H0 (Itr lo n) (rangeD lo n) G := fun i h H x hr g => by
  unfold rangeD
  refine ⟨fun hi => (by simpa using hi : n ≤ i), fun d hd => ?_⟩
  have hd' := hd
  rw [List.getElem?_map] at hd'
  cases z : (List.range n)[i]? with
  | none => rw [z] at hd'; cases hd'
  | some j =>
    rw [z] at hd'
    have e1 : D.int (lo + (j : Int)) = d := Option.some.inj hd'
    have hj : i < n ∧ j = i := by
      obtain ⟨hl, e⟩ := List.getElem?_eq_some_iff.mp z
      rw [List.length_range] at hl
      exact ⟨hl, by rw [← e, List.getElem_range]⟩
    refine ⟨hj.1, fun y H' ⟨e, hy⟩ => ?_⟩
    subst e hy
    rw [← e1, hj.2]
    exact ⟨TX.refl, hr, rv_int'⟩
def diRng1 (a : DA) : DI := fun τ h R => a τ h fun ds h1 => match ds with
  | [.int j] => (-(2 ^ 62) ≤ j ∧ j < 2 ^ 62) ∧ R (rangeD 0 j.toNat) (fun _ => True) h1
  | _ => False
def diRng2 (a : DA) : DI := fun τ h R => a τ h fun ds h1 => match ds with
  | [.int i, .int j] => (-(2 ^ 62) ≤ i ∧ i < 2 ^ 62 ∧ -(2 ^ 62) ≤ j ∧ j < 2 ^ 62) ∧ R (rangeD i (j - i).toNat) (fun _ => True) h1
  | _ => False
theorem xi_rng1 {a : Expr} {ta : TA} {da : DA} {p pos : Pos} (hm : X.mg "range" = none) (ha : XA X K [a] ta da) (hg : Gl X "range" := by rfl) (hs : starEach [a] X.env = [(false, eval a X.env)] := by rfl) : XI X K tg (.Call (.Name "range" p) [a] [] pos) (iRng1 ta) (diRng1 da) :=
  ⟨pi_range1 hg hm ha.p hs, fun τ σ h H R R0 rs hr bw w => ha.l τ σ h H _ _ rs hr (fun ds h1 vs H1 x1 r1 hr1 w1 => by
    match ds, w1, r1 with
    | [.int j], w1, r1 =>
      obtain ⟨u1, us1, e1, q1, r2⟩ := rvs_cons r1
      have e2 := rvs_nil r2
      have e3 := rv_int q1
      subst e3 e2 e1
      exact ⟨j, rfl, w1.1.1, w1.1.2, bw _ _ h1 H1 _ x1 hr1 w1.2 fol_r⟩) w⟩
theorem xi_rng2 {a b : Expr} {ta : TA} {da : DA} {p pos : Pos} (hm : X.mg "range" = none) (ha : XA X K [a, b] ta da) (hg : Gl X "range" := by rfl) (hs : starEach [a, b] X.env = [(false, eval a X.env), (false, eval b X.env)] := by rfl) (hs2 : starEach [b] X.env = [(false, eval b X.env)] := by rfl) : XI X K tg (.Call (.Name "range" p) [a, b] [] pos) (iRng2 ta) (diRng2 da) :=
  ⟨pi_range2 hg hm ha.p hs hs2, fun τ σ h H R R0 rs hr bw w => ha.l τ σ h H _ _ rs hr (fun ds h1 vs H1 x1 r1 hr1 w1 => by
    match ds, w1, r1 with
    | [.int i, .int j], w1, r1 =>
      obtain ⟨u1, us1, e1, q1, r2⟩ := rvs_cons r1
      obtain ⟨u2, us2, e2, q2, r3⟩ := rvs_cons r2
      have e4 := rvs_nil r3
      have e3 := rv_int q1
      have e5 := rv_int q2
      subst e3 e5 e4 e2 e1
      exact ⟨i, j, rfl, w1.1, bw _ _ h1 H1 _ x1 hr1 w1.2 fol_r⟩) w⟩
end

/-! ### for -/
def dLoop (G : DH → Prop) (g : DTG) (tb : DS) (N : DEnds) : List D → DSt → DH → Prop
  | [], τ, h => G h ∧ N.nx τ h
  | d :: ds, τ, h => G h ∧ g d τ h fun τ1 h1 => tb { N with nx := dLoop G g tb N ds, ct := dLoop G g tb N ds, bk := N.nx } τ1 h1
def dFor (di : DI) (g : DTG) (tb : DS) : DS := fun D τ h => di τ h fun items G h1 => dLoop G g tb D items τ h1
section
variable {X : Cx} {K : PySem.W.Frag}
theorem loop_G {G : DH → Prop} {g : DTG} {tb : DS} {N : DEnds} {items : List D} {τ : DSt} {h : DH} (w : dLoop G g tb N items τ h) : G h := by
  cases items with
  | nil => exact w.1
  | cons d ds => exact w.1
theorem ls_for {w0 : TI} {di : DI} {g0 : TG} {g : DTG} {t0 : TS} {t : DS} (li : LI K w0 di) (lg : LG K g0 g) (lb : LS K t0 t) : LS K (tFor w0 g0 t0) (dFor di g t) := fun τ σ h H D D0 rs hr bw w =>
  li τ σ h H _ _ rs hr (fun items G h1 H1 J x1 hr1 w1 fol => by
    refine ⟨fun i m σ' H' => ∃ τ' h', m = items.length - i ∧ i ≤ items.length ∧ TX K H1 H' ∧ RS K H' τ' σ' ∧ HR K H' h' ∧ dLoop G g t D (items.drop i) τ' h', ⟨items.length, τ, h1, rfl, Nat.zero_le _, TX.refl, rs.mono x1, hr1, by rw [List.drop_zero]; exact w1⟩, ?_⟩
    rintro i m σ' H' ⟨τ', h', rfl, hi, x2, rs2, hr2, w2⟩
    obtain ⟨f1, f2⟩ := fol i h' H' x2 hr2 (loop_G w2)
    by_cases hlt : i < items.length
    · obtain ⟨d, hd⟩ : ∃ d, items[i]? = some d := ⟨items[i], List.getElem?_eq_getElem hlt⟩
      obtain ⟨go, f3⟩ := f2 d hd
      have hdrop : items.drop i = d :: items.drop (i + 1) := by
        rw [List.drop_eq_getElem_cons hlt]
        rw [List.getElem?_eq_getElem hlt] at hd
        rw [Option.some.inj hd]
      rw [hdrop] at w2
      refine .inr ⟨go, fun σ3 H3 => ∃ τ3 h3, TX K H1 H3 ∧ RS K H3 τ3 σ3 ∧ HR K H3 h3 ∧ dLoop G g t D (items.drop (i + 1)) τ3 h3, fun σ3 H3 ⟨τ3, h3, a1, a2, a3, a4⟩ => ⟨items.length - (i + 1), by omega, τ3, h3, rfl, hlt, a1, a2, a3, a4⟩, fun x H3 y3 => ?_⟩
      obtain ⟨x3, hr3, r3⟩ := f3 x H3 y3
      have bwx := bw.mono (x1.trans (x2.trans x3))
      refine lg d x τ' σ' h' H3 _ _ r3 (rs2.mono x3) hr3 (fun τ4 σ4 h4 H4 x4 rs4 hr4 w4 => ?_) w2.2
      refine lb τ4 σ4 h4 H4 { D with nx := dLoop G g t D (items.drop (i + 1)), ct := dLoop G g t D (items.drop (i + 1)), bk := D.nx } _ rs4 hr4 ⟨fun a b c e t1 q1 q2 q3 => ⟨a, c, (x2.trans x3).trans (x4.trans t1), q1, q2, q3⟩, (bwx.mono x4).rt, fun a b c e t1 q1 q2 q3 => (bwx.mono x4).nx a b c e t1 q1 q2 q3, fun a b c e t1 q1 q2 q3 => ⟨a, c, (x2.trans x3).trans (x4.trans t1), q1, q2, q3⟩⟩ w4
    · have e : i = items.length := by omega
      subst e
      rw [List.drop_length] at w2
      exact .inl ⟨f1 (Nat.le_refl _), bw.nx τ' σ' h' H' (x1.trans x2) rs2 hr2 w2.2⟩) w
theorem xs_for {tg iter : Expr} {body : List Stmt} {w0 : TI} {di : DI} {g0 : TG} {g : DTG} {t0 : TS} {t : DS} {pos : Pos} (hp : PassesOwn (model X.prog X.w) X.A X.env X.xe) (hc : X.calm = true) (hi : XI X K tg iter w0 di) (hg : XG X K tg g0 g) (hb : XSs X K body t0 t)
    (hs : ∀ x, foldedSetIterable iter X.env x = pure x := by intro _; rfl) : XS X K (.For tg iter body [] pos) (tFor w0 g0 t0) (dFor di g t) := ⟨ps_for hp hc hi.p hg.p hb.p hs, ls_for hi.l hg.l hb.l⟩

/-! ### while -/
def dWh (c : DT) (t : DS) (D : DEnds) : Nat → DSt → DH → Prop
  | 0, _, _ => False
  | n + 1, τ, h => c τ h fun b h1 => kIte b (t { D with nx := dWh c t D n, ct := dWh c t D n, bk := D.nx } τ h1) (D.nx τ h1)
def dWhile (c : DT) (t : DS) : DS := fun D τ h => ∃ n, dWh c t D n τ h
theorem ls_while {c0 : TT} {c : DT} {t0 : TS} {t : DS} (lc : LT K c0 c) (lb : LS K t0 t) : LS K (tWhile c0 t0) (dWhile c t) := fun τ σ h H D D0 rs hr bw ⟨n, w⟩ => by
  refine ⟨fun m σ' H' => ∃ τ' h', TX K H H' ∧ RS K H' τ' σ' ∧ HR K H' h' ∧ dWh c t D m τ' h', ⟨n, τ, h, TX.refl, rs, hr, w⟩, ?_⟩
  rintro m σ' H' ⟨τ', h', x1, rs1, hr1, w1⟩
  cases m with
  | zero => exact w1.elim
  | succ m =>
    refine lc τ' σ' h' H' _ _ rs1 hr1 (fun b h2 H2 x2 hr2 w2 => ?_) w1
    cases b with
    | true =>
      have w2 := kt w2
      refine ⟨fun σ3 H3 => ∃ τ3 h3, TX K H H3 ∧ RS K H3 τ3 σ3 ∧ HR K H3 h3 ∧ dWh c t D m τ3 h3, fun σ3 H3 q => ⟨m, Nat.lt_succ_self _, q⟩, ?_⟩
      have bwx := bw.mono (x1.trans x2)
      exact lb τ' σ' h2 H2 { D with nx := dWh c t D m, ct := dWh c t D m, bk := D.nx } _ (rs1.mono x2) hr2 ⟨fun a b c e t1 q1 q2 q3 => ⟨a, c, (x1.trans x2).trans t1, q1, q2, q3⟩, bwx.rt, fun a b c e t1 q1 q2 q3 => bwx.nx a b c e t1 q1 q2 q3, fun a b c e t1 q1 q2 q3 => ⟨a, c, (x1.trans x2).trans t1, q1, q2, q3⟩⟩ w2
    | false => have w2 := kf w2; exact bw.nx τ' σ' h2 H2 (x1.trans x2) (rs1.mono x2) hr2 w2
theorem xs_while {c : Expr} {body : List Stmt} {c0 : TT} {dc : DT} {t0 : TS} {t : DS} {pos : Pos} (hp : PassesOwn (model X.prog X.w) X.A X.env X.xe) (hc : XT X K c c0 dc) (hb : XSs X K body t0 t) : XS X K (.While c body [] pos) (tWhile c0 t0) (dWhile dc t) := ⟨ps_while hp hc.p hb.p, ls_while hc.l hb.l⟩
end

/-! ### comprehensions -/
def wipeD (τ : DSt) : List Nat → DSt
  | [] => τ
  | v :: vs => (wipeD τ vs).set v none
theorem rs_wipe {K : PySem.W.Frag} {H : Hp} {τ : DSt} {σ : L2.St} (r : RS K H τ σ) : ∀ vs, RS K H (wipeD τ vs) (wipe σ vs)
  | [] => r
  | v :: vs => (rs_wipe r vs).unset v
theorem wipe_get (σ : L2.St) (i : Nat) : ∀ vs : List Nat, (wipe σ vs)[i]? = if i ∈ vs then (σ[i]?).map fun _ => none else σ[i]?
  | [] => by simp [wipe]
  | v :: vs => by
    unfold wipe
    by_cases e : v = i
    · subst e
      rw [List.getElem?_set_self', wipe_get σ v vs]
      by_cases q : v ∈ vs <;> simp [q] <;> cases σ[v]? <;> rfl
    · rw [List.getElem?_set_ne e, wipe_get σ i vs]
      have e' : ¬ i = v := fun z => e z.symm
      simp [e']
theorem wipe_set {σ : L2.St} {i : Nat} {o : Option V} {vs : List Nat} (hi : i ∈ vs) : wipe (σ.set i o) vs = wipe σ vs := by
  refine List.ext_getElem? fun j => ?_
  rw [wipe_get, wipe_get]
  by_cases e : i = j
  · subst e
    rw [if_pos hi, if_pos hi, List.getElem?_set_self']
    cases σ[i]? <;> rfl
  · rw [List.getElem?_set_ne e]
theorem wipe_wipe (σ : L2.St) (vs : List Nat) : wipe (wipe σ vs) vs = wipe σ vs := by
  refine List.ext_getElem? fun j => ?_
  rw [wipe_get, wipe_get]
  by_cases e : j ∈ vs
  · rw [if_pos e, if_pos e]; cases σ[j]? <;> rfl
  · rw [if_neg e, if_neg e]
def Own (vs : List Nat) (g0 : TG) : Prop := ∀ v σ H Q, g0 v σ H Q → g0 v σ H fun σ' H' => wipe σ' vs = wipe σ vs ∧ Q σ' H'
def Owns (vs : List Nat) (g0 : TGs) : Prop := ∀ v σ H Q, g0 v σ H Q → g0 v σ H fun σ' H' => wipe σ' vs = wipe σ vs ∧ Q σ' H'
theorem own_name {vs : List Nat} {i : Nat} (hi : i ∈ vs) : Own vs (gName i) := fun v σ H Q w => ⟨wipe_set hi, w⟩
theorem own_nil {vs : List Nat} : Owns vs gNil := fun v σ H Q w => ⟨w.1, rfl, w.2⟩
theorem own_cons {vs : List Nat} {g : TG} {r : TGs} (h1 : Own vs g) (h2 : Owns vs r) (mono : ∀ v σ H (Q Q' : L2.St → Hp → Prop), (∀ s h, Q s h → Q' s h) → g v σ H Q → g v σ H Q') : Owns vs (gCons g r) := fun v σ H Q ⟨x, xs, e, w⟩ =>
  ⟨x, xs, e, mono _ _ _ _ _ (fun s h ⟨e1, q⟩ => by
    have q2 := h2 _ _ _ _ q
    exact (by
      have : (fun σ' H' => wipe σ' vs = wipe s vs ∧ Q σ' H') = (fun σ' H' => wipe σ' vs = wipe σ vs ∧ Q σ' H') := by rw [e1]
      rw [this] at q2; exact q2)) (h1 _ _ _ _ w)⟩
theorem own_tup {vs : List Nat} {K : PySem.W.Frag} {n : Nat} {r : TGs} (h : Owns vs r) : Own vs (gTup K n r) := fun v σ H Q ⟨a, xs, e, s, l, w⟩ => ⟨a, xs, e, s, l, h _ _ _ _ w⟩
theorem mono_name {i : Nat} : ∀ v σ H (Q Q' : L2.St → Hp → Prop), (∀ s h, Q s h → Q' s h) → gName i v σ H Q → gName i v σ H Q' := fun _ _ _ _ _ k w => k _ _ w

structure XTs (X : Cx) (K : PySem.W.Frag) (cs : List Expr) (t0 : TT) (t : DT) : Prop where
  p : PTs X cs t0
  l : LT K t0 t
def dYes : DT := fun _ h Q => Q true h
theorem xts_nil {X : Cx} {K : PySem.W.Frag} : XTs X K [] tYes dYes := ⟨pts_nil, fun τ σ h H Q Q0 rs hr bw w => bw true h H TX.refl hr w⟩
theorem xts_one {X : Cx} {K : PySem.W.Frag} {c : Expr} {t : TT} {d : DT} (h : XT X K c t d) : XTs X K [c] t d := ⟨pts_one h.p, h.l⟩

def dLcGo (G : DH → Prop) (g : DTG) (tt : DT) (te : DE) (p : Addr) (τ : DSt) (Q : DK) : List D → DH → Prop
  | [], h => G h ∧ Q (.loc p) h
  | d :: ds, h => G h ∧ g d τ h fun τ2 h2 => tt τ2 h2 fun b h3 => kIte b (te τ2 h3 fun y h4 => (match lstO (h4 p) with
      | some acc => acc.length < sizeLine ∧ dLcGo G g tt te p τ Q ds (hupd h4 p (.lst (acc ++ [y])))
      | none => False)) (dLcGo G g tt te p τ Q ds h3)
def dLc (di : DI) (g : DTG) (tt : DT) (te : DE) (vs : List Nat) : DE := fun τ h Q => di τ h fun items G h1 => ∀ p, h1 p = none → dLcGo G g tt te p (wipeD τ vs) Q items (hupd h1 p (.lst []))
section
variable {X : Cx} {K : PySem.W.Frag}
theorem lc_G {G : DH → Prop} {g : DTG} {tt : DT} {te : DE} {p : Addr} {τ : DSt} {Q : DK} {items : List D} {h : DH} (w : dLcGo G g tt te p τ Q items h) : G h := by
  cases items with
  | nil => exact w.1
  | cons d ds => exact w.1
theorem le_lc {w0 : TI} {di : DI} {g0 : TG} {g : DTG} {t0 : TT} {tt : DT} {e0 : TE} {te : DE} {vs : List Nat} (li : LI K w0 di) (lg : LG K g0 g) (own : Own vs g0) (lt : LT K t0 tt) (le : LE K e0 te) : LE K (tLc w0 g0 t0 e0 vs) (dLc di g tt te vs) := fun τ σ h H Q Q0 rs hr bw w =>
  li τ σ h H _ _ rs hr (fun items G h1 H1 J x1 hr1 w1 fol D hD => by
    have xD : TX K H1 (upd H1 D (.lst [])) := tx_new hD
    have w1 := w1 D (hr1.free hD)
    refine ⟨fun i m H' => ∃ h', m = items.length - i ∧ i ≤ items.length ∧ TX K H1 H' ∧ HR K H' h' ∧ dLcGo G g tt te D (wipeD τ vs) Q (items.drop i) h', ⟨items.length, _, rfl, Nat.zero_le _, xD, hr1.put xD (ro_lst xD rvs_nil'), by rw [List.drop_zero]; exact w1⟩, ?_⟩
    rintro i m H' ⟨h', rfl, hi, x2, hr2, w2⟩
    obtain ⟨f1, f2⟩ := fol i h' H' x2 hr2 (lc_G w2)
    by_cases hlt : i < items.length
    · obtain ⟨d, hd⟩ : ∃ d, items[i]? = some d := ⟨items[i], List.getElem?_eq_getElem hlt⟩
      obtain ⟨go, f3⟩ := f2 d hd
      have hdrop : items.drop i = d :: items.drop (i + 1) := by
        rw [List.drop_eq_getElem_cons hlt]
        rw [List.getElem?_eq_getElem hlt] at hd
        rw [Option.some.inj hd]
      rw [hdrop] at w2
      refine .inr ⟨go, fun H3 => ∃ h3, TX K H1 H3 ∧ HR K H3 h3 ∧ dLcGo G g tt te D (wipeD τ vs) Q (items.drop (i + 1)) h3, fun H3 ⟨h3, a1, a2, a3⟩ => ⟨items.length - (i + 1), by omega, h3, rfl, hlt, a1, a2, a3⟩, fun x H3 y3 => ?_⟩
      obtain ⟨x3, hr3, r3⟩ := f3 x H3 y3
      have q := own x (wipe σ vs) H3 _ (lg d x (wipeD τ vs) (wipe σ vs) h' H3 _ (fun σ4 H4 => t0 σ4 H4 fun b H5 => if b = true then e0 σ4 H5 fun y H6 => ∃ acc, H6 D = some (.lst acc) ∧ acc.length < sizeLine ∧ (fun H3 => ∃ h3, TX K H1 H3 ∧ HR K H3 h3 ∧ dLcGo G g tt te D (wipeD τ vs) Q (items.drop (i + 1)) h3) (upd H6 D (.lst (acc ++ [y]))) else (fun H3 => ∃ h3, TX K H1 H3 ∧ HR K H3 h3 ∧ dLcGo G g tt te D (wipeD τ vs) Q (items.drop (i + 1)) h3) H5) r3 ((rs_wipe (rs.mono (x1.trans (x2.trans x3))) vs)) hr3 (fun τ4 σ4 h4 H4 x4 rs4 hr4 w4 => ?_) w2.2)
      · rw [wipe_wipe] at q
        exact q
      · refine lt τ4 σ4 h4 H4 _ _ rs4 hr4 (fun b h5 H5 x5 hr5 w5 => ?_) w4
        cases b with
        | false => have w5 := kf w5; exact ⟨h5, (x2.trans x3).trans (x4.trans x5), hr5, w5⟩
        | true =>
          have w5 := kt w5
          refine le τ4 σ4 h5 H5 _ _ (rs4.mono x5) hr5 (fun y h6 v H6 x6 r6 hr6 w6 => ?_) w5
          have w6 : (match lstO (h6 D) with | some acc => acc.length < sizeLine ∧ dLcGo G g tt te D (wipeD τ vs) Q (items.drop (i + 1)) (hupd h6 D (.lst (acc ++ [y]))) | none => False) := w6
          cases z : lstO (h6 D) with
          | none => rw [z] at w6; exact w6.elim
          | some acc =>
            rw [z] at w6
            obtain ⟨us, s, q⟩ := hr6 _ _ (lstO_of z)
            have x7 := tx_lst (K := K) (o := .lst (us ++ [v])) s
            exact ⟨us, s, by rw [← q.length]; exact w6.1, _, (x2.trans x3).trans (x4.trans (x5.trans (x6.trans x7))), hr6.put x7 (ro_lst x7 (q.append (rvs_cons' r6 rvs_nil'))), w6.2⟩
    · have e : i = items.length := by omega
      subst e
      rw [List.drop_length] at w2
      exact .inl ⟨f1 (Nat.le_refl _), bw _ h' _ H' (x1.trans x2) rv_loc' hr2 w2.2⟩) w
abbrev Blks (X : Cx) (scope : Scope) (P : Cx → Prop) : Prop := ∀ (s : Shared) (H : Hp) (C : Addr) (cl : List (Str × Addr)) (fp : List Addr), P (X.blk s H scope (compEnvC scope cl C X.env) fp)
theorem blk_any {scope : Scope} {Q : Prop} (f : ∀ (s : Shared) (H : Hp) (C : Addr) (cl : List (Str × Addr)) (fp : List Addr), Q) (s : Shared) : Q := f s (fun _ => none) 0 [] []
theorem xlc {elt tg iter : Expr} {ifs : List Expr} {scope : Scope} {own : List (Str × Nat)} {pos : Pos} {w0 : TI} {di : DI} {g0 : TG} {g : DTG} {t0 : TT} {tt : DT} {e0 : TE} {te : DE} (hc : X.calm = true) (hN : X.N.Nodup) (hi : XI X K tg iter w0 di) (ok : BlkOk X.N X.env.scope scope own)
    (hg : ∀ (s : Shared) (H : Hp) (C : Addr) (cl : List (Str × Addr)) (fp : List Addr), XG (X.blk s H scope (compEnvC scope cl C X.env) fp) K tg g0 g) (ho : Own (own.map (·.2)) g0) (ht : ∀ (s : Shared) (H : Hp) (C : Addr) (cl : List (Str × Addr)) (fp : List Addr), XTs (X.blk s H scope (compEnvC scope cl C X.env) fp) K ifs t0 tt) (he : ∀ (s : Shared) (H : Hp) (C : Addr) (cl : List (Str × Addr)) (fp : List Addr), XE (X.blk s H scope (compEnvC scope cl C X.env) fp) K elt e0 te) (hs : ∀ x, foldedSetIterable iter X.env x = pure x := by intro _; rfl) :
    XE X K (.ListComp elt [⟨tg, iter, ifs, 0⟩] scope pos) (tLc w0 g0 t0 e0 (own.map (·.2))) (dLc di g tt te (own.map (·.2))) :=
  ⟨pe_lc hc hN hi.p ok (fun s H C cl fp => (hg s H C cl fp).p) (fun s H C cl fp => (ht s H C cl fp).p) (fun s H C cl fp => (he s H C cl fp).p) hs,
   le_lc hi.l (hg X.s_0 X.H_0 0 [] []).l ho (ht X.s_0 X.H_0 0 [] []).l (he X.s_0 X.H_0 0 [] []).l⟩
theorem xs_setLc {i : Nat} {y : Str} {py : Pos} {elt tg iter : Expr} {ifs : List Expr} {scope : Scope} {own : List (Str × Nat)} {pos spos : Pos} {w0 : TI} {di : DI} {g0 : TG} {g : DTG} {t0 : TT} {tt : DT} {e0 : TE} {te : DE} (hc : X.calm = true) (hN : X.N.Nodup)
    (hi : XI X K tg iter w0 di) (ok : BlkOk X.N X.env.scope scope own) (hg : ∀ (s : Shared) (H : Hp) (C : Addr) (cl : List (Str × Addr)) (fp : List Addr), XG (X.blk s H scope (compEnvC scope cl C X.env) fp) K tg g0 g) (ho : Own (own.map (·.2)) g0) (ht : ∀ (s : Shared) (H : Hp) (C : Addr) (cl : List (Str × Addr)) (fp : List Addr), XTs (X.blk s H scope (compEnvC scope cl C X.env) fp) K ifs t0 tt) (he : ∀ (s : Shared) (H : Hp) (C : Addr) (cl : List (Str × Addr)) (fp : List Addr), XE (X.blk s H scope (compEnvC scope cl C X.env) fp) K elt e0 te)
    (hy : X.N[i]? = some y := by rfl) (hyl : X.env.scope.names.lookup y = some .local := by rfl)
    (hsw : swapsWith (.ListComp elt [⟨tg, iter, ifs, 0⟩] scope pos) (some (.Name y py)) spos.line X.env = pure true := by exact sw_true rfl rfl rfl (by decide +kernel)) (hs : ∀ x, foldedSetIterable iter X.env x = pure x := by intro _; rfl) :
    XS X K (.Assign [.Name y py] (.ListComp elt [⟨tg, iter, ifs, 0⟩] scope pos) spos) (tAsg (tLc w0 g0 t0 e0 (own.map (·.2))) (gName i)) (dAsg (dLc di g tt te (own.map (·.2))) (gdName i)) :=
  ⟨ps_setLc hc hN hy hyl hsw hi.p ok (fun s H C cl fp => (hg s H C cl fp).p) (fun s H C cl fp => (ht s H C cl fp).p) (fun s H C cl fp => (he s H C cl fp).p) hs,
   ls_asg (le_lc hi.l (hg X.s_0 X.H_0 0 [] []).l ho (ht X.s_0 X.H_0 0 [] []).l (he X.s_0 X.H_0 0 [] []).l) (lg_name i)⟩
end
end DL

set_option Elab.async false
set_option linter.all false
set_option maxRecDepth 100000
/-! DL6: defs, calls, built-in functions. -/
namespace DL
open PySem PySem.Spec PyProof.Rows L2

/-! ### room, with nothing being shown -/
structure RoomG (k : Nat) (A : Around) : Prop where
  r : Room k A
  g : A.guards = some []
theorem RoomG.mono {j k : Nat} {A : Around} (r : RoomG k A) (h : j ≤ k) : RoomG j A := ⟨r.r.mono h, r.g⟩
theorem RoomG.hu {k : Nat} {A : Around} (r : RoomG k A) : A.units + 64 < cLine := r.r.units
theorem RoomG.hu1 {k : Nat} {A : Around} (r : RoomG k A) : A.units + 1 < cLine := by have := r.r.units; omega
structure FnG (P : Program) (w : World) (K : PySem.W.Frag) (mg : Str → Option Value) (base : Heap) (CX : CXT) (k : Nat) (f : Addr) (fd : FuncData) (ps : List Str) (sp : Sp) : Prop where
  len : ∀ vs H Q E, sp vs H Q E → vs.length = ps.length
  run : ∀ (A : Around) (outer : List Env) (s : Shared) (H : Hp) (args : Args) (us : List Value) (vs : List V) (Q : VK) (E : XK), RoomG k A → Env0 P w K mg base A outer s H → BindsTo s fd args (ps.zip us) → Vals vs us → sp vs H Q E →
    codeAny (model P w) A (.call (.ref f) args) (CR CX outer P w H s Q E) s
section
variable {P : Program} {w : World} {K : PySem.W.Frag} {mg : Str → Option Value} {base : Heap} {CX : CXT}
theorem FnG.mono {j k : Nat} {f : Addr} {fd : FuncData} {ps : List Str} {sp : Sp} (F : FnG P w K mg base CX j f fd ps sp) (h : j ≤ k) : FnG P w K mg base CX k f fd ps sp :=
  ⟨F.len, fun A outer s H args us vs Q E hr => F.run A outer s H args us vs Q E (hr.mono h)⟩

/-- what a body's run leaves, for the caller -/
theorem body_end {N : List Str} {qual : Str} {scope : Scope} {f : Addr} {cdv : Value} {A : Around} {outer : List Env} {s s' : Shared} {H : Hp} {Q : VK} {E : XK} {fl : Flow}
    (q : SP (cxOf CX P w K mg base N qual scope f cdv A outer s H E) [] { nx := fun _ H' => Q .non H', rt := Q } fl s') :
    match fl with
    | .ret u => CE outer P w H s Q u s'
    | .next => CE outer P w H s Q .none s'
    | _ => False := by
  cases fl with
  | ret u =>
    obtain ⟨v, _, H', J, rv, q⟩ := q
    exact ⟨v, H', J.os, J.bare, J.base, J.hok, rv, q⟩
  | next =>
    obtain ⟨_, H', J, q⟩ := q
    exact ⟨V.non, H', J.os, J.bare, J.base, J.hok, rfl, q⟩
  | brk => obtain ⟨_, _, _, q⟩ := q; exact q
  | cont => obtain ⟨_, _, _, q⟩ := q; exact q
theorem Fun.okG {x qual : Str} {st : Stmt} {f : Addr} {fd : FuncData} {N ps : List Str} {k : Nat} {sp : Sp} (F : Fun K x qual st f fd) (S : FnScope N ps (defScope st)) (len : ∀ vs H Q E, sp vs H Q E → vs.length = ps.length)
    (hbody : ∀ (cdv : Value) (A : Around) (outer : List Env) (s : Shared) (H : Hp) (vs : List V) (Q : VK) (E : XK), RoomG k (A.deeper (envOfC qual (defScope st) s.heap.objs.size f cdv)) → sp vs H Q E →
      ∃ t, PSs (cxOf CX P w K mg base N qual (defScope st) f cdv A outer s H E) (defBody st) t ∧ t { nx := fun _ H' => Q .non H', rt := Q } (L2.start N vs) H) : FnG P w K mg base CX (k + 1) f fd ps sp := by
  obtain ⟨oc, od, kV, doc, pm, an, cdv, ct, osl, e, lk, hcd⟩ := F.ex
  subst e
  refine ⟨len, fun A outer s H args us vs Q E hr e0 hb r hsp => ?_⟩
  have there : ∀ b o, base.get? b = some o → s.heap.get? b = some o := fun b o q => (e0.bs b o q).1
  have KX : K.In s.heap := e0.mod.kin.keeps there
  have lens := len vs H Q E hsp
  refine codeAny_call_function hr.r.depth (KX _ _ lk) rfl S.co S.gen rfl (PySem.W.codeRec_of KX hcd) (hb _ _ _ _ (wpAny_newFunctionEnv_cells S.kind (fun y hy => ?_) fun env he s1 x1 => ?_))
  · cases S.par y.1 (List.of_mem_zip hy).1 with
    | inl q => exact .inl q
    | inr q => exact .inr ⟨q, PySem.W.cellsFrom_some _ _ _ (.inl q)⟩
  · subst he
    obtain ⟨t, ht, hq⟩ := hbody cdv A outer s H vs Q E ⟨hr.r.deeper _, hr.g⟩ hsp
    refine ⟨(e0.mod.nolimit.keeps there).keeps x1.toInCall.keep, codeAny_func (wpAny_mono (ht.run [] s1 (L2.start N vs) H _ (inv_start S hr.r.hd e0 lens r x1) hq) (fun fl s' hs => ?_) fun _ _ hs => hs)⟩
    have q := body_end hs
    cases fl with
    | ret u => exact q
    | next => exact q
    | brk => exact (show False from q).elim
    | cont => exact (show False from q).elim
end

section
variable {X : Cx} {K : PySem.W.Frag} {CX : CXT} {k : Nat} {f : Addr} {fd : FuncData} {ps : List Str} {sp : Sp} {dvs : List V} {ds : List Value} {E : XK} {x : Str} {p pos : Pos} {e : Expr} {es : List Expr} {ta : TA}
theorem runG {pins : List (Addr × Obj)} {σ : L2.St} {H : Hp} {s : Shared} {Q : VK} {us : List Value} {vs : List V} (F : FnG X.prog X.w X.K X.mg X.base CX k f fd ps sp) (hr : RoomG k X.A) (hb : Binds X.K fd ps ds) (hd : Vals dvs ds) (hx : Passes CX X E)
    (I : Inv X pins σ H s) (r : Vals vs us) (h : sp (vs ++ dvs) H Q E) : wpAny (model X.prog X.w) X.A (call (.ref f) us) (EP X pins σ Q) X.xe s := by
  have all : Vals (vs ++ dvs) (us ++ ds) := r.append hd
  have lens : (us ++ ds).length = ps.length := all.length.symm.trans (F.len _ _ _ _ h)
  refine wpAny_call (codeAny_mono (F.run X.A X.stack s H ⟨us, []⟩ _ _ Q E hr I.env0 (hb s us I.kIn lens) all h) fun res s' hq => ?_)
  match res, hq with
  | .error err, hq => exact hx pins σ H s err s' I hq
  | .ok (.ret u), hq => exact I.after hq
theorem peG_call (F : FnG X.prog X.w X.K X.mg X.base CX k f fd ps sp) (hr : RoomG k X.A) (hg : Gl X x) (hm : X.mg x = some (.ref f)) (hk : PySem.W.keepIn X.K (.ref f) = true) (hb : Binds X.K fd ps ds) (hd : Vals dvs ds) (hx : Passes CX X E)
    (ha : PA X (e :: es) ta) (hdb : (x == ("__debug__" : Str)) = false := by decide) (he : starEach (e :: es) X.env = (false, eval e X.env) :: starEach es X.env := by rfl) (hpl : (backTo pos (starEach es X.env)).any (·.1) = false := by rfl) :
    PE X (.Call (.Name x p) (e :: es) [] pos) (tCall sp dvs E ta) := ⟨fun pins s σ H Q I h => wpAny_Call_Name_kw (ld_glob I hg hm
      (PySem.W.callWith_K (h₀ := X.base) I.ok.mod.kin hk (thn (ha.run pos pins s σ H _ I h) fun us s1 ⟨vs, H1, I1, r, q⟩ => ⟨I1.kIn, runG F hr hb hd hx I1 r q⟩) he hpl) hdb)⟩
theorem peG_call0 (F : FnG X.prog X.w X.K X.mg X.base CX k f fd ps sp) (hr : RoomG k X.A) (hg : Gl X x) (hm : X.mg x = some (.ref f)) (hk : PySem.W.keepIn X.K (.ref f) = true) (hb : Binds X.K fd ps ds) (hd : Vals dvs ds) (hx : Passes CX X E)
    (hdb : (x == ("__debug__" : Str)) = false := by decide) : PE X (.Call (.Name x p) [] [] pos) (tCall sp dvs E tNil) := ⟨fun pins s σ H Q I h => wpAny_Call_Name_kw (ld_glob I hg hm (PySem.W.callWith_K0 I.kIn hk (runG (us := []) F hr hb hd hx I .nil h)) hdb)⟩
end

/-! ### a def over trees -/
def spD (K : PySem.W.Frag) (n : Nat) (f : DC) : Sp := fun vs H Q _ => vs.length = n ∧ ∃ ds h Qd, RVs K H ds vs ∧ HR K H h ∧ Bw K H Qd Q ∧ f ds h Qd
def runD (m : Nat) (b : DS) : DC := fun ds h Q => b { nx := fun _ h => Q .non h, rt := Q } (ds.map some ++ List.replicate (m - ds.length) none) h
def dCall (n : Nat) (f : DC) (a : DA) : DE := fun τ h Q => a τ h fun ds h1 => ds.length = n ∧ f ds h1 Q
section
variable {K : PySem.W.Frag}
theorem rs_start {H : Hp} {N : List Str} {ds : List D} {vs : List V} (r : RVs K H ds vs) : RS K H (ds.map some ++ List.replicate (N.length - ds.length) none) (L2.start N vs) := by
  unfold L2.start
  have hl := r.length
  refine ⟨by simp [hl], fun i d e => ?_⟩
  by_cases hi : i < ds.length
  · rw [List.getElem?_append_left (by simpa using hi), List.getElem?_map] at e
    cases z : ds[i]? with
    | none => rw [z] at e; cases e
    | some d0 =>
      rw [z] at e
      cases e
      obtain ⟨v, h1, h2⟩ := r.get z
      exact ⟨v, by rw [List.getElem?_append_left (by simpa [← hl] using hi), List.getElem?_map, h1]; rfl, h2⟩
  · rw [List.getElem?_append_right (by simpa using hi), List.getElem?_replicate] at e
    split at e <;> cases e
theorem le_call {n : Nat} {f : DC} {ta : TA} {da : DA} {E : XK} (la : LA K ta da) : LE K (tCall (spD K n f) [] E ta) (dCall n f da) := fun τ σ h H Q Q0 rs hr bw w =>
  la τ σ h H _ _ rs hr (fun ds h1 vs H1 x1 r1 hr1 w1 => ⟨by rw [List.append_nil, ← r1.length]; exact w1.1, ds, h1, Q, by rw [List.append_nil]; exact r1, hr1, bw.mono x1, w1.2⟩) w
end
section
variable {X : Cx} {K : PySem.W.Frag} {CX : CXT} {k : Nat} {f : Addr} {fd : FuncData} {ps : List Str} {n : Nat} {M : DC} {E : XK} {x : Str} {p pos : Pos} {e : Expr} {es : List Expr} {ta : TA} {da : DA}
theorem xcall (F : FnG X.prog X.w X.K X.mg X.base CX k f fd ps (spD X.K n M)) (hr : RoomG k X.A) (hm : X.mg x = some (.ref f)) (hk : PySem.W.keepIn X.K (.ref f) = true) (hb : Binds X.K fd ps []) (hx : Passes CX X E) (ha : XA X K (e :: es) ta da) (hg : Gl X x := by rfl)
    (hdb : (x == ("__debug__" : Str)) = false := by decide) (he : starEach (e :: es) X.env = (false, eval e X.env) :: starEach es X.env := by rfl) (hpl : (backTo pos (starEach es X.env)).any (·.1) = false := by rfl) (hK : X.K = K := by rfl) :
    XE X K (.Call (.Name x p) (e :: es) [] pos) (tCall (spD K n M) [] E ta) (dCall n M da) := by
  subst hK
  exact ⟨peG_call F hr hg hm hk hb .nil hx ha.p hdb he hpl, le_call ha.l⟩
theorem xcall0 (F : FnG X.prog X.w X.K X.mg X.base CX k f fd ps (spD X.K n M)) (hr : RoomG k X.A) (hm : X.mg x = some (.ref f)) (hk : PySem.W.keepIn X.K (.ref f) = true) (hb : Binds X.K fd ps []) (hx : Passes CX X E) (hg : Gl X x := by rfl)
    (hdb : (x == ("__debug__" : Str)) = false := by decide) (hK : X.K = K := by rfl) : XE X K (.Call (.Name x p) [] [] pos) (tCall (spD K n M) [] E tNil) (dCall n M dNil) := by
  subst hK
  exact ⟨peG_call0 F hr hg hm hk hb .nil hx hdb, le_call (fun τ σ h H Q Q0 rs hr bw w => bw [] h [] H TX.refl rvs_nil' hr w)⟩
end
/-- a def of the text, by its body's derivation -/
theorem okD {P : Program} {w : World} {K : PySem.W.Frag} {mg : Str → Option Value} {base : Heap} {qn qual : Str} {st : Stmt} {f : Addr} {fd : FuncData} {N ps : List Str} {k m n : Nat} {b : DS} (F : Fun K qn qual st f fd) (S : FnScope N ps (defScope st)) (hn : ps.length = n) (hm : N.length = m)
    (hbody : ∀ (cdv : Value) (A : Around) (outer : List Env) (s : Shared) (H : Hp) (E : XK), RoomG k (A.deeper (envOfC qual (defScope st) s.heap.objs.size f cdv)) →
      ∃ t0, XSs (cxOf CX0 P w K mg base N qual (defScope st) f cdv A outer s H E).nox K (defBody st) t0 b) : FnG P w K mg base CX0 (k + 1) f fd ps (spD K n (runD m b)) := by
  refine Fun.okG F S (fun vs H Q E h => h.1.trans hn.symm) (fun cdv A outer s H vs Q E hr h => ?_)
  obtain ⟨hl, ds, h0, Qd, r, hr0, bw, w1⟩ := h
  obtain ⟨t0, xs⟩ := hbody cdv A outer s H E hr
  refine ⟨t0, xs.p.nox, xs.l _ _ h0 H { nx := fun _ h => Qd .non h, rt := Qd } _ (rs_start r) hr0 ⟨fun τ' σ' h' H' x1 _ hr1 w2 => bw _ _ _ _ x1 rv_non' hr1 w2, bw, fun _ _ _ _ _ _ _ w2 => w2.elim, fun _ _ _ _ _ _ _ w2 => w2.elim⟩ ?_⟩
  rw [hm]
  exact w1

/-! ### built-in functions -/
def dCB (q : DC) (a : DA) : DE := fun τ h Q => a τ h fun ds h1 => q ds h1 Q
section
variable {X : Cx} {K : PySem.W.Frag} {x : Str} {p pos : Pos} {e : Expr} {es : List Expr} {ta : TA} {da : DA} {id T : String} {r : List V → Hp → VK → Prop} {q : DC}
theorem le_cb (lc : LC K r q) (la : LA K ta da) : LE K (tCB r ta) (dCB q da) := fun τ σ h H Q Q0 rs hr bw w =>
  la τ σ h H _ _ rs hr (fun ds h1 vs H1 x1 r1 hr1 w1 => lc ds vs h1 H1 Q Q0 r1 hr1 (bw.mono x1) w1) w
theorem xcallB (o : CallR X (.builtin id) r ∧ LC K r q) (hm : X.mg x = none) (ha : XA X K (e :: es) ta da) (hv : bootBuiltins x = some (.builtin id) := by decide +kernel) (hg : Gl X x := by rfl) (hn : x ≠ "__name__" := by decide) (hdb : (x == ("__debug__" : Str)) = false := by decide)
    (he : starEach (e :: es) X.env = (false, eval e X.env) :: starEach es X.env := by rfl) (hpl : (backTo pos (starEach es X.env)).any (·.1) = false := by rfl) : XE X K (.Call (.Name x p) (e :: es) [] pos) (tCB r ta) (dCB q da) := ⟨pe_callB o.1 hg hm hv ha.p hn hdb he hpl, le_cb o.2 ha.l⟩
theorem xcallT (o : CallR X (.type T) r ∧ LC K r q) (hm : X.mg x = none) (ha : XA X K (e :: es) ta da) (hv : bootBuiltins x = some (.type T) := by decide +kernel) (hg : Gl X x := by rfl) (hn : x ≠ "__name__" := by decide) (hdb : (x == ("__debug__" : Str)) = false := by decide)
    (he : starEach (e :: es) X.env = (false, eval e X.env) :: starEach es X.env := by rfl) (hpl : (backTo pos (starEach es X.env)).any (·.1) = false := by rfl) : XE X K (.Call (.Name x p) (e :: es) [] pos) (tCB r ta) (dCB q da) := ⟨pe_callTy o.1 hg hm hv ha.p hn hdb he hpl, le_cb o.2 ha.l⟩

/-- one argument, by what it is -/
def bOne (f : DH → D → Option D) : DC := fun ds h Q => match ds with
  | [d] => need (f h d) h Q
  | _ => False
theorem one_of {f : DH → D → Option D} {ds : List D} {h : DH} {Q : DK} (w : bOne f ds h Q) : ∃ d v, ds = [d] ∧ f h d = some v ∧ Q v h := by
  match ds, w with
  | [d], w => exact ⟨d, (need_of w).choose, rfl, (need_of w).choose_spec.1, (need_of w).choose_spec.2⟩
theorem rvs_one {H : Hp} {d : D} {vs : List V} (r : RVs K H [d] vs) : ∃ v, vs = [v] ∧ RV K H d v := by
  obtain ⟨x, xs, e, q, s⟩ := rvs_cons r
  rw [rvs_nil s] at e
  exact ⟨x, e, q⟩
theorem rvs_two {H : Hp} {d d2 : D} {vs : List V} (r : RVs K H [d, d2] vs) : ∃ v v2, vs = [v, v2] ∧ RV K H d v ∧ RV K H d2 v2 := by
  obtain ⟨x, xs, e, q, s⟩ := rvs_cons r
  obtain ⟨y, e2, q2⟩ := rvs_one s
  rw [e2] at e
  exact ⟨x, y, e, q, q2⟩
def lenO : Option DO → Option D
  | some (.lst xs) => some (.int xs.length)
  | some (.dK xs) => some (.int xs.length)
  | _ => none
def lenD (h : DH) : D → Option D
  | .tup xs => some (.int xs.length)
  | .ktp xs => some (.int xs.length)
  | .fls xs => some (.int xs.length)
  | .str z => if z.length ≤ sizeLine then some (.int z.length) else none
  | .loc a => lenO (h a)
  | _ => none
def rLenU (K : PySem.W.Frag) : List V → Hp → VK → Prop := fun xs H Q => (∃ p ys, xs = [.ref p] ∧ (SqL K H p ys ∨ SqT K H p ys) ∧ Q (.int ys.length) H) ∨ ((∃ z, xs = [.str z] ∧ z.length ≤ sizeLine ∧ Q (.int z.length) H) ∨ ∃ a kvs, xs = [.ref a] ∧ H a = some (.dK kvs) ∧ Q (.int kvs.length) H)
end
end DL

set_option Elab.async false
set_option linter.all false
set_option maxRecDepth 100000
/-! DL7: built-in functions and methods. -/
namespace DL
open PySem PySem.Spec PyProof.Rows L2
section
variable {X : Cx} {K : PySem.W.Frag}
theorem q_len (hK : X.K = K := by rfl) : CallR X (.builtin "len") (rLenU K) ∧ LC K (rLenU K) (bOne lenD) := ⟨by subst hK; exact call_len_seq.or (call_len_str.or call_lenD), fun ds vs h H Q Q0 r hr bw w => by
  obtain ⟨d, v, e, z, w⟩ := one_of w
  subst e
  obtain ⟨x, e1, r1⟩ := rvs_one r
  subst e1
  cases d with
  | tup xs =>
    obtain ⟨a, vs, e2, s, q⟩ := rv_tup r1
    cases z
    refine .inl ⟨a, vs, by rw [e2], .inr (.inl (.inl s)), ?_⟩
    rw [← q.length]
    exact bw _ h _ H TX.refl rv_int' hr w
  | ktp xs =>
    obtain ⟨a, vs, e2, s, q⟩ := rv_ktp r1
    cases z
    refine .inl ⟨a, vs, by rw [e2], .inr s.t, ?_⟩
    rw [← q.length]
    exact bw _ h _ H TX.refl rv_int' hr w
  | fls xs =>
    obtain ⟨a, vs, e2, s, q⟩ := rv_fls r1
    cases z
    refine .inl ⟨a, vs, by rw [e2], .inl s.l, ?_⟩
    rw [← q.length]
    exact bw _ h _ H TX.refl rv_int' hr w
  | str y =>
    have z : (if y.length ≤ sizeLine then some (D.int y.length) else none) = some v := z
    by_cases hl : y.length ≤ sizeLine
    · rw [if_pos hl] at z
      cases z
      exact .inr (.inl ⟨y, by rw [rv_str r1], hl, bw _ h _ H TX.refl rv_int' hr w⟩)
    · rw [if_neg hl] at z; cases z
  | loc a =>
    have z : lenO (h a) = some v := z
    cases ha : h a with
    | none => rw [ha] at z; cases z
    | some o =>
      rw [ha] at z
      cases o with
      | lst xs =>
        obtain ⟨us, s, q⟩ := hr _ _ ha
        cases z
        refine .inl ⟨a, us, by rw [rv_loc r1], .inl (.inl (.inl s)), ?_⟩
        rw [← q.length]
        exact bw _ h _ H TX.refl rv_int' hr w
      | dK xs =>
        obtain ⟨us, s, q⟩ := hr _ _ ha
        cases z
        refine .inr (.inr ⟨a, us, by rw [rv_loc r1], s, ?_⟩)
        rw [← rkv_length q]
        exact bw _ h _ H TX.refl rv_int' hr w
      | _ => cases z
  | _ => cases z⟩
def absD (_ : DH) : D → Option D
  | .int i => some (.int (if i < 0 then -i else i))
  | _ => none
theorem q_abs : CallR X (.builtin "abs") (fun xs H Q => ∃ i, xs = [.int i] ∧ Q (.int (if i < 0 then -i else i)) H) ∧ LC K (fun xs H Q => ∃ i, xs = [.int i] ∧ Q (.int (if i < 0 then -i else i)) H) (bOne absD) := ⟨call_abs, fun ds vs h H Q Q0 r hr bw w => by
  obtain ⟨d, v, e, z, w⟩ := one_of w
  subst e
  obtain ⟨x, e1, r1⟩ := rvs_one r
  subst e1
  cases d with
  | int i =>
    cases z
    exact ⟨i, by rw [rv_int r1], bw _ h _ H TX.refl rv_int' hr w⟩
  | _ => cases z⟩
def intD (_ : DH) : D → Option D
  | .int i => some (.int i)
  | .bl k => some (.int (if k then 1 else 0))
  | _ => none
def rInt1 : List V → Hp → VK → Prop := fun xs H Q => (∃ i, xs = [.int i] ∧ Q (.int i) H) ∨ ∃ k, xs = [.bl k] ∧ Q (.int (if k then 1 else 0)) H
theorem q_int : CallR X (.type "int") rInt1 ∧ LC K rInt1 (bOne intD) := ⟨call_int1, fun ds vs h H Q Q0 r hr bw w => by
  obtain ⟨d, v, e, z, w⟩ := one_of w
  subst e
  obtain ⟨x, e1, r1⟩ := rvs_one r
  subst e1
  cases d with
  | int i =>
    cases z
    exact .inl ⟨i, by rw [rv_int r1], bw _ h _ H TX.refl rv_int' hr w⟩
  | bl k =>
    cases z
    exact .inr ⟨k, by rw [rv_bl r1], bw _ h _ H TX.refl rv_int' hr w⟩
  | _ => cases z⟩
/-- min, max: two ints, or a list of ints -/
def intsD : List D → Option (List Int)
  | [] => some []
  | .int i :: ds => (intsD ds).map (i :: ·)
  | _ :: _ => none
theorem intsD_eq : ∀ {ds : List D} {ns : List Int}, intsD ds = some ns → ds = ns.map D.int
  | [], ns, e => by cases e; rfl
  | .int i :: ds, ns, e => by
    obtain ⟨ms, e1, e2⟩ := Option.map_eq_some_iff.mp (show (intsD ds).map (i :: ·) = some ns from e)
    subst e2
    rw [intsD_eq e1]; rfl
theorem intsD_map : ∀ ns : List Int, intsD (ns.map D.int) = some ns
  | [] => rfl
  | n :: ns => by show (intsD (ns.map D.int)).map (n :: ·) = _; rw [intsD_map ns]; rfl
def bMin : DC := fun ds h Q => match ds with
  | [.int i, .int j] => Q (.int (if j < i then j else i)) h
  | [d] => (match (seqD h d).bind intsD with
    | some ns => 0 < ns.length ∧ ∀ m, m ∈ ns → (∀ y, y ∈ ns → m ≤ y) → Q (.int m) h
    | none => False)
  | _ => False
def bMax : DC := fun ds h Q => match ds with
  | [.int i, .int j] => Q (.int (if j > i then j else i)) h
  | [d] => (match (seqD h d).bind intsD with
    | some ns => 0 < ns.length ∧ ∀ m, m ∈ ns → (∀ y, y ∈ ns → y ≤ m) → Q (.int m) h
    | none => False)
  | _ => False
theorem seqD_v {d : D} {v : V} {h : DH} {H : Hp} {xs : List D} (hr : HR K H h) (r : RV K H d v) (e : seqD h d = some xs) : ∃ a vs, v = .ref a ∧ SqL K H a vs ∧ RVs K H xs vs := by
  cases d with
  | loc a =>
    obtain ⟨vs, s, q⟩ := hr _ _ (lstO_of (show lstO (h a) = some xs from e))
    exact ⟨a, vs, rv_loc r, .inl (.inl s), q⟩
  | fls ys =>
    cases e
    obtain ⟨a, vs, e1, s, q⟩ := rv_fls r
    exact ⟨a, vs, e1, s.l, q⟩
  | _ => cases e
theorem ints_v {d : D} {v : V} {h : DH} {H : Hp} {ns : List Int} (hr : HR K H h) (r : RV K H d v) (e : (seqD h d).bind intsD = some ns) : ∃ a, v = .ref a ∧ SqL K H a (ns.map V.int) := by
  obtain ⟨xs, e1, e2⟩ := Option.bind_eq_some_iff.mp e
  obtain ⟨a, vs, e3, s, q⟩ := seqD_v hr r e1
  rw [intsD_eq e2] at q
  rw [q.ints] at s
  exact ⟨a, e3, s⟩
def rMinU (K : PySem.W.Frag) : List V → Hp → VK → Prop := fun xs H Q => (∃ i j, xs = [.int i, .int j] ∧ Q (.int (if j < i then j else i)) H) ∨ rMin K xs H Q
def rMaxU (K : PySem.W.Frag) : List V → Hp → VK → Prop := fun xs H Q => (∃ i j, xs = [.int i, .int j] ∧ Q (.int (if j > i then j else i)) H) ∨ rMax K xs H Q
theorem q_min (hc : X.calm = true) (hK : X.K = K := by rfl) : CallR X (.builtin "min") (rMinU K) ∧ LC K (rMinU K) bMin := ⟨by subst hK; exact (call_min2 hc).or (cr_min hc), fun ds vs h H Q Q0 r hr bw w => by
  match ds, w, r with
  | [.int i, .int j], w, r =>
    obtain ⟨x, y, e, r1, r2⟩ := rvs_two r
    exact .inl ⟨i, j, by rw [e, rv_int r1, rv_int r2], bw _ h _ H TX.refl rv_int' hr w⟩
  | [d], w, r =>
    obtain ⟨x, e1, r1⟩ := rvs_one r
    have w : (match (seqD h d).bind intsD with | some ns => 0 < ns.length ∧ ∀ m, m ∈ ns → (∀ y, y ∈ ns → m ≤ y) → Q (.int m) h | none => False) := by cases d <;> exact w
    cases z : (seqD h d).bind intsD with
    | none => rw [z] at w; exact w.elim
    | some ns =>
      rw [z] at w
      obtain ⟨a, e2, s⟩ := ints_v hr r1 z
      exact .inr ⟨a, ns, by rw [e1, e2], s, w.1, fun m h1 h2 => bw _ h _ H TX.refl rv_int' hr (w.2 m h1 h2)⟩⟩
theorem q_max (hc : X.calm = true) (hK : X.K = K := by rfl) : CallR X (.builtin "max") (rMaxU K) ∧ LC K (rMaxU K) bMax := ⟨by subst hK; exact (call_max2 hc).or (cr_max hc), fun ds vs h H Q Q0 r hr bw w => by
  match ds, w, r with
  | [.int i, .int j], w, r =>
    obtain ⟨x, y, e, r1, r2⟩ := rvs_two r
    exact .inl ⟨i, j, by rw [e, rv_int r1, rv_int r2], bw _ h _ H TX.refl rv_int' hr w⟩
  | [d], w, r =>
    obtain ⟨x, e1, r1⟩ := rvs_one r
    have w : (match (seqD h d).bind intsD with | some ns => 0 < ns.length ∧ ∀ m, m ∈ ns → (∀ y, y ∈ ns → y ≤ m) → Q (.int m) h | none => False) := by cases d <;> exact w
    cases z : (seqD h d).bind intsD with
    | none => rw [z] at w; exact w.elim
    | some ns =>
      rw [z] at w
      obtain ⟨a, e2, s⟩ := ints_v hr r1 z
      exact .inr ⟨a, ns, by rw [e1, e2], s, w.1, fun m h1 h2 => bw _ h _ H TX.refl rv_int' hr (w.2 m h1 h2)⟩⟩
def sumD (h : DH) (d : D) : Option D := ((seqD h d).bind intsD).map fun ns => .int ns.sum
theorem q_sum (hc : X.calm = true) (hK : X.K = K := by rfl) : CallR X (.builtin "sum") (rSum K) ∧ LC K (rSum K) (bOne sumD) := ⟨by subst hK; exact cr_sum hc, fun ds vs h H Q Q0 r hr bw w => by
  obtain ⟨d, v, e, z, w⟩ := one_of w
  subst e
  obtain ⟨x, e1, r1⟩ := rvs_one r
  obtain ⟨ns, z1, z2⟩ := Option.map_eq_some_iff.mp z
  subst z2
  obtain ⟨a, e2, s⟩ := ints_v hr r1 z1
  exact ⟨a, ns, by rw [e1, e2], s, bw _ h _ H TX.refl rv_int' hr w⟩⟩
/-- tuple(a list), list(a list or a tuple) -/
def isTup : D → Option (List D)
  | .tup xs => some xs
  | _ => none
def bTup : DC := fun ds h Q => match ds with
  | [d] => (match (isTup d).or (seqD h d) with
    | some xs => Q (.tup xs) h
    | none => False)
  | _ => False
def rTupU (K : PySem.W.Frag) : List V → Hp → VK → Prop := fun xs H Q => ∃ p ys, xs = [.ref p] ∧ ((SqL K H p ys ∧ ∀ l, H l = none → Q (.ref l) (upd H l (.tup ys))) ∨ (SqT K H p ys ∧ Q (.ref p) H))
theorem q_tup (hK : X.K = K := by rfl) : CallR X (.type "tuple") (rTupU K) ∧ LC K (rTupU K) bTup := ⟨by subst hK; exact call_tuple_of, fun ds vs h H Q Q0 r hr bw w => by
  match ds, w, r with
  | [d], w, r =>
    obtain ⟨x, e1, r1⟩ := rvs_one r
    have w : (match (isTup d).or (seqD h d) with | some xs => Q (.tup xs) h | none => False) := w
    cases d with
    | tup xs =>
      obtain ⟨a, vs, e2, s, q⟩ := rv_tup r1
      exact ⟨a, vs, by rw [e1, e2], .inr ⟨.inl (.inl s), bw _ h _ H TX.refl (rv_tup' s q) hr w⟩⟩
    | loc b =>
      have w : (match seqD h (.loc b) with | some xs => Q (.tup xs) h | none => False) := w
      cases z : seqD h (.loc b) with
      | none => rw [z] at w; exact w.elim
      | some xs =>
        rw [z] at w
        obtain ⟨a, vs, e2, s, q⟩ := seqD_v hr r1 z
        exact ⟨a, vs, by rw [e1, e2], .inl ⟨s, fun p hp => bw_tup hr bw hp q w⟩⟩
    | fls ys =>
      obtain ⟨a, vs, e2, s, q⟩ := seqD_v hr r1 (show seqD h (.fls ys) = some ys from rfl)
      exact ⟨a, vs, by rw [e1, e2], .inl ⟨s, fun p hp => bw_tup hr bw hp q w⟩⟩
    | _ => exact w.elim⟩
def anyD (h : DH) : D → Option (List D)
  | .tup xs => some xs
  | .ktp xs => some xs
  | d => seqD h d
def bList : DC := fun ds h Q => match ds with
  | [d] => (match anyD h d with
    | some xs => ∀ p, h p = none → Q (.loc p) (hupd h p (.lst xs))
    | none => False)
  | _ => False
def rListU (K : PySem.W.Frag) : List V → Hp → VK → Prop := fun xs H Q => ∃ p ys, xs = [.ref p] ∧ (SqL K H p ys ∨ SqT K H p ys) ∧ ∀ l, H l = none → Q (.ref l) (upd H l (.lst ys))
theorem anyD_v {d : D} {v : V} {h : DH} {H : Hp} {xs : List D} (hr : HR K H h) (r : RV K H d v) (e : anyD h d = some xs) : ∃ a vs, v = .ref a ∧ (SqL K H a vs ∨ SqT K H a vs) ∧ RVs K H xs vs := by
  cases d with
  | tup ys => cases e; obtain ⟨a, vs, e2, s, q⟩ := rv_tup r; exact ⟨a, vs, e2, .inr (.inl (.inl s)), q⟩
  | ktp ys => cases e; obtain ⟨a, vs, e2, s, q⟩ := rv_ktp r; exact ⟨a, vs, e2, .inr s.t, q⟩
  | loc b => obtain ⟨a, vs, e2, s, q⟩ := seqD_v hr r e; exact ⟨a, vs, e2, .inl s, q⟩
  | fls b => obtain ⟨a, vs, e2, s, q⟩ := seqD_v hr r e; exact ⟨a, vs, e2, .inl s, q⟩
  | _ => cases e
theorem q_list (hK : X.K = K := by rfl) : CallR X (.type "list") (rListU K) ∧ LC K (rListU K) bList := ⟨by subst hK; exact call_list_of, fun ds vs h H Q Q0 r hr bw w => by
  match ds, w, r with
  | [d], w, r =>
    obtain ⟨x, e1, r1⟩ := rvs_one r
    have w : (match anyD h d with | some xs => ∀ p, h p = none → Q (.loc p) (hupd h p (.lst xs)) | none => False) := w
    cases z : anyD h d with
    | none => rw [z] at w; exact w.elim
    | some xs =>
      rw [z] at w
      obtain ⟨a, vs, e2, s, q⟩ := anyD_v hr r1 z
      exact ⟨a, vs, by rw [e1, e2], s, fun p hp => bw_new hr bw hp (ro_lst (tx_new hp) q) (w p)⟩⟩

/-! ### repr -/
def rRepr (K : PySem.W.Frag) : List V → Hp → VK → Prop := fun xs H Q => ∃ x p, xs = [x] ∧ Dp K H x p ∧ p.hasDict = false ∧ p.showable = true ∧ p.depth ≤ 50 ∧ p.shown.length ≤ sizeLine ∧ Q (.str p.shown) H
theorem call_repr (hg : X.A.guards = some []) (hu : X.A.units + 64 < cLine) : CallR X (.builtin "repr") (rRepr X.K) := by
  intro pins s σ H xs us Q I r h
  obtain ⟨x, p, rfl, dp, nd, sh, hd, hz, q⟩ := h
  obtain ⟨u, e, ru⟩ : ∃ u, us = [u] ∧ RelV x u := by
    cases r with
    | cons r rr => cases rr; exact ⟨_, rfl, r⟩
  subst e
  obtain ⟨as, rd⟩ := Dp.reads I p x u dp ru
  have fin : ∀ h' w' tk, (∀ b o, s.heap.get? b = some o → h'.get? b = some o) → EP X pins σ Q (.str p.shown w') { s with heap := h', toks := tk } := fun h' w' tk k => ⟨.str p.shown, H, I.kept k, ⟨_, rfl⟩, q⟩
  have same : ∀ b o, s.heap.get? b = some o → s.heap.get? b = some o := fun _ _ z => z
  cases dp with
  | non =>
    cases (show u = Value.none from ru)
    refine PySem.P.repr_of_none ?_
    have e : (PyData.none).shown = "None" := by simp [PyData.shown]
    rw [← e]; exact fin _ _ _ same
  | bl b =>
    cases (show u = Value.bool b from ru)
    refine PySem.P.repr_of_bool ?_
    have e : (PyData.bool b).shown = (if b = true then ("True" : Str) else ("False" : Str)) := by simp [PyData.shown]
    rw [← e]; exact fin _ _ _ same
  | int i =>
    obtain ⟨t, e⟩ := (show ∃ t, u = Value.int i t from ru)
    subst e
    refine PySem.P.repr_of_int (by simpa [PyData.showable] using sh) ?_
    have e : (PyData.int i).shown = toString i := by simp [PyData.shown]
    rw [← e]; exact fin _ _ _ same
  | str y =>
    obtain ⟨t, e⟩ := (show ∃ t, u = Value.str y t from ru)
    subst e
    have e : (PyData.str y).shown = reprText y := by simp [PyData.shown]
    refine PySem.P.repr_of_str ?_ (by rw [← e]; exact hz)
    rw [← e]; exact fin _ _ _ same
  | lst hs ha =>
    cases (show u = Value.ref _ from ru)
    exact repr_of_reads' rd sh (PyData.noDict_hsm nd) hg (by omega) same (fun h' u tk k => fin h' u tk k) hz
  | tup hs ha =>
    cases (show u = Value.ref _ from ru)
    exact repr_of_reads' rd sh (PyData.noDict_hsm nd) hg (by omega) same (fun h' u tk k => fin h' u tk k) hz
def bRepr : DC := fun ds h Q => match ds with
  | [d] => ∃ p, PD h d p ∧ p.showable = true ∧ p.depth ≤ 50 ∧ p.shown.length ≤ sizeLine ∧ Q (.str p.shown) h
  | _ => False
theorem q_repr {k : Nat} (hr : RoomG k X.A) (hK : X.K = K := by rfl) : CallR X (.builtin "repr") (rRepr K) ∧ LC K (rRepr K) bRepr := ⟨by subst hK; exact call_repr hr.g hr.hu, fun ds vs h H Q Q0 r hr bw w => by
  match ds, w, r with
  | [d], ⟨p, pd, a1, a2, a3, w⟩, r =>
    obtain ⟨x, e1, r1⟩ := rvs_one r
    exact ⟨x, p, e1, pd.dp hr r1, pd.noDict, a1, a2, a3, bw _ h _ H TX.refl rv_str' hr w⟩⟩

/-! ### methods of lists -/
def dAppend (a : DE) (b : DE) : DE := fun τ h Q => a τ h fun x h1 => match x with
  | .loc l => (∃ xs, h1 l = some (.lst xs)) ∧ b τ h1 fun y h2 => (match lstO (h2 l) with
    | some xs => xs.length < sizeLine ∧ Q .non (hupd h2 l (.lst (xs ++ [y])))
    | none => False)
  | _ => False
theorem lm_append {ta te : TE} {da de : DE} (la : LE K ta da) (le : LE K te de) : LE K (tBM K "list" rAppend ta (tCons te tNil)) (dAppend da de) := fun τ σ h H Q Q0 rs hr bw w =>
  la τ σ h H _ _ rs hr (fun x h1 v H1 x1 r1 hr1 w1 => by
    cases x with
    | loc l =>
      obtain ⟨⟨xs0, hl⟩, w1⟩ := w1
      obtain ⟨vs0, s0, q0⟩ := hr1 _ _ hl
      have e := rv_loc r1
      subst e
      refine ⟨Or.inl ⟨rfl, _, Or.inl (Or.inl s0)⟩, ?_⟩
      refine le τ σ h1 H1 _ _ (rs.mono x1) hr1 (fun y h2 u H2 x2 r2 hr2 w2 => ?_) w1
      have w2 : (match lstO (h2 l) with | some xs => xs.length < sizeLine ∧ Q .non (hupd h2 l (.lst (xs ++ [y]))) | none => False) := w2
      cases z : lstO (h2 l) with
      | none => rw [z] at w2; exact w2.elim
      | some xs =>
        rw [z] at w2
        obtain ⟨vs, s, q⟩ := hr2 _ _ (lstO_of z)
        have x3 := tx_lst (K := K) (o := .lst (vs ++ [u])) s
        exact ⟨l, vs, u, rfl, rfl, s, by rw [← q.length]; exact w2.1, bw _ _ _ _ (x1.trans (x2.trans x3)) rv_non' (hr2.put x3 (ro_lst x3 (q.append (rvs_cons' r2 rvs_nil')))) w2.2⟩
    | _ => exact w1.elim) w
end
end DL

set_option Elab.async false
set_option linter.all false
set_option maxRecDepth 100000
set_option maxHeartbeats 2000000
/-! DL8: sorted(set(tuples of ints)). -/
namespace DL
open PySem PySem.Spec PyProof.Rows PyProof.Rows.G L2

/-! ### the order of int lists -/
theorem lex_ints : ∀ as bs : List Int, PyProof.Rows.lexLt itemOrd (as.map Sum.inl) (bs.map Sum.inl) = HT.lexLt as bs := by
  intro as
  induction as with
  | nil => intro bs; cases bs <;> rfl
  | cons a as ih =>
    intro bs
    cases bs with
    | nil => rfl
    | cons b bs =>
      rw [HT.lexLt_cons, List.map_cons, List.map_cons]
      by_cases h : a = b
      · subst h
        rw [if_pos rfl, lex_self]
        exact ih bs
      · rw [if_neg h, lex_diff (fun z => h (Sum.inl.inj z))]
        rfl
def shI : Nat → Bool := fun _ => false
theorem items_ints : ∀ {vs : List Value} {ns : List Int} (i : Nat), IntsAre vs ns → tupItems shI i vs = some (ns.map Sum.inl)
  | [], ns, i, h => by cases h; rfl
  | v :: vs, ns, i, h => by
    cases h with
    | cons n t r =>
      show (if shI i = true then none else (tupItems shI (i + 1) _).map (Sum.inl n :: ·)) = _
      rw [if_neg (show ¬ shI i = true from Bool.false_ne_true), items_ints (i + 1) r]
      rfl
section
variable {P : Program} {w : World} {A : Around} {E : Value → Shared → Prop} {s : Shared}
theorem key_ints {h : Heap} {k : List Int} {a : Addr} (x : IsT P w h k a) : tupKeyC h shI (.ref a) = some (k.map Sum.inl) := by
  obtain ⟨o, items, n, ho, hc, hd, hi⟩ := x
  have e1 : isTupObj h (.ref a) = true := by unfold isTupObj; simp [ho, hc]
  unfold tupKeyC
  rw [if_pos e1]
  unfold tupKey
  simp only [ho, hd]
  exact items_ints 0 (ints_of_items hi)
theorem tup_first {h : Heap} {k : List Int} {a : Addr} (x : IsT P w h k a) (hk : k ≠ []) : ∃ f, TupOf h shI (.ref a) f := by
  obtain ⟨o, items, n, ho, hc, hd, hi⟩ := x
  have hi := ints_of_items hi
  obtain ⟨l⟩ := items
  cases hi with
  | nil => exact absurd rfl hk
  | cons m t r => exact ⟨_, a, o, _, n, rfl, ho, hc, hd, rfl, fun _ => ⟨m, t, rfl⟩, fun z => absurd z (by decide)⟩
theorem tups_first {h : Heap} : ∀ vs : List Value, (∀ v ∈ vs, ∃ f, TupOf h shI v f) → ∃ fs, TupsOf h shI vs fs
  | [], _ => ⟨[], .nil⟩
  | v :: vs, q => by
    obtain ⟨f, hf⟩ := q v List.mem_cons_self
    obtain ⟨fs, hfs⟩ := tups_first vs fun u hu => q u (List.mem_cons_of_mem _ hu)
    exact ⟨f :: fs, .cons hf hfs⟩
/-- values that are the addresses of rows of L come from a list of rows -/
theorem rows_back {L : List (Addr × List Int)} : ∀ vs : List Value, (∀ v ∈ vs, ∃ q ∈ L, v = Value.ref q.1) → ∃ M : List (Addr × List Int), vs = M.map (fun q => Value.ref q.1) ∧ ∀ q ∈ M, q ∈ L
  | [], _ => ⟨[], rfl, fun _ h => nomatch h⟩
  | v :: vs, hv => by
    obtain ⟨q, hq, e⟩ := hv v List.mem_cons_self
    obtain ⟨M, e2, hM⟩ := rows_back vs fun u hu => hv u (List.mem_cons_of_mem _ hu)
    exact ⟨q :: M, by rw [List.map_cons, e, e2], fun r hr => (List.mem_cons.mp hr).elim (fun z => z ▸ hq) (hM r)⟩
theorem nodup_of_map' {α β : Type} {f : α → β} : ∀ {l : List α}, (l.map f).Nodup → l.Nodup
  | [], _ => List.nodup_nil
  | a :: l, h => by
    rw [List.map_cons] at h
    obtain ⟨h1, h2⟩ := List.nodup_cons.mp h
    exact List.nodup_cons.mpr ⟨fun q => h1 (List.mem_map.mpr ⟨a, q, rfl⟩), nodup_of_map' h2⟩
theorem rows_perm {L M : List (Addr × List Int)} (nL : L.Nodup) (one : ∀ q ∈ L, ∀ r ∈ L, q.1 = r.1 → q = r) (hM : ∀ q ∈ M, q ∈ L) (pm : (M.map fun q => Value.ref q.1).Perm (L.map fun q => Value.ref q.1)) : M.Perm L := by
  have nr : (L.map fun q => Value.ref q.1).Nodup := List.pairwise_map.mpr (List.Pairwise.imp_of_mem (fun {q r} hq hr hne e => hne (one q hq r hr (by injection e))) nL)
  have nM : M.Nodup := nodup_of_map' (pm.nodup_iff.mpr nr)
  refine (List.perm_ext_iff_of_nodup nM nL).mpr fun q => ⟨hM q, fun hq => ?_⟩
  obtain ⟨r, hr, e⟩ := List.mem_map.mp (pm.mem_iff.mpr (List.mem_map.mpr ⟨q, hq, rfl⟩))
  have e2 : r = q := one r (hM r hr) q hq (by injection e)
  rw [← e2]; exact hr
theorem sort_set {a : Addr} {L : List (Addr × List Int)} {es : Array (Int × Value)} {ep : Nat} {t : SetTable} {Q : Value → Shared → Prop} (R : SetTR P w s.heap a L es ep t) (hh : A.handled = none) (hne : ∀ p ∈ L, p.2 ≠ [])
    (hQ : ∀ s' p c (M : List (Addr × List Int)), (∀ b o, s.heap.get? b = some o → s'.heap.get? b = some o) → s'.gens = s.gens → s'.os = s.os → s.heap.objs.size ≤ p →
      s'.heap.get? p = some (seqObj "list" (M.map fun q => Value.ref q.1).toArray c) → M.Perm L → M.Pairwise (fun q r => HT.lexLt q.2 r.2 = true) → Q (.ref p) s') : wpAny (model P w) A (call (.builtin "sorted") [.ref a]) Q E s := by
  obtain ⟨o, ho, hex, hd⟩ := R.ob
  have few := R.few
  refine Calls.call_function_entry kind_sorted plain_sorted entry_sorted (args_sorted1 _) ?_
  unfold Builtin.«sorted»
  refine wpAny_bind (m := checkCount "sorted" 1 1 _) (wpAny_pure (wpAny_bind (collect_set (A := A.in1) hh ⟨o, ho, hex.1, hd⟩ R.fits (by unfold scanBound; have := R.size; omega) R.tab.ris R.led fun s1 vs k1 hz g1 o1 pm => ?_)))
  have hes : es.toList.map (·.2) = L.map fun q => Value.ref q.1 := by
    rw [R.rows]
    show (L.map _).map _ = _
    rw [List.map_map]; rfl
  rw [hes] at pm
  have nL : L.Nodup := nodup_of_map R.nd
  have one : ∀ q ∈ L, ∀ r ∈ L, q.1 = r.1 → q = r := fun q hq r hr e => by
    have a1 := R.tup q hq
    rw [e] at a1
    exact Prod.ext e (a1.inj (R.tup r hr))
  have lenv : vs.length < 64 := by rw [pm.length_eq, List.length_map]; exact few
  refine wpAny_bind (wpAny_newList ?_ (by rw [sizeLine_eq]; omega))
  have hoL : (s1.heap.push (seqObj "list" vs.toArray 0)).get? s1.heap.objs.size = some (seqObj "list" vs.toArray 0) := Heap.get?_push_size _ rfl
  have keep : ∀ b u, s.heap.get? b = some u → (s1.heap.push (seqObj "list" vs.toArray 0)).get? b = some u := fun b u e => Heap.get?_push_of_some _ (k1 b u e)
  have isT : ∀ q ∈ L, IsT P w (s1.heap.push (seqObj "list" vs.toArray 0)) q.2 q.1 := fun q hq => isT_keep (R.tup q hq) keep
  have row : ∀ v ∈ vs, ∃ q ∈ L, v = Value.ref q.1 := fun v hv => by
    obtain ⟨q, hq, e⟩ := List.mem_map.mp (pm.mem_iff.mp hv)
    exact ⟨q, hq, e.symm⟩
  obtain ⟨fs, hfs⟩ := tups_first (h := s1.heap.push (seqObj "list" vs.toArray 0)) vs fun v hv => by
    obtain ⟨q, hq, e⟩ := row v hv
    rw [e]
    exact tup_first (isT q hq) (hne q hq)
  have hkey : ∀ v, v ∈ vs → ∃ l, tupKeyC (s1.heap.push (seqObj "list" vs.toArray 0)) shI v = some l := fun v hv => by
    obtain ⟨q, hq, e⟩ := row v hv
    exact ⟨_, by rw [e]; exact key_ints (isT q hq)⟩
  refine wpAny_bind (wpAny_holding (wpAny_call_entry slot_list_sort ⟨_, hoL, rfl⟩ entry_list_sort (list_sort_tups (s := { s1 with heap := s1.heap.push (seqObj "list" vs.toArray 0) }) hoL hfs hkey (by rw [sizeLine_eq]; omega) fun st b1 b2 b3 => ⟨_, rfl, ?_⟩) (args_list_sort _)))
  -- what the sort gives
  have same : ∀ p ∈ (arrOf st).toList, p.1 = p.2 := fun p hp => by
    have hm : p ∈ (pairsOf vs).toList := (Array.Perm.toList b1).mem_iff.mp hp
    rw [pairsOf_toList] at hm
    exact (mem_zip_self hm).1
  have pv : ((arrOf st).toList.map (·.2)).Perm vs := by
    have q := (Array.Perm.toList b1).map (fun p : Value × Value => p.2)
    rw [pairsOf_toList] at q
    have e : (vs.zip vs).map (fun p : Value × Value => p.2) = vs := List.map_snd_zip (Nat.le_refl _)
    rw [e] at q
    exact q
  obtain ⟨M, eM, hM⟩ := rows_back (L := L) ((arrOf st).toList.map (·.2)) fun v hv => row v (pv.mem_iff.mp hv)
  have pL : M.Perm L := rows_perm nL one hM (by rw [← eM]; exact pv.trans pm)
  have hout : ((arrOf st).map (·.2)) = (M.map fun q => Value.ref q.1).toArray := Array.ext' (by rw [Array.toList_map]; exact eM)
  have pw : M.Pairwise (fun q r => HT.lexLt q.2 r.2 = true) := by
    have lenM : M.length = (arrOf st).toList.length := by
      have := congrArg List.length eM
      simpa using this.symm
    have lenA : (arrOf st).toList.length = (pairsOf vs).size := by simpa using b1.size_eq
    have kk : ∀ (i : Nat) (hi : i < M.length), KK (tupKindC (s1.heap.push (seqObj "list" vs.toArray 0)) shI) (arrOf st) i = (M[i]).2.map Sum.inl := fun i hi => by
      have hi2 : i < (arrOf st).toList.length := by omega
      have g1 : (arrOf st)[i]? = some ((arrOf st).toList[i]) := by
        rw [← Array.getElem?_toList]; exact List.getElem?_eq_getElem hi2
      have g2 : ((arrOf st).toList[i]).2 = Value.ref (M[i]).1 := by
        have e := congrArg (fun l : List Value => l[i]?) eM
        simp only [List.getElem?_map, List.getElem?_eq_getElem hi2, List.getElem?_eq_getElem hi] at e
        exact Option.some.inj e
      have g3 := same _ (List.getElem_mem hi2)
      unfold KK
      rw [g1]
      show ((tupKeyC _ shI ((arrOf st).toList[i]).1)).getD _ = _
      rw [g3, g2, key_ints (isT _ (hM _ (List.getElem_mem hi)))]
      rfl
    refine List.pairwise_iff_getElem.mpr fun i j hi hj hij => ?_
    have le := b2 i j (by omega) (by omega)
    rw [kk i hi, kk j hj] at le
    have le2 : HT.lexLt (M[j]).2 (M[i]).2 = false := by rw [← lex_ints]; exact le
    have ne : (M[i]).2 ≠ (M[j]).2 := by
      have nd : (M.map (·.2)).Nodup := (pL.map _).nodup_iff.mpr R.nd
      have q := List.pairwise_iff_getElem.mp nd i j (by simpa using hi) (by simpa using hj) hij
      simpa using q
    cases z : HT.lexLt (M[i]).2 (M[j]).2 with
    | true => rfl
    | false =>
      rw [← lex_ints] at z le2
      have e := lex_total _ _ z le2
      exact absurd ((List.map_inj_right fun _ _ q => Sum.inl.inj q).mp e) ne
  obtain ⟨c, hc⟩ := sortedHeap_at (vs := vs) (out := (arrOf st).map (·.2)) hoL
  refine wpAny_pure ⟨_, rfl, hQ _ s1.heap.objs.size c M (fun b u e => ?_) g1 o1 hz (by
    show (sortedHeap (s1.heap.push (seqObj "list" vs.toArray 0)) s1.heap.objs.size vs ((arrOf st).map (·.2))).get? _ = _
    rw [hc, hout]) pL pw⟩
  have q := k1 b u e
  have hlt := Heap.lt_size q
  show (sortedHeap (s1.heap.push (seqObj "list" vs.toArray 0)) s1.heap.objs.size vs _).get? b = some u
  rw [sortedHeap_old (Nat.ne_of_lt hlt) (by rw [size_push']; exact Nat.lt_succ_of_lt hlt)]
  exact Heap.get?_push_of_some _ q
end

/-! ### sorted(set(xs)), xs a list of tuples of ints -/
def rSortSet (K : PySem.W.Frag) (P : Program) (w : World) : List V → Hp → VK → Prop := fun vs H Q => ∃ (a : Addr) (L : List (Addr × List Int)), vs = [V.ref a] ∧ H a = some (SetTO P w a L) ∧ (∀ p ∈ L, SqT K H p.1 (p.2.map V.int)) ∧ (∀ p ∈ L, p.2 ≠ []) ∧
  ∀ (M : List (Addr × List Int)) (p : Addr), M.Perm L → M.Pairwise (fun q r => HT.lexLt q.2 r.2 = true) → M.length < 64 → H p = none → Q (.ref p) (upd H p (.lst (M.map fun q => V.ref q.1)))
theorem vals_refsM : ∀ M : List (Addr × List Int), Vals (M.map fun q => V.ref q.1) (M.map fun q => Value.ref q.1)
  | [] => .nil
  | q :: M => .cons rfl (vals_refsM M)
theorem cr_sortSet {X : Cx} (hc : X.calm = true) : CallR X (.builtin "sorted") (rSortSet X.K X.prog X.w) := by
  intro pins s σ H vs us Q I r h
  obtain ⟨a, L, rfl, hs, ht, hne, q⟩ := h
  rw [Vals.ref1 r]
  have o : SetT0 X.prog X.w s.heap a L := (show ObjOk X.prog X.w H s.heap a (SetTO X.prog X.w a L) from I.hok a _ hs).1
  obtain ⟨es, ep, t, R⟩ := o.full fun p hp => I.isT (ht p hp)
  refine sort_set R (I.ok.hd hc) hne fun s' p c M k g o hz hp pm pw => ?_
  have hn : H p = none := I.hok.fresh hz
  have lenM : M.length < 64 := by rw [pm.length_eq]; exact R.few
  obtain ⟨h', g', d', t', o'⟩ := s'
  have e1 : g' = s.gens := g
  have e2 : o' = s.os := o
  subst e1 e2
  have hz2 : (M.map fun q => V.ref q.1).length ≤ sizeLine := by rw [List.length_map, sizeLine_eq]; omega
  refine ⟨.ref p, upd H p (.lst (M.map fun q => V.ref q.1)), ?_, rfl, q M p pm pw lenM hn⟩
  exact I.call (ch := []) (h' := h') (g' := s.gens) (d' := d') (t' := t') (Un.laid k hz hn) (I.hok.laid k hz ⟨hz2, _, c, vals_refsM M, hp⟩) I.bare (fun _ z => nomatch z)

def tupI (k : List Int) : D := .tup (k.map D.int)
def tupD : D → Option (List Int)
  | .tup ds => intsD ds
  | _ => none
def tupsD : List D → Option (List (List Int))
  | [] => some []
  | d :: ds => match tupD d, tupsD ds with
    | some k, some ks => some (k :: ks)
    | _, _ => none
theorem tupD_eq {d : D} {k : List Int} (e : tupD d = some k) : d = tupI k := by
  cases d with
  | tup ds => unfold tupI; rw [intsD_eq (show intsD ds = some k from e)]
  | _ => cases e
theorem tupsD_v {K : PySem.W.Frag} {H : Hp} : ∀ {ds : List D} {ks : List (List Int)} {vs : List V}, tupsD ds = some ks → RVs K H ds vs → ∃ rows : List (Addr × List Int), rows.map (·.2) = ks ∧ vs = rows.map (fun p => V.ref p.1) ∧ ∀ p ∈ rows, H p.1 = some (.tup (p.2.map V.int))
  | [], ks, vs, e, r => by cases e; exact ⟨[], rfl, rvs_nil r, fun _ h => nomatch h⟩
  | d :: ds, ks, vs, e, r => by
    obtain ⟨x, xs, e1, r1, r2⟩ := rvs_cons r
    unfold tupsD at e
    cases h1 : tupD d with
    | none => rw [h1] at e; cases e
    | some k =>
      cases h2 : tupsD ds with
      | none => rw [h1, h2] at e; cases e
      | some kr =>
        rw [h1, h2] at e
        cases e
        obtain ⟨rows, q1, q2, q3⟩ := tupsD_v h2 r2
        rw [tupD_eq h1] at r1
        obtain ⟨a, us, e3, s, q⟩ := rv_tup r1
        rw [q.ints] at s
        refine ⟨(a, k) :: rows, by rw [List.map_cons, q1], by rw [List.map_cons, e1, e3, q2], fun p hp => ?_⟩
        rcases List.mem_cons.mp hp with z | z
        · subst z; exact s
        · exact q3 p z
def dSortSet (t : DE) : DE := fun τ h Q => t τ h fun x h1 => match (seqD h1 x).bind tupsD with
  | some ks => (ks.length < 64 ∧ ∀ k ∈ ks, k ≠ []) ∧ ∀ (ms : List (List Int)) (p : Addr), (∀ k, k ∈ ms ↔ k ∈ ks) → ms.Pairwise (fun a b => HT.lexLt a b = true) → h1 p = none → Q (.loc p) (hupd h1 p (.lst (ms.map tupI)))
  | none => False
section
variable {X : Cx} {K : PySem.W.Frag} {e : Expr} {te : TE} {de : DE} {p1 p2 p3 p4 : Pos}
theorem rvs_rows {K : PySem.W.Frag} {H : Hp} : ∀ rows : List (Addr × List Int), (∀ p ∈ rows, H p.1 = some (.tup (p.2.map V.int))) → RVs K H ((rows.map (·.2)).map tupI) (rows.map fun p => V.ref p.1)
  | [], _ => rvs_nil'
  | q :: rows, h => rvs_cons' (rv_tup' (h q List.mem_cons_self) (rvs_ints _)) (rvs_rows rows fun p hp => h p (List.mem_cons_of_mem _ hp))
theorem xsortset (hc : X.calm = true) (hu : X.A.units + 64 < cLine) (he : XE X K e te de) (hm : X.mg "sorted" = none) (hm2 : X.mg "set" = none) (hg : Gl X "sorted" := by rfl) (hg2 : Gl X "set" := by rfl)
    (h1 : starEach [e] X.env = [(false, eval e X.env)] := by rfl) (h2 : starEach [.Call (.Name "set" p3) [e] [] p4] X.env = [(false, eval (.Call (.Name "set" p3) [e] [] p4) X.env)] := by rfl) (hK : X.K = K := by rfl) :
    XE X K (.Call (.Name "sorted" p1) [.Call (.Name "set" p3) [e] [] p4] [] p2) (tCB (rSortSet X.K X.prog X.w) (tCons (tCB (rSetOfT X.K X.prog X.w) (tCons te tNil)) tNil)) (dSortSet de) := by
  subst hK
  refine ⟨pe_callB (cr_sortSet hc) hg hm (by decide +kernel) (pa_cons (pe_callTy (cr_setOfT hc hu) hg2 hm2 (by decide +kernel) (pa_cons he.p pa_nil h1) (he := h1)) pa_nil h2) (he := h2), fun τ σ h H Q Q0 rs hr bw w => he.l τ σ h H _ _ rs hr (fun x h1 v H1 x1 r1 hr1 w1 => ?_) w⟩
  have w1 : (match (seqD h1 x).bind tupsD with | some ks => (ks.length < 64 ∧ ∀ k ∈ ks, k ≠ []) ∧ ∀ (ms : List (List Int)) (p : Addr), (∀ k, k ∈ ms ↔ k ∈ ks) → ms.Pairwise (fun a b => HT.lexLt a b = true) → h1 p = none → Q (.loc p) (hupd h1 p (.lst (ms.map tupI))) | none => False) := w1
  cases z : (seqD h1 x).bind tupsD with
  | none => rw [z] at w1; exact w1.elim
  | some ks =>
    rw [z] at w1
    obtain ⟨⟨w2, w3⟩, w4⟩ := w1
    obtain ⟨xs, z1, z2⟩ := Option.bind_eq_some_iff.mp z
    obtain ⟨l, vs, e1, s, q⟩ := seqD_v hr1 r1 z1
    obtain ⟨rows, q1, q2, q3⟩ := tupsD_v z2 q
    subst e1 q2
    refine ⟨l, rows, rfl, s, fun p hp => .inl (.inl (q3 p hp)), by rw [← List.length_map (f := (·.2)), q1]; exact w2, fun a L ha hL1 hL2 => ?_⟩
    have xa : TX X.K H1 (upd H1 a (SetTO X.prog X.w a L)) := tx_new ha
    have q3' : ∀ p ∈ rows, (upd H1 a (SetTO X.prog X.w a L)) p.1 = some (.tup (p.2.map V.int)) := fun p hp => xa.1 _ _ (q3 p hp)
    refine ⟨a, L, rfl, upd_same, fun p hp => .inl (.inl (q3' p (hL1 p hp))), fun p hp => w3 _ (by rw [← q1]; exact List.mem_map.mpr ⟨p, hL1 p hp, rfl⟩), fun M p pm pw lenM hp => ?_⟩
    have xp : TX X.K (upd H1 a (SetTO X.prog X.w a L)) (upd (upd H1 a (SetTO X.prog X.w a L)) p (.lst (M.map fun q => V.ref q.1))) := tx_new hp
    have hrA : HR X.K (upd H1 a (SetTO X.prog X.w a L)) h1 := hr1.lay ha
    have hM : ∀ q ∈ M, (upd H1 a (SetTO X.prog X.w a L)) q.1 = some (.tup (q.2.map V.int)) := fun q hq => q3' q (hL1 q (pm.mem_iff.mp hq))
    refine bw _ _ _ _ (x1.trans (xa.trans xp)) rv_loc' (hrA.put xp (ro_lst xp (rvs_rows M hM))) (w4 (M.map (·.2)) p (fun k => ?_) (List.pairwise_map.mpr pw) (hrA.free hp))
    rw [← q1]
    constructor
    · intro hk
      obtain ⟨q, hq, e⟩ := List.mem_map.mp hk
      exact List.mem_map.mpr ⟨q, hL1 q (pm.mem_iff.mp hq), e⟩
    · intro hk
      obtain ⟨q, hq, e⟩ := List.mem_map.mp hk
      obtain ⟨r, hr, e2⟩ := List.mem_map.mp (hL2 q hq)
      exact List.mem_map.mpr ⟨r, pm.mem_iff.mpr hr, e2.trans e⟩
end
end DL

set_option Elab.async false
set_option linter.all false
set_option maxRecDepth 100000
/-! DL9: the end of a law's row. -/
namespace DL
open PySem PySem.Spec PyProof.Rows L2

/-- nothing is tracked but the locked script -/
structure OnlyScript (H : Hp) (a : Addr) : Prop where
  at_ : ∀ b, b ≠ a → H b = none
  is_ : H a = none ∨ ∃ o xs, H a = some (.frz o (.lst xs))
section
variable {P : Program} {w : World} {K : PySem.W.Frag} {mg mb : Str → Option Value} {k : Nat} {fa a : Addr} {fd : FuncData} {x : Str} {sp : Sp} {s : Shared} {vs : List Value} {ns : List Int}
theorem env_at {H : Hp} (on : OnlyScript H a) (hK : H a ≠ none → K.lookup a = none) (ok : HOk P w H s.heap) (KX : K.In s.heap) (hns : s.heap.Ns mainGlobals mg) (hb : s.heap.Ns builtinsNs mb) (hbb : ∀ x : Str, x ≠ "__name__" → mb x = bootBuiltins x) (hlim : s.heap.NoLimit)
    (hg : s.gens = #[]) (ha : s.heap.get? a = some { cls := .type "list", data := .seq vs.toArray }) : Env0 P w K mg (hidT s.heap H) callerA [] s H := by
  have free : ∀ {b : Addr} {o : Obj} {es : Array DictEntry} {ep : Nat}, s.heap.get? b = some o → o.data = .dict es ep → H b = none := fun {b o es ep} e d => by
    by_cases z : b = a
    · subst z
      rw [ha] at e; cases e
      exact nomatch (show Data.seq vs.toArray _ = Data.dict es ep from d)
    · exact on.at_ b z
  have ns' : ∀ {b : Addr} {m : Str → Option Value}, s.heap.Ns b m → (hidT s.heap H).Ns b m := fun {b m} ⟨o, es, ep, e, d, r⟩ => ⟨o, es, ep, hidT_get e (free e d), d, r⟩
  have kin : K.In (hidT s.heap H) := fun b o e => hidT_get (KX b o e) (by
    by_cases z : b = a
    · subst z
      cases q : H b with
      | none => rfl
      | some u => rw [hK (by rw [q]; simp)] at e; cases e
    · exact on.at_ b z)
  exact ⟨rfl, ⟨kin, ns' hns, ⟨mb, ns' hb, hbb⟩, let ⟨mc, h1, h2⟩ := hlim; ⟨mc, ns' h1, h2⟩⟩, fun b o e => of_hidT e, Nat.le_of_eq (hidT_size _ _), trivial, (fun b hb => nomatch hb), ok, .of_eq hg⟩
theorem law_at (KX : K.In s.heap) (hns : s.heap.Ns mainGlobals mg) (hb : s.heap.Ns builtinsNs mb) (hbb : ∀ x : Str, x ≠ "__name__" → mb x = bootBuiltins x) (hlim : s.heap.NoLimit) (hg : s.gens = #[])
    (ha : s.heap.get? a = some { cls := .type "list", data := .seq vs.toArray }) (hi : IntsAre vs ns) (hl : ns.length ≤ sizeLine) (hr : RoomG k callerA)
    (F : ∀ base : Heap, K.In base → base.Ns mainGlobals mg → FnG P w K mg base CX0 k fa fd [x] sp) (hbind : ∀ (s : Shared) (u : Value), BindsTo s fd ⟨[u], []⟩ [(x, u)])
    (hsp : ∀ H : Hp, SqF K H a (ns.map V.int) → sp [.ref a] H (fun v _ => v = .bl true) E0) :
    codeAny (model P w) callerA (.call (.ref fa) ⟨[.ref a], []⟩) (fun r s' => r = .ok (.ret (.bool true)) ∧ OldK s.heap s'.heap ∧ s'.os = s.os ∧ AllBare s'.gens) s := by
  have vals := vals_ints hi
  have run : ∀ H : Hp, OnlyScript H a → (H a ≠ none → K.lookup a = none) → HOk P w H s.heap → SqF K H a (ns.map V.int) →
      codeAny (model P w) callerA (.call (.ref fa) ⟨[.ref a], []⟩) (fun r s' => r = .ok (.ret (.bool true)) ∧ OldK s.heap s'.heap ∧ s'.os = s.os ∧ AllBare s'.gens) s := by
    intro H on hK ok sq
    have e0 := env_at on hK ok KX hns hb hbb hlim hg ha
    refine codeAny_mono ((F _ e0.mod.kin e0.mod.glob).run callerA [] s H ⟨[.ref a], []⟩ [.ref a] [.ref a] _ _ hr e0 (hbind s (.ref a)) (.cons rfl .nil) (hsp H sq)) fun r s' q => ?_
    match r, q with
    | .ok (.ret u), ⟨v, H', os, bare, un, ok', rv, ev⟩ =>
      have ev : v = .bl true := ev
      subst ev
      have eu : u = Value.bool true := rv
      subst eu
      refine ⟨rfl, OldK.of_keep fun b o e => ?_, os, bare⟩
      cases hH : H b with
      | none => exact un.keep b o e hH (fun z => (nomatch z)) (fun z => (nomatch z))
      | some u =>
        have hba : b = a := Classical.byContradiction fun z => by rw [on.at_ b z] at hH; cases hH
        subst hba
        rcases on.is_ with z | ⟨ob, xs, z⟩
        · rw [z] at hH; cases hH
        · have e1 := (ok b _ z).1
          have e2 := (ok' b _ (un.frzs b ob _ z)).1
          rw [e] at e1
          rw [e1]; exact e2
  cases hk : K.lookup a with
  | some o =>
    have e := KX a o hk
    rw [ha] at e
    cases e
    exact run (fun _ => none) ⟨fun _ _ => rfl, .inl rfl⟩ (fun z => absurd rfl z) (fun b u z => (nomatch (show (none : Option HO) = some u from z))) (.inr ⟨_, vs.toArray, _, hk, rfl, rfl, rfl, by rw [List.size_toArray, hi.length]; exact hl, by simpa using vals⟩)
  | none =>
    have at_a : (fun b => if b = a then some (HO.frz { cls := .type "list", data := .seq vs.toArray } (.lst (ns.map V.int))) else none) a = some (HO.frz { cls := .type "list", data := .seq vs.toArray } (.lst (ns.map V.int))) := if_pos rfl
    refine run (fun b => if b = a then some (.frz { cls := .type "list", data := .seq vs.toArray } (.lst (ns.map V.int))) else none) ⟨fun b z => if_neg z, .inr ⟨_, _, at_a⟩⟩ (fun _ => hk) (fun b u z => ?_) (.inl ⟨_, at_a⟩)
    by_cases hba : b = a
    · subst hba
      have z := (if_pos rfl).symm.trans z
      cases z
      exact ⟨ha, by rw [List.length_map]; exact hl, vs, _, vals, ha⟩
    · have z := (if_neg hba).symm.trans z
      cases z
end
/-- a law's row, from its reading: on the script's ints it comes to True -/
theorem walkG {l : PySem.W.OpenLaw} {n k m : Nat} {q : Program} {loose : List Str} {XP : (Str → Option Value) → Heap → Prop} {YP : World → Heap → Prop} {d : DefRec} {K : Params → PySem.W.Frag} {x : Str} {b : DS}
    (hn : l.most = some n) (hn2 : n ≤ sizeLine) (hdf : d.params.defaults = []) (hr : RoomG k callerA) (hY : ∀ (w : World) (h : Heap), YP w h → (K w.params).In h)
    (F : ∀ (w : World) (mg : Str → Option Value) (fa : Addr) (h : Heap), (K w.params).In h → h.Ns mainGlobals mg → mg d.name = some (.ref fa) →
      ∃ fd : FuncData, (∀ (s : Shared) (u : Value), BindsTo s fd ⟨[u], []⟩ [(x, u)]) ∧ ∀ base : Heap, (K w.params).In base → base.Ns mainGlobals mg → FnG l.prog w (K w.params) mg base CX0 k fa fd [x] (spD (K w.params) 1 (runD m b)))
    (law : ∀ ns : List Int, ns.length ≤ n → runD m b [.fls (ns.map D.int)] (fun _ => none) fun d _ => d = .bl true) :
    PySem.W.WalkO q loose XP YP l.row.toRowW d [] (fun f vs => PySem.call f vs) := by
  refine Att.attach_call hn hdf fun w s₀ s₁ mg mb fa o pm cd doc a vs ns G Y ho hd hcd hmg hobj hints hlen hg => ?_
  have KX := hY w _ Y
  obtain ⟨fd, hb, hF⟩ := F w mg fa _ KX G.T.g hmg
  refine law_at KX G.T.g G.T.b G.T.builtins G.T.nolimit hg hobj hints (Nat.le_trans hlen hn2) hr hF hb fun H sq => ?_
  exact ⟨rfl, [.fls (ns.map D.int)], fun _ => none, _, rvs_cons' (rv_fls' sq (rvs_ints _)) rvs_nil', (fun a o e => nomatch e), fun d h' v H' _ rv _ e => by subst e; exact rv_bl rv, law ns hlen⟩
end DL

set_option Elab.async false
set_option linter.all false
set_option maxRecDepth 100000
/-! DL10: known defs, short words for the printed derivations. -/
namespace DL
open PySem PySem.Spec PyProof.Rows L2

abbrev dLt : DR2 := dCmp fun i j => decide (i < j)
abbrev dLe : DR2 := dCmp fun i j => decide (i ≤ j)
abbrev dGt : DR2 := dCmp fun i j => decide (j < i)
abbrev dGe : DR2 := dCmp fun i j => decide (j ≤ i)
def dIadd : DR2
  | .int i, .int j, h, Q => Q (.int (i + j)) h
  | _, _, _, _ => False

/-- a def of the module whose reading is known -/
def Known (P : Program) (w : World) (K : PySem.W.Frag) (mg : Str → Option Value) (base : Heap) (x : Str) (k n : Nat) (M : DC) : Prop :=
  ∃ (f : Addr) (fd : FuncData) (ps : List Str), FnG P w K mg base CX0 k f fd ps (spD K n M) ∧ mg x = some (.ref f) ∧ PySem.W.keepIn K (.ref f) = true ∧ Binds K fd ps []
theorem known_of {P : Program} {w : World} {K : PySem.W.Frag} {mg : Str → Option Value} {base : Heap} {x qual : Str} {st : Stmt} {f : Addr} {fd : FuncData} {ps : List Str} {k n : Nat} {M : DC} (F : Fun K x qual st f fd) (hm : mg x = some (.ref f)) (G : FnG P w K mg base CX0 k f fd ps (spD K n M)) (b : Binds K fd ps []) :
    Known P w K mg base x k n M := ⟨f, fd, ps, G, hm, F.kp, b⟩
section
variable {X : Cx} {K : PySem.W.Frag} {x : Str} {k n : Nat} {M : DC} {p pos : Pos} {e : Expr} {es : List Expr} {ta : TA} {da : DA}
theorem xkn (G : Known X.prog X.w X.K X.mg X.base x k n M) (hr : RoomG k X.A) (ha : XA X K (e :: es) ta da) (hg : Gl X x := by rfl) (hK : X.K = K := by rfl)
    (hdb : (x == ("__debug__" : Str)) = false := by decide) (he : starEach (e :: es) X.env = (false, eval e X.env) :: starEach es X.env := by rfl) (hpl : (backTo pos (starEach es X.env)).any (·.1) = false := by rfl) :
    XE X K (.Call (.Name x p) (e :: es) [] pos) (tCall (spD K n M) [] E0 ta) (dCall n M da) := by
  obtain ⟨f, fd, ps, F, hm, hk, hb⟩ := G
  exact xcall F hr hm hk hb pass0 ha hg hdb he hpl hK
theorem xkn0 (G : Known X.prog X.w X.K X.mg X.base x k n M) (hr : RoomG k X.A) (hg : Gl X x := by rfl) (hdb : (x == ("__debug__" : Str)) = false := by decide) (hK : X.K = K := by rfl) :
    XE X K (.Call (.Name x p) [] [] pos) (tCall (spD K n M) [] E0 tNil) (dCall n M dNil) := by
  obtain ⟨f, fd, ps, F, hm, hk, hb⟩ := G
  exact xcall0 F hr hm hk hb pass0 hg hdb hK
/-- constants of the module -/
theorem xgi {i : Int} (c : ∃ t, X.mg x = some (.int i t)) (hg : Gl X x := by rfl) (hd : (x == ("__debug__" : Str)) = false := by decide) : XE X K (.Name x pos) (tC (.int i)) (dC (.int i)) := by
  obtain ⟨t, h⟩ := c
  exact xglob h ⟨t, rfl⟩ (fun _ => rv_int') hg hd
theorem xgs {i : Str} (c : ∃ t, X.mg x = some (.str i t)) (hg : Gl X x := by rfl) (hd : (x == ("__debug__" : Str)) = false := by decide) : XE X K (.Name x pos) (tC (.str i)) (dC (.str i)) := by
  obtain ⟨t, h⟩ := c
  exact xglob h ⟨t, rfl⟩ (fun _ => rv_str') hg hd
theorem q_iadd : OpR X (inplaceOp .Add) (rI0 fun i j => .int (i + j)) ∧ LR2 K (rI0 fun i j => .int (i + j)) dIadd := ⟨iop_add, lrI0 fun x y h Q w => by
  cases x <;> cases y <;> first | exact w.elim | exact ⟨_, _, rfl, rfl, w⟩⟩
variable {a b c : Expr} {tb tc td : TE} {db dc dd : DE}
theorem le_chain {K : PySem.W.Frag} {r r' : R2} {q q' : DR2} (l1 : LR2 K r q) (l2 : LR2 K r' q') (la : LE K tb db) (lb : LE K tc dc) (lc : LE K td dd) : LE K (tChain r r' tb tc td) (dChain q q' db dc dd) := fun τ σ h H Q Q0 rs hr bw w =>
  la τ σ h H _ _ rs hr (fun x h1 v H1 x1 r1 hr1 w1 => lb τ σ h1 H1 _ _ (rs.mono x1) hr1 (fun y h2 u H2 x2 r2 hr2 w2 => l1 x y v u h2 H2 _ _ (RV.mono x2 _ _ r1) r2 hr2 (fun z h3 zv H3 x3 r3 hr3 w3 => by
    cases z with
    | bl k =>
      refine ⟨k, rv_bl r3, ?_⟩
      cases k with
      | true => have w3 := kt w3; exact lc τ σ h3 H3 _ _ (rs.mono (x1.trans (x2.trans x3))) hr3 (fun w4 h4 wv H4 x4 r4 hr4 w5 => l2 y w4 u wv h4 H4 Q Q0 (RV.mono (x3.trans x4) _ _ r2) r4 hr4 (bw.mono (x1.trans (x2.trans (x3.trans x4)))) w5) w3
      | false => have w3 := kf w3; exact bw _ h3 _ H3 (x1.trans (x2.trans x3)) rv_bl' hr3 w3
    | _ => exact w3.elim) w2) w1) w
theorem xchain {op op' : CmpOp} {r r' : R2} {q q' : DR2} (o : OpR X (compareOp op) r ∧ LR2 K r q) (o' : OpR X (compareOp op') r' ∧ LR2 K r' q') (ha : XE X K a tb db) (hb : XE X K b tc dc) (hc : XE X K c td dd)
    (hm : lastMarks [op, op'] [b, c] = false := by with_unfolding_all rfl) : XE X K (.Compare a [op, op'] [b, c] pos) (tChain r r' tb tc td) (dChain q q' db dc dd) := ⟨pe_chain o.1 o'.1 ha.p hb.p hc.p hm, le_chain o.2 o'.2 ha.l hb.l hc.l⟩
theorem xtchain {op op' : CmpOp} {r r' : R2} {q q' : DR2} (o : OpR X (compareOp op) r ∧ LR2 K r q) (o' : OpR X (compareOp op') r' ∧ LR2 K r' q') (ha : XE X K a tb db) (hb : XE X K b tc dc) (hc : XE X K c td dd)
    (hm : lastMarks [op, op'] [b, c] = false := by with_unfolding_all rfl) : XT X K (.Compare a [op, op'] [b, c] pos) (tTest (tChain r r' tb tc td)) (dTest (dChain q q' db dc dd)) := ⟨pt_chain o.1 o'.1 ha.p hb.p hc.p hm, lt_test (le_chain o.2 o'.2 ha.l hb.l hc.l)⟩
theorem xappend {o e : Expr} {to te : TE} {d1 de : DE} {apos cpos : Pos} (ho : XE X K o to d1) (he : XE X K e te de)
    (hbase : attributeBase o "append" X.env (eval o X.env) = eval o X.env := by rfl)
    (hfew : ((backTo cpos (starEach [e] X.env)).all (fun x => !x.1) && (backToKw cpos (keywordEach [] X.env)).all (fun x => x.1.isSome)
      && decide ([e].length + ([] : List Keyword).length + (if ([] : List Keyword).isEmpty then 0 else 1) < 30)) = true := by rfl)
    (hline : (apos.endLine == cpos.line) = true := by rfl) (hs : starEach [e] X.env = (false, eval e X.env) :: starEach [] X.env := by rfl) (hplain : (backTo cpos (starEach [] X.env)).any (·.1) = false := by rfl) (hK : X.K = K := by rfl) :
    XE X K (.Call (.Attribute o "append" apos) [e] [] cpos) (tBM K "list" rAppend to (tCons te tNil)) (dAppend d1 de) :=
  ⟨by subst hK; exact pe_bm PySem.F.plainAttrs_list PySem.F.slot_list_append PySem.F.type_list_append mt_append ho.p (pa_cons he.p pa_nil hs) hbase hfew hline hs hplain, lm_append ho.l he.l⟩
end
theorem mono_tup {K : PySem.W.Frag} {n : Nat} {r : TGs} (m : ∀ v σ H (Q Q' : L2.St → Hp → Prop), (∀ s h, Q s h → Q' s h) → r v σ H Q → r v σ H Q') : ∀ v σ H (Q Q' : L2.St → Hp → Prop), (∀ s h, Q s h → Q' s h) → gTup K n r v σ H Q → gTup K n r v σ H Q' := fun v σ H Q Q' k ⟨a, xs, e, s, l, w⟩ => ⟨a, xs, e, s, l, m _ _ _ _ _ k w⟩
theorem monos_nil : ∀ v σ H (Q Q' : L2.St → Hp → Prop), (∀ s h, Q s h → Q' s h) → gNil v σ H Q → gNil v σ H Q' := fun v σ H Q Q' k w => ⟨w.1, k _ _ w.2⟩
theorem monos_cons {g : TG} {r : TGs} (m1 : ∀ v σ H (Q Q' : L2.St → Hp → Prop), (∀ s h, Q s h → Q' s h) → g v σ H Q → g v σ H Q') (m2 : ∀ v σ H (Q Q' : L2.St → Hp → Prop), (∀ s h, Q s h → Q' s h) → r v σ H Q → r v σ H Q') :
    ∀ v σ H (Q Q' : L2.St → Hp → Prop), (∀ s h, Q s h → Q' s h) → gCons g r v σ H Q → gCons g r v σ H Q' := fun v σ H Q Q' k ⟨x, xs, e, w⟩ => ⟨x, xs, e, m1 _ _ _ _ _ (fun s h w' => m2 _ _ _ _ _ k w') w⟩
end DL

set_option Elab.async false
set_option linter.all false
set_option maxRecDepth 100000
/-! DL11: words that stand still while a reading is stepped through; rules for loops; the bag. -/
namespace DL
open PySem PySem.Spec PyProof.Rows L2

@[irreducible] noncomputable def kFor : DI → DTG → DS → DS := hide dFor
@[irreducible] noncomputable def kWhile : DT → DS → DS := hide dWhile
@[irreducible] noncomputable def kLc : DI → DTG → DT → DE → List Nat → DE := hide dLc
@[irreducible] noncomputable def kLoop : (DH → Prop) → DTG → DS → DEnds → List D → DSt → DH → Prop := hide dLoop
@[irreducible] noncomputable def kGo : (DH → Prop) → DTG → DT → DE → Addr → DSt → DK → List D → DH → Prop := hide dLcGo
def dEqU (neg : Bool) : DR2 := fun x y h Q => dEq neg x y h Q ∨ ∃ s t : Str, x = .str s ∧ y = .str t ∧ Q (.bl (if neg then !decide (s = t) else decide (s = t))) h
@[irreducible] noncomputable def kEq : Bool → DR2 := hide dEqU
theorem kFor_eq {di g tb} : kFor di g tb = dFor di g tb := by unfold kFor; rw [hide_eq]
theorem kWhile_eq {c t} : kWhile c t = dWhile c t := by unfold kWhile; rw [hide_eq]
theorem kLc_eq {di g tt te vs} : kLc di g tt te vs = dLc di g tt te vs := by unfold kLc; rw [hide_eq]
theorem kLoop_eq {G g tb N items τ h} : kLoop G g tb N items τ h = dLoop G g tb N items τ h := by unfold kLoop; rw [hide_eq]
theorem kGo_eq {G g tt te p τ Q items h} : kGo G g tt te p τ Q items h = dLcGo G g tt te p τ Q items h := by unfold kGo; rw [hide_eq]
theorem kEq_eq {neg} : kEq neg = dEqU neg := by unfold kEq; rw [hide_eq]
section
variable {X : Cx} {K : PySem.W.Frag}
theorem dec_strV {s t : Str} : decide (V.str s = V.str t) = decide (s = t) := by simp
theorem qk_eq (hu : X.A.units + 64 < cLine) (hK : X.K = K := by rfl) : OpR X (compareOp .Eq) (fun x y H Q => rEqD K x y H Q ∨ rEq x y H Q) ∧ LR2 K (fun x y H Q => rEqD K x y H Q ∨ rEq x y H Q) (kEq false) := by
  rw [kEq_eq]
  refine ⟨(q_eq hu hK).1.or op_eq, fun d e x y h H Q Q0 r1 r2 hr bw w => ?_⟩
  rcases w with w | ⟨s, t, e1, e2, w⟩
  · exact .inl ((q_eq (X := X) hu hK).2 d e x y h H Q Q0 r1 r2 hr bw w)
  · subst e1 e2
    rw [rv_str r1, rv_str r2]
    refine .inr ⟨rfl, ?_⟩
    rw [dec_strV]
    exact bw _ h _ H TX.refl rv_bl' hr w
theorem qk_ne (hu : X.A.units + 64 < cLine) (hK : X.K = K := by rfl) : OpR X (compareOp .NotEq) (fun x y H Q => rNeD K x y H Q ∨ rNe x y H Q) ∧ LR2 K (fun x y H Q => rNeD K x y H Q ∨ rNe x y H Q) (kEq true) := by
  rw [kEq_eq]
  refine ⟨(q_ne hu hK).1.or op_ne, fun d e x y h H Q Q0 r1 r2 hr bw w => ?_⟩
  rcases w with w | ⟨s, t, e1, e2, w⟩
  · exact .inl ((q_ne (X := X) hu hK).2 d e x y h H Q Q0 r1 r2 hr bw w)
  · subst e1 e2
    rw [rv_str r1, rv_str r2]
    refine .inr ⟨rfl, ?_⟩
    rw [dec_strV]
    exact bw _ h _ H TX.refl rv_bl' hr w
theorem xs_kfor {tg iter : Expr} {body : List Stmt} {w0 : TI} {di : DI} {g0 : TG} {g : DTG} {t0 : TS} {t : DS} {pos : Pos} (hp : PassesOwn (model X.prog X.w) X.A X.env X.xe) (hc : X.calm = true) (hi : XI X K tg iter w0 di) (hg : XG X K tg g0 g) (hb : XSs X K body t0 t)
    (hs : ∀ x, foldedSetIterable iter X.env x = pure x := by intro _; rfl) : XS X K (.For tg iter body [] pos) (tFor w0 g0 t0) (kFor di g t) := by rw [kFor_eq]; exact xs_for hp hc hi hg hb hs
theorem xs_kwhile {c : Expr} {body : List Stmt} {c0 : TT} {dc : DT} {t0 : TS} {t : DS} {pos : Pos} (hp : PassesOwn (model X.prog X.w) X.A X.env X.xe) (hc : XT X K c c0 dc) (hb : XSs X K body t0 t) : XS X K (.While c body [] pos) (tWhile c0 t0) (kWhile dc t) := by rw [kWhile_eq]; exact xs_while hp hc hb
theorem xklc {elt tg iter : Expr} {ifs : List Expr} {scope : Scope} {own : List (Str × Nat)} {pos : Pos} {w0 : TI} {di : DI} {g0 : TG} {g : DTG} {t0 : TT} {tt : DT} {e0 : TE} {te : DE} (hc : X.calm = true) (hN : X.N.Nodup) (hi : XI X K tg iter w0 di) (ok : BlkOk X.N X.env.scope scope own)
    (hg : ∀ (s : Shared) (H : Hp) (C : Addr) (cl : List (Str × Addr)) (fp : List Addr), XG (X.blk s H scope (compEnvC scope cl C X.env) fp) K tg g0 g) (ho : Own (own.map (·.2)) g0) (ht : ∀ (s : Shared) (H : Hp) (C : Addr) (cl : List (Str × Addr)) (fp : List Addr), XTs (X.blk s H scope (compEnvC scope cl C X.env) fp) K ifs t0 tt) (he : ∀ (s : Shared) (H : Hp) (C : Addr) (cl : List (Str × Addr)) (fp : List Addr), XE (X.blk s H scope (compEnvC scope cl C X.env) fp) K elt e0 te) (hs : ∀ x, foldedSetIterable iter X.env x = pure x := by intro _; rfl) :
    XE X K (.ListComp elt [⟨tg, iter, ifs, 0⟩] scope pos) (tLc w0 g0 t0 e0 (own.map (·.2))) (kLc di g tt te (own.map (·.2))) := by rw [kLc_eq]; exact xlc hc hN hi ok hg ho ht he hs
theorem xs_ksetLc {i : Nat} {y : Str} {py : Pos} {elt tg iter : Expr} {ifs : List Expr} {scope : Scope} {own : List (Str × Nat)} {pos spos : Pos} {w0 : TI} {di : DI} {g0 : TG} {g : DTG} {t0 : TT} {tt : DT} {e0 : TE} {te : DE} (hc : X.calm = true) (hN : X.N.Nodup)
    (hi : XI X K tg iter w0 di) (ok : BlkOk X.N X.env.scope scope own) (hg : ∀ (s : Shared) (H : Hp) (C : Addr) (cl : List (Str × Addr)) (fp : List Addr), XG (X.blk s H scope (compEnvC scope cl C X.env) fp) K tg g0 g) (ho : Own (own.map (·.2)) g0) (ht : ∀ (s : Shared) (H : Hp) (C : Addr) (cl : List (Str × Addr)) (fp : List Addr), XTs (X.blk s H scope (compEnvC scope cl C X.env) fp) K ifs t0 tt) (he : ∀ (s : Shared) (H : Hp) (C : Addr) (cl : List (Str × Addr)) (fp : List Addr), XE (X.blk s H scope (compEnvC scope cl C X.env) fp) K elt e0 te)
    (hy : X.N[i]? = some y := by rfl) (hyl : X.env.scope.names.lookup y = some .local := by rfl)
    (hsw : swapsWith (.ListComp elt [⟨tg, iter, ifs, 0⟩] scope pos) (some (.Name y py)) spos.line X.env = pure true := by exact sw_true rfl rfl rfl (by decide +kernel)) (hs : ∀ x, foldedSetIterable iter X.env x = pure x := by intro _; rfl) :
    XS X K (.Assign [.Name y py] (.ListComp elt [⟨tg, iter, ifs, 0⟩] scope pos) spos) (tAsg (tLc w0 g0 t0 e0 (own.map (·.2))) (gName i)) (dAsg (kLc di g tt te (own.map (·.2))) (gdName i)) := by rw [kLc_eq]; exact xs_setLc hc hN hi ok hg ho ht he hy hyl hsw hs
end

/-! ### stepping -/
theorem w_need {o : Option D} {v : D} {h : DH} {Q : DK} (e : o = some v) (k : Q v h) : need o h Q := by rw [need_eq]; subst e; exact k
theorem w_set {a : Addr} {y v : D} {u : DO} {h : DH} {Q : DH → Prop} (e : setO (h a) y v = some u) (k : Q (hupd h a u)) : dSet (.loc a) y v h Q := by rw [dSet_eq]; unfold dSet0; dsimp only; rw [e]; exact k
theorem w_ite {c : Prop} [Decidable c] {a b : Prop} (h1 : c → a) (h2 : ¬ c → b) : kIte (decide c) a b := by
  rw [kIte_eq]
  by_cases q : c
  · rw [if_pos (decide_eq_true q)]; exact h1 q
  · rw [if_neg (by simp [q])]; exact h2 q
theorem w_iteb {c : Bool} {a b : Prop} (h1 : c = true → a) (h2 : c = false → b) : kIte c a b := by
  rw [kIte_eq]
  cases c with
  | true => rw [if_pos rfl]; exact h1 rfl
  | false => rw [if_neg Bool.false_ne_true]; exact h2 rfl
theorem w_t {c : Bool} {a b : Prop} (e : c = true) (h : a) : kIte c a b := by rw [kIte_eq]; rw [if_pos e]; exact h
theorem w_f {c : Bool} {a b : Prop} (e : c = false) (h : b) : kIte c a b := by rw [kIte_eq]; rw [if_neg (by simp [e])]; exact h
theorem w_ix {a : Addr} {xs : List D} {y v : D} {h : DH} {Q : DK} (e : h a = some (.lst xs)) (g : getI xs y = some v) (k : Q v h) : need (ixD h (.loc a) y) h Q := w_need (by show getO (h a) y = some v; rw [e]; exact g) k
theorem w_setL {a : Addr} {xs : List D} {y v : D} {u : DO} {h : DH} {Q : DH → Prop} (e : h a = some (.lst xs)) (g : setI xs v y = some u) (k : Q (hupd h a u)) : dSet (.loc a) y v h Q := w_set (by rw [e]; exact g) k
theorem w_for {di : DI} {g : DTG} {tb : DS} {N : DEnds} {τ : DSt} {h : DH} (k : di τ h fun items G h1 => kLoop G g tb N items τ h1) : kFor di g tb N τ h := by
  rw [kFor_eq]
  have e : (fun items G h1 => kLoop G g tb N items τ h1) = fun items G h1 => dLoop G g tb N items τ h1 := by funext a b c; exact kLoop_eq
  rw [e] at k
  exact k
theorem w_lc {di : DI} {g : DTG} {tt : DT} {te : DE} {vs : List Nat} {Q : DK} {τ : DSt} {h : DH} (k : di τ h fun items G h1 => ∀ p, h1 p = none → kGo G g tt te p (wipeD τ vs) Q items (hupd h1 p (.lst []))) : kLc di g tt te vs τ h Q := by
  rw [kLc_eq]
  have e : (fun (items : List D) (G : DH → Prop) (h1 : DH) => ∀ p, h1 p = none → kGo G g tt te p (wipeD τ vs) Q items (hupd h1 p (.lst []))) = fun items G h1 => ∀ p, h1 p = none → dLcGo G g tt te p (wipeD τ vs) Q items (hupd h1 p (.lst [])) := by
    funext a b c
    exact propext ⟨fun q p hp => kGo_eq ▸ q p hp, fun q p hp => kGo_eq.symm ▸ q p hp⟩
  rw [e] at k
  exact k
/-- a loop, by what holds ahead of each turn -/
theorem w_loop {G : DH → Prop} {g : DTG} {tb : DS} {N : DEnds} {items : List D} {τ : DSt} {h : DH} (I : Nat → DSt → DH → Prop) (h0 : I 0 τ h) (hG : ∀ i τ h, i ≤ items.length → I i τ h → G h)
    (step : ∀ i d τ h (nx : DSt → DH → Prop), items[i]? = some d → I i τ h → (∀ τ2 h2, I (i + 1) τ2 h2 → nx τ2 h2) → g d τ h fun τ1 h1 => tb { N with nx := nx, ct := nx, bk := N.nx } τ1 h1)
    (last : ∀ τ h, I items.length τ h → N.nx τ h) : kLoop G g tb N items τ h := by
  rw [kLoop_eq]
  have key : ∀ (rest done : List D), done ++ rest = items → ∀ τ h, I done.length τ h → dLoop G g tb N rest τ h := by
    intro rest
    induction rest with
    | nil =>
      intro done e τ h hi
      rw [List.append_nil] at e
      subst e
      exact ⟨hG _ _ _ (Nat.le_refl _) hi, last _ _ hi⟩
    | cons d ds ih =>
      intro done e τ h hi
      subst e
      refine ⟨hG _ _ _ (by simp) hi, ?_⟩
      have nx : ∀ τ2 h2, I (done.length + 1) τ2 h2 → dLoop G g tb N ds τ2 h2 := fun τ2 h2 q => ih (done ++ [d]) (by simp) τ2 h2 (by simpa using q)
      exact step done.length d τ h (dLoop G g tb N ds) (by simp) hi nx
  exact key items [] rfl τ h h0
theorem rangeD_get {lo : Int} {n i : Nat} {d : D} (e : (rangeD lo n)[i]? = some d) : i < n ∧ d = .int (lo + i) := by
  unfold rangeD at e
  rw [List.getElem?_map] at e
  cases z : (List.range n)[i]? with
  | none => rw [z] at e; cases e
  | some j =>
    rw [z] at e
    obtain ⟨hl, e2⟩ := List.getElem?_eq_some_iff.mp z
    rw [List.length_range] at hl
    rw [List.getElem_range] at e2
    subst e2
    exact ⟨hl, (Option.some.inj e).symm⟩
theorem rangeD_length {lo : Int} {n : Nat} : (rangeD lo n).length = n := by simp [rangeD]
theorem w_range {g : DTG} {tb : DS} {N : DEnds} {lo : Int} {n : Nat} {τ : DSt} {h : DH} (I : Nat → DSt → DH → Prop) (h0 : I 0 τ h)
    (step : ∀ i τ h (nx : DSt → DH → Prop), i < n → I i τ h → (∀ τ2 h2, I (i + 1) τ2 h2 → nx τ2 h2) → g (.int (lo + i)) τ h fun τ1 h1 => tb { N with nx := nx, ct := nx, bk := N.nx } τ1 h1)
    (last : ∀ τ h, I n τ h → N.nx τ h) : kLoop (fun _ => True) g tb N (rangeD lo n) τ h := by
  refine w_loop I h0 (fun _ _ _ _ _ => trivial) (fun i d τ h nx e q k => ?_) (fun τ h q => last τ h (by rwa [rangeD_length] at q))
  obtain ⟨hi, e2⟩ := rangeD_get e
  subst e2
  exact step i τ h nx hi q k
def kPush0 (p : Addr) (C : DH → Prop) (y : D) (h : DH) : Prop := match lstO (h p) with
  | some acc => acc.length < sizeLine ∧ C (hupd h p (.lst (acc ++ [y])))
  | none => False
@[irreducible] noncomputable def kPush : Addr → (DH → Prop) → D → DH → Prop := hide kPush0
theorem kPush_eq {p : Addr} {C : DH → Prop} {y : D} {h : DH} : kPush p C y h = kPush0 p C y h := by unfold kPush; rw [hide_eq]
theorem w_push {p : Addr} {C : DH → Prop} {y : D} {h : DH} {acc : List D} (e : h p = some (.lst acc)) (l : acc.length < sizeLine) (k : C (hupd h p (.lst (acc ++ [y])))) : kPush p C y h := by rw [kPush_eq]; unfold kPush0; rw [e]; exact ⟨l, k⟩
/-- a comprehension, by what holds ahead of each turn -/
theorem w_go {G : DH → Prop} {g : DTG} {tt : DT} {te : DE} {p : Addr} {τ : DSt} {Q : DK} {items : List D} {h : DH} (I : Nat → DH → Prop) (h0 : I 0 h) (hG : ∀ i h, i ≤ items.length → I i h → G h)
    (step : ∀ i d h (C : DH → Prop), items[i]? = some d → I i h → (∀ h2, I (i + 1) h2 → C h2) → g d τ h fun τ2 h2 => tt τ2 h2 fun b h3 => kIte b (te τ2 h3 fun y h4 => kPush p C y h4) (C h3))
    (last : ∀ h, I items.length h → Q (.loc p) h) : kGo G g tt te p τ Q items h := by
  rw [kGo_eq]
  have key : ∀ (rest done : List D), done ++ rest = items → ∀ h, I done.length h → dLcGo G g tt te p τ Q rest h := by
    intro rest
    induction rest with
    | nil =>
      intro done e h hi
      rw [List.append_nil] at e
      subst e
      exact ⟨hG _ _ (Nat.le_refl _) hi, last _ hi⟩
    | cons d ds ih =>
      intro done e h hi
      subst e
      refine ⟨hG _ _ (by simp) hi, ?_⟩
      have nx : ∀ h2, I (done.length + 1) h2 → dLcGo G g tt te p τ Q ds h2 := fun h2 q => ih (done ++ [d]) (by simp) h2 (by simpa using q)
      have a := step done.length d h (fun h2 => dLcGo G g tt te p τ Q ds h2) (by simp) hi nx
      have e : (fun y h4 => kPush p (fun h2 => dLcGo G g tt te p τ Q ds h2) y h4) = fun y h4 => (match lstO (h4 p) with | some acc => acc.length < sizeLine ∧ dLcGo G g tt te p τ Q ds (hupd h4 p (.lst (acc ++ [y]))) | none => False) := by
        funext y h4
        rw [kPush_eq]
        rfl
      rw [e] at a
      exact a
  exact key items [] rfl h h0

/-! ### sorted(set(..)) of tuples of ints -/
def kSort0 (o : Option (List (List Int))) (h : DH) (Q : DK) : Prop := match o with
  | some ks => (ks.length < 64 ∧ ∀ k ∈ ks, k ≠ []) ∧ ∀ (ms : List (List Int)) (p : Addr), (∀ k, k ∈ ms ↔ k ∈ ks) → ms.Pairwise (fun a b => HT.lexLt a b = true) → h p = none → Q (.loc p) (hupd h p (.lst (ms.map tupI)))
  | none => False
@[irreducible] noncomputable def kSort : Option (List (List Int)) → DH → DK → Prop := hide kSort0
theorem kSort_eq {o : Option (List (List Int))} {h : DH} {Q : DK} : kSort o h Q = kSort0 o h Q := by unfold kSort; rw [hide_eq]
noncomputable def kSortSet (t : DE) : DE := fun τ h Q => t τ h fun x h1 => kSort ((seqD h1 x).bind tupsD) h1 Q
theorem kSortSet_eq {t : DE} : kSortSet t = dSortSet t := by
  funext τ h Q
  unfold kSortSet dSortSet
  have e : (fun (x : D) (h1 : DH) => kSort ((seqD h1 x).bind tupsD) h1 Q) = fun x h1 => kSort0 ((seqD h1 x).bind tupsD) h1 Q := by funext x h1; rw [kSort_eq]
  rw [e]
  rfl
theorem xksortset {X : Cx} {K : PySem.W.Frag} {e : Expr} {te : TE} {de : DE} {p1 p2 p3 p4 : Pos} (hc : X.calm = true) (hu : X.A.units + 64 < cLine) (he : XE X K e te de) (hm : X.mg "sorted" = none) (hm2 : X.mg "set" = none) (hg : Gl X "sorted" := by rfl) (hg2 : Gl X "set" := by rfl)
    (h1 : starEach [e] X.env = [(false, eval e X.env)] := by rfl) (h2 : starEach [.Call (.Name "set" p3) [e] [] p4] X.env = [(false, eval (.Call (.Name "set" p3) [e] [] p4) X.env)] := by rfl) (hK : X.K = K := by rfl) :
    XE X K (.Call (.Name "sorted" p1) [.Call (.Name "set" p3) [e] [] p4] [] p2) (tCB (rSortSet X.K X.prog X.w) (tCons (tCB (rSetOfT X.K X.prog X.w) (tCons te tNil)) tNil)) (kSortSet de) := by rw [kSortSet_eq]; exact xsortset hc hu he hm hm2 hg hg2 h1 h2 hK
theorem w_sortset {o : Option (List (List Int))} {ks : List (List Int)} {h : DH} {Q : DK} (e : o = some ks) (h1 : ks.length < 64 ∧ ∀ k ∈ ks, k ≠ []) (k : ∀ (ms : List (List Int)) (p : Addr) (h' : DH), (∀ k, k ∈ ms ↔ k ∈ ks) → ms.Pairwise (fun a b => HT.lexLt a b = true) → h p = none → Ext h h' → h' p = some (.lst (ms.map tupI)) → Q (.loc p) h') : kSort o h Q := by
  subst e; rw [kSort_eq]; exact ⟨h1, fun ms p a b c => k ms p _ a b c (ext_new c) hupd_same⟩
theorem seq_of {h : DH} {p : Addr} {xs : List D} (e : h p = some (.lst xs)) : seqD h (.loc p) = some xs := by show lstO (h p) = _; rw [e]; rfl
theorem tup_of {h : DH} {p : Addr} {xs : List D} (e : h p = some (.lst xs)) : (isTup (.loc p)).or (seqD h (.loc p)) = some xs := by show lstO (h p) = _; rw [e]; rfl
theorem newAt {h h' : DH} {p : Addr} {o : DO} (hh : hupd h p o = h') (hp : h p = none) : Ext h h' ∧ h' p = some o := by subst hh; exact ⟨ext_new hp, hupd_same⟩
/-! ### equal data -/
theorem w_eqi {neg : Bool} {i j : Int} {h : DH} {Q : DK} (k : Q (.bl (if neg then !decide (i = j) else decide (i = j))) h) : kEq neg (.int i) (.int j) h Q := by
  rw [kEq_eq]
  refine .inl ⟨_, _, .int i, .int j, rfl, rfl, ?_⟩
  have e : PyData.eqv (.int i) (.int j) = decide (i = j) := by
    simp [PyData.eqv]
    rfl
  rw [e]
  exact k
theorem w_eqs {neg : Bool} {i j : Str} {h : DH} {Q : DK} (k : Q (.bl (if neg then !decide (i = j) else decide (i = j))) h) : kEq neg (.str i) (.str j) h Q := by
  rw [kEq_eq]
  exact .inr ⟨i, j, rfl, rfl, k⟩
theorem w_eqd {neg : Bool} {x y : D} {h : DH} {Q : DK} {p q : PyData} (h1 : PD h x p) (h2 : PD h y q) (s1 : SeqAt.shaped p = true) (s2 : SeqAt.shaped q = true) (k : Q (.bl (if neg then !PyData.eqv p q else PyData.eqv p q)) h) : kEq neg x y h Q := by
  rw [kEq_eq]
  exact .inl ⟨p, q, h1, h2, s1, s2, k⟩

/-! ### repr -/
def okI (i : Int) : Prop := i.natAbs < 10 ^ 100
theorem leaf_int {i : Int} (h : okI i) : PyData.leavesShort 101 (.int i) = true := by
  have e := int_text_length_le10 (k := 100) (by decide) h
  simp only [PyData.leavesShort, decide_eq_true_eq]
  show (Str.ofString (toString i)).length ≤ 101
  rw [PySem.ofString_length]; exact e
theorem show_int {i : Int} (h : okI i) : PyData.showable (.int i) = true := by
  simp only [PyData.showable, decide_eq_true_eq]
  by_cases z : i.natAbs = 0
  · rw [z]; decide
  · exact (Nat.log2_lt z).mpr (Nat.lt_trans h (by decide +kernel))
@[irreducible] noncomputable def kRepr : DC := hide bRepr
theorem kRepr_eq : kRepr = bRepr := by unfold kRepr; rw [hide_eq]
theorem qk_repr {X : Cx} {K : PySem.W.Frag} {k : Nat} (hr : RoomG k X.A) (hK : X.K = K := by rfl) : CallR X (.builtin "repr") (rRepr K) ∧ LC K (rRepr K) kRepr := by rw [kRepr_eq]; exact q_repr hr hK
theorem w_repr {d : D} {h : DH} {Q : DK} {p : PyData} (pd : PD h d p) (a : p.showable = true) (dp : p.depth ≤ 50) (l : p.leavesShort 101 = true) (bk : p.bulk ≤ 150000) (k : Q (.str p.shown) h) : kRepr [d] h Q := by
  rw [kRepr_eq]
  refine ⟨p, pd, a, dp, ?_, k⟩
  have := PyData.shown_le_bulk 101 (by decide) p l
  have e : sizeLine = 16777216 := rfl
  omega
/-! ### small facts -/
theorem mulR {i j : Int} (h1 : -(2 ^ 64) < j) (h2 : j < 2 ^ 64) : MulOk i j := .inr (.inl ⟨h1, h2⟩)
theorem mulL {i j : Int} (h1 : -(2 ^ 64) < i) (h2 : i < 2 ^ 64) : MulOk i j := .inl ⟨h1, h2⟩
theorem divOk {j : Int} (h1 : 0 < j) (h2 : j < 2 ^ 250) : DivOk j := ⟨h1, h2⟩
end DL

set_option Elab.async false
set_option linter.all false
set_option maxRecDepth 100000
/-! DL12: while, list.index. -/
namespace DL
open PySem PySem.Spec PyProof.Rows L2
/-- a while loop: I n holds ahead of each test, and n falls -/
theorem w_while {c : DT} {t : DS} {N : DEnds} {τ : DSt} {h : DH} (I : Nat → DSt → DH → Prop) {n0 : Nat} (h0 : I n0 τ h)
    (step : ∀ n τ h (nx : DSt → DH → Prop), I n τ h → (∀ m τ2 h2, m < n → I m τ2 h2 → nx τ2 h2) → c τ h fun b h1 => kIte b (t { N with nx := nx, ct := nx, bk := N.nx } τ h1) (N.nx τ h1)) : kWhile c t N τ h := by
  rw [kWhile_eq]
  refine ⟨n0 + 1, ?_⟩
  have key : ∀ M n τ h, n < M → I n τ h → dWh c t N M τ h := by
    intro M
    induction M with
    | zero => intro n τ h hn _; exact absurd hn (Nat.not_lt_zero _)
    | succ M ih =>
      intro n τ h hn hI
      exact step n τ h (dWh c t N M) hI fun m τ2 h2 hm hI2 => ih m τ2 h2 (by omega) hI2
  exact key (n0 + 1) n0 τ h (Nat.lt_succ_self _) h0

theorem RoomG.hu5 {k : Nat} {A : Around} (r : RoomG k A) : A.units + 65 < cLine := by have := r.r.un; omega
/-! ### list.index -/
def kIdx0 (x y : D) (h : DH) (Q : DK) : Prop := ∃ (ds : List PyData) (d : PyData) (j : Nat) (z : PyData), PD h x (.list ds) ∧ PD h y d ∧ SeqAt.shaped (.list ds) = true ∧ SeqAt.shaped d = true ∧ ds[j]? = some z ∧ PyData.eqv z d = true ∧
  (∀ (m : Nat) (z' : PyData), m < j → ds[m]? = some z' → PyData.eqv z' d = false) ∧ Q (.int (j : Nat)) h
@[irreducible] noncomputable def kIdx : D → D → DH → DK → Prop := hide kIdx0
theorem kIdx_eq {x y : D} {h : DH} {Q : DK} : kIdx x y h Q = kIdx0 x y h Q := by unfold kIdx; rw [hide_eq]
noncomputable def dIndex (a : DE) (b : DE) : DE := fun τ h Q => a τ h fun x h1 => match x with
  | .loc l => (∃ xs, h1 l = some (.lst xs)) ∧ b τ h1 fun y h2 => kIdx (.loc l) y h2 Q
  | _ => False
section
variable {X : Cx} {K : PySem.W.Frag}
theorem lm_index {ta te : TE} {da de : DE} (la : LE K ta da) (le : LE K te de) : LE K (tBM K "list" (rIndexD K) ta (tCons te tNil)) (dIndex da de) := fun τ σ h H Q Q0 rs hr bw w =>
  la τ σ h H _ _ rs hr (fun x h1 v H1 x1 r1 hr1 w1 => by
    cases x with
    | loc l =>
      obtain ⟨⟨xs0, hl⟩, w1⟩ := w1
      obtain ⟨vs0, s0, q0⟩ := hr1 _ _ hl
      have e := rv_loc r1
      subst e
      refine ⟨Or.inl ⟨rfl, _, Or.inl (Or.inl s0)⟩, ?_⟩
      refine le τ σ h1 H1 _ _ (rs.mono x1) hr1 (fun y h2 u H2 x2 r2 hr2 w2 => ?_) w1
      rw [kIdx_eq] at w2
      obtain ⟨ds, d, j, z, p1, p2, s1, s2, g1, g2, g3, w3⟩ := w2
      exact ⟨l, u, d, ds, j, z, rfl, rfl, p1.dp hr2 (RV.mono x2 _ _ r1), p2.dp hr2 r2, s1, s2, g1, g2, g3, bw _ h2 _ H2 (x1.trans x2) rv_int' hr2 w3⟩
    | _ => exact w1.elim) w
theorem xindex {o e : Expr} {to te : TE} {d1 de : DE} {apos cpos : Pos} (hu : X.A.units + 65 < cLine) (ho : XE X K o to d1) (he : XE X K e te de)
    (hbase : attributeBase o "index" X.env (eval o X.env) = eval o X.env := by rfl)
    (hfew : ((backTo cpos (starEach [e] X.env)).all (fun x => !x.1) && (backToKw cpos (keywordEach [] X.env)).all (fun x => x.1.isSome)
      && decide ([e].length + ([] : List Keyword).length + (if ([] : List Keyword).isEmpty then 0 else 1) < 30)) = true := by rfl)
    (hline : (apos.endLine == cpos.line) = true := by rfl) (hs : starEach [e] X.env = (false, eval e X.env) :: starEach [] X.env := by rfl) (hplain : (backTo cpos (starEach [] X.env)).any (·.1) = false := by rfl) (hK : X.K = K := by rfl) :
    XE X K (.Call (.Attribute o "index" apos) [e] [] cpos) (tBM K "list" (rIndexD K) to (tCons te tNil)) (dIndex d1 de) :=
  ⟨by subst hK; exact pe_bm PySem.F.plainAttrs_list PySem.F.slot_list_index PySem.F.type_list_index (mt_indexD hu) ho.p (pa_cons he.p pa_nil hs) hbase hfew hline hs hplain, lm_index ho.l he.l⟩
end
end DL

set_option Elab.async false
set_option linter.all false
set_option maxRecDepth 100000
/-! DL13: {k: v, ..} with keys ints and texts. -/
namespace DL
open PySem PySem.Spec PyProof.Rows L2
def dPairs : List (DE × DE) → DSt → DH → (List (Key × D) → DH → Prop) → Prop
  | [], _, h, Q => Q [] h
  | (tk, tv) :: r, τ, h, Q => tk τ h fun x h1 => tv τ h1 fun y h2 => match keyD x with
    | some k => dPairs r τ h2 fun ps h3 => Q ((k, y) :: ps) h3
    | none => False
def LPs (K : PySem.W.Frag) (trs : List (TE × TE)) (ds : List (DE × DE)) : Prop := ∀ τ σ h H (Q : List (Key × D) → DH → Prop) (Q0 : List (V × V) → Hp → Prop), RS K H τ σ → HR K H h →
  (∀ kvs h' (us : List (Key × V)) H', TX K H H' → RKV K H' kvs us → HR K H' h' → Q kvs h' → Q0 (us.map fun kv => (kV kv.1, kv.2)) H') → dPairs ds τ h Q → tPairs trs σ H Q0
structure XPPs (X : Cx) (K : PySem.W.Frag) (pos : Pos) (keys : List (Option Expr)) (values : List Expr) (trs : List (TE × TE)) (ds : List (DE × DE)) : Prop where
  p : PPs X pos keys values trs
  l : LPs K trs ds
def mergeD (kvs more : List (Key × D)) : List (Key × D) := more.foldl (fun acc kv => putD acc kv.1 kv.2) kvs
theorem rkv_merge {K : PySem.W.Frag} {H : Hp} : ∀ {more : List (Key × D)} {us : List (Key × V)} {kvs : List (Key × D)} {vs : List (Key × V)}, RKV K H more us → RKV K H kvs vs → RKV K H (mergeD kvs more) (mergeK vs us) := by
  intro more us kvs vs r
  unfold RKV at r
  induction r generalizing kvs vs with
  | nil => intro q; exact q
  | @cons p q ps qs h t ih =>
    intro r0
    obtain ⟨p1, p2⟩ := p
    obtain ⟨q1, q2⟩ := q
    obtain ⟨h1, h2⟩ := h
    have h1 : p1 = q1 := h1
    subst h1
    exact ih (rkv_put r0 p1 h2)
def dDisp (ds : List (DE × DE)) : DE := fun τ h Q => ∀ p, h p = none → dPairs ds τ (hupd h p (.dK [])) fun kvs h2 => h2 p = some (.dK []) ∧ kvs.length ≤ 15 ∧ Q (.loc p) (hupd h2 p (.dK (mergeD [] kvs)))
section
variable {X : Cx} {K : PySem.W.Frag} {pos : Pos}
theorem xpps_nil : XPPs X K pos [] [] [] [] := ⟨pps_nil, fun τ σ h H Q Q0 rs hr bw w => bw [] h [] H TX.refl .nil hr w⟩
theorem xpps_cons {k v : Expr} {ks : List (Option Expr)} {vs : List Expr} {tk tv : TE} {dk dv : DE} {trs : List (TE × TE)} {ds : List (DE × DE)} (hk : XE X K k tk dk) (hv : XE X K v tv dv) (hr : XPPs X K pos ks vs trs ds) : XPPs X K pos (some k :: ks) (v :: vs) ((tk, tv) :: trs) ((dk, dv) :: ds) :=
  ⟨pps_cons hk.p hv.p hr.p, fun τ σ h H Q Q0 rs hr0 bw w => hk.l τ σ h H _ _ rs hr0 (fun x h1 xv H1 x1 r1 hr1 w1 => hv.l τ σ h1 H1 _ _ (rs.mono x1) hr1 (fun y h2 yv H2 x2 r2 hr2 w2 => by
    have w2 : (match keyD x with | some k => dPairs ds τ h2 fun ps h3 => Q ((k, y) :: ps) h3 | none => False) := w2
    cases z : keyD x with
    | none => rw [z] at w2; exact w2.elim
    | some k0 =>
      rw [z] at w2
      refine hr.l τ σ h2 H2 _ _ (rs.mono (x1.trans x2)) hr2 (fun kvs h3 us H3 x3 r3 hr3 w3 => ?_) w2
      have ek := keyD_v z r1
      have := bw ((k0, y) :: kvs) h3 ((k0, yv) :: us) H3 (x1.trans (x2.trans x3)) (.cons ⟨rfl, RV.mono x3 _ _ r2⟩ r3) hr3 w3
      rw [ek]
      exact this) w1) w⟩
theorem xdisp {keys : List (Option Expr)} {values : List Expr} {trs : List (TE × TE)} {ds : List (DE × DE)} (h : XPPs X K pos keys values trs ds) (hall : keys.all (·.isSome) = true := by rfl) (hl : keys.length = values.length := by rfl) (h0 : keys ≠ [] := by exact List.cons_ne_nil _ _)
    (h15 : keys.length ≤ 15 := by decide) : XE X K (.Dict keys values pos) (tDisp trs) (dDisp ds) :=
  ⟨pe_disp h.p hall hl h0 h15, fun τ σ h1 H Q Q0 rs hr bw w p hp => by
    have x0 : TX K H (upd H p (.dK [])) := tx_new hp
    refine h.l τ σ _ _ _ _ (rs.mono x0) (hr.put x0 (ro_dK (kvs := []) .nil)) (fun kvs h' us H' x1 r1 hr1 w1 => ?_) (w p (hr.free hp))
    obtain ⟨e, l15, w2⟩ := w1
    obtain ⟨us0, e2, r0⟩ := hr1 _ _ e
    have eu : us0 = [] := List.length_eq_zero_iff.mp (rkv_length r0).symm
    subst eu
    have x3 : TX K H' (upd H' p (.dK (mergeK [] us))) := tx_dK e2
    exact ⟨e2, us, rfl, by rw [← rkv_length r1]; exact l15, bw _ _ _ _ (x0.trans (x1.trans x3)) rv_loc' (hr1.put x3 (ro_dK (RKV.mono x3 (rkv_merge r1 .nil)))) w2⟩⟩
end
end DL

set_option Elab.async false
set_option linter.all false
set_option maxRecDepth 100000
/-! DL14: isinstance, all, any, in, str, extend, [::-1], list(range), tuples of the module, order of tuples, texts walked. -/
namespace DL
open PySem PySem.Spec PyProof.Rows L2

/-! ### isinstance, built-in types -/
def tyNames : List String := ["NoneType", "bool", "int", "str", "tuple", "list", "dict"]
def isTy (a b : String) : Bool := a == b || (a == "bool" && b == "int")
theorem isTy_kit : ∀ a ∈ tyNames, ∀ b ∈ tyNames, kitB a b = some (isTy a b) := by decide +kernel
def tyO : Option DO → Option String
  | some (.lst _) => some "list"
  | some (.dK _) => some "dict"
  | some (.dT _) => some "dict"
  | _ => none
def tyD (h : DH) : D → Option String
  | .non => some "NoneType"
  | .bl _ => some "bool"
  | .int _ => some "int"
  | .str _ => some "str"
  | .tup _ => some "tuple"
  | .ktp _ => some "tuple"
  | .fls _ => some "list"
  | .loc a => tyO (h a)
  | .ty _ => none
theorem tyD_mem {h : DH} {d : D} {a : String} (e : tyD h d = some a) : a ∈ tyNames := by
  cases d with
  | loc p =>
    have e : tyO (h p) = some a := e
    unfold tyO at e
    split at e <;> first | (cases e; done) | (cases e; decide)
  | ty n => cases e
  | _ => cases e; decide
section
variable {X : Cx} {K : PySem.W.Frag}
theorem tyD_x {h : DH} {H : Hp} {d : D} {v : V} {a : String} (hr : HR K H h) (r : RV K H d v) (e : tyD h d = some a) : TyX K H v (.type a) := by
  cases d with
  | non => cases e; rw [rv_non r]; exact .base .non
  | bl b => cases e; rw [rv_bl r]; exact .base (.bl b)
  | int b => cases e; rw [rv_int r]; exact .base (.int b)
  | str b => cases e; rw [rv_str r]; exact .base (.str b)
  | tup ds => cases e; obtain ⟨p, vs, e1, s, _⟩ := rv_tup r; rw [e1]; exact .base (.tup s)
  | ktp ds =>
    cases e
    obtain ⟨p, vs, e1, ⟨o, its, n, l, c, _⟩, _⟩ := rv_ktp r
    rw [e1]; exact .kTuple l c
  | fls ds =>
    cases e
    obtain ⟨p, vs, e1, s, _⟩ := rv_fls r
    rw [e1]
    rcases s with ⟨o, s⟩ | ⟨o, its, n, l, c, _⟩
    · exact .base (.frz s)
    · exact .kList l c
  | loc p =>
    rw [rv_loc r]
    have e : tyO (h p) = some a := e
    cases z : h p with
    | none => rw [z] at e; cases e
    | some o =>
      rw [z] at e
      have q := hr _ _ z
      cases o with
      | lst xs => cases e; obtain ⟨vs, s, _⟩ := q; exact .base (.lst s)
      | dK xs => cases e; obtain ⟨vs, s, _⟩ := q; exact .base (.dK s)
      | dT xs => cases e; obtain ⟨vs, s, _⟩ := q; exact .base (.dT s)
      | _ => cases e
  | ty n => cases e
end
def bIsi : DC := fun ds h Q => match ds with
  | [d, .ty n] => ∃ a, tyD h d = some a ∧ n ∈ tyNames ∧ Q (.bl (isTy a n)) h
  | _ => False
@[irreducible] noncomputable def kIsi : DC := hide bIsi
theorem kIsi_eq : kIsi = bIsi := by unfold kIsi; rw [hide_eq]
theorem w_isi {d : D} {n a : String} {h : DH} {Q : DK} (e : tyD h d = some a) (hn : n ∈ tyNames) (k : Q (.bl (isTy a n)) h) : kIsi [d, .ty n] h Q := by rw [kIsi_eq]; exact ⟨a, e, hn, k⟩
section
variable {X : Cx} {K : PySem.W.Frag}
theorem q_isi (hK : X.K = K := by rfl) : CallR X (.builtin "isinstance") (rIsi K) ∧ LC K (rIsi K) kIsi := by
  rw [kIsi_eq]
  refine ⟨by subst hK; exact call_isi, fun ds vs h H Q Q0 r hr bw w => ?_⟩
  match ds, w, r with
  | [d, .ty n], ⟨a, e, hn, w⟩, r =>
    obtain ⟨x, y, e1, r1, r2⟩ := rvs_two r
    exact ⟨x, .ty n, .type a, .type n, _, by rw [e1, rv_ty r2], .ty n, tyD_x hr r1 e, kit_ty (isTy_kit a (tyD_mem e) n hn), bw _ h _ H TX.refl rv_bl' hr w⟩

/-! ### all, any -/
def boolsD : List D → Option (List Bool)
  | [] => some []
  | .bl b :: ds => (boolsD ds).map (b :: ·)
  | _ :: _ => none
theorem boolsD_eq : ∀ {ds : List D} {bs : List Bool}, boolsD ds = some bs → ds = bs.map D.bl
  | [], bs, e => by cases e; rfl
  | .bl b :: ds, bs, e => by
    obtain ⟨ms, e1, e2⟩ := Option.map_eq_some_iff.mp (show (boolsD ds).map (b :: ·) = some bs from e)
    subst e2
    rw [boolsD_eq e1]; rfl
theorem boolsD_map : ∀ bs : List Bool, boolsD (bs.map D.bl) = some bs
  | [] => rfl
  | b :: bs => by show (boolsD (bs.map D.bl)).map (b :: ·) = _; rw [boolsD_map bs]; rfl
theorem rvs_bools {H : Hp} : ∀ {bs : List Bool} {vs : List V}, RVs K H (bs.map D.bl) vs → vs = bs.map V.bl
  | [], vs, r => by rw [rvs_nil r]; rfl
  | b :: bs, vs, r => by
    obtain ⟨x, xs, e1, r1, r2⟩ := rvs_cons r
    subst e1
    rw [rv_bl r1, rvs_bools r2]; rfl
theorem bools_v {d : D} {v : V} {h : DH} {H : Hp} {bs : List Bool} (hr : HR K H h) (r : RV K H d v) (e : (seqD h d).bind boolsD = some bs) : ∃ a, v = .ref a ∧ SqL K H a (bs.map V.bl) := by
  obtain ⟨xs, e1, e2⟩ := Option.bind_eq_some_iff.mp e
  obtain ⟨a, vs, e3, s, q⟩ := seqD_v hr r e1
  rw [boolsD_eq e2] at q
  rw [rvs_bools q] at s
  exact ⟨a, e3, s⟩
def allD (h : DH) (d : D) : Option D := ((seqD h d).bind boolsD).map fun bs => .bl (bs.all id)
def anyB (h : DH) (d : D) : Option D := ((seqD h d).bind boolsD).map fun bs => .bl (bs.any id)
theorem q_all (hc : X.calm = true) (hK : X.K = K := by rfl) : CallR X (.builtin "all") (rAll K) ∧ LC K (rAll K) (bOne allD) := ⟨by subst hK; exact cr_all hc, fun ds vs h H Q Q0 r hr bw w => by
  obtain ⟨d, v, e, z, w⟩ := one_of w
  subst e
  obtain ⟨x, e1, r1⟩ := rvs_one r
  obtain ⟨ns, z1, z2⟩ := Option.map_eq_some_iff.mp z
  subst z2
  obtain ⟨a, e2, s⟩ := bools_v hr r1 z1
  exact ⟨a, ns, by rw [e1, e2], s, bw _ h _ H TX.refl rv_bl' hr w⟩⟩
theorem q_any (hc : X.calm = true) (hK : X.K = K := by rfl) : CallR X (.builtin "any") (rAny K) ∧ LC K (rAny K) (bOne anyB) := ⟨by subst hK; exact cr_any hc, fun ds vs h H Q Q0 r hr bw w => by
  obtain ⟨d, v, e, z, w⟩ := one_of w
  subst e
  obtain ⟨x, e1, r1⟩ := rvs_one r
  obtain ⟨ns, z1, z2⟩ := Option.map_eq_some_iff.mp z
  subst z2
  obtain ⟨a, e2, s⟩ := bools_v hr r1 z1
  exact ⟨a, ns, by rw [e1, e2], s, bw _ h _ H TX.refl rv_bl' hr w⟩⟩
theorem w_all {h : DH} {p : Addr} {bs : List Bool} {Q : DK} (e : h p = some (.lst (bs.map D.bl))) (k : Q (.bl (bs.all id)) h) : need (allD h (.loc p)) h Q :=
  w_need (by unfold allD; rw [show seqD h (.loc p) = some (bs.map D.bl) from by show lstO (h p) = _; rw [e]; rfl, Option.bind_some, boolsD_map]; rfl) k
theorem w_any {h : DH} {p : Addr} {bs : List Bool} {Q : DK} (e : h p = some (.lst (bs.map D.bl))) (k : Q (.bl (bs.any id)) h) : need (anyB h (.loc p)) h Q :=
  w_need (by unfold anyB; rw [show seqD h (.loc p) = some (bs.map D.bl) from by show lstO (h p) = _; rw [e]; rfl, Option.bind_some, boolsD_map]; rfl) k

/-! ### in, not in -/
def flatD : D → Bool
  | .non => true
  | .bl _ => true
  | .int _ => true
  | .str _ => true
  | _ => false
def eqF : D → D → Bool
  | .non, .non => true
  | .bl a, .bl b => a == b
  | .bl a, .int b => (if a then 1 else 0) == b
  | .int a, .bl b => a == (if b then 1 else 0)
  | .int a, .int b => a == b
  | .str a, .str b => a == b
  | _, _ => false
def inD (x : D) (xs : List D) : Bool := xs.any fun y => eqF y x
theorem flat_v {H : Hp} {d : D} {v : V} (f : flatD d = true) (r : RV K H d v) : flatV v = true := by
  cases d with
  | non => rw [rv_non r]; rfl
  | bl b => rw [rv_bl r]; rfl
  | int b => rw [rv_int r]; rfl
  | str b => rw [rv_str r]; rfl
  | _ => cases f
theorem eqF_v {H : Hp} {d e : D} {v w : V} (f : flatD d = true) (g : flatD e = true) (r : RV K H d v) (s : RV K H e w) : eqV v w = eqF d e := by
  cases d with
  | non => rw [rv_non r]; cases e with
    | non => rw [rv_non s]; rfl
    | bl b => rw [rv_bl s]; rfl
    | int b => rw [rv_int s]; rfl
    | str b => rw [rv_str s]; rfl
    | _ => cases g
  | bl b => rw [rv_bl r]; cases e with
    | non => rw [rv_non s]; rfl
    | bl b => rw [rv_bl s]; rfl
    | int b => rw [rv_int s]; rfl
    | str b => rw [rv_str s]; rfl
    | _ => cases g
  | int b => rw [rv_int r]; cases e with
    | non => rw [rv_non s]; rfl
    | bl b => rw [rv_bl s]; rfl
    | int b => rw [rv_int s]; rfl
    | str b => rw [rv_str s]; rfl
    | _ => cases g
  | str b => rw [rv_str r]; cases e with
    | non => rw [rv_non s]; rfl
    | bl b => rw [rv_bl s]; rfl
    | int b => rw [rv_int s]; rfl
    | str b => rw [rv_str s]; rfl
    | _ => cases g
  | _ => cases f
theorem flats_v {H : Hp} : ∀ {ds : List D} {vs : List V}, ds.all flatD = true → RVs K H ds vs → vs.all flatV = true
  | [], vs, _, r => by rw [rvs_nil r]; rfl
  | d :: ds, vs, f, r => by
    obtain ⟨x, xs, e1, r1, r2⟩ := rvs_cons r
    subst e1
    rw [List.all_cons, Bool.and_eq_true] at f
    rw [List.all_cons, flat_v f.1 r1, flats_v f.2 r2]; rfl
theorem inD_v {H : Hp} {d : D} {v : V} (f : flatD d = true) (r : RV K H d v) : ∀ {ds : List D} {vs : List V}, ds.all flatD = true → RVs K H ds vs → inV v vs = inD d ds
  | [], vs, _, q => by rw [rvs_nil q]; rfl
  | e :: ds, vs, g, q => by
    obtain ⟨x, xs, e1, r1, r2⟩ := rvs_cons q
    subst e1
    rw [List.all_cons, Bool.and_eq_true] at g
    show (eqV x v || inV v xs) = (eqF e d || inD d ds)
    rw [eqF_v g.1 f r1 r, inD_v f r g.2 r2]
def dIn (neg : Bool) : DR2 := fun x y h Q => (∃ xs, anyD h y = some xs ∧ flatD x = true ∧ xs.all flatD = true ∧ Q (.bl (if neg then !inD x xs else inD x xs)) h) ∨
  ∃ (c : Nat) (z : Str), x = .str ⟨#[c]⟩ ∧ y = .str z ∧ Q (.bl (if neg then !decide (c ∈ z.cps.toList) else decide (c ∈ z.cps.toList))) h
@[irreducible] noncomputable def kIn : Bool → DR2 := hide dIn
theorem kIn_eq {neg} : kIn neg = dIn neg := by unfold kIn; rw [hide_eq]
theorem w_in {neg : Bool} {x y : D} {h : DH} {Q : DK} (xs : List D) (e : anyD h y = some xs) (f : flatD x = true) (g : xs.all flatD = true) (k : Q (.bl (if neg then !inD x xs else inD x xs)) h) : kIn neg x y h Q := by rw [kIn_eq]; exact .inl ⟨xs, e, f, g, k⟩
theorem w_insign {neg : Bool} {c : Nat} {z : Str} {h : DH} {Q : DK} (k : Q (.bl (if neg then !decide (c ∈ z.cps.toList) else decide (c ∈ z.cps.toList))) h) : kIn neg (.str ⟨#[c]⟩) (.str z) h Q := by rw [kIn_eq]; exact .inr ⟨c, z, rfl, rfl, k⟩
def rInU (K : PySem.W.Frag) (neg : Bool) : R2 := fun x y H Q => rIn K neg x y H Q ∨ ∃ (c : Nat) (z : Str), x = .str ⟨#[c]⟩ ∧ y = .str z ∧ Q (.bl (if neg then !decide (c ∈ z.cps.toList) else decide (c ∈ z.cps.toList))) H
theorem lr_in (neg : Bool) : LR2 K (rInU K neg) (kIn neg) := by
  rw [kIn_eq]
  intro d e x y h H Q Q0 r1 r2 hr bw w
  rcases w with ⟨xs, z, f, g, w⟩ | ⟨c, z, e1, e2, w⟩
  · obtain ⟨a, vs, e1, s, q⟩ := anyD_v hr r2 z
    refine .inl ⟨a, vs, e1, s, flat_v f r1, flats_v g q, ?_⟩
    rw [inD_v f r1 g q]
    exact bw _ h _ H TX.refl rv_bl' hr w
  · subst e1 e2
    exact .inr ⟨c, z, rv_str r1, rv_str r2, bw _ h _ H TX.refl rv_bl' hr w⟩
theorem qk_in (hK : X.K = K := by rfl) : OpR X (compareOp .In) (rInU K false) ∧ LR2 K (rInU K false) (kIn false) := ⟨by subst hK; exact op_in_seq.or op_in_sign, lr_in false⟩
theorem qk_notin (hK : X.K = K := by rfl) : OpR X (compareOp .NotIn) (rInU K true) ∧ LR2 K (rInU K true) (kIn true) := ⟨by subst hK; exact op_notIn_seq.or op_notIn_sign, lr_in true⟩

/-! ### str(an int) -/
def bStr : DC := fun ds h Q => match ds with
  | [.int i] => i.natAbs.log2 < 1920 ∧ Q (.str (toString i)) h
  | _ => False
theorem q_str : CallR X (.type "str") (fun xs H Q => ∃ i, xs = [.int i] ∧ i.natAbs.log2 < 1920 ∧ Q (.str (toString i)) H) ∧ LC K (fun xs H Q => ∃ i, xs = [.int i] ∧ i.natAbs.log2 < 1920 ∧ Q (.str (toString i)) H) bStr := ⟨call_str_int, fun ds vs h H Q Q0 r hr bw w => by
  match ds, w, r with
  | [.int i], w, r =>
    obtain ⟨x, e1, r1⟩ := rvs_one r
    exact ⟨i, by rw [e1, rv_int r1], w.1, bw _ h _ H TX.refl rv_str' hr w.2⟩⟩

/-! ### xs.extend(ys) -/
def dExtend (a : DE) (b : DE) : DE := fun τ h Q => a τ h fun x h1 => match x with
  | .loc l => (∃ xs, h1 l = some (.lst xs)) ∧ b τ h1 fun y h2 => match y with
    | .loc m => (match lstO (h2 l), lstO (h2 m) with
      | some xs, some ys => xs.length + ys.length ≤ sizeLine ∧ Q .non (hupd h2 l (.lst (xs ++ ys)))
      | _, _ => False)
    | _ => False
  | _ => False
theorem lm_extend {ta te : TE} {da de : DE} (la : LE K ta da) (le : LE K te de) : LE K (tBM K "list" rExtend ta (tCons te tNil)) (dExtend da de) := fun τ σ h H Q Q0 rs hr bw w =>
  la τ σ h H _ _ rs hr (fun x h1 v H1 x1 r1 hr1 w1 => by
    cases x with
    | loc l =>
      obtain ⟨⟨xs0, hl⟩, w1⟩ := w1
      obtain ⟨vs0, s0, q0⟩ := hr1 _ _ hl
      have e := rv_loc r1
      subst e
      refine ⟨Or.inl ⟨rfl, _, Or.inl (Or.inl s0)⟩, ?_⟩
      refine le τ σ h1 H1 _ _ (rs.mono x1) hr1 (fun y h2 u H2 x2 r2 hr2 w2 => ?_) w1
      cases y with
      | loc m =>
        have w2 : (match lstO (h2 l), lstO (h2 m) with | some xs, some ys => xs.length + ys.length ≤ sizeLine ∧ Q .non (hupd h2 l (.lst (xs ++ ys))) | _, _ => False) := w2
        cases z : lstO (h2 l) with
        | none => rw [z] at w2; exact w2.elim
        | some xs =>
          cases z2 : lstO (h2 m) with
          | none => rw [z, z2] at w2; exact w2.elim
          | some ys =>
            rw [z, z2] at w2
            obtain ⟨vs, s, q⟩ := hr2 _ _ (lstO_of z)
            obtain ⟨us, s2, q2⟩ := hr2 _ _ (lstO_of z2)
            have x3 := tx_lst (K := K) (o := .lst (vs ++ us)) s
            exact ⟨l, m, vs, us, rfl, by rw [rv_loc r2], s, s2, by rw [← q.length, ← q2.length]; exact w2.1, bw _ _ _ _ (x1.trans (x2.trans x3)) rv_non' (hr2.put x3 (ro_lst x3 (q.append q2))) w2.2⟩
      | _ => exact w2.elim
    | _ => exact w1.elim) w
theorem xextend {o e : Expr} {to te : TE} {d1 de : DE} {apos cpos : Pos} (ho : XE X K o to d1) (he : XE X K e te de)
    (hbase : attributeBase o "extend" X.env (eval o X.env) = eval o X.env := by rfl)
    (hfew : ((backTo cpos (starEach [e] X.env)).all (fun x => !x.1) && (backToKw cpos (keywordEach [] X.env)).all (fun x => x.1.isSome)
      && decide ([e].length + ([] : List Keyword).length + (if ([] : List Keyword).isEmpty then 0 else 1) < 30)) = true := by rfl)
    (hline : (apos.endLine == cpos.line) = true := by rfl) (hs : starEach [e] X.env = (false, eval e X.env) :: starEach [] X.env := by rfl) (hplain : (backTo cpos (starEach [] X.env)).any (·.1) = false := by rfl) (hK : X.K = K := by rfl) :
    XE X K (.Call (.Attribute o "extend" apos) [e] [] cpos) (tBM K "list" rExtend to (tCons te tNil)) (dExtend d1 de) :=
  ⟨by subst hK; exact pe_bm PySem.F.plainAttrs_list PySem.F.slot_list_extend PySem.F.type_list_extend mt_extend ho.p (pa_cons he.p pa_nil hs) hbase hfew hline hs hplain, lm_extend ho.l he.l⟩

/-! ### list(range(..)) -/
def DRg := DSt → DH → (Int → Int → DH → Prop) → Prop
structure XRg (X : Cx) (K : PySem.W.Frag) (e : Expr) (t0 : L2.St → Hp → (Int → Int → Hp → Prop) → Prop) (t : DRg) : Prop where
  p : PRg X e t0
  l : ∀ τ σ h H (Q : Int → Int → DH → Prop) (Q0 : Int → Int → Hp → Prop), RS K H τ σ → HR K H h → (∀ i j h' H', TX K H H' → HR K H' h' → Q i j h' → Q0 i j H') → t τ h Q → t0 σ H Q0
def dRg1 (a : DE) : DRg := fun τ h Q => a τ h fun x h1 => match x with
  | .int n => Q 0 n h1
  | _ => False
def dRg2 (a b : DE) : DRg := fun τ h Q => a τ h fun x h1 => b τ h1 fun y h2 => match x, y with
  | .int i, .int j => Q i j h2
  | _, _ => False
theorem xrg1 {a : Expr} {ta : TE} {da : DE} {p pos : Pos} (hm : X.mg "range" = none) (ha : XE X K a ta da) (hg : Gl X "range" := by rfl) (na : starEach [a] X.env = (false, eval a X.env) :: starEach [] X.env := by rfl) : XRg X K (.Call (.Name "range" p) [a] [] pos) (tRg1 ta) (dRg1 da) :=
  ⟨prg_1 hg hm ha.p na, fun τ σ h H Q Q0 rs hr bw w => ha.l τ σ h H _ _ rs hr (fun d h1 v H1 x1 r1 hr1 w1 => by
    cases d with
    | int n => exact ⟨n, rv_int r1, bw _ _ h1 H1 x1 hr1 w1⟩
    | _ => exact w1.elim) w⟩
theorem xrg2 {a b : Expr} {ta tb : TE} {da db : DE} {p pos : Pos} (hm : X.mg "range" = none) (ha : XE X K a ta da) (hb : XE X K b tb db) (hg : Gl X "range" := by rfl) (na : starEach [a, b] X.env = (false, eval a X.env) :: starEach [b] X.env := by rfl) (nb : starEach [b] X.env = (false, eval b X.env) :: starEach [] X.env := by rfl) (hp : (backTo pos (starEach [b] X.env)).any (·.1) = false := by rfl) :
    XRg X K (.Call (.Name "range" p) [a, b] [] pos) (tRg2 ta tb) (dRg2 da db) :=
  ⟨prg_2 hg hm ha.p hb.p na nb hp, fun τ σ h H Q Q0 rs hr bw w => ha.l τ σ h H _ _ rs hr (fun d h1 v H1 x1 r1 hr1 w1 => hb.l τ σ h1 H1 _ _ (rs.mono x1) hr1 (fun e h2 u H2 x2 r2 hr2 w2 => by
    cases d with
    | int i => cases e with
      | int j => exact ⟨i, j, rv_int r1, rv_int r2, bw _ _ h2 H2 (x1.trans x2) hr2 w2⟩
      | _ => exact w2.elim
    | _ => exact w2.elim) w1) w⟩
theorem rvs_range {H : Hp} {a b : Int} : RVs K H (rangeD a (b - a).toNat) (rgV a b) := by
  unfold rangeD rgV
  generalize List.range (b - a).toNat = l
  induction l with
  | nil => exact rvs_nil'
  | cons i l ih => exact rvs_cons' rv_int' ih
def dListRange (t : DRg) : DE := fun τ h Q => t τ h fun a b h1 => RgOk a b ∧ ∀ p, h1 p = none → Q (.loc p) (hupd h1 p (.lst (rangeD a (b - a).toNat)))
theorem xlistrange {e : Expr} {t0 : L2.St → Hp → (Int → Int → Hp → Prop) → Prop} {t : DRg} {p pos : Pos} (hc : X.calm = true) (he : XRg X K e t0 t) (hm : X.mg "list" = none) (hg : Gl X "list" := by rfl) (na : starEach [e] X.env = (false, eval e X.env) :: starEach [] X.env := by rfl) :
    XE X K (.Call (.Name "list" p) [e] [] pos) (tLstRg t0) (dListRange t) :=
  ⟨pe_listRg hc hg hm he.p na, fun τ σ h H Q Q0 rs hr bw w => he.l τ σ h H _ _ rs hr (fun i j h1 H1 x1 hr1 w1 => ⟨w1.1, fun q hq => bw_new hr1 (bw.mono x1) hq (ro_lst (tx_new hq) rvs_range) (w1.2 q)⟩) w⟩

/-! ### tuples of the module -/
def isKT (o : Obj) (ss : List Str) : Bool := match o.data with
  | .seq its _ => o.cls == .type "tuple" && decide (its.size ≤ 1000) && decide (its.size = ss.length) && (its.toList.zip ss).all fun p => match p.1 with
    | .str x _ => x == p.2
    | _ => false
  | _ => false
def KTup (K : PySem.W.Frag) (mg : Str → Option Value) (x : Str) (ss : List Str) : Prop := ∃ (a : Addr) (o : Obj), mg x = some (.ref a) ∧ K.lookup a = some o ∧ isKT o ss = true
theorem vals_strs : ∀ {us : List Value} {ss : List Str}, us.length = ss.length → ((us.zip ss).all fun p => match p.1 with | .str x _ => x == p.2 | _ => false) = true → Vals (ss.map V.str) us
  | [], [], _, _ => .nil
  | [], _ :: _, h, _ => by cases h
  | _ :: _, [], h, _ => by cases h
  | u :: us, s :: ss, h, z => by
    rw [List.zip_cons_cons, List.all_cons, Bool.and_eq_true] at z
    refine .cons ?_ (vals_strs (by simpa using h) z.2)
    cases u with
    | str x t =>
      have e : (x == s) = true := z.1
      rw [eq_of_beq e]
      exact ⟨t, rfl⟩
    | _ => cases z.1
theorem isKT_sq {K : PySem.W.Frag} {a : Addr} {o : Obj} {ss : List Str} (l : K.lookup a = some o) (h : isKT o ss = true) : SqK K a (ss.map V.str) := by
  unfold isKT at h
  cases hd : o.data with
  | seq its n =>
    rw [hd] at h
    simp only [Bool.and_eq_true, decide_eq_true_eq] at h
    obtain ⟨⟨⟨h1, h2⟩, h3⟩, h4⟩ := h
    refine ⟨o, its, n, l, eq_of_beq h1, hd, Nat.le_trans h2 (Nat.le_of_ble_eq_true rfl), vals_strs (by rw [Array.length_toList]; exact h3) h4⟩
  | _ => rw [hd] at h; cases h
theorem rvs_strs {H : Hp} : ∀ ss : List Str, RVs K H (ss.map D.str) (ss.map V.str)
  | [] => rvs_nil'
  | s :: ss => rvs_cons' rv_str' (rvs_strs ss)
theorem xkt {x : Str} {ss : List Str} {pos : Pos} (c : KTup X.K X.mg x ss) (hg : Gl X x := by rfl) (hd : (x == ("__debug__" : Str)) = false := by decide) (hK : X.K = K := by rfl) : ∃ t, XE X K (.Name x pos) t (dC (.ktp (ss.map D.str))) := by
  subst hK
  obtain ⟨a, o, hm, l, z⟩ := c
  exact ⟨_, xglob (v := .ref a) hm rfl (fun H => rv_ktp' (isKT_sq l z) (rvs_strs ss)) hg hd⟩

/-! ### order of tuples of ints -/
def leT (ns ms : List Int) : Bool := Ob.lexAt (fun j => decide (ns.getD j 0 = ms.getD j 0)) (fun j => decide (ns.getD j 0 ≤ ms.getD j 0)) (decide (ns.length ≤ ms.length)) 0 (min ns.length ms.length)
def dLeT : DR2 := fun x y h Q => match tupD x, tupD y with
  | some ns, some ms => Q (.bl (leT ns ms)) h
  | _, _ => False
def dLtT : DR2 := fun x y h Q => match tupD x, tupD y with
  | some ns, some ms => Q (.bl (HT.lexLt ns ms)) h
  | _, _ => False
@[irreducible] noncomputable def kLeT : DR2 := hide dLeT
@[irreducible] noncomputable def kLtT : DR2 := hide dLtT
theorem kLeT_eq : kLeT = dLeT := by unfold kLeT; rw [hide_eq]
theorem kLtT_eq : kLtT = dLtT := by unfold kLtT; rw [hide_eq]
theorem intsD_map' (k : List Int) : intsD (k.map D.int) = some k := intsD_map k
theorem w_leT {ns ms : List Int} {h : DH} {Q : DK} (k : Q (.bl (leT ns ms)) h) : kLeT (.tup (ns.map D.int)) (.tup (ms.map D.int)) h Q := by
  rw [kLeT_eq]; unfold dLeT tupD; dsimp only; rw [intsD_map, intsD_map]; exact k
theorem w_ltT {ns ms : List Int} {h : DH} {Q : DK} (k : Q (.bl (HT.lexLt ns ms)) h) : kLtT (.tup (ns.map D.int)) (.tup (ms.map D.int)) h Q := by
  rw [kLtT_eq]; unfold dLtT tupD; dsimp only; rw [intsD_map, intsD_map]; exact k
theorem tupI_v {H : Hp} {d : D} {v : V} {ns : List Int} (e : tupD d = some ns) (r : RV K H d v) : ∃ a, v = .ref a ∧ SqT K H a (ns.map V.int) := by
  rw [tupD_eq e] at r
  obtain ⟨a, vs, e1, s, q⟩ := rv_tup r
  rw [q.ints] at s
  exact ⟨a, e1, .inl (.inl s)⟩
theorem q_leT (hu : X.A.units + 64 < cLine) (hK : X.K = K := by rfl) : OpR X (compareOp .LtE) (rLeT K) ∧ LR2 K (rLeT K) kLeT := by
  rw [kLeT_eq]
  refine ⟨by subst hK; exact op_leT (by omega), fun d e x y h H Q Q0 r1 r2 hr bw w => ?_⟩
  unfold dLeT at w
  cases z1 : tupD d with
  | none => rw [z1] at w; exact w.elim
  | some ns =>
    cases z2 : tupD e with
    | none => rw [z1, z2] at w; exact w.elim
    | some ms =>
      rw [z1, z2] at w
      obtain ⟨a, e1, s1⟩ := tupI_v z1 r1
      obtain ⟨b, e2, s2⟩ := tupI_v z2 r2
      exact ⟨a, b, ns, ms, e1, e2, s1, s2, bw _ h _ H TX.refl rv_bl' hr w⟩
theorem q_ltT (hu : X.A.units + 64 < cLine) (hK : X.K = K := by rfl) : OpR X (compareOp .Lt) (rLtT K) ∧ LR2 K (rLtT K) kLtT := by
  rw [kLtT_eq]
  refine ⟨by subst hK; exact op_ltT (by omega), fun d e x y h H Q Q0 r1 r2 hr bw w => ?_⟩
  unfold dLtT at w
  cases z1 : tupD d with
  | none => rw [z1] at w; exact w.elim
  | some ns =>
    cases z2 : tupD e with
    | none => rw [z1, z2] at w; exact w.elim
    | some ms =>
      rw [z1, z2] at w
      obtain ⟨a, e1, s1⟩ := tupI_v z1 r1
      obtain ⟨b, e2, s2⟩ := tupI_v z2 r2
      exact ⟨a, b, ns, ms, e1, e2, s1, s2, bw _ h _ H TX.refl rv_bl' hr w⟩

/-! ### a text walked -/
def signsD (x : Str) : List D := x.cps.toList.map fun c => .str ⟨#[c]⟩
def diStr (t : DE) : DI := fun τ h R => t τ h fun x h1 => match x with
  | .str z => R (signsD z) (fun _ => True) h1
  | _ => False
theorem fol_s {H0 : Hp} {x : Str} {G : DH → Prop} : Fol K H0 (Its x) (signsD x) G := fun i h H tx hr g => by
  unfold signsD
  refine ⟨fun hi => (by simpa using hi : x.cps.size ≤ i), fun d hd => ?_⟩
  rw [List.getElem?_map] at hd
  obtain ⟨c, hc, e⟩ := Option.map_eq_some_iff.mp hd
  rw [Array.getElem?_toList] at hc
  have hlt : i < x.cps.size := (Array.getElem?_eq_some_iff.mp hc).1
  refine ⟨hlt, fun y H' ⟨e2, c', hc', hy⟩ => ?_⟩
  rw [hc] at hc'
  cases hc'
  subst e2 hy e
  exact ⟨TX.refl, hr, rv_str'⟩
theorem xi_str {tg e : Expr} {te : TE} {de : DE} (he : XE X K e te de) : XI X K tg e (iStr te) (diStr de) := ⟨pi_str he.p, fun τ σ h H R R0 rs hr bw w => he.l τ σ h H _ _ rs hr (fun d h1 v H1 x1 r1 hr1 w1 => by
  cases d with
  | str z => exact ⟨z, rv_str r1, bw _ _ h1 H1 _ x1 hr1 w1 fol_s⟩
  | _ => exact w1.elim) w⟩
end
end DL
namespace DL
open PySem PySem.Spec PyProof.Rows L2
/-! ### a comprehension within a comprehension -/
theorem lookup_mapped {f : Str × NameKind → Str × NameKind} (hf : ∀ p, (f p).1 = p.1) (y : Str) : ∀ l : List (Str × NameKind), ((l.map f).lookup y) = (l.find? fun p => y == p.1).map fun p => (f p).2
  | [] => rfl
  | p :: l => by
    rw [List.map_cons, List.find?_cons]
    have e : f p = ((f p).1, (f p).2) := rfl
    rw [e, List.lookup_cons, hf p]
    cases h : y == p.1 with
    | true => rfl
    | false => exact lookup_mapped hf y l
theorem lookup_found (y : Str) : ∀ l : List (Str × NameKind), l.lookup y = (l.find? fun p => y == p.1).map fun p => p.2
  | [] => rfl
  | p :: l => by
    rw [List.find?_cons]
    have e : p = (p.1, p.2) := rfl
    rw [e, List.lookup_cons]
    cases h : y == p.1 with
    | true => rfl
    | false => exact lookup_found y l
theorem blkOk_in {N : List Str} {sc scope : Scope} {own : List (Str × Nat)} {cl : List (Str × Addr)} {C : Addr} {env : Env} (h : blkC N sc scope own = true) : BlkOk N (compEnvC sc cl C env).scope scope own := by
  have k := blkOk_by h
  refine ⟨k.kind, k.uniq, k.ix, fun y hy e => ?_, k.own⟩
  have q := k.free y hy e
  unfold compEnvC relabel
  dsimp only
  rw [lookup_mapped (fun p => by obtain ⟨n, kk⟩ := p; dsimp only; split <;> rfl)]
  rw [lookup_found] at q
  cases z : sc.names.find? fun p => y.1 == p.1 with
  | none => rw [z] at q; rcases q with q | q <;> cases q
  | some p =>
    rw [z] at q
    obtain ⟨n, kk⟩ := p
    rcases q with q | q
    · have q : kk = .cell := Option.some.inj q
      subst q
      left
      rw [Option.map_some]
      dsimp only
      split <;> rfl
    · have q : kk = .free := Option.some.inj q
      subst q
      rw [Option.map_some]
      dsimp only
      split
      · exact .inl rfl
      · exact .inr rfl
end DL

set_option Elab.async false
set_option linter.all false
set_option maxRecDepth 100000
set_option maxHeartbeats 2000000
/-! DL15: enumerate and zip over lists and tuples; t[::-1]. -/
namespace PySem
open Sem (wp)
open Builtin
section
variable {prog : Program} {w : World} {A : Around} {E : Value → Shared → Prop} {s : Shared}
theorem meets_enum_own {v : Value} {o : Obj} {H : Heap → Prop} (B : Begins v o H) :
    Meets (Builtin.«enumerate.__new__» ⟨[.type "enumerate", v], []⟩) (fun _ R s => H s.heap ∧
      R (.ok (.ret (.ref (s.heap.push o).objs.size))) { s with heap := (s.heap.push o).push { cls := .type "enumerate", data := .fields #[.none, .bool false, .ref s.heap.objs.size, rawInt 0, .none, .none] } }) :=
  .of_wp fun prog w A R s h => by
    obtain ⟨hp, g, d, tk, os⟩ := s; obtain ⟨h1, h⟩ := h
    have hsub := sub_enumerate
    have q1 : ∀ {A' : Around} {E : Value → Shared → Prop} {Q : Value → Shared → Prop}, Q (.ref hp.objs.size) ⟨hp.push o, g, d, tk, os⟩ → wpAny (model prog w) A' (pyIter v) Q E ⟨hp, g, d, tk, os⟩ :=
      fun q => B.iter prog w _ _ ⟨hp, g, d, tk, os⟩ _ h1 q
    wp_walk using q1
    refine wpAny_stack_any fun st => wpAny_pure ?_
    split
    · rename_i c _ _ _ _ _
      cases (c == Value.type "enumerate")
      · wp_walk using q1
        exact ⟨_, rfl, h⟩
      · wp_walk using q1
        exact ⟨_, rfl, h⟩
    · wp_walk using q1
      exact ⟨_, rfl, h⟩
theorem enum_own {v : Value} {o : Obj} {H : Heap → Prop} {Q : Value → Shared → Prop} (B : Begins v o H) (h1 : H s.heap)
    (h : ∀ h', IsEnum h' (s.heap.objs.size + 1) s.heap.objs.size 0 .none → h'.get? s.heap.objs.size = some o → h'.objs.size = s.heap.objs.size + 2 →
      (∀ b o, s.heap.get? b = some o → h'.get? b = some o) → Q (.ref (s.heap.objs.size + 1)) { s with heap := h' }) :
    wpAny (model prog w) A (call (.type "enumerate") [v]) Q E s := by
  refine callType_new F.called_enumerate (by decide) (F.typeCall_enumerate_1 _) (F.newCall_enumerate_1 _) (fun obj => F.args_object_init_2 obj _) F.entry_enumerate_new
    (meets_enum_own B) ⟨h1, ?_⟩
  have hz : (s.heap.push o).objs.size = s.heap.objs.size + 1 := Heap.size_push ..
  show _ ∧ _
  rw [hz]
  have he : IsEnum ((s.heap.push o).push { cls := .type "enumerate", data := .fields #[.none, .bool false, .ref s.heap.objs.size, rawInt 0, .none, .none] }) (s.heap.objs.size + 1) s.heap.objs.size 0 .none := by
    have := Heap.get?_push_size (s.heap.push o) (o := { cls := .type "enumerate", data := .fields #[.none, .bool false, .ref s.heap.objs.size, rawInt 0, .none, .none] }) rfl
    rw [hz] at this; exact this
  refine ⟨⟨_, he, rfl⟩, h _ he (Heap.get?_push_of_some _ (Heap.get?_push_size _ B.free)) (by rw [Heap.size_push, hz]) fun b o x => Heap.get?_push_of_some _ (Heap.get?_push_of_some _ x)⟩
end
end PySem
namespace DL
open PySem PySem.Spec PyProof.Rows L2 RZ
/-- the tuple at a as it stands at each turn, with its places, in new pairs -/
def IteT (K : PySem.W.Frag) (a : Addr) : It :=
  ⟨fun i H => ∃ (xs : List V) (x : V), SqT K H a xs ∧ xs[i]? = some x, fun i H v H' => ∃ T x, v = .ref T ∧ H T = none ∧ H' = upd H T (.tup [.int (i : Nat), x]) ∧ ∀ xs, SqT K H a xs → xs[i]? = some x, fun i H => ∃ xs : List V, SqT K H a xs ∧ xs.length ≤ i⟩
theorem turn_enumT {P : Program} {w : World} {K : PySem.W.Frag} {elts : List Expr} {kk : Nat} {tpos : Pos} {a e it : Addr} (hei : e ≠ it) (hai : a ≠ it) (hea : e ≠ a) :
    Turn P w K (.Tuple elts kk tpos) (IteT K a) [e, it] e (fun i h => (∃ old, IsEnum h e it ((i : Nat) : Int) old) ∧ h.IsTupleIter it a i) where
  mem := by simp
  obj := fun i h st b hb => by
    obtain ⟨⟨old, he⟩, ⟨o, ho, hc, hd⟩⟩ := st
    have e' : b = e ∨ b = it := by simpa using hb
    rcases e' with z | z
    · rw [z]; exact ⟨_, he, fun v q => nomatch q⟩
    · rw [z]; exact ⟨o, ho, fun v q => by rw [hd] at q; cases q⟩
  keep := fun i h h' st k => let ⟨⟨old, he⟩, hi⟩ := st; ⟨⟨old, k e (by simp) _ he⟩, hi.at fun o q => k it (by simp) o q⟩
  item := by
    intro X hP hw hK hc i pins s σ H E I hf st hg
    subst hP hw hK
    obtain ⟨⟨old, he⟩, hit⟩ := st
    obtain ⟨xs, x, hq, hx⟩ := hg
    obtain ⟨its, rv, p, hz⟩ := I.tuple hq
    obtain ⟨u, hu, ru⟩ := rv.get hx
    have p' : s.heap.IsTuple a its.toArray := p
    have hel : e < s.heap.objs.size := Heap.lt_size he
    have hil : it < s.heap.objs.size := by obtain ⟨_, q, _⟩ := hit; exact Heap.lt_size q
    have hlt : i < its.toArray.size := by
      rw [List.size_toArray]
      exact (List.getElem?_eq_some_iff.mp hu).1
    refine wpAny_pyNext_enum_itemD (Draws.tuple (show X.A.in1.handled = none from I.ok.hd hc) it a hai its.toArray) he ⟨hit, p'⟩ hlt hei (by simp [hei, hea]) fun u' h' tk hP' ho hit' hT hsz hk => ?_
    have eu : u' = u := by
      have hP' : its.toArray[i]? = some u' := hP'
      rw [List.getElem?_toArray, hu] at hP'
      exact (Option.some.inj hP').symm
    subst eu
    refine ⟨_, rfl, wpAny_letOwnedTupleGo_enum (s := { s with heap := h', toks := tk + 1 }) ho fun h'' he' sb => ?_⟩
    have hT2 : h''.get? s.heap.objs.size = some { cls := .type "tuple", data := .seq #[.int i tk, u'] } := (sb.2 _ (Nat.ne_of_gt hel)).trans hT
    have new : ObjOk X.prog X.w (upd H s.heap.objs.size (.tup [.int (i : Nat), x])) h'' s.heap.objs.size (.tup [.int (i : Nat), x]) :=
      ⟨by show 2 ≤ sizeLine; decide, [.int i tk, u'], .cons ⟨_, rfl⟩ (.cons ru .nil), ⟨_, hT2, rfl, _, rfl⟩⟩
    have I1 : Inv X pins σ (upd H s.heap.objs.size (.tup [.int (i : Nat), x])) { s with heap := h'', toks := tk + 1 } :=
      I.turnedNew (t' := tk + 1) (ch := [e, it]) (fun b ob hb q => (sb.2 b (fun z => hb (by simp [z]))).trans (hk b ob (fun z => hb (by simp [z])) (fun z => hb (by simp [z])) q)) hf (Nat.le_refl _) new
    refine ⟨.ref s.heap.objs.size, _, I1, rfl, ⟨_, x, rfl, I.hok.fresh (Nat.le_refl _), rfl, fun ys hy => by rw [I.tuple_inj hy hq]; exact hx⟩, ⟨⟨u', ?_⟩, hit'.1.at fun o q => (sb.2 it (Ne.symm hei)).trans q⟩, fun b hb => ?_⟩
    · have e1 : ((i + 1 : Nat) : Int) = (i : Int) + 1 := by omega
      rw [e1]; exact he'
    · have hb' : b < s.heap.objs.size := by
        have e' : b = e ∨ b = it := by simpa using hb
        rcases e' with z | z
        · rw [z]; exact hel
        · rw [z]; exact hil
      rw [upd_ne (Nat.ne_of_lt hb')]
      exact (hf b hb).1
  done := by
    intro X hP hw hK hc i pins s σ H E I hf st hg
    subst hP hw hK
    obtain ⟨⟨old, he⟩, hit⟩ := st
    obtain ⟨xs, hq, hx⟩ := hg
    obtain ⟨its, rv, p, hz⟩ := I.tuple hq
    obtain ⟨f0, f1, f2, f3, f4, f5⟩ := hf it (by simp)
    have hl := rv.length
    have hT : s.TypeIs (.ref e) "enumerate" := ⟨_, he, rfl⟩
    unfold pyNext
    refine wpAny_bind (wpAny_attempt (wpAny_callSpecial?_slot (name := Str.ofString "__next__") hT PySem.F.slot_enumerate_next
      (wpAny_call_entry PySem.F.slot_enumerate_next hT PySem.F.entry_enumerate_next ?_ (PySem.F.args_enumerate_next_1 _))))
    show wpAny _ _ (field (.ref e) 2 >>= _) _ _ _
    refine wpAny_bind (wpAny_field he rfl (x := .ref it) rfl ?_)
    refine wpAny_bind (wpAny_nextOf_tuple_end (show X.A.in1.handled = none from I.ok.hd hc) hit (show s.heap.IsTuple a its.toArray from p) (by simp; omega) fun h' x he' hx' => ?_)
    obtain ⟨o, ho, hc2⟩ := hx'
    refine wpAny_bind (wpAny_isInstance (T := "StopIteration") (b := true) ⟨o, ho, hc2⟩ PySem.isSubtype_stop ?_)
    exact wpAny_pure ⟨rfl, I.turned (t' := s.toks) (fun b o hb q => he' b o hb q) f0 f1 f3 f4 f5⟩
  self := fun A i s Q E st h => let ⟨⟨_, he⟩, _⟩ := st; wpAny_pyIter_enum he h
def iEnumA (K : PySem.W.Frag) (ta : TA) : TI := fun σ H R => ta σ H fun vs H1 => ∃ a xs, vs = [.ref a] ∧ ((SqL K H1 a xs ∧ R (Ite K a) H1) ∨ (SqT K H1 a xs ∧ R (IteT K a) H1))
theorem pi_enumA {X : Cx} {e : Expr} {ta : TA} {p pos tpos : Pos} {elts : List Expr} {kk : Nat} (hg : Gl X "enumerate") (hm : X.mg "enumerate" = none) (ha : PA X [e] ta) (hs : starEach [e] X.env = [(false, eval e X.env)] := by rfl) :
    PI X (.Tuple elts kk tpos) (.Call (.Name "enumerate" p) [e] [] pos) (iEnumA X.K ta) := by
  refine ⟨fun pins s σ H R I h => ?_⟩
  refine Call_ (ld_blt I hg hm boot_enumerate (PyProof.Rows.callWith_type1 (thn (ha.run pos pins s σ H _ I h) fun us s1 ⟨vs, H1, I1, r1, q1⟩ => ?_) hs rfl))
  obtain ⟨a, xs, ex, q1⟩ := q1
  subst ex
  cases r1 with
  | cons r rr =>
    cases rr
    cases r
    have fresh : ∀ b ∈ [s1.heap.objs.size + 1, s1.heap.objs.size], FpOk X pins H1 b := fun b hb => by
      have e' : b = s1.heap.objs.size + 1 ∨ b = s1.heap.objs.size := by simpa using hb
      have hle : s1.heap.objs.size ≤ b := by
        rcases e' with z | z
        · rw [z]; exact Nat.le_add_right _ _
        · rw [z]; exact Nat.le_refl _
      exact I1.fpOk hle (I1.hok.fresh hle)
    rcases q1 with ⟨hq, q⟩ | ⟨hq, q⟩
    · obtain ⟨its, rv, p', hz⟩ := I1.list hq
      refine call_enumerate_list p'.isList fun h' he hit hsz hk => wpAny_pyIter_enum he ?_
      have I2 : Inv X pins σ H1 { s1 with heap := h' } := I1.kept (t' := s1.toks) hk
      exact ⟨s1.heap.objs.size + 1, [s1.heap.objs.size + 1, s1.heap.objs.size], _, _, H1, rfl, I2, turn_enum a (s1.heap.objs.size + 1) s1.heap.objs.size, ⟨⟨.none, he⟩, hit, Nat.succ_ne_self _⟩, fresh, q⟩
    · obtain ⟨its, rv, p', hz⟩ := I1.tuple hq
      have p2 : s1.heap.IsTuple a its.toArray := p'
      obtain ⟨o1, ho1, _⟩ := id p2
      have hlt : a < s1.heap.objs.size := Heap.lt_size ho1
      refine enum_own (begins_tuple a its.toArray) p2 fun h' he hit hsz hk => wpAny_pyIter_enum he ?_
      have I2 : Inv X pins σ H1 { s1 with heap := h' } := I1.kept (t' := s1.toks) hk
      exact ⟨s1.heap.objs.size + 1, [s1.heap.objs.size + 1, s1.heap.objs.size], _, _, H1, rfl, I2, turn_enumT (Nat.succ_ne_self _) (Nat.ne_of_lt hlt) (Nat.ne_of_gt (Nat.lt_succ_of_lt hlt)), ⟨⟨.none, he⟩, ⟨_, hit, rfl, rfl⟩⟩, fresh, q⟩

/-! ### over trees -/
def enumD (xs : List D) : List D := xs.mapIdx fun i x => .tup [.int (i : Nat), x]
theorem enumD_get {xs : List D} {i : Nat} {d : D} (e : (enumD xs)[i]? = some d) : ∃ x, xs[i]? = some x ∧ d = .tup [.int (i : Nat), x] := by
  unfold enumD at e
  rw [List.getElem?_mapIdx] at e
  obtain ⟨x, h1, h2⟩ := Option.map_eq_some_iff.mp e
  exact ⟨x, h1, h2.symm⟩
theorem enumD_length {xs : List D} : (enumD xs).length = xs.length := by simp [enumD]
def zipD (xs ys : List D) : List D := (xs.zip ys).map fun p => .tup [p.1, p.2]
theorem zipD_get {xs ys : List D} {i : Nat} {d : D} (e : (zipD xs ys)[i]? = some d) : ∃ x y, xs[i]? = some x ∧ ys[i]? = some y ∧ d = .tup [x, y] := by
  unfold zipD at e
  rw [List.getElem?_map] at e
  obtain ⟨⟨x, y⟩, h1, h2⟩ := Option.map_eq_some_iff.mp e
  rw [List.getElem?_zip_eq_some] at h1
  exact ⟨x, y, h1.1, h1.2, h2.symm⟩
theorem zipD_length {xs ys : List D} : (zipD xs ys).length = min xs.length ys.length := by simp [zipD]
def isTupK : D → Option (List D)
  | .tup xs => some xs
  | .ktp xs => some xs
  | _ => none
section
variable {K : PySem.W.Frag} {H0 : Hp}
theorem fol_eL {a : Addr} {items : List D} {G : DH → Prop} (q : ∀ h H, TX K H0 H → HR K H h → G h → ∃ vs, SqL K H a vs ∧ RVs K H items vs) : Fol K H0 (Ite K a) (enumD items) G := fun i h H x hr g => by
  obtain ⟨vs, s, r⟩ := q h H x hr g
  refine ⟨fun hi => ⟨vs, s, by rw [← r.length]; rw [enumD_length] at hi; exact hi⟩, fun d hd => ?_⟩
  obtain ⟨y, hy, e⟩ := enumD_get hd
  subst e
  obtain ⟨v, hv, rv⟩ := r.get hy
  refine ⟨⟨vs, v, s, hv⟩, fun z H' ⟨T, x', e1, hT, e2, hx⟩ => ?_⟩
  have e3 := hx vs s
  rw [hv] at e3
  cases e3
  subst e1 e2
  have xT : TX K H (upd H T (.tup [.int (i : Nat), v])) := tx_new hT
  exact ⟨xT, hr.lay hT, rv_tup' upd_same (rvs_cons' rv_int' (rvs_cons' (RV.mono xT _ _ rv) rvs_nil'))⟩
theorem fol_eT {a : Addr} {items : List D} {G : DH → Prop} (q : ∀ h H, TX K H0 H → HR K H h → G h → ∃ vs, SqT K H a vs ∧ RVs K H items vs) : Fol K H0 (IteT K a) (enumD items) G := fun i h H x hr g => by
  obtain ⟨vs, s, r⟩ := q h H x hr g
  refine ⟨fun hi => ⟨vs, s, by rw [← r.length]; rw [enumD_length] at hi; exact hi⟩, fun d hd => ?_⟩
  obtain ⟨y, hy, e⟩ := enumD_get hd
  subst e
  obtain ⟨v, hv, rv⟩ := r.get hy
  refine ⟨⟨vs, v, s, hv⟩, fun z H' ⟨T, x', e1, hT, e2, hx⟩ => ?_⟩
  have e3 := hx vs s
  rw [hv] at e3
  cases e3
  subst e1 e2
  have xT : TX K H (upd H T (.tup [.int (i : Nat), v])) := tx_new hT
  exact ⟨xT, hr.lay hT, rv_tup' upd_same (rvs_cons' rv_int' (rvs_cons' (RV.mono xT _ _ rv) rvs_nil'))⟩
theorem fol_zL {a b : Addr} {items items2 : List D} {G : DH → Prop} (q : ∀ h H, TX K H0 H → HR K H h → G h → ∃ vs us, SqL K H a vs ∧ RVs K H items vs ∧ SqL K H b us ∧ RVs K H items2 us) : Fol K H0 (Itz K a b) (zipD items items2) G := fun i h H x hr g => by
  obtain ⟨vs, us, s, r, s2, r2⟩ := q h H x hr g
  refine ⟨fun hi => ⟨vs, us, s, s2, by rw [← r.length, ← r2.length]; rw [zipD_length] at hi; omega⟩, fun d hd => ?_⟩
  obtain ⟨y, y2, hy, hy2, e⟩ := zipD_get hd
  subst e
  obtain ⟨v, hv, rv⟩ := r.get hy
  obtain ⟨u, hu, ru⟩ := r2.get hy2
  refine ⟨⟨vs, us, v, u, s, s2, hv, hu⟩, fun z H' ⟨T, x', x2, e1, hT, e2, hx, hx2⟩ => ?_⟩
  have e3 := hx vs s
  rw [hv] at e3
  cases e3
  have e4 := hx2 us s2
  rw [hu] at e4
  cases e4
  subst e1 e2
  have xT : TX K H (upd H T (.tup [v, u])) := tx_new hT
  exact ⟨xT, hr.lay hT, rv_tup' upd_same (rvs_cons' (RV.mono xT _ _ rv) (rvs_cons' (RV.mono xT _ _ ru) rvs_nil'))⟩
theorem fol_zT {a b : Addr} {items items2 : List D} {G : DH → Prop} (q : ∀ h H, TX K H0 H → HR K H h → G h → ∃ vs us, SqT K H a vs ∧ RVs K H items vs ∧ SqT K H b us ∧ RVs K H items2 us) : Fol K H0 (ItzT K a b) (zipD items items2) G := fun i h H x hr g => by
  obtain ⟨vs, us, s, r, s2, r2⟩ := q h H x hr g
  refine ⟨fun hi => ⟨vs, us, s, s2, by rw [← r.length, ← r2.length]; rw [zipD_length] at hi; omega⟩, fun d hd => ?_⟩
  obtain ⟨y, y2, hy, hy2, e⟩ := zipD_get hd
  subst e
  obtain ⟨v, hv, rv⟩ := r.get hy
  obtain ⟨u, hu, ru⟩ := r2.get hy2
  refine ⟨⟨vs, us, v, u, s, s2, hv, hu⟩, fun z H' ⟨T, x', x2, e1, hT, e2, hx, hx2⟩ => ?_⟩
  have e3 := hx vs s
  rw [hv] at e3
  cases e3
  have e4 := hx2 us s2
  rw [hu] at e4
  cases e4
  subst e1 e2
  have xT : TX K H (upd H T (.tup [v, u])) := tx_new hT
  exact ⟨xT, hr.lay hT, rv_tup' upd_same (rvs_cons' (RV.mono xT _ _ rv) (rvs_cons' (RV.mono xT _ _ ru) rvs_nil'))⟩
/-- what a sequence's items are as long as G stands -/
def seqG (h : DH) : D → DH → Prop
  | .loc a => fun h' => h' a = h a
  | _ => fun _ => True
theorem seqG_v {d : D} {v : V} {h h' : DH} {H H' : Hp} {xs : List D} (r : RV K H d v) (e : seqD h d = some xs) (x : TX K H H') (hr' : HR K H' h') (g : seqG h d h') : ∃ a vs, v = .ref a ∧ SqL K H' a vs ∧ RVs K H' xs vs := by
  cases d with
  | loc a =>
    have g : h' a = h a := g
    have e : lstO (h a) = some xs := e
    rw [← g] at e
    exact seqD_v hr' (show RV K H' (.loc a) v from by rw [rv_loc r]; exact rv_loc') e
  | fls ys => exact seqD_v hr' (RV.mono x _ _ r) (show seqD h' (.fls ys) = some xs from e)
  | _ => cases e
theorem tupK_v {d : D} {v : V} {H : Hp} {xs : List D} (r : RV K H d v) (e : isTupK d = some xs) : ∃ a vs, v = .ref a ∧ RVs K H xs vs ∧ ∀ H', TX K H H' → SqT K H' a vs := by
  cases d with
  | tup ys =>
    cases e
    obtain ⟨a, vs, e2, s, q⟩ := rv_tup r
    exact ⟨a, vs, e2, q, fun H' x => .inl (.inl (x.1 _ _ s))⟩
  | ktp ys =>
    cases e
    obtain ⟨a, vs, e2, s, q⟩ := rv_ktp r
    exact ⟨a, vs, e2, q, fun H' x => s.t⟩
  | _ => cases e
end
def diEnum (a : DA) : DI := fun τ h R => a τ h fun ds h1 => match ds with
  | [d] => (match isTupK d, seqD h1 d with
    | some xs, _ => R (enumD xs) (fun _ => True) h1
    | none, some xs => R (enumD xs) (seqG h1 d) h1
    | none, none => False)
  | _ => False
def diZip (a : DA) : DI := fun τ h R => a τ h fun ds h1 => match ds with
  | [d, e] => (match isTupK d, isTupK e, seqD h1 d, seqD h1 e with
    | some xs, some ys, _, _ => R (zipD xs ys) (fun _ => True) h1
    | none, none, some xs, some ys => R (zipD xs ys) (fun h => seqG h1 d h ∧ seqG h1 e h) h1
    | _, _, _, _ => False)
  | _ => False
section
variable {X : Cx} {K : PySem.W.Frag}
theorem xi_enum {e : Expr} {ta : TA} {da : DA} {p pos tpos : Pos} {elts : List Expr} {kk : Nat} (hm : X.mg "enumerate" = none) (ha : XA X K [e] ta da) (hg : Gl X "enumerate" := by rfl) (hs : starEach [e] X.env = [(false, eval e X.env)] := by rfl) (hK : X.K = K := by rfl) :
    XI X K (.Tuple elts kk tpos) (.Call (.Name "enumerate" p) [e] [] pos) (iEnumA K ta) (diEnum da) := ⟨by subst hK; exact pi_enumA hg hm ha.p hs, fun τ σ h H R R0 rs hr bw w => ha.l τ σ h H _ _ rs hr (fun ds h1 vs H1 x1 r1 hr1 w1 => by
  match ds, w1, r1 with
  | [d], w1, r1 =>
    obtain ⟨v, e1, rv⟩ := rvs_one r1
    subst e1
    cases zt : isTupK d with
    | some xs =>
      have w1 : R (enumD xs) (fun _ => True) h1 := by
        have w1 : (match isTupK d, seqD h1 d with | some xs, _ => R (enumD xs) (fun _ => True) h1 | none, some xs => R (enumD xs) (seqG h1 d) h1 | none, none => False) := w1
        rw [zt] at w1; exact w1
      obtain ⟨a, us, e2, q, s⟩ := tupK_v rv zt
      exact ⟨a, us, by rw [e2], .inr ⟨s H1 TX.refl, bw _ _ h1 H1 _ x1 hr1 w1 (fol_eT fun h H x _ _ => ⟨us, s H x, RVs.mono x _ _ q⟩)⟩⟩
    | none =>
      cases zs : seqD h1 d with
      | none =>
        have w1 : (match isTupK d, seqD h1 d with | some xs, _ => R (enumD xs) (fun _ => True) h1 | none, some xs => R (enumD xs) (seqG h1 d) h1 | none, none => False) := w1
        rw [zt, zs] at w1; exact w1.elim
      | some xs =>
        have w1 : R (enumD xs) (seqG h1 d) h1 := by
          have w1 : (match isTupK d, seqD h1 d with | some xs, _ => R (enumD xs) (fun _ => True) h1 | none, some xs => R (enumD xs) (seqG h1 d) h1 | none, none => False) := w1
          rw [zt, zs] at w1; exact w1
        obtain ⟨a, us, e2, s, q⟩ := seqD_v hr1 rv zs
        refine ⟨a, us, by rw [e2], .inl ⟨s, bw _ _ h1 H1 _ x1 hr1 w1 (fol_eL fun h H x hr g => ?_)⟩⟩
        obtain ⟨a', us', e3, s', q'⟩ := seqG_v rv zs x hr g
        rw [e2] at e3
        cases e3
        exact ⟨us', s', q'⟩) w⟩
theorem xi_zip {e e2 : Expr} {ta : TA} {da : DA} {p pos tpos : Pos} {elts : List Expr} {kk : Nat} (hm : X.mg "zip" = none) (ha : XA X K [e, e2] ta da) (hg : Gl X "zip" := by rfl)
    (hs : starEach [e, e2] X.env = (false, eval e X.env) :: starEach [e2] X.env := by rfl) (hpl : (backTo pos (starEach [e2] X.env)).any (·.1) = false := by rfl) (hK : X.K = K := by rfl) :
    XI X K (.Tuple elts kk tpos) (.Call (.Name "zip" p) [e, e2] [] pos) (iZipA K ta) (diZip da) := ⟨by subst hK; exact pi_zipA hg hm ha.p hs hpl, fun τ σ h H R R0 rs hr bw w => ha.l τ σ h H _ _ rs hr (fun ds h1 vs H1 x1 r1 hr1 w1 => by
  match ds, w1, r1 with
  | [d, d2], w1, r1 =>
    obtain ⟨v, v2, e1, rv, rv2⟩ := rvs_two r1
    subst e1
    have w1 : (match isTupK d, isTupK d2, seqD h1 d, seqD h1 d2 with
      | some xs, some ys, _, _ => R (zipD xs ys) (fun _ => True) h1
      | none, none, some xs, some ys => R (zipD xs ys) (fun h => seqG h1 d h ∧ seqG h1 d2 h) h1
      | _, _, _, _ => False) := w1
    cases zt : isTupK d with
    | some xs =>
      cases zt2 : isTupK d2 with
      | none => rw [zt, zt2] at w1; exact w1.elim
      | some ys =>
        rw [zt, zt2] at w1
        obtain ⟨a, us, e2, q, s⟩ := tupK_v rv zt
        obtain ⟨b, us2, e3, q2, s2⟩ := tupK_v rv2 zt2
        exact ⟨a, b, us, us2, by rw [e2, e3], .inr ⟨s H1 TX.refl, s2 H1 TX.refl, bw _ _ h1 H1 _ x1 hr1 w1 (fol_zT fun h H x _ _ => ⟨us, us2, s H x, RVs.mono x _ _ q, s2 H x, RVs.mono x _ _ q2⟩)⟩⟩
    | none =>
      cases zt2 : isTupK d2 with
      | some ys => rw [zt, zt2] at w1; exact w1.elim
      | none =>
        cases zs : seqD h1 d with
        | none => rw [zt, zt2, zs] at w1; exact w1.elim
        | some xs =>
          cases zs2 : seqD h1 d2 with
          | none => rw [zt, zt2, zs, zs2] at w1; exact w1.elim
          | some ys =>
            rw [zt, zt2, zs, zs2] at w1
            obtain ⟨a, us, e2, s, q⟩ := seqD_v hr1 rv zs
            obtain ⟨b, us2, e3, s2, q2⟩ := seqD_v hr1 rv2 zs2
            refine ⟨a, b, us, us2, by rw [e2, e3], .inl ⟨s, s2, bw _ _ h1 H1 _ x1 hr1 w1 (fol_zL fun h H x hr g => ?_)⟩⟩
            obtain ⟨a', us', e4, s', q'⟩ := seqG_v rv zs x hr g.1
            obtain ⟨b', us2', e5, s2', q2'⟩ := seqG_v rv2 zs2 x hr g.2
            rw [e2] at e4
            cases e4
            rw [e3] at e5
            cases e5
            exact ⟨us', us2', s', q', s2', q2'⟩) w⟩
end
end DL

set_option Elab.async false
set_option linter.all false
set_option maxRecDepth 100000
set_option maxHeartbeats 3200000
/-! DL16: sorted(set(a list of ints)), any number of them. -/
namespace DL
open PySem PySem.Spec PyProof.Rows L2
/-- the object of a set that is just made -/
abbrev newSetO (w : World) : Obj := { cls := .type "set", dict := none, data := .set #[] 0 (.fresh 0 0 (!w.params.followText "set-order")) }
section
variable {P : Program} {w : World} {A : Around} {E : Value → Shared → Prop} {s : Shared}
/-- what set.__init__(S, l) leaves -/
def Filled (w : World) (s : Shared) (ns : List Int) (s₂ : Shared) : Prop := ∃ (h' : Heap) (tk c : Nat), s₂ = { s with heap := h', toks := tk } ∧ SetR w h' s.heap.objs.size (fun j => decide (j ∈ ns)) c ∧ c ≤ ns.length ∧ ∀ b o, s.heap.get? b = some o → h'.get? b = some o
theorem init_list {l : Addr} {items : Array Value} {ns : List Int} {A : Around} (hh : A.handled = none) (hl : s.heap.IsList l items) (hit : IntsAre items.toList ns) (hb : ns.length + 1 < scanBound) :
    wpAny (model P w) A (Builtin.«set.__init__» ⟨[.ref s.heap.objs.size, .ref l], []⟩) (fun fin s' => ∃ v, fin = .done (.ret v) ∧ v = .none ∧ Filled w s ns s') E { s with heap := s.heap.push (newSetO w) } := by
  have lens : items.size = ns.length := (Array.length_toList (xs := items)).symm.trans (IntsAre.length hit)
  have at_S : (s.heap.push (newSetO w)).get? s.heap.objs.size = some (newSetO w) := Heap.get?_push_size _ rfl
  have ty : Shared.TypeIs { s with heap := s.heap.push (newSetO w) } (.ref s.heap.objs.size) "set" := ⟨_, at_S, rfl⟩
  obtain ⟨⟨cls0, dd, data0, sl⟩, at_l, cl, nl, dl⟩ := hl
  simp only at cl dl
  subst cl dl
  have hlt : l < s.heap.objs.size := Heap.lt_size at_l
  have isl : (s.heap.push (newSetO w)).IsList l items := ⟨_, Heap.get?_push_of_some _ at_l, rfl, nl, rfl⟩
  have at_l' : (s.heap.push (newSetO w)).get? l = some { cls := .type "list", dict := dd, data := .seq items nl, slots := sl } := Heap.get?_push_of_some _ at_l
  have f1 := PySem.F.sub_list_set
  have f2 := PySem.F.sub_list_frozenset
  have f3 : (Value.type "list" == Value.type "dict") = false := by decide
  have sub := PySem.F.called_set.sub
  unfold Builtin.«set.__init__» noKeywords Builtin.Frozenset.updateFrom
  generalize hPI : pyIter = PI
  wp_walk
  subst hPI
  refine wpAny_pyIter_list isl (wpAny_bind (wpAny_runValue ?_))
  have sz : (s.heap.push (newSetO w)).objs.size = s.heap.objs.size + 1 := Heap.size_push ..
  have handled : A.in1.handled = none := by simp [hh]
  have ne1 : l ≠ (s.heap.push (newSetO w)).objs.size := by rw [sz]; exact Nat.ne_of_lt (Nat.lt_succ_of_lt hlt)
  have ne2 : s.heap.objs.size ∉ [(s.heap.push (newSetO w)).objs.size, l] := by rw [sz]; simp only [List.mem_cons, List.not_mem_nil, or_false, not_or]; exact ⟨Nat.ne_of_lt (Nat.lt_succ_self _), Nat.ne_of_gt hlt⟩
  have at2 : ((s.heap.push (newSetO w)).push { cls := .type "list_iterator", data := .fields #[.ref l, .int 0 0] }).get? s.heap.objs.size = some (newSetO w) := Heap.get?_push_of_some _ at_S
  have r0 : SetR w ((s.heap.push (newSetO w)).push { cls := .type "list_iterator", data := .fields #[.ref l, .int 0 0] }) s.heap.objs.size (fun j => decide (j ∈ ns.take 0)) 0 := setR_new_at at2
  refine set_update_ints ((Walks.list handled _ l ne1 items).toS) s.heap.objs.size ne2 ns lens hb
    (fun i v hv => ?_) (items.size - 0) 0 { s with heap := (s.heap.push (newSetO w)).push { cls := .type "list_iterator", data := .fields #[.ref l, .int 0 0] } } (by omega) (Nat.zero_le _) ⟨⟨_, Heap.get?_push_size _ rfl, rfl, rfl⟩, isl.push _⟩ ⟨0, Nat.le_refl 0, r0⟩ fun s' c' hm hc' hS' => ?_
  · obtain ⟨t, e⟩ := PyProof.Rows.IntsAre.int_at hit i v (by rw [Array.getElem?_toList]; exact hv)
    have hi : i < ns.length := by rw [← lens]; exact (Array.getElem?_eq_some_iff.mp hv).1
    refine ⟨ns[i], t, List.getElem?_eq_getElem hi, ?_⟩
    rw [e, List.getD_eq_getElem?_getD, List.getElem?_eq_getElem hi] <;> rfl
  · obtain ⟨h', g2, d', tk', os'⟩ := s'
    obtain rfl : g2 = s.gens := hm.gens
    obtain rfl : d' = s.drawn := hm.drawn
    obtain rfl : os' = s.os := hm.os
    refine wpAny_pure ?_
    show wpAny _ _ (ret Value.none) _ _ _
    refine wpAny_pure ⟨_, rfl, rfl, h', tk', c', rfl, hS', by omega, fun b o e => ?_⟩
    have hb0 : b < s.heap.objs.size := Heap.lt_size e
    refine hm.heap b o ?_ (Heap.get?_push_of_some _ (Heap.get?_push_of_some _ e))
    simp only [List.mem_cons, List.not_mem_nil, or_false, not_or]
    exact ⟨Nat.ne_of_lt hb0, by rw [sz]; exact Nat.ne_of_lt (Nat.lt_succ_of_lt hb0)⟩
/-- set(l) -/
theorem set_ints {l : Addr} {items : Array Value} {ns : List Int} {Q : Value → Shared → Prop} (hh : A.handled = none) (hl : s.heap.IsList l items) (hit : IntsAre items.toList ns) (hb : ns.length + 1 < scanBound)
    (h : ∀ s', Filled w s ns s' → Q (.ref s.heap.objs.size) s') : wpAny (model P w) A (call (.type "set") [.ref l]) Q E s := by
  obtain ⟨_, _, mro⟩ := PySem.F.called_set.mro
  have made := PySem.F.called_set.made
  have sub := PySem.F.called_set.sub
  have noType := PySem.F.called_set.notType
  have creates := PySem.F.called_set.canCreate
  have tc := PySem.F.typeCall_set_1 (.ref l)
  refine wpAny_call (codeAny_of_tree ?_)
  show wpAny _ _ (callAny (.type "set") _) _ _ _
  refine wpAny_pure ⟨Code.quiet_builtin _ (by decide +kernel), codeAny_builtin F.entry_type_call ?_⟩
  rw [Around.under_plain (weight_type_call_type "set" [.ref l] []) rfl]
  repeat (any_goals (first | assumption | wp_step))
  refine codeAny_mono (code_set_led1 (.ref l) (E := E) (Q₁ := fun obj s₁ => obj = .ref s.heap.objs.size ∧ s₁ = { s with heap := s.heap.push (newSetO w) }) ⟨rfl, rfl⟩) fun r s₁ hr => ?_
  match r, hr with
  | .error e, hr => exact hr
  | .ok (.ret obj), ⟨e1, e2⟩ =>
    subst e1 e2
    have ty : Shared.TypeIs { s with heap := s.heap.push (newSetO w) } (.ref s.heap.objs.size) "set" := ⟨_, Heap.get?_push_size _ rfl, rfl⟩
    have look := PySem.F.called_set.init.lookup
    have bnd := PySem.F.called_set.init.bind (.ref s.heap.objs.size)
    repeat (any_goals (first | assumption | wp_step))
    refine codeAny_mono (codeAny_call_builtin (R := wants (fun r s₂ => r = .none ∧ Filled w s ns s₂) E) PySem.F.called_set.init.plain PySem.F.entry_set_init (check_set_init_1 ty ?_)) fun r₂ s₂ hr₂ => ?_
    · refine wpAny_mono (init_list (by simp [hh]) hl hit hb) (fun fin s' ⟨v, e, q⟩ => ?_) fun _ _ q => q
      subst e
      exact q
    · match r₂, hr₂ with
      | .error e, hr₂ => exact hr₂
      | .ok (.ret r), ⟨e, q⟩ =>
        subst e
        repeat (any_goals (first | assumption | wp_step))
        exact h _ q
/-- sorted(S), a set of ints of any size -/
theorem sort_ints {a : Addr} {S : Int → Bool} {n : Nat} {Q : Value → Shared → Prop} (R : SetR w s.heap a S n) (hh : A.handled = none)
    (hQ : ∀ s' p (out : List Value) (c : Nat) (ns : List Int), (∀ b o, s.heap.get? b = some o → s'.heap.get? b = some o) → s'.gens = s.gens → s'.os = s.os → s.heap.objs.size ≤ p →
      s'.heap.get? p = some (seqObj "list" out.toArray c) → IntsAre out ns → ns.Pairwise (· < ·) → (∀ k, k ∈ ns ↔ S k = true) → ns.length ≤ scanBound → Q (.ref p) s') : wpAny (model P w) A (call (.builtin "sorted") [.ref a]) Q E s := by
  obtain ⟨o, es, ep, t, at_a, ex, dat, good, nd, mem, few, fits, _, ris, led⟩ := R
  refine Calls.call_function_entry kind_sorted plain_sorted entry_sorted (args_sorted1 _) ?_
  unfold Builtin.«sorted»
  refine wpAny_bind (m := checkCount "sorted" 1 1 _) (wpAny_pure (wpAny_bind (collect_set (A := A.in1) hh ⟨o, at_a, ex.1, dat⟩ fits few ris led fun s1 vs keep le g1 o1 pm => ?_)))
  have isInt : ∀ v ∈ vs, ∃ i t, v = Value.int i t := fun v hv => by
    obtain ⟨e, he, q⟩ := List.mem_map.mp (pm.mem_iff.mp hv)
    obtain ⟨k, tk, z, _⟩ := good e he
    exact ⟨k, tk, by rw [← q]; exact z⟩
  have areI := SrtO.ints_iv isInt
  have lenv : vs.length ≤ scanBound := by rw [pm.length_eq, List.length_map, Array.length_toList]; exact Nat.le_of_lt few
  have lenz : vs.length ≤ sizeLine := Nat.le_trans lenv (by unfold scanBound; rw [sizeLine_eq]; omega)
  have keys : vs.map SrtO.iv = vs.map Builtin.Re.reRawOf := List.map_congr_left fun v hv => by
    obtain ⟨i, t, e⟩ := isInt v hv
    rw [e]; rfl
  have pk : (vs.map SrtO.iv).Perm (es.toList.map keyOf) := by
    rw [keys]
    have q := pm.map Builtin.Re.reRawOf
    rw [List.map_map] at q
    exact q
  refine wpAny_bind (wpAny_newList ?_ lenz)
  have at_L : (s1.heap.push (seqObj "list" vs.toArray 0)).get? s1.heap.objs.size = some (seqObj "list" vs.toArray 0) := Heap.get?_push_size _ rfl
  refine wpAny_bind (wpAny_holding (wpAny_call_entry slot_list_sort ⟨_, at_L, rfl⟩ entry_list_sort
    (SrtO.list_sort_ord (s := { s1 with heap := s1.heap.push (seqObj "list" vs.toArray 0) }) SrtO.swo_int at_L lenz (fun h2 => SrtO.ints_sortable areI h2) fun out b1 b2 => ⟨_, rfl, ?_⟩) (args_list_sort _)))
  obtain ⟨k1, k2, k3⟩ := SrtO.ints_out areI b1 b2
  obtain ⟨c, at_c⟩ := sortedHeap_at (vs := vs) (out := out.toArray) at_L
  have pn := k2.trans pk
  refine wpAny_pure ⟨_, rfl, hQ _ s1.heap.objs.size out c _ (fun b u e => ?_) g1 o1 le at_c k1 (lt_of_le_nodup _ k3 (pn.nodup_iff.mpr nd)) (fun k => by rw [pn.mem_iff, ← mem k]) (by rw [k2.length_eq, List.length_map]; exact lenv)⟩
  have q := keep b u e
  have hlt := Heap.lt_size q
  show (sortedHeap (s1.heap.push (seqObj "list" vs.toArray 0)) s1.heap.objs.size vs _).get? b = some u
  rw [sortedHeap_old (Nat.ne_of_lt hlt) (by rw [size_push']; exact Nat.lt_succ_of_lt hlt)]
  exact Heap.get?_push_of_some _ q
end
/-! ### over the layer -/
def rSetI (K : PySem.W.Frag) (w : World) : List V → Hp → VK → Prop := fun xs H Q => ∃ (l : Addr) (ns : List Int), xs = [V.ref l] ∧ SqL K H l (ns.map V.int) ∧ ns.length + 1 < scanBound ∧ ∀ a c, H a = none → Q (.ref a) (upd H a (SetO w a (fun j => decide (j ∈ ns)) c))
def rSortedSI (w : World) : List V → Hp → VK → Prop := fun vs H Q => ∃ (a : Addr) (S : Int → Bool) (n : Nat), vs = [V.ref a] ∧ H a = some (SetO w a S n) ∧
  ∀ (ns : List Int) (p : Addr), ns.Pairwise (· < ·) → (∀ k : Int, k ∈ ns ↔ S k = true) → H p = none → Q (.ref p) (upd H p (.lst (ns.map V.int)))
section
variable {X : Cx}
theorem cr_setI (hc : X.calm = true) : CallR X (.type "set") (rSetI X.K X.w) := by
  intro pins s σ H xs us Q I r h
  obtain ⟨l, ns, rfl, hl, hb, q⟩ := h
  rw [Vals.ref1 r]
  obtain ⟨its, rv, pl, hz⟩ := I.list hl
  refine set_ints (I.ok.hd hc) pl.isList (by simpa using rv.ints) hb fun s' ⟨h', tk, c, e, R, hc, keep⟩ => ?_
  subst e
  exact ⟨.ref s.heap.objs.size, upd H s.heap.objs.size (SetO X.w s.heap.objs.size (fun j => decide (j ∈ ns)) c), I.laid (t' := tk) keep (Nat.le_refl _) (setO_new R), rfl, q _ c (I.hok.fresh (Nat.le_refl _))⟩
theorem cr_sortedSI (hc : X.calm = true) : CallR X (.builtin "sorted") (rSortedSI X.w) := by
  intro pins s σ H vs us Q I r h
  obtain ⟨a, S, n, rfl, ha, q⟩ := h
  rw [Vals.ref1 r]
  refine sort_ints (setO_get I ha) (I.ok.hd hc) fun s' p out c ns k g o hp hg hi hs hm hl => ?_
  have hlen : (ns.map V.int).length ≤ sizeLine := by
    rw [List.length_map, sizeLine_eq]
    have e : scanBound = scanBound := rfl
    unfold scanBound at hl
    omega
  have hn : H p = none := I.hok.fresh hp
  obtain ⟨h', g', d', t', o'⟩ := s'
  obtain rfl : g' = s.gens := g
  obtain rfl : o' = s.os := o
  refine ⟨.ref p, upd H p (.lst (ns.map V.int)), ?_, rfl, q ns p hs hm hn⟩
  exact I.call (ch := []) (h' := h') (g' := s.gens) (d' := d') (t' := t') (Un.laid k hp hn) (I.hok.laid k hp ⟨hlen, out, c, vals_of_ints hi, hg⟩) I.bare (fun _ z => nomatch z)
end
def kSortI0 (o : Option (List Int)) (h : DH) (Q : DK) : Prop := match o with
  | some ks => ks.length ≤ 4000 ∧ ∀ (ms : List Int) (p : Addr), (∀ k, k ∈ ms ↔ k ∈ ks) → ms.Pairwise (· < ·) → h p = none → Q (.loc p) (hupd h p (.lst (ms.map D.int)))
  | none => False
@[irreducible] noncomputable def kSortI : Option (List Int) → DH → DK → Prop := hide kSortI0
theorem kSortI_eq {o : Option (List Int)} {h : DH} {Q : DK} : kSortI o h Q = kSortI0 o h Q := by unfold kSortI; rw [hide_eq]
noncomputable def dSortSetI (t : DE) : DE := fun τ h Q => t τ h fun x h1 => kSortI ((seqD h1 x).bind intsD) h1 Q
section
variable {X : Cx} {K : PySem.W.Frag} {e : Expr} {te : TE} {de : DE} {p1 p2 p3 p4 : Pos}
theorem xsortsetI (hc : X.calm = true) (hu : X.A.units + 64 < cLine) (he : XE X K e te de) (hm : X.mg "sorted" = none) (hm2 : X.mg "set" = none) (hg : Gl X "sorted" := by rfl) (hg2 : Gl X "set" := by rfl)
    (h1 : starEach [e] X.env = [(false, eval e X.env)] := by rfl) (h2 : starEach [.Call (.Name "set" p3) [e] [] p4] X.env = [(false, eval (.Call (.Name "set" p3) [e] [] p4) X.env)] := by rfl) (hK : X.K = K := by rfl) :
    XE X K (.Call (.Name "sorted" p1) [.Call (.Name "set" p3) [e] [] p4] [] p2) (tCB (rSortedSI X.w) (tCons (tCB (rSetI X.K X.w) (tCons te tNil)) tNil)) (dSortSetI de) := by
  subst hK
  refine ⟨pe_callB (cr_sortedSI hc) hg hm (by decide +kernel) (pa_cons (pe_callTy (cr_setI hc) hg2 hm2 (by decide +kernel) (pa_cons he.p pa_nil h1) (he := h1)) pa_nil h2) (he := h2), fun τ σ h H Q Q0 rs hr bw w => he.l τ σ h H _ _ rs hr (fun x h1 v H1 x1 r1 hr1 w1 => ?_) w⟩
  rw [kSortI_eq] at w1
  unfold kSortI0 at w1
  cases z : (seqD h1 x).bind intsD with
  | none => rw [z] at w1; exact w1.elim
  | some ks =>
    rw [z] at w1
    obtain ⟨w2, w3⟩ := w1
    obtain ⟨l, e1, s⟩ := ints_v hr1 r1 z
    subst e1
    refine ⟨l, ks, rfl, s, by unfold scanBound; omega, fun a c ha => ?_⟩
    have xa : TX X.K H1 (upd H1 a (SetO X.w a (fun j => decide (j ∈ ks)) c)) := tx_new ha
    refine ⟨a, _, c, rfl, upd_same, fun ns p hs hm hp => ?_⟩
    have xp : TX X.K (upd H1 a (SetO X.w a (fun j => decide (j ∈ ks)) c)) (upd (upd H1 a (SetO X.w a (fun j => decide (j ∈ ks)) c)) p (.lst (ns.map V.int))) := tx_new hp
    have hrA : HR X.K (upd H1 a (SetO X.w a (fun j => decide (j ∈ ks)) c)) h1 := hr1.lay ha
    exact bw _ _ _ _ (x1.trans (xa.trans xp)) rv_loc' (hrA.put xp (ro_lst xp (rvs_ints ns))) (w3 ns p (fun k => by rw [hm k]; simp) hs (hrA.free hp))
end
theorem w_sortI {x : D} {ks : List Int} {h : DH} {Q : DK} (e : (seqD h x).bind intsD = some ks) (l : ks.length ≤ 4000) (k : ∀ (ms : List Int) (p : Addr), (∀ k, k ∈ ms ↔ k ∈ ks) → ms.Pairwise (· < ·) → h p = none → Q (.loc p) (hupd h p (.lst (ms.map D.int)))) : kSortI ((seqD h x).bind intsD) h Q := by
  rw [kSortI_eq, e]; exact ⟨l, k⟩
end DL

set_option Elab.async false
set_option linter.all false
set_option maxRecDepth 100000
/-! DL17: loops over range(n). -/
namespace DL
open PySem PySem.Spec PyProof.Rows L2
theorem w_range0 {g : DTG} {tb : DS} {N : DEnds} {n : Nat} {τ : DSt} {h : DH} (I : Nat → DSt → DH → Prop) (h0 : I 0 τ h)
    (step : ∀ i τ h (nx : DSt → DH → Prop), i < n → I i τ h → (∀ τ2 h2, I (i + 1) τ2 h2 → nx τ2 h2) → g (.int (i : Nat)) τ h fun τ1 h1 => tb { N with nx := nx, ct := nx, bk := N.nx } τ1 h1)
    (last : ∀ τ h, I n τ h → N.nx τ h) : kLoop (fun _ => True) g tb N (rangeD 0 n) τ h := by
  refine w_range I h0 (fun i τ h nx hi q k => ?_) last
  rw [Int.zero_add]
  exact step i τ h nx hi q k
theorem rangeD_get0 {n i : Nat} {d : D} (e : (rangeD 0 n)[i]? = some d) : i < n ∧ d = .int (i : Nat) := by
  obtain ⟨h1, h2⟩ := rangeD_get e
  rw [Int.zero_add] at h2
  exact ⟨h1, h2⟩
theorem atI_at {xs : List D} {v : Int} (h0 : 0 ≤ v) (h1 : v.toNat < xs.length) : atI xs v = some xs[v.toNat] := by
  unfold atI
  unfold ixN
  rw [if_pos h0, if_pos (by omega)]
  simp [h1]
theorem atI_nth {xs : List D} {i : Nat} {d : D} (h : xs[i]? = some d) : getI xs (.int (i : Nat)) = some d := atI_nat h
/-- a comprehension that tests nothing, item by item: f gives each item's value -/
theorem w_map {G : DH → Prop} {g : DTG} {te : DE} {p : Addr} {τ : DSt} {Q : DK} {items : List D} {h : DH} (f : Nat → D) (hp : h p = none) (hlen : items.length < sizeLine) (hG : ∀ h', Ext h h' → G h')
    (step : ∀ i d h' (C : D → DH → Prop), items[i]? = some d → Ext h h' → (∀ h2, Ext h' h2 → C (f i) h2) → g d τ h' fun τ2 h2 => te τ2 h2 C)
    (last : ∀ h', Ext h h' → h' p = some (.lst ((List.range items.length).map f)) → Q (.loc p) h') : kGo G g dYes te p τ Q items (hupd h p (.lst [])) := by
  refine w_go (I := fun i h' => Ext h h' ∧ h' p = some (.lst ((List.range i).map f))) ⟨ext_new hp, hupd_same⟩ (fun _ h' _ I => hG h' I.1) ?_ (fun h' I => last h' I.1 I.2)
  rintro i d h' C e ⟨x, ep⟩ hC
  have hi : i < items.length := (List.getElem?_eq_some_iff.mp e).1
  have q := step i d h' (fun y h4 => kPush p C y h4) e x (fun h2 x2 => ?_)
  · have e1 : (fun τ2 h2 => te τ2 h2 fun y h4 => kPush p C y h4) = fun τ2 h2 => dYes τ2 h2 fun b h3 => kIte b (te τ2 h3 fun y h4 => kPush p C y h4) (C h3) := by
      funext τ2 h2
      show _ = kIte true _ _
      rw [kIte_eq, if_pos rfl]
    rw [e1] at q
    exact q
  · refine w_push (x2 _ _ ep) (by rw [List.length_map, List.length_range]; omega) (hC _ ⟨fun a o q => ?_, ?_⟩)
    · rw [hupd_ne (fun z => by subst z; rw [hp] at q; cases q)]
      exact x2 a o (x a o q)
    · rw [hupd_same, List.range_succ, List.map_append]; rfl
/-- a comprehension with a test: f gives what is kept of each item -/
theorem w_filt {G : DH → Prop} {g : DTG} {tt : DT} {te : DE} {p : Addr} {τ : DSt} {Q : DK} {items : List D} {h : DH} (f : Nat → Option D) (hp : h p = none) (hlen : items.length < sizeLine) (hG : ∀ h', Ext h h' → G h')
    (step : ∀ i d h' (C1 : D → DH → Prop) (C0 : DH → Prop), items[i]? = some d → Ext h h' → (∀ v h2, f i = some v → Ext h' h2 → C1 v h2) → (∀ h2, f i = none → Ext h' h2 → C0 h2) → g d τ h' fun τ2 h2 => tt τ2 h2 fun b h3 => kIte b (te τ2 h3 C1) (C0 h3))
    (last : ∀ h', Ext h h' → h' p = some (.lst ((List.range items.length).filterMap f)) → Q (.loc p) h') : kGo G g tt te p τ Q items (hupd h p (.lst [])) := by
  refine w_go (I := fun i h' => Ext h h' ∧ h' p = some (.lst ((List.range i).filterMap f))) ⟨ext_new hp, hupd_same⟩ (fun _ h' _ I => hG h' I.1) ?_ (fun h' I => last h' I.1 I.2)
  rintro i d h' C e ⟨x, ep⟩ hC
  have hi : i < items.length := (List.getElem?_eq_some_iff.mp e).1
  refine step i d h' (fun y h4 => kPush p C y h4) C e x (fun v h2 fv x2 => ?_) (fun h2 fv x2 => ?_)
  · refine w_push (x2 _ _ ep) (by have := List.length_filterMap_le f (List.range i); rw [List.length_range] at this; omega) (hC _ ⟨fun a o q => ?_, ?_⟩)
    · rw [hupd_ne (fun z => by subst z; rw [hp] at q; cases q)]
      exact x2 a o (x a o q)
    · rw [hupd_same, List.range_succ, List.filterMap_append]
      simp [fv]
  · refine hC _ ⟨x.trans x2, ?_⟩
    rw [x2 _ _ ep, List.range_succ, List.filterMap_append]
    simp [fv]
theorem eqv_nil (xs : List PyData) : PyData.eqv (.list xs) (.list []) = xs.isEmpty := by
  cases xs with
  | nil => simp [PyData.eqv, PyData.eqvAll]
  | cons x xs => simp [PyData.eqv, PyData.eqvAll]
end DL
namespace DL
open PySem PySem.Spec PyProof.Rows L2
/-! ### cuts: what holds behind a piece, whatever follows -/
theorem w_par {i j : Nat} {A : DA} {N : DEnds} {τ : DSt} {h : DH} (P : D → D → DH → Prop) (hA : ∀ Q : List D → DH → Prop, (∀ v w h', P v w h' → Q [v, w] h') → A τ h Q) (k : ∀ v w h', P v w h' → N.nx ((τ.set i (some v)).set j (some w)) h') : dPar i j A N τ h :=
  hA _ fun v w h' p => k v w h' p
theorem w_cons {e : DE} {r : DA} {τ : DSt} {h : DH} {Q : List D → DH → Prop} (P : D → DH → Prop) (he : ∀ Qd : DK, (∀ v h', P v h' → Qd v h') → e τ h Qd) (k : ∀ v h', P v h' → r τ h' fun xs h2 => Q (v :: xs) h2) : dCons e r τ h Q := he _ k
theorem w_cut {t u : DS} {N : DEnds} {τ : DSt} {h : DH} (P : DSt → DH → Prop) (ht : ∀ nx : DSt → DH → Prop, (∀ τ' h', P τ' h' → nx τ' h') → t { N with nx := nx } τ h) (hu : ∀ τ' h', P τ' h' → u N τ' h') : dSeq t u N τ h := ht _ hu
theorem w_asg {e : DE} {g : DTG} {N : DEnds} {τ : DSt} {h : DH} (P : D → DH → Prop) (he : ∀ Qd : DK, (∀ v h', P v h' → Qd v h') → e τ h Qd) (k : ∀ v h', P v h' → g v τ h' N.nx) : dAsg e g N τ h := he _ k
end DL
namespace DL
open PySem PySem.Spec PyProof.Rows L2
/-! ### what repr can show -/
structure Rp (p : PyData) (d b : Nat) : Prop where
  sh : p.showable = true
  dp : p.depth ≤ d
  lv : p.leavesShort 101 = true
  bk : p.bulk ≤ b
structure RpL (p : List PyData) (d b : Nat) : Prop where
  sh : PyData.showableAll p = true
  dp : PyData.depthAll p ≤ d
  lv : PyData.leavesShortAll 101 p = true
  bk : PyData.bulkAll p ≤ b
theorem Rp.int {i : Int} {d b : Nat} (h : okI i) : Rp (.int i) d b := ⟨show_int h, by simp [PyData.depth], leaf_int h, by simp [PyData.bulk]⟩
theorem Rp.non {d b : Nat} : Rp .none d b := ⟨by simp [PyData.showable], by simp [PyData.depth], by simp [PyData.leavesShort], by simp [PyData.bulk]⟩
theorem Rp.bl {x : Bool} {d b : Nat} : Rp (.bool x) d b := ⟨by simp [PyData.showable], by simp [PyData.depth], by simp [PyData.leavesShort], by simp [PyData.bulk]⟩
theorem Rp.str {x : Str} {d b : Nat} (h : x.cps.size ≤ b) (hl : PyData.leavesShort 101 (.str x) = true := by rfl) : Rp (.str x) d b := ⟨by simp [PyData.showable], by simp [PyData.depth], hl, by simp [PyData.bulk]; exact h⟩
theorem RpL.nil {d b : Nat} : RpL [] d b := ⟨by simp [PyData.showableAll], by simp [PyData.depthAll], by simp [PyData.leavesShortAll], by simp [PyData.bulkAll]⟩
theorem RpL.cons {p : PyData} {ps : List PyData} {d b b2 b3 : Nat} (h : Rp p d b) (r : RpL ps d b2) (e : b + 1 + b2 ≤ b3) : RpL (p :: ps) d b3 := ⟨by simp [PyData.showableAll, h.sh, r.sh], by have := h.dp; have := r.dp; simp only [PyData.depthAll]; omega, by simp [PyData.leavesShortAll, h.lv, r.lv], by have := h.bk; have := r.bk; simp only [PyData.bulkAll]; omega⟩
theorem RpL.n {d : Nat} : RpL [] d 0 := .nil
theorem RpL.c {p : PyData} {ps : List PyData} {d b b2 : Nat} (h : Rp p d b) (r : RpL ps d b2) : RpL (p :: ps) d (b + 1 + b2) := .cons h r (Nat.le_refl _)
theorem Rp.list {ps : List PyData} {d b : Nat} (r : RpL ps d b) : Rp (.list ps) (d + 1) b := ⟨by simp [PyData.showable, r.sh], by have := r.dp; simp only [PyData.depth]; omega, by simp [PyData.leavesShort, r.lv], by have := r.bk; simp only [PyData.bulk]; exact this⟩
theorem Rp.tup {ps : List PyData} {d b : Nat} (r : RpL ps d b) : Rp (.tuple ps) (d + 1) b := ⟨by simp [PyData.showable, r.sh], by have := r.dp; simp only [PyData.depth]; omega, by simp [PyData.leavesShort, r.lv], by have := r.bk; simp only [PyData.bulk]; exact this⟩
theorem RpL.all {ps : List PyData} {d b : Nat} (h : ∀ p ∈ ps, Rp p d b) : RpL ps d (ps.length * (b + 1)) := by
  induction ps with
  | nil => exact .nil
  | cons p ps ih =>
    refine .cons (h p List.mem_cons_self) (ih fun q hq => h q (List.mem_cons_of_mem _ hq)) ?_
    rw [List.length_cons, Nat.succ_mul]; omega
theorem Rp.mono {p : PyData} {d b d2 b2 : Nat} (h : Rp p d b) (h1 : d ≤ d2) (h2 : b ≤ b2) : Rp p d2 b2 := ⟨h.sh, Nat.le_trans h.dp h1, h.lv, Nat.le_trans h.bk h2⟩
theorem RpL.mono {p : List PyData} {d b d2 b2 : Nat} (h : RpL p d b) (h1 : d ≤ d2) (h2 : b ≤ b2) : RpL p d2 b2 := ⟨h.sh, Nat.le_trans h.dp h1, h.lv, Nat.le_trans h.bk h2⟩
theorem w_rep {d : D} {h : DH} {Q : DK} {p : PyData} {n b : Nat} (pd : PD h d p) (r : Rp p n b) (hn : n ≤ 50) (hb : b ≤ 150000) (k : Q (.str p.shown) h) : kRepr [d] h Q := w_repr pd r.sh (Nat.le_trans r.dp hn) r.lv (Nat.le_trans r.bk hb) k
def optP : Option Int → PyData
  | none => .none
  | some i => .int i

end DL
namespace DL
open PySem PySem.Spec PyProof.Rows L2
theorem cutD_drop (xs : List D) (k : Nat) : cutD xs (some (k : Int)) none = xs.drop k := by
  unfold cutD
  rw [HT.sIx_none, HT.sIx_nat]
  by_cases h : k ≤ xs.length
  · rw [Nat.min_eq_left h, List.take_of_length_le (by rw [List.length_drop]; omega)]
  · rw [Nat.min_eq_right (by omega), List.drop_of_length_le (Nat.le_refl _), List.drop_of_length_le (by omega)]; simp
theorem cutD_take (xs : List D) (k : Nat) : cutD xs none (some (k : Int)) = xs.take k := by
  unfold cutD
  rw [HT.sIx_none, HT.sIx_nat, List.drop_zero, Nat.sub_zero]
  by_cases h : k ≤ xs.length
  · rw [Nat.min_eq_left h]
  · rw [Nat.min_eq_right (by omega), List.take_of_length_le (Nat.le_refl _), List.take_of_length_le (by omega)]
end DL
namespace DL
open PySem PySem.Spec PyProof.Rows L2
theorem small2 {n : Nat} (h : n ≤ 1000000) : n < sizeLine := Nat.lt_of_le_of_lt h (Nat.lt_of_succ_le (Nat.le_of_ble_eq_true rfl))
theorem seqI {h : DH} {p : Addr} {ns : List Int} (e : h p = some (.lst (ns.map D.int))) : (seqD h (.loc p)).bind intsD = some ns := by
  rw [seq_of e, Option.bind_some, intsD_map]
end DL

set_option Elab.async false
set_option linter.all false
set_option maxRecDepth 100000
/-! DL18: data that == takes. -/
namespace DL
open PySem PySem.Spec PyProof.Rows L2
structure Sh (p : PyData) (d : Nat) : Prop where
  cl : p.canLay0 = true
  dp : p.depth ≤ d
structure ShL (p : List PyData) (d : Nat) : Prop where
  cl : PyData.canLayAll0 p = true
  dp : PyData.depthAll p ≤ d
theorem Sh.int {i : Int} {d : Nat} : Sh (.int i) d := ⟨by simp [PyData.canLay0], by simp [PyData.depth]⟩
theorem Sh.non {d : Nat} : Sh .none d := ⟨by simp [PyData.canLay0], by simp [PyData.depth]⟩
theorem Sh.bl {x : Bool} {d : Nat} : Sh (.bool x) d := ⟨by simp [PyData.canLay0], by simp [PyData.depth]⟩
theorem Sh.str {x : Str} {d : Nat} (h : PyData.canLay0 (.str x) = true := by rfl) : Sh (.str x) d := ⟨h, by simp [PyData.depth]⟩
theorem ShL.n {d : Nat} : ShL [] d := ⟨by simp [PyData.canLayAll0], by simp [PyData.depthAll]⟩
theorem ShL.c {p : PyData} {ps : List PyData} {d : Nat} (h : Sh p d) (r : ShL ps d) : ShL (p :: ps) d := ⟨by simp [PyData.canLayAll0, h.cl, r.cl], by have := h.dp; have := r.dp; simp only [PyData.depthAll]; omega⟩
theorem Sh.list {ps : List PyData} {d : Nat} (r : ShL ps d) : Sh (.list ps) (d + 1) := ⟨by simp [PyData.canLay0, r.cl], by have := r.dp; simp only [PyData.depth]; omega⟩
theorem Sh.tup {ps : List PyData} {d : Nat} (r : ShL ps d) : Sh (.tuple ps) (d + 1) := ⟨by simp [PyData.canLay0, r.cl], by have := r.dp; simp only [PyData.depth]; omega⟩
theorem ShL.map {α : Type} {f : α → PyData} {l : List α} {d : Nat} (h : ∀ a ∈ l, Sh (f a) d) : ShL (l.map f) d := by
  induction l with
  | nil => exact .n
  | cons a l ih => exact .c (h a List.mem_cons_self) (ih fun b hb => h b (List.mem_cons_of_mem _ hb))
theorem Sh.ok {p : PyData} {d : Nat} (s : Sh p d) (h : d ≤ 64) : SeqAt.shaped p = true := by
  unfold SeqAt.shaped
  rw [s.cl, decide_eq_true (Nat.le_trans s.dp h)]; rfl
theorem Sh.refl {p : PyData} {d : Nat} (s : Sh p d) : PyData.eqv p p = true := SeqAt.eqv_refl _ s.cl
theorem eqvT_nil (xs : List PyData) : PyData.eqv (.tuple xs) (.tuple []) = xs.isEmpty := by
  cases xs with
  | nil => simp [PyData.eqv, PyData.eqvAll]
  | cons x xs => simp [PyData.eqv, PyData.eqvAll]
theorem RpL.map {α : Type} {f : α → PyData} {l : List α} {d b : Nat} (h : ∀ a ∈ l, Rp (f a) d b) : RpL (l.map f) d (l.length * (b + 1)) := by
  have := RpL.all (ps := l.map f) (d := d) (b := b) fun p hp => by
    obtain ⟨a, ha, rfl⟩ := List.mem_map.mp hp
    exact h a ha
  rwa [List.length_map] at this
theorem pds_map {α : Type} {f : α → D} {g : α → PyData} {h : DH} (k : ∀ a, PD h (f a) (g a)) : ∀ l : List α, PDs h (l.map f) (l.map g)
  | [] => .nil
  | a :: l => .cons (k a) (pds_map k l)
theorem mulM {i j : Int} (h1 : i.natAbs < 2 ^ 250) (h2 : j.natAbs < 2 ^ 250) : MulOk i j := .inr (.inr ⟨h1, h2⟩)
end DL
namespace DL
open PySem PySem.Spec PyProof.Rows L2
def cutL {α : Type} (xs : List α) (lo hi : Option Int) : List α := (xs.drop (HT.sIx xs.length 0 lo)).take (HT.sIx xs.length xs.length hi - HT.sIx xs.length 0 lo)
theorem cutD_map {α : Type} (f : α → D) (l : List α) (lo hi : Option Int) : cutD (l.map f) lo hi = (cutL l lo hi).map f := by
  unfold cutD cutL
  rw [List.length_map, List.map_take, List.map_drop]
theorem mem_cutL {α : Type} {x : α} {l : List α} {lo hi : Option Int} (h : x ∈ cutL l lo hi) : x ∈ l := by
  unfold cutL at h
  exact List.mem_of_mem_drop (List.mem_of_mem_take h)
theorem cutL_length {α : Type} (l : List α) (lo hi : Option Int) : (cutL l lo hi).length ≤ l.length := by
  unfold cutL
  rw [List.length_take, List.length_drop]; omega
theorem filt_int' (f : Nat → Option Int) (l : List Nat) : l.filterMap (fun i => (f i).map D.int) = (l.filterMap f).map D.int := by rw [List.map_filterMap]
end DL
namespace DL
open PySem PySem.Spec PyProof.Rows L2
/-- comprehensions over what is made of a list -/
theorem w_mapL {α : Type} (l : List α) (f : α → D) (v : α → D) {G : DH → Prop} {g : DTG} {te : DE} {p : Addr} {τ : DSt} {Q : DK} {h : DH} (hp : h p = none) (hlen : l.length < sizeLine) (hG : ∀ h', Ext h h' → G h')
    (step : ∀ a h' (C : D → DH → Prop), a ∈ l → Ext h h' → (∀ h2, Ext h' h2 → C (v a) h2) → g (f a) τ h' fun τ2 h2 => te τ2 h2 C)
    (last : ∀ h', Ext h h' → h' p = some (.lst (l.map v)) → Q (.loc p) h') : kGo G g dYes te p τ Q (l.map f) (hupd h p (.lst [])) := by
  have e0 : ∀ (i : Nat) (a : α), l[i]? = some a → (l[i]?.map v).getD .non = v a := fun i a e => by rw [e]; rfl
  refine w_map (fun i => (l[i]?.map v).getD .non) hp (by rw [List.length_map]; exact hlen) hG (fun i d h' C ed x hC => ?_) (fun h' x e => last h' x ?_)
  · rw [List.getElem?_map] at ed
    obtain ⟨a, ea, rfl⟩ := Option.map_eq_some_iff.mp ed
    rw [e0 i a ea] at hC
    exact step a h' C (List.mem_of_getElem? ea) x hC
  · rw [e, List.length_map]
    congr 2
    refine List.ext_getElem? fun j => ?_
    rw [List.getElem?_map, List.getElem?_map]
    by_cases hj : j < l.length
    · rw [List.getElem?_range hj, List.getElem?_eq_getElem hj]
      show some ((l[j]?.map v).getD .non) = _
      rw [List.getElem?_eq_getElem hj]; rfl
    · rw [List.getElem?_eq_none (by simpa using hj), List.getElem?_eq_none (by omega)]; rfl
theorem w_filtL {α : Type} (l : List α) (f : α → D) (v : α → Option D) {G : DH → Prop} {g : DTG} {tt : DT} {te : DE} {p : Addr} {τ : DSt} {Q : DK} {h : DH} (hp : h p = none) (hlen : l.length < sizeLine) (hG : ∀ h', Ext h h' → G h')
    (step : ∀ a h' (C1 : D → DH → Prop) (C0 : DH → Prop), a ∈ l → Ext h h' → (∀ w h2, v a = some w → Ext h' h2 → C1 w h2) → (∀ h2, v a = none → Ext h' h2 → C0 h2) → g (f a) τ h' fun τ2 h2 => tt τ2 h2 fun b h3 => kIte b (te τ2 h3 C1) (C0 h3))
    (last : ∀ h', Ext h h' → h' p = some (.lst (l.filterMap v)) → Q (.loc p) h') : kGo G g tt te p τ Q (l.map f) (hupd h p (.lst [])) := by
  have e0 : ∀ (i : Nat) (a : α), l[i]? = some a → (l[i]?.bind v) = v a := fun i a e => by rw [e]; rfl
  refine w_filt (fun i => l[i]?.bind v) hp (by rw [List.length_map]; exact hlen) hG (fun i d h' C1 C0 ed x k1 k0 => ?_) (fun h' x e => last h' x ?_)
  · rw [List.getElem?_map] at ed
    obtain ⟨a, ea, rfl⟩ := Option.map_eq_some_iff.mp ed
    simp only [e0 i a ea] at k1 k0
    exact step a h' C1 C0 (List.mem_of_getElem? ea) x k1 k0
  · rw [e, List.length_map]
    congr 2
    have key : ∀ m : List α, (List.range m.length).filterMap (fun i => m[i]?.bind v) = m.filterMap v := by
      intro m
      induction m with
      | nil => rfl
      | cons a m ih =>
        rw [List.length_cons, List.range_succ_eq_map, List.filterMap_cons, List.filterMap_map, List.filterMap_cons]
        have : (fun i => (a :: m)[i]?.bind v) ∘ Nat.succ = fun i => m[i]?.bind v := by funext i; rfl
        rw [this, ih]
        rfl
    exact key l
theorem filtL_int {α : Type} (f : α → Option Int) (l : List α) : l.filterMap (fun a => (f a).map D.int) = (l.filterMap f).map D.int := by rw [List.map_filterMap]
end DL

set_option Elab.async false
set_option linter.all false
set_option maxRecDepth 100000
set_option maxHeartbeats 2000000
/-! DL19: repr of data with dicts, t[::-1], t * i. -/
namespace DL
open PySem PySem.Spec PyProof.Rows L2

/-! ### data as it reads, dicts too -/
mutual
inductive RX (h : Heap) : Value → PyData → Prop
  | non : RX h .none .none
  | bl (b : Bool) : RX h (.bool b) (.bool b)
  | int (i : Int) (t : Tok) : RX h (.int i t) (.int i)
  | str (x : Str) (t : Tok) : RX h (.str x t) (.str x)
  | list {a : Addr} {o : Obj} {vs : Array Value} {n : Nat} {xs : List PyData} : h.get? a = some o → o.cls = .type "list" → o.data = .seq vs n → RXs h vs.toList xs → RX h (.ref a) (.list xs)
  | tuple {a : Addr} {o : Obj} {vs : Array Value} {n : Nat} {xs : List PyData} : h.get? a = some o → o.cls = .type "tuple" → o.data = .seq vs n → RXs h vs.toList xs → RX h (.ref a) (.tuple xs)
  | dict {a : Addr} {o : Obj} {es : Array DictEntry} {n : Nat} {kvs : List (PyData × PyData)} : h.get? a = some o → o.cls = .type "dict" → o.data = .dict es n → (a == sysModules) = false → RXs h (es.toList.map (·.key)) (kvs.map (·.1)) → RXs h (es.toList.map (·.val)) (kvs.map (·.2)) → RX h (.ref a) (.dict kvs)
inductive RXs (h : Heap) : List Value → List PyData → Prop
  | nil : RXs h [] []
  | cons {v : Value} {vs : List Value} {d : PyData} {ds : List PyData} : RX h v d → RXs h vs ds → RXs h (v :: vs) (d :: ds)
end
section
variable {h₀ : Heap} {prog : Program} {w : World}
mutual
theorem RX.reads : ∀ {v : Value} {d : PyData}, RX h₀ v d → ∃ as, Reads h₀ v d as
  | _, _, .non => ⟨_, .none⟩
  | _, _, .bl b => ⟨_, .bool b⟩
  | _, _, .int i t => ⟨_, .int i t⟩
  | _, _, .str x t => ⟨_, .str x t⟩
  | _, _, .list h1 h2 h3 h4 => let ⟨_, r⟩ := RXs.reads h4; ⟨_, .list h1 h2 h3 r⟩
  | _, _, .tuple h1 h2 h3 h4 => let ⟨_, r⟩ := RXs.reads h4; ⟨_, .tuple h1 h2 h3 r⟩
  | _, _, .dict h1 h2 h3 _ h4 h5 => let ⟨_, r⟩ := RXs.reads h4; let ⟨_, q⟩ := RXs.reads h5; ⟨_, .dict h1 h2 h3 r q⟩
theorem RXs.reads : ∀ {v : List Value} {d : List PyData}, RXs h₀ v d → ∃ as, ReadsAll h₀ v d as
  | _, _, .nil => ⟨_, .nil⟩
  | _, _, .cons r rs => let ⟨_, p⟩ := RX.reads r; let ⟨_, q⟩ := RXs.reads rs; ⟨_, .cons p q⟩
end
mutual
theorem RX.reprK : ∀ {v : Value} {d : PyData}, RX h₀ v d → d.showable = true → d.shown.length ≤ sizeLine → ∃ bs, ReadAtMost h₀ d.depth bs ∧ ReprK prog w bs h₀ d.depth v d.shown
  | _, _, .non, _, _ => ⟨[], (fun _ h => nomatch h), by simp only [PyData.shown]; exact .of_is ReprIs.none _ _ _⟩
  | _, _, .bl b, _, _ => ⟨[], (fun _ h => nomatch h), by simp only [PyData.shown]; exact .of_is (ReprIs.bool b) _ _ _⟩
  | _, _, .int i t, hs, _ => ⟨[], (fun _ h => nomatch h), by simp only [PyData.shown]; exact .of_is (ReprIs.int t (by simpa [PyData.showable] using hs)) _ _ _⟩
  | _, _, .str x t, _, hz => ⟨[], (fun _ h => nomatch h), by simp only [PyData.shown]; exact .of_is (ReprIs.str x t (by simpa only [PyData.shown] using hz)) _ _ _⟩
  | _, _, .list (a := a) (vs := vs) (xs := xs) h1 h2 h3 h4, hs, hz => by
    have hz' : (listText (PyData.shownAll xs)).length ≤ sizeLine := by simpa only [PyData.shown] using hz
    obtain ⟨bs, hb, hk⟩ := RXs.reprK h4 (by simpa [PyData.showable] using hs) (fun t ht => Nat.le_trans (listText_mem_le ht) hz')
    obtain ⟨_, r⟩ := RX.reads (.list h1 h2 h3 h4)
    have hna : a ∉ bs := not_mem_of_deeper r (by simp only [PyData.depth]; omega) hb
    refine ⟨a :: bs, ReadAtMost.cons r (by simp only [PyData.depth]; omega) hb, ?_⟩
    simp only [PyData.depth, PyData.shown]
    obtain ⟨l⟩ := vs
    cases l with
    | nil =>
      have h4' : RXs h₀ [] xs := h4
      cases h4'
      simp only [PyData.shownAll, listText_nil]
      exact ReprK.listEmpty h1 h2 h3
    | cons x l => exact ReprK.list h1 h2 h3 hna (by simpa using hk.length_eq) (fun i y e => hk.item i y (by simpa using e))
  | _, _, .tuple (a := a) (xs := xs) h1 h2 h3 h4, hs, hz => by
    have hz' : (tupleText (PyData.shownAll xs)).length ≤ sizeLine := by simpa only [PyData.shown] using hz
    obtain ⟨bs, hb, hk⟩ := RXs.reprK h4 (by simpa [PyData.showable] using hs) (fun t ht => Nat.le_trans (tupleText_mem_le ht) hz')
    obtain ⟨_, r⟩ := RX.reads (.tuple h1 h2 h3 h4)
    have hna : a ∉ bs := not_mem_of_deeper r (by simp only [PyData.depth]; omega) hb
    refine ⟨a :: bs, ReadAtMost.cons r (by simp only [PyData.depth]; omega) hb, ?_⟩
    simp only [PyData.depth, PyData.shown]
    exact ReprK.tuple h1 h2 h3 hna hk
  | _, _, .dict (a := a) (es := es) (kvs := kvs) h1 h2 h3 hsys h4 h5, hs, hz => by
    have hz' : (dictText (PyData.shownKv kvs)).length ≤ sizeLine := by simpa only [PyData.shown] using hz
    obtain ⟨hs1, hs2⟩ := PyData.showableKv_split kvs (by simpa [PyData.showable] using hs)
    obtain ⟨b1, hb1, k1⟩ := RXs.reprK h4 hs1 (fun t ht => let ⟨p, hp, hl⟩ := PyData.shownKv_key_le kvs t ht; Nat.le_trans hl (Nat.le_trans (dictText_mem_le hp) hz'))
    obtain ⟨b2, hb2, k2⟩ := RXs.reprK h5 hs2 (fun t ht => let ⟨p, hp, hl⟩ := PyData.shownKv_val_le kvs t ht; Nat.le_trans hl (Nat.le_trans (dictText_mem_le hp) hz'))
    obtain ⟨_, r⟩ := RX.reads (.dict h1 h2 h3 hsys h4 h5)
    have hb : ReadAtMost h₀ (PyData.depthKv kvs) (b1 ++ b2) := (hb1.mono (PyData.depthAll_keys_le kvs)).append (hb2.mono (PyData.depthAll_vals_le kvs))
    have hna : a ∉ b1 ++ b2 := not_mem_of_deeper r (by simp only [PyData.depth]; omega) hb
    refine ⟨a :: (b1 ++ b2), ReadAtMost.cons r (by simp only [PyData.depth]; omega) hb, ?_⟩
    simp only [PyData.depth, PyData.shown, PyData.shownKv_eq]
    exact ReprK.dict h1 h2 h3 hsys hna (ReprEntriesK.of_two es.toList _ _
      (k1.more_le (fun b hb => List.mem_append_left _ hb) (PyData.depthAll_keys_le kvs)) (k2.more_le (fun b hb => List.mem_append_right _ hb) (PyData.depthAll_vals_le kvs)))
theorem RXs.reprK : ∀ {vs : List Value} {ds : List PyData}, RXs h₀ vs ds → PyData.showableAll ds = true → (∀ t ∈ PyData.shownAll ds, t.length ≤ sizeLine) → ∃ bs, ReadAtMost h₀ (PyData.depthAll ds) bs ∧ ReprAllK prog w bs h₀ (PyData.depthAll ds) vs (PyData.shownAll ds)
  | _, _, .nil, _, _ => ⟨[], (fun _ h => nomatch h), by simp only [PyData.shownAll]; exact .nil⟩
  | _, _, .cons (d := d) (ds := ds) r rs, hs, hz => by
    have hs' : d.showable = true ∧ PyData.showableAll ds = true := by simpa [PyData.showableAll] using hs
    obtain ⟨b1, hb1, k1⟩ := RX.reprK r hs'.1 (hz _ (by simp only [PyData.shownAll]; exact List.mem_cons_self ..))
    obtain ⟨b2, hb2, k2⟩ := RXs.reprK rs hs'.2 (fun t ht => hz t (by simp only [PyData.shownAll]; exact List.mem_cons_of_mem _ ht))
    refine ⟨b1 ++ b2, ?_, ?_⟩
    · intro b hm
      simp only [PyData.depthAll]
      rcases List.mem_append.mp hm with hm | hm
      · obtain ⟨d', as', r', hd'⟩ := hb1 b hm
        exact ⟨d', as', r', Nat.le_trans hd' (Nat.le_max_left _ _)⟩
      · obtain ⟨d', as', r', hd'⟩ := hb2 b hm
        exact ⟨d', as', r', Nat.le_trans hd' (Nat.le_max_right _ _)⟩
    · simp only [PyData.depthAll, PyData.shownAll]
      exact .cons ((k1.more fun b hb => List.mem_append_left _ hb).level_le (Nat.le_max_left _ _)) (k2.more_le (fun b hb => List.mem_append_right _ hb) (Nat.le_max_right _ _))
end
theorem repr_rx {A : Around} {E : Value → Shared → Prop} {s : Shared} {Q : Value → Shared → Prop} {v : Value} {d : PyData} (r : RX s.heap v d) (hs : d.showable = true) (hg : A.guards = some []) (hu : A.units + (d.depth + 1) < cLine) (hz : d.shown.length ≤ sizeLine)
    (hQ : ∀ h' u tk, (∀ b o, s.heap.get? b = some o → h'.get? b = some o) → Q (.str d.shown u) { s with heap := h', toks := tk }) : wpAny (model prog w) A (call (.builtin "repr") [v]) Q E s := by
  have same : ∀ b o, s.heap.get? b = some o → s.heap.get? b = some o := fun _ _ z => z
  cases r with
  | non =>
    refine PySem.P.repr_of_none ?_
    have e : (PyData.none).shown = "None" := by simp [PyData.shown]
    rw [← e]; exact hQ _ _ _ same
  | bl b =>
    refine PySem.P.repr_of_bool ?_
    have e : (PyData.bool b).shown = (if b = true then ("True" : Str) else ("False" : Str)) := by simp [PyData.shown]
    rw [← e]; exact hQ _ _ _ same
  | int i t =>
    refine PySem.P.repr_of_int (by simpa [PyData.showable] using hs) ?_
    have e : (PyData.int i).shown = toString i := by simp [PyData.shown]
    rw [← e]; exact hQ _ _ _ same
  | str y t =>
    have e : (PyData.str y).shown = reprText y := by simp [PyData.shown]
    refine PySem.P.repr_of_str ?_ (by rw [← e]; exact hz)
    rw [← e]; exact hQ _ _ _ same
  | list h1 h2 h3 h4 =>
    rename_i a o vs n xs
    have hz' : (listText (PyData.shownAll xs)).length ≤ sizeLine := by simpa only [PyData.shown] using hz
    obtain ⟨bs, hb, hk⟩ := RXs.reprK (prog := prog) (w := w) h4 (by simpa [PyData.showable] using hs) (fun t ht => Nat.le_trans (listText_mem_le ht) hz')
    obtain ⟨_, r⟩ := RX.reads (.list h1 h2 h3 h4)
    have hna : a ∉ bs := not_mem_of_deeper r (by simp only [PyData.depth]; omega) hb
    simp only [PyData.depth] at hu
    simp only [PyData.shown] at hQ
    refine call_repr_slot (by omega) ⟨o, h1, h2⟩ F.slot_list_repr.toG ?_
    obtain ⟨l⟩ := vs
    cases l with
    | nil =>
      have h4' : RXs s.heap [] xs := h4
      cases h4'
      simp only [PyData.shownAll, listText_nil] at hQ
      exact call_list_repr_empty ⟨o, h1, h2⟩ h1 h3 ⟨_, _, rfl, hQ s.heap _ _ fun _ _ e => e⟩
    | cons x l =>
      exact call_list_reprK h1 h2 h3 hna (by simpa using hk.length_eq) (fun i y e => hk.item i y (by simpa using e)) hg (fun b _ => Clear.nil b) (by show A.units + 1 + (PyData.depthAll xs + 1) < cLine; omega) same (fun h' u tk k => ⟨_, _, rfl, hQ h' u tk k⟩) hz'
  | tuple h1 h2 h3 h4 =>
    rename_i a o vs n xs
    have hz' : (tupleText (PyData.shownAll xs)).length ≤ sizeLine := by simpa only [PyData.shown] using hz
    obtain ⟨bs, hb, hk⟩ := RXs.reprK (prog := prog) (w := w) h4 (by simpa [PyData.showable] using hs) (fun t ht => Nat.le_trans (tupleText_mem_le ht) hz')
    obtain ⟨_, r⟩ := RX.reads (.tuple h1 h2 h3 h4)
    have hna : a ∉ bs := not_mem_of_deeper r (by simp only [PyData.depth]; omega) hb
    simp only [PyData.depth] at hu
    simp only [PyData.shown] at hQ
    refine call_repr_slot (by omega) ⟨o, h1, h2⟩ F.slot_tuple_repr ?_
    exact call_tuple_reprK h1 h2 h3 hna hk hg (fun b _ => Clear.nil b) (by show A.units + 1 + (PyData.depthAll xs + 1) < cLine; omega) same (fun h' u tk k => ⟨_, _, rfl, hQ h' u tk k⟩) hz'
  | dict h1 h2 h3 hsys h4 h5 =>
    rename_i a o es n kvs
    have hz' : (dictText (PyData.shownKv kvs)).length ≤ sizeLine := by simpa only [PyData.shown] using hz
    obtain ⟨hs1, hs2⟩ := PyData.showableKv_split kvs (by simpa [PyData.showable] using hs)
    obtain ⟨b1, hb1, k1⟩ := RXs.reprK (prog := prog) (w := w) h4 hs1 (fun t ht => let ⟨p, hp, hl⟩ := PyData.shownKv_key_le kvs t ht; Nat.le_trans hl (Nat.le_trans (dictText_mem_le hp) hz'))
    obtain ⟨b2, hb2, k2⟩ := RXs.reprK (prog := prog) (w := w) h5 hs2 (fun t ht => let ⟨p, hp, hl⟩ := PyData.shownKv_val_le kvs t ht; Nat.le_trans hl (Nat.le_trans (dictText_mem_le hp) hz'))
    obtain ⟨_, r⟩ := RX.reads (.dict h1 h2 h3 hsys h4 h5)
    have hb : ReadAtMost s.heap (PyData.depthKv kvs) (b1 ++ b2) := (hb1.mono (PyData.depthAll_keys_le kvs)).append (hb2.mono (PyData.depthAll_vals_le kvs))
    have hna : a ∉ b1 ++ b2 := not_mem_of_deeper r (by simp only [PyData.depth]; omega) hb
    simp only [PyData.depth] at hu
    simp only [PyData.shown, PyData.shownKv_eq] at hQ
    refine call_repr_slot (by omega) ⟨o, h1, h2⟩ F.slot_dict_repr ?_
    exact call_dict_reprK h1 h2 h3 hsys hna (ReprEntriesK.of_two es.toList _ _
      (k1.more_le (fun b hb => List.mem_append_left _ hb) (PyData.depthAll_keys_le kvs)) (k2.more_le (fun b hb => List.mem_append_right _ hb) (PyData.depthAll_vals_le kvs))) hg (fun b _ => Clear.nil b) (by show A.units + 1 + (PyData.depthKv kvs + 1) < cLine; omega) same (fun h' u tk k => ⟨_, _, rfl, hQ h' u tk k⟩) (by rw [← PyData.shownKv_eq]; exact hz')
end

/-! ### by values -/
def keyP : Key → PyData
  | .inl i => .int i
  | .inr x => .str x
mutual
inductive DX (K : PySem.W.Frag) (H : Hp) : V → PyData → Prop
  | non : DX K H .non .none
  | bl (b : Bool) : DX K H (.bl b) (.bool b)
  | int (i : Int) : DX K H (.int i) (.int i)
  | str (x : Str) : DX K H (.str x) (.str x)
  | lst {a : Addr} {xs : List V} {ds : List PyData} : SqL K H a xs → DXs K H xs ds → DX K H (.ref a) (.list ds)
  | tup {a : Addr} {xs : List V} {ds : List PyData} : SqT K H a xs → DXs K H xs ds → DX K H (.ref a) (.tuple ds)
  | dct {a : Addr} {us : List (Key × V)} {ps : List (PyData × PyData)} : H a = some (.dK us) → ps.map (·.1) = us.map (fun kv => keyP kv.1) → DXs K H (us.map (·.2)) (ps.map (·.2)) → DX K H (.ref a) (.dict ps)
inductive DXs (K : PySem.W.Frag) (H : Hp) : List V → List PyData → Prop
  | nil : DXs K H [] []
  | cons {v : V} {vs : List V} {d : PyData} {ds : List PyData} : DX K H v d → DXs K H vs ds → DXs K H (v :: vs) (d :: ds)
end
section
variable {X : Cx} {pins : List (Addr × Obj)} {σ : L2.St} {H : Hp} {s : Shared}
theorem keys_rx {h : Heap} {P : Program} {w : World} : ∀ {es : List DictEntry} {vs : List (Key × Value)} {us : List (Key × V)}, Pairs (mixKind P w) es vs → KV us vs → RXs h (es.map (·.key)) (us.map fun kv => keyP kv.1) := by
  intro es vs us p
  induction p generalizing us with
  | nil => intro q; cases q; exact .nil
  | @cons e kv es kvs hk _ _ ih =>
    intro q
    cases q with
    | @cons u _ us _ e1 t =>
      refine .cons ?_ (ih t)
      obtain ⟨k, v⟩ := kv
      obtain ⟨k', v'⟩ := u
      have e1 : k' = k := e1.1
      subst e1
      rcases keyIs_shape hk with ⟨i, t, e2, e3⟩ | ⟨x, t, e2, e3⟩
      · have e2 : k' = Sum.inl i := e2
        subst e2
        show RX h e.key (.int i)
        rw [e3]; exact .int i t
      · have e2 : k' = Sum.inr x := e2
        subst e2
        show RX h e.key (.str x)
        rw [e3]; exact .str x t
theorem pairs_vals {P : Program} {w : World} : ∀ {es : List DictEntry} {vs : List (Key × Value)}, Pairs (mixKind P w) es vs → es.map (·.val) = vs.map (·.2) := by
  intro es vs p
  induction p with
  | nil => rfl
  | cons _ e _ ih => rw [List.map_cons, List.map_cons, ih, e]
theorem kv_vals : ∀ {us : List (Key × V)} {vs : List (Key × Value)}, KV us vs → Vals (us.map (·.2)) (vs.map (·.2)) := by
  intro us vs q
  unfold KV at q
  induction q with
  | nil => exact .nil
  | cons e _ ih => exact .cons e.2 ih
mutual
theorem DX.rx (I : Inv X pins σ H s) : ∀ {v : V} {d : PyData} {u : Value}, DX X.K H v d → RelV v u → RX s.heap u d
  | _, _, _, .non, r => by cases r; exact .non
  | _, _, _, .bl b, r => by cases r; exact .bl b
  | _, _, _, .int i, r => by obtain ⟨t, rfl⟩ := r; exact .int i t
  | _, _, _, .str x, r => by obtain ⟨t, rfl⟩ := r; exact .str x t
  | _, _, _, .lst hs ha, r => by
    cases r
    obtain ⟨its, rv, ⟨o, n, ho, hc, _, hd⟩, _⟩ := I.list hs
    exact .list ho hc hd (DXs.rx I ha rv)
  | _, _, _, .tup hs ha, r => by
    cases r
    obtain ⟨its, rv, ⟨o, ho, hc, n, hd⟩, _⟩ := I.tuple hs
    exact .tuple ho hc hd (DXs.rx I ha rv)
  | _, _, _, .dct (us := us) (ps := ps) hs e ha, r => by
    cases r
    obtain ⟨_, hsys, vs, rel, o, es, ep, ho, hx, hd, _, hp, _⟩ := I.hok _ _ hs
    refine .dict ho hx.1 hd hsys ?_ ?_
    · rw [e]; exact keys_rx hp rel
    · rw [pairs_vals hp]; exact DXs.rx I ha (kv_vals rel)
theorem DXs.rx (I : Inv X pins σ H s) : ∀ {v : List V} {d : List PyData} {u : List Value}, DXs X.K H v d → Vals v u → RXs s.heap u d
  | _, _, _, .nil, r => by cases r; exact .nil
  | _, _, _, .cons h1 h2, r => by
    cases r with
    | cons r1 r2 => exact .cons (DX.rx I h1 r1) (DXs.rx I h2 r2)
end
end
def rReprX (K : PySem.W.Frag) : List V → Hp → VK → Prop := fun xs H Q => ∃ x p, xs = [x] ∧ DX K H x p ∧ p.showable = true ∧ p.depth ≤ 50 ∧ p.shown.length ≤ sizeLine ∧ Q (.str p.shown) H
theorem call_reprX {X : Cx} (hg : X.A.guards = some []) (hu : X.A.units + 64 < cLine) : CallR X (.builtin "repr") (rReprX X.K) := by
  intro pins s σ H xs us Q I r h
  obtain ⟨x, p, rfl, dp, sh, hd, hz, q⟩ := h
  obtain ⟨u, e, ru⟩ : ∃ u, us = [u] ∧ RelV x u := by
    cases r with
    | cons r rr => cases rr; exact ⟨_, rfl, r⟩
  subst e
  exact repr_rx (dp.rx I ru) sh hg (by omega) hz fun h' w' tk k => ⟨.str p.shown, H, I.kept k, ⟨_, rfl⟩, q⟩

/-! ### by data -/
mutual
inductive PX (h : DH) : D → PyData → Prop
  | non : PX h .non .none
  | bl (b : Bool) : PX h (.bl b) (.bool b)
  | int (i : Int) : PX h (.int i) (.int i)
  | str (x : Str) : PX h (.str x) (.str x)
  | tup {ds : List D} {ps : List PyData} : PXs h ds ps → PX h (.tup ds) (.tuple ps)
  | lst {a : Addr} {ds : List D} {ps : List PyData} : h a = some (.lst ds) → PXs h ds ps → PX h (.loc a) (.list ps)
  | dct {a : Addr} {kvs : List (Key × D)} {ps : List (PyData × PyData)} : h a = some (.dK kvs) → ps.map (·.1) = kvs.map (fun kv => keyP kv.1) → PXs h (kvs.map (·.2)) (ps.map (·.2)) → PX h (.loc a) (.dict ps)
inductive PXs (h : DH) : List D → List PyData → Prop
  | nil : PXs h [] []
  | cons {d : D} {ds : List D} {p : PyData} {ps : List PyData} : PX h d p → PXs h ds ps → PXs h (d :: ds) (p :: ps)
end
section
variable {h h' : DH}
mutual
theorem PX.ext (x : Ext h h') : ∀ {d : D} {p : PyData}, PX h d p → PX h' d p
  | _, _, .non => .non
  | _, _, .bl b => .bl b
  | _, _, .int b => .int b
  | _, _, .str b => .str b
  | _, _, .tup q => .tup (PXs.ext x q)
  | _, _, .lst e q => .lst (x _ _ e) (PXs.ext x q)
  | _, _, .dct e k q => .dct (x _ _ e) k (PXs.ext x q)
theorem PXs.ext (x : Ext h h') : ∀ {d : List D} {p : List PyData}, PXs h d p → PXs h' d p
  | _, _, .nil => .nil
  | _, _, .cons q r => .cons (PX.ext x q) (PXs.ext x r)
end
theorem rkv_vals {K : PySem.W.Frag} {H : Hp} {kvs : List (Key × D)} {us : List (Key × V)} (r : RKV K H kvs us) : RVs K H (kvs.map (·.2)) (us.map (·.2)) ∧ kvs.map (fun kv => keyP kv.1) = us.map (fun kv => keyP kv.1) := by
  unfold RKV at r
  induction r with
  | nil => exact ⟨rvs_nil', rfl⟩
  | @cons p q ps qs h t ih =>
    obtain ⟨p1, p2⟩ := p
    obtain ⟨q1, q2⟩ := q
    obtain ⟨h1, h2⟩ := h
    have h1 : p1 = q1 := h1
    subst h1
    refine ⟨rvs_cons' h2 ih.1, ?_⟩
    rw [List.map_cons, List.map_cons, ih.2]
mutual
theorem PX.dx {K : PySem.W.Frag} {H : Hp} (hr : HR K H h) : ∀ {d : D} {p : PyData} {v : V}, PX h d p → RV K H d v → DX K H v p
  | _, _, _, .non, r => by rw [rv_non r]; exact .non
  | _, _, _, .bl b, r => by rw [rv_bl r]; exact .bl b
  | _, _, _, .int b, r => by rw [rv_int r]; exact .int b
  | _, _, _, .str b, r => by rw [rv_str r]; exact .str b
  | _, _, _, .tup q, r => by
    obtain ⟨a, vs, e, s, rs⟩ := rv_tup r
    subst e
    exact .tup (.inl (.inl s)) (PXs.dx hr q rs)
  | _, _, _, .lst e q, r => by
    obtain ⟨vs, s, rs⟩ := hr _ _ e
    rw [rv_loc r]
    exact .lst (.inl (.inl s)) (PXs.dx hr q rs)
  | _, _, _, .dct e k q, r => by
    obtain ⟨us, s, rs⟩ := hr _ _ e
    rw [rv_loc r]
    exact .dct s (by rw [k, (rkv_vals rs).2]) (PXs.dx hr q (rkv_vals rs).1)
theorem PXs.dx {K : PySem.W.Frag} {H : Hp} (hr : HR K H h) : ∀ {ds : List D} {ps : List PyData} {vs : List V}, PXs h ds ps → RVs K H ds vs → DXs K H vs ps
  | _, _, _, .nil, r => by rw [rvs_nil r]; exact .nil
  | _, _, _, .cons q s, r => by
    obtain ⟨x, xs, e, r1, r2⟩ := rvs_cons r
    subst e
    exact .cons (PX.dx hr q r1) (PXs.dx hr s r2)
end
end
def bReprX : DC := fun ds h Q => match ds with
  | [d] => ∃ p, PX h d p ∧ p.showable = true ∧ p.depth ≤ 50 ∧ p.shown.length ≤ sizeLine ∧ Q (.str p.shown) h
  | _ => False
@[irreducible] noncomputable def kReprX : DC := hide bReprX
theorem kReprX_eq : kReprX = bReprX := by unfold kReprX; rw [hide_eq]
theorem qk_reprX {X : Cx} {K : PySem.W.Frag} {k : Nat} (hr : RoomG k X.A) (hK : X.K = K := by rfl) : CallR X (.builtin "repr") (rReprX K) ∧ LC K (rReprX K) kReprX := by
  rw [kReprX_eq]
  exact ⟨by subst hK; exact call_reprX hr.g hr.hu, fun ds vs h H Q Q0 r hr bw w => by
    match ds, w, r with
    | [d], ⟨p, pd, a1, a2, a3, w⟩, r =>
      obtain ⟨x, e1, r1⟩ := rvs_one r
      exact ⟨x, p, e1, pd.dx hr r1, a1, a2, a3, bw _ h _ H TX.refl rv_str' hr w⟩⟩
theorem w_repX {d : D} {h : DH} {Q : DK} {p : PyData} {n b : Nat} (pd : PX h d p) (r : Rp p n b) (hn : n ≤ 50) (hb : b ≤ 150000) (k : Q (.str p.shown) h) : kReprX [d] h Q := by
  rw [kReprX_eq]
  refine ⟨p, pd, r.sh, Nat.le_trans r.dp hn, ?_, k⟩
  have := PyData.shown_le_bulk 101 (by decide) p r.lv
  have e : sizeLine = 16777216 := rfl
  have := r.bk
  omega
end DL
namespace DL
open PySem PySem.Spec PyProof.Rows L2
/-! ### xs[::-1], xs a list or a tuple -/
theorem adjust_rev (n : Nat) : Builtin.Slice.sliceAdjust none none (-1) (n : Int) = ((n : Int) - 1, -1) := by
  unfold Builtin.Slice.sliceAdjust
  simp
theorem places_rev (n : Nat) : Builtin.Slice.slicePlaces ((n : Int) - 1) (-1) (-1) = n := by
  unfold Builtin.Slice.slicePlaces
  rw [if_neg (show ¬ ((-1 : Int) > 0) by decide)]
  by_cases h : (n : Int) - 1 > -1
  · rw [if_pos h, show (- -1 : Int) = 1 by decide, Int.ediv_one]; omega
  · rw [if_neg h]; omega
theorem pick_rev (xs : Array Value) : ((List.range xs.size).filterMap fun (k : Nat) => xs[(((xs.size : Nat) : Int) - 1 + (k : Int) * (-1)).toNat]?).toArray = xs.toList.reverse.toArray := by
  congr 1
  have e : (List.range xs.size).filterMap (fun (k : Nat) => xs[(((xs.size : Nat) : Int) - 1 + (k : Int) * (-1)).toNat]?) = ((List.range xs.size).map (fun k => xs.size - 1 - k)).filterMap (xs[·]?) := by
    rw [List.filterMap_map]
    have key : ∀ m, m ≤ xs.size → (List.range m).filterMap (fun (k : Nat) => xs[(((xs.size : Nat) : Int) - 1 + (k : Int) * (-1)).toNat]?) = (List.range m).filterMap ((xs[·]?) ∘ fun k => xs.size - 1 - k) := by
      intro m
      induction m with
      | zero => intro _; rfl
      | succ m ih =>
        intro hm
        rw [List.range_succ, List.filterMap_append, List.filterMap_append, ih (by omega)]
        congr 1
        have e2 : (((xs.size : Nat) : Int) - 1 + (m : Int) * (-1)).toNat = xs.size - 1 - m := by omega
        simp only [List.filterMap_cons, List.filterMap_nil, Function.comp, e2]
    exact key _ (Nat.le_refl _)
  rw [e, PySem.W.krv_range, List.filterMap_reverse, PySem.W.krv_all]
section
variable {prog : Program} {w : World} {A : Around} {E : Value → Shared → Prop} {s : Shared}
theorem sliceApplied_rev {sl : Addr} {vs : Value} {n : Nat} {Q : Int × Int × Nat → Shared → Prop} (hs : s.heap.IsSliceOf sl .none .none vs) (ps : IsPart vs (some (-1)))
    (h : Q ((n : Int) - 1, -1, n) s) : wpAny (model prog w) A (Builtin.Slice.sliceApplied (.ref sl) (pure (n : Int))) Q E s := by
  obtain ⟨os, hos, hcs, hds⟩ := id hs
  unfold Builtin.Slice.sliceApplied Builtin.Slice.sliceFields
  refine wpAny_bind (wpAny_bind (wpAny_field hos hds (x := .none) rfl (wpAny_bind (wpAny_field hos hds (x := .none) rfl (wpAny_bind (wpAny_field hos hds (x := vs) rfl (wpAny_pure ?_)))))))
  refine wpAny_bind (HT.slicePart_ ps ?_)
  show wpAny _ _ (if ((-1 : Int) == 0) = true then _ else _) _ _ s
  rw [if_neg (by decide)]
  refine wpAny_bind (HT.slicePart_ .none (wpAny_bind (HT.slicePart_ .none (wpAny_bind (wpAny_pure ?_)))))
  show wpAny _ _ (match Builtin.Slice.sliceAdjust none none (-1) (n : Int) with | (lo, hi) => pure (lo, (-1 : Int), Builtin.Slice.slicePlaces lo hi (-1))) _ _ s
  rw [adjust_rev n]
  show wpAny _ _ (pure ((n : Int) - 1, (-1 : Int), Builtin.Slice.slicePlaces ((n : Int) - 1) (-1) (-1))) _ _ s
  rw [places_rev]
  exact wpAny_pure h
theorem getItem_tuple_rev {t sl : Addr} {items : Array Value} {vs : Value} {Q : Value → Shared → Prop} (ht : IsTup s.heap t items) (hs : s.heap.IsSliceOf sl .none .none vs) (ps : IsPart vs (some (-1)))
    (h : Q (.ref s.heap.objs.size) { s with heap := s.heap.push { cls := .type "tuple", data := .seq items.toList.reverse.toArray } })
    (hsz : items.size ≤ sizeLine) : wpAny (model prog w) A (getItem (.ref t) (.ref sl)) Q E s := by
  have htake : sizeOk (.seq items.toList.reverse.toArray) := by
    show items.toList.reverse.toArray.size ≤ sizeLine
    rw [List.size_toArray, List.length_reverse, Array.length_toList]
    omega
  obtain ⟨os, hos, hcs, hds⟩ := id hs
  have hTs : s.TypeIs (.ref sl) "slice" := ⟨os, hos, hcs⟩
  unfold getItem
  try with_reducible refine wpAny_holding ?_
  first | refine wpAny_bind (wpAny_pure ?_) | skip
  refine wpAny_bind (wpAny_sequenceKey ht.typeIs (by decide) ?_)
  refine wpAny_bind (wpAny_callSpecial?_slot (name := Str.ofString "__getitem__") ht.typeIs PyProof.Rows.slot_tuple_getitem
    (wpAny_call_entry PyProof.Rows.slot_tuple_getitem ht.typeIs PyProof.Rows.entry_tuple_getitem ?_ (PyProof.Rows.args_tuple_getitem _ _)))
  show wpAny _ _ (Builtin.Tuple.tupleItemsOf (.ref t) >>= _) _ _ s
  refine wpAny_bind (PyProof.Rows.tupleItemsOf_ ht ?_)
  refine wpAny_bind (wpAny_typeOf hTs ?_)
  rw [if_pos (by decide)]
  refine wpAny_bind (sliceApplied_rev hs ps ?_)
  have hno : ¬ ((((items.size : Nat) : Int) - 1 == 0 && (-1 : Int) == 1 && items.size == items.size) = true) := by
    intro q
    rw [Bool.and_eq_true, Bool.and_eq_true] at q
    exact absurd q.1.2 (by decide)
  show wpAny _ _ (if (((items.size : Nat) : Int) - 1 == 0 && (-1 : Int) == 1 && items.size == items.size) = true then _ else _) _ _ s
  rw [if_neg hno, pick_rev]
  first
    | exact wpAny_bind (m := Builtin.Tuple.tupleExact _) (wpAny_newObj_type (wpAny_pure ⟨_, rfl, wpAny_pure h⟩) htake)
    | exact wpAny_bind (m := Builtin.Tuple.tupleExact _) (wpAny_newObj_type (wpAny_bind (wpAny_pure (wpAny_pure ⟨_, rfl, wpAny_pure h⟩))) htake)
    | exact wpAny_bind (wpAny_bind (m := Builtin.Tuple.tupleExact _) (wpAny_newObj_type (wpAny_pure (wpAny_pure ⟨_, rfl, wpAny_pure h⟩)) htake))
    | exact wpAny_bind (wpAny_bind (m := Builtin.Tuple.tupleExact _) (wpAny_newObj_type (wpAny_pure ⟨_, rfl, wpAny_pure h⟩) htake))
end
def tRevA (K : PySem.W.Frag) (te : TE) : TE := fun σ H Q => te σ H fun x H1 => ∃ a xs, x = .ref a ∧ ((SqL K H1 a xs ∧ ∀ p, H1 p = none → Q (.ref p) (upd H1 p (.lst xs.reverse))) ∨ (SqT K H1 a xs ∧ ∀ p, H1 p = none → Q (.ref p) (upd H1 p (.tup xs.reverse))))
theorem pe_revA {X : Cx} {e : Expr} {te : TE} {k : Nat} {p1 p2 p3 pos : Pos} (he : PE X e te) : PE X (.Subscript e (.Slice none none (some (.UnaryOp .USub (.Constant (.int 1) k p1) p2)) p3) pos) (tRevA X.K te) := by
  refine ⟨fun pins s σ H Q I h => ?_⟩
  refine Subscript_ (thn (he.run pins s σ H _ I h) fun v s1 ⟨x, H1, I1, r1, q1⟩ => ?_)
  obtain ⟨a, xs, ex, q⟩ := q1
  subst ex
  cases r1
  have hst : PO X (some (.UnaryOp .USub (.Constant (.int 1) k p1) p2)) (tPart (tUn (rU fun i => .int (-i)) (tC (.int 1)))) := po_some (pe_un un_neg pe_int)
  refine wpAny_Slice (thn (po_none.run pins s1 σ H1 (fun o H2 => o = none ∧ H2 = H1) I1 ⟨rfl, rfl⟩) fun vl s2 ⟨l, H2, I2, pl, el, e2⟩ => ?_)
  subst el e2
  refine thn (po_none.run pins s2 σ H2 (fun o H3 => o = none ∧ H3 = H2) I2 ⟨rfl, rfl⟩) fun vu s3 ⟨u, H3, I3, pu, eu, e3⟩ => ?_
  subst eu e3
  refine thn (hst.run pins s3 σ H3 (fun o H4 => o = some (-1) ∧ H4 = H3) I3 ⟨1, rfl, -1, rfl, rfl, rfl⟩) fun vs s4 ⟨o, H4, I4, ps, eo, e4⟩ => ?_
  subst eo e4
  have I5 : Inv X pins σ H4 { s4 with heap := s4.heap.push { cls := .type "slice", data := .fields #[vl, vu, vs] } } := I4.kept (t' := s4.toks) fun b ob q => Heap.get?_push_of_some _ q
  show wpAny (model X.prog X.w) X.A (subscriptTail e (.Slice none none (some (.UnaryOp .USub (.Constant (.int 1) k p1) p2)) p3) (.ref a) (.ref s4.heap.objs.size)) (EP X pins σ Q) X.xe { s4 with heap := s4.heap.push { cls := .type "slice", data := .fields #[vl, vu, vs] } }
  rcases q with ⟨hx, q⟩ | ⟨hx, q⟩
  · obtain ⟨its, r, ht, hz⟩ := I5.list hx
    have hlen := r.length
    refine tail_any (ops := [.ref a, .ref s4.heap.objs.size]) ht.isList.typeIs (PySem.slot_list_getitem.lookup) ?_ (by with_unfolding_all rfl)
    refine wpAny_getItem_list_slice ht.isList (Heap.IsSliceOf.new _ vl vu vs) pl pu ps (by decide) ?_ (by rw [List.size_toArray]; omega)
    rw [PySem.W.krv_pick]
    refine ⟨.ref _, _, I5.laid (t' := s4.toks) (o := .lst xs.reverse) (fun b ob q => Heap.get?_push_of_some _ q) (Nat.le_refl _) ?_, rfl, q _ (I5.hok.fresh (Nat.le_refl _))⟩
    exact ⟨by rw [List.length_reverse]; exact hz, _, 0, r.reverse, Heap.get?_push_size _ rfl⟩
  · obtain ⟨its, r, ht, hz⟩ := I5.tuple hx
    have hlen := r.length
    cases pl
    cases pu
    refine tail_any (ops := [.ref a, .ref s4.heap.objs.size]) ht.typeIs (PyProof.Rows.slot_tuple_getitem.lookup) ?_ (by with_unfolding_all rfl)
    refine getItem_tuple_rev ht (Heap.IsSliceOf.new _ _ _ vs) ps ?_ (by rw [List.size_toArray]; omega)
    refine ⟨.ref _, _, I5.laid (t' := s4.toks) (o := .tup xs.reverse) (fun b ob q => Heap.get?_push_of_some _ q) (Nat.le_refl _) ?_, rfl, q _ (I5.hok.fresh (Nat.le_refl _))⟩
    exact ⟨by rw [List.length_reverse]; exact hz, _, r.reverse, IsTup.new _ _⟩
def dRev0 (x : D) (h : DH) (Q : DK) : Prop := match x with
  | .tup ds => Q (.tup ds.reverse) h
  | .loc a => ∃ ds, h a = some (.lst ds) ∧ ∀ p, h p = none → Q (.loc p) (hupd h p (.lst ds.reverse))
  | _ => False
def dRev (t : DE) : DE := fun τ h Q => t τ h fun x h1 => dRev0 x h1 Q
theorem rvs_rev {K : PySem.W.Frag} {H : Hp} {ds : List D} {vs : List V} (r : RVs K H ds vs) : RVs K H ds.reverse vs.reverse := by
  induction ds generalizing vs with
  | nil => rw [rvs_nil r]; exact rvs_nil'
  | cons d ds ih =>
    obtain ⟨x, xs, e, r1, r2⟩ := rvs_cons r
    subst e
    rw [List.reverse_cons, List.reverse_cons]
    exact (ih r2).append (rvs_cons' r1 rvs_nil')
theorem xrev {X : Cx} {K : PySem.W.Frag} {e : Expr} {te : TE} {de : DE} {k : Nat} {p1 p2 p3 pos : Pos} (he : XE X K e te de) (hK : X.K = K := by rfl) : XE X K (.Subscript e (.Slice none none (some (.UnaryOp .USub (.Constant (.int 1) k p1) p2)) p3) pos) (tRevA K te) (dRev de) := by
  subst hK
  refine ⟨pe_revA he.p, fun τ σ h H Q Q0 rs hr bw w => he.l τ σ h H _ _ rs hr (fun y h1 v H1 x1 r1 hr1 w1 => ?_) w⟩
  have bw := bw.mono x1
  cases y with
  | tup ds =>
    obtain ⟨a, vs, e1, s, q⟩ := rv_tup r1
    exact ⟨a, vs, e1, .inr ⟨.inl (.inl s), fun p hp => bw_tup hr1 bw hp (rvs_rev q) w1⟩⟩
  | loc a =>
    obtain ⟨ds, e1, w2⟩ := w1
    obtain ⟨vs, s, q⟩ := hr1 _ _ e1
    exact ⟨a, vs, rv_loc r1, .inl ⟨.inl (.inl s), fun p hp => bw_new hr1 bw hp (ro_lst (tx_new hp) (rvs_rev q)) (w2 p)⟩⟩
  | _ => exact w1.elim
/-! ### t * i, t a tuple -/
def dMulT : DR2
  | .tup xs, .int k, h, Q => xs ≠ [] ∧ 2 ≤ k ∧ k ≤ 1000 ∧ xs.length ≤ 1000 ∧ Q (.tup (List.replicate k.toNat xs).flatten) h
  | _, _, _, _ => False
theorem q_mulT {X : Cx} {K : PySem.W.Frag} (hK : X.K = K := by rfl) : OpR X (binaryOp .Mult) (rRepT K) ∧ LR2 K (rRepT K) dMulT := by
  subst hK
  refine ⟨op_repT, fun d e x y h H Q Q0 r1 r2 hr bw w => ?_⟩
  cases d with
  | tup xs =>
    cases e with
    | int k =>
      obtain ⟨hn, k0, k1, z, w1⟩ := w
      obtain ⟨a, vs, e1, s, q⟩ := rv_tup r1
      have z1 := q.length
      refine ⟨a, k, vs, e1, rv_int r2, .inl (.inl s), fun e => hn ?_, k0, k1, by rw [← z1]; exact z, fun p hp => bw_tup hr bw hp (rvs_rep q _) w1⟩
      rw [e] at z1
      exact List.length_eq_zero_iff.mp z1
    | _ => exact w.elim
  | _ => exact w.elim
end DL
namespace DL
open PySem PySem.Spec PyProof.Rows L2
/-! ### what is shown can be shown again -/
def Lo (s : Str) : Prop := ∀ c ∈ s.cps.toList, c < 16 ^ 8
theorem lo_char (c : Char) : c.toNat < 16 ^ 8 := by
  have := c.val.toNat_lt
  show c.val.toNat < 16 ^ 8
  have e : (16 ^ 8 : Nat) = 2 ^ 32 := by decide
  omega
theorem Lo.ofString (s : String) : Lo (Str.ofString s) := fun c hc => by
  rw [signs_ofString] at hc
  obtain ⟨ch, _, rfl⟩ := List.mem_map.mp hc
  exact lo_char ch
theorem Lo.app {a b : Str} (x : Lo a) (y : Lo b) : Lo (a ++ b) := fun c hc => (mem_cps_append.mp hc).elim (x c) (y c)
theorem Lo.join {sep : Str} {ts : List Str} (hs : Lo sep) (ht : ∀ t ∈ ts, Lo t) : Lo (Str.join sep ts) := fun c hc => by
  rcases (mem_join sep c ts).mp hc with ⟨t, m, q⟩ | ⟨_, q⟩
  · exact ht t m c q
  · exact hs c q
theorem lo_hex (w c : Nat) : ∀ k ∈ List.replicate (w - ((Nat.toDigits 16 c).map Char.toNat).length) 48 ++ (Nat.toDigits 16 c).map Char.toNat, k < 16 ^ 8 := fun k hk => by
  rcases List.mem_append.mp hk with h | h
  · rw [(List.mem_replicate.mp h).2]; decide
  · obtain ⟨ch, _, rfl⟩ := List.mem_map.mp h
    exact lo_char ch
theorem lo_reprChar (q c : Nat) (hc : c < 16 ^ 8) : ∀ k ∈ Builtin.Str.reprChar q c, k < 16 ^ 8 := by
  have h8 := lo_hex 8 c
  have h4 := lo_hex 4 c
  have h2 := lo_hex 2 c
  have two : ∀ a b : Nat, a < 16 ^ 8 → b < 16 ^ 8 → ∀ k ∈ [a, b], k < 16 ^ 8 := fun a b ha hb k hk => by
    simp only [List.mem_cons, List.not_mem_nil, or_false] at hk
    rcases hk with rfl | rfl
    · exact ha
    · exact hb
  have app : ∀ xs ys : List Nat, (∀ k ∈ xs, k < 16 ^ 8) → (∀ k ∈ ys, k < 16 ^ 8) → ∀ k ∈ xs ++ ys, k < 16 ^ 8 := fun xs ys a b k hk => (List.mem_append.mp hk).elim (a k) (b k)
  unfold Builtin.Str.reprChar
  dsimp only
  repeat' split
  · exact two _ _ (by decide) hc
  · exact two _ _ (by decide) (by decide)
  · exact two _ _ (by decide) (by decide)
  · exact two _ _ (by decide) (by decide)
  · intro k hk; rw [List.mem_singleton.mp hk]; exact hc
  · exact app _ _ (two _ _ (by decide) (by decide)) h2
  · exact app _ _ (two _ _ (by decide) (by decide)) h4
  · exact app _ _ (two _ _ (by decide) (by decide)) h8
theorem lo_foldl (q : Nat) : ∀ (l : List Nat) (acc : Array Nat), (∀ c ∈ l, c < 16 ^ 8) → (∀ c ∈ acc.toList, c < 16 ^ 8) → ∀ c ∈ (l.foldl (fun out c => out ++ (Builtin.Str.reprChar q c).toArray) acc).toList, c < 16 ^ 8
  | [], acc, _, ha => ha
  | c :: r, acc, h, ha => by
    refine lo_foldl q r _ (fun d hd => h d (List.mem_cons_of_mem _ hd)) fun d hd => ?_
    rw [Array.toList_append] at hd
    rcases List.mem_append.mp hd with hd | hd
    · exact ha d hd
    · exact lo_reprChar q c (h c List.mem_cons_self) d hd
theorem Lo.repr {x : Str} (hx : Lo x) : Lo (reprText x) := by
  have hq : reprQuote x < 16 ^ 8 := by unfold reprQuote; split <;> decide
  intro c hc
  unfold reprText at hc
  have hc : c ∈ ((x.cps.foldl (fun out c => out ++ (Builtin.Str.reprChar (reprQuote x) c).toArray) #[reprQuote x]).push (reprQuote x)).toList := hc
  rw [Array.toList_push, ← Array.foldl_toList] at hc
  rcases List.mem_append.mp hc with hc | hc
  · exact lo_foldl _ _ _ hx (fun d hd => by
      have : d ∈ [reprQuote x] := hd
      rw [List.mem_singleton.mp this]; exact hq) c hc
  · rw [List.mem_singleton.mp hc]; exact hq
mutual
theorem lo_shown (B : Nat) : ∀ d : PyData, d.leavesShort B = true → Lo d.shown
  | .none, _ => Lo.ofString "None"
  | .bool b, _ => by cases b; exact Lo.ofString "False"; exact Lo.ofString "True"
  | .int i, _ => by simp only [PyData.shown]; exact Lo.ofString _
  | .str x, h => by
    simp only [PyData.shown]
    have h : ∀ c ∈ x.cps.toList, c < 16 ^ 8 := by simpa only [PyData.leavesShort, List.all_eq_true, decide_eq_true_eq] using h
    exact Lo.repr h
  | .list xs, h => by
    simp only [PyData.shown]
    have e : listText (PyData.shownAll xs) = ("[" : Str) ++ Str.join ", " (PyData.shownAll xs) ++ "]" := by
      rw [← PyData.shown_list]; simp only [PyData.shown]
    rw [e]
    exact ((Lo.ofString "[").app (.join (Lo.ofString ", ") (lo_all B xs (by simpa only [PyData.leavesShort] using h)))).app (Lo.ofString "]")
  | .tuple xs, h => by
    simp only [PyData.shown]
    unfold tupleText
    refine ((Lo.ofString "(").app (.join (Lo.ofString ", ") (lo_all B xs (by simpa only [PyData.leavesShort] using h)))).app ?_
    exact Lo.ofString _
  | .dict kvs, h => by
    rw [PyData.shown_dict]
    exact ((Lo.ofString "{").app (.join (Lo.ofString ", ") (lo_kv B kvs (by simpa only [PyData.leavesShort] using h)))).app (Lo.ofString "}")
theorem lo_all (B : Nat) : ∀ ds : List PyData, PyData.leavesShortAll B ds = true → ∀ t ∈ PyData.shownAll ds, Lo t
  | [], _, t, ht => by simp [PyData.shownAll] at ht
  | d :: ds, h, t, ht => by
    simp only [PyData.leavesShortAll, Bool.and_eq_true] at h
    simp only [PyData.shownAll, List.mem_cons] at ht
    rcases ht with e | ht
    · rw [e]; exact lo_shown B d h.1
    · exact lo_all B ds h.2 t ht
theorem lo_kv (B : Nat) : ∀ ds : List (PyData × PyData), PyData.leavesShortKv B ds = true → ∀ t ∈ PyData.shownKv ds, Lo t
  | [], _, t, ht => by simp [PyData.shownKv] at ht
  | (a, d) :: ds, h, t, ht => by
    simp only [PyData.leavesShortKv, Bool.and_eq_true] at h
    simp only [PyData.shownKv, List.mem_cons] at ht
    rcases ht with e | ht
    · rw [e]; exact ((lo_shown B a h.1.1).app (Lo.ofString ": ")).app (lo_shown B d h.1.2)
    · exact lo_kv B ds h.2 t ht
end
theorem Rp.again {p : PyData} {n b n2 m2 : Nat} (r : Rp p n b) (hm : 103 * b + 101 ≤ m2) : Rp (.str p.shown) n2 m2 := by
  refine .str ?_ ?_
  · have := PyData.shown_le_bulk 101 (by decide) p r.lv
    have e : p.shown.length = p.shown.cps.size := rfl
    have := r.bk
    omega
  · simp only [PyData.leavesShort, List.all_eq_true, decide_eq_true_eq]
    exact lo_shown 101 p r.lv
end DL
namespace DL
open PySem PySem.Spec PyProof.Rows L2
noncomputable def tKT {X : Cx} {K : PySem.W.Frag} {x : Str} {ss : List Str} {pos : Pos} (c : KTup X.K X.mg x ss) (hg : Gl X x) (hd : (x == ("__debug__" : Str)) = false) (hK : X.K = K) : TE := (xkt (pos := pos) c hg hd hK).choose
theorem xktE {X : Cx} {K : PySem.W.Frag} {x : Str} {ss : List Str} {pos : Pos} (c : KTup X.K X.mg x ss) (hg : Gl X x := by rfl) (hd : (x == ("__debug__" : Str)) = false := by decide) (hK : X.K = K := by rfl) : XE X K (.Name x pos) (tKT (pos := pos) c hg hd hK) (dC (.ktp (ss.map D.str))) := (xkt (pos := pos) c hg hd hK).choose_spec
end DL

set_option Elab.async false
set_option linter.all false
set_option maxRecDepth 100000
set_option maxHeartbeats 2000000
/-! DL20: sorted(a tuple of tuples of ints). -/
namespace DL
open PySem PySem.Spec PyProof.Rows PyProof.Rows.G L2
section
variable {P : Program} {w : World} {A : Around} {E : Value → Shared → Prop} {s : Shared}
theorem sort_tupT {a : Addr} {items : List Value} {Q : Value → Shared → Prop} (ht : IsTup s.heap a items.toArray) (hsz : items.length ≤ 1000) (rows : ∀ v ∈ items, ∃ k p, v = Value.ref p ∧ IsT P w s.heap k p ∧ k ≠ [])
    (hQ : ∀ (h1 h2 : Heap) (c : Nat) (out : List Value), (∀ b o, s.heap.get? b = some o → h1.get? b = some o) → (∀ b o, h1.get? b = some o → h2.get? b = some o) → h2.get? h1.objs.size = some (seqObj "list" out.toArray c) → out.Perm items → Q (.ref h1.objs.size) { s with heap := h2 }) :
    wpAny (model P w) A (call (.builtin "sorted") [.ref a]) Q E s := by
  obtain ⟨o, ho, hc, n, hd⟩ := ht
  refine Calls.call_function_entry kind_sorted plain_sorted entry_sorted (args_sorted1 _) ?_
  unfold Builtin.«sorted»
  refine wpAny_bind (m := checkCount "sorted" 1 1 _) (wpAny_pure (wpAny_bind (wpAny_collect_seq a (.inr rfl) ho hc hd (fun h1 k1 => ?_) (by rw [List.size_toArray, sizeLine_eq]; omega))))
  refine wpAny_bind (wpAny_newList ?_ (by rw [sizeLine_eq]; simp; omega))
  have ev : items.toArray.toList = items := by simp
  rw [ev]
  have hoL : (h1.push (seqObj "list" items.toArray 0)).get? h1.objs.size = some (seqObj "list" items.toArray 0) := Heap.get?_push_size _ rfl
  have keep : ∀ b u, s.heap.get? b = some u → (h1.push (seqObj "list" items.toArray 0)).get? b = some u := fun b u e => Heap.get?_push_of_some _ (k1 b u e)
  obtain ⟨fs, hfs⟩ := tups_first (h := h1.push (seqObj "list" items.toArray 0)) items fun v hv => by
    obtain ⟨k, p, e, t, ne⟩ := rows v hv
    rw [e]
    exact tup_first (isT_keep t keep) ne
  have hkey : ∀ v, v ∈ items → ∃ l, tupKeyC (h1.push (seqObj "list" items.toArray 0)) shI v = some l := fun v hv => by
    obtain ⟨k, p, e, t, _⟩ := rows v hv
    exact ⟨_, by rw [e]; exact key_ints (isT_keep t keep)⟩
  refine wpAny_bind (wpAny_holding (wpAny_call_entry slot_list_sort ⟨_, hoL, rfl⟩ entry_list_sort (list_sort_tups (s := { s with heap := h1.push (seqObj "list" items.toArray 0) }) hoL hfs hkey (by rw [sizeLine_eq]; omega) fun st b1 b2 b3 => ⟨_, rfl, ?_⟩) (args_list_sort _)))
  have pv : ((arrOf st).toList.map (·.2)).Perm items := by
    have q := (Array.Perm.toList b1).map (fun p : Value × Value => p.2)
    rw [pairsOf_toList] at q
    have e : (items.zip items).map (fun p : Value × Value => p.2) = items := List.map_snd_zip (Nat.le_refl _)
    rw [e] at q
    exact q
  have hout : ((arrOf st).map (·.2)) = ((arrOf st).toList.map (·.2)).toArray := Array.ext' (by rw [Array.toList_map])
  obtain ⟨c, hc2⟩ := sortedHeap_at (vs := items) (out := (arrOf st).map (·.2)) hoL
  refine wpAny_pure ⟨_, rfl, hQ h1 _ c ((arrOf st).toList.map (·.2)) k1 (fun b u q => ?_) (by
    show (sortedHeap (h1.push (seqObj "list" items.toArray 0)) h1.objs.size items ((arrOf st).map (·.2))).get? _ = _
    rw [hc2, hout]) pv⟩
  have hlt := Heap.lt_size q
  show (sortedHeap (h1.push (seqObj "list" items.toArray 0)) h1.objs.size items _).get? b = some u
  rw [sortedHeap_old (Nat.ne_of_lt hlt) (by rw [size_push']; exact Nat.lt_succ_of_lt hlt)]
  exact Heap.get?_push_of_some _ q
end
/-- sorted(t), t a tuple of tuples of ints: a new list of the same items -/
def rSortTup (K : PySem.W.Frag) : List V → Hp → VK → Prop := fun vs H Q => ∃ (a : Addr) (xs : List V), vs = [V.ref a] ∧ SqT K H a xs ∧ xs.length ≤ 1000 ∧ (∀ x ∈ xs, ∃ t ns, x = V.ref t ∧ SqT K H t (ns.map V.int) ∧ ns ≠ []) ∧
  ∀ (ys : List V) (p : Addr), ys.Perm xs → H p = none → Q (.ref p) (upd H p (.lst ys))
theorem cr_sortTup {X : Cx} : CallR X (.builtin "sorted") (rSortTup X.K) := by
  intro pins s σ H vs us Q I r h
  obtain ⟨a, xs, rfl, hs, hl, hx, q⟩ := h
  obtain ⟨its, rv, ht, hz⟩ := I.tuple hs
  rw [Vals.ref1 r]
  obtain ⟨e1, e2⟩ := bkV_refs rv fun x m => by
    obtain ⟨t, ns, e, _⟩ := hx x m
    exact ⟨t, e⟩
  refine sort_tupT (P := X.prog) (w := X.w) ht (by rw [← rv.length]; exact hl) (fun v hv => ?_) fun h1 h2 c out k1 k2 hp pm => ?_
  · obtain ⟨t, rfl⟩ := e2 v hv
    have hm : V.ref t ∈ xs := by
      rw [e1]
      exact List.mem_map.mpr ⟨_, hv, rfl⟩
    obtain ⟨t', ns, e, ht, ne⟩ := hx _ hm
    cases e
    exact ⟨ns, t, rfl, I.isT ht, ne⟩
  · have I1 : L2.Inv X pins σ H { s with heap := h1 } := I.kept (t' := s.toks) k1
    have h3 : ∀ u ∈ out, ∃ a, u = Value.ref a := fun u hu => e2 u (pm.mem_iff.mp hu)
    have hpm : (out.map bkV).Perm xs := by
      rw [e1]
      exact pm.map bkV
    have hlen : (out.map bkV).length ≤ sizeLine := by
      rw [hpm.length_eq]
      exact hz
    refine ⟨.ref h1.objs.size, upd H h1.objs.size (.lst (out.map bkV)), I1.laid (t' := s.toks) k2 (Nat.le_refl _) ⟨hlen, out, c, bkV_vals h3, hp⟩, rfl, q _ _ hpm (I1.hok.fresh (Nat.le_refl _))⟩
def bSortT : DC := fun ds h Q => match ds with
  | [.tup ds] => ∃ ks, tupsD ds = some ks ∧ ds.length ≤ 1000 ∧ (∀ k ∈ ks, k ≠ []) ∧ ∀ ys p, ys.Perm ds → h p = none → Q (.loc p) (hupd h p (.lst ys))
  | _ => False
@[irreducible] noncomputable def kSortT : DC := hide bSortT
theorem kSortT_eq : kSortT = bSortT := by unfold kSortT; rw [hide_eq]
theorem rvs_perm {K : PySem.W.Frag} {H : Hp} {ys vs : List V} (pm : ys.Perm vs) : ∀ {ds : List D}, RVs K H ds vs → ∃ es, es.Perm ds ∧ RVs K H es ys := by
  induction pm with
  | nil => intro ds r; exact ⟨ds, .refl _, r⟩
  | @cons x l1 l2 _ ih =>
    intro ds r
    cases ds with
    | nil => cases rvs_nil r
    | cons d ds =>
      obtain ⟨y, ys, e, r1, r2⟩ := rvs_cons r
      cases e
      obtain ⟨es, p, q⟩ := ih r2
      exact ⟨d :: es, p.cons d, rvs_cons' r1 q⟩
  | @swap x y l =>
    intro ds r
    cases ds with
    | nil => cases rvs_nil r
    | cons d ds =>
      obtain ⟨_, _, e, r1, r2⟩ := rvs_cons r
      cases e
      cases ds with
      | nil => cases rvs_nil r2
      | cons d2 ds =>
        obtain ⟨_, _, e, r3, r4⟩ := rvs_cons r2
        cases e
        exact ⟨d2 :: d :: ds, .swap _ _ _, rvs_cons' r3 (rvs_cons' r1 r4)⟩
  | trans _ _ ih1 ih2 =>
    intro ds r
    obtain ⟨es, p, q⟩ := ih2 r
    obtain ⟨fs, p2, q2⟩ := ih1 q
    exact ⟨fs, p2.trans p, q2⟩
theorem q_sortT {X : Cx} {K : PySem.W.Frag} (hK : X.K = K := by rfl) : CallR X (.builtin "sorted") (rSortTup K) ∧ LC K (rSortTup K) kSortT := by
  rw [kSortT_eq]
  refine ⟨by subst hK; exact cr_sortTup, fun ds vs h H Q Q0 r hr bw w => ?_⟩
  match ds, w, r with
  | [.tup ds], ⟨ks, e, hl, ne, w⟩, r =>
    obtain ⟨x, e1, r1⟩ := rvs_one r
    obtain ⟨a, xs, e2, s, q⟩ := rv_tup r1
    refine ⟨a, xs, by rw [e1, e2], .inl (.inl s), by rw [← q.length]; exact hl, fun x hx => ?_, fun ys p pm hp => ?_⟩
    · obtain ⟨rows, q1, q2, q3⟩ := tupsD_v e q
      rw [q2] at hx
      obtain ⟨r, hr, rfl⟩ := List.mem_map.mp hx
      exact ⟨r.1, r.2, rfl, .inl (.inl (q3 r hr)), ne _ (by rw [← q1]; exact List.mem_map_of_mem hr)⟩
    · obtain ⟨es, pe, qe⟩ := rvs_perm pm q
      exact bw_new hr bw hp (ro_lst (tx_new hp) qe) (w es p pe)
theorem tupsD_mapI : ∀ ks : List (List Int), tupsD (ks.map tupI) = some ks
  | [] => rfl
  | k :: ks => by
    have e : tupD (tupI k) = some k := by
      show intsD (k.map D.int) = some k
      exact intsD_map k
    show (match tupD (tupI k), tupsD (ks.map tupI) with | some k, some ks => some (k :: ks) | _, _ => none) = _
    rw [e, tupsD_mapI ks]
theorem w_sortT {ks : List (List Int)} {h : DH} {Q : DK} (hl : ks.length ≤ 1000) (ne : ∀ k ∈ ks, k ≠ []) (k : ∀ ys p h', ys.Perm (ks.map tupI) → h p = none → Ext h h' → h' p = some (.lst ys) → Q (.loc p) h') : kSortT [.tup (ks.map tupI)] h Q := by
  rw [kSortT_eq]
  exact ⟨ks, tupsD_mapI ks, by rw [List.length_map]; exact hl, ne, fun ys p pm hp => k ys p _ pm hp (ext_new hp) hupd_same⟩
end DL

set_option Elab.async false
set_option linter.all false
set_option maxRecDepth 100000
/-! DL21: dicts whose keys are texts, ints and tuples of them, at the machine's level. -/
namespace DL
open PySem PySem.Spec PyProof.Rows L2
open Sem (wp)

structure EntK (w : World) (h : Heap) (k : NestedKey) (e : DictEntry) : Prop where
  is : NestedIs h k e.key
  dp : k.depth ≤ 8
  hs : e.hash = k.hash w
theorem pair_get {α β : Type} {F : α → β → Prop} : ∀ {xs : List α} {ys : List β}, Paired F xs ys → ∀ i : Nat, (∃ x y, xs[i]? = some x ∧ ys[i]? = some y ∧ F x y) ∨ (xs[i]? = none ∧ ys[i]? = none)
  | _, _, .nil, i => .inr ⟨by simp, by simp⟩
  | _, _, .cons r t, 0 => .inl ⟨_, _, rfl, rfl, r⟩
  | _, _, .cons r t, i + 1 => by simpa using pair_get t i
abbrev KeysAt (w : World) (h : Heap) : List NestedKey → List DictEntry → Prop := Paired (EntK w h)
abbrev plc (raw : List DictEntry) (h : Int) : List Nat := placesWithHash raw.toArray.size (fun i => raw.toArray[i]?.map (·.hash)) h
theorem mem_plc {raw : List DictEntry} {h : Int} {i : Nat} : i ∈ plc raw h ↔ ∃ e, raw[i]? = some e ∧ e.hash = h := by
  unfold plc placesWithHash
  rw [List.mem_filter]
  simp only [List.mem_range, List.size_toArray, List.getElem?_toArray, beq_iff_eq]
  constructor
  · rintro ⟨h1, h2⟩
    obtain ⟨e, h3, h4⟩ := Option.map_eq_some_iff.mp h2
    exact ⟨e, h3, h4⟩
  · rintro ⟨e, h1, h2⟩
    exact ⟨(List.getElem?_eq_some_iff.mp h1).1, by rw [h1]; exact congrArg some h2⟩
theorem nodup_plc {raw : List DictEntry} {h : Int} : (plc raw h).Nodup := by
  unfold plc placesWithHash
  exact List.Pairwise.filter _ List.nodup_range

section
variable {prog : Program} {w : World} {A : Around} {E : Value → Shared → Prop} {s : Shared}
theorem quiet_tells {key : Value} {stored : List Value} {Q : Bool → Shared → Prop} (hkey : QuietAt prog w 8 s key)
    (hst : ∀ v ∈ stored, QuietAt prog w 8 s v) (h : Q false s) : wpAny (model prog w) A (tableMayTell key stored) Q E s := by
  unfold tableMayTell
  split
  · exact wpAny_pure h
  · refine wpAny_bind (hkey A E _ ?_)
    simp only [Bool.not_true, Bool.false_eq_true, if_false]
    refine wpAny_bind (wpAny_forIn_list _ (fun rest r z => (z = s ∧ r = (none, ())) ∧ ∀ v ∈ rest, QuietAt prog w 8 s v) _ ?_ ?_ _ _ ⟨⟨rfl, rfl⟩, hst⟩)
    · rintro x rest r z ⟨⟨rfl, rfl⟩, hr⟩
      refine wpAny_bind (hr x List.mem_cons_self A E _ ?_)
      simp only [Bool.not_true, Bool.false_eq_true, if_false]
      exact wpAny_pure ⟨⟨rfl, rfl⟩, fun v hv => hr v (List.mem_cons_of_mem _ hv)⟩
    · rintro r z ⟨⟨rfl, rfl⟩, _⟩
      exact wpAny_pure h

/-- the place of a key -/
structure MixAt (w : World) (s : Shared) (d : Addr) (o : Obj) (raw : List DictEntry) (ep : Nat) (ks : List NestedKey) : Prop where
  ob : s.heap.get? d = some o
  da : o.data = .dict raw.toArray ep
  ka : KeysAt w s.heap ks raw
  nd : ks.Nodup
theorem same_place {ks : List NestedKey} (nd : ks.Nodup) {i j : Nat} {k : NestedKey} (h1 : ks[i]? = some k) (h2 : ks[j]? = some k) : i = j := by
  obtain ⟨a, e1⟩ := List.getElem?_eq_some_iff.mp h1
  obtain ⟨b, e2⟩ := List.getElem?_eq_some_iff.mp h2
  exact (List.getElem_inj nd).mp (e1.trans e2.symm)
theorem walk_plain {d : Addr} {o : Obj} {raw ep} {ks : List NestedKey} {k : NestedKey} {key : Value} {Q : Option Nat → Shared → Prop} (hu : A.units + 8 < cLine) (hk : NestedIs s.heap k key) (hd : k.depth ≤ 8) (M : MixAt w s d o raw ep ks)
    (hnone : k ∉ ks → Q none s) (hsome : ∀ j, ks[j]? = some k → Q (some j) s) : wpAny (model prog w) A (dictWalkPlain d key (k.hash w) raw.toArray (plc raw (k.hash w))) Q E s := by
  refine wpAny_bind (wpAny_forIn_list _ (fun rest b z => (z = s ∧ b = (none, ())) ∧ (∀ i ∈ rest, ∃ e, raw[i]? = some e) ∧ ∀ j, ks[j]? = some k → j ∈ rest) _ ?_ ?_ _ _ ⟨⟨rfl, rfl⟩, fun i hi => let ⟨e, h1, _⟩ := mem_plc.mp hi; ⟨e, h1⟩, fun j hj => ?_⟩)
  · rintro x rest b z ⟨⟨rfl, rfl⟩, hr, hj⟩
    obtain ⟨e, he⟩ := hr x List.mem_cons_self
    rcases pair_get M.ka x with ⟨k', e', hk', he', en⟩ | ⟨_, z⟩
    · rw [he] at he'
      cases he'
      have hx : raw.toArray[x]? = some e := by rw [List.getElem?_toArray]; exact he
      rw [hx]
      dsimp only
      have go : ¬ k' = k → (∀ i ∈ rest, ∃ e, raw[i]? = some e) ∧ ∀ j, ks[j]? = some k → j ∈ rest := fun ne => ⟨fun i hi => hr i (List.mem_cons_of_mem _ hi), fun j q => by
        rcases List.mem_cons.mp (hj j q) with e | e
        · subst e
          rw [hk'] at q
          exact absurd (Option.some.inj q) ne
        · exact e⟩
      by_cases hh : (e.hash == k.hash w) = true
      · rw [if_pos hh]
        refine wpAny_bind (wpAny_dictEpoch M.ob M.da (wpAny_bind (eqAt_key k' k A z _ _ en.is hk (by omega) _ _ _ _ (wpAny_bind (wpAny_dictEpoch M.ob M.da ?_)))))
        show wpAny _ _ (if (ep != ep) = true then _ else _) _ E _
        rw [if_neg (by simp)]
        rw [← NestedKey.decide_eq]
        by_cases hkk : k' = k
        · rw [decide_eq_true hkk]
          exact wpAny_bind (wpAny_rule (wpAny_pure (wpAny_pure (hsome x (by rw [hk', hkk])))))
        · rw [decide_eq_false hkk]
          exact wpAny_bind (wpAny_rule (wpAny_pure ⟨⟨rfl, rfl⟩, go hkk⟩))
      · rw [if_neg hh]
        exact wpAny_pure ⟨⟨rfl, rfl⟩, go fun e2 => hh (by rw [en.hs, e2]; simp)⟩
    · rw [he] at z; cases z
  · rintro b z ⟨⟨rfl, rfl⟩, _, hj⟩
    exact wpAny_pure (hnone fun hm => by
      obtain ⟨j, q⟩ := List.getElem?_of_mem hm
      exact nomatch hj j q)
  · rcases pair_get M.ka j with ⟨k', e', hk', he', en⟩ | ⟨z, _⟩
    · rw [hj] at hk'
      cases hk'
      exact mem_plc.mpr ⟨e', he', en.hs⟩
    · rw [hj] at z; cases z
theorem find_text {d : Addr} {o : Obj} {raw ep} {ks : List NestedKey} {x : Str} {t : Nat} {Q : Option Nat → Shared → Prop} (hu : A.units + 8 < cLine) (M : MixAt w s d o raw ep ks) (hall : (raw.toArray.all fun e => isExactStrKey e.key) = true)
    (hnone : NestedKey.text x ∉ ks → Q none s) (hsome : ∀ j, ks[j]? = some (.text x) → Q (some j) s) : wpAny (model prog w) A (foundByValue d (.str x t) raw.toArray x) Q E s := by
  have hat : ∀ (i : Nat) (e : DictEntry), raw[i]? = some e → ∃ y u, e.key = .str y u ∧ ks[i]? = some (.text y) := by
    intro i e he
    have h1 : isExactStrKey e.key = true := (Array.all_eq_true_iff_forall_mem.mp hall) e (by simpa using List.mem_of_getElem? he)
    rcases pair_get M.ka i with ⟨k', e', hk', he', en⟩ | ⟨_, z⟩
    · rw [he] at he'
      cases he'
      obtain ⟨i1, _, _⟩ := en
      cases hke : e.key with
      | str y u =>
        rw [hke] at i1
        cases i1
        exact ⟨y, u, rfl, hk'⟩
      | _ => rw [hke] at h1; exact nomatch h1
    · rw [he] at z; cases z
  unfold foundByValue
  cases hf : raw.toArray.findIdx? (·.key.isStr x) with
  | none =>
    refine wpAny_pure (hnone fun hm => ?_)
    obtain ⟨j, q⟩ := List.getElem?_of_mem hm
    rcases pair_get M.ka j with ⟨k', e', hk', he', en⟩ | ⟨z, _⟩
    · obtain ⟨y, u, e1, e2⟩ := hat j e' he'
      rw [q] at e2
      cases e2
      have := Array.findIdx?_eq_none_iff.mp hf e' (by simpa using List.mem_of_getElem? he')
      rw [e1] at this
      simp [Value.isStr] at this
    · rw [q] at z; cases z
  | some i =>
    obtain ⟨hi, h1, _⟩ := Array.findIdx?_eq_some_iff_getElem.mp hf
    have he : raw[i]? = some raw.toArray[i] := by simp
    obtain ⟨y, u, e1, e2⟩ := hat i _ he
    have hx : raw.toArray[i]? = some raw.toArray[i] := Array.getElem?_eq_getElem hi
    simp only [hx]
    rw [e1] at h1
    have ey : y = x := by simpa [Value.isStr] using h1
    subst ey
    refine wpAny_bind (wpAny_dictEpoch M.ob M.da (wpAny_bind ?_))
    rw [e1]
    refine (SeqAt.EqAt.str_str y u y t) _ _ _ _ ?_
    refine wpAny_bind (wpAny_dictEpoch M.ob M.da ?_)
    show wpAny _ _ (if (ep != ep) = true then _ else _) _ E _
    rw [if_neg (by simp)]
    rw [if_pos (by simp)]
    exact wpAny_bind (wpAny_rule (wpAny_pure (hsome i e2)))

theorem find_mix {d : Addr} {o : Obj} {raw ep} {ks : List NestedKey} {k : NestedKey} {key : Value} {Q : Option Nat → Shared → Prop} (hu : A.units + 8 < cLine) (hk : NestedIs s.heap k key) (hd : k.depth ≤ 8) (M : MixAt w s d o raw ep ks)
    (hnone : k ∉ ks → Q none s) (hsome : ∀ j, ks[j]? = some k → Q (some j) s) : wpAny (model prog w) A (dictFind d key (k.hash w)) Q E s := by
  have hqk : QuietAt prog w 8 s key := quiet_key k _ 8 s hk hd
  have hst : ∀ v ∈ (plc raw (k.hash w)).filterMap (fun i => raw.toArray[i]?.map (·.key)), QuietAt prog w 8 s v := by
    intro v hv
    obtain ⟨i, _, hi⟩ := List.mem_filterMap.mp hv
    rw [List.getElem?_toArray] at hi
    obtain ⟨e, he, ev⟩ := Option.map_eq_some_iff.mp hi
    rcases pair_get M.ka i with ⟨k', e', hk', he', en⟩ | ⟨_, z⟩
    · rw [he] at he'
      cases he'
      rw [← ev]
      exact quiet_key k' _ 8 s en.is en.dp
    · rw [he] at z; cases z
  have hany : ¬ (raw.toArray.any fun e => e.key == key && e.hash != k.hash w) = true := by
    rw [Array.any_eq_true]
    rintro ⟨i, hi, hc⟩
    rcases pair_get M.ka i with ⟨k', e', hk', he', en⟩ | ⟨_, z⟩
    · have he : raw.toArray[i] = e' := by
        simpa using (List.getElem?_eq_some_iff.mp he').2
      rw [he] at hc
      simp only [Bool.and_eq_true, beq_iff_eq, bne_iff_ne, ne_eq] at hc
      obtain ⟨h1, h2⟩ := hc
      have h3 := en.is
      rw [h1] at h3
      exact h2 (by rw [en.hs, NestedIs.inj _ _ _ h3 hk])
    · have := (List.getElem?_eq_none_iff.mp z)
      simp at hi
      omega
  have hplc : ∀ j, ks[j]? = some k → j ∈ plc raw (k.hash w) := fun j hj => by
    rcases pair_get M.ka j with ⟨k', e', hk', he', en⟩ | ⟨z, _⟩
    · rw [hj] at hk'
      cases hk'
      exact mem_plc.mpr ⟨e', he', en.hs⟩
    · rw [hj] at z; cases z
  have hin : ∀ i ∈ plc raw (k.hash w), ∃ e, raw[i]? = some e := fun i hi => let ⟨e, h1, _⟩ := mem_plc.mp hi; ⟨e, h1⟩
  have key0 := hk
  unfold dictFind
  try with_reducible refine wpAny_holding ?_
  refine wpAny_bind (wpAny_dictEntries M.ob M.da ?_)
  cases hk
  case text x t =>
    by_cases hall : (raw.toArray.all fun e => isExactStrKey e.key) = true
    · dsimp only
      rw [if_pos hall]
      exact find_text hu M hall hnone hsome
    dsimp only
    rw [if_neg hall]
    by_cases hv : ((Value.str x t :: ((plc raw (NestedKey.hash w (.text x))).filterMap fun i => raw.toArray[i]?.map (·.key))).all carriedByValue) = true
    · rw [if_pos hv]
      exact walk_plain hu key0 hd M hnone hsome
    rw [if_neg hv]
    by_cases hone : (((plc raw (NestedKey.hash w (.text x))).filterMap fun i => raw.toArray[i]?.map (·.key)) == [Value.str x t]) = true
    all_goals
      first
        | rw [if_pos hone]
        | rw [if_neg hone]
      first
        | refine wpAny_bind (wpAny_pure ?_)
        | refine wpAny_bind (quiet_tells hqk hst ?_)
      rw [if_neg (by simp)]
      refine wpAny_bind (wpAny_forIn_list _ (fun rest b y => (y = s ∧ ∃ hit, b = (none, hit) ∧ ((hit = none ∧ ∀ j, ks[j]? = some (.text x) → j ∈ rest) ∨ ∃ j, hit = some j ∧ ks[j]? = some (.text x) ∧ j ∉ rest)) ∧ (∀ i ∈ rest, ∃ e, raw[i]? = some e) ∧ rest.Nodup) _ ?_ ?_ _ _ ⟨⟨rfl, none, rfl, .inl ⟨rfl, hplc⟩⟩, hin, nodup_plc⟩)
      · rintro x' rest b y ⟨⟨rfl, hit, rfl, hH⟩, hr, hnd⟩
        obtain ⟨hnx, hnd⟩ := List.nodup_cons.mp hnd
        have hr2 : ∀ i ∈ rest, ∃ e, raw[i]? = some e := fun i hi => hr i (List.mem_cons_of_mem _ hi)
        obtain ⟨e', he⟩ := hr x' List.mem_cons_self
        rcases pair_get M.ka x' with ⟨k', e2, hk', he', en⟩ | ⟨_, z⟩
        · rw [he] at he'
          cases he'
          have hx : raw.toArray[x']? = some e' := by rw [List.getElem?_toArray]; exact he
          rw [hx]
          dsimp only
          have go : ¬ k' = (.text x) → ((hit = none ∧ ∀ j, ks[j]? = some (.text x) → j ∈ rest) ∨ ∃ j, hit = some j ∧ ks[j]? = some (.text x) ∧ j ∉ rest) := fun ne => by
            rcases hH with ⟨h0, hj⟩ | ⟨j, h0, hj, hm⟩
            · refine .inl ⟨h0, fun j q => ?_⟩
              rcases List.mem_cons.mp (hj j q) with e | e
              · subst e
                rw [hk'] at q
                exact absurd (Option.some.inj q) ne
              · exact e
            · exact .inr ⟨j, h0, hj, fun q => hm (List.mem_cons_of_mem _ q)⟩
          split
          · refine wpAny_bind (wpAny_dictEpoch M.ob M.da (wpAny_bind (eqAt_key k' (.text x) A y _ _ en.is key0 (by omega) _ _ _ _ (wpAny_bind (wpAny_dictEpoch M.ob M.da ?_)))))
            rw [if_neg (by simp)]
            rw [← NestedKey.decide_eq]
            split
            · rename_i hkk
              have hkk := of_decide_eq_true hkk
              rcases hH with ⟨h0, hj⟩ | ⟨j, h0, hj, hm⟩
              · subst h0
                rw [if_neg (by simp)]
                refine wpAny_bind (wpAny_rule ?_)
                split
                · exact wpAny_pure (wpAny_pure (hsome x' (by rw [hk', hkk])))
                · exact wpAny_pure ⟨⟨rfl, _, rfl, .inr ⟨x', rfl, by rw [hk', hkk], hnx⟩⟩, hr2, hnd⟩
              · exact absurd (same_place M.nd (hk'.trans (congrArg some hkk)) hj) fun e => hm (by rw [← e]; exact List.mem_cons_self)
            · rename_i hkk
              refine wpAny_bind (wpAny_rule ?_)
              rw [if_neg (by simp)]
              exact wpAny_pure ⟨⟨rfl, _, rfl, go fun e => hkk (decide_eq_true e)⟩, hr2, hnd⟩
          · rename_i hh
            exact wpAny_pure ⟨⟨rfl, _, rfl, go fun e2 => hh (by rw [en.hs, e2]; simp)⟩, hr2, hnd⟩
        · rw [he] at z; cases z
      · rintro b y ⟨⟨rfl, hit, rfl, hH⟩, _, _⟩
        rcases hH with ⟨rfl, hj⟩ | ⟨j, rfl, hj, _⟩
        · exact wpAny_pure (hnone fun hm => by
            obtain ⟨j, q⟩ := List.getElem?_of_mem hm
            exact nomatch hj j q)
        · exact wpAny_pure (hsome j hj)
  case tup a o' vs n ks' h1 h2 h3 h4 =>
    dsimp only
    rw [if_neg (show ¬ ((Value.ref a :: ((plc raw (NestedKey.hash w (.tup ks'))).filterMap fun i => raw.toArray[i]?.map (·.key))).all carriedByValue) = true by simp [carriedByValue])]
    rw [if_neg hany]
    by_cases hone : (((plc raw (NestedKey.hash w (.tup ks'))).filterMap fun i => raw.toArray[i]?.map (·.key)) == [Value.ref a]) = true
    all_goals
      first
        | rw [if_pos hone]
        | rw [if_neg hone]
      first
        | refine wpAny_bind (wpAny_pure ?_)
        | refine wpAny_bind (quiet_tells hqk hst ?_)
      rw [if_neg (by simp)]
      refine wpAny_bind (wpAny_forIn_list _ (fun rest b y => (y = s ∧ ∃ hit, b = (none, hit) ∧ ((hit = none ∧ ∀ j, ks[j]? = some (.tup ks') → j ∈ rest) ∨ ∃ j, hit = some j ∧ ks[j]? = some (.tup ks') ∧ j ∉ rest)) ∧ (∀ i ∈ rest, ∃ e, raw[i]? = some e) ∧ rest.Nodup) _ ?_ ?_ _ _ ⟨⟨rfl, none, rfl, .inl ⟨rfl, hplc⟩⟩, hin, nodup_plc⟩)
      · rintro x' rest b y ⟨⟨rfl, hit, rfl, hH⟩, hr, hnd⟩
        obtain ⟨hnx, hnd⟩ := List.nodup_cons.mp hnd
        have hr2 : ∀ i ∈ rest, ∃ e, raw[i]? = some e := fun i hi => hr i (List.mem_cons_of_mem _ hi)
        obtain ⟨e', he⟩ := hr x' List.mem_cons_self
        rcases pair_get M.ka x' with ⟨k', e2, hk', he', en⟩ | ⟨_, z⟩
        · rw [he] at he'
          cases he'
          have hx : raw.toArray[x']? = some e' := by rw [List.getElem?_toArray]; exact he
          rw [hx]
          dsimp only
          have go : ¬ k' = (.tup ks') → ((hit = none ∧ ∀ j, ks[j]? = some (.tup ks') → j ∈ rest) ∨ ∃ j, hit = some j ∧ ks[j]? = some (.tup ks') ∧ j ∉ rest) := fun ne => by
            rcases hH with ⟨h0, hj⟩ | ⟨j, h0, hj, hm⟩
            · refine .inl ⟨h0, fun j q => ?_⟩
              rcases List.mem_cons.mp (hj j q) with e | e
              · subst e
                rw [hk'] at q
                exact absurd (Option.some.inj q) ne
              · exact e
            · exact .inr ⟨j, h0, hj, fun q => hm (List.mem_cons_of_mem _ q)⟩
          split
          · refine wpAny_bind (wpAny_dictEpoch M.ob M.da (wpAny_bind (eqAt_key k' (.tup ks') A y _ _ en.is key0 (by omega) _ _ _ _ (wpAny_bind (wpAny_dictEpoch M.ob M.da ?_)))))
            rw [if_neg (by simp)]
            rw [← NestedKey.decide_eq]
            split
            · rename_i hkk
              have hkk := of_decide_eq_true hkk
              rcases hH with ⟨h0, hj⟩ | ⟨j, h0, hj, hm⟩
              · subst h0
                rw [if_neg (by simp)]
                refine wpAny_bind (wpAny_rule ?_)
                split
                · exact wpAny_pure (wpAny_pure (hsome x' (by rw [hk', hkk])))
                · exact wpAny_pure ⟨⟨rfl, _, rfl, .inr ⟨x', rfl, by rw [hk', hkk], hnx⟩⟩, hr2, hnd⟩
              · exact absurd (same_place M.nd (hk'.trans (congrArg some hkk)) hj) fun e => hm (by rw [← e]; exact List.mem_cons_self)
            · rename_i hkk
              refine wpAny_bind (wpAny_rule ?_)
              rw [if_neg (by simp)]
              exact wpAny_pure ⟨⟨rfl, _, rfl, go fun e => hkk (decide_eq_true e)⟩, hr2, hnd⟩
          · rename_i hh
            exact wpAny_pure ⟨⟨rfl, _, rfl, go fun e2 => hh (by rw [en.hs, e2]; simp)⟩, hr2, hnd⟩
        · rw [he] at z; cases z
      · rintro b y ⟨⟨rfl, hit, rfl, hH⟩, _, _⟩
        rcases hH with ⟨rfl, hj⟩ | ⟨j, rfl, hj, _⟩
        · exact wpAny_pure (hnone fun hm => by
            obtain ⟨j, q⟩ := List.getElem?_of_mem hm
            exact nomatch hj j q)
        · exact wpAny_pure (hsome j hj)
  case none  =>
    dsimp only
    by_cases hv : ((Value.none :: ((plc raw (NestedKey.hash w (.none))).filterMap fun i => raw.toArray[i]?.map (·.key))).all carriedByValue) = true
    · rw [if_pos hv]
      exact walk_plain hu key0 hd M hnone hsome
    rw [if_neg hv]
    by_cases hone : (((plc raw (NestedKey.hash w (.none))).filterMap fun i => raw.toArray[i]?.map (·.key)) == [Value.none]) = true
    all_goals
      first
        | rw [if_pos hone]
        | rw [if_neg hone]
      first
        | refine wpAny_bind (wpAny_pure ?_)
        | refine wpAny_bind (quiet_tells hqk hst ?_)
      rw [if_neg (by simp)]
      refine wpAny_bind (wpAny_forIn_list _ (fun rest b y => (y = s ∧ ∃ hit, b = (none, hit) ∧ ((hit = none ∧ ∀ j, ks[j]? = some (.none) → j ∈ rest) ∨ ∃ j, hit = some j ∧ ks[j]? = some (.none) ∧ j ∉ rest)) ∧ (∀ i ∈ rest, ∃ e, raw[i]? = some e) ∧ rest.Nodup) _ ?_ ?_ _ _ ⟨⟨rfl, none, rfl, .inl ⟨rfl, hplc⟩⟩, hin, nodup_plc⟩)
      · rintro x' rest b y ⟨⟨rfl, hit, rfl, hH⟩, hr, hnd⟩
        obtain ⟨hnx, hnd⟩ := List.nodup_cons.mp hnd
        have hr2 : ∀ i ∈ rest, ∃ e, raw[i]? = some e := fun i hi => hr i (List.mem_cons_of_mem _ hi)
        obtain ⟨e', he⟩ := hr x' List.mem_cons_self
        rcases pair_get M.ka x' with ⟨k', e2, hk', he', en⟩ | ⟨_, z⟩
        · rw [he] at he'
          cases he'
          have hx : raw.toArray[x']? = some e' := by rw [List.getElem?_toArray]; exact he
          rw [hx]
          dsimp only
          have go : ¬ k' = (.none) → ((hit = none ∧ ∀ j, ks[j]? = some (.none) → j ∈ rest) ∨ ∃ j, hit = some j ∧ ks[j]? = some (.none) ∧ j ∉ rest) := fun ne => by
            rcases hH with ⟨h0, hj⟩ | ⟨j, h0, hj, hm⟩
            · refine .inl ⟨h0, fun j q => ?_⟩
              rcases List.mem_cons.mp (hj j q) with e | e
              · subst e
                rw [hk'] at q
                exact absurd (Option.some.inj q) ne
              · exact e
            · exact .inr ⟨j, h0, hj, fun q => hm (List.mem_cons_of_mem _ q)⟩
          split
          · refine wpAny_bind (wpAny_dictEpoch M.ob M.da (wpAny_bind (eqAt_key k' (.none) A y _ _ en.is key0 (by omega) _ _ _ _ (wpAny_bind (wpAny_dictEpoch M.ob M.da ?_)))))
            rw [if_neg (by simp)]
            rw [← NestedKey.decide_eq]
            split
            · rename_i hkk
              have hkk := of_decide_eq_true hkk
              rcases hH with ⟨h0, hj⟩ | ⟨j, h0, hj, hm⟩
              · subst h0
                rw [if_neg (by simp)]
                refine wpAny_bind (wpAny_rule ?_)
                split
                · exact wpAny_pure (wpAny_pure (hsome x' (by rw [hk', hkk])))
                · exact wpAny_pure ⟨⟨rfl, _, rfl, .inr ⟨x', rfl, by rw [hk', hkk], hnx⟩⟩, hr2, hnd⟩
              · exact absurd (same_place M.nd (hk'.trans (congrArg some hkk)) hj) fun e => hm (by rw [← e]; exact List.mem_cons_self)
            · rename_i hkk
              refine wpAny_bind (wpAny_rule ?_)
              rw [if_neg (by simp)]
              exact wpAny_pure ⟨⟨rfl, _, rfl, go fun e => hkk (decide_eq_true e)⟩, hr2, hnd⟩
          · rename_i hh
            exact wpAny_pure ⟨⟨rfl, _, rfl, go fun e2 => hh (by rw [en.hs, e2]; simp)⟩, hr2, hnd⟩
        · rw [he] at z; cases z
      · rintro b y ⟨⟨rfl, hit, rfl, hH⟩, _, _⟩
        rcases hH with ⟨rfl, hj⟩ | ⟨j, rfl, hj, _⟩
        · exact wpAny_pure (hnone fun hm => by
            obtain ⟨j, q⟩ := List.getElem?_of_mem hm
            exact nomatch hj j q)
        · exact wpAny_pure (hsome j hj)
  case bool b0 i0 e0 =>
    dsimp only
    by_cases hv : ((Value.bool b0 :: ((plc raw (NestedKey.hash w (.num i0))).filterMap fun i => raw.toArray[i]?.map (·.key))).all carriedByValue) = true
    · rw [if_pos hv]
      exact walk_plain hu key0 hd M hnone hsome
    rw [if_neg hv]
    by_cases hone : (((plc raw (NestedKey.hash w (.num i0))).filterMap fun i => raw.toArray[i]?.map (·.key)) == [Value.bool b0]) = true
    all_goals
      first
        | rw [if_pos hone]
        | rw [if_neg hone]
      first
        | refine wpAny_bind (wpAny_pure ?_)
        | refine wpAny_bind (quiet_tells hqk hst ?_)
      rw [if_neg (by simp)]
      refine wpAny_bind (wpAny_forIn_list _ (fun rest b y => (y = s ∧ ∃ hit, b = (none, hit) ∧ ((hit = none ∧ ∀ j, ks[j]? = some (.num i0) → j ∈ rest) ∨ ∃ j, hit = some j ∧ ks[j]? = some (.num i0) ∧ j ∉ rest)) ∧ (∀ i ∈ rest, ∃ e, raw[i]? = some e) ∧ rest.Nodup) _ ?_ ?_ _ _ ⟨⟨rfl, none, rfl, .inl ⟨rfl, hplc⟩⟩, hin, nodup_plc⟩)
      · rintro x' rest b y ⟨⟨rfl, hit, rfl, hH⟩, hr, hnd⟩
        obtain ⟨hnx, hnd⟩ := List.nodup_cons.mp hnd
        have hr2 : ∀ i ∈ rest, ∃ e, raw[i]? = some e := fun i hi => hr i (List.mem_cons_of_mem _ hi)
        obtain ⟨e', he⟩ := hr x' List.mem_cons_self
        rcases pair_get M.ka x' with ⟨k', e2, hk', he', en⟩ | ⟨_, z⟩
        · rw [he] at he'
          cases he'
          have hx : raw.toArray[x']? = some e' := by rw [List.getElem?_toArray]; exact he
          rw [hx]
          dsimp only
          have go : ¬ k' = (.num i0) → ((hit = none ∧ ∀ j, ks[j]? = some (.num i0) → j ∈ rest) ∨ ∃ j, hit = some j ∧ ks[j]? = some (.num i0) ∧ j ∉ rest) := fun ne => by
            rcases hH with ⟨h0, hj⟩ | ⟨j, h0, hj, hm⟩
            · refine .inl ⟨h0, fun j q => ?_⟩
              rcases List.mem_cons.mp (hj j q) with e | e
              · subst e
                rw [hk'] at q
                exact absurd (Option.some.inj q) ne
              · exact e
            · exact .inr ⟨j, h0, hj, fun q => hm (List.mem_cons_of_mem _ q)⟩
          split
          · refine wpAny_bind (wpAny_dictEpoch M.ob M.da (wpAny_bind (eqAt_key k' (.num i0) A y _ _ en.is key0 (by omega) _ _ _ _ (wpAny_bind (wpAny_dictEpoch M.ob M.da ?_)))))
            rw [if_neg (by simp)]
            rw [← NestedKey.decide_eq]
            split
            · rename_i hkk
              have hkk := of_decide_eq_true hkk
              rcases hH with ⟨h0, hj⟩ | ⟨j, h0, hj, hm⟩
              · subst h0
                rw [if_neg (by simp)]
                refine wpAny_bind (wpAny_rule ?_)
                split
                · exact wpAny_pure (wpAny_pure (hsome x' (by rw [hk', hkk])))
                · exact wpAny_pure ⟨⟨rfl, _, rfl, .inr ⟨x', rfl, by rw [hk', hkk], hnx⟩⟩, hr2, hnd⟩
              · exact absurd (same_place M.nd (hk'.trans (congrArg some hkk)) hj) fun e => hm (by rw [← e]; exact List.mem_cons_self)
            · rename_i hkk
              refine wpAny_bind (wpAny_rule ?_)
              rw [if_neg (by simp)]
              exact wpAny_pure ⟨⟨rfl, _, rfl, go fun e => hkk (decide_eq_true e)⟩, hr2, hnd⟩
          · rename_i hh
            exact wpAny_pure ⟨⟨rfl, _, rfl, go fun e2 => hh (by rw [en.hs, e2]; simp)⟩, hr2, hnd⟩
        · rw [he] at z; cases z
      · rintro b y ⟨⟨rfl, hit, rfl, hH⟩, _, _⟩
        rcases hH with ⟨rfl, hj⟩ | ⟨j, rfl, hj, _⟩
        · exact wpAny_pure (hnone fun hm => by
            obtain ⟨j, q⟩ := List.getElem?_of_mem hm
            exact nomatch hj j q)
        · exact wpAny_pure (hsome j hj)
  case int i0 t0 =>
    dsimp only
    by_cases hv : ((Value.int i0 t0 :: ((plc raw (NestedKey.hash w (.num i0))).filterMap fun i => raw.toArray[i]?.map (·.key))).all carriedByValue) = true
    · rw [if_pos hv]
      exact walk_plain hu key0 hd M hnone hsome
    rw [if_neg hv]
    by_cases hone : (((plc raw (NestedKey.hash w (.num i0))).filterMap fun i => raw.toArray[i]?.map (·.key)) == [Value.int i0 t0]) = true
    all_goals
      first
        | rw [if_pos hone]
        | rw [if_neg hone]
      first
        | refine wpAny_bind (wpAny_pure ?_)
        | refine wpAny_bind (quiet_tells hqk hst ?_)
      rw [if_neg (by simp)]
      refine wpAny_bind (wpAny_forIn_list _ (fun rest b y => (y = s ∧ ∃ hit, b = (none, hit) ∧ ((hit = none ∧ ∀ j, ks[j]? = some (.num i0) → j ∈ rest) ∨ ∃ j, hit = some j ∧ ks[j]? = some (.num i0) ∧ j ∉ rest)) ∧ (∀ i ∈ rest, ∃ e, raw[i]? = some e) ∧ rest.Nodup) _ ?_ ?_ _ _ ⟨⟨rfl, none, rfl, .inl ⟨rfl, hplc⟩⟩, hin, nodup_plc⟩)
      · rintro x' rest b y ⟨⟨rfl, hit, rfl, hH⟩, hr, hnd⟩
        obtain ⟨hnx, hnd⟩ := List.nodup_cons.mp hnd
        have hr2 : ∀ i ∈ rest, ∃ e, raw[i]? = some e := fun i hi => hr i (List.mem_cons_of_mem _ hi)
        obtain ⟨e', he⟩ := hr x' List.mem_cons_self
        rcases pair_get M.ka x' with ⟨k', e2, hk', he', en⟩ | ⟨_, z⟩
        · rw [he] at he'
          cases he'
          have hx : raw.toArray[x']? = some e' := by rw [List.getElem?_toArray]; exact he
          rw [hx]
          dsimp only
          have go : ¬ k' = (.num i0) → ((hit = none ∧ ∀ j, ks[j]? = some (.num i0) → j ∈ rest) ∨ ∃ j, hit = some j ∧ ks[j]? = some (.num i0) ∧ j ∉ rest) := fun ne => by
            rcases hH with ⟨h0, hj⟩ | ⟨j, h0, hj, hm⟩
            · refine .inl ⟨h0, fun j q => ?_⟩
              rcases List.mem_cons.mp (hj j q) with e | e
              · subst e
                rw [hk'] at q
                exact absurd (Option.some.inj q) ne
              · exact e
            · exact .inr ⟨j, h0, hj, fun q => hm (List.mem_cons_of_mem _ q)⟩
          split
          · refine wpAny_bind (wpAny_dictEpoch M.ob M.da (wpAny_bind (eqAt_key k' (.num i0) A y _ _ en.is key0 (by omega) _ _ _ _ (wpAny_bind (wpAny_dictEpoch M.ob M.da ?_)))))
            rw [if_neg (by simp)]
            rw [← NestedKey.decide_eq]
            split
            · rename_i hkk
              have hkk := of_decide_eq_true hkk
              rcases hH with ⟨h0, hj⟩ | ⟨j, h0, hj, hm⟩
              · subst h0
                rw [if_neg (by simp)]
                refine wpAny_bind (wpAny_rule ?_)
                split
                · exact wpAny_pure (wpAny_pure (hsome x' (by rw [hk', hkk])))
                · exact wpAny_pure ⟨⟨rfl, _, rfl, .inr ⟨x', rfl, by rw [hk', hkk], hnx⟩⟩, hr2, hnd⟩
              · exact absurd (same_place M.nd (hk'.trans (congrArg some hkk)) hj) fun e => hm (by rw [← e]; exact List.mem_cons_self)
            · rename_i hkk
              refine wpAny_bind (wpAny_rule ?_)
              rw [if_neg (by simp)]
              exact wpAny_pure ⟨⟨rfl, _, rfl, go fun e => hkk (decide_eq_true e)⟩, hr2, hnd⟩
          · rename_i hh
            exact wpAny_pure ⟨⟨rfl, _, rfl, go fun e2 => hh (by rw [en.hs, e2]; simp)⟩, hr2, hnd⟩
        · rw [he] at z; cases z
      · rintro b y ⟨⟨rfl, hit, rfl, hH⟩, _, _⟩
        rcases hH with ⟨rfl, hj⟩ | ⟨j, rfl, hj, _⟩
        · exact wpAny_pure (hnone fun hm => by
            obtain ⟨j, q⟩ := List.getElem?_of_mem hm
            exact nomatch hj j q)
        · exact wpAny_pure (hsome j hj)
end
end DL

set_option Elab.async false
set_option linter.all false
set_option maxRecDepth 100000
/-! DL22: own classes: new instances, attributes, methods; a law's row where classes stand. -/
namespace DL
open PySem PySem.Spec PyProof.Rows L2
/-- what the top has made: the world, where each class stands -/
class CTab where
  w : World
  Span : Addr := 0
  Book : Addr := 0
  Cook : Addr := 0
  OvenError : Addr := 0
  BadKitchen : Addr := 0
  BadReading : Addr := 0
  BadText : Addr := 0
  Full : Addr := 0
  NoWorld : Addr := 0
  NothingToUndo : Addr := 0
  NoReading : Addr := 0
  NoWish : Addr := 0
  tc_stretch : Addr := 0
  tt_stretch : Addr := 0
  tc_safe_by : Addr := 0
  tt_safe_by : Addr := 0
  tc_may : Addr := 0
  tt_may : Addr := 0
  tc_safe_minutes : Addr := 0
  tt_safe_minutes : Addr := 0
  tc_looks : Addr := 0
  tt_looks : Addr := 0
  tc_law : Addr := 0
  tt_law : Addr := 0
  tc_law_told : Addr := 0
  tt_law_told : Addr := 0
  tc_law_dials : Addr := 0
  tt_law_dials : Addr := 0
  tc_law_minutes : Addr := 0
  tt_law_minutes : Addr := 0
  tc_law_deeds : Addr := 0
  tt_law_deeds : Addr := 0
  xm : Value → Value → Bool → Prop := fun _ _ _ => False
  lam : Nat → Obj → Addr → Str → Prop := fun _ _ _ _ => False
  fn : Nat → Addr := fun _ => 0
/-- the attributes of an instance of the class at C -/
def insO (C : Addr) : Option DO → Option (List (Str × D))
  | some (.ins C' fs) => if C' = C then some fs else none
  | _ => none
def insD (h : DH) (C : Addr) : D → Option (List (Str × D))
  | .loc a => insO C (h a)
  | _ => none
def fldV (fs : List (Str × D)) (f : Str) : Option D := fs.lookup f
def putFD (f : Str) (v : D) : List (Str × D) → List (Str × D)
  | [] => [(f, v)]
  | (g, x) :: r => if g = f then (g, v) :: r else (g, x) :: putFD f v r
theorem insO_of {C : Addr} {o : Option DO} {fs : List (Str × D)} (e : insO C o = some fs) : o = some (.ins C fs) := by
  cases o with
  | none => cases e
  | some u =>
    cases u with
    | ins C' fs' =>
      unfold insO at e
      dsimp only at e
      by_cases z : C' = C
      · rw [if_pos z] at e; cases e; rw [z]
      · rw [if_neg z] at e; cases e
    | _ => cases e
theorem insO_at {C : Addr} {fs : List (Str × D)} : insO C (some (.ins C fs)) = some fs := by unfold insO; dsimp only; rw [if_pos rfl]
def dFld (C : Addr) (t : DE) (f : Str) : DE := fun τ h Q => t τ h fun x h1 => need ((insD h1 C x).bind fun fs => fldV fs f) h1 Q
/-- the names' text is put aside: what a new instance holds -/
def setF (C : Addr) (x y : D) (f : Str) (h : DH) (N : DH → Prop) : Prop := ∃ a fs, x = .loc a ∧ h a = some (.ins C fs) ∧ fs.length < 1000 ∧ N (hupd h a (.ins C (putFD f y fs)))
def dSetF (C : Addr) (t : DE) (f : Str) (tv : DE) : DS := fun D τ h => tv τ h fun y h1 => t τ h1 fun x h2 => setF C x y f h2 fun h3 => D.nx τ h3
def isObj (h : DH) (C : Addr) (m : Str) (x : D) : Prop := ∃ a fs, x = .loc a ∧ h a = some (.ins C fs) ∧ fldV fs m = none
def dMeth (C : Addr) (m : Str) (n : Nat) (M : DC) (t : DE) (a : DA) : DE := fun τ h Q => t τ h fun x h1 => isObj h1 C m x ∧ a τ h1 fun ds h2 => ds.length + 1 = n ∧ M (x :: ds) h2 Q
def dMake (C : Addr) (n : Nat) (M : DC) (a : DA) : DE := fun τ h Q => a τ h fun ds h1 => ds.length + 1 = n ∧ ∀ p, h1 p = none → M (.loc p :: ds) (hupd h1 p (.ins C [])) fun v h2 => v = .non ∧ Q (.loc p) h2
section
variable {K : PySem.W.Frag} {H : Hp}
theorem rkv_lookup {fs : List (Str × D)} {us : List (Str × V)} (r : RKV K H fs us) (f : Str) : (fldV fs f = none ∧ us.lookup f = none) ∨ ∃ d v, fldV fs f = some d ∧ us.lookup f = some v ∧ RV K H d v := by
  unfold RKV at r
  unfold fldV
  induction r with
  | nil => exact .inl ⟨rfl, rfl⟩
  | @cons p q ps qs hq t ih =>
    obtain ⟨g, d⟩ := p
    obtain ⟨g', v⟩ := q
    obtain ⟨e, rv⟩ := hq
    dsimp only at e rv
    subst e
    cases z : (f == g) with
    | true => exact .inr ⟨d, v, by simp [List.lookup, z], by simp [List.lookup, z], rv⟩
    | false =>
      have e1 : List.lookup f ((g, d) :: ps) = List.lookup f ps := by simp [List.lookup, z]
      have e2 : List.lookup f ((g, v) :: qs) = List.lookup f qs := by simp [List.lookup, z]
      rw [e1, e2]
      exact ih
theorem rkv_putF {f : Str} {d : D} {v : V} (rv : RV K H d v) {fs : List (Str × D)} {us : List (Str × V)} (r : RKV K H fs us) : RKV K H (putFD f d fs) (putF f v us) := by
  unfold RKV at r ⊢
  induction r with
  | nil => exact .cons ⟨rfl, rv⟩ .nil
  | @cons p q ps qs hq t ih =>
    obtain ⟨g, x⟩ := p
    obtain ⟨g', y⟩ := q
    obtain ⟨e, r2⟩ := hq
    dsimp only at e r2
    subst e
    show Paired _ (if g = f then (g, d) :: ps else (g, x) :: putFD f d ps) (if g = f then (g, v) :: qs else (g, y) :: putF f v qs)
    by_cases z : g = f
    · rw [if_pos z, if_pos z]; exact .cons ⟨rfl, rv⟩ t
    · rw [if_neg z, if_neg z]; exact .cons ⟨rfl, r2⟩ ih
end
section
variable {X : Cx} {K : PySem.W.Frag} {e o : Expr} {es : List Expr} {te to : TE} {de d1 : DE} {ta : TA} {da : DA} {C : Addr} {f m : Str} {pos pos' apos p : Pos} {k n : Nat} {M : DC} {x : Str}
theorem xfld (he : XE X K e te de) (c : Cls K C) (na : NoAttr K C f) (hb : attributeBase e f X.env (eval e X.env) = eval e X.env := by rfl) (hK : X.K = K := by rfl) : XE X K (.Attribute e f pos) (tFld K te f) (dFld C de f) :=
  ⟨by subst hK; exact pe_fld he.p hb, fun τ σ h H Q Q0 rs hr bw w => he.l τ σ h H _ _ rs hr (fun d h1 v H1 x1 r1 hr1 w1 => by
    obtain ⟨y, ey, q⟩ := need_of w1
    obtain ⟨fs, e1, e2⟩ := Option.bind_eq_some_iff.mp ey
    cases d with
    | loc a =>
      have e3 := insO_of (show insO C (h1 a) = some fs from e1)
      obtain ⟨dx, us, s, r⟩ := hr1 _ _ e3
      rcases rkv_lookup r f with ⟨z, _⟩ | ⟨d2, v2, z1, z2, rv⟩
      · rw [e2] at z; cases z
      · rw [e2] at z1; cases z1
        exact ⟨a, C, dx, us, v2, rv_loc r1, s, c, na, z2, bw _ h1 _ H1 x1 rv hr1 q⟩
    | _ => cases e1) w⟩
theorem xs_setF {value : Expr} {tv : TE} {dv : DE} (ho : XE X K o to d1) (hv : XE X K value tv dv) (c : Cls K C) (na : NoAttr K C f) (hs : swapsWith value (some (.Attribute o f pos')) pos.line X.env = pure false := by rfl) (hK : X.K = K := by rfl) :
    XS X K (.Assign [.Attribute o f pos'] value pos) (sFld K to tv f) (dSetF C d1 f dv) :=
  ⟨by subst hK; exact ps_fld ho.p hv.p hs, fun τ σ h H D D0 rs hr bw w => hv.l τ σ h H _ _ rs hr (fun y h1 vy H1 x1 ry hr1 w1 => ho.l τ σ h1 H1 _ _ (rs.mono x1) hr1 (fun d h2 vo H2 x2 ro hr2 w2 => by
    obtain ⟨a, fs, e1, e2, l, q⟩ := w2
    subst e1
    obtain ⟨dx, us, s, r⟩ := hr2 _ _ e2
    have x3 : TX K H2 (upd H2 a (.ins C dx (putF f vy us))) := tx_ins s
    refine ⟨a, C, dx, us, rv_loc ro, s, c, na, by rw [← rkv_length r]; exact l, ?_⟩
    refine bw.nx τ σ _ _ (x1.trans (x2.trans x3)) (rs.mono (x1.trans (x2.trans x3))) (hr2.put (o := .ins C (putFD f y fs)) x3 ⟨dx, _, upd_same, ?_⟩) q
    exact rkv_putF (RV.mono (x2.trans x3) _ _ ry) (r.mono x3)) w1) w⟩

/-- defs of classes -/
def KnownM (P : Program) (w : World) (K : PySem.W.Frag) (mg : Str → Option Value) (base : Heap) (C : Addr) (m : Str) (k n : Nat) (M : DC) : Prop :=
  ∃ (f : Addr) (fd : FuncData) (ps : List Str), FnG P w K mg base CX0 k f fd ps (spD K n M) ∧ Cls K C ∧ Meth K C m f ∧ Binds K fd ps []
def KnownI (P : Program) (w : World) (K : PySem.W.Frag) (mg : Str → Option Value) (base : Heap) (x : Str) (C : Addr) (k n : Nat) (M : DC) : Prop :=
  ∃ (f : Addr) (fd : FuncData) (ps : List Str), FnG P w K mg base CX0 k f fd ps (spD K n M) ∧ Mk K C f ∧ mg x = some (.ref C) ∧ Binds K fd ps []
theorem le_meth {E : XK} (l1 : LE K to d1) (la : LA K ta da) : LE K (tMeth C m (spD K n M) [] E to ta) (dMeth C m n M d1 da) := fun τ σ h H Q Q0 rs hr bw w =>
  l1 τ σ h H _ _ rs hr (fun d h1 v H1 x1 r1 hr1 w1 => by
    obtain ⟨⟨a, fs, e1, e2, e3⟩, w2⟩ := w1
    subst e1
    obtain ⟨dx, us, s, r⟩ := hr1 _ _ e2
    have hl : us.lookup m = none := by
      rcases rkv_lookup r m with ⟨_, z⟩ | ⟨d2, v2, z1, z2, rv⟩
      · exact z
      · rw [e3] at z1; cases z1
    refine ⟨a, dx, us, rv_loc r1, s, hl, la τ σ h1 H1 _ _ (rs.mono x1) hr1 (fun ds h2 vs H2 x2 r2 hr2 w3 => ?_) w2⟩
    refine ⟨by rw [List.append_nil, List.length_cons, ← r2.length]; exact w3.1, .loc a :: ds, h2, Q, ?_, hr2, bw.mono (x1.trans x2), w3.2⟩
    rw [List.append_nil]
    exact rvs_cons' (RV.mono x2 _ _ r1) r2) w
theorem le_make {E : XK} (la : LA K ta da) : LE K (tMake C (spD K n M) [] E ta) (dMake C n M da) := fun τ σ h H Q Q0 rs hr bw w =>
  la τ σ h H _ _ rs hr (fun ds h1 vs H1 x1 r1 hr1 w1 x dx hx hdx ne => by
    have x2 : TX K H1 (upd H1 dx (.own x)) := tx_new hdx
    have hx2 : upd H1 dx (.own x) x = none := by rw [upd_ne (fun z => ne z.symm)]; exact hx
    have x3 : TX K (upd H1 dx (.own x)) (upd (upd H1 dx (.own x)) x (.ins C dx [])) := tx_new hx2
    have hr2 : HR K (upd (upd H1 dx (.own x)) x (.ins C dx [])) (hupd h1 x (.ins C [])) := (hr1.lay hdx).put x3 ⟨dx, [], upd_same, .nil⟩
    refine ⟨by rw [List.append_nil, List.length_cons, ← r1.length]; exact w1.1, .loc x :: ds, _, fun v h2 => v = .non ∧ Q (.loc x) h2, ?_, hr2, ?_, w1.2 x (hr1.free hx)⟩
    · rw [List.append_nil]
      exact rvs_cons' rv_loc' (RVs.mono (x2.trans x3) _ _ r1)
    · intro d h' v H' x4 rv hr' q
      obtain ⟨q1, q2⟩ := q
      subst q1
      exact ⟨rv_non rv, bw _ h' _ H' (x1.trans (x2.trans (x3.trans x4))) rv_loc' hr' q2⟩) w
theorem RoomG.make {A : Around} (r : RoomG (k + 1) A) (C : Addr) (us : List Value) : RoomG k (A.under (.builtin "type.__call__" ⟨.ref C :: us, []⟩)) :=
  ⟨r.r.make C us [], by
    have := r.g
    first | exact this | (simp [Around.under, Code.isGuard, guardIds]; exact this) | (unfold Around.under; simp [this, Code.isGuard, guardIds])⟩
section
variable {CX : CXT} {g : Addr} {fd : FuncData} {ps : List Str} {sp : Sp} {E : XK} {pl : Sem Bool}
theorem peG_meth (he : PE X o to) (c : Cls X.K C) (hm : Meth X.K C m g) (F : FnG X.prog X.w X.K X.mg X.base CX k g fd ps sp) (hr : RoomG k X.A) (hb : Binds X.K fd ps []) (hx : Passes CX X E) (ha : PA X (e :: es) ta)
    (hst : starEach (e :: es) X.env = (false, eval e X.env) :: starEach es X.env) (hpl : (backTo pos (starEach es X.env)).any (·.1) = false)
    (ht : eval (.Call (.Attribute o m apos) (e :: es) [] pos) X.env = (do
      let ov ← eval o X.env
      standAt apos.atName
      let (f, first) ← holding [ov] (getMethod ov m pl)
      callWith pos f first (backTo pos (starEach (e :: es) X.env)) (backToKw pos (keywordEach [] X.env)))) : PE X (.Call (.Attribute o m apos) (e :: es) [] pos) (tMeth C m sp [] E to ta) := by
  refine ⟨fun pins s σ H Q I h => PySem.W.methodCall_KW (pl := pl) (thn (he.run pins s σ H _ I h) fun u s1 ⟨x, H1, I1, rx, a, dx, fs, ex, ea, l, q⟩ => ?_) ht⟩
  subst ex
  cases (show u = Value.ref a from rx)
  refine getmeth_ok I1 ea c hm l ?_
  exact PySem.W.callWith_K (first := [.ref a]) (h₀ := X.base) I.ok.mod.kin hm.kp (thn (ha.run pos pins s1 σ H1 _ I1 q) fun us s2 ⟨vs, H2, I2, r, q2⟩ => ⟨I2.kIn, runG (us := .ref a :: us) (vs := .ref a :: vs) F hr hb .nil hx I2 (.cons rfl r) q2⟩) hst hpl
theorem peG_meth0 (he : PE X o to) (c : Cls X.K C) (hm : Meth X.K C m g) (F : FnG X.prog X.w X.K X.mg X.base CX k g fd ps sp) (hr : RoomG k X.A) (hb : Binds X.K fd ps []) (hx : Passes CX X E)
    (ht : eval (.Call (.Attribute o m apos) [] [] pos) X.env = (do
      let ov ← eval o X.env
      standAt apos.atName
      let (f, first) ← holding [ov] (getMethod ov m pl)
      callWith pos f first (backTo pos (starEach [] X.env)) (backToKw pos (keywordEach [] X.env)))) : PE X (.Call (.Attribute o m apos) [] [] pos) (tMeth C m sp [] E to tNil) := by
  refine ⟨fun pins s σ H Q I h => PySem.W.methodCall_KW (pl := pl) (thn (he.run pins s σ H _ I h) fun u s1 ⟨x, H1, I1, rx, a, dx, fs, ex, ea, l, q⟩ => ?_) ht⟩
  subst ex
  cases (show u = Value.ref a from rx)
  refine getmeth_ok I1 ea c hm l ?_
  exact PySem.W.callWith_K0 (first := [.ref a]) I1.kIn hm.kp (runG (us := [.ref a]) (vs := [.ref a]) F hr hb .nil hx I1 (.cons rfl .nil) q)
theorem runG_make {pins : List (Addr × Obj)} {σ : L2.St} {H : Hp} {s : Shared} {Q : VK} {us : List Value} {vs : List V} (Mm : Mk X.K C g) (F : FnG X.prog X.w X.K X.mg X.base CX k g fd ps sp) (hr : RoomG (k + 1) X.A) (hb : Binds X.K fd ps []) (hx : Passes CX X E)
    (I : Inv X pins σ H s) (r : Vals vs us) (h : ∀ x dx, H x = none → H dx = none → dx ≠ x → sp (.ref x :: (vs ++ [])) (upd (upd H dx (.own x)) x (.ins C dx [])) (fun v H2 => v = .non ∧ Q (.ref x) H2) E) :
    wpAny (model X.prog X.w) X.A (call (.ref C) us) (EP X pins σ Q) X.xe s := by
  have a1 : s.heap.objs.size ≤ s.heap.objs.size + 1 := Nat.le_succ _
  have q := h _ _ (I.hok.fresh a1) (I.hok.fresh (Nat.le_refl _)) (Nat.ne_of_lt (Nat.lt_succ_self _))
  rw [List.append_nil] at q
  have J := Inv.made (C := C) I
  have all : Vals (V.ref (s.heap.objs.size + 1) :: vs) (Value.ref (s.heap.objs.size + 1) :: us) := .cons rfl r
  have lens : (Value.ref (s.heap.objs.size + 1) :: us).length = ps.length := all.length.symm.trans (F.len _ _ _ _ q)
  have bind := hb _ (Value.ref (s.heap.objs.size + 1) :: us) J.kIn (by rw [List.append_nil]; exact lens)
  rw [List.append_nil] at bind
  refine wpAny_call (make_map (f := g) I.kIn Mm.makes Mm.init (beq_iff_eq.mp Mm.fn) (codeAny_mono (F.run _ X.stack _ _ ⟨Value.ref (s.heap.objs.size + 1) :: us, []⟩ _ _ _ E (hr.make C us) (J.env0.make C us []) bind all q) fun res s' hq => ?_))
  match res, hq with
  | .error err, hq => exact hx pins σ _ _ err s' J hq
  | .ok (.ret u), hq =>
    obtain ⟨v, H2, J2, rv, ev, q2⟩ := J.after hq
    subst ev
    exact ⟨rv, ⟨V.ref (s.heap.objs.size + 1), H2, J2, rfl, q2⟩⟩
end
theorem xmeth {pl : Sem Bool} (G : KnownM X.prog X.w X.K X.mg X.base C m k n M) (hr : RoomG k X.A) (ho : XE X K o to d1) (ha : XA X K (e :: es) ta da)
    (hst : starEach (e :: es) X.env = (false, eval e X.env) :: starEach es X.env := by rfl) (hpl : (backTo pos (starEach es X.env)).any (·.1) = false := by rfl)
    (ht : eval (.Call (.Attribute o m apos) (e :: es) [] pos) X.env = (do
      let ov ← eval o X.env
      standAt apos.atName
      let (f, first) ← holding [ov] (getMethod ov m pl)
      callWith pos f first (backTo pos (starEach (e :: es) X.env)) (backToKw pos (keywordEach [] X.env))) := by rfl) (hK : X.K = K := by rfl) :
    XE X K (.Call (.Attribute o m apos) (e :: es) [] pos) (tMeth C m (spD K n M) [] E0 to ta) (dMeth C m n M d1 da) := by
  subst hK
  obtain ⟨f, fd, ps, F, c, hm, hb⟩ := G
  exact ⟨peG_meth ho.p c hm F hr hb pass0 ha.p hst hpl ht, le_meth ho.l ha.l⟩
theorem xmeth0 {pl : Sem Bool} (G : KnownM X.prog X.w X.K X.mg X.base C m k n M) (hr : RoomG k X.A) (ho : XE X K o to d1)
    (ht : eval (.Call (.Attribute o m apos) [] [] pos) X.env = (do
      let ov ← eval o X.env
      standAt apos.atName
      let (f, first) ← holding [ov] (getMethod ov m pl)
      callWith pos f first (backTo pos (starEach [] X.env)) (backToKw pos (keywordEach [] X.env))) := by rfl) (hK : X.K = K := by rfl) :
    XE X K (.Call (.Attribute o m apos) [] [] pos) (tMeth C m (spD K n M) [] E0 to tNil) (dMeth C m n M d1 dNil) := by
  subst hK
  obtain ⟨f, fd, ps, F, c, hm, hb⟩ := G
  exact ⟨peG_meth0 ho.p c hm F hr hb pass0 ht, le_meth ho.l (fun τ σ h H Q Q0 rs hr bw w => bw [] h [] H TX.refl rvs_nil' hr w)⟩
theorem xmake (G : KnownI X.prog X.w X.K X.mg X.base x C k n M) (hr : RoomG (k + 1) X.A) (ha : XA X K (e :: es) ta da) (hg : Gl X x := by rfl)
    (hdb : (x == ("__debug__" : Str)) = false := by decide) (he : starEach (e :: es) X.env = (false, eval e X.env) :: starEach es X.env := by rfl) (hpl : (backTo pos (starEach es X.env)).any (·.1) = false := by rfl) (hK : X.K = K := by rfl) :
    XE X K (.Call (.Name x p) (e :: es) [] pos) (tMake C (spD K n M) [] E0 ta) (dMake C n M da) := by
  subst hK
  obtain ⟨f, fd, ps, F, mk, hm, hb⟩ := G
  refine ⟨⟨fun pins s σ H Q I h => wpAny_Call_Name_kw (ld_glob I hg hm (PySem.W.callWith_K (h₀ := X.base) I.ok.mod.kin mk.kp (thn (ha.p.run pos pins s σ H _ I h) fun us s1 ⟨vs, H1, I1, r, q⟩ => ⟨I1.kIn, runG_make mk F hr hb pass0 I1 r q⟩) he hpl) hdb)⟩, le_make ha.l⟩
end
/-- a statement that is never come to -/
theorem xs_never {X : Cx} {K : PySem.W.Frag} {st : Stmt} : XS X K st (fun _ _ _ => False) dNever := ⟨⟨fun _ _ _ _ _ _ h => h.elim⟩, fun _ _ _ _ _ _ _ _ _ w => w.elim⟩
theorem methI {P : Program} {w : World} {K : PySem.W.Frag} {mg : Str → Option Value} {base : Heap} {qn qual : Str} {st : Stmt} {f C : Addr} {fd : FuncData} {ps : List Str} {k n : Nat} {M : DC} {m : Str} (F : Fun K qn qual st f fd) (c : Cls K C) (hm : Meth K C m f) (G : FnG P w K mg base CX0 k f fd ps (spD K n M)) (b : Binds K fd ps []) :
    KnownM P w K mg base C m k n M := ⟨f, fd, ps, G, c, hm, b⟩
theorem initI {P : Program} {w : World} {K : PySem.W.Frag} {mg : Str → Option Value} {base : Heap} {qn qual : Str} {st : Stmt} {f C : Addr} {fd : FuncData} {ps : List Str} {k n : Nat} {M : DC} {x : Str} (F : Fun K qn qual st f fd) (mk : Mk K C f) (hm : mg x = some (.ref C)) (G : FnG P w K mg base CX0 k f fd ps (spD K n M)) (b : Binds K fd ps []) :
    KnownI P w K mg base x C k n M := ⟨f, fd, ps, G, mk, hm, b⟩
/-- stepping -/
theorem w_fld {C : Addr} {a : Addr} {fs : List (Str × D)} {f : Str} {v : D} {h : DH} {Q : DK} (e : h a = some (.ins C fs)) (l : fldV fs f = some v) (k : Q v h) : need ((insD h C (.loc a)).bind fun fs => fldV fs f) h Q :=
  w_need (by show (insO C (h a)).bind _ = _; rw [e, insO_at]; exact l) k
theorem w_setF {C : Addr} {a : Addr} {fs : List (Str × D)} {f : Str} {v : D} {h : DH} {N : DH → Prop} (e : h a = some (.ins C fs)) (l : fs.length < 1000) (k : N (hupd h a (.ins C (putFD f v fs)))) : setF C (.loc a) v f h N := ⟨a, fs, rfl, e, l, k⟩
/-- a law's row, from its reading, where the reading leans on what the top has made -/
theorem walkC {l : PySem.W.OpenLaw} {n k m : Nat} {q : Program} {loose : List Str} {XP : (Str → Option Value) → Heap → Prop} {YP : World → Heap → Prop} {d : DefRec} {K : Params → PySem.W.Frag} {x : Str} {b : CTab → DS}
    (hn : l.most = some n) (hn2 : n ≤ sizeLine) (hdf : d.params.defaults = []) (hr : RoomG k callerA) (hY : ∀ (w : World) (h : Heap), YP w h → (K w.params).In h)
    (F : ∀ (w : World) (mg : Str → Option Value) (fa : Addr) (h : Heap), (K w.params).In h → h.Ns mainGlobals mg → mg d.name = some (.ref fa) →
      ∃ (fd : FuncData) (T : CTab), (∀ (s : Shared) (u : Value), BindsTo s fd ⟨[u], []⟩ [(x, u)]) ∧ ∀ base : Heap, (K w.params).In base → base.Ns mainGlobals mg → FnG l.prog w (K w.params) mg base CX0 k fa fd [x] (spD (K w.params) 1 (runD m (b T))))
    (law : ∀ (T : CTab) (ns : List Int), ns.length ≤ n → runD m (b T) [.fls (ns.map D.int)] (fun _ => none) fun d _ => d = .bl true) :
    PySem.W.WalkO q loose XP YP l.row.toRowW d [] (fun f vs => PySem.call f vs) := by
  refine Att.attach_call hn hdf fun w s₀ s₁ mg mb fa o pm cd doc a vs ns G Y ho hd hcd hmg hobj hints hlen hg => ?_
  have KX := hY w _ Y
  obtain ⟨fd, T, hb, hF⟩ := F w mg fa _ KX G.T.g hmg
  refine law_at KX G.T.g G.T.b G.T.builtins G.T.nolimit hg hobj hints (Nat.le_trans hlen hn2) hr hF hb fun H sq => ?_
  exact ⟨rfl, [.fls (ns.map D.int)], fun _ => none, _, rvs_cons' (rv_fls' sq (rvs_ints _)) rvs_nil', (fun a o e => nomatch e), fun d h' v H' _ rv _ e => by subst e; exact rv_bl rv, law T ns hlen⟩
end DL

set_option Elab.async false
set_option linter.all false
set_option maxRecDepth 100000
/-! DL23: dicts of mixed keys: looked up, stored into, at the machine's level. -/
namespace DL
open PySem PySem.Spec PyProof.Rows L2
open Sem (wp)
section
variable {prog : Program} {w : World} {A : Around} {E : Value → Shared → Prop} {s : Shared}
/-- the dict at d, by its entries and their keys -/
structure MixD (w : World) (s : Shared) (d : Addr) (raw : List DictEntry) (ks : List NestedKey) : Prop where
  rd : RawD d raw s.heap
  ka : KeysAt w s.heap ks raw
  nd : ks.Nodup
theorem MixD.type {d : Addr} {raw : List DictEntry} {ks : List NestedKey} (M : MixD w s d raw ks) : s.TypeIs (.ref d) "dict" := let ⟨_, o, _, ho, hc, _⟩ := M.rd; ⟨o, ho, hc.1⟩
theorem keep_key {h h' : Heap} {d : Addr} {o : Obj} {es ep} (ho : h.get? d = some o) (hd : o.data = .dict es ep) (hs : Heap.SameBut d h h') {k : NestedKey} {v : Value} (x : NestedIs h k v) : NestedIs h' k v :=
  NestedIs.at (fun b ob vs n hb hc => (hs.2 b fun e => by subst e; rw [ho] at hb; cases hb; rw [hd] at hc; cases hc).trans hb) k _ x
theorem get_mix {d : Addr} {raw : List DictEntry} {ks : List NestedKey} {k : NestedKey} {key : Value} {Q : Option Value → Shared → Prop} (hu : A.units + 8 < cLine) (hk : NestedIs s.heap k key) (hd : k.depth ≤ 8) (M : MixD w s d raw ks)
    (hnone : k ∉ ks → Q none { s with toks := s.toks + k.draws }) (hsome : ∀ (j : Nat) (e : DictEntry), ks[j]? = some k → raw[j]? = some e → Q (some e.val) { s with toks := s.toks + k.draws }) : wpAny (model prog w) A (dictGet d key) Q E s := by
  obtain ⟨_, o, ep, ho, hc, hdata⟩ := M.rd
  unfold dictGet
  try with_reducible refine wpAny_holding ?_
  refine wpAny_bind (pyHash_key _ _ _ _ _ hk (by omega) (wpAny_bind (find_mix (s := { s with toks := s.toks + k.draws }) hu hk hd ⟨ho, hdata, M.ka, M.nd⟩ (fun q => wpAny_pure (hnone q)) fun j hj => ?_)))
  rcases pair_get M.ka j with ⟨k', e, hk', he, en⟩ | ⟨z, _⟩
  · refine wpAny_bind (wpAny_dictEntries (s := { s with toks := s.toks + k.draws }) ho hdata ?_)
    rw [List.getElem?_toArray, he]
    exact wpAny_pure (hsome j e hj he)
  · rw [hj] at z; cases z
theorem pair_app {α β : Type} {F : α → β → Prop} : ∀ {xs xs' : List α} {ys ys' : List β}, Paired F xs ys → Paired F xs' ys' → Paired F (xs ++ xs') (ys ++ ys')
  | _, _, _, _, .nil, r => r
  | _, _, _, _, .cons a t, r => .cons a (pair_app t r)
theorem pair_set {α β : Type} {F : α → β → Prop} : ∀ {xs : List α} {ys : List β}, Paired F xs ys → ∀ (j : Nat) (x : α) (y : β), xs[j]? = some x → F x y → Paired F xs (ys.set j y)
  | _, _, .nil, _, _, _, e, _ => by simp at e
  | _, _, .cons a t, 0, x, y, e, f => by
    simp at e
    subst e
    exact .cons f t
  | _, _, .cons a t, j + 1, x, y, e, f => .cons a (pair_set t j x y (by simpa using e) f)
theorem set_mix {d : Addr} {raw : List DictEntry} {ks : List NestedKey} {k : NestedKey} {key v : Value} {Q : Unit → Shared → Prop} (hu : A.units + 8 < cLine) (hk : NestedIs s.heap k key) (hd : k.depth ≤ 8) (M : MixD w s d raw ks) (hz : raw.length ≤ sizeLine)
    (hnew : k ∉ ks → ∀ h', RawD d (raw ++ [⟨k.hash w, key, v⟩]) h' → Heap.SameBut d s.heap h' → Q () { s with heap := h', toks := s.toks + k.draws })
    (hold : ∀ (j : Nat) (e : DictEntry), ks[j]? = some k → raw[j]? = some e → ∀ h', RawD d (raw.set j ⟨e.hash, e.key, v⟩) h' → Heap.SameBut d s.heap h' → Q () { s with heap := h', toks := s.toks + k.draws }) :
    wpAny (model prog w) A (dictSet d key v) Q E s := by
  obtain ⟨hsys, o, ep, ho, hc, hdata⟩ := M.rd
  unfold dictSet
  try with_reducible refine wpAny_holding ?_
  refine wpAny_bind (pyHash_key _ _ _ _ _ hk (by omega) ?_)
  unfold dictSetHashed
  try with_reducible refine wpAny_holding ?_
  refine wpAny_bind (find_mix (s := { s with toks := s.toks + k.draws }) hu hk hd ⟨ho, hdata, M.ka, M.nd⟩ (fun q => ?_) fun j hj => ?_)
  · refine wpAny_bind (wpAny_rule (wpAny_updateDictKeys (hz := by rw [List.size_toArray]; omega) (s := { s with toks := s.toks + k.draws }) ho hdata (hnew q _ ⟨hsys, _, ep + 1, Heap.get?_update_self _ ho (Obj.isFreed_of_dict (Obj.data_mapDictKeys hdata _)), hc.mapDictKeys _, ?_⟩ (Heap.SameBut.update ..))))
    rw [Obj.data_mapDictKeys hdata]
    simp
  · rcases pair_get M.ka j with ⟨k', e, hk', he, en⟩ | ⟨z, _⟩
    · refine wpAny_bind (wpAny_rule (wpAny_bind (wpAny_updateDict (s := { s with toks := s.toks + k.draws }) ho hdata (wpAny_point (hold j e hj he _ ⟨hsys, _, ep, Heap.get?_update_self _ ho (Obj.isFreed_of_dict (Obj.data_mapDict hdata _)), hc.mapDict _, ?_⟩ (Heap.SameBut.update ..))))))
      rw [Obj.data_mapDict hdata]
      congr 1
      apply Array.ext'
      rw [Array.toList_modify]
      show List.modify raw j _ = raw.set j _
      refine List.ext_getElem? fun i => ?_
      rw [List.getElem?_modify, List.getElem?_set]
      by_cases z : j = i
      · subst z
        rw [he, if_pos rfl, if_pos (List.getElem?_eq_some_iff.mp he).1]
        simp
      · simp [z]
    · rw [hj] at z; cases z
theorem in_mix {d : Addr} {raw : List DictEntry} {ks : List NestedKey} {k : NestedKey} {key : Value} {Q : Bool → Shared → Prop} (hu : A.units + 9 < cLine) (hk : NestedIs s.heap k key) (hd : k.depth ≤ 8) (M : MixD w s d raw ks)
    (h : Q (decide (k ∈ ks)) { s with toks := s.toks + k.draws }) : wpAny (model prog w) A (contains (.ref d) key) Q E s := by
  refine wpAny_contains_slot M.type PySem.F.slot_dict_contains ?_
  refine call_meetsIn PySem.F.slot_dict_contains M.type PySem.F.entry_dict_contains (PySem.F.args_dict_contains_2 _ _) (S := fun A' R s' => A' = A ∧ s' = s ∧ R (.ok (.ret (.bool (decide (k ∈ ks))))) { s with toks := s.toks + k.draws }) (fun A' R s' hS => ?_) ⟨rfl, rfl, wpAny_truthy_bool h⟩
  obtain ⟨rfl, rfl, hq⟩ := hS
  show wpAny _ _ (dictGet d key >>= _) _ _ _
  refine wpAny_bind (get_mix (by show A'.units + 1 + 8 < cLine; omega) hk hd M (fun q => ?_) fun j e hj he => ?_)
  · rw [decide_eq_false q] at hq
    exact wpAny_bind (wpAny_pendingKey_other M.rd.1 (wpAny_pure hq))
  · rw [decide_eq_true (List.mem_of_getElem? hj)] at hq
    exact wpAny_pure hq
theorem item_mix {d : Addr} {raw : List DictEntry} {ks : List NestedKey} {k : NestedKey} {key : Value} {j : Nat} {e : DictEntry} {Q : Value → Shared → Prop} (hu : A.units + 9 < cLine) (hk : NestedIs s.heap k key) (hd : k.depth ≤ 8) (M : MixD w s d raw ks) (hj : ks[j]? = some k) (he : raw[j]? = some e)
    (h : Q e.val { s with toks := s.toks + k.draws }) : wpAny (model prog w) A (getItem (.ref d) key) Q E s := by
  unfold getItem
  try with_reducible refine wpAny_holding ?_
  refine wpAny_bind (wpAny_sequenceKey M.type (by decide) (wpAny_bind (wpAny_callSpecial?_slot (name := Str.ofString "__getitem__") M.type slot_dict_getitem (wpAny_call_entry slot_dict_getitem M.type entry_dict_getitem ?_ (args_dict_getitem _ _)))))
  show wpAny _ _ (dictGet d key >>= _) _ _ s
  refine wpAny_bind (get_mix (by show A.units + 1 + 8 < cLine; omega) hk hd M (fun q => absurd (List.mem_of_getElem? hj) q) fun j' e' hj' he' => ?_)
  have ej := same_place M.nd hj hj'
  subst ej
  rw [he] at he'
  cases he'
  exact wpAny_pure ⟨e.val, rfl, wpAny_pure h⟩
theorem setItem_mix {d : Addr} {raw : List DictEntry} {ks : List NestedKey} {k : NestedKey} {key v : Value} {Q : Unit → Shared → Prop} (hu : A.units + 9 < cLine) (hk : NestedIs s.heap k key) (hd : k.depth ≤ 8) (M : MixD w s d raw ks) (hz : raw.length ≤ sizeLine)
    (hnew : k ∉ ks → ∀ h', RawD d (raw ++ [⟨k.hash w, key, v⟩]) h' → Heap.SameBut d s.heap h' → Q () { s with heap := h', toks := s.toks + k.draws })
    (hold : ∀ (j : Nat) (e : DictEntry), ks[j]? = some k → raw[j]? = some e → ∀ h', RawD d (raw.set j ⟨e.hash, e.key, v⟩) h' → Heap.SameBut d s.heap h' → Q () { s with heap := h', toks := s.toks + k.draws }) :
    wpAny (model prog w) A (setItem (.ref d) key v) Q E s := by
  unfold setItem
  try with_reducible refine wpAny_holding ?_
  refine wpAny_bind (wpAny_sequenceKey M.type (by decide) (wpAny_bind (wpAny_callSpecial?_slot (name := Str.ofString "__setitem__") M.type slot_dict_setitem (wpAny_call_entry slot_dict_setitem M.type entry_dict_setitem ?_ (args_dict_setitem _ _ _)))))
  show wpAny _ _ (Builtin.Dict.notOrdered "__setitem__" ⟨[.ref d, key, v], []⟩ >>= _) _ _ s
  refine wpAny_bind (wpAny_notOrdered_dict M.type ?_)
  show wpAny _ _ (dictSet d key v >>= _) _ _ s
  exact wpAny_bind (set_mix (by show A.units + 1 + 8 < cLine; omega) hk hd M hz (fun q h' a b => wpAny_pure ⟨.none, rfl, wpAny_pure (hnew q h' a b)⟩) fun j e hj he h' a b => wpAny_pure ⟨.none, rfl, wpAny_pure (hold j e hj he h' a b)⟩)
theorem getm_mix {d : Addr} {raw : List DictEntry} {ks : List NestedKey} {k : NestedKey} {key : Value} {Q : Value → Shared → Prop} (hu : A.units + 9 < cLine) (hk : NestedIs s.heap k key) (hd : k.depth ≤ 8) (M : MixD w s d raw ks)
    (hnone : k ∉ ks → Q .none { s with toks := s.toks + k.draws }) (hsome : ∀ (j : Nat) (e : DictEntry), ks[j]? = some k → raw[j]? = some e → Q e.val { s with toks := s.toks + k.draws }) : wpAny (model prog w) A (call (.builtin "dict.get") [.ref d, key]) Q E s := by
  refine call_meetsIn PySem.F.slot_dict_get M.type PySem.F.entry_dict_get (PySem.F.args_dict_get_2 _ _) (S := fun A' R s' => A' = A ∧ s' = s ∧ (k ∉ ks → R (.ok (.ret .none)) { s with toks := s.toks + k.draws }) ∧ ∀ (j : Nat) (e : DictEntry), ks[j]? = some k → raw[j]? = some e → R (.ok (.ret e.val)) { s with toks := s.toks + k.draws }) (fun A' R s' hS => ?_) ⟨rfl, rfl, hnone, hsome⟩
  obtain ⟨rfl, rfl, h0, h1⟩ := hS
  show wpAny _ _ (dictGet d key >>= _) _ _ _
  refine wpAny_bind (get_mix (by show A'.units + 1 + 8 < cLine; omega) hk hd M (fun q => ?_) fun j e hj he => ?_)
  · exact wpAny_bind (wpAny_missed_other M.rd.1 (wpAny_pure (h0 q)))
  · exact wpAny_pure (h1 j e hj he)
end
end DL

set_option Elab.async false
set_option linter.all false
set_option maxRecDepth 100000
/-! DL24: dicts of mixed keys: readings and their rules. -/
namespace DL
open PySem PySem.Spec PyProof.Rows L2
open Sem (wp)
section
variable {K : PySem.W.Frag} {H : Hp} {P : Program} {w : World} {h : Heap}
theorem key1_is {d : D} {k : NestedKey} {v : V} {u : Value} (e : keyN1 d = some k) (r : RV K H d v) (ru : RelV v u) : NestedIs h k u ∧ k.depth ≤ 1 := by
  cases d with
  | int i =>
    cases e
    rw [rv_int r] at ru
    obtain ⟨t, rfl⟩ := (show ∃ t, u = Value.int i t from ru)
    exact ⟨.int i t, by simp [NestedKey.depth]⟩
  | str x =>
    cases e
    rw [rv_str r] at ru
    obtain ⟨t, rfl⟩ := (show ∃ t, u = Value.str x t from ru)
    exact ⟨.text x t, by simp [NestedKey.depth]⟩
  | _ => cases e
theorem keys_are : ∀ {ds : List D} {ks : List NestedKey} {vs : List V} {us : List Value}, keysN ds = some ks → RVs K H ds vs → Vals vs us → NestedAll h ks us ∧ NestedKey.depthAll ks ≤ 1
  | [], ks, vs, us, e, r, ru => by
    cases e
    rw [rvs_nil r] at ru
    cases ru
    exact ⟨.nil, by simp [NestedKey.depthAll]⟩
  | d :: ds, ks, vs, us, e, r, ru => by
    obtain ⟨x, xs, e1, r1, r2⟩ := rvs_cons r
    subst e1
    cases ru with
    | cons a t =>
      unfold keysN at e
      cases h1 : keyN1 d with
      | none => rw [h1] at e; cases e
      | some k =>
        cases h2 : keysN ds with
        | none => rw [h1, h2] at e; cases e
        | some kr =>
          rw [h1, h2] at e
          cases e
          obtain ⟨q1, q2⟩ := key1_is (h := h) h1 r1 a
          obtain ⟨q3, q4⟩ := keys_are h2 r2 t
          exact ⟨.cons q1 q3, by simp only [NestedKey.depthAll]; omega⟩
theorem key_is {d : D} {k : NestedKey} {v : V} {u : Value} (ok : HOk P w H h) (e : keyN d = some k) (r : RV K H d v) (ru : RelV v u) : NestedIs h k u ∧ k.depth ≤ 8 := by
  cases d with
  | int i => obtain ⟨a, b⟩ := key1_is (h := h) (d := .int i) e r ru; exact ⟨a, by omega⟩
  | str i => obtain ⟨a, b⟩ := key1_is (h := h) (d := .str i) e r ru; exact ⟨a, by omega⟩
  | tup ds =>
    obtain ⟨ks, e1, e2⟩ := Option.map_eq_some_iff.mp (show (keysN ds).map .tup = some k from e)
    subst e2
    obtain ⟨a, vs, ev, s, rs⟩ := rv_tup r
    subst ev
    cases (show u = Value.ref a from ru)
    obtain ⟨_, its, rv, o, e3, e4, n, e5⟩ := (show ObjOk P w H h a (.tup vs) from ok a _ s)
    obtain ⟨q1, q2⟩ := keys_are (h := h) e1 rs rv
    exact ⟨.tup e3 e4 e5 (by simpa using q1), by simp only [NestedKey.depth]; omega⟩
  | _ => cases e
theorem mix_of {a : Addr} {kvs : List (NestedKey × D)} {raw : List DictEntry} {s : Shared} (ok : HOk P w H s.heap) (e : H a = some (.ext (RawD a raw))) (r : RM K H w kvs raw) : MixD w s a raw (kvs.map (·.1)) := by
  refine ⟨(show ObjOk P w H s.heap a (.ext (RawD a raw)) from ok a _ e).1, ?_, r.nd⟩
  have en := r.en
  induction en with
  | nil => exact .nil
  | @cons p q ps qs hq t ih =>
    obtain ⟨kd, kv, v, h1, h2, h3, h4, h5, h6⟩ := hq
    obtain ⟨i1, i2⟩ := key_is ok h1 h2 h3
    refine .cons ⟨i1, i2, h6⟩ ?_
    have key : ∀ {ps : List (NestedKey × D)} {qs : List DictEntry}, Paired (EntD K H w) ps qs → Paired (EntK w s.heap) (ps.map (·.1)) qs := fun t => by
      induction t with
      | nil => exact .nil
      | @cons p q ps qs hq t ih =>
        obtain ⟨kd, kv, v, h1, h2, h3, h4, h5, h6⟩ := hq
        obtain ⟨i1, i2⟩ := key_is ok h1 h2 h3
        exact .cons ⟨i1, i2, h6⟩ ih
    exact key t
/-- the value at a place -/
theorem val_at {kvs : List (NestedKey × D)} {k : NestedKey} {j : Nat} (nd : (kvs.map (·.1)).Nodup) (hj : (kvs.map (·.1))[j]? = some k) : ∃ d, kvs[j]? = some (k, d) ∧ valD kvs k = some d := by
  rw [List.getElem?_map] at hj
  obtain ⟨⟨k', d⟩, e1, e2⟩ := Option.map_eq_some_iff.mp hj
  dsimp only at e2
  subst e2
  refine ⟨d, e1, ?_⟩
  unfold valD
  induction kvs generalizing j with
  | nil => simp at e1
  | cons p ps ih =>
    rw [List.map_cons, List.nodup_cons] at nd
    cases j with
    | zero =>
      simp at e1
      subst e1
      simp
    | succ j =>
      simp at e1
      have ne : ¬ p.1 = k' := fun z => nd.1 (by rw [z]; exact List.mem_map.mpr ⟨_, List.mem_of_getElem? e1, rfl⟩)
      rw [List.find?_cons]
      simp only [ne, decide_false]
      exact ih nd.2 e1 (by rw [e1]; rfl)
theorem val_none {kvs : List (NestedKey × D)} {k : NestedKey} (h : k ∉ kvs.map (·.1)) : valD kvs k = none := by
  unfold valD
  rw [Option.map_eq_none_iff, List.find?_eq_none]
  intro x hx
  simp only [decide_eq_true_eq]
  exact fun e => h (by rw [← e]; exact List.mem_map.mpr ⟨x, hx, rfl⟩)
theorem val_mem {kvs : List (NestedKey × D)} {k : NestedKey} (h : k ∈ kvs.map (·.1)) : ∃ j : Nat, (kvs.map (·.1))[j]? = some k := List.getElem?_of_mem h
theorem val_some {kvs : List (NestedKey × D)} {k : NestedKey} {d : D} (nd : (kvs.map (·.1)).Nodup) (e : valD kvs k = some d) : ∃ j : Nat, (kvs.map (·.1))[j]? = some k ∧ kvs[j]? = some (k, d) := by
  by_cases hm : k ∈ kvs.map (·.1)
  · obtain ⟨j, hj⟩ := val_mem hm
    obtain ⟨d', e1, e2⟩ := val_at nd hj
    rw [e] at e2
    cases e2
    exact ⟨j, hj, e1⟩
  · rw [val_none hm] at e; cases e
theorem put_new {kvs : List (NestedKey × D)} {k : NestedKey} {d : D} (h : k ∉ kvs.map (·.1)) : putD kvs k d = kvs ++ [(k, d)] := by
  unfold putD
  rw [if_neg]
  rw [List.any_eq_true]
  rintro ⟨x, hx, e⟩
  exact h (by rw [← of_decide_eq_true e]; exact List.mem_map.mpr ⟨x, hx, rfl⟩)
theorem put_keys {kvs : List (NestedKey × D)} {k : NestedKey} {d : D} (h : k ∈ kvs.map (·.1)) : putD kvs k d = kvs.map (fun kv => if kv.1 = k then (kv.1, d) else kv) := by
  unfold putD
  rw [if_pos]
  obtain ⟨x, hx, e⟩ := List.mem_map.mp h
  exact List.any_eq_true.mpr ⟨x, hx, decide_eq_true e⟩
theorem rm_new {kvs : List (NestedKey × D)} {raw : List DictEntry} {k : NestedKey} {kd d : D} {kv v : V} {ku u : Value} (r : RM K H w kvs raw) (hz : kvs.length < sizeLine) (h : k ∉ kvs.map (·.1)) (e : keyN kd = some k) (rk : RV K H kd kv) (rku : RelV kv ku) (rd : RV K H d v) (ru : RelV v u) :
    RM K H w (putD kvs k d) (raw ++ [⟨k.hash w, ku, u⟩]) := by
  rw [put_new h]
  refine ⟨pair_app r.en (.cons ⟨kd, kv, v, e, rk, rku, rd, ru, rfl⟩ .nil), ?_, by simp; omega⟩
  rw [List.map_append, List.nodup_append]
  exact ⟨r.nd, by simp, fun a ha b hb => by
    simp only [List.map_cons, List.map_nil, List.mem_singleton] at hb
    subst hb
    exact fun q => h (q ▸ ha)⟩
theorem rm_old {kvs : List (NestedKey × D)} {raw : List DictEntry} {k : NestedKey} {d : D} {v : V} {u : Value} {j : Nat} {e : DictEntry} (r : RM K H w kvs raw) (hj : (kvs.map (·.1))[j]? = some k) (he : raw[j]? = some e) (rd : RV K H d v) (ru : RelV v u) :
    RM K H w (putD kvs k d) (raw.set j ⟨e.hash, e.key, u⟩) := by
  have hm := List.mem_of_getElem? hj
  rw [put_keys hm]
  obtain ⟨en, nd, sz⟩ := r
  refine ⟨?_, ?_, by simpa using sz⟩
  · clear hm sz
    induction en generalizing j with
    | nil => simp at hj
    | @cons p q ps qs hq t ih =>
      rw [List.map_cons, List.nodup_cons] at nd
      cases j with
      | zero =>
        simp at hj he
        subst hj he
        rw [List.map_cons, if_pos rfl, List.set_cons_zero]
        obtain ⟨kd, kv, v', h1, h2, h3, h4, h5, h6⟩ := hq
        refine .cons ⟨kd, kv, v, h1, h2, h3, rd, ru, h6⟩ ?_
        have e0 : ps.map (fun kv => if kv.1 = p.1 then (kv.1, d) else kv) = ps := by
          have : ps.map (fun kv => if kv.1 = p.1 then (kv.1, d) else kv) = ps.map id := List.map_congr_left fun x hx => by
            rw [if_neg (fun z => nd.1 (by rw [← z]; exact List.mem_map.mpr ⟨x, hx, rfl⟩))]
            rfl
          rw [this, List.map_id]
        rw [e0]
        exact t
      | succ j =>
        simp at he
        rw [List.map_cons, List.getElem?_cons_succ] at hj
        have ne : ¬ p.1 = k := fun z => nd.1 (by rw [z]; exact List.mem_of_getElem? hj)
        rw [List.map_cons, if_neg ne, List.set_cons_succ]
        exact .cons hq (ih hj he nd.2)
  · have : (kvs.map (fun kv => if kv.1 = k then (kv.1, d) else kv)).map (·.1) = kvs.map (·.1) := by
      rw [List.map_map]
      refine List.map_congr_left fun x _ => ?_
      show (if x.1 = k then (x.1, d) else x).1 = x.1
      split <;> rfl
    rw [this]
    exact nd
end

/-! ### the hand layer's readings -/
def MixAtH (K : PySem.W.Frag) (w : World) (H : Hp) (a : Addr) (kvs : List (NestedKey × D)) (raw : List DictEntry) : Prop := H a = some (.ext (RawD a raw)) ∧ RM K H w kvs raw
def rInM (K : PySem.W.Frag) (w : World) (neg : Bool) : R2 := fun x y H Q => ∃ a kvs raw kd k, y = .ref a ∧ MixAtH K w H a kvs raw ∧ keyN kd = some k ∧ RV K H kd x ∧ Q (.bl (if neg then !(valD kvs k).isSome else (valD kvs k).isSome)) H
def rIxM (K : PySem.W.Frag) (w : World) : R2 := fun x y H Q => ∃ a kvs raw kd k d, x = .ref a ∧ MixAtH K w H a kvs raw ∧ keyN kd = some k ∧ RV K H kd y ∧ valD kvs k = some d ∧ ∀ v, RV K H d v → Q v H
def rGetM (K : PySem.W.Frag) (w : World) (td ty : TE) : TE := fun σ H Q => td σ H fun x H1 => ∃ a kvs0 raw0, x = .ref a ∧ MixAtH K w H1 a kvs0 raw0 ∧ ty σ H1 fun y H2 => ∃ kvs raw kd k, MixAtH K w H2 a kvs raw ∧ keyN kd = some k ∧ RV K H2 kd y ∧ (valD kvs k = none → Q .non H2) ∧ ∀ d v, valD kvs k = some d → RV K H2 d v → Q v H2
def rSetM (K : PySem.W.Frag) (w : World) : TSet := fun o i v H Q => ∃ a kvs raw kd k, o = .ref a ∧ MixAtH K w H a kvs raw ∧ keyN kd = some k ∧ RV K H kd i ∧ kvs.length < sizeLine ∧
  (k ∉ kvs.map (·.1) → ∀ ku u, RelV i ku → RelV v u → Q (upd H a (.ext (RawD a (raw ++ [⟨k.hash w, ku, u⟩]))))) ∧
  ∀ j e u, (kvs.map (·.1))[j]? = some k → raw[j]? = some e → RelV v u → Q (upd H a (.ext (RawD a (raw.set j ⟨e.hash, e.key, u⟩))))
section
variable {X : Cx} {neg : Bool} {pos : Pos}
theorem op_inM (hu : X.A.units + 9 < cLine) : OpR X (compareOp (if neg then .NotIn else .In)) (rInM X.K X.w neg) := by
  intro pins s σ H x y u v Q I rx ry ⟨a, kvs, raw, kd, k, ey, ⟨e1, e2⟩, hk, rk, q⟩
  subst ey
  cases (show v = Value.ref a from ry)
  obtain ⟨i1, i2⟩ := key_is I.hok hk rk rx
  have M := mix_of I.hok e1 e2
  have eb : decide (k ∈ kvs.map (·.1)) = (valD kvs k).isSome := by
    by_cases hm : k ∈ kvs.map (·.1)
    · obtain ⟨j, hj⟩ := val_mem hm
      obtain ⟨d, _, e⟩ := val_at M.nd hj
      rw [decide_eq_true hm, e]; rfl
    · rw [decide_eq_false hm, val_none hm]; rfl
  cases neg with
  | true =>
    show wpAny _ _ (do return Value.bool (!(← contains (.ref a) u))) _ _ s
    exact wpAny_bind (in_mix hu i1 i2 M (wpAny_pure ⟨_, H, I.tok _, by rw [eb]; rfl, q⟩))
  | false =>
    show wpAny _ _ (do return Value.bool (← contains (.ref a) u)) _ _ s
    exact wpAny_bind (in_mix hu i1 i2 M (wpAny_pure ⟨_, H, I.tok _, by rw [eb]; rfl, q⟩))
theorem at_entry {K : PySem.W.Frag} {H : Hp} {w : World} {kvs : List (NestedKey × D)} {raw : List DictEntry} (r : RM K H w kvs raw) {j : Nat} {k : NestedKey} (hj : (kvs.map (·.1))[j]? = some k) : ∃ e d v, raw[j]? = some e ∧ valD kvs k = some d ∧ RV K H d v ∧ RelV v e.val := by
  obtain ⟨d, e1, e2⟩ := val_at r.nd hj
  rcases pair_get r.en j with ⟨p, e, h1, h2, ⟨kd, kv, v, _, _, _, h4, h5, _⟩⟩ | ⟨z, _⟩
  · rw [e1] at h1
    cases h1
    exact ⟨e, d, v, h2, e2, h4, h5⟩
  · rw [e1] at z; cases z
theorem ix_M (hu : X.A.units + 9 < cLine) : IxR X (rIxM X.K X.w) := by
  intro value slice pins s σ H x y v u Q I rx ry ⟨a, kvs, raw, kd, k, d, ex, ⟨e1, e2⟩, hk, rk, ev, q⟩ hs
  subst ex
  cases (show v = Value.ref a from rx)
  obtain ⟨i1, i2⟩ := key_is I.hok hk rk ry
  have M := mix_of I.hok e1 e2
  obtain ⟨j, hj, _⟩ := val_some M.nd ev
  obtain ⟨e, d', v', he, ed, rd, rv⟩ := at_entry e2 hj
  rw [ev] at ed
  cases ed
  exact tail_any M.type PySem.F.slot_dict_getitem.lookup (item_mix hu i1 i2 M hj he ⟨v', H, I.tok _, rv, q v' rd⟩) hs
theorem set_M (hu : X.A.units + 9 < cLine) : PSet X (rSetM X.K X.w) := by
  intro pins s σ H o i v ov iv u Q I ro ri rv ⟨a, kvs, raw, kd, k, eo, ⟨e1, e2⟩, hk, rk, hz, q1, q2⟩
  subst eo
  cases (show ov = Value.ref a from ro)
  obtain ⟨i1, i2⟩ := key_is I.hok hk rk ri
  have M := mix_of I.hok e1 e2
  have ok : ∀ {raw' : List DictEntry} {h' : Heap}, RawD a raw' h' → ObjOk X.prog X.w (upd H a (.ext (RawD a raw'))) h' a (.ext (RawD a raw')) := fun {raw' h'} r => ⟨r, let ⟨_, o, ep, ho, _⟩ := r; ⟨o, ho⟩, fun h1 h2 ⟨z, o, ep, ho, hc, hd⟩ kp => ⟨z, o, ep, kp _ ho, hc, hd⟩⟩
  have some_at : ∀ {raw' : List DictEntry} {h' : Heap}, RawD a raw' h' → ∃ q, h'.get? a = some q := fun r => let ⟨_, o, ep, ho, _⟩ := r; ⟨o, ho⟩
  have hl : kvs.length = raw.length := Paired.length e2.en
  refine setItem_mix hu i1 i2 M (by omega) (fun hn h' r sb => ?_) fun j e hj he h' r sb => ?_
  · exact ⟨_, d_write I (by rw [e1]; exact True.intro) sb (some_at r) (ok r), q1 hn _ _ ri rv⟩
  · exact ⟨_, d_write I (by rw [e1]; exact True.intro) sb (some_at r) (ok r), q2 j e _ hj he rv⟩
theorem pe_getM {o e : Expr} {apos cpos : Pos} {td ty : TE} (hu : X.A.units + 9 < cLine) (ho : PE X o td) (he : PE X e ty) (m : M1 X o "get" apos e cpos) : PE X (.Call (.Attribute o "get" apos) [e] [] cpos) (rGetM X.K X.w td ty) := by
  refine ⟨fun pins s σ H Q I h => wpAny_Call_method m.base m.few m.line PySem.F.plainAttrs_dict PySem.F.slot_dict_get PySem.F.type_dict_get (thn (ho.run pins s σ H _ I h) fun u s1 ⟨x, H1, I1, rx, a, kvs0, raw0, ex, ⟨g1, g2⟩, q1⟩ => ?_)⟩
  subst ex
  cases (show u = Value.ref a from rx)
  have M0 := mix_of I1.hok g1 g2
  refine ⟨M0.type, fun b z => ?_, ?_⟩
  · cases z
    obtain ⟨_, o', ep, h1, h2, _⟩ := M0.rd
    exact ⟨o', h1, h2.2.1⟩
  rw [m.trees]
  refine Calls.callWith_builtin rfl (Calls.evalArgs_plain (Calls.spliced_cons (thn (he.run pins s1 σ H1 _ I1 q1) fun iv s2 ⟨y, H2, I2, ry, kvs, raw, kd, k, ⟨e1, e2⟩, hk, rk, q2, q3⟩ => Calls.spliced_nil ?_)))
  obtain ⟨i1, i2⟩ := key_is I2.hok hk rk ry
  refine getm_mix hu i1 i2 (mix_of I2.hok e1 e2) (fun hn => ⟨.non, H2, I2.tok _, rfl, q2 (val_none hn)⟩) fun j e' hj he' => ?_
  obtain ⟨e3, d, v, h3, h4, h5, h6⟩ := at_entry e2 hj
  rw [he'] at h3
  cases h3
  exact ⟨v, H2, I2.tok _, h6, q3 d v h4 h5⟩
end
end DL

set_option Elab.async false
set_option linter.all false
set_option maxRecDepth 100000
/-! DL25: dicts of mixed keys: readings over tree heaps. -/
namespace DL
open PySem PySem.Spec PyProof.Rows L2
open Sem (wp)
def mixO [CTab] (h : DH) (x : D) (kvs : List (NestedKey × D)) : Prop := ∃ a, x = .loc a ∧ h a = some (.dM CTab.w kvs)
def dInM [CTab] (neg : Bool) : DR2 := fun x y h Q => ∃ kvs k, mixO h y kvs ∧ keyN x = some k ∧ Q (.bl (if neg then !(valD kvs k).isSome else (valD kvs k).isSome)) h
def dIxM [CTab] : DR2 := fun x y h Q => ∃ kvs k d, mixO h x kvs ∧ keyN y = some k ∧ valD kvs k = some d ∧ Q d h
def optK : Option D → D
  | some d => d
  | none => .non
def dGetM [CTab] (t : DE) (u : DE) : DE := fun τ h Q => t τ h fun x h1 => ∃ a kvs0, x = .loc a ∧ h1 a = some (.dM CTab.w kvs0) ∧ u τ h1 fun y h2 => ∃ kvs k, h2 a = some (.dM CTab.w kvs) ∧ keyN y = some k ∧ Q (optK (valD kvs k)) h2
def setM [CTab] (o y v : D) (h : DH) (Q : DH → Prop) : Prop := ∃ a kvs k, o = .loc a ∧ h a = some (.dM CTab.w kvs) ∧ keyN y = some k ∧ kvs.length < sizeLine ∧ Q (hupd h a (.dM CTab.w (putD kvs k v)))
def gdSubM [CTab] (to ti : DE) : DTG := fun d τ h Q => to τ h fun o h1 => ti τ h1 fun i h2 => setM o i d h2 fun h3 => Q τ h3
/-- {x: v}, x a text -/
def dDispM [CTab] (k v : DE) : DE := fun τ h Q => ∀ p, h p = none → k τ (hupd h p (.opq (.dK []))) fun x h1 => v τ h1 fun y h2 => ∃ s, x = .str s ∧ h2 p = some (.opq (.dK [])) ∧ Q (.loc p) (hupd h2 p (.dM CTab.w [(.text s, y)]))
section
variable [CTab] {X : Cx} {K : PySem.W.Frag} {neg : Bool}
theorem mix_rel {H : Hp} {h : DH} {x : D} {v : V} {kvs : List (NestedKey × D)} (hr : HR K H h) (r : RV K H x v) (m : mixO h x kvs) : ∃ a raw, v = .ref a ∧ MixAtH K CTab.w H a kvs raw := by
  obtain ⟨a, rfl, e⟩ := m
  obtain ⟨raw, e1, e2⟩ := hr _ _ e
  exact ⟨a, raw, rv_loc r, e1, e2⟩
theorem lr_inM : LR2 K (rInM K CTab.w neg) (dInM neg) := fun d e x y h H Q Q0 r1 r2 hr bw ⟨kvs, k, m, hk, w⟩ => by
  obtain ⟨a, raw, e1, e2⟩ := mix_rel hr r2 m
  exact ⟨a, kvs, raw, d, k, e1, e2, hk, r1, bw _ h _ H TX.refl rv_bl' hr w⟩
theorem q_inM (hu : X.A.units + 9 < cLine) (hw : X.w = CTab.w) (hK : X.K = K := by rfl) : OpR X (compareOp .In) (rInM K CTab.w false) ∧ LR2 K (rInM K CTab.w false) (dInM false) := ⟨by subst hK; rw [← hw]; exact op_inM (neg := false) hu, lr_inM⟩
theorem q_notinM (hu : X.A.units + 9 < cLine) (hw : X.w = CTab.w) (hK : X.K = K := by rfl) : OpR X (compareOp .NotIn) (rInM K CTab.w true) ∧ LR2 K (rInM K CTab.w true) (dInM true) := ⟨by subst hK; rw [← hw]; exact op_inM (neg := true) hu, lr_inM⟩
theorem lr_ixM : LR2 K (rIxM K CTab.w) dIxM := fun d e x y h H Q Q0 r1 r2 hr bw ⟨kvs, k, z, m, hk, ev, w⟩ => by
  obtain ⟨a, raw, e1, e2⟩ := mix_rel hr r1 m
  exact ⟨a, kvs, raw, e, k, z, e1, e2, hk, r2, ev, fun v rv => bw _ h _ H TX.refl rv hr w⟩
variable {a b : Expr} {ta tb : TE} {da db : DE} {pos : Pos}
theorem xixM (hu : X.A.units + 9 < cLine) (hw : X.w = CTab.w) (ha : XE X K a ta da) (hb : XE X K b tb db) (hs : PlainIx b := by exact fun _ _ => rfl) (hK : X.K = K := by rfl) : XE X K (.Subscript a b pos) (tOp (rIxM K CTab.w) ta tb) (dOp dIxM da db) := ⟨by subst hK; rw [← hw]; exact pe_ix (ix_M hu) ha.p hb.p hs, le_op lr_ixM ha.l hb.l⟩
theorem xgetM {o e : Expr} {apos cpos : Pos} {td ty : TE} {d1 d2 : DE} (hu : X.A.units + 9 < cLine) (hw : X.w = CTab.w) (ho : XE X K o td d1) (he : XE X K e ty d2) (m : M1 X o "get" apos e cpos := by exact ⟨rfl, rfl, rfl, rfl⟩) (hK : X.K = K := by rfl) :
    XE X K (.Call (.Attribute o "get" apos) [e] [] cpos) (rGetM K CTab.w td ty) (dGetM d1 d2) := by
  subst hK
  refine ⟨by rw [← hw]; exact pe_getM hu ho.p he.p m, fun τ σ h H Q Q0 rs hr bw w => ho.l τ σ h H _ _ rs hr (fun x h1 v H1 x1 r1 hr1 w1 => ?_) w⟩
  obtain ⟨a, kvs0, e0, e1, w1⟩ := w1
  obtain ⟨a', raw0, g1, g2⟩ := mix_rel hr1 r1 ⟨a, e0, e1⟩
  have ea : a' = a := by
    subst e0
    have := rv_loc r1
    rw [g1] at this
    cases this
    rfl
  subst ea
  refine ⟨a', kvs0, raw0, g1, g2, he.l τ σ h1 H1 _ _ (rs.mono x1) hr1 (fun y h2 u H2 x2 r2 hr2 w2 => ?_) w1⟩
  obtain ⟨kvs, k, e2, hk, w2⟩ := w2
  obtain ⟨raw, g3, g4⟩ := hr2 _ _ e2
  refine ⟨kvs, raw, y, k, ⟨g3, g4⟩, hk, r2, fun z => ?_, fun d v z rv => ?_⟩
  · rw [z] at w2
    exact bw _ h2 _ H2 (x1.trans x2) rv_non' hr2 w2
  · rw [z] at w2
    exact bw _ h2 _ H2 (x1.trans x2) rv hr2 w2
theorem setM_link {o i d : D} {ov iv v : V} {h : DH} {H : Hp} {Q : DH → Prop} {Q0 : Hp → Prop} (ro : RV K H o ov) (ri : RV K H i iv) (rv : RV K H d v) (hr : HR K H h) (bw : ∀ h' H', TX K H H' → HR K H' h' → Q h' → Q0 H') (w : setM o i d h Q) : rSetM K CTab.w ov iv v H Q0 := by
  obtain ⟨a, kvs, k, e1, e2, hk, hz, w⟩ := w
  obtain ⟨a', raw, g1, g2⟩ := mix_rel hr ro ⟨a, e1, e2⟩
  have ea : a' = a := by
    subst e1
    have := rv_loc ro
    rw [g1] at this
    cases this
    rfl
  subst ea
  refine ⟨a', kvs, raw, i, k, g1, g2, hk, ri, hz, fun hn ku u r1 r2 => ?_, fun j e u hj he r2 => ?_⟩
  · have x := tx_ext (K := K) (o := .ext (RawD a' (raw ++ [⟨k.hash CTab.w, ku, u⟩]))) g2.1
    exact bw _ _ x (hr.put (o := .dM CTab.w (putD kvs k d)) x ⟨_, upd_same, rm_new (g2.2.mono x) hz hn hk (RV.mono x _ _ ri) r1 (RV.mono x _ _ rv) r2⟩) w
  · have x := tx_ext (K := K) (o := .ext (RawD a' (raw.set j ⟨e.hash, e.key, u⟩))) g2.1
    exact bw _ _ x (hr.put (o := .dM CTab.w (putD kvs k d)) x ⟨_, upd_same, rm_old (g2.2.mono x) hj he (RV.mono x _ _ rv) r2⟩) w
theorem xg_subM {o i : Expr} {to ti : TE} {do' di : DE} (hu : X.A.units + 9 < cLine) (hw : X.w = CTab.w) (ho : XE X K o to do') (hi : XE X K i ti di)
    (ha : ∀ v, assign (.Subscript o i pos) X.env v = (do
      let ov ← holding [v] (eval o X.env)
      let iv ← holding [v, ov] (eval i X.env)
      standAt pos
      holding [v, ov, iv] (setItem ov iv v)
      release [v, ov, iv] []) := by intro _; rfl) (hK : X.K = K := by rfl) : XG X K (.Subscript o i pos) (gSub to ti (rSetM K CTab.w)) (gdSubM do' di) := by
  subst hK
  exact ⟨by rw [← hw]; exact pg_sub ho.p hi.p (set_M hu) ha, fun d v τ σ h H Q Q0 r rs hr bw w =>
    ho.l τ σ h H _ _ rs hr (fun od h1 ov H1 x1 r1 hr1 w1 => hi.l τ σ h1 H1 _ _ (rs.mono x1) hr1 (fun idd h2 iv H2 x2 r2 hr2 w2 =>
      setM_link (RV.mono x2 _ _ r1) r2 (RV.mono (x1.trans x2) _ _ r) hr2 (fun h3 H3 x3 hr3 w3 => bw _ _ h3 H3 ((x1.trans x2).trans x3) (rs.mono ((x1.trans x2).trans x3)) hr3 w3) w2) w1) w⟩
/-- the display -/
def tDispM (w : World) (tk tv : TE) : TE := fun σ H Q => ∀ p, H p = none → tk σ (upd H p (.dK [])) fun x H1 => tv σ H1 fun y H2 => ∃ s, x = .str s ∧ H2 p = some (.dK []) ∧ ∀ ku u, RelV (.str s) ku → RelV y u → Q (.ref p) (upd H2 p (.ext (RawD p [⟨(NestedKey.text s).hash w, ku, u⟩])))
theorem raw_one {h' : Heap} {d : Addr} {s : Str} {u : Value} (hd : (d == sysModules) = false) (dd : h'.DictOf (mixKind X.prog X.w) d (merged [] [(.inr s, u)])) : ∃ ku, RelV (.str s) ku ∧ RawD d [⟨(NestedKey.text s).hash X.w, ku, u⟩] h' := by
  obtain ⟨o, es, ep, ho, hc, hdata, hk, hp, _⟩ := dd
  have e0 : merged ([] : List (Key × Value)) [(.inr s, u)] = [(.inr s, u)] := rfl
  rw [e0] at hp
  obtain ⟨es⟩ := es
  have hp : Pairs (mixKind X.prog X.w) es [(.inr s, u)] := hp
  cases hp with
  | @cons e _ es _ h1 h2 t =>
    cases t
    have h1 : keyIs (.inr s) e.key = true := h1
    have h2 : e.val = u := h2
    obtain ⟨k', hk1, hk2⟩ := hk e (by simp)
    have hk1 : keyIs k' e.key = true := hk1
    have ek : k' = .inr s := (mixKind X.prog X.w).inj _ _ _ hk1 h1
    subst ek
    rcases keyIs_shape h1 with ⟨i, t, z, _⟩ | ⟨x, t, z, ez⟩
    · cases z
    · cases z
      refine ⟨e.key, ⟨t, ez⟩, hd, o, ep, ho, hc, ?_⟩
      rw [hdata]
      have : e = ⟨(NestedKey.text s).hash X.w, e.key, u⟩ := by
        cases e
        simp only at h2 hk2
        subst h2
        rw [hk2]
        rfl
      rw [← this]
theorem pe_dispM {k v : Expr} {tk tv : TE} (hk : PE X k tk) (hv : PE X v tv) : PE X (.Dict [some k] [v] pos) (tDispM X.w tk tv) := by
  refine ⟨fun pins s σ H Q I q => ?_⟩
  have hn := I.hok.fresh (Nat.le_refl s.heap.objs.size)
  have I1 := I.laid (a := s.heap.objs.size) (o := .dK []) (h' := s.heap.push { cls := .type "dict", data := .dict #[] }) (t' := s.toks) (fun _ _ z => Heap.get?_push_of_some _ z) (Nat.le_refl _) (dk_empty s.heap I.big)
  refine wpAny_Dict_walk (knd := mixKind X.prog X.w) rfl rfl (by simp) (by simp) (pairTrees_cons_walk (thn (hk.run pins _ σ _ _ I1 (q _ hn)) fun uk s1 ⟨x, H1, J1, rx, q1⟩ => thn (hv.run pins s1 σ H1 _ J1 q1) fun uv s2 ⟨y, H2, J2, ry, s0, ex, e, q2⟩ => pairTrees_nil_walk ?_))
  subst ex
  obtain ⟨t, rfl⟩ := (show ∃ t, uk = Value.str s0 t from rx)
  obtain ⟨z, hd, vs0, r0, dd⟩ := dk_of J2.hok e
  cases r0
  refine ⟨[(.inr s0, uv)], ⟨keyIs_str s0 t, rfl, True.intro⟩, dd, fun h' dd' hs => ?_⟩
  obtain ⟨ku, rk, rd⟩ := raw_one hd dd'
  refine ⟨.ref s.heap.objs.size, _, ?_, rfl, q2 ku uv rk ry⟩
  refine d_write J2 (by rw [e]; exact True.intro) hs (let ⟨_, o, ep, ho, _⟩ := rd; ⟨o, ho⟩) ⟨rd, let ⟨_, o, ep, ho, _⟩ := rd; ⟨o, ho⟩, fun h1 h2 ⟨z, o, ep, ho, hc, hd⟩ kp => ⟨z, o, ep, kp _ ho, hc, hd⟩⟩
theorem xdispM {k v : Expr} {tk tv : TE} {dk dv : DE} (hw : X.w = CTab.w) (hk : XE X K k tk dk) (hv : XE X K v tv dv) : XE X K (.Dict [some k] [v] pos) (tDispM CTab.w tk tv) (dDispM dk dv) :=
  ⟨by rw [← hw]; exact pe_dispM hk.p hv.p, fun τ σ h H Q Q0 rs hr bw w p hp => by
    have x0 : TX K H (upd H p (.dK [])) := tx_new hp
    refine hk.l τ σ _ _ _ _ (rs.mono x0) (hr.put (o := .opq (.dK [])) x0 upd_same) (fun x h1 v1 H1 x1 r1 hr1 w1 => hv.l τ σ h1 H1 _ _ (rs.mono (x0.trans x1)) hr1 (fun y h2 v2 H2 x2 r2 hr2 w2 => ?_) w1) (w p (hr.free hp))
    obtain ⟨s, ex, e2, w2⟩ := w2
    subst ex
    have e3 : H2 p = some (.dK []) := hr2 _ _ e2
    refine ⟨s, rv_str r1, e3, fun ku u rk ru => ?_⟩
    have x3 := tx_dK (K := K) (o := .ext (RawD p [⟨(NestedKey.text s).hash CTab.w, ku, u⟩])) e3
    refine bw _ _ _ _ (x0.trans (x1.trans (x2.trans x3))) rv_loc' (hr2.put (o := .dM CTab.w [(.text s, y)]) x3 ⟨_, upd_same, ⟨.cons ⟨.str s, .str s, v2, rfl, rv_str', rk, RV.mono x3 _ _ r2, ru, rfl⟩ .nil, by simp, by show 1 ≤ sizeLine; decide⟩⟩) w2⟩
end
end DL

set_option Elab.async false
set_option linter.all false
set_option maxRecDepth 100000
/-! DL26: what is left for laws with classes. -/
namespace DL
open PySem PySem.Spec PyProof.Rows L2
theorem RoomG.hu9 {k : Nat} {A : Around} (r : RoomG k A) : A.units + 9 < cLine := by have := r.r.units; omega
end DL

set_option Elab.async false
set_option linter.all false
set_option maxRecDepth 100000
set_option maxHeartbeats 2000000
/-! DL27: max of a tuple of ints. -/
namespace DL
open PySem PySem.Spec PyProof.Rows L2
def rMaxT (K : PySem.W.Frag) : List V → Hp → VK → Prop := fun vs H Q => ∃ (a : Addr) (n : Int) (ns : List Int), vs = [V.ref a] ∧ SqT K H a ((n :: ns).map V.int) ∧ ns.length ≤ 1000 ∧ Q (.int (ns.foldl max n)) H
theorem dp_ints {K : PySem.W.Frag} {H : Hp} : ∀ ns : List Int, DpAll K H (ns.map V.int) (ns.map PyData.int)
  | [] => .nil
  | n :: ns => .cons (.int n) (dp_ints ns)
theorem depth_ints0 : ∀ ns : List Int, PyData.depthAll (ns.map PyData.int) = 0
  | [] => by simp [PyData.depthAll]
  | n :: ns => by simp [PyData.depthAll, PyData.depth, depth_ints0 ns]
theorem alike_ints (ns : List Int) : PySem.W.AlikeAll (ns.map PyData.int) := ⟨fun d hd d' hd' => by
  obtain ⟨i, _, rfl⟩ := List.mem_map.mp hd
  obtain ⟨j, _, rfl⟩ := List.mem_map.mp hd'
  simp [PySem.W.alike], fun d hd => by
  obtain ⟨i, _, rfl⟩ := List.mem_map.mp hd
  intro z; cases z⟩
theorem cr_maxT {X : Cx} (hc : X.calm = true) (hu : X.A.units + 64 < cLine) : CallR X (.builtin "max") (rMaxT X.K) := by
  intro pins s σ H vs us Q I r h
  obtain ⟨a, n, ns, rfl, hs, hl, q⟩ := h
  obtain ⟨its, rv, ht, hz⟩ := I.tuple hs
  rw [Vals.ref1 r]
  obtain ⟨as, ra⟩ := Dp.readsAll I _ _ _ (dp_ints (n :: ns)) rv
  refine PySem.W.max_tuple_data (I.ok.hd hc) (show s.heap.IsTuple a its.toArray from ht) (x := .int n) (xs := ns.map .int) (as := as) ra (alike_ints (n :: ns)) (by
    have : PyData.depthAll (.int n :: ns.map .int) = 0 := depth_ints0 (n :: ns)
    rw [this]; omega) fun i v h' tk bs hv rd hk => ?_
  rw [PySem.W.maxD_ints] at rd
  cases rd with
  | int _ t => exact ⟨.int _, H, I.kept hk, ⟨_, rfl⟩, q⟩
def bMaxT : DC := fun ds h Q => match ds with
  | [.tup ds] => (match intsD ds with
    | some (n :: ns) => ns.length ≤ 1000 ∧ Q (.int (ns.foldl max n)) h
    | _ => False)
  | _ => False
theorem q_maxT {X : Cx} {K : PySem.W.Frag} (hc : X.calm = true) (hu : X.A.units + 64 < cLine) (hK : X.K = K := by rfl) : CallR X (.builtin "max") (rMaxT K) ∧ LC K (rMaxT K) bMaxT := by
  refine ⟨by subst hK; exact cr_maxT hc hu, fun ds vs h H Q Q0 r hr bw w => ?_⟩
  match ds, w, r with
  | [.tup ds], w, r =>
    obtain ⟨x, e1, r1⟩ := rvs_one r
    obtain ⟨a, xs, e2, s, q⟩ := rv_tup r1
    have w : (match intsD ds with | some (n :: ns) => ns.length ≤ 1000 ∧ Q (.int (ns.foldl max n)) h | _ => False) := w
    cases z : intsD ds with
    | none => rw [z] at w; exact w.elim
    | some ns =>
      rw [z] at w
      cases ns with
      | nil => exact w.elim
      | cons n ns =>
        have ex : xs = (n :: ns).map V.int := by
          have key : ∀ {ds : List D} {ns : List Int} {vs : List V}, intsD ds = some ns → RVs K H ds vs → vs = ns.map V.int := by
            intro ds
            induction ds with
            | nil => intro ns vs e r; cases e; rw [rvs_nil r]; rfl
            | cons d ds ih =>
              intro ns vs e r
              obtain ⟨y, ys, e3, r3, r4⟩ := rvs_cons r
              subst e3
              cases d with
              | int i =>
                unfold intsD at e
                cases z2 : intsD ds with
                | none => rw [z2] at e; cases e
                | some ms =>
                  rw [z2] at e
                  cases e
                  rw [rv_int r3, ih z2 r4]; rfl
              | _ => unfold intsD at e; cases e
          exact key z q
        subst ex
        exact ⟨a, n, ns, by rw [e1, e2], .inl (.inl s), w.1, bw _ h _ H TX.refl rv_int' hr w.2⟩
end DL

set_option Elab.async false
set_option linter.all false
set_option maxRecDepth 100000
set_option maxHeartbeats 2000000
/-! DL28: sorted(a list of alike data). -/
namespace DL
open PySem PySem.Spec PyProof.Rows L2
open PySem.W (EachIs AllAlike Sortable dataLe)
def rSortD (K : PySem.W.Frag) : List V → Hp → VK → Prop := fun vs H Q => ∃ (a : Addr) (bs : List (V × PyData)), vs = [V.ref a] ∧ SqL K H a (bs.map (·.1)) ∧ (∀ b ∈ bs, Dp K H b.1 b.2) ∧ AllAlike (bs.map (·.2)) ∧ Sortable (bs.map (·.2)) ∧ (∀ b ∈ bs, b.2.depth ≤ 20) ∧
  ∀ p : Addr, H p = none → Q (.ref p) (upd H p (.lst ((bs.mergeSort (dataLe false fun b => b.2)).map (·.1))))
theorem each_pair {β : Type} {f : β → V} : ∀ {us : List Value} {bs : List β}, Vals (bs.map f) us → EachIs (fun u b => RelV (f b) u) us bs
  | [], [], _ => .nil
  | u :: us, b :: bs, r => by
    rw [List.map_cons] at r
    cases r with
    | cons a t => exact .cons a (each_pair t)
  | [], b :: bs, r => by rw [List.map_cons] at r; cases r
  | u :: us, [], r => by rw [List.map_nil] at r; cases r
theorem pair_each {β : Type} {f : β → V} : ∀ {us : List Value} {bs : List β}, EachIs (fun u b => RelV (f b) u) us bs → Vals (bs.map f) us
  | _, _, .nil => .nil
  | _, _, .cons a t => by rw [List.map_cons]; exact .cons a (pair_each t)
theorem each_mono {α β : Type} {R R' : α → β → Prop} : ∀ {us : List α} {bs : List β}, EachIs R us bs → (∀ u b, b ∈ bs → R u b → R' u b) → EachIs R' us bs
  | _, _, .nil, _ => .nil
  | _, _, .cons a t, h => .cons (h _ _ List.mem_cons_self a) (each_mono t fun u b hb => h u b (List.mem_cons_of_mem _ hb))
theorem cr_sortD {X : Cx} (hu : X.A.units + 64 < cLine) : CallR X (.builtin "sorted") (rSortD X.K) := by
  intro pins s σ H vs us Q I r h
  obtain ⟨a, bs, rfl, hs, hd, hal, hso, hdp, q⟩ := h
  obtain ⟨its, rv, hl, hz⟩ := I.list hs
  rw [Vals.ref1 r]
  have e : EachIs (fun u (b : V × PyData) => RelV b.1 u) its bs := each_pair rv
  have er : EachIs (fun u (b : V × PyData) => ∃ as, Reads s.heap u b.2 as) its bs := each_mono e fun u b hb ru => Dp.reads I _ _ _ (hd b hb) ru
  refine PySem.W.sorted_data (enc := fun b : V × PyData => b.2) hl.isList e er hal hso (by rw [← List.length_map (f := fun b : V × PyData => b.1)]; exact hz) (fun b hb => by have := hdp b hb; omega) fun out hlen eo => ?_
  obtain ⟨c, hc⟩ := PyProof.Rows.sortedAll_at s.heap its (List.toArray out)
  have hn := I.hok.fresh (Nat.le_succ s.heap.objs.size)
  refine ⟨.ref (s.heap.objs.size + 1), _, I.laid (a := s.heap.objs.size + 1) (o := .lst ((bs.mergeSort (dataLe false fun b => b.2)).map (·.1))) (t' := s.toks) (fun b u q => PyProof.Rows.sortedAll_old q) (Nat.le_succ _) ⟨?_, out, c, pair_each eo, hc⟩, rfl, q _ hn⟩
  rw [List.length_map, List.length_mergeSort, ← List.length_map (f := fun b : V × PyData => b.1)]
  exact hz
def bSortD : DC := fun ds h Q => match ds with
  | [.loc a] => ∃ (bs : List (D × PyData)), h a = some (.lst (bs.map (·.1))) ∧ (∀ b ∈ bs, PD h b.1 b.2) ∧ AllAlike (bs.map (·.2)) ∧ Sortable (bs.map (·.2)) ∧ (∀ b ∈ bs, b.2.depth ≤ 20) ∧
      ∀ p, h p = none → Q (.loc p) (hupd h p (.lst ((bs.mergeSort (dataLe false fun b => b.2)).map (·.1))))
  | _ => False
@[irreducible] noncomputable def kSortD : DC := hide bSortD
theorem kSortD_eq : kSortD = bSortD := by unfold kSortD; rw [hide_eq]
theorem w_sortD {a : Addr} {bs : List (D × PyData)} {h : DH} {Q : DK} (e : h a = some (.lst (bs.map (·.1)))) (pd : ∀ b ∈ bs, PD h b.1 b.2) (al : AllAlike (bs.map (·.2))) (so : Sortable (bs.map (·.2))) (dp : ∀ b ∈ bs, b.2.depth ≤ 20)
    (k : ∀ p, h p = none → Q (.loc p) (hupd h p (.lst ((bs.mergeSort (dataLe false fun b => b.2)).map (·.1))))) : kSortD [.loc a] h Q := by rw [kSortD_eq]; exact ⟨bs, e, pd, al, so, dp, k⟩
/-- two lists in step, sorted by what they share -/
theorem merge_map {α β : Type} (f : α → β) (le : β → β → Bool) (l : List α) : (l.mergeSort fun a b => le (f a) (f b)).map f = (l.map f).mergeSort le := by
  have := List.map_mergeSort (f := f) (r := fun a b => le (f a) (f b)) (s := le) (l := l) (fun a _ b _ => rfl)
  exact this
theorem q_sortD {X : Cx} {K : PySem.W.Frag} (hu : X.A.units + 64 < cLine) (hK : X.K = K := by rfl) : CallR X (.builtin "sorted") (rSortD K) ∧ LC K (rSortD K) kSortD := by
  rw [kSortD_eq]
  refine ⟨by subst hK; exact cr_sortD hu, fun ds vs h H Q Q0 r hr bw w => ?_⟩
  match ds, w, r with
  | [.loc a], ⟨bs, e, hd, al, so, dp, w⟩, r =>
    obtain ⟨x, e1, r1⟩ := rvs_one r
    obtain ⟨us, s, q⟩ := hr _ _ e
    have ex := rv_loc r1
    have hl : bs.length = us.length := by have := q.length; rwa [List.length_map] at this
    -- triples: tree, value, datum
    have tr : ∃ ts : List (D × V × PyData), ts.map (fun t => (t.1, t.2.2)) = bs ∧ ts.map (fun t => t.2.1) = us ∧ ∀ t ∈ ts, RV K H t.1 t.2.1 ∧ PD h t.1 t.2.2 := by
      clear e s al so dp w r
      induction bs generalizing us with
      | nil => exact ⟨[], rfl, by rw [List.map_nil] at q; rw [rvs_nil q]; rfl, fun _ z => absurd z List.not_mem_nil⟩
      | cons b bs ih =>
        rw [List.map_cons] at q
        obtain ⟨y, ys, e3, r3, r4⟩ := rvs_cons q
        subst e3
        obtain ⟨ts, t1, t2, t3⟩ := ih (fun b hb => hd b (List.mem_cons_of_mem _ hb)) ys r4 (by simpa using hl)
        refine ⟨(b.1, y, b.2) :: ts, by rw [List.map_cons, t1], by rw [List.map_cons, t2], fun t ht => ?_⟩
        rcases List.mem_cons.mp ht with z | z
        · subst z; exact ⟨r3, hd b List.mem_cons_self⟩
        · exact t3 t z
    obtain ⟨ts, t1, t2, t3⟩ := tr
    have em1 : (bs.mergeSort (dataLe false fun b => b.2)).map (·.1) = (ts.mergeSort (dataLe false fun t => t.2.2)).map (·.1) := by
      rw [← t1, ← merge_map (fun t : D × V × PyData => (t.1, t.2.2)) (dataLe false fun b : D × PyData => b.2) ts, List.map_map]
      rfl
    have e2 : ts.map (fun t => t.2) = (ts.map fun t => t.2) := rfl
    refine ⟨a, ts.map (fun t => t.2), by rw [e1, ex], .inl (.inl (by rw [List.map_map]; exact (show us = _ from t2.symm) ▸ s)), fun b hb => ?_, ?_, ?_, fun b hb => ?_, fun p hp => ?_⟩
    · obtain ⟨t, ht, rfl⟩ := List.mem_map.mp hb
      obtain ⟨k1, k2⟩ := t3 t ht
      exact k2.dp hr k1
    · have : (ts.map fun t => t.2).map (·.2) = bs.map (·.2) := by rw [← t1, List.map_map, List.map_map]; rfl
      rw [this]; exact al
    · have : (ts.map fun t => t.2).map (·.2) = bs.map (·.2) := by rw [← t1, List.map_map, List.map_map]; rfl
      rw [this]; exact so
    · obtain ⟨t, ht, rfl⟩ := List.mem_map.mp hb
      exact dp (t.1, t.2.2) (by rw [← t1]; exact List.mem_map.mpr ⟨t, ht, rfl⟩)
    · have ev : ((ts.map fun t => t.2).mergeSort (dataLe false fun b => b.2)).map (·.1) = (ts.mergeSort (dataLe false fun t => t.2.2)).map (fun t => t.2.1) := by
        rw [← merge_map (fun t : D × V × PyData => t.2) (dataLe false fun b : V × PyData => b.2) ts, List.map_map]
        rfl
      rw [ev]
      have x := tx_new (K := K) (o := .lst ((ts.mergeSort (dataLe false fun t => t.2.2)).map (fun t => t.2.1))) hp
      have rr : ∀ l : List (D × V × PyData), (∀ t ∈ l, RV K H t.1 t.2.1) → RVs K H (l.map (·.1)) (l.map fun t => t.2.1) := by
        intro l
        induction l with
        | nil => exact fun _ => rvs_nil'
        | cons t l ih => exact fun h => rvs_cons' (h t List.mem_cons_self) (ih fun u hu => h u (List.mem_cons_of_mem _ hu))
      refine bw_new hr bw hp (ro_lst x (rr _ fun t ht => (t3 t (List.mem_mergeSort.mp ht)).1)) fun hn => ?_
      have := w p hn
      rw [em1] at this
      exact this
end DL

set_option Elab.async false
set_option linter.all false
set_option maxRecDepth 100000
set_option maxHeartbeats 2000000
/-! DL29: tuple(range(..)). -/
namespace DL
open PySem PySem.Spec PyProof.Rows L2
variable {X : Cx} {K : PySem.W.Frag}
def dTupRange (t : DRg) : DE := fun τ h Q => t τ h fun a b h1 => RgOk a b ∧ Q (.tup (rangeD a (b - a).toNat)) h1
theorem xtuprange {e : Expr} {t0 : L2.St → Hp → (Int → Int → Hp → Prop) → Prop} {t : DRg} {p pos : Pos} (hc : X.calm = true) (he : XRg X K e t0 t) (hm : X.mg "tuple" = none) (hg : Gl X "tuple" := by rfl) (na : starEach [e] X.env = (false, eval e X.env) :: starEach [] X.env := by rfl) :
    XE X K (.Call (.Name "tuple" p) [e] [] pos) (tTupRg t0) (dTupRange t) :=
  ⟨pe_tupRg hc hg hm he.p na, fun τ σ h H Q Q0 rs hr bw w => he.l τ σ h H _ _ rs hr (fun i j h1 H1 x1 hr1 w1 => ⟨w1.1, fun q hq => bw_tup hr1 (bw.mono x1) hq rvs_range w1.2⟩) w⟩
end DL

set_option Elab.async false
set_option linter.all false
set_option maxRecDepth 100000
/-! DL30: defs that call themselves. -/
namespace DL
open PySem PySem.Spec PyProof.Rows L2
/-- a def that is called too deep: nothing is promised -/
theorem okZ {P : Program} {w : World} {K : PySem.W.Frag} {mg : Str → Option Value} {base : Heap} {qn qual : Str} {st : Stmt} {f : Addr} {fd : FuncData} {ps : List Str} {k n : Nat} (F : Fun K qn qual st f fd) : FnG P w K mg base CX0 k f fd ps (spD K n fun _ _ _ => False) :=
  ⟨fun _ _ _ _ ⟨_, _, _, _, _, _, _, z⟩ => z.elim, fun _ _ _ _ _ _ _ _ _ _ _ _ _ ⟨_, _, _, _, _, _, _, z⟩ => z.elim⟩
end DL

set_option Elab.async false
set_option linter.all false
set_option maxRecDepth 100000
set_option maxHeartbeats 4000000
/-! DL31: a tuple * 0. -/
namespace DL
open PySem PySem.Spec PyProof.Rows L2
theorem tuple_mul0 (l : Addr) (items : Array Value) (n : Nat) (dd : Option Addr) (sl : Array (Option Value)) (u : Tok) (c1 : (items.isEmpty || (0 : Int) == 1) = false) :
    Meets (Builtin.«tuple.__mul__» ⟨[.ref l, .int 0 u], []⟩) (fun _ R s => s.heap.get? l = some { cls := .type "tuple", dict := dd, data := .seq items n, slots := sl } ∧
      R (.ok (.ret (Value.ref s.heap.objs.size))) { s with heap := s.heap.push { cls := Value.type "tuple", data := Data.seq #[] }, toks := s.toks }) :=
  .of_wp fun prog w A R s h => by
    obtain ⟨hp, g, d, tk, os⟩ := s
    obtain ⟨hl, h⟩ := h
    have f1 := AutoSeq1.idx_int
    wp_walk using wpAny_loadPart' hl
    repeat (first
      | (refine wpAny_ite_false (decide_eq_false (by decide)) ?_; wp_walk using wpAny_loadPart' hl)
      | (refine wpAny_ite_false (decide_eq_false (by rw [c1]; exact Bool.false_ne_true)) ?_; wp_walk using wpAny_loadPart' hl)
      | (refine wpAny_ite_true (decide_eq_true (by rfl)) ?_; wp_walk using wpAny_loadPart' hl))
    exact ⟨_, rfl, h⟩
def rRep0 (K : PySem.W.Frag) : R2 := fun x y H Q => ∃ l xs, x = .ref l ∧ y = .int 0 ∧ SqT K H l xs ∧ xs ≠ [] ∧ ∀ p, H p = none → Q (.ref p) (upd H p (.tup []))
theorem op_rep0 {X : Cx} : OpR X (binaryOp .Mult) (rRep0 X.K) := by
  intro pins s σ H x y v u Q I rx ry h
  obtain ⟨l, xs, rfl, rfl, hT, hne, q⟩ := h
  cases rx
  obtain ⟨t, rfl⟩ := ry
  obtain ⟨its, r, ⟨⟨cls, dd, data, sl⟩, ho, hc, n, hd⟩, hs⟩ := I.tuple hT
  simp only at hc hd
  subst hc hd
  have hn : its ≠ [] := fun e => hne (by
    rw [e] at r
    exact List.eq_nil_of_length_eq_zero (r.length))
  have hi : its.toArray.isEmpty = false := by
    cases its with
    | nil => exact absurd rfl hn
    | cons a b => rfl
  have c1 : (its.toArray.isEmpty || (0 : Int) == 1) = false := by rw [hi]; rfl
  refine wpAny_binaryOp_repeat_ref (T := "tuple") (U := "int") (by decide) ⟨_, ho, rfl⟩ (fun s' => typeIs_int s' 0 t) noFill_tuple_mul F.fills_int_mul F.slot_int_rmul repeat_tuple F.slot_int_index.lookup
    (call_meets F.slot_int_rmul (typeIs_int s 0 t) F.entry_int_rmul (F.args_int_rmul_2 _ _) (int_rmul_tuple 0 t l its.toArray n dd sl)
      ⟨ho, rfl, ⟨_, ho, rfl⟩, call_meets F.slot_tuple_mul ⟨_, ho, rfl⟩ F.entry_tuple_mul (F.args_tuple_mul_2 _ _) (tuple_mul0 l its.toArray n dd sl t c1) ⟨ho, ?_⟩⟩)
  refine ⟨.ref s.heap.objs.size, _, I.laid (t' := s.toks) (o := .tup []) (fun b ob q => Heap.get?_push_of_some _ q) (Nat.le_refl _) ?_, rfl, q _ (I.hok.fresh (Nat.le_refl _))⟩
  exact ⟨Nat.zero_le _, [], .nil, IsTup.new _ _⟩
def dMul0 : DR2
  | .tup xs, .int k, h, Q => xs ≠ [] ∧ k = 0 ∧ Q (.tup []) h
  | _, _, _, _ => False
theorem q_mul0 {X : Cx} {K : PySem.W.Frag} (hK : X.K = K := by rfl) : OpR X (binaryOp .Mult) (rRep0 K) ∧ LR2 K (rRep0 K) dMul0 := by
  subst hK
  refine ⟨op_rep0, fun d e x y h H Q Q0 r1 r2 hr bw w => ?_⟩
  cases d with
  | tup xs =>
    cases e with
    | int k =>
      obtain ⟨hn, rfl, w1⟩ := w
      obtain ⟨a, vs, e1, s, q⟩ := rv_tup r1
      have z1 := q.length
      refine ⟨a, vs, e1, rv_int r2, .inl (.inl s), fun e => hn ?_, fun p hp => bw_tup hr bw hp rvs_nil' w1⟩
      rw [e] at z1
      exact List.length_eq_zero_iff.mp z1
    | _ => exact w.elim
  | _ => exact w.elim
end DL

set_option Elab.async false
set_option linter.all false
set_option maxRecDepth 100000
/-! DL32: x is True. -/
namespace DL
open PySem PySem.Spec PyProof.Rows L2
def dIsB (neg : Bool) : DR2
  | .bl a, .bl b, h, Q => Q (.bl (if neg then !decide (a = b) else decide (a = b))) h
  | _, _, _, _ => False
section
variable {X : Cx} {K : PySem.W.Frag}
theorem q_isB : OpR X (compareOp .Is) (fun x y H Q => ∃ a b, x = .bl a ∧ y = .bl b ∧ Q (.bl (decide (a = b))) H) ∧ LR2 K (fun x y H Q => ∃ a b, x = .bl a ∧ y = .bl b ∧ Q (.bl (decide (a = b))) H) (dIsB false) := ⟨op_is_bl, fun d e x y h H Q Q0 r1 r2 hr bw w => by
  cases d with
  | bl a =>
    cases e with
    | bl b => exact ⟨a, b, rv_bl r1, rv_bl r2, bw _ h _ H TX.refl rv_bl' hr w⟩
    | _ => exact w.elim
  | _ => exact w.elim⟩
theorem q_isnotB : OpR X (compareOp .IsNot) (fun x y H Q => ∃ a b, x = .bl a ∧ y = .bl b ∧ Q (.bl (!decide (a = b))) H) ∧ LR2 K (fun x y H Q => ∃ a b, x = .bl a ∧ y = .bl b ∧ Q (.bl (!decide (a = b))) H) (dIsB true) := ⟨op_isnot_bl, fun d e x y h H Q Q0 r1 r2 hr bw w => by
  cases d with
  | bl a =>
    cases e with
    | bl b => exact ⟨a, b, rv_bl r1, rv_bl r2, bw _ h _ H TX.refl rv_bl' hr w⟩
    | _ => exact w.elim
  | _ => exact w.elim⟩
end
end DL

set_option Elab.async false
set_option linter.all false
set_option maxRecDepth 100000
set_option maxHeartbeats 400000
/-! DL33: zip of a list and a tuple. -/
namespace DL
open PySem PySem.Spec PyProof.Rows L2 RZ
/-- a list's items beside a tuple's, in new pairs -/
def ItzM (K : PySem.W.Frag) (a b : Addr) : It where
  go := fun i H => ∃ (xs ys : List V) (x y : V), (SqL K H a xs ∧ SqT K H b ys) ∧ (xs[i]? = some x ∧ ys[i]? = some y)
  yld := fun i H v H' => ∃ T x y, (v = .ref T ∧ H T = none ∧ H' = upd H T (.tup [x, y])) ∧ ((∀ xs, SqL K H a xs → xs[i]? = some x) ∧ (∀ ys, SqT K H b ys → ys[i]? = some y))
  stop := fun i H => ∃ xs ys : List V, (SqL K H a xs ∧ SqT K H b ys) ∧ (xs.length ≤ i ∨ ys.length ≤ i)
/-- where the five cells of such a zip stand -/
structure ZM (z TI TO i1 i2 a b : Addr) : Prop where
  sep : ZipSep2 z TI TO i1 i2 [i1, a] [i2, b]
  ai : a ≠ i1
  bi : b ≠ i2
def StM (z TI TO i1 i2 a b : Addr) (i : Nat) (h : Heap) : Prop := (IsZip h z TI TO .none ∧ IsTupOf2 h TI (.ref i1) (.ref i2)) ∧ ((∃ x y, IsTupOf2 h TO x y) ∧ (h.IsListIter i1 a i ∧ h.IsTupleIter i2 b i))
theorem five {z TI TO i1 i2 c : Addr} (h : c ∈ [z, TI, TO, i1, i2]) : c = z ∨ c = TI ∨ c = TO ∨ c = i1 ∨ c = i2 := by simpa using h
/-- iterators that have come to their end -/
theorem endL {prog : Program} {w : World} {A : Around} (hh : A.handled = none) (it l : Addr) (hne : l ≠ it) {items : Array Value} {i : Nat} (e : items[i]? = none) :
    Draws prog w A it [it, l] i (fun _ _ => True) (fun j h => j = i ∧ h.IsListIter it l i ∧ h.IsList l items) where
  live := fun _ _ st => ⟨_, st.2.1.choose_spec.1⟩
  frame := fun _ _ _ st hk => ⟨st.1, st.2.1.at fun o e => hk it (by simp) o e, st.2.2.at fun o e => hk l (by simp) o e⟩
  item := fun j s Q E hj st _ => absurd hj (by rw [st.1]; exact Nat.lt_irrefl _)
  done := fun s Q E st hE => wpAny_nextOf_list_end hh st.2.1 st.2.2 e hE
theorem endT {prog : Program} {w : World} {A : Around} (hh : A.handled = none) (it l : Addr) (hne : l ≠ it) {items : Array Value} {i : Nat} (e : items[i]? = none) :
    Draws prog w A it [it, l] i (fun _ _ => True) (fun j h => j = i ∧ h.IsTupleIter it l i ∧ h.IsTuple l items) where
  live := fun _ _ st => ⟨_, st.2.1.choose_spec.1⟩
  frame := fun _ _ _ st hk => ⟨st.1, st.2.1.at fun o e => hk it (by simp) o e, st.2.2.at fun o e => hk l (by simp) o e⟩
  item := fun j s Q E hj st _ => absurd hj (by rw [st.1]; exact Nat.lt_irrefl _)
  done := fun s Q E st hE => wpAny_nextOf_tuple_end hh st.2.1 st.2.2 e hE
theorem turn_zipM {P : Program} {w : World} {K : PySem.W.Frag} {elts : List Expr} {kk : Nat} {tpos : Pos} {a b z TI TO i1 i2 : Addr} (D : ZM z TI TO i1 i2 a b) :
    Turn P w K (.Tuple elts kk tpos) (ItzM K a b) [z, TI, TO, i1, i2] z (StM z TI TO i1 i2 a b) := by
  have S := D.sep
  constructor
  case mem => exact List.mem_cons_self
  case obj =>
    rintro i h ⟨⟨sz, sT⟩, ⟨x, y, sO⟩, ⟨o1, e1, _, d1⟩, ⟨o2, e2, _, d2⟩⟩ c hc
    rcases five hc with rfl | rfl | rfl | rfl | rfl
    · exact ⟨_, sz, fun v q => nomatch q⟩
    · exact ⟨_, sT, fun v q => nomatch q⟩
    · exact ⟨_, sO, fun v q => nomatch q⟩
    · refine ⟨o1, e1, fun v q => ?_⟩; rw [d1] at q; cases q
    · refine ⟨o2, e2, fun v q => ?_⟩; rw [d2] at q; cases q
  case keep =>
    rintro i h h' ⟨⟨sz, sT⟩, ⟨x, y, sO⟩, s1, s2⟩ k
    exact ⟨⟨k z (by simp) _ sz, k TI (by simp) _ sT⟩, ⟨x, y, k TO (by simp) _ sO⟩, s1.at fun o q => k i1 (by simp) o q, s2.at fun o q => k i2 (by simp) o q⟩
  case self =>
    rintro A i s Q E ⟨⟨sz, _⟩, _⟩ h
    exact wpAny_pyIter_zip sz h
  case item =>
    rintro X rfl rfl rfl hc i pins s σ H E I hf ⟨⟨sz, sT⟩, ⟨x0, y0, sO⟩, s1, s2⟩ ⟨xs, ys, x, y, ⟨qa, qb⟩, hx, hy⟩
    obtain ⟨l1, r1, p1, _⟩ := I.list qa
    obtain ⟨l2, r2, p2, _⟩ := I.tuple qb
    obtain ⟨u1, g1, w1⟩ := r1.get hx
    obtain ⟨u2, g2, w2⟩ := r2.get hy
    have hd : X.A.in1.handled = none := I.ok.hd hc
    have m1 : i < l1.toArray.size := by rw [List.size_toArray]; exact (List.getElem?_eq_some_iff.mp g1).1
    have m2 : i < l2.toArray.size := by rw [List.size_toArray]; exact (List.getElem?_eq_some_iff.mp g2).1
    have zl : z < s.heap.objs.size := Heap.lt_size sz
    refine wpAny_pyNext_zipD2_item S (Draws.list hd i1 a D.ai l1.toArray) (Draws.tuple hd i2 b D.bi l2.toArray) sz sT sO ⟨s1, p1.isList⟩ ⟨s2, p2⟩ m1 m2 fun v1 v2 h' tk e1 e2 nz nO n1 n2 nT nsz nk => ?_
    have f1 : v1 = u1 := by
      have e1 : l1.toArray[i]? = some v1 := e1
      rw [List.getElem?_toArray, g1] at e1
      exact (Option.some.inj e1).symm
    have f2 : v2 = u2 := by
      have e2 : l2.toArray[i]? = some v2 := e2
      rw [List.getElem?_toArray, g2] at e2
      exact (Option.some.inj e2).symm
    subst f1 f2
    refine ⟨_, rfl, wpAny_letOwnedTupleGo_zip (s := { s with heap := h', toks := tk }) nz fun h2 z2 sb => ?_⟩
    have nT2 : h2.get? s.heap.objs.size = some { cls := .type "tuple", data := .seq #[v1, v2] } := (sb.2 _ (Nat.ne_of_gt zl)).trans nT
    have new : ObjOk X.prog X.w (upd H s.heap.objs.size (.tup [x, y])) h2 s.heap.objs.size (.tup [x, y]) := ⟨Nat.le_of_ble_eq_true rfl, [v1, v2], .cons w1 (.cons w2 .nil), ⟨_, nT2, rfl, _, rfl⟩⟩
    have far : ∀ c o, c ∉ [z, TI, TO, i1, i2] → s.heap.get? c = some o → h2.get? c = some o := fun c o nc q => by
      have ne : ∀ d ∈ [z, TI, TO, i1, i2], c ≠ d := fun d hd e => nc (by rw [e]; exact hd)
      exact (sb.2 c (ne z (by simp))).trans (nk c o (ne z (by simp)) (ne TO (by simp)) (ne i1 (by simp)) (ne i2 (by simp)) q)
    have I2 := I.turnedNew (t' := tk) (ch := [z, TI, TO, i1, i2]) far hf (Nat.le_refl _) new
    refine ⟨.ref s.heap.objs.size, _, I2, rfl, ⟨_, x, y, ⟨rfl, I.hok.fresh (Nat.le_refl _), rfl⟩, fun l hl => ?_, fun l hl => ?_⟩, ⟨⟨z2, ?_⟩, ⟨v1, v2, ?_⟩, ?_, ?_⟩, fun c hm => ?_⟩
    · rw [I.list_inj hl qa]; exact hx
    · rw [I.tuple_inj hl qb]; exact hy
    · exact (sb.2 _ S.TIz).trans (nk _ _ S.TIz S.TITO S.TIi1 S.TIi2 sT)
    · exact (sb.2 _ S.TOz).trans nO
    · exact n1.1.at fun o q => (sb.2 _ S.zi1.symm).trans q
    · exact n2.1.at fun o q => (sb.2 _ S.zi2.symm).trans q
    · have lt : c < s.heap.objs.size := by
        rcases five hm with rfl | rfl | rfl | rfl | rfl
        · exact zl
        · exact Heap.lt_size sT
        · exact Heap.lt_size sO
        · obtain ⟨_, q, _⟩ := s1; exact Heap.lt_size q
        · obtain ⟨_, q, _⟩ := s2; exact Heap.lt_size q
      rw [upd_ne (Nat.ne_of_lt lt)]
      exact (hf c hm).1
  case done =>
    rintro X rfl rfl rfl hc i pins s σ H E I hf ⟨⟨sz, sT⟩, ⟨x0, y0, sO⟩, s1, s2⟩ ⟨xs, ys, ⟨qa, qb⟩, hi⟩
    obtain ⟨l1, r1, p1, _⟩ := I.list qa
    obtain ⟨l2, r2, p2, _⟩ := I.tuple qb
    have hd : X.A.in1.handled = none := I.ok.hd hc
    have m1 : l1.length = xs.length := r1.length.symm
    have m2 : l2.length = ys.length := r2.length.symm
    have out : ∀ h' tk, (∀ c o, c ≠ z → c ≠ TO → c ≠ i1 → c ≠ i2 → s.heap.get? c = some o → h'.get? c = some o) → (none : Option Value) = none ∧ Inv X pins σ H { s with heap := h', toks := tk } := fun h' tk nk => ⟨rfl, by
      refine I.turnedL (t' := tk) (ch := [z, TI, TO, i1, i2]) (fun c o nc q => ?_) hf
      have ne : ∀ d ∈ [z, TI, TO, i1, i2], c ≠ d := fun d hd e => nc (by rw [e]; exact hd)
      exact nk c o (ne z (by simp)) (ne TO (by simp)) (ne i1 (by simp)) (ne i2 (by simp)) q⟩
    by_cases c1 : xs.length ≤ i
    · have e1 : l1.toArray[i]? = none := by rw [List.getElem?_toArray]; exact List.getElem?_eq_none (by omega)
      by_cases c2 : ys.length ≤ i
      · have e2 : l2.toArray[i]? = none := by rw [List.getElem?_toArray]; exact List.getElem?_eq_none (by omega)
        exact wpAny_pyNext_zipD2_end S (endL hd i1 a D.ai e1) (endT hd i2 b D.bi e2) sz sT sO ⟨rfl, s1, p1.isList⟩ ⟨rfl, s2, p2⟩ (Nat.le_refl _) (Nat.le_refl _) (.inl rfl) out
      · exact wpAny_pyNext_zipD2_end S (endL hd i1 a D.ai e1) (Draws.tuple hd i2 b D.bi l2.toArray) sz sT sO ⟨rfl, s1, p1.isList⟩ ⟨s2, p2⟩ (Nat.le_refl _) (by rw [List.size_toArray]; omega) (.inl rfl) out
    · have c2 : ys.length ≤ i := hi.resolve_left c1
      have e2 : l2.toArray[i]? = none := by rw [List.getElem?_toArray]; exact List.getElem?_eq_none (by omega)
      exact wpAny_pyNext_zipD2_end S (Draws.list hd i1 a D.ai l1.toArray) (endT hd i2 b D.bi e2) sz sT sO ⟨s1, p1.isList⟩ ⟨rfl, s2, p2⟩ (by rw [List.size_toArray]; omega) (Nat.le_refl _) (.inr rfl) out
theorem vals_cons {x : V} {xs : List V} {us : List Value} (r : Vals (x :: xs) us) : ∃ u vs, us = u :: vs ∧ RelV x u ∧ Vals xs vs := by
  cases r with
  | cons a b => exact ⟨_, _, rfl, a, b⟩
theorem vals_nil {us : List Value} (r : Vals [] us) : us = [] := by cases r; rfl
def iZipM (K : PySem.W.Frag) (ta : TA) : TI := fun σ H R => ta σ H fun vs H1 => ∃ a b xs ys, vs = [.ref a, .ref b] ∧ SqL K H1 a xs ∧ SqT K H1 b ys ∧ R (ItzM K a b) H1
theorem pi_zipM {X : Cx} {e e2 : Expr} {ta : TA} {p pos tpos : Pos} {elts : List Expr} {kk : Nat} (hg : Gl X "zip") (hm : X.mg "zip" = none) (ha : PA X [e, e2] ta)
    (hs : starEach [e, e2] X.env = (false, eval e X.env) :: starEach [e2] X.env := by rfl) (hpl : (backTo pos (starEach [e2] X.env)).any (·.1) = false := by rfl) :
    PI X (.Tuple elts kk tpos) (.Call (.Name "zip" p) [e, e2] [] pos) (iZipM X.K ta) := by
  constructor
  intro pins s σ H R I h
  refine Call_ (ld_blt I hg hm PyProof.Rows.boot_zip (PyProof.Rows.callWith_type1 (thn (ha.run pos pins s σ H _ I h) fun us s1 ⟨vs, H1, I1, r1, q1⟩ => ?_) hs hpl))
  obtain ⟨a, b, xs, ys, ex, qa, qb, q⟩ := q1
  subst ex
  obtain ⟨u1, us1, rfl, ra, rr⟩ := vals_cons r1
  obtain ⟨u2, us2, rfl, rb, rs2⟩ := vals_cons rr
  cases vals_nil rs2
  cases ra
  cases rb
  obtain ⟨l1, v1, p1, _⟩ := I1.list qa
  obtain ⟨l2, v2, p2, _⟩ := I1.tuple qb
  have p2' : s1.heap.IsTuple b l2.toArray := p2
  obtain ⟨ob, eb, _⟩ := id p2'
  have la : a < s1.heap.objs.size := p1.lt
  have lb : b < s1.heap.objs.size := Heap.lt_size eb
  refine zip_begins2 (begins_list a l1.toArray) (begins_tuple b l2.toArray) p1.isList p2' fun h' nz nT nO n1 n2 nsz nk => wpAny_pyIter_zip nz ?_
  have I2 : Inv X pins σ H1 { s1 with heap := h' } := I1.kept (t' := s1.toks) nk
  have sep : ZM (s1.heap.objs.size + 4) (s1.heap.objs.size + 2) (s1.heap.objs.size + 3) s1.heap.objs.size (s1.heap.objs.size + 1) a b :=
    ⟨zip_sep2 (fun c hc => by rw [List.mem_singleton.mp hc]; exact la) (fun c hc => by rw [List.mem_singleton.mp hc]; exact lb), Nat.ne_of_lt la, Nat.ne_of_lt (Nat.lt_succ_of_lt lb)⟩
  refine ⟨s1.heap.objs.size + 4, _, _, _, H1, rfl, I2, turn_zipM sep, ⟨⟨nz, nT⟩, ⟨_, _, nO⟩, ⟨_, n1, rfl, rfl⟩, ⟨_, n2, rfl, rfl⟩⟩, fun c hc => ?_, q⟩
  have le : s1.heap.objs.size ≤ c := by
    rcases five hc with rfl | rfl | rfl | rfl | rfl
    · exact Nat.le_add_right _ _
    · exact Nat.le_add_right _ _
    · exact Nat.le_add_right _ _
    · exact Nat.le_refl _
    · exact Nat.le_add_right _ _
  exact I1.fpOk le (I1.hok.fresh le)
/-- over trees -/
def diZipM (a : DA) : DI := fun τ h R => a τ h fun ds h1 => match ds with
  | [d, e] => (match seqD h1 d, isTupK e with
    | some xs, some ys => R (zipD xs ys) (seqG h1 d) h1
    | _, _ => False)
  | _ => False
section
variable {K : PySem.W.Frag} {H0 : Hp}
theorem fol_zM {a b : Addr} {items items2 : List D} {G : DH → Prop} (q : ∀ h H, TX K H0 H → HR K H h → G h → ∃ vs us, SqL K H a vs ∧ RVs K H items vs ∧ SqT K H b us ∧ RVs K H items2 us) : Fol K H0 (ItzM K a b) (zipD items items2) G := fun i h H x hr g => by
  obtain ⟨vs, us, s, r, s2, r2⟩ := q h H x hr g
  refine ⟨fun hi => ?_, fun d hd => ?_⟩
  · rw [zipD_length] at hi
    have := r.length
    have := r2.length
    exact ⟨vs, us, ⟨s, s2⟩, by omega⟩
  · obtain ⟨y, y2, hy, hy2, e⟩ := zipD_get hd
    subst e
    obtain ⟨v, hv, rv⟩ := r.get hy
    obtain ⟨u, hu, ru⟩ := r2.get hy2
    refine ⟨⟨vs, us, v, u, ⟨s, s2⟩, hv, hu⟩, fun z H' ⟨T, x', x2, ⟨e1, hT, e2⟩, hx, hx2⟩ => ?_⟩
    have e3 := hx vs s
    rw [hv] at e3
    cases e3
    have e4 := hx2 us s2
    rw [hu] at e4
    cases e4
    subst e1 e2
    have xT : TX K H (upd H T (.tup [v, u])) := tx_new hT
    exact ⟨xT, hr.lay hT, rv_tup' upd_same (rvs_cons' (RV.mono xT _ _ rv) (rvs_cons' (RV.mono xT _ _ ru) rvs_nil'))⟩
end
section
variable {X : Cx} {K : PySem.W.Frag}
theorem xi_zipM {e e2 : Expr} {ta : TA} {da : DA} {p pos tpos : Pos} {elts : List Expr} {kk : Nat} (hm : X.mg "zip" = none) (ha : XA X K [e, e2] ta da) (hg : Gl X "zip" := by rfl)
    (hs : starEach [e, e2] X.env = (false, eval e X.env) :: starEach [e2] X.env := by rfl) (hpl : (backTo pos (starEach [e2] X.env)).any (·.1) = false := by rfl) (hK : X.K = K := by rfl) :
    XI X K (.Tuple elts kk tpos) (.Call (.Name "zip" p) [e, e2] [] pos) (iZipM K ta) (diZipM da) := by
  refine ⟨by subst hK; exact pi_zipM hg hm ha.p hs hpl, fun τ σ h H R R0 rs hr bw w => ha.l τ σ h H _ _ rs hr (fun ds h1 vs H1 x1 r1 hr1 w1 => ?_) w⟩
  match ds, w1, r1 with
  | [d, d2], w1, r1 =>
    obtain ⟨v, v2, e1, rv, rv2⟩ := rvs_two r1
    subst e1
    have w1 : (match seqD h1 d, isTupK d2 with
      | some xs, some ys => R (zipD xs ys) (seqG h1 d) h1
      | _, _ => False) := w1
    cases zs : seqD h1 d with
    | none => rw [zs] at w1; exact w1.elim
    | some xs =>
      cases zt : isTupK d2 with
      | none => rw [zs, zt] at w1; exact w1.elim
      | some ys =>
        rw [zs, zt] at w1
        obtain ⟨a, us, f1, s, q⟩ := seqD_v hr1 rv zs
        obtain ⟨b, us2, f2, q2, s2⟩ := tupK_v rv2 zt
        refine ⟨a, b, us, us2, by rw [f1, f2], s, s2 H1 TX.refl, bw _ _ h1 H1 _ x1 hr1 w1 (fol_zM fun h H x hr g => ?_)⟩
        obtain ⟨a', us', f3, s', q'⟩ := seqG_v rv zs x hr g
        rw [f1] at f3
        cases f3
        exact ⟨us', us2, s', q', s2 H x, RVs.mono x _ _ q2⟩
end
end DL

set_option Elab.async false
set_option linter.all false
set_option maxRecDepth 100000
/-! DL34: a, b, c = x, y, z. -/
namespace DL
open PySem PySem.Spec PyProof.Rows L2
def dPar3 (i j l : Nat) (a : DA) : DS := fun D τ h => a τ h fun ds h1 => match ds with
  | [u, v, w] => D.nx (((τ.set i (some u)).set j (some v)).set l (some w)) h1
  | _ => False
section
variable {X : Cx} {K : PySem.W.Frag} {pos : Pos}
theorem xs_par3 {i j l : Nat} {x y z : Str} {a b c : Expr} {ta : TA} {da : DA} {px py pz pt : Pos} {kt k2 pt2} (hc : X.calm = true) (hN : X.N.Nodup) (ha : XA X K [a, b, c] ta da) (hij : i ≠ j) (hil : i ≠ l) (hjl : j ≠ l) (hi : X.N[i]? = some x := by rfl) (hj : X.N[j]? = some y := by rfl) (hl : X.N[l]? = some z := by rfl)
    (hx : X.env.scope.names.lookup x = some .local := by rfl) (hy : X.env.scope.names.lookup y = some .local := by rfl) (hz : X.env.scope.names.lookup z = some .local := by rfl)
    (hw : swappedStores [.Tuple [.Name x px, .Name y py, .Name z pz] kt pt] (.Tuple [a, b, c] k2 pt2) X.env = pure (some [x, y, z]) := by rfl)
    (hs : swapsWithSole [.Tuple [.Name x px, .Name y py, .Name z pz] kt pt] (.Tuple [a, b, c] k2 pt2) pos.line X.env = pure false := by rfl) :
    XS X K (.Assign [.Tuple [.Name x px, .Name y py, .Name z pz] kt pt] (.Tuple [a, b, c] k2 pt2) pos) (tPar3 i j l ta) (dPar3 i j l da) := ⟨ps_par3 hc hN hi hj hl hij hil hjl hx hy hz ha.p hw hs, fun τ σ h H D D0 rs hr bw w =>
  ha.l τ σ h H _ _ rs hr (fun ds h1 vs H1 x1 r1 hr1 w1 => by
    match ds, w1, r1 with
    | [v, w0, v3], w1, r1 =>
      obtain ⟨u1, us1, e1, q1, r2⟩ := rvs_cons r1
      obtain ⟨u2, us2, e2, q2, r3⟩ := rvs_cons r2
      obtain ⟨u3, us3, e3, q3, r4⟩ := rvs_cons r3
      have e4 := rvs_nil r4
      subst e4 e3 e2 e1
      exact ⟨u1, u2, u3, rfl, bw.nx _ _ h1 H1 x1 ((((rs.mono x1).set i q1).set j q2).set l q3) hr1 w1⟩) w⟩
end
end DL

set_option Elab.async false
set_option linter.all false
set_option maxRecDepth 100000
set_option maxHeartbeats 1000000
/-! DL35: a dict is no tuple. -/
namespace DL
open PySem PySem.Spec PyProof.Rows L2 PySem.SeqAt
open AutoSeq1 (wpAny_loadPart')
theorem dict_not_tuple (l b : Addr) (es : Array DictEntry) (ep : Nat) (its : Array Value) (n : Nat) (dd : Option Addr) (sl : Array (Option Value)) :
    Meets (Builtin.«dict.__eq__» ⟨[.ref l, .ref b], []⟩) (fun _ R s => (s.heap.get? l = some { cls := .type "dict", data := .dict es ep } ∧ s.heap.get? b = some { cls := .type "tuple", dict := dd, data := .seq its n, slots := sl }) ∧ R (.ok (.ret .notImplemented)) s) :=
  .of_wp fun prog w A R s h => by
    obtain ⟨hp, g, d, tk, os⟩ := s
    obtain ⟨⟨hl, hb⟩, h⟩ := h
    have no := F.sub_tuple_dict
    wp_walk using wpAny_loadPart' hl, wpAny_loadPart' hb, wpAny_load hl, wpAny_load hb
    exact ⟨_, rfl, h⟩
theorem tuple_not_dict (l b : Addr) (es : Array DictEntry) (ep : Nat) (its : Array Value) (n : Nat) (dd : Option Addr) (sl : Array (Option Value)) :
    Meets (Builtin.«tuple.__eq__» ⟨[.ref b, .ref l], []⟩) (fun _ R s => (s.heap.get? l = some { cls := .type "dict", data := .dict es ep } ∧ s.heap.get? b = some { cls := .type "tuple", dict := dd, data := .seq its n, slots := sl }) ∧ R (.ok (.ret .notImplemented)) s) :=
  .of_wp fun prog w A R s h => by
    obtain ⟨hp, g, d, tk, os⟩ := s
    obtain ⟨⟨hl, hb⟩, h⟩ := h
    have no := F.sub_dict_tuple
    wp_walk using wpAny_loadPart' hl, wpAny_loadPart' hb, wpAny_load hl, wpAny_load hb
    exact ⟨_, rfl, h⟩
theorem rc_dict_tuple {A : Around} {s : Shared} {l b : Addr} {es : Array DictEntry} {ep : Nat} {its : Array Value} (hl : s.heap.DictRaw l es ep) (hb : s.heap.IsTuple b its) (hu : A.units < cLine) : RcAt A s (.ref l) (.ref b) false := fun prog w E Q h => by
  obtain ⟨⟨c1, d1, t1, s1⟩, o1, x1, y1⟩ := hl
  obtain ⟨⟨c2, d2, t2, s2⟩, o2, x2, n2, y2⟩ := hb
  obtain ⟨e1, e2, e3⟩ := x1
  simp only at e1 e2 e3 y1 x2 y2
  subst e1 e2 e3 y1 x2 y2
  have ne : l ≠ b := fun z => by
    have q := o1
    rw [z, o2] at q
    have q2 := congrArg Obj.cls (Option.some.inj q)
    simp only [Value.type.injEq] at q2
    exact absurd q2 (by decide)
  refine rc_eq_decline_or (k := false) ⟨_, o1, rfl⟩ ⟨_, o2, rfl⟩ (by decide) F.sub_tuple_dict F.slot_dict_eq F.slot_tuple_eq_refl (fun _ hq => ?_) (fun _ hq => ?_) (fun _ hq => ?_) (.inr hu) h
  · exact call_meets F.slot_dict_eq ⟨_, o1, rfl⟩ F.entry_dict_eq (F.args_dict_eq_2 _ _) (dict_not_tuple l b es ep its n2 d2 s2) ⟨⟨o1, o2⟩, hq⟩
  · exact call_meets F.slot_tuple_eq_refl ⟨_, o2, rfl⟩ F.entry_tuple_eq (F.args_tuple_eq_2 _ _) (tuple_not_dict l b es ep its n2 d2 s2) ⟨⟨o1, o2⟩, hq⟩
  · exact wpAny_isSame_ref_other ne o1 o2 (by simp) hq
def rEqDT (K : PySem.W.Frag) : R2 := fun x y H Q => ∃ a b kvs xs, x = .ref a ∧ y = .ref b ∧ H a = some (.dK kvs) ∧ SqT K H b xs ∧ Q (.bl false) H
theorem op_eqDT {X : Cx} (hu : X.A.units + 64 < cLine) : OpR X (compareOp .Eq) (rEqDT X.K) := by
  intro pins s σ H x y v u Q I rx ry h
  obtain ⟨a, b, kvs, xs, rfl, rfl, ea, eb, q⟩ := h
  cases rx
  cases ry
  obtain ⟨_, _, va, ra, da⟩ := (show ObjOk X.prog X.w H s.heap a (.dK kvs) from I.hok a _ ea)
  obtain ⟨es, ep, hr, _⟩ := da.raw
  obtain ⟨its, _, ht, _⟩ := I.tuple eb
  exact rc_dict_tuple hr ht (by omega) X.prog X.w X.xe _ ⟨.bl false, H, I, rfl, q⟩
/-- ==, also of a dict and a tuple -/
def dEqDT : DR2 := fun x y h Q => kEq false x y h Q ∨ ∃ a kvs ds, x = .loc a ∧ h a = some (.dK kvs) ∧ y = .tup ds ∧ Q (.bl false) h
@[irreducible] noncomputable def kEqD : DR2 := hide dEqDT
theorem kEqD_eq : kEqD = dEqDT := by unfold kEqD; rw [hide_eq]
theorem w_eqD {x y : D} {h : DH} {Q : DK} (w : kEq false x y h Q) : kEqD x y h Q := by rw [kEqD_eq]; exact .inl w
theorem w_eqDd {a : Addr} {kvs : List (Key × D)} {ds : List D} {h : DH} {Q : DK} (e : h a = some (.dK kvs)) (k : Q (.bl false) h) : kEqD (.loc a) (.tup ds) h Q := by rw [kEqD_eq]; exact .inr ⟨a, kvs, ds, rfl, e, rfl, k⟩
theorem qk_eqD {X : Cx} {K : PySem.W.Frag} (hu : X.A.units + 64 < cLine) (hK : X.K = K := by rfl) : OpR X (compareOp .Eq) (fun x y H Q => (rEqD K x y H Q ∨ rEq x y H Q) ∨ rEqDT K x y H Q) ∧ LR2 K (fun x y H Q => (rEqD K x y H Q ∨ rEq x y H Q) ∨ rEqDT K x y H Q) kEqD := by
  rw [kEqD_eq]
  refine ⟨(qk_eq hu hK).1.or (by subst hK; exact op_eqDT hu), fun d e x y h H Q Q0 r1 r2 hr bw w => ?_⟩
  rcases w with w | ⟨a, kvs, ds, rfl, e1, rfl, w⟩
  · exact .inl ((qk_eq (X := X) hu hK).2 d e x y h H Q Q0 r1 r2 hr bw w)
  · obtain ⟨b, vs, f1, s, q⟩ := rv_tup r2
    obtain ⟨us, s2, q2⟩ := hr _ _ e1
    exact .inr ⟨a, b, us, vs, rv_loc r1, f1, s2, .inl (.inl s), bw _ h _ H TX.refl rv_bl' hr w⟩
end DL

set_option Elab.async false
set_option linter.all false
set_option maxRecDepth 100000
set_option maxHeartbeats 2000000
/-! DL36: errors: raise, defs that may raise, try .. except X as e. -/
namespace DL
open PySem PySem.Spec PyProof.Rows L2

abbrev DXK := Value → Option Addr → DH → Prop
abbrev DWX := Value → Option Addr → DSt → DH → Prop
abbrev DCX := List D → DH → DK → DXK → Prop
def BwX (K : PySem.W.Frag) (H : Hp) (Ed : DXK) (E : XK) : Prop := ∀ cls d h' H', TX K H H' → HR K H' h' → Ed cls d h' → E cls d H'
def LW (K : PySem.W.Frag) (W : WX) (DW : DWX) : Prop := ∀ cls d τ σ h H, RS K H τ σ → HR K H h → DW cls d τ h → W cls d σ H
def dw0 : DWX := fun _ _ _ _ => False
theorem lw0 {K : PySem.W.Frag} : LW K (fun _ _ _ _ => False) dw0 := fun _ _ _ _ _ _ _ _ w => w

/-! ### statements by their canonical ends -/
structure CB (K : PySem.W.Frag) (D : DEnds) (D0 : Ends) : Prop where
  nx : ∀ τ' σ' h' H', RS K H' τ' σ' → HR K H' h' → D.nx τ' h' → D0.nx σ' H'
  rt : ∀ d h' v H', RV K H' d v → HR K H' h' → D.rt d h' → D0.rt v H'
  bk : ∀ τ' σ' h' H', RS K H' τ' σ' → HR K H' h' → D.bk τ' h' → D0.bk σ' H'
  ct : ∀ τ' σ' h' H', RS K H' τ' σ' → HR K H' h' → D.ct τ' h' → D0.ct σ' H'
def tcan (K : PySem.W.Frag) (d : DS) : TS := fun D0 σ H => ∃ D τ h, RS K H τ σ ∧ HR K H h ∧ CB K D D0 ∧ d D τ h
structure XC (X : Cx) (K : PySem.W.Frag) (st : Stmt) (d : DS) : Prop where
  p : PS X st (tcan K d)
structure XCs (X : Cx) (K : PySem.W.Frag) (st : List Stmt) (d : DS) : Prop where
  p : PSs X st (tcan K d)
theorem CB.bws {K : PySem.W.Frag} {D : DEnds} {D0 : Ends} {H : Hp} (c : CB K D D0) : BwS K H D D0 :=
  ⟨fun a b c' d _ => c.nx a b c' d, fun a b c' d _ => c.rt a b c' d, fun a b c' d _ => c.bk a b c' d, fun a b c' d _ => c.ct a b c' d⟩
section
variable {X : Cx} {K : PySem.W.Frag} {st : Stmt} {sts rest : List Stmt} {d d' : DS} {t t' : TS} {pos : Pos}
theorem ps_imp (p : PS X st t) (h : ∀ D σ H, t' D σ H → t D σ H) : PS X st t' := ⟨fun pins s σ H D I w => p.run pins s σ H D I (h D σ H w)⟩
theorem pss_imp (p : PSs X sts t) (h : ∀ D σ H, t' D σ H → t D σ H) : PSs X sts t' := ⟨fun pins s σ H D I w => p.run pins s σ H D I (h D σ H w)⟩
theorem xc (x : XS X K st t d) : XC X K st d := ⟨ps_imp x.p fun D0 σ H ⟨D, τ, h, rs, hr, c, w⟩ => x.l τ σ h H D D0 rs hr c.bws w⟩
theorem xcs (x : XSs X K sts t d) : XCs X K sts d := ⟨pss_imp x.p fun D0 σ H ⟨D, τ, h, rs, hr, c, w⟩ => x.l τ σ h H D D0 rs hr c.bws w⟩
theorem xcs_nil : XCs X K [] dNext := xcs xss_nil
theorem xcs_one (h1 : XC X K st d) : XCs X K [st] d := ⟨pss_one h1.p⟩
theorem xcs_cons (h1 : XC X K st d) (h2 : XCs X K rest d') : XCs X K (st :: rest) (dSeq d d') :=
  ⟨pss_imp (pss_cons h1.p h2.p) fun D0 σ H ⟨D, τ, h, rs, hr, c, w⟩ =>
    ⟨{ D with nx := d' D }, τ, h, rs, hr, ⟨fun τ' σ' h' H' rs' hr' w' => ⟨D, τ', h', rs', hr', c, w'⟩, c.rt, c.bk, c.ct⟩, w⟩⟩
theorem xc_if {c : Expr} {a b : List Stmt} {tc : TT} {dc : DT} (hc : XT X K c tc dc) (ha : XCs X K a d) (hb : XCs X K b d') : XC X K (.If c a b pos) (dIfS dc d d') :=
  ⟨ps_imp (ps_if hc.p ha.p hb.p) fun D0 σ H ⟨D, τ, h, rs, hr, cb, w⟩ => hc.l τ σ h H _ _ rs hr (fun k h1 H1 x1 hr1 w1 => by
    cases k with
    | true => exact ⟨D, τ, h1, rs.mono x1, hr1, cb, kt w1⟩
    | false => exact ⟨D, τ, h1, rs.mono x1, hr1, cb, kf w1⟩) w⟩
/-- the ends, where what has stood since the def began still stands -/
def txE (K : PySem.W.Frag) (H0 : Hp) (D : Ends) : Ends where
  nx := fun σ' H' => TX K H0 H' → D.nx σ' H'
  rt := fun v H' => TX K H0 H' → D.rt v H'
  bk := fun σ' H' => TX K H0 H' → D.bk σ' H'
  ct := fun σ' H' => TX K H0 H' → D.ct σ' H'
theorem tx_inv {pins : List (Addr × Obj)} {σ : L2.St} {H : Hp} {s : Shared} (I : Inv X pins σ H s) : TX K X.H_0 H := ⟨I.base.tups, I.base.frzs⟩
theorem pss_tx (p : PSs X sts t) : PSs X sts (fun D σ H => t (txE K X.H_0 D) σ H) := ⟨fun pins s σ H D I w => thn (p.run pins s σ H _ I w) fun fl s' q => by
  cases fl with
  | ret u =>
    obtain ⟨v, σ', H', J, rv, q⟩ := q
    exact ⟨v, σ', H', J, rv, q (tx_inv J)⟩
  | next =>
    obtain ⟨σ', H', J, q⟩ := q
    exact ⟨σ', H', J, q (tx_inv J)⟩
  | brk =>
    obtain ⟨σ', H', J, q⟩ := q
    exact ⟨σ', H', J, q (tx_inv J)⟩
  | cont =>
    obtain ⟨σ', H', J, q⟩ := q
    exact ⟨σ', H', J, q (tx_inv J)⟩⟩
theorem takes_tx {W : WX} (tk : Takes X W) : Takes X (fun cls d σ H => TX K X.H_0 H → W cls d σ H) := fun u s' ⟨a, B, sI, pins, σ, H, cls, d, e, I, nb, up, sky, na, os, ag, w⟩ =>
  tk u s' ⟨a, B, sI, pins, σ, H, cls, d, e, I, nb, up, sky, na, os, ag, w (tx_inv I)⟩
end

/-! ### defs -/
def spDX (K : PySem.W.Frag) (n : Nat) (M : DCX) : Sp := fun vs H Q E => vs.length = n ∧ ∃ ds h Qd Ed, RVs K H ds vs ∧ HR K H h ∧ Bw K H Qd Q ∧ BwX K H Ed E ∧ M ds h Qd Ed
def runDX (m : Nat) (b : DWX → DS) : DCX := fun ds h Q Ed => b (fun cls d _ h' => Ed cls d h') { nx := fun _ h => Q .non h, rt := Q } (ds.map some ++ List.replicate (m - ds.length) none) h
section
variable {P : Program} {w : World} {K : PySem.W.Frag} {mg : Str → Option Value} {base : Heap} {qn qual : Str} {st : Stmt} {f : Addr} {fd : FuncData} {N ps : List Str} {k m n : Nat}
/-- a def in which errors are caught, none gets out -/
theorem okDC {b : DS} (F : Fun K qn qual st f fd) (S : FnScope N ps (defScope st)) (hn : ps.length = n) (hm : N.length = m)
    (hbody : ∀ (cdv : Value) (A : Around) (outer : List Env) (s : Shared) (H : Hp) (E : XK), RoomG k (A.deeper (envOfC qual (defScope st) s.heap.objs.size f cdv)) →
      XCs (cxOf CX0 P w K mg base N qual (defScope st) f cdv A outer s H E).nox K (defBody st) b) : FnG P w K mg base CX0 (k + 1) f fd ps (spD K n (runD m b)) := by
  refine Fun.okG F S (fun vs H Q E h => h.1.trans hn.symm) (fun cdv A outer s H vs Q E hr h => ?_)
  obtain ⟨hl, ds, h0, Qd, r, hr0, bw, w1⟩ := h
  have xs := hbody cdv A outer s H E hr
  refine ⟨_, pss_tx (K := K) xs.p.nox, ⟨{ nx := fun _ h => Qd .non h, rt := Qd }, _, h0, rs_start r, hr0, ⟨fun τ' σ' h' H' _ hr1 w2 x1 => bw _ _ _ _ x1 rv_non' hr1 w2, fun d h' v H' rv hr1 w2 x1 => bw _ _ _ _ x1 rv hr1 w2, fun _ _ _ _ _ _ w2 => w2.elim, fun _ _ _ _ _ _ w2 => w2.elim⟩, ?_⟩⟩
  rw [hm]
  exact w1
/-- a def that may raise -/
theorem okDX {b : DWX → DS} (F : Fun K qn qual st f fd) (S : FnScope N ps (defScope st)) (hn : ps.length = n) (hm : N.length = m)
    (hbody : ∀ (cdv : Value) (A : Around) (outer : List Env) (s : Shared) (H : Hp) (E : XK) (W : WX) (DW : DWX), RoomG k (A.deeper (envOfC qual (defScope st) s.heap.objs.size f cdv)) →
      Takes (cxOf (L2.CX P w) P w K mg base N qual (defScope st) f cdv A outer s H E) W → LW K W DW → PassesOwn (model P w) (A.deeper (envOfC qual (defScope st) s.heap.objs.size f cdv)) (envOfC qual (defScope st) s.heap.objs.size f cdv) (cxOf (L2.CX P w) P w K mg base N qual (defScope st) f cdv A outer s H E).xe →
      XCs (cxOf (L2.CX P w) P w K mg base N qual (defScope st) f cdv A outer s H E) K (defBody st) (b DW)) : FnG P w K mg base (L2.CX P w) (k + 1) f fd ps (spDX K n (runDX m b)) := by
  refine Fun.okG F S (fun vs H Q E h => h.1.trans hn.symm) (fun cdv A outer s H vs Q E hr h => ?_)
  obtain ⟨hl, ds, h0, Qd, Ed, r, hr0, bw, bx, w1⟩ := h
  have xs := hbody cdv A outer s H E (fun cls d σ H' => TX K H H' → E cls d H') (fun cls d _ h' => Ed cls d h') hr
    (takes_tx (K := K) (W := fun cls d _ H' => E cls d H') (takes_of rfl rfl rfl rfl)) (fun cls d τ σ h' H' _ hr' w' x => bx cls d h' H' x hr' w') (passes_of rfl)
  refine ⟨_, pss_tx (K := K) xs.p, ⟨{ nx := fun _ h => Qd .non h, rt := Qd }, _, h0, rs_start r, hr0, ⟨fun τ' σ' h' H' _ hr1 w2 x1 => bw _ _ _ _ x1 rv_non' hr1 w2, fun d h' v H' rv hr1 w2 x1 => bw _ _ _ _ x1 rv hr1 w2, fun _ _ _ _ _ _ w2 => w2.elim, fun _ _ _ _ _ _ w2 => w2.elim⟩, ?_⟩⟩
  rw [hm]
  exact w1
end
def KnownX (P : Program) (w : World) (K : PySem.W.Frag) (mg : Str → Option Value) (base : Heap) (x : Str) (k n : Nat) (M : DCX) : Prop :=
  ∃ (f : Addr) (fd : FuncData) (ps : List Str), FnG P w K mg base (L2.CX P w) k f fd ps (spDX K n M) ∧ mg x = some (.ref f) ∧ PySem.W.keepIn K (.ref f) = true ∧ Binds K fd ps []
theorem knownX_of {P : Program} {w : World} {K : PySem.W.Frag} {mg : Str → Option Value} {base : Heap} {x qual : Str} {st : Stmt} {f : Addr} {fd : FuncData} {ps : List Str} {k n : Nat} {M : DCX} (F : Fun K x qual st f fd) (hm : mg x = some (.ref f)) (G : FnG P w K mg base (L2.CX P w) k f fd ps (spDX K n M)) (b : Binds K fd ps []) :
    KnownX P w K mg base x k n M := ⟨f, fd, ps, G, hm, F.kp, b⟩
/-- f(..), f a def that may raise; DW: what is wished of its errors -/
def dCallX (n : Nat) (M : DCX) (DW : DWX) (a : DA) : DE := fun τ h Q => a τ h fun ds h1 => ds.length = n ∧ M ds h1 Q (fun cls d h' => DW cls d τ h')
section
variable {X : Cx} {K : PySem.W.Frag} {x : Str} {k n : Nat} {M : DCX} {p pos : Pos} {e : Expr} {es : List Expr} {ta : TA} {da : DA} {W : WX} {DW : DWX}
theorem le_callX (lw : LW K W DW) (la : LA K ta da) : LE K (tCallS (spDX K n M) (WE W) ta) (dCallX n M DW da) := fun τ σ h H Q Q0 rs hr bw w =>
  la τ σ h H _ _ rs hr (fun ds h1 vs H1 x1 r1 hr1 w1 => ⟨by rw [← r1.length]; exact w1.1, ds, h1, Q, _, r1, hr1, bw.mono x1, fun cls d h' H' x2 hr2 w2 => lw cls d τ σ h' H' (rs.mono (x1.trans x2)) hr2 w2, w1.2⟩) w
section
variable {CX : CXT} {f : Addr} {fd : FuncData} {ps : List Str} {sp : Sp} {E : L2.St → XK}
theorem runGS {pins : List (Addr × Obj)} {σ : L2.St} {H : Hp} {s : Shared} {Q : VK} {us : List Value} {vs : List V} (F : FnG X.prog X.w X.K X.mg X.base CX k f fd ps sp) (hr : RoomG k X.A) (hb : Binds X.K fd ps []) (hx : PassesAt CX X σ (E σ))
    (I : Inv X pins σ H s) (r : Vals vs us) (h : sp vs H Q (E σ)) : wpAny (model X.prog X.w) X.A (call (.ref f) us) (EP X pins σ Q) X.xe s := by
  have lens : us.length = ps.length := r.length.symm.trans (F.len _ _ _ _ h)
  have bind := hb s us I.kIn (by rw [List.append_nil]; exact lens)
  rw [List.append_nil] at bind
  refine wpAny_call (codeAny_mono (F.run X.A X.stack s H ⟨us, []⟩ us vs Q (E σ) hr I.env0 bind r h) fun res s' hq => ?_)
  match res, hq with
  | .error err, hq => exact hx pins H s err s' I hq
  | .ok (.ret u), hq => exact I.after hq
end
theorem xknX (G : KnownX X.prog X.w X.K X.mg X.base x k n M) (hr : RoomG k X.A) (tk : Takes X W) (lw : LW X.K W DW) (ha : XA X K (e :: es) ta da) (hg : Gl X x := by rfl) (hK : X.K = K := by rfl)
    (hdb : (x == ("__debug__" : Str)) = false := by decide) (he : starEach (e :: es) X.env = (false, eval e X.env) :: starEach es X.env := by rfl) (hpl : (backTo pos (starEach es X.env)).any (·.1) = false := by rfl) :
    XE X K (.Call (.Name x p) (e :: es) [] pos) (tCallS (spDX K n M) (WE W) ta) (dCallX n M DW da) := by
  subst hK
  obtain ⟨f, fd, ps, F, hm, hk, hb⟩ := G
  refine ⟨⟨fun pins s σ H Q I h => ?_⟩, le_callX lw ha.l⟩
  refine wpAny_Call_Name_kw (ld_glob I hg hm ?_ hdb)
  exact PySem.W.callWith_K (h₀ := X.base) I.ok.mod.kin hk (thn (ha.p.run pos pins s σ H _ I h) fun us s1 ⟨vs, H1, I1, r, q⟩ => ⟨I1.kIn, runGS F hr hb (passAt tk σ) I1 r q⟩) he hpl
end

/-! ### own classes of errors over ValueError or LookupError -/
structure OexG (K : PySem.W.Frag) (C : Addr) : Prop where
  cls : ∃ nm q N bs bm sn sub ab col dd k0 k1 k2 k3 k5 B newId initId bmB, K.lookup C = some (excClassObj nm q C N bs bm true sn sub ab col dd k0 k1 k2 k3 k5 newId) ∧ PySem.W.excTail bmB bm = true ∧ ExcBaseFacts B newId initId bmB ∧ StoreFacts B bmB "object.__setattr__" "object"
  sa : PySem.W.findIn K (.ref C) "__setattr__" = some (some (.builtin "object.__setattr__"))
  exC : PySem.W.subIn K (.ref C) (.type "BaseException") = some true
  tyC : PySem.W.typeIn K (.ref C) = some (.type "type")
  kC : PySem.W.keepIn K (.ref C) = true
structure OexS (K : PySem.W.Frag) (C : Addr) (cd : ClassData) (B : String) (bmB : List Value) : Prop where
  SF : StoreFacts B bmB "object.__setattr__" "object"
  hc : PySem.W.clsIn K C = some cd
  hd : cd.hasDict = true
  ov : PySem.W.excOver K C bmB = true
theorem OexG.st {K : PySem.W.Frag} {C : Addr} (T : OexG K C) : ∃ cd B bmB, OexS K C cd B bmB := by
  obtain ⟨nm, q, N, bs, bm, sn, sub, ab, col, dd, k0, k1, k2, k3, k5, B, newId, initId, bmB, hC, ht, hF, hS⟩ := T.cls
  have hcl : PySem.W.clsIn K C = some { name := nm, bases := bs, mro := .ref C :: bm, ns := N, qualname := q, hasDict := true, slotNames := sn, subclasses := sub, abstract := ab, collection := col, hasDel := false } := by unfold PySem.W.clsIn; rw [hC] <;> rfl
  refine ⟨_, B, bmB, hS, hcl, rfl, ?_⟩
  unfold PySem.W.excOver
  rw [hcl]
  show (C == C && PySem.W.excTail bmB bm) = true
  rw [ht, beq_self_eq_true]; rfl
section
open Builtin Builtin.ObjectAttr
variable {prog : Program} {w : World} {A : Around} {R : PySem.Result → Shared → Prop} {hp : Heap} {g : Array GenState} {d : Drawn} {t : Nat} {os : OsState} {K : PySem.W.Frag} {name : Str} {tk : Tok} {v : Value} {x C : Addr} {fv : Array Value} {cd : ClassData} {B : String} {bmB : List Value}
theorem osaG1 (X : K.In hp) (T : OexS K C cd B bmB) (hx : hp.get? x = some { cls := .ref C, data := .fields fv }) (ha : PySem.W.findIn K (.ref C) name = some none)
    (hq : ∀ h' tk' dx, (∀ b o, b ≠ x → hp.get? b = some o → h'.get? b = some o) → hp.objs.size ≤ dx → dx ≠ x → h'.get? x = some { cls := .ref C, dict := some dx, data := .fields fv } →
      h'.Ns1 dx (fun y => if y = name then some v else none) → R (.ok (.ret .none)) ⟨h', g, d, tk', os⟩) :
    codeAny (model prog w) A (.call (.builtin "object.__setattr__") ⟨[.ref x, .str name tk, v], []⟩) R ⟨hp, g, d, t, os⟩ := by
  have hxs : x ≠ hp.objs.size := Nat.ne_of_lt (Heap.lt_size hx)
  refine PySem.W.osa_openX (s := ⟨hp, g, d, t, os⟩) (ox := { cls := .ref C, data := .fields fv }) (od := none) (r := none) T.SF X ⟨hx, rfl, rfl, trivial⟩ T.ov (by unfold PySem.W.takerIn; rw [ha]; rfl) fun b => ?_
  have hcls : PySem.W.Looks (model prog w) hp (classData C) cd := PySem.W.looks_clsIn X T.hc
  have hh := T.hd
  clear T
  obtain ⟨nm, bs, mro, ns, qn, hd, sn, sb, ab, col, del⟩ := cd
  dsimp only at hh
  subst hh
  dsimp only
  unfold storeInOwnDict ownDictForStores
  repeat (first | with_reducible refine PySem.HandSPX.store_in_new ?_ ?_ | with_reducible refine wpAny_loadPart_at hx ?_ | with_reducible refine hcls.at ?_ | wp_step)
  · exact ⟨_, #[], _, (Heap.get?_update_ne _ _ _ _ hxs.symm).trans (Heap.get?_push_at rfl rfl), rfl, fun e he => absurd he (by simp), fun _ => rfl⟩
  · intro h' tk' hn' hs
    have old : ∀ b o, b ≠ x → hp.get? b = some o → h'.get? b = some o := fun b o hb ho =>
      (hs.2 b (Nat.ne_of_lt (Heap.lt_size ho))).trans ((Heap.get?_update_ne _ _ _ _ hb).trans (Heap.get?_push_of_some _ ho))
    exact hq h' tk' hp.objs.size old (Nat.le_refl _) hxs.symm ((hs.2 x hxs).trans (Heap.get?_update_self _ (Heap.get?_push_of_some _ hx) rfl)) hn'
theorem osaG2 {dx : Addr} {m0 : Str → Option Value} {nl : List Str} (X : K.In hp) (T : OexS K C cd B bmB) (hx : hp.get? x = some { cls := .ref C, dict := some dx, data := .fields fv }) (hns : hp.Ns1 dx m0) (hw : Within m0 nl) (hz : nl.length ≤ 1000) (ha : PySem.W.findIn K (.ref C) name = some none)
    (hq : ∀ h' tk', (∀ b o, b ≠ dx → hp.get? b = some o → h'.get? b = some o) → h'.Ns1 dx (fun y => if y = name then some v else m0 y) → R (.ok (.ret .none)) ⟨h', g, d, tk', os⟩) :
    codeAny (model prog w) A (.call (.builtin "object.__setattr__") ⟨[.ref x, .str name tk, v], []⟩) R ⟨hp, g, d, t, os⟩ := by
  obtain ⟨oD, esD, epD, hoD, hdD, _⟩ := hns.count hw
  refine PySem.W.osa_openX (s := ⟨hp, g, d, t, os⟩) (ox := { cls := .ref C, dict := some dx, data := .fields fv }) (od := some oD) (r := none) T.SF X ⟨hx, rfl, rfl, hoD⟩ T.ov (by unfold PySem.W.takerIn; rw [ha]; rfl) fun b => ?_
  have hcls : PySem.W.Looks (model prog w) hp (classData C) cd := PySem.W.looks_clsIn X T.hc
  have hh := T.hd
  clear T
  obtain ⟨nm, bs, mro, ns, qn, hd, sn, sb, ab, col, del⟩ := cd
  dsimp only at hh
  subst hh
  dsimp only
  unfold storeInOwnDict ownDictForStores
  repeat (first | with_reducible refine PySem.OEX.store_in_old hns hw hz ?_ | with_reducible refine wpAny_loadPart_at hx ?_ | with_reducible refine hcls.at ?_ | wp_step)
  intro h' tk' hn' hs
  exact hq h' tk' (fun b o hb ho => (hs.2 b hb).trans ho) hn'
end
section
variable {X : Cx} {pins : List (Addr × Obj)} {σ : L2.St} {H : Hp} {s : Shared} {a C dx : Addr} {f : Str} {y : V} {u : Value} {fs : List (Str × V)} {Q : Unit → Shared → Prop} {E : Value → Shared → Prop} {A : Around}
theorem ostG1 (T : OexG X.K C) (I : Inv X pins σ H s) (e : H a = some (exo a C none)) (hno : PySem.W.findIn X.K (.ref C) f = some none) (ry : RelV y u)
    (h : ∀ dx s', H dx = none → dx ≠ a → Inv X pins σ (upd (upd H dx (exd dx [(f, y)])) a (exo a C (some dx))) s' → Q () s') : wpAny (model X.prog X.w) A (setAttr (.ref a) f u) Q E s := by
  obtain ⟨cd, B, bmB, S⟩ := T.st
  obtain ⟨t1, ho⟩ := exo_at I.hok e
  obtain ⟨hp, g, d, t, os⟩ := s
  refine PySem.W.set_plain I.kIn (ox := { cls := .ref C, dict := none, data := .fields #[.ref t1, .none, .none, .none, .bool false, .none] }) (od := none) ⟨ho, rfl, rfl, trivial⟩ T.sa ?_
  refine osaG1 I.kIn S ho hno (fun h' tk' dx k dn dne hx hn => ?_)
  have hnd : H dx = none := I.hok.fresh dn
  have nd : ∀ {b : Addr} {o : Obj}, hp.get? b = some o → b ≠ dx := fun q => Nat.ne_of_lt (Nat.lt_of_lt_of_le (Heap.lt_size q) dn)
  have na : ∀ {b : Addr}, H b = none → b ≠ a := fun n z => by rw [z, e] at n; cases n
  have keep2 : ∀ {b : Addr} {o : HO}, H b = some o → b ≠ a → upd (upd H dx (exd dx [(f, y)])) a (exo a C (some dx)) b = some o := fun q z => by rw [upd_ne z, upd_ne (ne_of_none q hnd)]; exact q
  have U : Un X.fs [] H (upd (upd H dx (exd dx [(f, y)])) a (exo a C (some dx))) hp h' := by
    constructor
    case keep => exact fun b o q n _ _ => k b o (na n) q
    case slot => exact fun b o q n _ _ => ⟨o.slots, k b o (na n) q⟩
    case free => exact fun b o q n _ => by rw [upd_ne (na n), upd_ne (nd q)]; exact n
    case there =>
      intro b o q _
      by_cases hb : b = a
      · subst hb; exact ⟨_, hx⟩
      · exact ⟨o, k b o hb q⟩
    case tups => exact fun b xs q => keep2 q (at_ne e q exo_tup)
    case frzs => exact fun b o v q => keep2 q (at_ne e q exo_frz)
    case tbls => exact fun b ps q => ⟨#[], by rw [keep2 q (at_ne e q exo_tbl)]; simp⟩
  refine h dx _ hnd dne (I.un (t' := tk') U fun b o q => ?_)
  by_cases hb : b = a
  · subst hb
    rw [upd_same] at q; cases q
    exact exo_ok hx
  · rw [upd_ne hb] at q
    by_cases hd : b = dx
    · subst hd
      rw [upd_same] at q; cases q
      exact exd_ok hn (relO_put (fs := []) ry fun g => True.intro)
    · rw [upd_ne hd] at q
      refine (I.hok b o q).stay (fun c v hc z => k c v ?_ z) (fun c hc => keep2 hc (at_ne e hc exo_own)) fun c xs hc => keep2 hc (at_ne e hc exo_tup)
      rcases hc with hc | hc
      · rw [hc]; exact hb
      · exact at_ne e hc exo_own
theorem ostG2 (T : OexG X.K C) (I : Inv X pins σ H s) (e : H a = some (exo a C (some dx))) (ed : H dx = some (exd dx fs)) (hl : fs.length ≤ 900) (hno : PySem.W.findIn X.K (.ref C) f = some none) (ry : RelV y u)
    (h : ∀ s', Inv X pins σ (upd H dx (exd dx ((f, y) :: fs))) s' → Q () s') : wpAny (model X.prog X.w) A (setAttr (.ref a) f u) Q E s := by
  obtain ⟨cd, B, bmB, S⟩ := T.st
  obtain ⟨t1, ho⟩ := exo_at I.hok e
  obtain ⟨mA, hns, rel⟩ := exd_at I.hok ed
  have hw := within_of rel
  obtain ⟨hp, g, d, t, os⟩ := s
  obtain ⟨oD, _, _, hoD, _, _⟩ := hns.count hw
  refine PySem.W.set_plain I.kIn (ox := { cls := .ref C, dict := some dx, data := .fields #[.ref t1, .none, .none, .none, .bool false, .none] }) (od := some oD) ⟨ho, rfl, rfl, hoD⟩ T.sa ?_
  refine osaG2 I.kIn S ho hns hw (by rw [List.length_map]; omega) hno (fun h' tk' k hn => ?_)
  have hd : ∃ o, h'.get? dx = some o := by
    obtain ⟨o, _, _, e', _⟩ := hn
    exact ⟨o, e'⟩
  exact h _ (I.write (t' := tk') (x := dx) (e := dx) (o := exd dx ((f, y) :: fs)) (by rw [ed]; exact True.intro) (.inl rfl) k hd (exd_ok hn (relO_put ry rel)))
end
/-- self.f = e within an __init__ -/
def tOstG (K : PySem.W.Frag) (f : Str) (to te : TE) : TS := fun D σ H => te σ H fun y H1 => to σ H1 fun x H2 => ∃ a C : Addr, x = .ref a ∧ OexG K C ∧ PySem.W.findIn K (.ref C) f = some none ∧
  ((H2 a = some (exo a C none) ∧ ∀ dx, H2 dx = none → dx ≠ a → D.nx σ (upd (upd H2 dx (exd dx [(f, y)])) a (exo a C (some dx)))) ∨
    ∃ (dx : Addr) (fs : List (Str × V)), H2 a = some (exo a C (some dx)) ∧ H2 dx = some (exd dx fs) ∧ fs.length ≤ 900 ∧ D.nx σ (upd H2 dx (exd dx ((f, y) :: fs))))
theorem ps_ostG {X : Cx} {o e : Expr} {to te : TE} {f : Str} {p' pos : Pos} (ho : PE X o to) (he : PE X e te) (hs : swapsWith e (some (.Attribute o f p')) pos.line X.env = pure false := by rfl) : PS X (.Assign [.Attribute o f p'] e pos) (tOstG X.K f to te) := by
  refine ⟨fun pins s σ H D I h => ?_⟩
  refine plainObj_wpAny_Assign_Attribute (thn (he.run pins s σ H _ I h) fun v s1 ⟨y, H1, I1, r1, q1⟩ => thn (ho.run pins s1 σ H1 _ I1 q1) fun u s2 ⟨x, H2, I2, r2, a, C, ex, T, hno, q⟩ => ?_) hs
  subst ex
  obtain rfl : u = Value.ref a := r2
  rcases q with ⟨ea, q⟩ | ⟨dx, fs, ea, ed, hl, q⟩
  · exact ostG1 T I2 ea hno r1 fun dx s' n ne J => ⟨σ, _, J, q dx n ne⟩
  · exact ostG2 T I2 ea ed hl hno r1 fun s' J => ⟨σ, _, J, q⟩
/-! ### classes of errors -/
/-- what the written part says of the class x at C, whose __init__ at fI keeps its arguments under the names fs -/
structure XTxt (K : PySem.W.Frag) (mg : Str → Option Value) (x : Str) (C : Addr) (fs : List Str) : Prop where
  gC : mg x = some (.ref C)
  oex : OexG K C
  ga : PySem.W.findIn K (.ref C) "__getattribute__" = some (some (.builtin "BaseException.__getattribute__"))
  gg : PySem.W.findIn K (.ref C) "__getattr__" = some none
  no : ∀ f, f ∈ fs → PySem.W.findIn K (.ref C) f = some none
  hd : PySem.W.hasDictIn K C = true
  te : PySem.W.exmOne K (.ref C) (.ref C) = some true
/-- an error of the class at S is what «except S» names -/
theorem exm_self {K : PySem.W.Frag} {S : Addr} (h1 : PySem.W.subIn K (.ref S) (.type "BaseException") = some true) (h2 : PySem.W.isClsIn K S = true) (h3 : PySem.W.typeIn K (.ref S) = some (.type "type")) (h4 : PySem.W.subIn K (.ref S) (.ref S) = some true) :
    PySem.W.exmOne K (.ref S) (.ref S) = some true := by
  have e1 : (PySem.W.subIn K (.ref S) (.type "BaseException") == some true) = true := by rw [h1] <;> rfl
  have e2 : ((PySem.W.clsIn K S).isSome && PySem.W.typeIn K (.ref S) == some (.type "type")) = true := by
    have h2' : (PySem.W.clsIn K S).isSome = true := h2
    rw [h2', h3] <;> rfl
  show (if (PySem.W.subIn K (.ref S) (.type "BaseException") == some true) = true then (if ((PySem.W.clsIn K S).isSome && PySem.W.typeIn K (.ref S) == some (.type "type")) = true then PySem.W.subIn K (.ref S) (.ref S) else none) else none) = some true
  rw [if_pos e1, if_pos e2]
  exact h4
/-- its fields, the last one first -/
def initF {α : Type} : List Str → List α → List (Str × α) → List (Str × α)
  | f :: fs, v :: vs, acc => initF fs vs ((f, v) :: acc)
  | _, _, acc => acc
def spInit (K : PySem.W.Frag) (C : Addr) (fs : List Str) : Sp := fun vs H Q _ => ∃ (a : Addr) (ws : List V), vs = .ref a :: ws ∧ ws.length = fs.length ∧ H a = some (exo a C none) ∧
  ∀ dx, H dx = none → dx ≠ a → Q .non (upd (upd H dx (exd dx (initF fs ws []))) a (exo a C (some dx)))
def KnownE (P : Program) (w : World) (K : PySem.W.Frag) (mg : Str → Option Value) (base : Heap) (x : Str) (C : Addr) (k : Nat) (fs : List Str) : Prop :=
  XTxt K mg x C fs ∧ ∃ (fI : Addr) (fd : FuncData) (ps : List Str), FnG P w K mg base CX0 k fI fd ps (spInit K C fs) ∧ PySem.W.findIn K (.ref C) "__init__" = some (some (.ref fI)) ∧ PySem.W.typeIn K (.ref fI) = some (.type "function") ∧ Binds K fd ps []
section
variable {P : Program} {w : World} {K : PySem.W.Frag} {mg : Str → Option Value} {base : Heap} {x qual : Str} {st : Stmt} {f C : Addr} {fd : FuncData} {f1 f2 : Str}
theorem start1 {v w : V} : (L2.start ["self", f1] [v, w]) = [some v, some w] := rfl
theorem init1 (T : XTxt K mg x C [f1]) (F : Fun K "__init__" qual st f fd) (iC : PySem.W.findIn K (.ref C) "__init__" = some (some (.ref f))) (tI : PySem.W.typeIn K (.ref f) = some (.type "function")) (S : FnScope ["self", f1] ["self", f1] (defScope st)) (bd : Binds K fd ["self", f1] []) {p1 p2 p3 p4 : Pos}
    (hb : defBody st = [.Assign [.Attribute (.Name "self" p1) f1 p2] (.Name f1 p3) p4]) (hd : (f1 == ("__debug__" : Str)) = false := by decide) (hd2 : (f1 == ("__classdict__" : Str)) = false := by decide) (h0 : Vis (defScope st) "self" := by first | exact .inl rfl | exact .inr (.inl rfl)) (h1 : Vis (defScope st) f1 := by first | exact .inl rfl | exact .inr (.inl rfl))
    (hs : ∀ env : Env, swapsWith (.Name f1 p3) (some (.Attribute (.Name "self" p1) f1 p2)) p4.line env = pure false := by intro _; rfl) : KnownE P w K mg base x C 1 [f1] := by
  refine ⟨T, f, fd, ["self", f1], ?_, iC, tI, bd⟩
  refine Fun.okG (k := 0) F S (fun vs H Q E ⟨a, ws, e, l, _⟩ => by rw [e]; simp [l]) (fun cdv A outer s H vs Q E hr ⟨a, ws, e, l, ha, q⟩ => ?_)
  rw [hb]
  refine ⟨_, pss_one (ps_ostG (pe_var (i := 0) rfl h0) (pe_var (i := 1) rfl h1 hd hd2) (hs _)), ?_⟩
  subst e
  match ws, l with
  | [v1], _ => exact ⟨v1, rfl, .ref a, rfl, a, C, rfl, T.oex, T.no f1 (by simp), .inl ⟨ha, fun dx n ne => q dx n ne⟩⟩
theorem init2 (T : XTxt K mg x C [f1, f2]) (F : Fun K "__init__" qual st f fd) (iC : PySem.W.findIn K (.ref C) "__init__" = some (some (.ref f))) (tI : PySem.W.typeIn K (.ref f) = some (.type "function")) (S : FnScope ["self", f1, f2] ["self", f1, f2] (defScope st)) (bd : Binds K fd ["self", f1, f2] []) {p1 p2 p3 p4 p5 p6 p7 p8 : Pos}
    (hb : defBody st = [.Assign [.Attribute (.Name "self" p1) f1 p2] (.Name f1 p3) p4, .Assign [.Attribute (.Name "self" p5) f2 p6] (.Name f2 p7) p8]) (hd : (f1 == ("__debug__" : Str)) = false := by decide) (hd2 : (f1 == ("__classdict__" : Str)) = false := by decide) (hd3 : (f2 == ("__debug__" : Str)) = false := by decide) (hd4 : (f2 == ("__classdict__" : Str)) = false := by decide)
    (h0 : Vis (defScope st) "self" := by first | exact .inl rfl | exact .inr (.inl rfl)) (h1 : Vis (defScope st) f1 := by first | exact .inl rfl | exact .inr (.inl rfl)) (h2 : Vis (defScope st) f2 := by first | exact .inl rfl | exact .inr (.inl rfl))
    (hs : ∀ env : Env, swapsWith (.Name f1 p3) (some (.Attribute (.Name "self" p1) f1 p2)) p4.line env = pure false := by intro _; rfl) (hs2 : ∀ env : Env, swapsWith (.Name f2 p7) (some (.Attribute (.Name "self" p5) f2 p6)) p8.line env = pure false := by intro _; rfl) : KnownE P w K mg base x C 1 [f1, f2] := by
  refine ⟨T, f, fd, ["self", f1, f2], ?_, iC, tI, bd⟩
  refine Fun.okG (k := 0) F S (fun vs H Q E ⟨a, ws, e, l, _⟩ => by rw [e]; simp [l]) (fun cdv A outer s H vs Q E hr ⟨a, ws, e, l, ha, q⟩ => ?_)
  rw [hb]
  refine ⟨_, pss_cons (ps_ostG (pe_var (i := 0) rfl h0) (pe_var (i := 1) rfl h1 hd hd2) (hs _)) (pss_one (ps_ostG (pe_var (i := 0) rfl h0) (pe_var (i := 2) rfl h2 hd3 hd4) (hs2 _))), ?_⟩
  subst e
  match ws, l with
  | [v1, v2], _ =>
    refine ⟨v1, rfl, .ref a, rfl, a, C, rfl, T.oex, T.no f1 (by simp), .inl ⟨ha, fun dx n ne => ?_⟩⟩
    refine ⟨v2, rfl, .ref a, rfl, a, C, rfl, T.oex, T.no f2 (by simp), .inr ⟨dx, [(f1, v1)], upd_same, by rw [upd_ne ne, upd_same], by simp, ?_⟩⟩
    have e : upd (upd (upd H dx (exd dx [(f1, v1)])) a (exo a C (some dx))) dx (exd dx [(f2, v2), (f1, v1)]) = upd (upd H dx (exd dx [(f2, v2), (f1, v1)])) a (exo a C (some dx)) := by
      funext b
      by_cases h1 : b = dx
      · subst h1
        rw [upd_same, upd_ne ne, upd_same]
      · by_cases h2 : b = a
        · subst h2
          rw [upd_ne h1, upd_same, upd_same]
        · rw [upd_ne h1, upd_ne h2, upd_ne h1, upd_ne h2, upd_ne h1]
    show Q .non (upd (upd (upd H dx (exd dx [(f1, v1)])) a (exo a C (some dx))) dx (exd dx [(f2, v2), (f1, v1)]))
    rw [e]
    exact q dx n ne
end
theorem rkv_init {K : PySem.W.Frag} {H : Hp} : ∀ {fs : List Str} {ds : List D} {vs : List V} {acc : List (Str × D)} {acc' : List (Str × V)}, RVs K H ds vs → RKV K H acc acc' → RKV K H (initF fs ds acc) (initF fs vs acc')
  | [], _, _, _, _, _, r => by unfold initF; exact r
  | f :: fs, [], vs, _, _, q, r => by rw [rvs_nil q]; unfold initF; exact r
  | f :: fs, d :: ds, vs, _, _, q, r => by
    obtain ⟨x, xs, e, q1, q2⟩ := rvs_cons q
    subst e
    exact rkv_init (fs := fs) q2 (.cons ⟨rfl, q1⟩ r)
def dRaise (C : Addr) (fs : List Str) (DW : DWX) (a : DA) : DS := fun _ τ h => a τ h fun ds h1 => ds.length = fs.length ∧ ∀ p, h1 p = none → DW (.ref C) (some p) τ (hupd h1 p (.xdc (initF fs ds [])))
section
variable {X : Cx} {K : PySem.W.Frag} {x : Str} {k : Nat} {C : Addr} {fs : List Str} {p pos pos2 : Pos} {e : Expr} {es : List Expr} {ta : TA} {da : DA} {W : WX} {DW : DWX}
theorem pmkG {fI : Addr} {fd : FuncData} {ps : List Str} {sp : Sp} (T : OexG X.K C) (iC : PySem.W.findIn X.K (.ref C) "__init__" = some (some (.ref fI))) (tI : PySem.W.typeIn X.K (.ref fI) = some (.type "function"))
    (F1 : FnG X.prog X.w X.K X.mg X.base CX0 k fI fd ps sp) (hr : RoomG (k + 1) X.A) (hb : Binds X.K fd ps []) (hg : Gl X x) (hm : X.mg x = some (.ref C)) (ha : PA X (e :: es) ta)
    (hdb : (x == ("__debug__" : Str)) = false) (he : starEach (e :: es) X.env = (false, eval e X.env) :: starEach es X.env) (hpl : (backTo pos (starEach es X.env)).any (·.1) = false) :
    PMk X (.Call (.Name x p) (e :: es) [] pos) (tMkO C sp [] ta) := by
  intro pins s σ H Q I h
  obtain ⟨nm, q, N, bs, bm, sn, sub, ab, col, dd, k0, k1, k2, k3, k5, B, newId, initId, bmB, hC, hbm, hF, _⟩ := T.cls
  refine wpAny_Call_Name_kw (ld_glob I hg hm ?_ hdb)
  refine PySem.W.callWith_K (h₀ := X.base) I.ok.mod.kin T.kC (thn (ha.run pos pins s σ H _ I h) fun us s1 ⟨vs, H1, I1, r1, hz, q1⟩ => ⟨I1.kIn, ?_⟩) he hpl
  show wpAny _ _ (call (.ref C) us) _ _ _
  obtain ⟨hp, g, dr, tk, os⟩ := s1
  have hsz : hp.objs.size ≤ hp.objs.size + 1 := Nat.le_succ _
  have hn : H1 (hp.objs.size + 1) = none := I1.hok.fresh hsz
  have hq := q1 (hp.objs.size + 1) hn
  rw [List.append_nil] at hq
  have kk : ∀ b o, hp.get? b = some o → ((hp.push (PySem.W.kdv_tup us)).push (PySem.HandSPX.excO C hp.objs.size)).get? b = some o := fun b o e => Heap.get?_push_of_some _ (Heap.get?_push_of_some _ e)
  have hget : ((hp.push (PySem.W.kdv_tup us)).push (PySem.HandSPX.excO C hp.objs.size)).get? (hp.objs.size + 1) = some (PySem.HandSPX.excO C hp.objs.size) := by heap_get
  have I2 : Inv X pins σ (upd H1 (hp.objs.size + 1) (exo (hp.objs.size + 1) C none)) ⟨(hp.push (PySem.W.kdv_tup us)).push (PySem.HandSPX.excO C hp.objs.size), g, dr, tk, os⟩ :=
    I1.laid (t' := tk) (a := hp.objs.size + 1) (o := exo (hp.objs.size + 1) C none) (h' := (hp.push (PySem.W.kdv_tup us)).push (PySem.HandSPX.excO C hp.objs.size)) kk hsz (exo_ok hget)
  have r2 : Vals (V.ref (hp.objs.size + 1) :: vs) (Value.ref (hp.objs.size + 1) :: us) := .cons rfl r1
  have hl : (Value.ref (hp.objs.size + 1) :: us).length = ps.length := by
    have e := r2.length
    rw [F1.len _ _ _ _ hq] at e
    exact e.symm
  have hus : us.length ≤ sizeLine := by
    rw [← Paired.length r1, sizeLine_eq]
    omega
  have bind := hb _ (Value.ref (hp.objs.size + 1) :: us) I2.kIn (by rw [List.append_nil]; exact hl)
  rw [List.append_nil] at bind
  refine wpAny_call (PySem.HandSPX.call_own hF (fun Y => PySem.W.excTail_contains Y bm hbm) (I1.kIn _ _ hC) (PySem.W.looks_findIn I1.kIn iC) (fun self => PySem.W.bind_fn I1.kIn self tI) hus
    (codeAny_mono (F1.run _ X.stack _ _ ⟨Value.ref (hp.objs.size + 1) :: us, []⟩ (Value.ref (hp.objs.size + 1) :: us) _ _ (fun _ _ _ => False) (hr.make C us) (I2.env0.make C us []) bind r2 hq) fun r s' hq' => ?_))
  cases r with
  | error er => exact hq'.elim
  | ok fl =>
    cases fl with
    | ret u =>
      obtain ⟨v, H2, os2, bare2, un2, hok2, rv, ev, d, fs, ea, ed, hd1, q2⟩ := hq'
      subst ev
      obtain ⟨h2, g2, d2, t2, os'⟩ := s'
      exact ⟨rv, mk_end (raises_own T.exC T.tyC) I1 hsz kk un2 hok2 os2 bare2 ea ed hd1 q2⟩
    | next => exact False.elim hq'
    | brk => exact False.elim hq'
    | cont => exact False.elim hq'
theorem xs_raise (hc : X.calm = true) (G : KnownE X.prog X.w X.K X.mg X.base x C k fs) (hr : RoomG (k + 1) X.A) (tk : Takes X W) (lw : LW X.K W DW) (ha : XA X K (e :: es) ta da) (hsm : fs.length ≤ 1000 := by decide) (hg : Gl X x := by rfl) (hK : X.K = K := by rfl)
    (hdb : (x == ("__debug__" : Str)) = false := by decide) (he : starEach (e :: es) X.env = (false, eval e X.env) :: starEach es X.env := by rfl) (hpl : (backTo pos (starEach es X.env)).any (·.1) = false := by rfl) :
    XS X K (.Raise (some (.Call (.Name x p) (e :: es) [] pos)) none pos2) (fun _ σ H => tMkO C (spInit K C fs) [] ta σ H fun cls d H' => W cls d σ H') (dRaise C fs DW da) := by
  subst hK
  obtain ⟨T, fI, fd, ps, F, iC, tI, hb⟩ := G
  refine ⟨ps_raise hc tk (pmkG T.oex iC tI F hr hb hg T.gC ha.p hdb he hpl), fun τ σ h H D D0 rs hr' bw w => ?_⟩
  refine ha.l τ σ h H _ _ rs hr' (fun ds h1 vs H1 x1 r1 hr1 w1 => ?_) w
  have hl : vs.length = fs.length := r1.length.symm.trans w1.1
  refine ⟨by omega, fun a hna => ?_⟩
  rw [List.append_nil]
  refine ⟨a, vs, rfl, hl, upd_same, fun dx hdx ne => ?_⟩
  have hdx1 : H1 dx = none := by rw [upd_ne ne] at hdx; exact hdx
  refine ⟨rfl, dx, initF fs vs [], upd_same, by rw [upd_ne ne, upd_same], hdx1, ?_⟩
  have e : upd (del (upd (upd (upd H1 a (exo a C none)) dx (exd dx (initF fs vs []))) a (exo a C (some dx))) a) dx (.xd (initF fs vs [])) = upd H1 dx (.xd (initF fs vs [])) := by
    funext b
    by_cases h1 : b = dx
    · subst h1
      rw [upd_same, upd_same]
    · rw [upd_ne h1, upd_ne h1]
      by_cases h2 : b = a
      · subst h2
        rw [del_same, hna]
      · rw [del_ne h2, upd_ne h2, upd_ne h1, upd_ne h2]
  rw [e]
  have x2 : TX X.K H1 (upd H1 dx (.xd (initF fs vs []))) := tx_new hdx1
  exact lw _ _ τ σ _ _ (rs.mono (x1.trans x2)) (hr1.put (o := .xdc (initF fs ds [])) x2 ⟨_, upd_same, rkv_init (RVs.mono x2 _ _ r1) .nil⟩) (w1.2 dx (hr1.free hdx1))
end

/-! ### a field of the error that a suite holds -/
def dXFld (C a : Addr) (cls : Value) (d : Option Addr) (f : Str) (t : DE) : DE := fun τ h Q => t τ h fun x h1 => x = .loc a ∧ cls = .ref C ∧ ∃ dd fs, d = some dd ∧ h1 dd = some (.xdc fs) ∧ need (fldV fs f) h1 Q
def tXFld (C a : Addr) (cls : Value) (d : Option Addr) (f : Str) (te : TE) : TE := fun σ H Q => te σ H fun x H1 => x = .ref a ∧ cls = .ref C ∧ ∃ (dd : Addr) (us : List (Str × V)) (v : V), d = some dd ∧ H1 dd = some (.xd us) ∧ us.lookup f = some v ∧ Q v H1
section
variable {X : Cx} {K : PySem.W.Frag} {x : Str} {C : Addr} {fs : List Str}
theorem xxfld {a : Addr} {oe : Obj} {cls : Value} {d : Option Addr} {pn : List (Addr × Obj)} {e : Expr} {te : TE} {de : DE} {f : Str} {pos : Pos} (T : XTxt X.K X.mg x C fs) (hz : Zc cls d oe) (hf : ∃ vs, oe.data = .fields vs) (he : XE (X.suite a ((a, oe) :: pn)) K e te de) (hmem : f ∈ fs := by simp)
    (hb : attributeBase e f X.env (eval e X.env) = eval e X.env := by rfl) : XE (X.suite a ((a, oe) :: pn)) K (.Attribute e f pos) (tXFld C a cls d f te) (dXFld C a cls d f de) := by
  refine ⟨⟨fun pins s σ H Q I h => ?_⟩, fun τ σ h H Q Q0 rs hr bw w => he.l τ σ h H _ _ rs hr (fun y h1 v H1 x1 r1 hr1 w1 => ?_) w⟩
  · refine attr_of hb (thn (he.p.run pins s σ H _ I h) fun u s1 hh => ?_)
    obtain ⟨x, H1, I1, rx, ex, ec, dd, us, v, ed, ea, hl, q⟩ := hh
    subst ex
    obtain rfl : u = Value.ref a := rx
    subst ec
    subst ed
    obtain ⟨ha, _⟩ := I1.pin (a, oe) (List.mem_append_left _ List.mem_cons_self)
    obtain ⟨vs, hd⟩ := hf
    have hx : ObjOk X.prog X.w H1 s1.heap dd (.xd us) := I1.hok dd _ ea
    obtain ⟨mA, hns, hr⟩ := hx
    obtain ⟨od, ho, hlk⟩ := lookIn_ns hns
    obtain ⟨u, hu, ru⟩ := RelO.some_of (v := v) (o := mA f) (by rw [← hl]; exact hr f)
    have J : PySem.W.InstAt s1.heap a oe C (some od) := ⟨ha, hz.1, by unfold PySem.W.notCls; rw [hd] <;> rfl, by rw [hz.2]; exact ho⟩
    exact HandSPX.exc_get I1.kIn J T.ga T.gg T.oex.exC (PySem.W.findObj_own T.hd (T.no f hmem) rfl (by rw [hlk, hu])) (handed_of ru) ⟨v, H1, I1.tok _, ru, q⟩
  · obtain ⟨e1, e2, dd, fs, e3, e4, w2⟩ := w1
    subst e1
    obtain ⟨d0, z1, z2⟩ := need_of w2
    obtain ⟨us, s, r⟩ := hr1 _ _ e4
    rcases rkv_lookup r f with ⟨z, _⟩ | ⟨d2, v2, y1, y2, rv⟩
    · rw [z1] at z; cases z
    · rw [z1] at y1; cases y1
      exact ⟨rv_loc r1, e2, dd, us, v2, e3, s, y2, bw _ h1 _ H1 x1 rv hr1 z2⟩
end

/-! ### try: body, except X as n: suite -/
/-- does the clause of the class c take an error of the class cls -/
def dCatch (xm : Value → Value → Bool → Prop) (c cls : Value) (yes no : Prop) : Prop := (cls = c ∧ yes) ∨ (xm cls c true ∧ yes) ∨ (xm cls c false ∧ no)
def unE (i : Nat) (D : DEnds) : DEnds where
  nx := fun τ h => D.nx (τ.set i none) h
  rt := D.rt
  bk := fun τ h => D.bk (τ.set i none) h
  ct := fun τ h => D.ct (τ.set i none) h
def dTryAs (xm : Value → Value → Bool → Prop) (c : Value) (i : Nat) (DWo : DWX) (b : DWX → DS) (s : Addr → Value → Option Addr → DS) : DS := fun D τ h =>
  b (fun cls d τ' h' => dCatch xm c cls (∀ a, h' a = none → s a cls d (unE i D) (τ'.set i (some (.loc a))) h') (DWo cls d τ' h')) D τ h
def dTry1 (xm : Value → Value → Bool → Prop) (c : Value) (DWo : DWX) (b : DWX → DS) (s : Addr → Value → Option Addr → DS) : DS := fun D τ h =>
  b (fun cls d τ' h' => dCatch xm c cls (∀ a, h' a = none → s a cls d D τ' h') (DWo cls d τ' h')) D τ h
section
variable {X : Cx} {K : PySem.W.Frag} {x n : Str} {c : Value} {i : Nat} {body suite : List Stmt} {b₀ : Stmt} {np pos pos' : Pos} {b : DWX → DS} {s : Addr → Value → Option Addr → DS} {W : WX} {DW : DWX} {xm : Value → Value → Bool → Prop}
theorem catch_of {cls : Value} {yes no : Prop} (hself : PySem.W.exmOne K c c = some true) (hxm : ∀ cls c b, xm cls c b → PySem.W.exmOne K cls c = some b) (w : dCatch xm c cls yes no) : ∃ b, PySem.W.exmOne K cls c = some b ∧ (b = true → yes) ∧ (b = false → no) := by
  rcases w with ⟨e, y⟩ | ⟨e, y⟩ | ⟨e, y⟩
  · subst e; exact ⟨true, hself, fun _ => y, fun z => nomatch z⟩
  · exact ⟨true, hxm _ _ _ e, fun _ => y, fun z => nomatch z⟩
  · exact ⟨false, hxm _ _ _ e, fun z => (nomatch z), fun _ => y⟩
theorem xc_tryAs (hc : Names X x c) (hself : PySem.W.exmOne X.K c c = some true) (hxm : ∀ cls c b, xm cls c b → PySem.W.exmOne X.K cls c = some b) (hN : X.N.Nodup) (tk : Takes X W) (lw : LW X.K W DW)
    (hb : ∀ (W : WX) (DW : DWX) (pn : List (Addr × Obj)) (xe : Value → Shared → Prop), LW X.K W DW → Takes (X.tr pn xe) W → PassesOwn (model X.prog X.w) X.A X.env xe → XCs (X.tr pn xe) K body (b DW))
    (hsu : ∀ (a : Addr) (oe : Obj) (cls : Value) (d : Option Addr) (pn : List (Addr × Obj)), Zc cls d oe → (∃ vs, oe.data = .fields vs) → XCs (X.suite a ((a, oe) :: pn)) K (b₀ :: suite) (s a cls d))
    (hi : X.N[i]? = some n := by rfl) (hln : X.env.kindOf n = some .local := by rfl) (hs : X.stack = X.env :: X.outer := by rfl) (hf : X.env.frame = some X.env.locals := by rfl) (hK : X.K = K := by rfl) :
    XC X K (.Try body [.ExceptHandler (some (.Name x np)) (some n) (b₀ :: suite) pos'] [] [] pos) (dTryAs xm c i DW b s) := by
  subst hK
  refine ⟨ps_imp (ps_try_as (tb := fun W0 D0 σ H => ∃ DW0, LW X.K W0 DW0 ∧ tcan X.K (b DW0) D0 σ H) (ts := fun a cls d => tcan X.K (s a cls d)) hs hf hN hi hln hc tk (fun W0 pn xe tk0 po => ⟨fun pins st σ H D0 I ⟨DW0, lw0, w⟩ => (hb W0 DW0 pn xe lw0 tk0 po).p.run pins st σ H D0 I w⟩) (fun a oe cls d pn hz hf => (hsu a oe cls d pn hz hf).p)) ?_⟩
  intro D0 σ H ⟨D, τ, h, rs, hr, cb, w⟩
  refine ⟨_, ?_, D, τ, h, rs, hr, cb, w⟩
  intro cls d τ' σ' h' H' rs' hr' w'
  obtain ⟨k, e, yes, no⟩ := catch_of hself hxm w'
  refine ⟨k, e, fun hk a hna => ?_, fun hk => lw cls d τ' σ' h' H' rs' hr' (no hk)⟩
  exact ⟨unE i D, _, h', rs'.set i rv_loc', hr', ⟨fun τ2 σ2 h2 H2 r2 q2 w2 => cb.nx _ _ h2 H2 (r2.unset i) q2 w2, cb.rt, fun τ2 σ2 h2 H2 r2 q2 w2 => cb.bk _ _ h2 H2 (r2.unset i) q2 w2, fun τ2 σ2 h2 H2 r2 q2 w2 => cb.ct _ _ h2 H2 (r2.unset i) q2 w2⟩, yes hk a (hr'.free hna)⟩
theorem xc_try1 (hc : Names X x c) (hself : PySem.W.exmOne X.K c c = some true) (hxm : ∀ cls c b, xm cls c b → PySem.W.exmOne X.K cls c = some b) (tk : Takes X W) (lw : LW X.K W DW)
    (hb : ∀ (W : WX) (DW : DWX) (pn : List (Addr × Obj)) (xe : Value → Shared → Prop), LW X.K W DW → Takes (X.tr pn xe) W → PassesOwn (model X.prog X.w) X.A X.env xe → XCs (X.tr pn xe) K body (b DW))
    (hsu : ∀ (a : Addr) (oe : Obj) (cls : Value) (d : Option Addr) (pn : List (Addr × Obj)), Zc cls d oe → (∃ vs, oe.data = .fields vs) → XCs (X.suite a ((a, oe) :: pn)) K (b₀ :: suite) (s a cls d))
    (hs : X.stack = X.env :: X.outer := by rfl) (hf : X.env.frame = some X.env.locals := by rfl) (hK : X.K = K := by rfl) :
    XC X K (.Try body [.ExceptHandler (some (.Name x np)) none (b₀ :: suite) pos'] [] [] pos) (dTry1 xm c DW b s) := by
  subst hK
  refine ⟨ps_imp (ps_try_only (tb := fun W0 D0 σ H => ∃ DW0, LW X.K W0 DW0 ∧ tcan X.K (b DW0) D0 σ H) (ts := fun a cls d => tcan X.K (s a cls d)) hs hf hc tk (fun W0 pn xe tk0 po => ⟨fun pins st σ H D0 I ⟨DW0, lw0, w⟩ => (hb W0 DW0 pn xe lw0 tk0 po).p.run pins st σ H D0 I w⟩) (fun a oe cls d pn hz hf => (hsu a oe cls d pn hz hf).p)) ?_⟩
  intro D0 σ H ⟨D, τ, h, rs, hr, cb, w⟩
  refine ⟨_, ?_, D, τ, h, rs, hr, cb, w⟩
  intro cls d τ' σ' h' H' rs' hr' w'
  obtain ⟨k, e, yes, no⟩ := catch_of hself hxm w'
  exact ⟨k, e, fun hk a hna => ⟨D, _, h', rs', hr', cb, yes hk a (hr'.free hna)⟩, fun hk => lw cls d τ' σ' h' H' rs' hr' (no hk)⟩
end
end DL

set_option Elab.async false
set_option linter.all false
set_option maxRecDepth 100000
set_option maxHeartbeats 2000000
/-! DL37: lambdas that are handed to defs. -/
namespace DL
open PySem PySem.Spec PyProof.Rows L2

/-! ### what stands untracked stays -/
def Later (H0 : Hp) (h0 : Heap) (H : Hp) (h : Heap) : Prop := ∀ b o, h0.get? b = some o → H0 b = none → (∃ sl, h.get? b = some { o with slots := sl }) ∧ H b = none
theorem Later.trans {H0 H1 H2 : Hp} {h0 h1 h2 : Heap} (x : Later H0 h0 H1 h1) (y : Later H1 h1 H2 h2) : Later H0 h0 H2 h2 := fun b o e n => by
  obtain ⟨⟨sl, e1⟩, n1⟩ := x b o e n
  obtain ⟨⟨sl2, e2⟩, n2⟩ := y b _ e1 n1
  exact ⟨⟨sl2, e2⟩, n2⟩
theorem later_inv {X : Cx} {pins : List (Addr × Obj)} {σ : L2.St} {H : Hp} {s : Shared} (I : Inv X pins σ H s) (hex : X.ex = []) : Later X.H_0 X.s_0.heap H s.heap := fun b o e n =>
  ⟨I.base.any e n (by rw [hex]; simp), I.base.free b o e n (by rw [hex]; simp)⟩
theorem Later.cell {H0 H : Hp} {h0 h : Heap} (x : Later H0 h0 H h) {c : Addr} {v : Option Value} (n : H0 c = none) (y : h0.IsCell c v) : h.IsCell c v ∧ H c = none := by
  obtain ⟨o, ho, hd⟩ := y
  obtain ⟨⟨sl, e⟩, n1⟩ := x c o ho n
  exact ⟨⟨_, e, hd⟩, n1⟩

/-! ### what may be called -/
section
variable (P : Program) (w : World) (K : PySem.W.Frag) (mg : Str → Option Value) (base : Heap)
structure CloOk (k n : Nat) (f : Addr) (F : DC) (H0 : Hp) (h0 : Heap) : Prop where
  fn : ∃ o u fd, H0 f = some (.frz o u) ∧ o.data = .func fd
  run : ∀ (A : Around) (outer : List Env) (s : Shared) (Hs : Hp) (us : List Value) (vs : List V) (Q : VK) (E : XK), RoomG k A → Env0 P w K mg base A outer s Hs → TX K H0 Hs → Later H0 h0 Hs s.heap → Vals vs us → spD K n F vs Hs Q E →
    codeAny (model P w) A (.call (.ref f) ⟨us, []⟩) (CR CX0 outer P w Hs s Q E) s
abbrev CT := Addr → Nat → DC → Prop
def CloT (k : Nat) (Θ : CT) (H : Hp) (h : Heap) : Prop := ∀ f n F, Θ f n F → CloOk P w K mg base k n f F H h
structure FnC (k : Nat) (f : Addr) (fd : FuncData) (ps : List Str) (sp : Heap → Sp) : Prop where
  len : ∀ h vs H Q E, sp h vs H Q E → vs.length = ps.length
  run : ∀ (A : Around) (outer : List Env) (s : Shared) (H : Hp) (args : Args) (us : List Value) (vs : List V) (Q : VK) (E : XK), RoomG k A → Env0 P w K mg base A outer s H → BindsTo s fd args (ps.zip us) → Vals vs us → sp s.heap vs H Q E →
    codeAny (model P w) A (.call (.ref f) args) (CR CX0 outer P w H s Q E) s
def spC (kc n : Nat) (M : CT → DC) : Heap → Sp := fun h0 vs H Q _ => vs.length = n ∧ ∃ Θ ds h Qd, CloT P w K mg base kc Θ H h0 ∧ RVs K H ds vs ∧ HR K H h ∧ Bw K H Qd Q ∧ M Θ ds h Qd
def KnownC (x : Str) (k kc n : Nat) (M : CT → DC) : Prop :=
  ∃ (f : Addr) (fd : FuncData) (ps : List Str), FnC P w K mg base k f fd ps (spC P w K mg base kc n M) ∧ mg x = some (.ref f) ∧ PySem.W.keepIn K (.ref f) = true ∧ Binds K fd ps []
end
section
variable {P : Program} {w : World} {K : PySem.W.Frag} {mg : Str → Option Value} {base : Heap}
theorem CloOk.later {k n : Nat} {f : Addr} {F : DC} {H0 H1 : Hp} {h0 h1 : Heap} (C : CloOk P w K mg base k n f F H0 h0) (x : TX K H0 H1) (y : Later H0 h0 H1 h1) : CloOk P w K mg base k n f F H1 h1 :=
  ⟨let ⟨o, u, fd, e, d⟩ := C.fn; ⟨o, u, fd, x.2 _ _ _ e, d⟩, fun A outer s Hs us vs Q E hr e0 x2 y2 => C.run A outer s Hs us vs Q E hr e0 (x.trans x2) (y.trans y2)⟩
theorem CloOk.at_ {k n : Nat} {f : Addr} {F : DC} {H0 : Hp} {h0 : Heap} (C : CloOk P w K mg base k n f F H0 h0) (hok : HOk P w H0 h0) : PySem.W.FnAt f h0 := by
  obtain ⟨o, u, fd, e, d⟩ := C.fn
  obtain ⟨g, _⟩ := hok f _ e
  obtain ⟨oc, od, dt, sl⟩ := o
  have d : dt = .func fd := d
  subst d
  exact ⟨oc, od, fd, sl, g⟩
theorem CloT.none {k : Nat} {H : Hp} {h : Heap} : CloT P w K mg base k (fun _ _ _ => False) H h := fun _ _ _ z => z.elim
/-- a def that is handed things to call -/
theorem okC {qn qual : Str} {st : Stmt} {f : Addr} {fd : FuncData} {N ps : List Str} {k kc m n : Nat} {b : CT → DS} (F : Fun K qn qual st f fd) (S : FnScope N ps (defScope st)) (hn : ps.length = n) (hm : N.length = m)
    (hbody : ∀ (cdv : Value) (A : Around) (outer : List Env) (s : Shared) (H : Hp) (E : XK) (Θ : CT), RoomG k (A.deeper (envOfC qual (defScope st) s.heap.objs.size f cdv)) → CloT P w K mg base kc Θ H s.heap → PySem.W.codeIn K cdv qual = true →
      ∃ t0, XSs (cxOf CX0 P w K mg base N qual (defScope st) f cdv A outer s H E).nox K (defBody st) t0 (b Θ)) : FnC P w K mg base (k + 1) f fd ps (spC P w K mg base kc n fun Θ => runD m (b Θ)) := by
  refine ⟨fun _ _ _ _ _ z => z.1.trans hn.symm, fun A outer s H args us vs Q E room e0 bind rel spec => ?_⟩
  obtain ⟨oc, od, kV, doc, pm, an, cdv, ct, osl, efd, look, hcode⟩ := F.ex
  subst efd
  obtain ⟨hl, Θ, ds, h0, Qd, hΘ, rds, hr0, bw, w1⟩ := spec
  have stay : ∀ b o, base.get? b = some o → s.heap.get? b = some o := fun b o q => (e0.bs b o q).1
  have inS : K.In s.heap := e0.mod.kin.keeps stay
  refine codeAny_call_function room.r.depth (inS _ _ look) rfl S.co S.gen rfl (PySem.W.codeRec_of inS hcode) (bind _ _ _ _ ?_)
  refine wpAny_newFunctionEnv_cells S.kind (fun y hy => ?_) fun env he s1 x1 => ?_
  · rcases S.par y.1 (List.of_mem_zip hy).1 with q | q
    · exact .inl q
    · exact .inr ⟨q, PySem.W.cellsFrom_some _ _ _ (.inl q)⟩
  · subst he
    have room2 : RoomG k (A.deeper (envOfC qual (defScope st) s.heap.objs.size f cdv)) := ⟨room.r.deeper _, room.g⟩
    obtain ⟨t0, xs⟩ := hbody cdv A outer s H E Θ room2 hΘ hcode
    have start := inv_start (CX := CX0) (E := E) S room.r.hd e0 (hl.trans hn.symm) rel x1
    refine ⟨(e0.mod.nolimit.keeps stay).keeps x1.toInCall.keep, codeAny_func (wpAny_mono (xs.p.nox.run [] s1 (L2.start N vs) H { nx := fun _ H' => Q .non H', rt := Q } start ?_) (fun fl s' hs => ?_) fun _ _ hs => hs)⟩
    · refine xs.l _ _ h0 H { nx := fun _ h => Qd .non h, rt := Qd } _ (rs_start rds) hr0 ⟨fun τ' σ' h' H' x2 _ hr1 w2 => bw _ _ _ _ x2 rv_non' hr1 w2, bw, fun _ _ _ _ _ _ _ w2 => w2.elim, fun _ _ _ _ _ _ _ w2 => w2.elim⟩ ?_
      rw [hm]
      exact w1
    · have q := body_end hs
      cases fl with
      | ret u => exact q
      | next => exact q
      | brk => exact q.elim
      | cont => exact q.elim
theorem knownC_of {x qual : Str} {st : Stmt} {f : Addr} {fd : FuncData} {ps : List Str} {k kc n : Nat} {M : CT → DC} (F : Fun K x qual st f fd) (hm : mg x = some (.ref f)) (G : FnC P w K mg base k f fd ps (spC P w K mg base kc n M)) (b : Binds K fd ps []) :
    KnownC P w K mg base x k kc n M := ⟨f, fd, ps, G, hm, F.kp, b⟩
end

/-! ### x(..), x a name of the def -/
def dCallV (Θ : CT) (i : Nat) (a : DA) : DE := fun τ h Q => ∃ f n F, ld τ i = some (.loc f) ∧ Θ f n F ∧ a τ h fun ds h1 => ds.length = n ∧ F ds h1 Q
def tCallV (K : PySem.W.Frag) (Θ : CT) (i : Nat) (ta : TA) : TE := fun σ H Q => ∃ f n F, σ[i]? = some (some (.ref f)) ∧ Θ f n F ∧ ta σ H fun vs H1 => spD K n F vs H1 Q E0
section
variable {X : Cx} {K : PySem.W.Frag} {x : Str} {k kc n i : Nat} {p pos : Pos} {e : Expr} {es : List Expr} {ta : TA} {da : DA} {Θ : CT}
theorem xcallV (hr : RoomG k X.A) (hΘ : CloT X.prog X.w X.K X.mg X.base k Θ X.H_0 X.s_0.heap) (ha : XA X K (e :: es) ta da) (hN : X.N[i]? = some x := by rfl) (hv : Vis X.env.scope x := by first | exact .inl rfl | exact .inr (.inl rfl) | exact .inr (.inr rfl)) (hex : X.ex = [] := by rfl) (hK : X.K = K := by rfl)
    (hdb : (x == ("__debug__" : Str)) = false := by decide) (hcd : (x == ("__classdict__" : Str)) = false := by decide) (he : starEach (e :: es) X.env = (false, eval e X.env) :: starEach es X.env := by rfl) (hpl : (backTo pos (starEach es X.env)).any (·.1) = false := by rfl) :
    XE X K (.Call (.Name x p) (e :: es) [] pos) (tCallV X.K Θ i ta) (dCallV Θ i da) := by
  subst hK
  refine ⟨⟨fun pins s σ H Q I ⟨f, n, F, hs, hF, ht⟩ => ?_⟩, fun τ σ h H Q Q0 rs hr0 bw ⟨f, n, F, e1, hF, w1⟩ => ?_⟩
  · refine wpAny_Call_Name_kw (thn ((pe_var (pos := p) hN hv hdb hcd).run pins s σ H (fun v H1 => v = .ref f ∧ H1 = H) I ⟨.ref f, hs, rfl, rfl⟩) fun u s1 ⟨v, H1, I1, r1, ev, eH⟩ => ?_)
    subst ev
    subst eH
    cases (show u = Value.ref f from r1)
    have C := hΘ f n F hF
    refine PySem.W.callWith_F ((C.later (tx_inv I1) (later_inv I1 hex)).at_ I1.hok) (thn (ha.p.run pos pins s1 σ _ _ I1 ht) fun us s2 ⟨vs, H2, I2, r2, hsp⟩ => ?_) he hpl
    have C2 := C.later (tx_inv I2) (later_inv I2 hex)
    refine ⟨C2.at_ I2.hok, wpAny_call (codeAny_mono (C2.run X.A X.stack s2 H2 us vs Q E0 hr I2.env0 TX.refl (fun b o q n => ⟨⟨o.slots, q⟩, n⟩) r2 hsp) fun res s3 hq => ?_)⟩
    match res, hq with
    | .ok (.ret u), hq => exact I2.after hq
  · obtain ⟨v, s0, r0⟩ := rs.2 i _ (ld_get e1)
    rw [rv_loc r0] at s0
    exact ⟨f, n, F, s0, hF, ha.l τ σ h H _ _ rs hr0 (fun ds h1 vs H1 x1 r1 hr1 ⟨hl, w2⟩ => ⟨by rw [← r1.length]; exact hl, ds, h1, Q, r1, hr1, bw.mono x1, w2⟩) w1⟩
end
end DL

set_option Elab.async false
set_option linter.all false
set_option maxRecDepth 100000
set_option maxHeartbeats 2000000
/-! DL38: lambdas made. -/
namespace DL
open PySem PySem.Spec PyProof.Rows L2
/-- the lambda's names: parameters pn, captured names, globals -/
structure LamS2 (sc scope : Scope) (N pn : List Str) : Prop where
  kind : scope.kind = .function
  co : scope.isCoroutine = false
  gen : scope.isGenerator = false
  own : ∀ y ∈ scope.names, y.2 ≠ .cell ∧ (y.2 = .local → y.1 ∈ pn)
  free : ∀ y ∈ scope.names, y.2 = .free → sc.names.lookup y.1 = some .cell ∨ sc.names.lookup y.1 = some .free
  par : ∀ x ∈ pn, scope.names.lookup x = some .local
  nd : pn.Nodup
  dis : ∀ x ∈ pn, x ∉ N
def lamS2B (sc scope : Scope) (N pn : List Str) : Bool :=
  decide (scope.kind = .function) && (!scope.isCoroutine) && (!scope.isGenerator) && (scope.names.all fun y => (!decide (y.2 = .cell)) && (!decide (y.2 = .local) || pn.contains y.1) && (!decide (y.2 = .free) || decide (sc.names.lookup y.1 = some .cell) || decide (sc.names.lookup y.1 = some .free))) &&
    (pn.all fun x => decide (scope.names.lookup x = some .local) && !N.contains x) && decide pn.Nodup
theorem lamS2_by {sc scope : Scope} {N pn : List Str} (h : lamS2B sc scope N pn = true) : LamS2 sc scope N pn := by
  unfold lamS2B at h
  simp only [Bool.and_eq_true, Bool.or_eq_true, Bool.not_eq_true', decide_eq_true_eq, decide_eq_false_iff_not, List.all_eq_true, List.contains_iff_mem, Bool.eq_false_iff, ne_eq] at h
  obtain ⟨⟨⟨⟨⟨a1, a2⟩, a3⟩, a4⟩, a5⟩, a6⟩ := h
  refine ⟨a1, by simpa using a2, by simpa using a3, fun y hy => ⟨(a4 y hy).1.1, fun z => ?_⟩, fun y hy z => ?_, fun x hx => (a5 x hx).1, a6, fun x hx => (a5 x hx).2⟩
  · rcases (a4 y hy).1.2 with k | k
    · exact absurd z k
    · exact k
  · rcases (a4 y hy).2 with (k | k) | k
    · exact absurd z k
    · exact .inl k
    · exact .inr k
theorem LamS2.has {X : Cx} {scope : Scope} {pn : List Str} (L : LamS2 X.env.scope scope X.N pn) (ok : X.Ok) : ∀ y ∈ scope.names, y.2 = .free → ∃ c, X.env.cells.lookup y.1 = some c := fun y hy e => by
  rcases L.free y hy e with k | k
  · exact ok.has _ (.inl k)
  · exact ok.has _ (.inr k)
abbrev LamP := Obj → Addr → Str → Prop
/-- what a lambda of the context X is -/
def lamP (X : Cx) (params : Arguments) (body : Expr) (scope : Scope) : LamP := fun o c q => q = X.env.qual ++ "<lambda>" ∧ ∃ pm ctv, o = PySem.W.kla_obj "<lambda>" q params body scope (cloFrom X.env.cells scope.names []) pm c ctv
structure LamTo (H H1 : Hp) (P p : Addr) (q : Str) (φ : LamP) : Prop where
  old : ∀ b, b ≠ P → H b ≠ none → H1 b = H b
  tab : TabF H1 P q
  new : ∃ o c oc ψ, H1 p = some (.frz o (.ext ψ)) ∧ H1 c = some (.frz oc (LamX.CodeO c q)) ∧ φ o c q
def dLam (P : Addr) (q : Str) (φ : LamP) : DE := fun _ h Q => h P = some (.tab q) ∧ ∀ p, h p = none → Q (.loc p) (hupd h p (.clo φ))
def tLam (P : Addr) (q : Str) (φ : LamP) : TE := fun _ H Q => TabF H P q ∧ ∀ p H1, H p = none → LamTo H H1 P p q φ → Q (.ref p) H1
theorem LamTo.tx {K : PySem.W.Frag} {H H1 : Hp} {P p : Addr} {q : Str} {φ : LamP} (T : TabF H P q) (L : LamTo H H1 P p q φ) : TX K H H1 := by
  obtain ⟨ps, hP, _⟩ := T
  refine ⟨fun a vs e => ?_, fun a o u e => ?_⟩
  · rw [L.old a (fun z => by rw [z, hP] at e; cases e) (by rw [e]; simp)]; exact e
  · rw [L.old a (fun z => by rw [z, hP] at e; cases e) (by rw [e]; simp)]; exact e
theorem le_lam {K : PySem.W.Frag} {P : Addr} {q : Str} {φ : LamP} : LE K (tLam P q φ) (dLam P q φ) := fun τ σ h H Q Q0 rs hr bw ⟨e, w⟩ => by
  have T : TabF H P q := hr _ _ e
  refine ⟨T, fun p H1 hp L => ?_⟩
  have x : TX K H H1 := L.tx T
  refine bw _ _ _ _ x rv_loc' (fun a o ea => ?_) (w p (hr.free hp))
  by_cases z : a = p
  · subst z
    rw [hupd_same] at ea
    cases ea
    obtain ⟨ob, c, oc, ψ, h1, h2, h3⟩ := L.new
    exact ⟨ob, c, oc, q, ψ, h1, h2, h3⟩
  · rw [hupd_ne z] at ea
    by_cases y : a = P
    · subst y
      rw [e] at ea
      cases ea
      exact L.tab
    · refine ro_keep x (L.old a y fun n => ?_) (hr a o ea)
      rw [hr.free n] at ea
      cases ea
theorem lam_obj {P : Program} {w : World} {H : Hp} {h : Heap} {p : Addr} {o : Obj} (e : h.get? p = some o) : ObjOk P w H h p (.frz o (.ext fun h => h.get? p = some o)) := ⟨e, e, ⟨_, e⟩, fun _ _ z k => k _ z⟩
theorem code_obj {P : Program} {w : World} {H : Hp} {h : Heap} {c : Addr} {o : Obj} {vs : Array Value} {q : Str} {t : Tok} (e : h.get? c = some o) (d : o.data = .fields vs) (v : vs[1]? = some (.str q t)) : ObjOk P w H h c (.frz o (LamX.CodeO c q)) :=
  ⟨e, ⟨o, vs, t, e, d, v⟩, ⟨_, e⟩, fun _ _ ⟨o2, vs2, t2, a, b, c⟩ k => ⟨o2, vs2, t2, k _ a, b, c⟩⟩
section
variable {X : Cx} {K : PySem.W.Frag} {c P : Addr} {q : Str} {φ : LamP} {params : Arguments} {body : Expr} {scope : Scope} {pos : Pos}
theorem pe_lam (TB : LamX.TabB X.base X.mg c P) (hcode : X.env.code = .ref c) (hq : X.env.qual ++ "<lambda>" = q) (hφ : φ = lamP X params body scope) (hdef : defaultsOf params X.env = ([], []))
    {pn : List Str} (Ls : LamS2 X.env.scope scope X.N pn) : PE X (.Lambda params body scope pos) (tLam P q φ) := by
  subst hq hφ
  refine ⟨fun pins s σ H Q I ⟨T, w⟩ => ?_⟩
  have T0 := T
  obtain ⟨ps, hP, ht, ha⟩ := T
  have gP : s.heap.get? P = some (PySem.W.tabObj ps) := I.hok P _ hP
  have bP := TB.bm.keeps I.bk
  have gl := I.ok.mod.glob.keeps I.bk
  have cl := closure_ok (Ls.has I.ok)
  refine PySem.W.kla_eval hdef ?_
  cases hco : codeAmong pos ps.toList with
  | some cv =>
    obtain ⟨c', oc, ecv, hcf⟩ := ha pos cv hco
    subst ecv
    refine PySem.W.kla_makeFunctionHit cl I.ok.glob gl hcode (TB.code.keeps I.bk) gP ht hco bP fun ctv h' tk hx hsz => ?_
    have fr := I.hok.fresh hsz
    have J := I.laid (t' := tk) (fun b o e => Heap.get?_push_of_some _ (hx b o e)) hsz (lam_obj (Heap.get?_push_size h' (o := PySem.W.kla_obj "<lambda>" (X.env.qual ++ "<lambda>") params body scope (cloFrom X.env.cells scope.names []) ((X.mg "__name__").getD .none) c' ctv) rfl))
    refine ⟨.ref h'.objs.size, _, J, rfl, w _ _ fr ⟨fun b _ n => upd_ne fun z => n (by rw [z]; exact fr), ?_, ?_⟩⟩
    · exact TabF.mono (K := X.K) (tx_new fr) (upd_ne (ne_of_none hP fr)) T0
    · exact ⟨_, c', oc, _, upd_same, by rw [upd_ne (ne_of_none hcf fr)]; exact hcf, rfl, _, _, rfl⟩
  | none =>
    refine PySem.W.kla_makeFunction cl I.ok.glob gl hcode (TB.code.keeps I.bk) gP ht hco TB.gP bP fun c' ctv h' tk hx hge hlt hrec htb => ?_
    obtain ⟨c2, oc, vs, t, e2, hoc, hd, hv⟩ := hrec
    cases e2
    have hsz : s.heap.objs.size ≤ h'.objs.size := Nat.le_trans hge (Nat.le_of_lt hlt)
    have fc : H c' = none := I.hok.fresh hge
    have ff : H h'.objs.size = none := I.hok.fresh hsz
    have nPc : P ≠ c' := ne_of_none hP fc
    have nPf : P ≠ h'.objs.size := ne_of_none hP ff
    have ncf : c' ≠ h'.objs.size := Nat.ne_of_lt hlt
    have old : ∀ b, s.heap.objs.size > b → b ≠ c' ∧ b ≠ h'.objs.size := fun b z => ⟨by omega, by omega⟩
    generalize eO : PySem.W.kla_obj "<lambda>" (X.env.qual ++ "<lambda>") params body scope (cloFrom X.env.cells scope.names []) ((X.mg "__name__").getD .none) c' ctv = fo
    have gf : (h'.push fo).get? h'.objs.size = some fo := Heap.get?_push_size h' (by rw [← eO]; rfl)
    generalize eH : upd (upd (upd H P (.tbl (ps ++ #[rawInt pos.line, rawInt pos.col, .ref c']))) c' (.frz oc (LamX.CodeO c' (X.env.qual ++ "<lambda>")))) h'.objs.size (.frz fo (.ext fun h => h.get? h'.objs.size = some fo)) = H1
    have atO : ∀ b, b ≠ P → H b ≠ none → H1 b = H b := fun b n1 n2 => by
      have h1 : b ≠ c' := fun z => n2 (by rw [z]; exact fc)
      have h2 : b ≠ h'.objs.size := fun z => n2 (by rw [z]; exact ff)
      rw [← eH, upd_ne h2, upd_ne h1, upd_ne n1]
    have atP : H1 P = some (.tbl (ps ++ #[rawInt pos.line, rawInt pos.col, .ref c'])) := by rw [← eH, upd_ne nPf, upd_ne nPc, upd_same]
    have atc : H1 c' = some (.frz oc (LamX.CodeO c' (X.env.qual ++ "<lambda>"))) := by rw [← eH, upd_ne ncf, upd_same]
    have atf : H1 h'.objs.size = some (.frz fo (.ext fun h => h.get? h'.objs.size = some fo)) := by rw [← eH, upd_same]
    have atN : ∀ b, b ≠ P → b ≠ c' → b ≠ h'.objs.size → H1 b = H b := fun b n1 n2 n3 => by rw [← eH, upd_ne n3, upd_ne n2, upd_ne n1]
    have neP : ∀ b, H b = none → b ≠ P := fun b e z => by rw [z, hP] at e; cases e
    have kp : ∀ b o, b ≠ P → s.heap.get? b = some o → (h'.push fo).get? b = some o := fun b o n e => Heap.get?_push_of_some _ (hx b o n e)
    have J : Inv X pins σ H1 { s with heap := h'.push fo, toks := tk } := by
      refine I.step (g' := s.gens) (d' := s.drawn) (t' := tk) (ch := []) (fun b hb => nomatch hb) (fun b o _ _ _ e n => kp b o (neP b n) e) (fun b o _ _ _ e n => ⟨o.slots, kp b o (neP b n) e⟩) (fun b o _ e n => ?_) (fun b o _ e => ?_) (fun b xs e => ?_) (fun b o u e => ?_) (fun b qs e => ?_) (fun m hn => ?_) (fun b u e => ?_) I.bare
      · have := old b (Heap.lt_size e)
        rw [atN b (neP b n) this.1 this.2]; exact n
      · by_cases z : b = P
        · exact ⟨_, by rw [z]; exact Heap.get?_push_of_some _ htb⟩
        · exact ⟨o, kp b o z e⟩
      · rw [atO b (fun z => by rw [z, hP] at e; cases e) (by rw [e]; simp)]; exact e
      · rw [atO b (fun z => by rw [z, hP] at e; cases e) (by rw [e]; simp)]; exact e
      · by_cases z : b = P
        · rw [z, hP] at e
          cases e
          exact ⟨_, by rw [z]; exact atP⟩
        · exact ⟨#[], by rw [atO b z (by rw [e]; simp), e, Array.append_empty]⟩
      · obtain ⟨ob, es, ep, ho, r⟩ := hn
        exact ⟨ob, es, ep, kp _ ob (neP _ I.free) ho, r⟩
      · by_cases z1 : b = h'.objs.size
        · subst z1
          rw [atf] at e
          cases e
          exact lam_obj gf
        · by_cases z2 : b = c'
          · subst z2
            rw [atc] at e
            cases e
            exact code_obj (Heap.get?_push_of_some _ hoc) hd hv
          · by_cases z3 : b = P
            · subst z3
              rw [atP] at e
              cases e
              exact Heap.get?_push_of_some _ htb
            · rw [atN b z3 z2 z1] at e
              have own : ∀ d, H d = some (.own b) → d ≠ P := fun d q z => by rw [z, hP] at q; cases q
              exact (I.hok b u e).stay (fun d v hd q => kp d v (hd.elim (fun y => by rw [y]; exact z3) (own d)) q) (fun d q => by rw [atO d (own d q) (by rw [q]; simp)]; exact q)
                (fun d xs q => by rw [atO d (fun z => by rw [z, hP] at q; cases q) (by rw [q]; simp)]; exact q)
    refine ⟨.ref h'.objs.size, H1, J, rfl, w _ _ ff ⟨atO, ⟨_, atP, ?_, fun p' cv hcv => ?_⟩, fo, c', oc, _, atf, atc, rfl, _, _, eO.symm⟩⟩
    · rw [show (ps ++ #[rawInt pos.line, rawInt pos.col, .ref c']).toList = ps.toList ++ [rawInt pos.line, rawInt pos.col, .ref c'] by simp]
      exact PySem.TriplesOk_snoc _ _ _ _ ht
    · rw [show (ps ++ #[rawInt pos.line, rawInt pos.col, .ref c']).toList = ps.toList ++ [rawInt pos.line, rawInt pos.col, .ref c'] by simp] at hcv
      rcases LamX.among_app _ ht hcv with z | z
      · obtain ⟨c0, oc0, e1, e2⟩ := ha p' cv z
        exact ⟨c0, oc0, e1, by rw [atO c0 (fun y => by rw [y, hP] at e2; cases e2) (by rw [e2]; simp)]; exact e2⟩
      · exact ⟨c', oc, z, atc⟩
theorem xlam {pn : List Str} (TB : LamX.TabB X.base X.mg c P) (hcode : X.env.code = .ref c) (hq : X.env.qual ++ "<lambda>" = q) (hφ : φ = lamP X params body scope) (Ls : LamS2 X.env.scope scope X.N pn) (hdef : defaultsOf params X.env = ([], []) := by rfl) :
    XE X K (.Lambda params body scope pos) (tLam P q φ) (dLam P q φ) := ⟨pe_lam TB hcode hq hφ hdef Ls, le_lam⟩
end
end DL

set_option Elab.async false
set_option linter.all false
set_option maxRecDepth 100000
set_option maxHeartbeats 2000000
/-! DL39: lambdas called. -/
namespace DL
open PySem PySem.Spec PyProof.Rows L2
def lamCx2 (X : Cx) (A : Around) (outer : List Env) (s : Shared) (H : Hp) (scope : Scope) (f c' : Addr) (pn : List Str) : Cx :=
  { X with A := A.deeper (LamX.lamEnv X scope s.heap.objs.size f c'), N := X.N ++ pn, s_0 := s, H_0 := H, env := LamX.lamEnv X scope s.heap.objs.size f c', outer := outer, stack := LamX.lamEnv X scope s.heap.objs.size f c' :: outer, ex := [], fn := fun _ => false, calm := true, pn := [], xe := fun _ _ => False }
theorem zip_look {x : Str} : ∀ {pn : List Str} {us : List Value} {j : Nat}, pn.Nodup → pn[j]? = some x → ∀ u, us[j]? = some u → (pn.zip us).reverse.lookup x = some u := fun {pn us j} nd hj u hu => by
  have hm : (x, u) ∈ pn.zip us := by
    rw [List.mem_iff_getElem?]
    exact ⟨j, by rw [List.getElem?_zip_eq_some]; exact ⟨hj, hu⟩⟩
  obtain ⟨w, hw⟩ := mem_lookup (List.mem_reverse.mpr hm)
  have hw2 := List.mem_reverse.mp (PySem.mem_of_lookup hw)
  obtain ⟨i, hi⟩ := List.mem_iff_getElem?.mp hw2
  rw [List.getElem?_zip_eq_some] at hi
  have e : i = j := nodup_ix nd hi.1 hj
  subst e
  have e2 : some w = some u := hi.2.symm.trans hu
  rw [hw, e2]
section
variable {X : Cx} {pins : List (Addr × Obj)} {σ : L2.St} {H HZ : Hp} {s s1 : Shared}
theorem lam_start3 {A : Around} {outer : List Env} {scope : Scope} {pn : List Str} {f c' : Addr} {h₁ : Heap} {tk : Nat} {us : List Value} {vs : List V} (I : Inv X pins σ H s) (L : LamS2 X.env.scope scope X.N pn) (e0 : Env0 X.prog X.w X.K X.mg X.base A outer s1 HZ) (hd : A.handled = none)
    (lat : Later H s.heap HZ s1.heap) (hl : us.length = pn.length) (rel : Vals vs us) (hns : h₁.Ns s1.heap.objs.size fun y => (pn.zip us).reverse.lookup y) (kp : ∀ b o, s1.heap.get? b = some o → h₁.get? b = some o) :
    Inv (lamCx2 X A outer s1 HZ scope f c' pn) [] (σ ++ vs.map some) HZ { s1 with heap := h₁, toks := tk } := by
  have has := L.has I.ok
  have up : ∀ {y c}, (cloFrom X.env.cells scope.names []).lookup y = some c → X.env.cells.lookup y = some c := fun {y c} e => by
    rcases cloFrom_mem (PySem.mem_of_lookup e) with z | ⟨z1, z2⟩
    · cases z
    · obtain ⟨c1, z3⟩ := has _ z1 rfl
      have z3 : X.env.cells.lookup y = some c1 := z3
      rw [z3] at z2
      rw [z3, z2]; rfl
  have cellK : ∀ {c : Addr} {v : Option Value}, H c = none → s.heap.IsCell c v → h₁.IsCell c v ∧ HZ c = none := fun n z => by
    obtain ⟨⟨o, ho, dd⟩, n2⟩ := lat.cell n z
    exact ⟨⟨o, kp _ _ ho, dd⟩, n2⟩
  have vl : vs.length = pn.length := rel.length.trans hl
  have noex : ∀ b : Addr, b ∉ (lamCx2 X A outer s1 HZ scope f c' pn).ex := fun b z => nomatch (show b ∈ ([] : List Addr) from z)
  refine ⟨⟨e0.mod, L.kind, rfl, rfl, Nat.le_refl _, fun y z c e1 e2 => I.ok.inj y z c (up e1) (up e2), fun y hy => ?_, fun y c z _ => ?_, fun _ => hd, Around.frames_deeper e0.frames, .inr ⟨rfl, rfl⟩, fun b z => absurd z (noex b), e0.bs, e0.bsz, fun b _ _ => noex b,
      fun b z => absurd z (noex b), e0.funs, e0.frf⟩, rfl, e0.bare, Un.kept kp, ⟨_, hns, fun i y v e1 e2 e3 => ?_⟩, fun y c e => ?_, e0.hok.fresh (Nat.le_refl _), fun y c e => ?_, fun q hq => absurd (show q ∈ ([] : List (Addr × Obj)) from hq) (by simp), e0.hok.kept kp, ?_⟩
  · have hy : scope.names.lookup y = some .cell ∨ scope.names.lookup y = some .free := hy
    rcases hy with hy | hy
    · exact absurd rfl (L.own _ (PySem.mem_of_lookup hy)).1
    · exact mem_lookup (cloFrom_has (cells := X.env.cells) (acc := []) (PySem.mem_of_lookup hy))
  · cases (show false = true from z)
  · have e1 : (X.N ++ pn)[i]? = some y := e1
    have e3 : Vis scope y := e3
    by_cases hi : i < X.N.length
    · rw [List.getElem?_append_left hi] at e1
      rw [List.getElem?_append_left (by rw [I.len]; exact hi)] at e2
      have inN : y ∈ X.N := List.mem_of_getElem? e1
      rcases e3 with k | k | k
      · exact absurd inN (L.dis _ ((L.own _ (PySem.mem_of_lookup k)).2 rfl))
      · exact absurd rfl (L.own _ (PySem.mem_of_lookup k)).1
      · obtain ⟨m, hn, hlk⟩ := I.loc
        have vis : Vis X.env.scope y := (L.free _ (PySem.mem_of_lookup k) rfl).elim (fun z => .inr (.inl z)) (fun z => .inr (.inr z))
        obtain ⟨u, r, q⟩ := hlk i y v e1 e2 vis
        obtain ⟨c2, h2⟩ := mem_lookup (cloFrom_has (cells := X.env.cells) (acc := []) (PySem.mem_of_lookup k))
        refine ⟨u, r, .inr ⟨.inr k, c2, h2, ?_⟩⟩
        have c1 := up h2
        rcases q with ⟨k', _⟩ | ⟨_, c3, e', z⟩
        · have k' : X.env.scope.names.lookup y = some .local := k'
          rcases L.free _ (PySem.mem_of_lookup k) rfl with k2 | k2 <;> rw [show X.env.scope.names.lookup y = _ from k2] at k' <;> cases k'
        · rw [c1] at e'
          cases e'
          exact (cellK (I.freeC y _ c1) z).1
    · have hi : X.N.length ≤ i := Nat.le_of_not_lt hi
      rw [List.getElem?_append_right hi] at e1
      rw [List.getElem?_append_right (by rw [I.len]; exact hi), I.len, List.getElem?_map] at e2
      obtain ⟨v', ev, ev2⟩ := Option.map_eq_some_iff.mp e2
      cases ev2
      obtain ⟨u, hu, ru⟩ := rel.get ev
      refine ⟨u, ru, .inl ⟨L.par _ (List.mem_of_getElem? e1), zip_look L.nd e1 u hu⟩⟩
  · obtain ⟨v, z⟩ := I.cell y c (up e)
    exact ⟨v, (cellK (I.freeC y c (up e)) z).1⟩
  · obtain ⟨v, z⟩ := I.cell y c (up e)
    exact (cellK (I.freeC y c (up e)) z).2
  · show (σ ++ vs.map some).length = (X.N ++ pn).length
    rw [List.length_append, List.length_append, List.length_map, I.len, vl]
end
/-- the lambda's reading: the names of the def behind, then the parameters -/
def lamF (de : DE) (n : Nat) (τ : DSt) : DC := fun ds h Q => ds.length = n ∧ de (τ ++ ds.map some) h Q
theorem rs_app {K : PySem.W.Frag} {H : Hp} {τ : DSt} {σ : L2.St} {ds : List D} {vs : List V} (r : RS K H τ σ) (q : RVs K H ds vs) : RS K H (τ ++ ds.map some) (σ ++ vs.map some) := by
  refine ⟨by rw [List.length_append, List.length_append, List.length_map, List.length_map, r.1, q.length], fun i d e => ?_⟩
  by_cases hi : i < τ.length
  · rw [List.getElem?_append_left hi] at e
    obtain ⟨v, h1, h2⟩ := r.2 i d e
    exact ⟨v, by rw [List.getElem?_append_left (by rw [← r.1]; exact hi)]; exact h1, h2⟩
  · have hi : τ.length ≤ i := Nat.le_of_not_lt hi
    rw [List.getElem?_append_right hi, List.getElem?_map] at e
    obtain ⟨d', e1, e2⟩ := Option.map_eq_some_iff.mp e
    cases e2
    obtain ⟨v, h1, h2⟩ := q.get e1
    exact ⟨v, by rw [List.getElem?_append_right (by rw [← r.1]; exact hi), List.getElem?_map, ← r.1, h1]; rfl, h2⟩
theorem clo_lam {X : Cx} {pins : List (Addr × Obj)} {σ : L2.St} {H : Hp} {s : Shared} {τ : DSt} {scope : Scope} {params : Arguments} {body : Expr} {pn : List Str} {n k kc : Nat} {p c' : Addr} {o oc : Obj} {q : Str} {ψ : Heap → Prop} {de : DE} {Θ : CT}
    (I : Inv X pins σ H s) (hex : X.ex = []) (L : LamS2 X.env.scope scope X.N pn) (rs : RS X.K H τ σ) (hp : H p = some (.frz o (.ext ψ))) (hc : H c' = some (.frz oc (LamX.CodeO c' q))) (hφ : lamP X params body scope o c' q) (hn : pn.length = n)
    (hbind : ∀ (q : Str) (cl : List (Str × Addr)) (pm cv ctv : Value) (us : List Value), us.length = n → bindArgs (PySem.W.kla_fn "<lambda>" q params body scope cl pm cv ctv) ⟨us, []⟩ = pure (pn.zip us))
    (hΘ : CloT X.prog X.w X.K X.mg X.base kc Θ X.H_0 X.s_0.heap)
    (hbody : ∀ (A : Around) (outer : List Env) (s : Shared) (H : Hp) (f c' : Addr), RoomG k (A.deeper (LamX.lamEnv X scope s.heap.objs.size f c')) → CloT X.prog X.w X.K X.mg X.base kc Θ H s.heap → ∃ t0, XE (lamCx2 X A outer s H scope f c' pn) X.K body t0 de) :
    CloOk X.prog X.w X.K X.mg X.base (k + 1) n p (lamF de n τ) H s.heap := by
  obtain ⟨rfl, pm, ctv, eo⟩ := hφ
  subst eo
  refine ⟨⟨_, _, _, hp, rfl⟩, fun A outer s1 HZ us vs Q E room e0 tx lat rel ⟨hl, ds, h0, Qd, rds, hr0, bw, hlen, w⟩ => ?_⟩
  have of1 := (e0.hok p _ (tx.2 _ _ _ hp)).1
  obtain ⟨_, ⟨oc2, vs2, t2, hoc, hdc, hvc⟩, _, _⟩ := e0.hok c' _ (tx.2 _ _ _ hc)
  have lim : s1.heap.NoLimit := e0.mod.nolimit.keeps fun b o q => (e0.bs b o q).1
  have ul : us.length = n := rel.length.symm.trans hl
  refine PySem.W.kla_callFunE room.r.depth of1 rfl L.co L.gen rfl ⟨c', oc2, vs2, t2, rfl, hoc, hdc, hvc⟩ ?_
  rw [hbind _ _ _ _ _ us ul]
  refine wpAny_pure (wpAny_newFunctionEnv (fun y hy => (L.own y hy).1) (fun y hy => L.par _ (List.of_mem_zip hy).1) (fun h₁ hns hsb => ⟨lim.fresh _ hsb, ?_⟩) L.kind)
  show codeAny _ _ (.expr body (LamX.lamEnv X scope s1.heap.objs.size p c')) _ _
  have kp : ∀ b o, s1.heap.get? b = some o → h₁.get? b = some o := fun b o e => hsb.extBut b o (Nat.ne_of_lt (Heap.lt_size e)) (Heap.get?_push_of_some _ e)
  obtain ⟨t0, xe⟩ := hbody A outer s1 HZ p c' ⟨room.r.deeper _, room.g⟩ (fun f m F hf => (((hΘ f m F hf).later (tx_inv I) (later_inv I hex)).later tx lat))
  have J := lam_start3 (tk := s1.toks + (pn.zip us).length) (f := p) (c' := c') I L e0 room.r.hd lat (ul.trans hn.symm) rel hns kp
  refine PySem.W.kla_codeExpr (wpAny_mono (xe.p.run [] _ (σ ++ vs.map some) HZ Q J (xe.l (τ ++ ds.map some) _ h0 HZ Qd Q (rs_app (rs.mono tx) rds) hr0 bw w)) (fun v s' hq => ?_) fun e s' z => z.elim)
  obtain ⟨w', H', J', rv, qq⟩ := hq
  exact ⟨w', H', J'.os, J'.bare, J'.base, J'.hok, rv, qq⟩

/-! ### f(.., lambda ..: ..) -/
abbrev LamD := Nat × LamP × Nat × DE
def thL (Θ : CT) (τ : DSt) (ds : List D) : List LamD → CT
  | [] => Θ
  | l :: r => fun f m F => (ds[l.1]? = some (.loc f) ∧ m = l.2.2.1 ∧ F = lamF l.2.2.2 l.2.2.1 τ) ∨ thL Θ τ ds r f m F
def lamsAt (ds : List D) (h : DH) : List LamD → Prop
  | [] => True
  | l :: r => (∃ p, ds[l.1]? = some (.loc p) ∧ h p = some (.clo l.2.1)) ∧ lamsAt ds h r
def dCallL (n : Nat) (M : CT → DC) (Θ : CT) (ls : List LamD) (a : DA) : DE := fun τ h Q => a τ h fun ds h1 => ds.length = n ∧ lamsAt ds h1 ls ∧ M (thL Θ τ ds ls) ds h1 Q
def tCallLm (K : PySem.W.Frag) (n : Nat) (M : CT → DC) (Θ : CT) (ls : List LamD) (ta : TA) : TE := fun σ H Q => ta σ H fun vs H1 => vs.length = n ∧ ∃ τ ds h Qd, RS K H1 τ σ ∧ RVs K H1 ds vs ∧ HR K H1 h ∧ Bw K H1 Qd Q ∧ lamsAt ds h ls ∧ M (thL Θ τ ds ls) ds h Qd
def LamOk (X : Cx) (kc : Nat) (l : LamD) : Prop := ∀ (pins : List (Addr × Obj)) (σ : L2.St) (H : Hp) (s : Shared) (τ : DSt) (p c : Addr) (o oc : Obj) (q : Str) (ψ : Heap → Prop), Inv X pins σ H s → RS X.K H τ σ → H p = some (.frz o (.ext ψ)) → H c = some (.frz oc (LamX.CodeO c q)) → l.2.1 o c q →
  CloOk X.prog X.w X.K X.mg X.base kc l.2.2.1 p (lamF l.2.2.2 l.2.2.1 τ) H s.heap
def LamsOk (X : Cx) (kc : Nat) : List LamD → Prop
  | [] => True
  | l :: r => LamOk X kc l ∧ LamsOk X kc r
theorem lamOk {X : Cx} {scope : Scope} {params : Arguments} {body : Expr} {pn : List Str} {i n k kd : Nat} {de : DE} {Θ : CT} {φ : LamP} (hφ : φ = lamP X params body scope) (L : LamS2 X.env.scope scope X.N pn)
    (hΘ : CloT X.prog X.w X.K X.mg X.base kd Θ X.H_0 X.s_0.heap)
    (hbody : ∀ (A : Around) (outer : List Env) (s : Shared) (H : Hp) (f c' : Addr), RoomG k (A.deeper (LamX.lamEnv X scope s.heap.objs.size f c')) → CloT X.prog X.w X.K X.mg X.base kd Θ H s.heap → ∃ t0, XE (lamCx2 X A outer s H scope f c' pn) X.K body t0 de)
    (hbind : ∀ (q : Str) (cl : List (Str × Addr)) (pm cv ctv : Value) (us : List Value), us.length = n → bindArgs (PySem.W.kla_fn "<lambda>" q params body scope cl pm cv ctv) ⟨us, []⟩ = pure (pn.zip us))
    (hn : pn.length = n := by rfl) (hex : X.ex = [] := by rfl) : LamOk X (k + 1) (i, φ, n, de) := fun pins σ H s τ p c o oc q ψ I rs hp hc hl => by
  subst hφ
  exact clo_lam I hex L rs hp hc hl hn hbind hΘ hbody
theorem CloOk.mono {P : Program} {w : World} {K : PySem.W.Frag} {mg : Str → Option Value} {base : Heap} {j k n : Nat} {f : Addr} {F : DC} {H0 : Hp} {h0 : Heap} (C : CloOk P w K mg base j n f F H0 h0) (h : j ≤ k) : CloOk P w K mg base k n f F H0 h0 :=
  ⟨C.fn, fun A outer s Hs us vs Q E hr => C.run A outer s Hs us vs Q E (hr.mono h)⟩
theorem LamOk.mono {X : Cx} {j k : Nat} {l : LamD} (L : LamOk X j l) (h : j ≤ k) : LamOk X k l := fun pins σ H s τ p c o oc q ψ I rs hp hc hl => (L pins σ H s τ p c o oc q ψ I rs hp hc hl).mono h
theorem CloT.mono {P : Program} {w : World} {K : PySem.W.Frag} {mg : Str → Option Value} {base : Heap} {j k : Nat} {Θ : CT} {H : Hp} {h : Heap} (C : CloT P w K mg base j Θ H h) (l : j ≤ k) : CloT P w K mg base k Θ H h := fun f n F z => (C f n F z).mono l
section
variable {X : Cx} {K : PySem.W.Frag} {x : Str} {k kc n : Nat} {M : CT → DC} {p pos : Pos} {e : Expr} {es : List Expr} {ta : TA} {da : DA} {Θ : CT} {ls : List LamD}
theorem th_ok {pins : List (Addr × Obj)} {σ : L2.St} {H : Hp} {s : Shared} {τ : DSt} {ds : List D} {h : DH} (I : Inv X pins σ H s) (hex : X.ex = []) (hΘ : CloT X.prog X.w X.K X.mg X.base kc Θ X.H_0 X.s_0.heap) (rs : RS X.K H τ σ) (hr : HR X.K H h) :
    ∀ {ls : List LamD}, LamsOk X kc ls → lamsAt ds h ls → CloT X.prog X.w X.K X.mg X.base kc (thL Θ τ ds ls) H s.heap
  | [], _, _ => fun f m F hf => (hΘ f m F hf).later (tx_inv I) (later_inv I hex)
  | l :: r, ⟨l1, l2⟩, ⟨⟨p, e1, e2⟩, a2⟩ => fun f m F hf => by
    rcases hf with ⟨e3, em, eF⟩ | hf
    · rw [e1] at e3
      cases e3
      subst em eF
      obtain ⟨o, c, oc, q, ψ, g1, g2, g3⟩ := hr _ _ e2
      exact l1 pins σ H s τ p c o oc q ψ I rs g1 g2 g3
    · exact th_ok I hex hΘ rs hr l2 a2 f m F hf
theorem xcallL (G : KnownC X.prog X.w X.K X.mg X.base x k kc n M) (hr : RoomG k X.A) (hΘ : CloT X.prog X.w X.K X.mg X.base kc Θ X.H_0 X.s_0.heap) (hl : LamsOk X kc ls) (ha : XA X K (e :: es) ta da) (hg : Gl X x := by rfl) (hex : X.ex = [] := by rfl) (hK : X.K = K := by rfl)
    (hdb : (x == ("__debug__" : Str)) = false := by decide) (he : starEach (e :: es) X.env = (false, eval e X.env) :: starEach es X.env := by rfl) (hpl : (backTo pos (starEach es X.env)).any (·.1) = false := by rfl) :
    XE X K (.Call (.Name x p) (e :: es) [] pos) (tCallLm X.K n M Θ ls ta) (dCallL n M Θ ls da) := by
  subst hK
  obtain ⟨f, fd, ps, F, hm, hk, hb⟩ := G
  refine ⟨⟨fun pins s σ H Q I h => ?_⟩, fun τ σ h H Q Q0 rs hr0 bw w => ha.l τ σ h H _ _ rs hr0 (fun ds h1 vs H1 x1 r1 hr1 ⟨w1, w2, w3⟩ => ⟨by rw [← r1.length]; exact w1, τ, ds, h1, Q, rs.mono x1, r1, hr1, bw.mono x1, w2, w3⟩) w⟩
  refine wpAny_Call_Name_kw (ld_glob I hg hm ?_ hdb)
  refine PySem.W.callWith_K (h₀ := X.base) I.ok.mod.kin hk (thn (ha.p.run pos pins s σ H _ I h) fun us s1 ⟨vs, H1, I1, r, hlv, τ, ds, h1, Qd, rs, rds, hr1, bw, at_, w⟩ => ⟨I1.kIn, ?_⟩) he hpl
  have sp : spC X.prog X.w X.K X.mg X.base kc n M s1.heap vs H1 Q E0 := ⟨hlv, _, ds, h1, Qd, th_ok I1 hex hΘ rs hr1 hl at_, rds, hr1, bw, w⟩
  have lens : us.length = ps.length := r.length.symm.trans (F.len _ _ _ _ _ sp)
  have bind := hb s1 us I1.kIn (by rw [List.append_nil]; exact lens)
  rw [List.append_nil] at bind
  refine wpAny_call (codeAny_mono (F.run X.A X.stack s1 H1 ⟨us, []⟩ us vs Q E0 hr I1.env0 bind r sp) fun res s' hq => ?_)
  match res, hq with
  | .ok (.ret u), hq => exact I1.after hq
end

theorem xcallL0 {X : Cx} {K : PySem.W.Frag} {x : Str} {k kc n : Nat} {M : CT → DC} {p pos : Pos} {e : Expr} {es : List Expr} {ta : TA} {da : DA} {Θ : CT} (G : KnownC X.prog X.w X.K X.mg X.base x k kc n M) (hr : RoomG k X.A) (hΘ : CloT X.prog X.w X.K X.mg X.base kc Θ X.H_0 X.s_0.heap) (ha : XA X K (e :: es) ta da) (hg : Gl X x := by rfl) (hex : X.ex = [] := by rfl) (hK : X.K = K := by rfl)
    (hdb : (x == ("__debug__" : Str)) = false := by decide) (he : starEach (e :: es) X.env = (false, eval e X.env) :: starEach es X.env := by rfl) (hpl : (backTo pos (starEach es X.env)).any (·.1) = false := by rfl) :
    XE X K (.Call (.Name x p) (e :: es) [] pos) (tCallLm X.K n M Θ [] ta) (dCallL n M Θ [] da) := xcallL G hr hΘ trivial ha hg hex hK hdb he hpl
theorem xcallL1 {X : Cx} {K : PySem.W.Frag} {x : Str} {k kc n : Nat} {M : CT → DC} {p pos : Pos} {e : Expr} {es : List Expr} {ta : TA} {da : DA} {Θ : CT} {l1 : LamD} (G : KnownC X.prog X.w X.K X.mg X.base x k kc n M) (hr : RoomG k X.A) (hΘ : CloT X.prog X.w X.K X.mg X.base kc Θ X.H_0 X.s_0.heap) (h1 : LamOk X kc l1) (ha : XA X K (e :: es) ta da) (hg : Gl X x := by rfl) (hex : X.ex = [] := by rfl) (hK : X.K = K := by rfl)
    (hdb : (x == ("__debug__" : Str)) = false := by decide) (he : starEach (e :: es) X.env = (false, eval e X.env) :: starEach es X.env := by rfl) (hpl : (backTo pos (starEach es X.env)).any (·.1) = false := by rfl) :
    XE X K (.Call (.Name x p) (e :: es) [] pos) (tCallLm X.K n M Θ [l1] ta) (dCallL n M Θ [l1] da) := xcallL G hr hΘ ⟨h1, trivial⟩ ha hg hex hK hdb he hpl
theorem xcallL2 {X : Cx} {K : PySem.W.Frag} {x : Str} {k kc n : Nat} {M : CT → DC} {p pos : Pos} {e : Expr} {es : List Expr} {ta : TA} {da : DA} {Θ : CT} {l1 l2 : LamD} (G : KnownC X.prog X.w X.K X.mg X.base x k kc n M) (hr : RoomG k X.A) (hΘ : CloT X.prog X.w X.K X.mg X.base kc Θ X.H_0 X.s_0.heap) (h1 : LamOk X kc l1) (h2 : LamOk X kc l2) (ha : XA X K (e :: es) ta da) (hg : Gl X x := by rfl) (hex : X.ex = [] := by rfl) (hK : X.K = K := by rfl)
    (hdb : (x == ("__debug__" : Str)) = false := by decide) (he : starEach (e :: es) X.env = (false, eval e X.env) :: starEach es X.env := by rfl) (hpl : (backTo pos (starEach es X.env)).any (·.1) = false := by rfl) :
    XE X K (.Call (.Name x p) (e :: es) [] pos) (tCallLm X.K n M Θ [l1, l2] ta) (dCallL n M Θ [l1, l2] da) := xcallL G hr hΘ ⟨h1, h2, trivial⟩ ha hg hex hK hdb he hpl

/-! ### defs in which lambdas are made -/
structure FunAt (K : PySem.W.Frag) (x qual : Str) (st : Stmt) (f : Addr) (fd : FuncData) (c : Addr) : Prop where
  ex : ∃ (oc : Value) (od : Option Addr) (kV doc pm : Value) (an : Option Addr) (ct : Value) (osl : Array (Option Value)),
    fd = PySem.W.fnOf x qual (defArgs st) (defBody st) (defScope st) .none kV doc pm an (.ref c) ct ∧ K.lookup f = some ⟨oc, od, .func fd, osl⟩ ∧ PySem.W.codeIn K (.ref c) qual = true
  kp : PySem.W.keepIn K (.ref f) = true
theorem FunAt.fun {K : PySem.W.Frag} {x qual : Str} {st : Stmt} {f : Addr} {fd : FuncData} {c : Addr} (F : FunAt K x qual st f fd c) : Fun K x qual st f fd :=
  ⟨let ⟨oc, od, kV, doc, pm, an, ct, osl, e, l, h⟩ := F.ex; ⟨oc, od, kV, doc, pm, an, _, ct, osl, e, l, h⟩, F.kp⟩
section
variable {P : Program} {w : World} {K : PySem.W.Frag} {mg : Str → Option Value} {base : Heap} {qn qual : Str} {st : Stmt} {f : Addr} {fd : FuncData} {N ps : List Str} {k kc m n : Nat}
/-- .. that is handed things to call, too -/
theorem okCL {c : Addr} {α : Type} {b : CT → α → DS} (F : FunAt K qn qual st f fd c) (S : FnScope N ps (defScope st)) (hn : ps.length = n) (hm : N.length = m)
    (hbody : ∀ (A : Around) (outer : List Env) (s : Shared) (H : Hp) (E : XK) (Θ : CT), RoomG k (A.deeper (envOfC qual (defScope st) s.heap.objs.size f (.ref c))) → CloT P w K mg base kc Θ H s.heap →
      ∃ L t0, XSs (cxOf CX0 P w K mg base N qual (defScope st) f (.ref c) A outer s H E).nox K (defBody st) t0 (b Θ L)) : FnC P w K mg base (k + 1) f fd ps (spC P w K mg base kc n fun Θ ds h Q => ∀ L, runD m (b Θ L) ds h Q) := by
  refine ⟨fun _ _ _ _ _ z => z.1.trans hn.symm, fun A outer s H args us vs Q E room e0 bind rel spec => ?_⟩
  obtain ⟨oc, od, kV, doc, pm, an, ct, osl, efd, look, hcode⟩ := F.ex
  subst efd
  obtain ⟨hl, Θ, ds, h0, Qd, hΘ, rds, hr0, bw, w1⟩ := spec
  have stay : ∀ b o, base.get? b = some o → s.heap.get? b = some o := fun b o q => (e0.bs b o q).1
  have inS : K.In s.heap := e0.mod.kin.keeps stay
  refine codeAny_call_function room.r.depth (inS _ _ look) rfl S.co S.gen rfl (PySem.W.codeRec_of inS hcode) (bind _ _ _ _ ?_)
  refine wpAny_newFunctionEnv_cells S.kind (fun y hy => ?_) fun env he s1 x1 => ?_
  · rcases S.par y.1 (List.of_mem_zip hy).1 with q | q
    · exact .inl q
    · exact .inr ⟨q, PySem.W.cellsFrom_some _ _ _ (.inl q)⟩
  · subst he
    obtain ⟨L, t0, xs⟩ := hbody A outer s H E Θ ⟨room.r.deeper _, room.g⟩ hΘ
    have start := inv_start (CX := CX0) (E := E) S room.r.hd e0 (hl.trans hn.symm) rel x1
    refine ⟨(e0.mod.nolimit.keeps stay).keeps x1.toInCall.keep, codeAny_func (wpAny_mono (xs.p.nox.run [] s1 (L2.start N vs) H { nx := fun _ H' => Q .non H', rt := Q } start ?_) (fun fl s' hs => ?_) fun _ _ hs => hs)⟩
    · refine xs.l _ _ h0 H { nx := fun _ h => Qd .non h, rt := Qd } _ (rs_start rds) hr0 ⟨fun τ' σ' h' H' x2 _ hr1 w2 => bw _ _ _ _ x2 rv_non' hr1 w2, bw, fun _ _ _ _ _ _ _ w2 => w2.elim, fun _ _ _ _ _ _ _ w2 => w2.elim⟩ ?_
      rw [hm]
      exact w1 L
    · have q := body_end hs
      cases fl with
      | ret u => exact q
      | next => exact q
      | brk => exact q.elim
      | cont => exact q.elim
/-- a def that is handed nothing to call -/
theorem okDL {c : Addr} {α : Type} {b : α → DS} (F : FunAt K qn qual st f fd c) (S : FnScope N ps (defScope st)) (hn : ps.length = n) (hm : N.length = m)
    (hbody : ∀ (A : Around) (outer : List Env) (s : Shared) (H : Hp) (E : XK), RoomG k (A.deeper (envOfC qual (defScope st) s.heap.objs.size f (.ref c))) →
      ∃ L t0, XSs (cxOf CX0 P w K mg base N qual (defScope st) f (.ref c) A outer s H E).nox K (defBody st) t0 (b L)) : FnG P w K mg base CX0 (k + 1) f fd ps (spD K n fun ds h Q => ∀ L, runD m (b L) ds h Q) := by
  have G := okCL (P := P) (w := w) (mg := mg) (base := base) (kc := 0) (b := fun _ L => b L) F S hn hm (fun A outer s H E Θ hr _ => hbody A outer s H E hr)
  exact ⟨fun vs H Q E z => z.1.trans hn.symm, fun A outer s H args us vs Q E room e0 bind rel ⟨hl, ds, h0, Qd, rds, hr0, bw, w1⟩ => G.run A outer s H args us vs Q E room e0 bind rel ⟨hl, fun _ _ _ => False, ds, h0, Qd, CloT.none, rds, hr0, bw, w1⟩⟩
end
end DL

set_option Elab.async false
set_option linter.all false
set_option maxRecDepth 100000
set_option maxHeartbeats 2000000
/-! DL40: the end of a law's row where lambdas are made. -/
namespace DL
open PySem PySem.Spec PyProof.Rows L2
def th0 : CT := fun _ _ _ => False
/-- nothing is tracked but the locked script and the empty tables -/
structure OnlyTabs (H : Hp) (a : Addr) (Ps : List Addr) : Prop where
  at_ : ∀ b, b ≠ a → b ∉ Ps → H b = none
  is_ : H a = none ∨ ∃ o xs, H a = some (.frz o (.lst xs))
  tb : ∀ P ∈ Ps, H P = some (.tbl #[])
structure TabFacts (K : PySem.W.Frag) (h : Heap) (t : Addr × Addr) : Prop where
  hd : PySem.W.CodeHd h t.1 t.2
  ob : h.get? t.2 = some (PySem.W.tabObj #[])
  no : K.lookup t.2 = none
theorem funAt_mk {K : PySem.W.Frag} {x qual : Str} {st : Stmt} {f c : Addr} {oc : Value} {od : Option Addr} {kV doc pm : Value} {an : Option Addr} {ct : Value} {osl : Array (Option Value)}
    (l : K.lookup f = some ⟨oc, od, .func (PySem.W.fnOf x qual (defArgs st) (defBody st) (defScope st) .none kV doc pm an (.ref c) ct), osl⟩) (hc : PySem.W.codeIn K (.ref c) qual = true) (hk : PySem.W.keepIn K (.ref f) = true) :
    FunAt K x qual st f (PySem.W.fnOf x qual (defArgs st) (defBody st) (defScope st) .none kV doc pm an (.ref c) ct) c := ⟨⟨oc, od, kV, doc, pm, an, ct, osl, rfl, l, hc⟩, hk⟩
section
variable {P : Program} {w : World} {K : PySem.W.Frag} {mg mb : Str → Option Value} {k : Nat} {fa a : Addr} {cs : List (Addr × Addr)} {fd : FuncData} {x : Str} {sp : Sp} {s : Shared} {vs : List Value} {ns : List Int}
theorem law_atT (KX : K.In s.heap) (hns : s.heap.Ns mainGlobals mg) (hb : s.heap.Ns builtinsNs mb) (hbb : ∀ x : Str, x ≠ "__name__" → mb x = bootBuiltins x) (hlim : s.heap.NoLimit) (hg : s.gens = #[])
    (hm : ∃ (bm : Addr) (ob : Obj), mg "__builtins__" = some (.ref bm) ∧ bm ≠ builtinsNs ∧ s.heap.get? bm = some ob ∧ ob.cls = .type "module" ∧ ob.dict = some builtinsNs ∧ ob.data = .plain)
    (hT : ∀ t ∈ cs, TabFacts K s.heap t) (ha : s.heap.get? a = some { cls := .type "list", data := .seq vs.toArray }) (hi : IntsAre vs ns) (hl : ns.length ≤ sizeLine) (hr : RoomG k callerA)
    (F : ∀ base : Heap, K.In base → base.Ns mainGlobals mg → (∀ t ∈ cs, LamX.TabB base mg t.1 t.2) → FnG P w K mg base CX0 k fa fd [x] sp) (hbind : ∀ (s : Shared) (u : Value), BindsTo s fd ⟨[u], []⟩ [(x, u)])
    (hsp : ∀ H : Hp, (∀ t ∈ cs, H t.2 = some (.tbl #[])) → SqF K H a (ns.map V.int) → sp [.ref a] H (fun v _ => v = .bl true) E0) :
    codeAny (model P w) callerA (.call (.ref fa) ⟨[.ref a], []⟩) (fun r s' => r = .ok (.ret (.bool true)) ∧ OldK s.heap s'.heap ∧ s'.os = s.os ∧ AllBare s'.gens) s := by
  have vals := vals_ints hi
  have tabAt : ∀ b, b ∈ cs.map (·.2) → s.heap.get? b = some (PySem.W.tabObj #[]) ∧ K.lookup b = none := fun b hb => by
    obtain ⟨t, ht, rfl⟩ := List.mem_map.mp hb
    exact ⟨(hT t ht).ob, (hT t ht).no⟩
  have na : a ∉ cs.map (·.2) := fun z => by
    have q := (tabAt a z).1
    rw [ha] at q
    exact nomatch (show Data.seq vs.toArray _ = Data.fields #[] from congrArg Obj.data (Option.some.inj q))
  have run : ∀ H : Hp, OnlyTabs H a (cs.map (·.2)) → (H a ≠ none → K.lookup a = none) → HOk P w H s.heap → SqF K H a (ns.map V.int) →
      codeAny (model P w) callerA (.call (.ref fa) ⟨[.ref a], []⟩) (fun r s' => r = .ok (.ret (.bool true)) ∧ OldK s.heap s'.heap ∧ s'.os = s.os ∧ AllBare s'.gens) s := by
    intro H on hK ok sq
    have untracked : ∀ {b : Addr} {o : Obj}, s.heap.get? b = some o → (∀ vs n, o.data ≠ .seq vs n) → o.data ≠ .fields #[] → H b = none := fun {b o} e h1 h2 => by
      by_cases z : b = a
      · rw [z, ha] at e
        cases e
        exact absurd rfl (h1 _ _)
      · by_cases y : b ∈ cs.map (·.2)
        · rw [(tabAt b y).1] at e
          cases e
          exact absurd rfl h2
        · exact on.at_ b z y
    have plain : ∀ {b : Addr} {o : Obj}, s.heap.get? b = some o → (∀ vs n, o.data ≠ .seq vs n) → o.data ≠ .fields #[] → (hidT s.heap H).get? b = some o := fun e h1 h2 => hidT_get e (untracked e h1 h2)
    have ns' : ∀ {b : Addr} {m : Str → Option Value}, s.heap.Ns b m → (hidT s.heap H).Ns b m := fun {b m} ⟨o, es, ep, e, d, r⟩ => ⟨o, es, ep, plain e (fun vs n z => by rw [d] at z; cases z) (fun z => by rw [d] at z; cases z), d, r⟩
    have kin : K.In (hidT s.heap H) := fun b o e => hidT_get (KX b o e) (by
      by_cases z : b = a
      · subst z
        cases q : H b with
        | none => rfl
        | some u => rw [hK (by rw [q]; simp)] at e; cases e
      · by_cases y : b ∈ cs.map (·.2)
        · rw [(tabAt b y).2] at e; cases e
        · exact on.at_ b z y)
    have e0 : Env0 P w K mg (hidT s.heap H) callerA [] s H := ⟨rfl, ⟨kin, ns' hns, ⟨mb, ns' hb, hbb⟩, let ⟨mc, h1, h2⟩ := hlim; ⟨mc, ns' h1, h2⟩⟩, fun b o e => of_hidT e, Nat.le_of_eq (hidT_size _ _), trivial, (fun b hb => nomatch hb), ok, .of_eq hg⟩
    have TB : ∀ t ∈ cs, LamX.TabB (hidT s.heap H) mg t.1 t.2 := fun t ht => by
      have T := hT t ht
      have gnt : mainGlobals ≠ t.2 := fun z => by
        obtain ⟨o, es, ep, e, d, _⟩ := hns
        rw [z, T.ob] at e
        cases e
        cases d
      refine ⟨?_, ?_, gnt⟩
      · obtain ⟨o, us, file, tf, flags, tg, inF, text, tt, e1, r1, r2, r3, rest⟩ := T.hd
        refine ⟨o, us, file, tf, flags, tg, inF, text, tt, plain e1 (fun vs n z => ?_) (fun z => ?_), r1, r2, r3, rest⟩
        · rw [r2] at z; cases z
        · rw [r2] at z
          have z : us = #[] := Data.fields.inj z
          rw [z] at r3
          simp at r3
      · obtain ⟨bm, ob, b1, b2, b3, b4, b5, b6⟩ := hm
        refine ⟨bm, ob, b1, b2, fun z => ?_, fun z => ?_, plain b3 (fun vs n z => ?_) (fun z => ?_), b4, b5, b6⟩
        · obtain ⟨o, es, ep, e, d, _⟩ := hns
          rw [z, e] at b3
          cases b3
          rw [d] at b6
          cases b6
        · rw [z, T.ob] at b3
          cases b3
          cases b6
        · rw [b6] at z; cases z
        · rw [b6] at z; cases z
    refine codeAny_mono ((F _ e0.mod.kin e0.mod.glob TB).run callerA [] s H ⟨[.ref a], []⟩ [.ref a] [.ref a] _ _ hr e0 (hbind s (.ref a)) (.cons rfl .nil) (hsp H (fun t ht => on.tb _ (List.mem_map.mpr ⟨t, ht, rfl⟩)) sq)) fun r s' q => ?_
    match r, q with
    | .ok (.ret u), ⟨v, H', os, bare, un, ok', rv, ev⟩ =>
      have ev : v = .bl true := ev
      subst ev
      have eu : u = Value.bool true := rv
      subst eu
      have kept : ∀ b o, b ∉ cs.map (·.2) → s.heap.get? b = some o → s'.heap.get? b = some o := fun b o nb e => by
        cases hH : H b with
        | none => exact un.keep b o e hH (fun z => (nomatch z)) (fun z => (nomatch z))
        | some u =>
          have hba : b = a := Classical.byContradiction fun z => by rw [on.at_ b z nb] at hH; cases hH
          subst hba
          rcases on.is_ with z | ⟨ob, xs, z⟩
          · rw [z] at hH; cases hH
          · have e1 := (ok b _ z).1
            have e2 := (ok' b _ (un.frzs b ob _ z)).1
            rw [e] at e1
            rw [e1]; exact e2
      have grown : ∀ t ∈ cs, ∃ more : Array Value, s'.heap.get? t.2 = some (PySem.W.tabObj more) := fun t ht => by
        obtain ⟨more, z⟩ := un.tbls t.2 #[] (on.tb _ (List.mem_map.mpr ⟨t, ht, rfl⟩))
        exact ⟨_, ok' t.2 _ z⟩
      refine ⟨rfl, ⟨fun b o e => ?_, fun b o e => ?_⟩, os, bare⟩
      · by_cases y : b ∈ cs.map (·.2)
        · obtain ⟨t, ht, rfl⟩ := List.mem_map.mp y
          obtain ⟨more, g⟩ := grown t ht
          have T := hT t ht
          rw [T.ob] at e
          cases e
          exact .inr (.inl ⟨(T.hd.tab T.ob).isCodeTable, rfl, #[], more, rfl, by rw [Array.empty_append]; exact g⟩)
        · exact .inl (kept b o y e)
      · by_cases y : b ∈ cs.map (·.2)
        · obtain ⟨t, ht, rfl⟩ := List.mem_map.mp y
          obtain ⟨more, g⟩ := grown t ht
          exact ⟨_, g⟩
        · exact ⟨o, kept b o y e⟩
  cases hk : K.lookup a with
  | some o =>
    have e := KX a o hk
    rw [ha] at e
    cases e
    refine run (fun b => if b ∈ cs.map (·.2) then some (.tbl #[]) else none) ⟨fun b _ y => if_neg y, .inl (if_neg na), fun P hP => if_pos hP⟩ (fun z => absurd (if_neg na) z) (fun b u z => ?_) (.inr ⟨_, vs.toArray, _, hk, rfl, rfl, rfl, by rw [List.size_toArray, hi.length]; exact hl, by simpa using vals⟩)
    by_cases y : b ∈ cs.map (·.2)
    · have z := (if_pos y).symm.trans z
      cases z
      exact (tabAt b y).1
    · have z := (if_neg y).symm.trans z
      cases z
  | none =>
    refine run (fun b => if b = a then some (.frz { cls := .type "list", data := .seq vs.toArray } (.lst (ns.map V.int))) else if b ∈ cs.map (·.2) then some (.tbl #[]) else none)
      ⟨fun b z y => (if_neg z).trans (if_neg y), .inr ⟨_, _, if_pos rfl⟩, fun P hP => (if_neg (fun z => na (by rw [← z]; exact hP))).trans (if_pos hP)⟩ (fun _ => hk) (fun b u z => ?_) (.inl ⟨_, if_pos rfl⟩)
    by_cases hba : b = a
    · subst hba
      have z := (if_pos rfl).symm.trans z
      cases z
      exact ⟨ha, by rw [List.length_map]; exact hl, vs, _, vals, ha⟩
    · have z := (if_neg hba).symm.trans z
      by_cases y : b ∈ cs.map (·.2)
      · have z := (if_pos y).symm.trans z
        cases z
        exact (tabAt b y).1
      · have z := (if_neg y).symm.trans z
        cases z
end
def tabOf (o : Obj) : Option Addr := match o.data with
  | .fields vs => (match (vs[11]? : Option Value) with
    | some (.ref P) => some P
    | _ => none)
  | _ => none
theorem tabIn_of {K : PySem.W.Frag} {x : Str} {f c P : Addr} {oc : Value} {od : Option Addr} {fd : FuncData} {sl : Array (Option Value)} {o : Obj} (a : PySem.W.nsIn K mainGlobals x = some (some (.ref f))) (l : K.lookup f = some ⟨oc, od, .func fd, sl⟩) (hc : fd.code = .ref c) (lc : K.lookup c = some o) (hv : tabOf o = some P) : PySem.W.tabIn K x = some (c, P) := by
  unfold PySem.W.tabIn
  rw [a]
  dsimp only
  rw [l]
  dsimp only
  rw [hc]
  dsimp only
  rw [lc]
  obtain ⟨u, v, d, w⟩ := o
  unfold tabOf at hv
  cases d with
  | fields vs =>
    dsimp only at hv ⊢
    cases e : vs[11]? with
    | none => rw [e] at hv; cases hv
    | some z =>
      rw [e] at hv
      cases z with
      | ref q => cases hv; rfl
      | _ => cases hv
  | _ => cases hv
/-- the tree heap at the law's start: the tables, by the names of what is made of them -/
def tabH : List (Addr × Addr) → List Str → DH
  | t :: r, q :: qs => hupd (tabH r qs) t.2 (.tab q)
  | _, _ => fun _ => none
theorem tabH_at {K : PySem.W.Frag} {H : Hp} : ∀ {cs : List (Addr × Addr)} {qs : List Str}, (∀ t ∈ cs, H t.2 = some (.tbl #[])) → HR K H (tabH cs qs)
  | [], _, _ => fun a o e => by unfold tabH at e; cases e
  | _ :: _, [], _ => fun a o e => by unfold tabH at e; cases e
  | t :: r, q :: qs, h => fun a o e => by
    unfold tabH at e
    by_cases z : a = t.2
    · rw [z, hupd_same] at e
      cases e
      rw [z]
      refine ⟨#[], h t (List.mem_cons_self ..), trivial, fun pos cv hc => ?_⟩
      have hc : codeAmong pos [] = some cv := hc
      simp [codeAmong] at hc
    · rw [hupd_ne z] at e
      exact tabH_at (fun t' ht' => h t' (List.mem_cons_of_mem _ ht')) a o e
/-- a law's row, where lambdas are made in defs of the names xs -/
theorem walkT {l : PySem.W.OpenLaw} {n k m : Nat} {q : Program} {loose : List Str} {XP : (Str → Option Value) → Heap → Prop} {YP : World → Heap → Prop} {d : DefRec} {K : Params → PySem.W.Frag} {x : Str} {b : CTab → DS} {qs : List Str} {tabs : CTab → List (Addr × Addr)}
    (hn : l.most = some n) (hn2 : n ≤ sizeLine) (hdf : d.params.defaults = []) (hr : RoomG k callerA) (hY : ∀ (w : World) (h : Heap), YP w h → (K w.params).In h)
    (F : ∀ (w : World) (mg : Str → Option Value) (fa : Addr) (h : Heap), (K w.params).In h → h.Ns mainGlobals mg → mg d.name = some (.ref fa) →
      ∃ (fd : FuncData) (T : CTab), (∀ t ∈ tabs T, (K w.params).lookup t.2 = none ∧ ∃ (x : Str) (d : DefRec), (recsOf q).find? (fun e => e.name == x) = some d ∧ PySem.W.tabIn (K w.params) x = some (t.1, t.2)) ∧ ((tabs T).map (·.2)).Nodup ∧ (∀ (s : Shared) (u : Value), BindsTo s fd ⟨[u], []⟩ [(x, u)]) ∧
        ∀ base : Heap, (K w.params).In base → base.Ns mainGlobals mg → (∀ t ∈ tabs T, LamX.TabB base mg t.1 t.2) → FnG l.prog w (K w.params) mg base CX0 k fa fd [x] (spD (K w.params) 1 (runD m (b T))))
    (law : ∀ (T : CTab) (ns : List Int), ns.length ≤ n → ((tabs T).map (·.2)).Nodup → runD m (b T) [.fls (ns.map D.int)] (tabH (tabs T) qs) fun d _ => d = .bl true) :
    PySem.W.WalkO q loose XP YP l.row.toRowW d [] (fun f vs => PySem.call f vs) := by
  refine Att.attach_call hn hdf fun w s₀ s₁ mg mb fa o pm cd doc a vs ns G Y ho hd hcd hmg hobj hints hlen hg => ?_
  have KX := hY w _ Y
  obtain ⟨fd, T, ht, nd, hb, hF⟩ := F w mg fa _ KX G.T.g hmg
  refine law_atT KX G.T.g G.T.b G.T.builtins G.T.nolimit hg G.T.bmain (fun t hm => ?_) hobj hints (Nat.le_trans hlen hn2) hr hF hb fun H tb sq => ?_
  · obtain ⟨no, x, dd, h1, h2⟩ := ht t hm
    have y := PySem.W.tab_of G.T KX h1 h2
    exact ⟨y.1, y.2, no⟩
  · exact ⟨rfl, [.fls (ns.map D.int)], tabH (tabs T) qs, _, rvs_cons' (rv_fls' sq (rvs_ints _)) rvs_nil', tabH_at tb, fun d h' v H' _ rv _ e => by subst e; exact rv_bl rv, law T ns hlen nd⟩
end DL

set_option Elab.async false
set_option linter.all false
set_option maxRecDepth 100000
set_option maxHeartbeats 2000000
/-! DL41: chains of three comparisons. -/
namespace DL
open PySem PySem.Spec PyProof.Rows L2
/-- a op1 b op2 c op3 d -/
def tChain3 (r r' r'' : R2) (ta tb tc td : TE) : TE := fun σ H Q => ta σ H fun x H1 => tb σ H1 fun y H2 => r x y H2 fun z H3 => ∃ k, z = .bl k ∧
  (if k = true then tc σ H3 fun w' H4 => r' y w' H4 fun z2 H5 => ∃ k2, z2 = .bl k2 ∧ (if k2 = true then td σ H5 fun u' H6 => r'' w' u' H6 Q else Q (.bl false) H5) else Q (.bl false) H3)
def dChain3 (q q' q'' : DR2) (a b c d : DE) : DE := fun τ h Q => a τ h fun x h1 => b τ h1 fun y h2 => q x y h2 fun z h3 => match z with
  | .bl k => kIte k (c τ h3 fun w h4 => q' y w h4 fun z2 h5 => match z2 with
      | .bl k2 => kIte k2 (d τ h5 fun u h6 => q'' w u h6 Q) (Q (.bl false) h5)
      | _ => False) (Q (.bl false) h3)
  | _ => False
section
variable {X : Cx} {K : PySem.W.Frag} {a b c d : Expr} {ta tb tc td : TE} {da db dc dd : DE} {pos : Pos}
theorem pe_chain3 {op op' op'' : CmpOp} {r r' r'' : R2} (ho : OpR X (compareOp op) r) (ho' : OpR X (compareOp op') r') (ho'' : OpR X (compareOp op'') r'') (ha : PE X a ta) (hb : PE X b tb) (hc : PE X c tc) (hd : PE X d td)
    (hm : lastMarks [op, op', op''] [b, c, d] = false := by with_unfolding_all rfl) : PE X (.Compare a [op, op', op''] [b, c, d] pos) (tChain3 r r' r'' ta tb tc td) := by
  refine ⟨fun pins s σ H Q I h => ?_⟩
  refine Compare_chain (thn (ha.run pins s σ H _ I h) fun v s1 ⟨x, H1, I1, r1, q1⟩ => chain_link (thn (hb.run pins s1 σ H1 _ I1 q1) fun u s2 ⟨y, H2, I2, r2, q2⟩ =>
    thn (ho pins s2 σ H2 x y v u _ I2 r1 r2 q2) fun d s3 ⟨z, H3, I3, r3, k, e, q3⟩ => ?_)) hm
  subst e
  cases r3
  refine wpAny_truthy_bool ?_
  cases k with
  | false => exact ite_ff ⟨.bl false, H3, I3, rfl, q3⟩
  | true =>
    refine ite_tt (chain_link (thn (hc.run pins s3 σ H3 _ I3 q3) fun w' s4 ⟨z', H4, I4, r4, q4⟩ => thn (ho' pins s4 σ H4 y z' u w' _ I4 r2 r4 q4) fun d' s5 ⟨z2, H5, I5, r5, k2, e2, q5⟩ => ?_))
    subst e2
    cases r5
    refine wpAny_truthy_bool ?_
    cases k2 with
    | false => exact ite_ff ⟨.bl false, H5, I5, rfl, q5⟩
    | true => exact ite_tt (chain_last (thn (hd.run pins s5 σ H5 _ I5 q5) fun w2 s6 ⟨z3, H6, I6, r6, q6⟩ => ho'' pins s6 σ H6 z' z3 w' w2 Q I6 r4 r6 q6))
theorem pt_chain3 {op op' op'' : CmpOp} {r r' r'' : R2} (ho : OpR X (compareOp op) r) (ho' : OpR X (compareOp op') r') (ho'' : OpR X (compareOp op'') r'') (ha : PE X a ta) (hb : PE X b tb) (hc : PE X c tc) (hd : PE X d td)
    (hm : lastMarks [op, op', op''] [b, c, d] = false := by with_unfolding_all rfl) : PT X (.Compare a [op, op', op''] [b, c, d] pos) (tTest (tChain3 r r' r'' ta tb tc td)) := by
  refine ⟨fun pins s σ H Q I h => ?_⟩
  refine isTrue_chain (thn (ha.run pins s σ H _ I h) fun v s1 ⟨x, H1, I1, r1, q1⟩ => test_link (thn (hb.run pins s1 σ H1 _ I1 q1) fun u s2 ⟨y, H2, I2, r2, q2⟩ =>
    thn (ho pins s2 σ H2 x y v u _ I2 r1 r2 q2) fun d s3 ⟨z, H3, I3, r3, k, e, q3⟩ => ?_)) hm
  subst e
  cases r3
  refine wpAny_truthy_bool ?_
  cases k with
  | false =>
    obtain ⟨k', e', q'⟩ := q3
    cases e'
    exact ite_ff ⟨H3, I3, q'⟩
  | true =>
    refine ite_tt (test_link (thn (hc.run pins s3 σ H3 _ I3 q3) fun w' s4 ⟨z', H4, I4, r4, q4⟩ => thn (ho' pins s4 σ H4 y z' u w' _ I4 r2 r4 q4) fun d' s5 ⟨z2, H5, I5, r5, k2, e2, q5⟩ => ?_))
    subst e2
    cases r5
    refine wpAny_truthy_bool ?_
    cases k2 with
    | false =>
      obtain ⟨k', e', q'⟩ := q5
      cases e'
      exact ite_ff ⟨H5, I5, q'⟩
    | true =>
      refine ite_tt (test_last (thn (hd.run pins s5 σ H5 _ I5 q5) fun w2 s6 ⟨z3, H6, I6, r6, q6⟩ => thn (ho'' pins s6 σ H6 z' z3 w' w2 _ I6 r4 r6 q6) fun d2 s7 ⟨z4, H7, I7, r7, k3, e3, q7⟩ => ?_))
      subst e3
      cases r7
      exact wpAny_truthy_bool ⟨H7, I7, q7⟩
theorem le_chain3 {r r' r'' : R2} {q q' q'' : DR2} (l1 : LR2 K r q) (l2 : LR2 K r' q') (l3 : LR2 K r'' q'') (la : LE K ta da) (lb : LE K tb db) (lc : LE K tc dc) (ld : LE K td dd) : LE K (tChain3 r r' r'' ta tb tc td) (dChain3 q q' q'' da db dc dd) := fun τ σ h H Q Q0 rs hr bw w =>
  la τ σ h H _ _ rs hr (fun x h1 v H1 x1 r1 hr1 w1 => lb τ σ h1 H1 _ _ (rs.mono x1) hr1 (fun y h2 u H2 x2 r2 hr2 w2 => l1 x y v u h2 H2 _ _ (RV.mono x2 _ _ r1) r2 hr2 (fun z h3 zv H3 x3 r3 hr3 w3 => by
    cases z with
    | bl k =>
      refine ⟨k, rv_bl r3, ?_⟩
      cases k with
      | true =>
        have w3 := kt w3
        exact lc τ σ h3 H3 _ _ (rs.mono (x1.trans (x2.trans x3))) hr3 (fun w4 h4 wv H4 x4 r4 hr4 w5 => l2 y w4 u wv h4 H4 _ _ (RV.mono (x3.trans x4) _ _ r2) r4 hr4 (fun z2 h5 zv2 H5 x5 r5 hr5 w6 => by
          cases z2 with
          | bl k2 =>
            refine ⟨k2, rv_bl r5, ?_⟩
            cases k2 with
            | true =>
              have w6 := kt w6
              exact ld τ σ h5 H5 _ _ (rs.mono (x1.trans (x2.trans (x3.trans (x4.trans x5))))) hr5 (fun w7 h6 wv2 H6 x6 r6 hr6 w8 => l3 w4 w7 wv wv2 h6 H6 Q Q0 (RV.mono (x5.trans x6) _ _ r4) r6 hr6 (bw.mono (x1.trans (x2.trans (x3.trans (x4.trans (x5.trans x6)))))) w8) w6
            | false => have w6 := kf w6; exact bw _ h5 _ H5 (x1.trans (x2.trans (x3.trans (x4.trans x5)))) rv_bl' hr5 w6
          | _ => exact w6.elim) w5) w3
      | false => have w3 := kf w3; exact bw _ h3 _ H3 (x1.trans (x2.trans x3)) rv_bl' hr3 w3
    | _ => exact w3.elim) w2) w1) w
theorem xchain3 {op op' op'' : CmpOp} {r r' r'' : R2} {q q' q'' : DR2} (o : OpR X (compareOp op) r ∧ LR2 K r q) (o' : OpR X (compareOp op') r' ∧ LR2 K r' q') (o'' : OpR X (compareOp op'') r'' ∧ LR2 K r'' q'') (ha : XE X K a ta da) (hb : XE X K b tb db) (hc : XE X K c tc dc) (hd : XE X K d td dd)
    (hm : lastMarks [op, op', op''] [b, c, d] = false := by with_unfolding_all rfl) : XE X K (.Compare a [op, op', op''] [b, c, d] pos) (tChain3 r r' r'' ta tb tc td) (dChain3 q q' q'' da db dc dd) := ⟨pe_chain3 o.1 o'.1 o''.1 ha.p hb.p hc.p hd.p hm, le_chain3 o.2 o'.2 o''.2 ha.l hb.l hc.l hd.l⟩
theorem xtchain3 {op op' op'' : CmpOp} {r r' r'' : R2} {q q' q'' : DR2} (o : OpR X (compareOp op) r ∧ LR2 K r q) (o' : OpR X (compareOp op') r' ∧ LR2 K r' q') (o'' : OpR X (compareOp op'') r'' ∧ LR2 K r'' q'') (ha : XE X K a ta da) (hb : XE X K b tb db) (hc : XE X K c tc dc) (hd : XE X K d td dd)
    (hm : lastMarks [op, op', op''] [b, c, d] = false := by with_unfolding_all rfl) : XT X K (.Compare a [op, op', op''] [b, c, d] pos) (tTest (tChain3 r r' r'' ta tb tc td)) (dTest (dChain3 q q' q'' da db dc dd)) := ⟨pt_chain3 o.1 o'.1 o''.1 ha.p hb.p hc.p hd.p hm, lt_test (le_chain3 o.2 o'.2 o''.2 ha.l hb.l hc.l hd.l)⟩
end
end DL

set_option Elab.async false
set_option linter.all false
set_option maxRecDepth 100000
set_option maxHeartbeats 4000000
/-! DL42: t * i, t a tuple that may be empty. -/
namespace DL
open PySem PySem.Spec PyProof.Rows L2
theorem tuple_mulE (l : Addr) (items : Array Value) (n : Nat) (dd : Option Addr) (sl : Array (Option Value)) (x : Int) (u : Tok) (c0 : (decide (x < -(2 ^ 63)) || decide (x ≥ 2 ^ 63)) = false) (c1 : (items.isEmpty || x == 1) = true) :
    Meets (Builtin.«tuple.__mul__» ⟨[.ref l, .int x u], []⟩) (fun _ R s => s.heap.get? l = some { cls := .type "tuple", dict := dd, data := .seq items n, slots := sl } ∧ R (.ok (.ret (Value.ref l))) s) :=
  .of_wp fun prog w A R s h => by
    obtain ⟨hp, g, d, tk, os⟩ := s
    obtain ⟨hl, h⟩ := h
    have f1 := AutoSeq1.idx_int
    wp_walk using wpAny_loadPart' hl
    repeat (first
      | (refine wpAny_ite_false (decide_eq_false (by rw [c0]; exact Bool.false_ne_true)) ?_; wp_walk using wpAny_loadPart' hl)
      | (refine wpAny_ite_true (decide_eq_true c1) ?_; wp_walk using wpAny_loadPart' hl)
      | (refine wpAny_ite_true (decide_eq_true (by rfl)) ?_; wp_walk using wpAny_loadPart' hl))
    exact ⟨_, rfl, h⟩
def rRepE (K : PySem.W.Frag) : R2 := fun x y H Q => ∃ l k, x = .ref l ∧ y = .int k ∧ SqT K H l [] ∧ 0 ≤ k ∧ k ≤ 1000 ∧ Q (.ref l) H
theorem op_repE {X : Cx} : OpR X (binaryOp .Mult) (rRepE X.K) := by
  intro pins s σ H x y v u Q I rx ry h
  obtain ⟨l, k, rfl, rfl, hT, k0, k1, q⟩ := h
  cases rx
  obtain ⟨t, rfl⟩ := ry
  obtain ⟨its, r, ⟨⟨cls, dd, data, sl⟩, ho, hc, n, hd⟩, hs⟩ := I.tuple hT
  simp only at hc hd
  subst hc hd
  have hn : its = [] := List.eq_nil_of_length_eq_zero r.length.symm
  subst hn
  have c1 : (([] : List Value).toArray.isEmpty || k == 1) = true := rfl
  have c0 : (decide (k < -(2 ^ 63)) || decide (k ≥ 2 ^ 63)) = false := by rw [decide_eq_false (by omega), decide_eq_false (by omega)]; rfl
  refine wpAny_binaryOp_repeat_ref (T := "tuple") (U := "int") (by decide) ⟨_, ho, rfl⟩ (fun s' => typeIs_int s' k t) noFill_tuple_mul F.fills_int_mul F.slot_int_rmul repeat_tuple F.slot_int_index.lookup
    (call_meets F.slot_int_rmul (typeIs_int s k t) F.entry_int_rmul (F.args_int_rmul_2 _ _) (int_rmul_tuple k t l [].toArray n dd sl)
      ⟨ho, rfl, ⟨_, ho, rfl⟩, call_meets F.slot_tuple_mul ⟨_, ho, rfl⟩ F.entry_tuple_mul (F.args_tuple_mul_2 _ _) (tuple_mulE l [].toArray n dd sl k t c0 c1) ⟨ho, ?_⟩⟩)
  exact ⟨.ref l, _, I, rfl, q⟩
def rRepX (K : PySem.W.Frag) : R2 := fun x y H Q => rRepT K x y H Q ∨ rRepE K x y H Q
def dMulX : DR2
  | .tup xs, .int k, h, Q => 2 ≤ k ∧ k ≤ 1000 ∧ xs.length ≤ 1000 ∧ Q (.tup (List.replicate k.toNat xs).flatten) h
  | _, _, _, _ => False
theorem rep_nil (k : Nat) : (List.replicate k ([] : List D)).flatten = [] := by
  induction k with
  | zero => rfl
  | succ k ih => rw [List.replicate_succ, List.flatten_cons, ih]; rfl
theorem q_mulX {X : Cx} {K : PySem.W.Frag} (hK : X.K = K := by rfl) : OpR X (binaryOp .Mult) (rRepX K) ∧ LR2 K (rRepX K) dMulX := by
  subst hK
  refine ⟨op_repT.or op_repE, fun d e x y h H Q Q0 r1 r2 hr bw w => ?_⟩
  cases d with
  | tup xs =>
    cases e with
    | int k =>
      obtain ⟨k0, k1, z, w1⟩ := w
      have r1' := r1
      obtain ⟨a, vs, e1, s, q⟩ := rv_tup r1
      have z1 := q.length
      cases xs with
      | nil =>
        rw [rep_nil] at w1
        have hv : vs = [] := List.eq_nil_of_length_eq_zero z1.symm
        subst hv
        subst e1
        exact .inr ⟨a, k, rfl, rv_int r2, .inl (.inl s), by omega, k1, bw _ h _ H TX.refl r1' hr w1⟩
      | cons d ds =>
        refine .inl ⟨a, k, vs, e1, rv_int r2, .inl (.inl s), fun e => ?_, k0, k1, by rw [← z1]; exact z, fun p hp => bw_tup hr bw hp (rvs_rep q _) w1⟩
        rw [e] at z1
        cases z1
    | _ => exact w.elim
  | _ => exact w.elim
end DL

set_option Elab.async false
set_option linter.all false
set_option maxRecDepth 100000
/-! DL43: dicts of mixed keys: {}, d.get(k, x). -/
namespace DL
open PySem PySem.Spec PyProof.Rows L2
open Sem (wp)
def tNewM : TE := fun _ H Q => ∀ p, H p = none → Q (.ref p) (upd H p (.ext (RawD p [])))
def dNewM [CTab] : DE := fun _ h Q => ∀ p, h p = none → Q (.loc p) (hupd h p (.dM CTab.w []))
def dGetMd [CTab] (t u v : DE) : DE := fun τ h Q => t τ h fun x h1 => ∃ a kvs0, x = .loc a ∧ h1 a = some (.dM CTab.w kvs0) ∧ u τ h1 fun y h2 => v τ h2 fun z h3 => ∃ kvs k, h3 a = some (.dM CTab.w kvs) ∧ keyN y = some k ∧ Q ((valD kvs k).getD z) h3
def rGetMd (K : PySem.W.Frag) (w : World) (td ty tx : TE) : TE := fun σ H Q => td σ H fun x H1 => ∃ a kvs0 raw0, x = .ref a ∧ MixAtH K w H1 a kvs0 raw0 ∧ ty σ H1 fun y H2 => tx σ H2 fun z H3 => ∃ kvs raw kd k, MixAtH K w H3 a kvs raw ∧ keyN kd = some k ∧ RV K H3 kd y ∧ (valD kvs k = none → Q z H3) ∧ ∀ d v, valD kvs k = some d → RV K H3 d v → Q v H3
section
variable {prog : Program} {w : World} {A : Around} {s : Shared} {E : Value → Shared → Prop}
theorem getmd_mix {d : Addr} {raw : List DictEntry} {ks : List NestedKey} {k : NestedKey} {key z : Value} {Q : Value → Shared → Prop} (hu : A.units + 9 < cLine) (hk : NestedIs s.heap k key) (hd : k.depth ≤ 8) (M : MixD w s d raw ks)
    (hnone : k ∉ ks → Q z { s with toks := s.toks + k.draws }) (hsome : ∀ (j : Nat) (e : DictEntry), ks[j]? = some k → raw[j]? = some e → Q e.val { s with toks := s.toks + k.draws }) : wpAny (model prog w) A (call (.builtin "dict.get") [.ref d, key, z]) Q E s := by
  refine call_meetsIn PySem.F.slot_dict_get M.type PySem.F.entry_dict_get (PySem.F.args_dict_get_3 _ _ _) (S := fun A' R s' => A' = A ∧ s' = s ∧ (k ∉ ks → R (.ok (.ret z)) { s with toks := s.toks + k.draws }) ∧ ∀ (j : Nat) (e : DictEntry), ks[j]? = some k → raw[j]? = some e → R (.ok (.ret e.val)) { s with toks := s.toks + k.draws }) (fun A' R s' hS => ?_) ⟨rfl, rfl, hnone, hsome⟩
  obtain ⟨rfl, rfl, h0, h1⟩ := hS
  show wpAny _ _ (dictGet d key >>= _) _ _ _
  refine wpAny_bind (get_mix (by show A'.units + 1 + 8 < cLine; omega) hk hd M (fun q => ?_) fun j e hj he => ?_)
  · exact wpAny_bind (wpAny_missed_other M.rd.1 (wpAny_pure (h0 q)))
  · exact wpAny_pure (h1 j e hj he)
end
section
variable [CTab] {X : Cx} {K : PySem.W.Frag} {pos : Pos}
theorem pe_newM : PE X (.Dict [] [] pos) tNewM := ⟨fun pins s σ H Q I h => by
  have hp : RawD s.heap.objs.size [] (s.heap.push { cls := .type "dict", data := .dict #[] }) := ⟨beq_eq_false_iff_ne.mpr (Ne.symm (Nat.ne_of_lt I.big)), _, 0, Heap.get?_push_size _ rfl, ⟨rfl, rfl, rfl⟩, rfl⟩
  exact wpAny_Dict_empty ⟨.ref s.heap.objs.size, _, I.laid (a := s.heap.objs.size) (o := .ext (RawD s.heap.objs.size [])) (t' := s.toks) (fun _ _ q => Heap.get?_push_of_some _ q) (Nat.le_refl _)
    ⟨hp, ⟨_, Heap.get?_push_size _ rfl⟩, fun h1 h2 ⟨z, o, ep, ho, hc, hd⟩ kp => ⟨z, o, ep, kp _ ho, hc, hd⟩⟩, rfl, h _ (I.hok.fresh (Nat.le_refl _))⟩⟩
theorem xnewM : XE X K (.Dict [] [] pos) tNewM dNewM := ⟨pe_newM, fun τ σ h H Q Q0 rs hr bw w p hp => bw_new (o := .dM CTab.w []) hr bw hp ⟨[], upd_same, ⟨.nil, List.nodup_nil, Nat.zero_le _⟩⟩ (w p)⟩
theorem pe_getMd {o e f : Expr} {apos cpos : Pos} {td ty tx : TE} (hu : X.A.units + 9 < cLine) (ho : PE X o td) (he : PE X e ty) (hf : PE X f tx) (m : M2 X o "get" apos e f cpos) : PE X (.Call (.Attribute o "get" apos) [e, f] [] cpos) (rGetMd X.K X.w td ty tx) := by
  refine ⟨fun pins s σ H Q I h => wpAny_Call_method m.base m.few m.line PySem.F.plainAttrs_dict PySem.F.slot_dict_get PySem.F.type_dict_get (thn (ho.run pins s σ H _ I h) fun u s1 ⟨x, H1, I1, rx, a, kvs0, raw0, ex, ⟨g1, g2⟩, q1⟩ => ?_)⟩
  subst ex
  cases (show u = Value.ref a from rx)
  have M0 := mix_of I1.hok g1 g2
  refine ⟨M0.type, fun b z => ?_, ?_⟩
  · cases z
    obtain ⟨_, o', ep, h1, h2, _⟩ := M0.rd
    exact ⟨o', h1, h2.2.1⟩
  rw [m.trees]
  refine Calls.callWith_builtin rfl (Calls.evalArgs_plain (Calls.spliced_cons (thn (he.run pins s1 σ H1 _ I1 q1) fun iv s2 ⟨y, H2, I2, ry, q2⟩ =>
    Calls.spliced_cons (thn (hf.run pins s2 σ H2 _ I2 q2) fun fv s3 ⟨z, H3, I3, rz, kvs, raw, kd, k, ⟨e1, e2⟩, hk, rk, q3, q4⟩ => Calls.spliced_nil ?_))))
  obtain ⟨i1, i2⟩ := key_is I3.hok hk rk ry
  refine getmd_mix hu i1 i2 (mix_of I3.hok e1 e2) (fun hn => ⟨z, H3, I3.tok _, rz, q3 (val_none hn)⟩) fun j e' hj he' => ?_
  obtain ⟨e3, d, v, h3, h4, h5, h6⟩ := at_entry e2 hj
  rw [he'] at h3
  cases h3
  exact ⟨v, H3, I3.tok _, h6, q4 d v h4 h5⟩
theorem xgetMd {o e f : Expr} {apos cpos : Pos} {td ty tx : TE} {d1 d2 d3 : DE} (hu : X.A.units + 9 < cLine) (hw : X.w = CTab.w) (ho : XE X K o td d1) (he : XE X K e ty d2) (hf : XE X K f tx d3) (m : M2 X o "get" apos e f cpos := by exact ⟨rfl, rfl, rfl, rfl⟩) (hK : X.K = K := by rfl) :
    XE X K (.Call (.Attribute o "get" apos) [e, f] [] cpos) (rGetMd K CTab.w td ty tx) (dGetMd d1 d2 d3) := by
  subst hK
  refine ⟨by rw [← hw]; exact pe_getMd hu ho.p he.p hf.p m, fun τ σ h H Q Q0 rs hr bw w => ho.l τ σ h H _ _ rs hr (fun x h1 v H1 x1 r1 hr1 w1 => ?_) w⟩
  obtain ⟨a, kvs0, e0, e1, w1⟩ := w1
  obtain ⟨a', raw0, g1, g2⟩ := mix_rel hr1 r1 ⟨a, e0, e1⟩
  have ea : a' = a := by
    subst e0
    have := rv_loc r1
    rw [g1] at this
    cases this
    rfl
  subst ea
  refine ⟨a', kvs0, raw0, g1, g2, he.l τ σ h1 H1 _ _ (rs.mono x1) hr1 (fun y h2 u H2 x2 r2 hr2 w2 => hf.l τ σ h2 H2 _ _ (rs.mono (x1.trans x2)) hr2 (fun z h3 u3 H3 x3 r3 hr3 w3 => ?_) w2) w1⟩
  obtain ⟨kvs, k, e2, hk, w3⟩ := w3
  obtain ⟨raw, g3, g4⟩ := hr3 _ _ e2
  have xx := x1.trans (x2.trans x3)
  refine ⟨kvs, raw, y, k, ⟨g3, g4⟩, hk, RV.mono x3 _ _ r2, fun q => ?_, fun d v q rv => ?_⟩
  · rw [q] at w3
    exact bw _ h3 _ H3 xx r3 hr3 w3
  · rw [q] at w3
    exact bw _ h3 _ H3 xx rv hr3 w3
end
end DL

set_option Elab.async false
set_option linter.all false
set_option maxRecDepth 100000
set_option maxHeartbeats 2000000
/-! DL44: a, b = a list; sum of a tuple of ints. -/
namespace DL
open PySem PySem.Spec PyProof.Rows L2
open Sem (wp)
section
variable {prog : Program} {w : World} {A : Around} {E : Value → Shared → Prop} {s : Shared}
theorem draw_lst {it t : Addr} {items : Array Value} (hne : t ≠ it) : ∀ (n i : Nat) (s : Shared) (Q : List Value → Shared → Prop), s.heap.IsListIter it t i → s.heap.IsList t items → i + n ≤ items.size →
    (∀ h', h'.IsListIter it t (i + n) → Heap.SameBut it s.heap h' → Q ((items.toList.drop i).take n) { s with heap := h' }) → wpAny (model prog w) A (draw (.ref it) n) Q E s
  | 0, i, s, Q, hit, _, _, hQ => by
    show wpAny _ _ (pure []) Q E s
    exact wpAny_pure (by simpa using hQ s.heap hit (Heap.SameBut.refl ..))
  | n + 1, i, s, Q, hit, ht, hle, hQ => by
    have hlt : i < items.size := by omega
    show wpAny _ _ (pyNext (.ref it) >>= _) Q E s
    refine wpAny_bind (wpAny_pyNext_list_item hit ht (x := items[i]) (by simp [hlt]) fun h₁ hit₁ hs₁ => ?_)
    refine wpAny_bind (wpAny_holding (draw_lst hne n (i + 1) _ _ hit₁ (ht.extBut hs₁.extBut hne) (by omega) fun h₂ hit₂ hs₂ => wpAny_pure ?_))
    have hd : items.toList.drop i = items[i] :: items.toList.drop (i + 1) := by simp [List.drop_eq_getElem_cons, hlt]
    have := hQ h₂ (by rw [show i + (n + 1) = i + 1 + n by omega]; exact hit₂) (hs₁.trans hs₂)
    rw [hd, List.take_succ_cons] at this
    exact this
theorem unpackItems_lst {t : Addr} {items : Array Value} {Q : List Value → Shared → Prop} (hh : A.handled = none) (ht : s.heap.IsList t items)
    (hQ : ∀ h', Heap.ExtBut s.heap.objs.size s.heap h' → Q items.toList { s with heap := h' }) : wpAny (model prog w) A (unpackItems (.ref t) items.size none) Q E s := by
  have hlt : t ≠ s.heap.objs.size := by obtain ⟨o, ho, _⟩ := ht; exact Nat.ne_of_lt (Heap.lt_size ho)
  unfold unpackItems
  refine wpAny_bind ?_
  · unfold notIterableAtAll
    refine wpAny_bind (wpAny_specialOf ht.typeIs slot_list_iter.lookup ?_)
    refine wpAny_pure ?_
    simp only [Bool.false_eq_true, if_false]
    refine wpAny_bind (wpAny_holding (wpAny_pyIter_list ht ?_))
    refine wpAny_bind (wpAny_holding (draw_lst hlt items.size 0 _ _ ⟨_, Heap.get?_push_size _ rfl, rfl, rfl⟩ (ht.push _) (by omega) fun h₁ hit₁ hs₁ => ?_))
    have hall : List.take items.size (List.drop 0 items.toList) = items.toList := by
      rw [List.drop_zero]; exact List.take_of_length_le (by simp)
    rw [hall]
    rw [if_neg (by simp)]
    have ht₁ : h₁.IsList t items := (ht.push _).extBut hs₁.extBut hlt
    refine wpAny_bind (wpAny_holding (wpAny_pyNext_list_end hh hit₁ ht₁ (by simp) fun h₂ he₂ => ?_))
    simp only [Option.isSome_none, Bool.false_eq_true, if_false]
    refine wpAny_pure (hQ h₂ fun b o hb e => he₂ b o hb (hs₁.extBut b o hb (Heap.get?_push_of_some _ e)))
theorem assign_Tuple_lst {env : Env} {elts : List Expr} {x1} {pos : Pos} {t : Addr} {items : Array Value} {Q : Unit → Shared → Prop} (hh : A.handled = none) (ht : s.heap.IsList t items)
    (hn : (assignEach elts env).length = items.size) (hstar : (assignEach elts env).findIdx? (·.1) = none)
    (h : ∀ h', Heap.ExtBut s.heap.objs.size s.heap h' → wpAny (model prog w) A (assignInOrder ((assignEach elts env).map (·.2)) items.toList) Q E { s with heap := h' }) :
    wpAny (model prog w) A (assign (.Tuple elts x1 pos) env (.ref t)) Q E s := by
  rw [assign_Tuple]
  refine wpAny_bind (wpAny_standAt ?_)
  unfold unpack
  rw [hn, hstar]
  exact wpAny_bind (wpAny_holding (unpackItems_lst hh ht h))
end
def gLst (K : PySem.W.Frag) (n : Nat) (t : TGs) : TG := fun v σ H Q => ∃ a xs, v = .ref a ∧ SqL K H a xs ∧ xs.length = n ∧ t xs σ H Q
def gdLst (n : Nat) (g : DTGs) : DTG := fun d τ h Q => match d with
  | .loc a => (match lstO (h a) with
    | some ds => ds.length = n ∧ g ds τ h Q
    | none => False)
  | _ => False
section
variable {X : Cx} {K : PySem.W.Frag} {pos : Pos}
theorem pg_lst {es : List Expr} {k : Nat} {t : TGs} {n : Nat} (hc : X.calm = true) (h : PGs X es t)
    (hn : (assignEach es X.env).length = n := by rfl) (hst : (assignEach es X.env).findIdx? (·.1) = none := by rfl) : PG X (.Tuple es k pos) (gLst X.K n t) := by
  refine ⟨fun pins s σ H v u Q I r hw => ?_⟩
  obtain ⟨a, xs, e1, hq, hl, hw⟩ := hw
  subst e1
  cases r
  obtain ⟨its, rv, ht, _⟩ := I.list hq
  refine assign_Tuple_lst (I.ok.hd hc) ht.isList (by simp [hn, ← hl, rv.length]) hst fun h' hx => ?_
  have I1 : Inv X pins σ H { s with heap := h' } := I.kept (t' := s.toks) fun b o e => hx b o (Nat.ne_of_lt (Heap.lt_size e)) e
  exact h.run pins _ σ H xs _ Q I1 (by simpa using rv) hw
theorem xg_lst {es : List Expr} {k : Nat} {t : TGs} {dt : DTGs} {n : Nat} (hc : X.calm = true) (h : XGs X K es t dt)
    (hn : (assignEach es X.env).length = n := by rfl) (hst : (assignEach es X.env).findIdx? (·.1) = none := by rfl) (hK : X.K = K := by rfl) : XG X K (.Tuple es k pos) (gLst K n t) (gdLst n dt) := ⟨by subst hK; exact pg_lst hc h.p hn hst, fun d v τ σ h0 H Q Q0 r rs hr bw w => by
  cases d with
  | loc a =>
    have w : (match lstO (h0 a) with | some ds => ds.length = n ∧ dt ds τ h0 Q | none => False) := w
    cases ha : lstO (h0 a) with
    | none => rw [ha] at w; exact w.elim
    | some ds =>
      rw [ha] at w
      obtain ⟨vs, s, q⟩ := hr _ _ (lstO_of ha)
      exact ⟨a, vs, rv_loc r, .inl (.inl s), by rw [← q.length]; exact w.1, h.l ds vs τ σ h0 H Q Q0 q rs hr bw w.2⟩
  | _ => exact w.elim⟩
theorem w_lst {n : Nat} {g : DTGs} {a : Addr} {ds : List D} {τ : DSt} {h : DH} {Q : DSt → DH → Prop} (e : h a = some (.lst ds)) (hl : ds.length = n) (k : g ds τ h Q) : gdLst n g (.loc a) τ h Q := by
  show (match lstO (h a) with | some ds => ds.length = n ∧ g ds τ h Q | none => False)
  rw [e]
  exact ⟨hl, k⟩
end
/-! ### sum of a tuple -/
def rSumT (K : PySem.W.Frag) : List V → Hp → VK → Prop := fun vs H Q => ∃ (a : Addr) (ns : List Int), vs = [V.ref a] ∧ SqT K H a (ns.map V.int) ∧ Q (.int ns.sum) H
section
variable {prog : Program} {w : World} {A : Around} {E : Value → Shared → Prop} {s : Shared}
theorem iter_tup0 {l : Addr} {vs : Array Value} {Q : Value → Shared → Prop} (hh : A.handled = none) (hl : s.heap.IsTuple l vs)
    (h : ∀ s₂ : Shared, s₂ = { s with heap := s.heap.push { cls := .type "tuple_iterator", data := .fields #[.ref l, .int 0 0] } } →
      (s₂.heap.IsTupleIter s.heap.objs.size l 0 ∧ s₂.heap.IsTuple l vs) → (∀ b ∈ [s.heap.objs.size, l], b < s₂.heap.objs.size) → l ≠ s.heap.objs.size → Q (.ref s.heap.objs.size) s₂) :
    wpAny (model prog w) A (pyIter (.ref l)) Q E s := by
  have hlt : l < s.heap.objs.size := by obtain ⟨_, e, _⟩ := hl; exact Heap.lt_size e
  refine wpAny_pyIter_tuple hl (h _ rfl ⟨⟨_, Heap.get?_push_size _ rfl, rfl, rfl⟩, hl.push _⟩ (fun b hb => ?_) (Nat.ne_of_lt hlt))
  show b < (s.heap.push _).objs.size
  rw [Heap.size_push]
  rcases List.mem_cons.mp hb with rfl | hb
  · exact Nat.lt_succ_self _
  · rcases List.mem_cons.mp hb with rfl | hb
    · exact Nat.lt_succ_of_lt hlt
    · cases hb
theorem sum_tup {l : Addr} {xs : Array (Int × Tok)} {Q : Value → Shared → Prop} (hh : A.handled = none) (hl : s.heap.IsTuple l (intItems xs))
    (h : ∀ h' tk t', (∀ b o, s.heap.get? b = some o → h'.get? b = some o) → Q (.int (preSum (numAt xs) xs.size) t') { s with heap := h', toks := tk }) :
    wpAny (model prog w) A (call (.builtin "sum") [.ref l]) Q E s := by
  refine call_sum_walkG (iter_tup0 hh hl fun s₂ e st hfp hlI => ?_)
  subst e
  refine ⟨_, _, _, _, _, _, numAt xs, rfl, Walks.tuple (A := A.in1) hh _ l hlI (intItems xs), st, hfp, (fun _ _ => intItems_at), fun h' tk t' hk => ?_⟩
  have := h h' tk t' (fun b o e => hk b o (fun hb => absurd (Heap.lt_size e) ((List.mem_singleton.mp hb) ▸ Nat.lt_irrefl _)) (Heap.get?_push_of_some _ e))
  simpa [intItems] using this
theorem sum_rawT {l : Addr} {its : List Value} {ns : List Int} {Q : Value → Shared → Prop} (hh : A.handled = none) (hl : s.heap.IsTuple l its.toArray) (hi : IntsAre its ns)
    (h : ∀ h' tk t', (∀ b o, s.heap.get? b = some o → h'.get? b = some o) → Q (.int ns.sum t') { s with heap := h', toks := tk }) : wpAny (model prog w) A (call (.builtin "sum") [.ref l]) Q E s := by
  obtain ⟨xs, e⟩ := hi.allInts.items
  have hn : numsOf (intItems xs).toList = ns := by rw [← e]; exact hi.numsOf
  rw [nums_intItems] at hn
  rw [e] at hl
  refine sum_tup hh hl fun h' tk t' hk => ?_
  have := h h' tk t' hk
  rw [preSum_eq, List.take_of_length_le (by simp), hn]; exact this
end
theorem cr_sumT {X : Cx} (hc : X.calm = true) : CallR X (.builtin "sum") (rSumT X.K) := by
  intro pins s σ H vs us Q I r h
  obtain ⟨a, ns, rfl, hs, q⟩ := h
  obtain ⟨its, rv, ht, _⟩ := I.tuple hs
  rw [Vals.ref1 r]
  exact sum_rawT (I.ok.hd hc) (show s.heap.IsTuple a its.toArray from ht) rv.ints fun h' tk t' hk => ⟨.int _, H, I.kept hk, ⟨_, rfl⟩, q⟩
def bSumT : DC := fun ds h Q => match ds with
  | [.tup ds] => (match intsD ds with
    | some ns => Q (.int ns.sum) h
    | none => False)
  | _ => False
theorem rvs_intsD {K : PySem.W.Frag} {H : Hp} : ∀ {ds : List D} {ns : List Int} {vs : List V}, intsD ds = some ns → RVs K H ds vs → vs = ns.map V.int
  | [], ns, vs, e, r => by
    cases e
    rw [rvs_nil r]; rfl
  | d :: ds, ns, vs, e, r => by
    obtain ⟨x, xs, e1, r1, r2⟩ := rvs_cons r
    cases d with
    | int i =>
      cases z : intsD ds with
      | none => unfold intsD at e; rw [z] at e; cases e
      | some ms =>
        unfold intsD at e
        rw [z] at e
        cases e
        rw [e1, rv_int r1, rvs_intsD z r2]; rfl
    | _ => cases e
theorem q_sumT {X : Cx} {K : PySem.W.Frag} (hc : X.calm = true) (hK : X.K = K := by rfl) : CallR X (.builtin "sum") (rSumT K) ∧ LC K (rSumT K) bSumT := by
  refine ⟨by subst hK; exact cr_sumT hc, fun ds vs h H Q Q0 r hr bw w => ?_⟩
  match ds, w, r with
  | [.tup ds], w, r =>
    obtain ⟨x, e1, r1⟩ := rvs_one r
    obtain ⟨a, xs, e2, s, q⟩ := rv_tup r1
    have w : (match intsD ds with | some ns => Q (.int ns.sum) h | none => False) := w
    cases z : intsD ds with
    | none => rw [z] at w; exact w.elim
    | some ns =>
      rw [z] at w
      exact ⟨a, ns, by rw [e1, e2], by rw [← rvs_intsD z q]; exact .inl (.inl s), bw _ h _ H TX.refl rv_int' hr w⟩
end DL

set_option Elab.async false
set_option linter.all false
set_option maxRecDepth 100000
set_option maxHeartbeats 2000000
/-! DL45: tuple(range(a, b, c)); t * k, k 0 or 1. -/
namespace DL
open PySem PySem.Spec PyProof.Rows L2
open Sem (wp)
/-- i, i + c, .. (n of them) -/
def rgCV (i c : Int) (n : Nat) : List V := (List.range n).map fun k : Nat => V.int (i + (k : Int) * c)
def rgCD (i c : Int) (n : Nat) : List D := (List.range n).map fun k : Nat => D.int (i + (k : Int) * c)
theorem vals_rgC {i c : Int} {n : Nat} {acc : Array Value} (h : ItemsOf (fun j v => ∃ t, v = .int (i + (j : Nat) * c) t) acc n) : Vals (rgCV i c n) acc.toList := by
  have e : acc.toList.length = n := by rw [Array.length_toList]; exact h.1
  unfold rgCV
  rw [← e]
  refine vals_of_get acc.toList _ fun j u hj => ?_
  obtain ⟨t, rfl⟩ := h.2 j u (by rw [← hj, Array.getElem?_toList])
  exact ⟨t, rfl⟩
def tTupRg3 (ta : TA) : TE := fun σ H Q => ta σ H fun vs H1 => ∃ (i j c : Int) (n : Nat), vs = [.int i, .int j, .int c] ∧ RgC i j c n ∧ n ≤ 2 ^ 24 ∧ ∀ q, H1 q = none → Q (.ref q) (upd H1 q (.tup (rgCV i c n)))
section
variable {X : Cx}
theorem pe_tupRg3 {a b c : Expr} {ta : TA} {p p2 pos pos2 : Pos} (hc : X.calm = true) (hgT : Gl X "tuple") (hmT : X.mg "tuple" = none) (hg : Gl X "range") (hm : X.mg "range" = none) (ha : PA X [a, b, c] ta)
    (hs : starEach [a, b, c] X.env = (false, eval a X.env) :: starEach [b, c] X.env := by rfl) (hpl : (backTo pos2 (starEach [b, c] X.env)).any (·.1) = false := by rfl)
    (na : starEach [.Call (.Name "range" p2) [a, b, c] [] pos2] X.env = (false, eval (.Call (.Name "range" p2) [a, b, c] [] pos2) X.env) :: starEach [] X.env := by rfl) :
    PE X (.Call (.Name "tuple" p) [.Call (.Name "range" p2) [a, b, c] [] pos2] [] pos) (tTupRg3 ta) := by
  have he : ∀ (pins : List (Addr × Obj)) (s : Shared) (σ : L2.St) (H : Hp) (Q : Int → Int → Int → Nat → Hp → Prop), Inv X pins σ H s → (ta σ H fun vs H1 => ∃ (i j k : Int) (n : Nat), vs = [.int i, .int j, .int k] ∧ RgC i j k n ∧ Q i j k n H1) →
      wpAny (model X.prog X.w) X.A (eval (.Call (.Name "range" p2) [a, b, c] [] pos2) X.env) (fun x s' => ∃ r i j k n t u v H', x = .ref r ∧ IsRange s'.heap r i j k t u v ∧ Inv X pins σ H' s' ∧ RgC i j k n ∧ Q i j k n H') X.xe s := by
    intro pins s σ H Q I h
    refine Call_ (ld_blt I hg hm boot_range (PyProof.Rows.callWith_type1 (thn (ha.run pos2 pins s σ H _ I h) fun us s1 ⟨vs, H1, I1, r1, q1⟩ => ?_) hs hpl))
    obtain ⟨i, j, k, n, e, ⟨c0, c1, c2, c3⟩, q⟩ := q1
    subst e
    cases r1 with
    | cons r rr =>
      cases rr with
      | cons r' rr =>
        cases rr with
        | cons r'' rr =>
          cases rr
          obtain ⟨t, rfl⟩ := r
          obtain ⟨t', rfl⟩ := r'
          obtain ⟨t'', rfl⟩ := r''
          refine call_range_3 c0 ?_ (.inl (PyProof.noPylong_small c1))
          exact ⟨_, i, j, k, n, _, _, _, H1, rfl, IsRange.new _ _ _ _ _ _ _, I1.kept fun b u e => Heap.get?_push_of_some _ e, ⟨c0, c1, c2, c3⟩, q⟩
  refine ⟨fun pins s σ H Q I h => ?_⟩
  refine Call_ (ld_blt I hgT hmT boot_tuple (PyProof.Rows.callWith_type1 (args_cons (thn (he pins s σ H (fun i j k n H1 => n ≤ 2 ^ 24 ∧ ∀ q, H1 q = none → Q (.ref q) (upd H1 q (.tup (rgCV i k n)))) I h) fun x s1 ⟨r, i, j, k, n, t, u, v, H1, ex, hr, I1, ⟨c0, c1, c2, c3⟩, b5, q⟩ => args_nil ?_) na) na))
  subst ex
  refine call_tuple_range (n := n) (I1.ok.hd hc) hr c2 c3 b5 fun h' tk acc hk hi => ?_
  have I2 : Inv X pins σ H1 { s1 with heap := h', toks := tk } := I1.kept hk
  refine ⟨.ref h'.objs.size, upd H1 h'.objs.size (.tup (rgCV i k n)), I2.laid (t' := tk) (fun c o e => Heap.get?_push_of_some _ e) (Nat.le_refl _) (show ObjOk X.prog X.w _ _ _ (.tup (rgCV i k n)) from ⟨?_, acc.toList, vals_rgC hi, ?_⟩), rfl, q _ (I2.hok.fresh (Nat.le_refl _))⟩
  · unfold rgCV; rw [List.length_map, List.length_range, sizeLine_eq]; omega
  · rw [Array.toArray_toList]; exact IsTup.new _ _
end
theorem rvs_rgC {K : PySem.W.Frag} {H : Hp} {i c : Int} {n : Nat} : RVs K H (rgCD i c n) (rgCV i c n) := by
  unfold rgCD rgCV
  generalize List.range n = l
  induction l with
  | nil => exact rvs_nil'
  | cons i l ih => exact rvs_cons' rv_int' ih
def dTupRg3 (da : DA) : DE := fun τ h Q => da τ h fun ds h1 => match ds with
  | [.int i, .int j, .int c] => ∃ n : Nat, RgC i j c n ∧ n ≤ 2 ^ 24 ∧ Q (.tup (rgCD i c n)) h1
  | _ => False
section
variable {X : Cx} {K : PySem.W.Frag}
theorem xtuprange3 {a b c : Expr} {ta : TA} {da : DA} {p p2 pos pos2 : Pos} (hc : X.calm = true) (ha : XA X K [a, b, c] ta da) (hm : X.mg "range" = none) (hmT : X.mg "tuple" = none) (hgT : Gl X "tuple" := by rfl) (hg : Gl X "range" := by rfl)
    (hs : starEach [a, b, c] X.env = (false, eval a X.env) :: starEach [b, c] X.env := by rfl) (hpl : (backTo pos2 (starEach [b, c] X.env)).any (·.1) = false := by rfl)
    (na : starEach [.Call (.Name "range" p2) [a, b, c] [] pos2] X.env = (false, eval (.Call (.Name "range" p2) [a, b, c] [] pos2) X.env) :: starEach [] X.env := by rfl) :
    XE X K (.Call (.Name "tuple" p) [.Call (.Name "range" p2) [a, b, c] [] pos2] [] pos) (tTupRg3 ta) (dTupRg3 da) :=
  ⟨pe_tupRg3 hc hgT hmT hg hm ha.p hs hpl na, fun τ σ h H Q Q0 rs hr bw w => ha.l τ σ h H _ _ rs hr (fun ds h1 vs H1 x1 r1 hr1 w1 => by
    match ds, w1, r1 with
    | [.int i, .int j, .int k], w1, r1 =>
      obtain ⟨n, r, m, w1⟩ := w1
      obtain ⟨v, rest, e, rv, rr⟩ := rvs_cons r1
      obtain ⟨v2, v3, e1, rv2, rv3⟩ := rvs_two rr
      subst e1
      subst e
      exact ⟨i, j, k, n, by rw [rv_int rv, rv_int rv2, rv_int rv3], r, m, fun q hq => bw_tup hr1 (bw.mono x1) hq rvs_rgC w1⟩) w⟩
end
/-- range(0, j, 2) -/
theorem RgC.two {j : Int} (h0 : 0 ≤ j) (h1 : j ≤ 1000) : RgC 0 j 2 ((j + 1) / 2).toNat := by
  have e : Builtin.Range.rangeSize 0 j 2 = (j + 1) / 2 := by
    unfold Builtin.Range.rangeSize
    rw [if_pos (by decide)]
    split <;> omega
  refine ⟨by decide, by decide, ?_, ?_⟩
  · unfold Builtin.Range.small
    rw [e]
    simp only [Builtin.Range.rangeFitsLong, Bool.and_eq_true, Bool.or_eq_true, decide_eq_true_eq, beq_iff_eq, if_pos (show (2 : Int) > 0 by decide)]
    omega
  · rw [e]; omega
/-! ### t * k, k 0 or 1 -/
def rRep1 (K : PySem.W.Frag) : R2 := fun x y H Q => ∃ l xs, x = .ref l ∧ y = .int 1 ∧ SqT K H l xs ∧ Q (.ref l) H
theorem op_rep1 {X : Cx} : OpR X (binaryOp .Mult) (rRep1 X.K) := by
  intro pins s σ H x y v u Q I rx ry h
  obtain ⟨l, xs, rfl, rfl, hT, q⟩ := h
  cases rx
  obtain ⟨t, rfl⟩ := ry
  obtain ⟨its, r, ⟨⟨cls, dd, data, sl⟩, ho, hc, n, hd⟩, hs⟩ := I.tuple hT
  simp only at hc hd
  subst hc hd
  have c1 : (its.toArray.isEmpty || (1 : Int) == 1) = true := by simp
  have c0 : (decide ((1 : Int) < -(2 ^ 63)) || decide ((1 : Int) ≥ 2 ^ 63)) = false := by decide
  refine wpAny_binaryOp_repeat_ref (T := "tuple") (U := "int") (by decide) ⟨_, ho, rfl⟩ (fun s' => typeIs_int s' 1 t) noFill_tuple_mul F.fills_int_mul F.slot_int_rmul repeat_tuple F.slot_int_index.lookup
    (call_meets F.slot_int_rmul (typeIs_int s 1 t) F.entry_int_rmul (F.args_int_rmul_2 _ _) (int_rmul_tuple 1 t l its.toArray n dd sl)
      ⟨ho, rfl, ⟨_, ho, rfl⟩, call_meets F.slot_tuple_mul ⟨_, ho, rfl⟩ F.entry_tuple_mul (F.args_tuple_mul_2 _ _) (tuple_mulE l its.toArray n dd sl 1 t c0 c1) ⟨ho, ?_⟩⟩)
  exact ⟨.ref l, _, I, rfl, q⟩
def dMul1 : DR2
  | .tup xs, .int k, h, Q => xs ≠ [] ∧ ((k = 0 ∧ Q (.tup []) h) ∨ (k = 1 ∧ Q (.tup xs) h))
  | _, _, _, _ => False
theorem q_mul1 {X : Cx} {K : PySem.W.Frag} (hK : X.K = K := by rfl) : OpR X (binaryOp .Mult) (fun x y H Q => rRep0 K x y H Q ∨ rRep1 K x y H Q) ∧ LR2 K (fun x y H Q => rRep0 K x y H Q ∨ rRep1 K x y H Q) dMul1 := by
  subst hK
  refine ⟨op_rep0.or op_rep1, fun d e x y h H Q Q0 r1 r2 hr bw w => ?_⟩
  cases d with
  | tup xs =>
    cases e with
    | int k =>
      obtain ⟨hn, w⟩ := w
      have r1' := r1
      obtain ⟨a, vs, e1, s, q⟩ := rv_tup r1
      have z1 := q.length
      rcases w with ⟨rfl, w1⟩ | ⟨rfl, w1⟩
      · refine .inl ⟨a, vs, e1, rv_int r2, .inl (.inl s), fun e => hn ?_, fun p hp => bw_tup hr bw hp rvs_nil' w1⟩
        rw [e] at z1
        exact List.length_eq_zero_iff.mp z1
      · subst e1
        exact .inr ⟨a, vs, rfl, rv_int r2, .inl (.inl s), bw _ h _ H TX.refl r1' hr w1⟩
    | _ => exact w.elim
  | _ => exact w.elim
end DL

set_option Elab.async false
set_option linter.all false
set_option maxRecDepth 100000
set_option maxHeartbeats 2000000
/-! DL46: list(zip(t, u)), t and u tuples. -/
namespace DL
open PySem PySem.Spec PyProof.Rows L2
open Sem (wp)
section
variable {prog : Program} {w : World} {A : Around} {E : Value → Shared → Prop} {s : Shared}
/-- what a zip of two tuples that has given out something is like -/
structure ZHeld (h : Heap) (z TI TO i1 i2 l1 l2 : Addr) (xs ys : Array Value) (k : Nat) : Prop where
  st : ∃ T f oT, IsZipHeld h z TI TO T f ∧ h.get? T = some oT
  ti : IsPair h TI (.ref i1) (.ref i2)
  t1 : h.IsTupleIter i1 l1 k
  t2 : h.IsTupleIter i2 l2 k
  q1 : h.IsTuple l1 xs
  q2 : h.IsTuple l2 ys
theorem zip_heldT0 {z TI TO i1 i2 l1 l2 : Addr} {k : Nat} {xs ys : Array Value} {x y : Value} {Q : Value → Shared → Prop} (D : ZipApart z TI TO i1 i2 l1 l2)
    (Z : ZHeld s.heap z TI TO i1 i2 l1 l2 xs ys k) (hx : xs[k]? = some x) (hy : ys[k]? = some y)
    (hQ : ∀ h', (∃ T f oT, IsZipHeld h' z TI TO T f ∧ h'.get? T = some oT) → h'.IsTupleIter i1 l1 (k + 1) → h'.IsTupleIter i2 l2 (k + 1) → IsPair h' s.heap.objs.size x y → h'.objs.size = s.heap.objs.size + 1 →
      (∀ c o, c ≠ z → c ≠ i1 → c ≠ i2 → s.heap.get? c = some o → h'.get? c = some o) → Q (.ref s.heap.objs.size) { s with heap := h' }) :
    wpAny (model prog w) A (Builtin.«zip.__next__» ⟨[.ref z], []⟩) (fun fin s' => ∃ v, fin = .done (.ret v) ∧ Q v s') E s := by
  obtain ⟨⟨T, f, oT, hz, hT⟩, hTI, h1, h2, hl1, hl2⟩ := Z
  show wpAny _ _ (field (.ref z) 2 >>= _) _ _ _
  refine wpAny_bind (wpAny_field hz rfl (x := .bool false) rfl ?_)
  show wpAny _ _ (field (.ref z) 3 >>= _) _ _ _
  refine wpAny_bind (wpAny_field hz rfl (x := .ref TI) rfl ?_)
  refine wpAny_bind (wpAny_seqItems hTI rfl ?_)
  show wpAny _ _ (Builtin.SmallTypes.ownedTupleIsFree (.ref z) >>= _) _ _ _
  refine wpAny_bind (wpAny_tupleHeld_zip hz hT fun ha za sa => ?_)
  simp only [Bool.false_eq_true, if_false]
  refine wpAny_bind ?_
  rw [← Array.forIn_toList]
  simp only [List.forIn_cons, List.forIn_nil]
  refine wpAny_bind (wpAny_bind (wpAny_holding ?_))
  show wpAny _ _ (Builtin.SmallTypes.nextOf (.ref i1) >>= _) _ _ _
  refine wpAny_bind (RZ.nextOf_tuple_item (s := { s with heap := ha }) (h1.extBut sa.extBut D.i1z) (hl1.extBut sa.extBut D.l1z) hx fun hb tb sb => wpAny_pure ?_)
  refine wpAny_pure ?_
  refine wpAny_bind (wpAny_bind (wpAny_holding ?_))
  show wpAny _ _ (Builtin.SmallTypes.nextOf (.ref i2) >>= _) _ _ _
  refine wpAny_bind (RZ.nextOf_tuple_item (s := { s with heap := hb }) ((h2.extBut sa.extBut D.i2z).extBut sb.extBut D.i12.symm) ((hl2.extBut sa.extBut D.l2z).extBut sb.extBut D.l2i1) hy fun hc tc sc => wpAny_pure ?_)
  refine wpAny_pure (wpAny_pure ?_)
  show wpAny _ _ (newTuple [x, y] >>= _) _ _ _
  refine wpAny_bind (wpAny_newTuple ?_)
  have size : hc.objs.size = s.heap.objs.size := by rw [sc.1, sb.1, sa.1]
  have keep : ∀ c o, c ≠ z → c ≠ i1 → c ≠ i2 → s.heap.get? c = some o → hc.get? c = some o := fun c o c1 c2 c3 e => sc.extBut _ _ c3 (sb.extBut _ _ c2 (sa.extBut _ _ c1 e))
  have zc : IsZipHeld hc z TI TO T true := sc.extBut _ _ D.i2z.symm (sb.extBut _ _ D.i1z.symm za)
  have Tz : T ≠ z ∨ T = z := (Classical.em (T = z)).symm
  have Tc : ∃ o, hc.get? T = some o := by
    by_cases c1 : T = z
    · exact ⟨_, by rw [c1]; exact zc⟩
    · by_cases c2 : T = i1
      · obtain ⟨o, e, _⟩ := tb.extBut sc.extBut D.i12
        exact ⟨o, by rw [c2]; exact e⟩
      · by_cases c3 : T = i2
        · obtain ⟨o, e, _⟩ := tc
          exact ⟨o, by rw [c3]; exact e⟩
        · exact ⟨_, keep _ _ c1 c2 c3 hT⟩
  obtain ⟨oc, Tc⟩ := Tc
  have tb' : hc.IsTupleIter i1 l1 (k + 1) := tb.extBut sc.extBut D.i12
  refine wpAny_pure ⟨_, rfl, ?_⟩
  show Q (.ref hc.objs.size) _
  have hp : IsPair (hc.push { cls := .type "tuple", data := .seq #[x, y] }) hc.objs.size x y := Heap.get?_push_size _ rfl
  have hs1 : (hc.push { cls := .type "tuple", data := .seq #[x, y] }).objs.size = hc.objs.size + 1 := Heap.size_push ..
  rw [size] at hp hs1 ⊢
  exact hQ _ ⟨T, true, oc, Heap.get?_push_of_some _ zc, Heap.get?_push_of_some _ Tc⟩ (tb'.at fun o e => Heap.get?_push_of_some _ e) (tc.at fun o e => Heap.get?_push_of_some _ e) hp hs1 fun c o c1 c2 c3 e => Heap.get?_push_of_some _ (keep c o c1 c2 c3 e)
theorem zip_heldT {z TI TO i1 i2 l1 l2 : Addr} {k : Nat} {xs ys : Array Value} {x y : Value} {Q : Option Value → Shared → Prop} (D : ZipApart z TI TO i1 i2 l1 l2)
    (Z : ZHeld s.heap z TI TO i1 i2 l1 l2 xs ys k) (hx : xs[k]? = some x) (hy : ys[k]? = some y)
    (hQ : ∀ h', (∃ T f oT, IsZipHeld h' z TI TO T f ∧ h'.get? T = some oT) → h'.IsTupleIter i1 l1 (k + 1) → h'.IsTupleIter i2 l2 (k + 1) → IsPair h' s.heap.objs.size x y → h'.objs.size = s.heap.objs.size + 1 →
      (∀ c o, c ≠ z → c ≠ i1 → c ≠ i2 → s.heap.get? c = some o → h'.get? c = some o) → Q (some (.ref s.heap.objs.size)) { s with heap := h' }) :
    wpAny (model prog w) A (pyNext (.ref z)) Q E s := by
  have hTy : s.TypeIs (.ref z) "zip" := by
    obtain ⟨T, f, oT, hz, hT⟩ := Z.st
    exact ⟨_, hz, rfl⟩
  unfold pyNext
  exact wpAny_bind (wpAny_attempt (wpAny_callSpecial?_slot (name := Str.ofString "__next__") hTy F.slot_zip_next
    (wpAny_call_entry F.slot_zip_next hTy F.entry_zip_next
      (zip_heldT0 D Z hx hy fun h' a1 a2 a3 a4 a5 a6 => wpAny_pure (hQ h' a1 a2 a3 a4 a5 a6)) (F.args_zip_next_1 _))))
theorem zip_heldT_end0 {z TI TO i1 i2 l1 l2 : Addr} {k : Nat} {xs ys : Array Value} {Q : Fin → Shared → Prop} (hh : A.handled = none) (D : ZipApart z TI TO i1 i2 l1 l2)
    (Z : ZHeld s.heap z TI TO i1 i2 l1 l2 xs ys k) (hend : xs[k]? = none ∨ ys[k]? = none)
    (hE : ∀ h' e, (∀ c o, c ≠ z → c ≠ i1 → c ≠ i2 → s.heap.get? c = some o → h'.get? c = some o) → (∃ o, h'.get? e = some o ∧ o.cls = .type "StopIteration") → E (.ref e) { s with heap := h' }) :
    wpAny (model prog w) A (Builtin.«zip.__next__» ⟨[.ref z], []⟩) Q E s := by
  obtain ⟨⟨T, f, oT, hz, hT⟩, hTI, h1, h2, hl1, hl2⟩ := Z
  show wpAny _ _ (field (.ref z) 2 >>= _) _ _ _
  refine wpAny_bind (wpAny_field hz rfl (x := .bool false) rfl ?_)
  show wpAny _ _ (field (.ref z) 3 >>= _) _ _ _
  refine wpAny_bind (wpAny_field hz rfl (x := .ref TI) rfl ?_)
  refine wpAny_bind (wpAny_seqItems hTI rfl ?_)
  show wpAny _ _ (Builtin.SmallTypes.ownedTupleIsFree (.ref z) >>= _) _ _ _
  refine wpAny_bind (wpAny_tupleHeld_zip hz hT fun ha za sa => ?_)
  simp only [Bool.false_eq_true, if_false]
  refine wpAny_bind ?_
  rw [← Array.forIn_toList]
  simp only [List.forIn_cons, List.forIn_nil]
  refine wpAny_bind (wpAny_bind (wpAny_holding ?_))
  show wpAny _ _ (Builtin.SmallTypes.nextOf (.ref i1) >>= _) _ _ _
  cases hx : xs[k]? with
  | none =>
    refine wpAny_bind (RZ.nextOf_tuple_end (s := { s with heap := ha }) hh (h1.extBut sa.extBut D.i1z) (hl1.extBut sa.extBut D.l1z) hx fun hb e sb he => ?_)
    exact hE hb e (fun c o c1 c2 _ q => sb _ _ c2 (sa.extBut _ _ c1 q)) he
  | some x =>
    have hy : ys[k]? = none := hend.resolve_left (by rw [hx]; exact fun z => nomatch z)
    refine wpAny_bind (RZ.nextOf_tuple_item (s := { s with heap := ha }) (h1.extBut sa.extBut D.i1z) (hl1.extBut sa.extBut D.l1z) hx fun hb tb sb => wpAny_pure ?_)
    refine wpAny_pure ?_
    refine wpAny_bind (wpAny_bind (wpAny_holding ?_))
    show wpAny _ _ (Builtin.SmallTypes.nextOf (.ref i2) >>= _) _ _ _
    refine wpAny_bind (RZ.nextOf_tuple_end (s := { s with heap := hb }) hh ((h2.extBut sa.extBut D.i2z).extBut sb.extBut D.i12.symm) ((hl2.extBut sa.extBut D.l2z).extBut sb.extBut D.l2i1) hy fun hc e sc he => ?_)
    exact hE hc e (fun c o c1 c2 c3 q => sc _ _ c3 (sb.extBut _ _ c2 (sa.extBut _ _ c1 q))) he
theorem zip_heldT_end {z TI TO i1 i2 l1 l2 : Addr} {k : Nat} {xs ys : Array Value} {Q : Option Value → Shared → Prop} (hh : A.handled = none) (D : ZipApart z TI TO i1 i2 l1 l2)
    (Z : ZHeld s.heap z TI TO i1 i2 l1 l2 xs ys k) (hend : xs[k]? = none ∨ ys[k]? = none)
    (hQ : ∀ h', (∀ c o, c ≠ z → c ≠ i1 → c ≠ i2 → s.heap.get? c = some o → h'.get? c = some o) → Q none { s with heap := h' }) : wpAny (model prog w) A (pyNext (.ref z)) Q E s := by
  have hTy : s.TypeIs (.ref z) "zip" := by
    obtain ⟨T, f, oT, hz, hT⟩ := Z.st
    exact ⟨_, hz, rfl⟩
  unfold pyNext
  refine wpAny_bind (wpAny_attempt (wpAny_callSpecial?_slot (name := Str.ofString "__next__") hTy F.slot_zip_next
    (wpAny_call_entry F.slot_zip_next hTy F.entry_zip_next (zip_heldT_end0 hh D Z hend fun h' e hk he => ?_) (F.args_zip_next_1 _))))
  obtain ⟨o, ho, hc⟩ := he
  refine wpAny_bind (wpAny_isInstance (T := "StopIteration") (b := true) ⟨o, ho, hc⟩ isSubtype_stop ?_)
  exact wpAny_pure (hQ _ hk)
/-- list(zip(..)) under way: k tuples given out, acc holds them -/
structure ZL (h0 h : Heap) (z TI TO i1 i2 l1 l2 S : Addr) (xs ys : Array Value) (k : Nat) (acc : Array Value) : Prop where
  st : (k = 0 ∧ IsZip h z TI TO .none ∧ ∃ a b, IsPair h TO a b) ∨ ∃ T f oT, IsZipHeld h z TI TO T f ∧ h.get? T = some oT
  ti : IsPair h TI (.ref i1) (.ref i2)
  t1 : h.IsTupleIter i1 l1 k
  t2 : h.IsTupleIter i2 l2 k
  q1 : h.IsTuple l1 xs
  q2 : h.IsTuple l2 ys
  old : ∀ c o, h0.get? c = some o → h.get? c = some o
  sz : h0.objs.size ≤ h.objs.size
  sS : S < h.objs.size
  sT : TO < h.objs.size
  n : acc.size = k
  it : ∀ (j : Nat) (v : Value), acc[j]? = some v → ∃ a x y, v = .ref a ∧ xs[j]? = some x ∧ ys[j]? = some y ∧ IsPair h a x y ∧ h0.objs.size ≤ a ∧ a ≠ z ∧ a ≠ TO ∧ a ≠ i1 ∧ a ≠ i2 ∧ a ≠ S
  inj : ∀ (i j : Nat) (a : Addr), acc[i]? = some (Value.ref a) → acc[j]? = some (Value.ref a) → i = j
/-- the end of it -/
structure ZE (h0 h : Heap) (S : Addr) (xs ys : Array Value) (acc : Array Value) : Prop where
  old : ∀ c o, h0.get? c = some o → h.get? c = some o
  n : acc.size = min xs.size ys.size
  it : ∀ (j : Nat) (v : Value), acc[j]? = some v → ∃ a x y, v = .ref a ∧ xs[j]? = some x ∧ ys[j]? = some y ∧ IsPair h a x y ∧ h0.objs.size ≤ a ∧ a ≠ S
  inj : ∀ (i j : Nat) (a : Addr), acc[i]? = some (Value.ref a) → acc[j]? = some (Value.ref a) → i = j
theorem push_get {acc : Array Value} {v u : Value} {j : Nat} (e : (acc.push v)[j]? = some u) : acc[j]? = some u ∨ (j = acc.size ∧ u = v) := by
  rw [Array.getElem?_push] at e
  split at e
  · exact .inr ⟨by assumption, (Option.some.inj e).symm⟩
  · exact .inl e
theorem loop_zipT {h0 : Heap} {z TI TO i1 i2 l1 l2 S : Addr} {xs ys : Array Value} {res : Value} {R : Result → Shared → Prop} (hh : A.handled = none) (D : ZipApart z TI TO i1 i2 l1 l2)
    (n0 : ∀ c o, h0.get? c = some o → c ≠ z ∧ c ≠ TO ∧ c ≠ i1 ∧ c ≠ i2 ∧ c ≠ S) (nS : S ≠ z ∧ S ≠ TI ∧ S ≠ TO ∧ S ≠ i1 ∧ S ≠ i2 ∧ S ≠ l1 ∧ S ≠ l2) (hz : min xs.size ys.size ≤ sizeLine) :
    ∀ (r k : Nat) (s : Shared) (acc : Array Value) (c : Nat), min xs.size ys.size - k = r → k ≤ min xs.size ys.size → ZL h0 s.heap z TI TO i1 i2 l1 l2 S xs ys k acc → s.heap.get? S = some { cls := .type "list", dict := none, data := .seq acc c, slots := #[] } →
      (∀ h' acc' c', ZE h0 h' S xs ys acc' → h'.get? S = some { cls := .type "list", dict := none, data := .seq acc' c', slots := #[] } → R (.ok (.ret res)) { s with heap := h' }) →
      codeAny (model prog w) A (.builtin "list.extend.loop" ⟨[.ref S, .ref z, res], []⟩) R s := by
  intro r
  induction r with
  | zero =>
    intro k s acc c hk hk2 Z hS hR
    have kn : k = min xs.size ys.size := by omega
    have hend : xs[k]? = none ∨ ys[k]? = none := by
      rw [Array.getElem?_eq_none_iff, Array.getElem?_eq_none_iff]
      omega
    have fin : ∀ h' : Heap, (∀ c o, c ≠ z → c ≠ TO → c ≠ i1 → c ≠ i2 → s.heap.get? c = some o → h'.get? c = some o) → R (.ok (.ret res)) { s with heap := h' } := fun h' kp =>
      hR h' acc c ⟨fun c o e => by
        obtain ⟨a1, a2, a3, a4, a5⟩ := n0 c o e
        exact kp c o a1 a2 a3 a4 (Z.old c o e), by rw [Z.n, kn], fun j v e => by
        obtain ⟨a, x, y, e1, e2, e3, e4, e5, a1, a2, a3, a4, a5⟩ := Z.it j v e
        exact ⟨a, x, y, e1, e2, e3, kp _ _ a1 a2 a3 a4 e4, e5, a5⟩, Z.inj⟩ (kp _ _ nS.1 nS.2.2.1 nS.2.2.2.1 nS.2.2.2.2.1 hS)
    refine codeAny_builtin F.entry_extend_loop ?_
    rw [Around.under_plainId F.plain_extend_loop _]
    show wpAny _ A.in1 (pyNext (.ref z) >>= _) _ _ s
    rcases Z.st with ⟨-, q0, a, b, q1⟩ | st
    · exact wpAny_bind (RZ.pyNext_zipT_end (A := A.in1) hh D q0 Z.ti q1 Z.t1 Z.t2 Z.q1 Z.q2 hend fun h' kp => wpAny_pure (fin h' kp))
    · exact wpAny_bind (zip_heldT_end (A := A.in1) hh D ⟨st, Z.ti, Z.t1, Z.t2, Z.q1, Z.q2⟩ hend fun h' kp => wpAny_pure (fin h' fun c o a1 _ a3 a4 e => kp c o a1 a3 a4 e))
  | succ r ih =>
    intro k s acc c hk hk2 Z hS hR
    have k1 : k < xs.size := by omega
    have k2 : k < ys.size := by omega
    have hx : xs[k]? = some xs[k] := Array.getElem?_eq_getElem k1
    have hy : ys[k]? = some ys[k] := Array.getElem?_eq_getElem k2
    generalize xs[k] = x at hx
    generalize ys[k] = y at hy
    have step : ∀ h' : Heap, (∃ T f oT, IsZipHeld h' z TI TO T f ∧ h'.get? T = some oT) → h'.IsTupleIter i1 l1 (k + 1) → h'.IsTupleIter i2 l2 (k + 1) → IsPair h' s.heap.objs.size x y → h'.objs.size = s.heap.objs.size + 1 →
        (∀ c o, c ≠ z → c ≠ TO → c ≠ i1 → c ≠ i2 → s.heap.get? c = some o → h'.get? c = some o) →
        wpAny (model prog w) A.in1 (updateSeq S (·.push (.ref s.heap.objs.size)) >>= fun _ => again (.builtin "list.extend.loop" ⟨[.ref S, .ref z, res], []⟩))
          (fun fin s' => match fin with | .done f => R (.ok f) s' | .again c' => c'.quiet = true ∧ codeAny (model prog w) A c' R s') (fun e s' => R (.error e) s') { s with heap := h' } := by
      intro h' st' t1' t2' pair sz' kp
      have hS' := kp S _ nS.1 nS.2.2.1 nS.2.2.2.1 nS.2.2.2.2.1 hS
      have fresh : ∀ c o, s.heap.get? c = some o → s.heap.objs.size ≠ c := fun c o e => Nat.ne_of_gt (Heap.lt_size e)
      have zs : ∃ o, s.heap.get? z = some o := by
        rcases Z.st with ⟨-, q0, -⟩ | ⟨_, _, _, q0, -⟩
        · exact ⟨_, q0⟩
        · exact ⟨_, q0⟩
      have up : ∀ (f : Array Value → Array Value) c o, c ≠ S → h'.get? c = some o → (h'.update S (Obj.mapSeq f)).get? c = some o := fun f c o n e => (Heap.get?_update_other _ _ (Ne.symm n)).trans e
      have same : ∀ f : Array Value → Array Value, (h'.update S (Obj.mapSeq f)).objs.size = h'.objs.size := fun f => (Heap.SameBut.update (h := h') (a := S) (f := Obj.mapSeq f)).1
      refine wpAny_bind ?_
      refine wpAny_updateSeq hS' rfl (wpAny_pure ⟨plainId_quiet F.plain_extend_loop _, ih (k + 1) _ (acc.push (.ref s.heap.objs.size)) _ (by omega) (by omega) ?_ (Heap.get?_update_self _ hS' rfl) fun h'' acc' c' z1 z2 => hR h'' acc' c' z1 z2⟩)
        (by rw [Z.n]; omega) (by show (acc.push (.ref s.heap.objs.size)).size ≤ sizeLine + 1; rw [Array.size_push, Z.n]; omega)
      have lt : ∀ (j : Nat) (a : Addr), acc[j]? = some (Value.ref a) → a ≠ s.heap.objs.size := fun j a e => by
        obtain ⟨a', x', y', e1, -, -, e4, -⟩ := Z.it j _ e
        cases e1
        exact Nat.ne_of_lt (Heap.lt_size e4)
      refine ⟨.inr ?_, ?_, ?_, ?_, ?_, ?_, fun c o e => ?_, ?_, ?_, ?_, ?_, fun j v e => ?_, fun i j a e1 e2 => ?_⟩
      · obtain ⟨T, f, oT, a1, a2⟩ := st'
        by_cases c : T = S
        · subst c
          exact ⟨T, f, _, up _ _ _ (Ne.symm nS.1) a1, Heap.get?_update_self _ hS' rfl⟩
        · exact ⟨T, f, oT, up _ _ _ (Ne.symm nS.1) a1, up _ _ _ c a2⟩
      · exact up _ _ _ (Ne.symm nS.2.1) (kp _ _ D.TIz D.TITO D.TIi1 D.TIi2 Z.ti)
      · exact t1'.at fun o e => up _ _ _ (Ne.symm nS.2.2.2.1) e
      · exact t2'.at fun o e => up _ _ _ (Ne.symm nS.2.2.2.2.1) e
      · obtain ⟨o, e, q⟩ := Z.q1
        exact ⟨o, up _ _ _ (Ne.symm nS.2.2.2.2.2.1) (kp _ _ D.l1z D.l1TO D.l1i1 D.l1i2 e), q⟩
      · obtain ⟨o, e, q⟩ := Z.q2
        exact ⟨o, up _ _ _ (Ne.symm nS.2.2.2.2.2.2) (kp _ _ D.l2z D.l2TO D.l2i1 D.l2i2 e), q⟩
      · obtain ⟨a1, a2, a3, a4, a5⟩ := n0 c o e
        exact up _ _ _ a5 (kp c o a1 a2 a3 a4 (Z.old c o e))
      · show _ ≤ (h'.update S (Obj.mapSeq _)).objs.size
        rw [same, sz']
        exact Nat.le_succ_of_le Z.sz
      · show _ < (h'.update S (Obj.mapSeq _)).objs.size
        rw [same, sz']
        exact Nat.lt_succ_of_lt Z.sS
      · show _ < (h'.update S (Obj.mapSeq _)).objs.size
        rw [same, sz']
        exact Nat.lt_succ_of_lt Z.sT
      · rw [Array.size_push, Z.n]
      · rcases push_get e with e' | ⟨e', rfl⟩
        · obtain ⟨a, x', y', e1, e2, e3, e4, e5, a1, a2, a3, a4, a5⟩ := Z.it j v e'
          exact ⟨a, x', y', e1, e2, e3, up _ _ _ a5 (kp _ _ a1 a2 a3 a4 e4), e5, a1, a2, a3, a4, a5⟩
        · rw [Z.n] at e'
          subst e'
          have zo : TO < s.heap.objs.size := Z.sT
          obtain ⟨oz, ez⟩ := zs
          obtain ⟨o1, q1, -⟩ := Z.t1
          obtain ⟨o2, q2, -⟩ := Z.t2
          exact ⟨_, x, y, rfl, hx, hy, up _ _ _ (fresh _ _ hS) pair, Z.sz, fresh _ _ ez, Nat.ne_of_gt zo, fresh _ _ q1, fresh _ _ q2, fresh _ _ hS⟩
      · rcases push_get e1 with e1 | ⟨e1, z1⟩
        · rcases push_get e2 with e2 | ⟨e2, z2⟩
          · exact Z.inj i j a e1 e2
          · cases z2
            exact absurd rfl (lt i _ e1)
        · rcases push_get e2 with e2 | ⟨e2, z2⟩
          · cases z1
            exact absurd rfl (lt j _ e2)
          · rw [e1, e2]
    refine codeAny_builtin F.entry_extend_loop ?_
    rw [Around.under_plainId F.plain_extend_loop _]
    show wpAny _ A.in1 (pyNext (.ref z) >>= _) _ _ s
    rcases Z.st with ⟨-, q0, a, b, q1⟩ | st
    · refine wpAny_bind (RZ.pyNext_zipT_item (A := A.in1) D q0 Z.ti q1 Z.t1 Z.t2 Z.q1 Z.q2 hx hy fun h' a1 a2 a3 a4 a5 a6 a7 => ?_)
      exact step h' ⟨_, _, _, a1, a5⟩ a3 a4 a5 a6 a7
    · refine wpAny_bind (zip_heldT (A := A.in1) D ⟨st, Z.ti, Z.t1, Z.t2, Z.q1, Z.q2⟩ hx hy fun h' a1 a3 a4 a5 a6 a7 => ?_)
      exact step h' a1 a3 a4 a5 a6 fun c o c1 _ c3 c4 e => a7 c o c1 c3 c4 e
theorem zip_no_len : typeLookup (.type "zip") "__len__" = pure none := by rw [typeLookup_type, builtinLookup_eq_fast]; kernel_rfl
theorem zip_no_hint : typeLookup (.type "zip") "__length_hint__" = pure none := by rw [typeLookup_type, builtinLookup_eq_fast]; kernel_rfl
/-- a zip that has given out nothing yet -/
structure ZF (h0 h : Heap) (z TI TO i1 i2 l1 l2 : Addr) (xs ys : Array Value) : Prop where
  z0 : IsZip h z TI TO .none
  to : ∃ a b, IsPair h TO a b
  ti : IsPair h TI (.ref i1) (.ref i2)
  t1 : h.IsTupleIter i1 l1 0
  t2 : h.IsTupleIter i2 l2 0
  q1 : h.IsTuple l1 xs
  q2 : h.IsTuple l2 ys
  old : ∀ c o, h0.get? c = some o → h.get? c = some o
  sz : h0.objs.size ≤ h.objs.size
def NotS (S z TI TO i1 i2 l1 l2 : Addr) : Prop := S ≠ z ∧ S ≠ TI ∧ S ≠ TO ∧ S ≠ i1 ∧ S ≠ i2 ∧ S ≠ l1 ∧ S ≠ l2
theorem ZF.up {h0 h g : Heap} {z TI TO i1 i2 l1 l2 S : Addr} {xs ys : Array Value} (Z : ZF h0 h z TI TO i1 i2 l1 l2 xs ys) (nS : NotS S z TI TO i1 i2 l1 l2) (n0 : ∀ c o, h0.get? c = some o → c ≠ S)
    (up : ∀ c o, c ≠ S → h.get? c = some o → g.get? c = some o) (sz : h.objs.size ≤ g.objs.size) : ZF h0 g z TI TO i1 i2 l1 l2 xs ys := by
  obtain ⟨a, b, q⟩ := Z.to
  obtain ⟨o1, e1, r1⟩ := Z.q1
  obtain ⟨o2, e2, r2⟩ := Z.q2
  exact ⟨up _ _ (Ne.symm nS.1) Z.z0, ⟨a, b, up _ _ (Ne.symm nS.2.2.1) q⟩, up _ _ (Ne.symm nS.2.1) Z.ti, Z.t1.at fun o e => up _ _ (Ne.symm nS.2.2.2.1) e, Z.t2.at fun o e => up _ _ (Ne.symm nS.2.2.2.2.1) e,
    ⟨o1, up _ _ (Ne.symm nS.2.2.2.2.2.1) e1, r1⟩, ⟨o2, up _ _ (Ne.symm nS.2.2.2.2.2.2) e2, r2⟩, fun c o e => up _ _ (n0 c o e) (Z.old c o e), Nat.le_trans Z.sz sz⟩
theorem ZF.zl {h0 h : Heap} {z TI TO i1 i2 l1 l2 S : Addr} {xs ys : Array Value} (Z : ZF h0 h z TI TO i1 i2 l1 l2 xs ys) (sS : S < h.objs.size) : ZL h0 h z TI TO i1 i2 l1 l2 S xs ys 0 #[] := by
  obtain ⟨a, b, q⟩ := Z.to
  exact ⟨.inl ⟨rfl, Z.z0, a, b, q⟩, Z.ti, Z.t1, Z.t2, Z.q1, Z.q2, Z.old, Z.sz, sS, Heap.lt_size q, rfl, fun j v e => by simp at e, fun i j a e => by simp at e⟩
theorem extend_zipT {h0 : Heap} {z TI TO i1 i2 l1 l2 S : Addr} {xs ys : Array Value} {res : Value} {R : Result → Shared → Prop} {c0 : Nat} (hh : A.handled = none) (D : ZipApart z TI TO i1 i2 l1 l2)
    (n0 : ∀ c o, h0.get? c = some o → c ≠ z ∧ c ≠ TO ∧ c ≠ i1 ∧ c ≠ i2 ∧ c ≠ S) (nS : NotS S z TI TO i1 i2 l1 l2) (hz : min xs.size ys.size ≤ sizeLine) (Z : ZF h0 s.heap z TI TO i1 i2 l1 l2 xs ys) (hS : s.heap.get? S = some { cls := .type "list", data := .seq #[] c0 })
    (hR : ∀ h' acc' c', ZE h0 h' S xs ys acc' → h'.get? S = some { cls := .type "list", dict := none, data := .seq acc' c', slots := #[] } → R (.ok (.ret res)) { s with heap := h' }) :
    wpAny (model prog w) A.in1 (Builtin.List.listExtendWith (.ref S) (.ref z) res)
      (fun fin s' => match fin with | .done f => R (.ok f) s' | .again c' => c'.quiet = true ∧ codeAny (model prog w) A c' R s') (fun e s' => R (.error e) s') s := by
  have hT : s.TypeIs (.ref z) "zip" := ⟨_, Z.z0, rfl⟩
  unfold Builtin.List.listExtendWith
  refine wpAny_bind (wpAny_typeOf hT ?_)
  have h1 : Builtin.List.listSameRef (.ref S) (.ref z) = false := by simp [Builtin.List.listSameRef, nS.1]
  have h2 : (Value.type "zip" == Value.type "list") = false := by decide
  have h3 : (Value.type "zip" == Value.type "tuple") = false := by decide
  simp only [h1, h2, h3, Bool.or_false, Bool.false_eq_true, if_false]
  refine wpAny_bind (wpAny_pyIter_zip Z.z0 ?_)
  refine wpAny_bind (wpAny_holding ?_)
  unfold Builtin.List.listLengthHint
  refine wpAny_bind (wpAny_specialOf hT zip_no_len ?_)
  show wpAny _ A.in1 (specialOf (Value.ref z) (Str.ofString "__length_hint__") >>= _) _ _ _
  refine wpAny_bind (wpAny_specialOf hT zip_no_hint ?_)
  refine wpAny_pure ?_
  show wpAny _ A.in1 (rule "list.extend.makes-room" >>= fun _ => Builtin.List.listTouch (.ref S) >>= fun _ =>
    again (.builtin "list.extend.loop" ⟨[.ref S, .ref z, res], []⟩)) _ _ _
  refine wpAny_bind (wpAny_rule ?_)
  refine wpAny_bind ?_
  show wpAny _ A.in1 (updateSeq S (·.push .none) >>= fun _ => updateSeq S (·.pop)) _ _ _
  refine wpAny_bind (wpAny_updateSeq hS rfl ?_)
  have hS2 := Heap.get?_update_self (Obj.mapSeq (·.push Value.none)) hS rfl
  refine wpAny_updateSeq (hz := by seq_fits) hS2 rfl ?_
  have hS3 := Heap.get?_update_self (Obj.mapSeq (·.pop)) hS2 rfl
  have oth : ∀ b o, b ≠ S → s.heap.get? b = some o → ((s.heap.update S (Obj.mapSeq (·.push Value.none))).update S (Obj.mapSeq (·.pop))).get? b = some o :=
    fun b o hb e => (Heap.get?_update_other _ _ (Ne.symm hb)).trans ((Heap.get?_update_other _ _ (Ne.symm hb)).trans e)
  have size : ((s.heap.update S (Obj.mapSeq (·.push Value.none))).update S (Obj.mapSeq (·.pop))).objs.size = s.heap.objs.size := by
    rw [(Heap.SameBut.update (h := s.heap.update S (Obj.mapSeq (·.push Value.none))) (a := S) (f := Obj.mapSeq (·.pop))).1, (Heap.SameBut.update (h := s.heap) (a := S) (f := Obj.mapSeq (·.push Value.none))).1]
  refine wpAny_pure ⟨plainId_quiet F.plain_extend_loop _, loop_zipT hh D n0 nS hz _ 0 _ #[] _ rfl (Nat.zero_le _) ((Z.up nS (fun c o e => (n0 c o e).2.2.2.2) oth (Nat.le_of_eq size.symm)).zl ?_) hS3 fun h' acc' c' z1 z2 => hR h' acc' c' z1 z2⟩
  show S < ((s.heap.update S (Obj.mapSeq (·.push Value.none))).update S (Obj.mapSeq (·.pop))).objs.size
  rw [size]
  exact Heap.lt_size hS
theorem init_zipT {h0 : Heap} {z TI TO i1 i2 l1 l2 S : Addr} {xs ys : Array Value} {R : Result → Shared → Prop} (hh : A.handled = none) (D : ZipApart z TI TO i1 i2 l1 l2)
    (n0 : ∀ c o, h0.get? c = some o → c ≠ z ∧ c ≠ TO ∧ c ≠ i1 ∧ c ≠ i2 ∧ c ≠ S) (nS : NotS S z TI TO i1 i2 l1 l2) (hz : min xs.size ys.size ≤ sizeLine) (Z : ZF h0 s.heap z TI TO i1 i2 l1 l2 xs ys) (hS : s.heap.get? S = some { cls := .type "list", data := .seq #[] })
    (hR : ∀ h' acc' c', ZE h0 h' S xs ys acc' → h'.get? S = some { cls := .type "list", dict := none, data := .seq acc' c', slots := #[] } → R (.ok (.ret .none)) { s with heap := h' }) :
    wpAny (model prog w) A.in1 (Builtin.«list.__init__» ⟨[.ref S, .ref z], []⟩)
      (fun fin s' => match fin with | .done f => R (.ok f) s' | .again c' => c'.quiet = true ∧ codeAny (model prog w) A c' R s') (fun e s' => R (.error e) s') s := by
  show wpAny _ A.in1 (do let old ← Builtin.List.listItems (.ref S); Builtin.List.listUpdate (.ref S) (fun _ => #[]); letGo old.toList.reverse; Builtin.List.listExtendWith (.ref S) (.ref z) .none) _ _ s
  refine wpAny_bind ?_
  unfold Builtin.List.listItems
  refine wpAny_bind (wpAny_seqItems hS rfl (wpAny_pure ?_))
  show wpAny _ A.in1 (updateSeq S (fun _ => #[]) >>= fun _ => letGo (#[] : Array Value).toList.reverse >>= fun _ => Builtin.List.listExtendWith (.ref S) (.ref z) .none) _ _ s
  refine wpAny_bind (wpAny_updateSeq hS rfl ?_)
  have hS2 := Heap.get?_update_self (Obj.mapSeq (fun _ => (#[] : Array Value))) hS rfl
  have oth : ∀ b o, b ≠ S → s.heap.get? b = some o → (s.heap.update S (Obj.mapSeq (fun _ => (#[] : Array Value)))).get? b = some o :=
    fun b o hb e => (Heap.get?_update_other _ _ (Ne.symm hb)).trans e
  have size : (s.heap.update S (Obj.mapSeq (fun _ => (#[] : Array Value)))).objs.size = s.heap.objs.size := (Heap.SameBut.update (h := s.heap) (a := S) (f := Obj.mapSeq (fun _ => (#[] : Array Value)))).1
  refine wpAny_bind (wpAny_letGo ?_)
  exact extend_zipT (s := { s with heap := s.heap.update S (Obj.mapSeq (fun _ => (#[] : Array Value))) }) hh D n0 nS hz (Z.up nS (fun c o e => (n0 c o e).2.2.2.2) oth (Nat.le_of_eq size.symm)) hS2 fun h' acc' c' z1 z2 => hR h' acc' c' z1 z2
theorem call_list_zipT {h0 : Heap} {z TI TO i1 i2 l1 l2 : Addr} {xs ys : Array Value} {Q : Value → Shared → Prop} (hh : A.handled = none) (D : ZipApart z TI TO i1 i2 l1 l2)
    (n0 : ∀ c o, h0.get? c = some o → c ≠ z ∧ c ≠ TO ∧ c ≠ i1 ∧ c ≠ i2) (hz : min xs.size ys.size ≤ sizeLine) (Z : ZF h0 s.heap z TI TO i1 i2 l1 l2 xs ys)
    (hQ : ∀ h' acc c', ZE h0 h' s.heap.objs.size xs ys acc → h'.get? s.heap.objs.size = some { cls := .type "list", dict := none, data := .seq acc c', slots := #[] } → Q (.ref s.heap.objs.size) { s with heap := h' }) :
    wpAny (model prog w) A (call (.type "list") [.ref z]) Q E s := by
  refine callType_codes (Q₁ := fun obj s₁ => obj = .ref s.heap.objs.size ∧ s₁ = { s with heap := s.heap.push { cls := .type "list", data := .seq #[] } }) F.called_list (F.typeCall_list_1 _) F.entry_list_init
    (code_list_new _ ⟨rfl, rfl⟩) fun obj s₁ h₁ => ?_
  obtain ⟨rfl, rfl⟩ := h₁
  have hS : (s.heap.push { cls := .type "list", data := .seq #[] }).get? s.heap.objs.size = some { cls := .type "list", data := .seq #[] } := Heap.get?_push_size _ rfl
  have fresh : ∀ c o, s.heap.get? c = some o → s.heap.objs.size ≠ c := fun c o e => Nat.ne_of_gt (Heap.lt_size e)
  obtain ⟨a, b, q⟩ := Z.to
  obtain ⟨o1, e1, -⟩ := Z.t1
  obtain ⟨o2, e2, -⟩ := Z.t2
  obtain ⟨o3, e3, -⟩ := Z.q1
  obtain ⟨o4, e4, -⟩ := Z.q2
  have nS : NotS s.heap.objs.size z TI TO i1 i2 l1 l2 := ⟨fresh _ _ Z.z0, fresh _ _ Z.ti, fresh _ _ q, fresh _ _ e1, fresh _ _ e2, fresh _ _ e3, fresh _ _ e4⟩
  have n1 : ∀ c o, h0.get? c = some o → c ≠ z ∧ c ≠ TO ∧ c ≠ i1 ∧ c ≠ i2 ∧ c ≠ s.heap.objs.size := fun c o e => by
    obtain ⟨a1, a2, a3, a4⟩ := n0 c o e
    exact ⟨a1, a2, a3, a4, (fresh _ _ (Z.old c o e)).symm⟩
  refine ⟨⟨_, hS, rfl⟩, F.args_list_init_2 _ _, init_zipT (A := A.in1) (s := { s with heap := s.heap.push { cls := .type "list", data := .seq #[] } }) hh D n1 nS hz (Z.up nS (fun c o e => (n1 c o e).2.2.2.2) (fun c o _ e => Heap.get?_push_of_some _ e) (by rw [Heap.size_push]; exact Nat.le_succ _)) hS fun h' acc' c' z1 z2 => ?_⟩
  exact ⟨rfl, hQ h' acc' c' z1 z2⟩
end
/-- tuples laid one behind the other -/
def layT (H : Hp) : List (Addr × List V) → Hp
  | [] => H
  | p :: ps => upd (layT H ps) p.1 (.tup p.2)
theorem layT_none {H : Hp} {a : Addr} : ∀ {ps : List (Addr × List V)}, a ∉ ps.map (·.1) → layT H ps a = H a
  | [], _ => rfl
  | p :: ps, h => by
    rw [List.map_cons, List.mem_cons] at h
    show upd (layT H ps) p.1 (.tup p.2) a = _
    rw [upd_ne fun z => h (.inl z)]
    exact layT_none fun z => h (.inr z)
section
variable {X : Cx} {pins : List (Addr × Obj)} {σ : L2.St} {H : Hp} {s : Shared}
theorem lay_many (I : Inv X pins σ H s) {hf : Heap} (old : ∀ c o, s.heap.get? c = some o → hf.get? c = some o) : ∀ ps : List (Addr × List V), (ps.map (·.1)).Nodup →
    (∀ p ∈ ps, s.heap.objs.size ≤ p.1 ∧ p.2.length ≤ sizeLine ∧ ∃ its : List Value, Vals p.2 its ∧ IsTup hf p.1 its.toArray) →
    ∃ G : Heap, (∀ c o, G.get? c = some o → hf.get? c = some o) ∧ (∀ c, s.heap.objs.size ≤ c → c ∉ ps.map (·.1) → G.get? c = none) ∧ (∀ c o, (c < s.heap.objs.size ∨ c ∈ ps.map (·.1)) → hf.get? c = some o → G.get? c = some o) ∧ ∀ t', Inv X pins σ (layT H ps) { s with heap := G, toks := t' }
  | [], _, _ => by
    obtain ⟨G, g1, g2⟩ := restrict hf fun c => decide (c < s.heap.objs.size)
    refine ⟨G, fun c o e => ?_, fun c hc _ => g2 c (decide_eq_false (Nat.not_lt.mpr hc)), fun c o hc e => ?_, fun t' => I.kept fun c o e => ?_⟩
    · by_cases q : c < s.heap.objs.size
      · rw [g1 c (decide_eq_true q)] at e; exact e
      · rw [g2 c (decide_eq_false q)] at e; cases e
    · rcases hc with hc | hc
      · rw [g1 c (decide_eq_true hc)]; exact e
      · cases hc
    · rw [g1 c (decide_eq_true (Heap.lt_size e))]
      exact old c o e
  | p :: ps, nd, hp => by
    rw [List.map_cons, List.nodup_cons] at nd
    obtain ⟨G, a1, a2, a3, a4⟩ := lay_many I old ps nd.2 fun q hq => hp q (List.mem_cons_of_mem _ hq)
    obtain ⟨lp, zp, its, r, t⟩ := hp p List.mem_cons_self
    obtain ⟨F, f1, f2⟩ := restrict hf fun c => decide (c < s.heap.objs.size ∨ c ∈ (p :: ps).map (·.1))
    have sub : ∀ c o, F.get? c = some o → hf.get? c = some o := fun c o e => by
      by_cases q : c < s.heap.objs.size ∨ c ∈ (p :: ps).map (·.1)
      · rw [f1 c (decide_eq_true q)] at e; exact e
      · rw [f2 c (decide_eq_false q)] at e; cases e
    have into : ∀ c o, (c < s.heap.objs.size ∨ c ∈ (p :: ps).map (·.1)) → hf.get? c = some o → F.get? c = some o := fun c o q e => by
      rw [f1 c (decide_eq_true q)]; exact e
    refine ⟨F, sub, fun c hc hn => f2 c (decide_eq_false fun z => z.elim (Nat.not_lt.mpr hc) hn), into, fun t' => ?_⟩
    refine (a4 t').laidN (t' := t') (fun c o e => ?_) (a2 p.1 lp nd.1) (by rw [layT_none nd.1]; exact I.hok.fresh lp) (show ObjOk X.prog X.w _ _ _ (.tup p.2) from ⟨zp, its, r, ?_⟩)
    · have q : c < s.heap.objs.size ∨ c ∈ ps.map (·.1) := by
        by_cases q1 : c < s.heap.objs.size
        · exact .inl q1
        · by_cases q2 : c ∈ ps.map (·.1)
          · exact .inr q2
          · have := a2 c (Nat.not_lt.mp q1) q2
            rw [this] at e; cases e
      exact into c o (q.elim .inl fun z => .inr (List.mem_cons_of_mem _ z)) (a1 c o e)
    · obtain ⟨o, e, q⟩ := t
      exact ⟨o, into _ _ (.inr List.mem_cons_self) e, q⟩
end
def pairV (xs ys : List V) : List (List V) := (xs.zip ys).map fun p => [p.1, p.2]
def tListZip (K : PySem.W.Frag) (ta : TA) : TE := fun σ H Q => ta σ H fun vs H1 => ∃ (a b : Addr) (xs ys : List V), vs = [.ref a, .ref b] ∧ SqT K H1 a xs ∧ SqT K H1 b ys ∧
  ∀ (as : List Addr) (p : Addr), as.length = min xs.length ys.length → as.Nodup → p ∉ as → (∀ a ∈ as, H1 a = none) → H1 p = none → Q (.ref p) (upd (layT H1 (as.zip (pairV xs ys))) p (.lst (as.map V.ref)))
def adOf : Value → Addr
  | .ref a => a
  | _ => 0
theorem map_zip_fst {α β : Type} : ∀ (l : List α) (m : List β), l.length ≤ m.length → (l.zip m).map (·.1) = l
  | [], _, _ => rfl
  | a :: l, [], h => by simp at h
  | a :: l, b :: m, h => by
    rw [List.zip_cons_cons, List.map_cons, map_zip_fst l m (by simpa using h)]
theorem vals_at {xs : List V} {us : List Value} (r : Vals xs us) : ∀ (j : Nat) x u, xs[j]? = some x → us[j]? = some u → RelV x u := by
  induction r with
  | nil => intro j x u e; simp at e
  | cons r t ih =>
    intro j x u e1 e2
    cases j with
    | zero => cases e1; cases e2; exact r
    | succ j => exact ih j x u e1 e2
section
variable {X : Cx}
theorem pe_listZip {e e2 : Expr} {ta : TA} {p p2 pos pos2 : Pos} (hc : X.calm = true) (hgL : Gl X "list") (hmL : X.mg "list" = none) (hg : Gl X "zip") (hm : X.mg "zip" = none) (ha : PA X [e, e2] ta)
    (hs : starEach [e, e2] X.env = (false, eval e X.env) :: starEach [e2] X.env := by rfl) (hpl : (backTo pos2 (starEach [e2] X.env)).any (·.1) = false := by rfl)
    (na : starEach [.Call (.Name "zip" p2) [e, e2] [] pos2] X.env = (false, eval (.Call (.Name "zip" p2) [e, e2] [] pos2) X.env) :: starEach [] X.env := by rfl) :
    PE X (.Call (.Name "list" p) [.Call (.Name "zip" p2) [e, e2] [] pos2] [] pos) (tListZip X.K ta) := by
  have he : ∀ (pins : List (Addr × Obj)) (s : Shared) (σ : L2.St) (H : Hp) (Q : Addr → Addr → List V → List V → Hp → Prop), Inv X pins σ H s → (ta σ H fun vs H1 => ∃ (a b : Addr) (xs ys : List V), vs = [.ref a, .ref b] ∧ SqT X.K H1 a xs ∧ SqT X.K H1 b ys ∧ Q a b xs ys H1) →
      wpAny (model X.prog X.w) X.A (eval (.Call (.Name "zip" p2) [e, e2] [] pos2) X.env) (fun x s' => ∃ (a b : Addr) (xs ys : List V) (its its2 : List Value) (H1 : Hp) (s1 : Shared) (h' : Heap), x = .ref (s1.heap.objs.size + 4) ∧ s' = { s1 with heap := h' } ∧ Inv X pins σ H1 s1 ∧ Vals xs its ∧ Vals ys its2 ∧ its.length ≤ sizeLine ∧
        ZipApart (s1.heap.objs.size + 4) (s1.heap.objs.size + 2) (s1.heap.objs.size + 3) s1.heap.objs.size (s1.heap.objs.size + 1) a b ∧ ZF s1.heap h' (s1.heap.objs.size + 4) (s1.heap.objs.size + 2) (s1.heap.objs.size + 3) s1.heap.objs.size (s1.heap.objs.size + 1) a b its.toArray its2.toArray ∧ Q a b xs ys H1) X.xe s := by
    intro pins s σ H Q I h
    refine Call_ (ld_blt I hg hm PyProof.Rows.boot_zip (PyProof.Rows.callWith_type1 (thn (ha.run pos2 pins s σ H _ I h) fun us s1 ⟨vs, H1, I1, r1, q1⟩ => ?_) hs hpl))
    obtain ⟨a, b, xs, ys, ex, hqx, hqy, q1⟩ := q1
    subst ex
    cases r1 with
    | cons r rr =>
      cases rr with
      | cons r' rr =>
        cases rr
        cases r
        cases r'
        obtain ⟨its, rv, p1, z1⟩ := I1.tuple hqx
        obtain ⟨its2, rv2, p2', z2⟩ := I1.tuple hqy
        obtain ⟨o1, ho1, _⟩ := id p1
        obtain ⟨o2, ho2, _⟩ := id p2'
        refine RZ.call_zipT (show s1.heap.IsTuple a its.toArray from p1) (show s1.heap.IsTuple b its2.toArray from p2') fun h' hz hTI hTO h1 h2 hsz hk => ?_
        exact ⟨a, b, xs, ys, its, its2, H1, s1, h', rfl, rfl, I1, rv, rv2, by rw [← rv.length]; exact z1, PySem.W.ktu_apart s1.heap.objs.size a b (Heap.lt_size ho1) (Heap.lt_size ho2),
          ⟨hz, ⟨_, _, hTO⟩, hTI, h1, h2, (show h'.IsTuple a its.toArray from p1.keeps hk), (show h'.IsTuple b its2.toArray from p2'.keeps hk), hk, by rw [hsz]; exact Nat.le_add_right _ _⟩, q1⟩
  refine ⟨fun pins s σ H Q I h => ?_⟩
  refine Call_ (ld_blt I hgL hmL boot_list (PyProof.Rows.callWith_type1 (args_cons (thn (he pins s σ H (fun a b xs ys H1 => ∀ (as : List Addr) (p : Addr), as.length = min xs.length ys.length → as.Nodup → p ∉ as → (∀ a ∈ as, H1 a = none) → H1 p = none → Q (.ref p) (upd (layT H1 (as.zip (pairV xs ys))) p (.lst (as.map V.ref)))) I h) fun x s2 ⟨a, b, xs, ys, its, its2, H1, s1, h', ex, es, I1, rv, rv2, zl, D, Z, q⟩ => args_nil ?_) na) na))
  subst ex
  subst es
  have fr : ∀ c o, s1.heap.get? c = some o → c < s1.heap.objs.size := fun c o e => Heap.lt_size e
  refine call_list_zipT (h0 := s1.heap) (s := { s1 with heap := h' }) (I1.ok.hd hc) D (fun c o e => ?_) (by simp only [List.size_toArray]; exact Nat.le_trans (Nat.min_le_left _ _) zl) Z fun hf acc c' E el => ?_
  · have := fr c o e
    exact ⟨Nat.ne_of_lt (Nat.lt_of_lt_of_le this (Nat.le_add_right _ _)), Nat.ne_of_lt (Nat.lt_of_lt_of_le this (Nat.le_add_right _ _)), Nat.ne_of_lt this, Nat.ne_of_lt (Nat.lt_of_lt_of_le this (Nat.le_add_right _ _))⟩
  have lx := rv.length
  have ly := rv2.length
  have en : acc.size = min xs.length ys.length := by rw [E.n, List.size_toArray, List.size_toArray, lx, ly]
  obtain ⟨as, has⟩ : ∃ as : List Addr, as = acc.toList.map adOf := ⟨_, rfl⟩
  have la : as.length = min xs.length ys.length := by rw [has, List.length_map, Array.length_toList, en]
  have get : ∀ (j : Nat) (v : Value), acc[j]? = some v → ∃ (a : Addr) (x y : Value), v = .ref a ∧ as[j]? = some a ∧ its[j]? = some x ∧ its2[j]? = some y ∧ IsPair hf a x y ∧ s1.heap.objs.size ≤ a ∧ a ≠ h'.objs.size := fun j v e => by
    obtain ⟨a, x, y, e1, e2, e3, e4, e5, e6⟩ := E.it j v e
    subst e1
    exact ⟨a, x, y, rfl, by rw [has, List.getElem?_map, Array.getElem?_toList, e]; rfl, by simpa using e2, by simpa using e3, e4, e5, e6⟩
  have at_ : ∀ (j : Nat) (a : Addr), as[j]? = some a → acc[j]? = some (Value.ref a) := fun j a e => by
    rw [has, List.getElem?_map, Array.getElem?_toList] at e
    obtain ⟨v, ev, e⟩ := Option.map_eq_some_iff.mp e
    obtain ⟨a', x, y, e1, -⟩ := get j v ev
    subst e1
    rw [ev]
    exact congrArg _ (congrArg _ e)
  have lst : acc.toList = as.map Value.ref := by
    refine List.ext_getElem? fun j => ?_
    rw [List.getElem?_map, Array.getElem?_toList]
    cases ea : as[j]? with
    | some a => exact at_ j a ea
    | none =>
      rw [List.getElem?_eq_none_iff] at ea
      exact Array.getElem?_eq_none_iff.mpr (by rw [en, ← la]; exact ea)
  have nd : as.Nodup := List.pairwise_iff_getElem.mpr fun i j hi hj hij e => by
    have := E.inj i j _ (at_ i _ (List.getElem?_eq_getElem hi)) (at_ j _ (by rw [List.getElem?_eq_getElem hj, ← e]))
    exact Nat.ne_of_lt hij this
  have pl : (pairV xs ys).length = as.length := by unfold pairV; rw [List.length_map, List.length_zip, la]
  have pf : (as.zip (pairV xs ys)).map (·.1) = as := map_zip_fst _ _ (Nat.le_of_eq pl.symm)
  have ge : ∀ a ∈ as, s1.heap.objs.size ≤ a ∧ a ≠ h'.objs.size := fun a ha => by
    obtain ⟨j, ej⟩ := List.getElem?_of_mem ha
    obtain ⟨a', x, y, e1, e2, -, -, -, e5, e6⟩ := get j _ (at_ j a ej)
    cases e1
    exact ⟨e5, e6⟩
  have nS : h'.objs.size ∉ as := fun z => (ge _ z).2 rfl
  obtain ⟨G, a1, a2, a3, a4⟩ := lay_many I1 E.old (as.zip (pairV xs ys)) (by rw [pf]; exact nd) (fun p hp => by
    obtain ⟨j, ej⟩ := List.getElem?_of_mem hp
    rw [List.getElem?_zip_eq_some] at ej
    obtain ⟨e1, e2⟩ := ej
    unfold pairV at e2
    rw [List.getElem?_map] at e2
    obtain ⟨⟨vx, vy⟩, e3, e4⟩ := Option.map_eq_some_iff.mp e2
    rw [List.getElem?_zip_eq_some] at e3
    obtain ⟨a', x, y, z1, z2, z3, z4, z5, z6, -⟩ := get j _ (at_ j _ e1)
    cases z1
    refine ⟨z6, by rw [← e4]; exact Nat.le_of_ble_eq_true rfl, [x, y], by rw [← e4]; exact .cons (vals_at rv j _ _ e3.1 z3) (.cons (vals_at rv2 j _ _ e3.2 z4) .nil), ⟨_, z5, rfl, _, rfl⟩⟩)
  have relA : ∀ l : List Addr, Vals (l.map V.ref) (l.map Value.ref) := fun l => by
    induction l with
    | nil => exact .nil
    | cons a l ih => exact .cons rfl ih
  refine ⟨.ref h'.objs.size, upd (layT H1 (as.zip (pairV xs ys))) h'.objs.size (.lst (as.map V.ref)), (a4 s1.toks).laidN (t' := s1.toks) a1 (a2 _ Z.sz (by rw [pf]; exact nS)) (by rw [layT_none (by rw [pf]; exact nS)]; exact I1.hok.fresh Z.sz)
    (show ObjOk X.prog X.w _ _ _ (.lst (as.map V.ref)) from ⟨?_, acc.toList, c', by rw [lst]; exact relA as, by rw [Array.toArray_toList]; exact el⟩), rfl, q as h'.objs.size la nd nS (fun a ha => I1.hok.fresh (ge a ha).1) (I1.hok.fresh Z.sz)⟩
  rw [List.length_map, la, lx, ly]
  exact Nat.le_trans (Nat.min_le_left _ _) zl
end
section
variable {K : PySem.W.Frag} {H : Hp} {h : DH}
theorem layT_at : ∀ {ps : List (Addr × List V)} {a : Addr} {x : List V}, (ps.map (·.1)).Nodup → (a, x) ∈ ps → layT H ps a = some (.tup x)
  | p :: ps, a, x, nd, hp => by
    rw [List.map_cons, List.nodup_cons] at nd
    show upd (layT H ps) p.1 (.tup p.2) a = _
    rcases List.mem_cons.mp hp with e | hp
    · subst e; exact upd_same
    · rw [upd_ne fun z => nd.1 (by rw [← z]; exact List.mem_map.mpr ⟨_, hp, rfl⟩)]
      exact layT_at nd.2 hp
theorem layT_hr (hr : HR K H h) : ∀ {ps : List (Addr × List V)}, (ps.map (·.1)).Nodup → (∀ a ∈ ps.map (·.1), H a = none) → TX K H (layT H ps) ∧ HR K (layT H ps) h
  | [], _, _ => ⟨TX.refl, hr⟩
  | p :: ps, nd, hn => by
    rw [List.map_cons, List.nodup_cons] at nd
    obtain ⟨x, r⟩ := layT_hr hr nd.2 fun a ha => hn a (List.mem_cons_of_mem _ ha)
    have e : layT H ps p.1 = none := by rw [layT_none nd.1]; exact hn _ List.mem_cons_self
    exact ⟨x.trans (tx_new e), r.lay e⟩
theorem rvs_zipL {L : Hp} (x : TX K H L) : ∀ (ds es : List D) (vs us : List V) (as : List Addr), RVs K H ds vs → RVs K H es us → as.length = min vs.length us.length →
    (∀ (j : Nat) a y, as[j]? = some a → (pairV vs us)[j]? = some y → L a = some (.tup y)) → RVs K L (zipD ds es) (as.map V.ref)
  | [], es, vs, us, as, r1, r2, hl, _ => by
    rw [rvs_nil r1] at hl
    have : as = [] := List.length_eq_zero_iff.mp (by simpa using hl)
    subst this
    exact rvs_nil'
  | d :: ds, [], vs, us, as, r1, r2, hl, _ => by
    rw [rvs_nil r2] at hl
    have : as = [] := List.length_eq_zero_iff.mp (by simpa using hl)
    subst this
    exact rvs_nil'
  | d :: ds, e :: es, vs, us, as, r1, r2, hl, g => by
    obtain ⟨v, vs', e1, rv, r1'⟩ := rvs_cons r1
    obtain ⟨u, us', e2, ru, r2'⟩ := rvs_cons r2
    subst e1
    subst e2
    cases as with
    | nil => simp at hl
    | cons a as =>
      have ga := g 0 a [v, u] rfl rfl
      exact rvs_cons' (rv_tup' ga (rvs_cons' (RV.mono x _ _ rv) (rvs_cons' (RV.mono x _ _ ru) rvs_nil'))) (rvs_zipL x ds es vs' us' as r1' r2' (by simpa [Nat.succ_min_succ] using hl) fun j a y e1 e2 => g (j + 1) a y e1 e2)
end
def dListZip (da : DA) : DE := fun τ h Q => da τ h fun ds h1 => match ds with
  | [.tup xs, .tup ys] => ∀ p, h1 p = none → Q (.loc p) (hupd h1 p (.lst (zipD xs ys)))
  | _ => False
section
variable {X : Cx} {K : PySem.W.Frag}
theorem xlistzip {e e2 : Expr} {ta : TA} {da : DA} {p p2 pos pos2 : Pos} (hc : X.calm = true) (ha : XA X K [e, e2] ta da) (hm : X.mg "zip" = none) (hmL : X.mg "list" = none) (hgL : Gl X "list" := by rfl) (hg : Gl X "zip" := by rfl)
    (hs : starEach [e, e2] X.env = (false, eval e X.env) :: starEach [e2] X.env := by rfl) (hpl : (backTo pos2 (starEach [e2] X.env)).any (·.1) = false := by rfl)
    (na : starEach [.Call (.Name "zip" p2) [e, e2] [] pos2] X.env = (false, eval (.Call (.Name "zip" p2) [e, e2] [] pos2) X.env) :: starEach [] X.env := by rfl) (hK : X.K = K := by rfl) :
    XE X K (.Call (.Name "list" p) [.Call (.Name "zip" p2) [e, e2] [] pos2] [] pos) (tListZip K ta) (dListZip da) := by
  subst hK
  refine ⟨pe_listZip hc hgL hmL hg hm ha.p hs hpl na, fun τ σ h H Q Q0 rs hr bw w => ha.l τ σ h H _ _ rs hr (fun ds h1 vs H1 x1 r1 hr1 w1 => ?_) w⟩
  match ds, w1, r1 with
  | [.tup xs, .tup ys], w1, r1 =>
    obtain ⟨v, v2, e1, rv, rv2⟩ := rvs_two r1
    subst e1
    obtain ⟨a, us, e1, s1, q1⟩ := rv_tup rv
    obtain ⟨b, us2, e2, s2, q2⟩ := rv_tup rv2
    subst e1
    subst e2
    refine ⟨a, b, us, us2, rfl, .inl (.inl s1), .inl (.inl s2), fun as p la nd np hn hp => ?_⟩
    have pl : (pairV us us2).length = as.length := by unfold pairV; rw [List.length_map, List.length_zip, la]
    have pf : (as.zip (pairV us us2)).map (·.1) = as := map_zip_fst _ _ (Nat.le_of_eq pl.symm)
    obtain ⟨xl, hrl⟩ := layT_hr (ps := as.zip (pairV us us2)) hr1 (by rw [pf]; exact nd) (by rw [pf]; exact hn)
    have hp2 : layT H1 (as.zip (pairV us us2)) p = none := by rw [layT_none (by rw [pf]; exact np)]; exact hp
    have rl := rvs_zipL xl xs ys us us2 as q1 q2 la fun j a y e1 e2 => layT_at (by rw [pf]; exact nd) (List.mem_of_getElem? (i := j) (by rw [List.getElem?_zip_eq_some]; exact ⟨e1, e2⟩))
    exact bw_new hrl (bw.mono (x1.trans xl)) hp2 (ro_lst (tx_new hp2) rl) (w1 p)
end
end DL

set_option Elab.async false
set_option linter.all false
set_option maxRecDepth 100000
set_option maxHeartbeats 2000000
/-! DL47: what an expression tells is called; lambdas that are kept (in a list), called by lambdas that are handed on. -/
namespace DL
open PySem PySem.Spec PyProof.Rows L2
def dCallE (Θ : CT) (d : DE) (a : DA) : DE := fun τ h Q => d τ h fun v h1 => ∃ f n F, v = .loc f ∧ Θ f n F ∧ a τ h1 fun ds h2 => ds.length = n ∧ F ds h2 Q
def tCallE (K : PySem.W.Frag) (Θ : CT) (tf : TE) (ta : TA) : TE := fun σ H Q => tf σ H fun v H1 => ∃ f n F, v = .ref f ∧ Θ f n F ∧ ta σ H1 fun vs H2 => spD K n F vs H2 Q E0
section
variable {X : Cx} {K : PySem.W.Frag} {k : Nat} {p pos : Pos} {g e : Expr} {es : List Expr} {tf : TE} {df : DE} {ta : TA} {da : DA} {Θ : CT}
theorem xcallE (hr : RoomG k X.A) (hΘ : CloT X.prog X.w X.K X.mg X.base k Θ X.H_0 X.s_0.heap) (hf : XE X K g tf df) (ha : XA X K (e :: es) ta da) (hex : X.ex = [] := by rfl) (hK : X.K = K := by rfl)
    (ht : eval (.Call g (e :: es) [] pos) X.env = (do callWith pos (← eval g X.env) [] (backTo pos (starEach (e :: es) X.env)) (backToKw pos (keywordEach [] X.env))) := by rfl)
    (he : starEach (e :: es) X.env = (false, eval e X.env) :: starEach es X.env := by rfl) (hpl : (backTo pos (starEach es X.env)).any (·.1) = false := by rfl) :
    XE X K (.Call g (e :: es) [] pos) (tCallE X.K Θ tf ta) (dCallE Θ df da) := by
  subst hK
  refine ⟨⟨fun pins s σ H Q I w => ?_⟩, fun τ σ h H Q Q0 rs hr0 bw w1 => ?_⟩
  · rw [ht]
    refine wpAny_bind (thn (hf.p.run pins s σ H _ I w) fun u s1 ⟨v, H1, I1, r1, f, n, F, ev, hF, w2⟩ => ?_)
    subst ev
    cases (show u = Value.ref f from r1)
    have C := hΘ f n F hF
    refine PySem.W.callWith_F ((C.later (tx_inv I1) (later_inv I1 hex)).at_ I1.hok) (thn (ha.p.run pos pins s1 σ _ _ I1 w2) fun us s2 ⟨vs, H2, I2, r2, hsp⟩ => ?_) he hpl
    have C2 := C.later (tx_inv I2) (later_inv I2 hex)
    refine ⟨C2.at_ I2.hok, wpAny_call (codeAny_mono (C2.run X.A X.stack s2 H2 us vs Q E0 hr I2.env0 TX.refl (fun b o q n => ⟨⟨o.slots, q⟩, n⟩) r2 hsp) fun res s3 hq => ?_)⟩
    match res, hq with
    | .ok (.ret u), hq => exact I2.after hq
  · refine hf.l τ σ h H _ _ rs hr0 (fun v h1 V H1 x1 r1 hr1 ⟨f, n, F, e1, hF, w2⟩ => ?_) w1
    subst e1
    rw [rv_loc r1]
    exact ⟨f, n, F, rfl, hF, ha.l τ σ h1 H1 _ _ (rs.mono x1) hr1 (fun ds h2 vs H2 x2 r2 hr2 ⟨hl, w3⟩ => ⟨by rw [← r2.length]; exact hl, ds, h2, Q, r2, hr2, (bw.mono x1).mono x2, w3⟩) w2⟩
end
theorem clo_lam2 {X : Cx} {pins : List (Addr × Obj)} {σ : L2.St} {H : Hp} {s : Shared} {τ : DSt} {scope : Scope} {params : Arguments} {body : Expr} {pn : List Str} {n k kc : Nat} {p c' : Addr} {o oc : Obj} {q : Str} {ψ : Heap → Prop} {de : DE} {Θ : CT}
    (I : Inv X pins σ H s) (L : LamS2 X.env.scope scope X.N pn) (rs : RS X.K H τ σ) (hp : H p = some (.frz o (.ext ψ))) (hc : H c' = some (.frz oc (LamX.CodeO c' q))) (hφ : lamP X params body scope o c' q) (hn : pn.length = n)
    (hbind : ∀ (q : Str) (cl : List (Str × Addr)) (pm cv ctv : Value) (us : List Value), us.length = n → bindArgs (PySem.W.kla_fn "<lambda>" q params body scope cl pm cv ctv) ⟨us, []⟩ = pure (pn.zip us))
    (hΘ : CloT X.prog X.w X.K X.mg X.base kc Θ H s.heap)
    (hbody : ∀ (A : Around) (outer : List Env) (s : Shared) (H : Hp) (f c' : Addr), RoomG k (A.deeper (LamX.lamEnv X scope s.heap.objs.size f c')) → CloT X.prog X.w X.K X.mg X.base kc Θ H s.heap → ∃ t0, XE (lamCx2 X A outer s H scope f c' pn) X.K body t0 de) :
    CloOk X.prog X.w X.K X.mg X.base (k + 1) n p (lamF de n τ) H s.heap := by
  obtain ⟨rfl, pm, ctv, eo⟩ := hφ
  subst eo
  refine ⟨⟨_, _, _, hp, rfl⟩, fun A outer s1 HZ us vs Q E room e0 tx lat rel ⟨hl, ds, h0, Qd, rds, hr0, bw, hlen, w⟩ => ?_⟩
  have of1 := (e0.hok p _ (tx.2 _ _ _ hp)).1
  obtain ⟨_, ⟨oc2, vs2, t2, hoc, hdc, hvc⟩, _, _⟩ := e0.hok c' _ (tx.2 _ _ _ hc)
  have lim : s1.heap.NoLimit := e0.mod.nolimit.keeps fun b o q => (e0.bs b o q).1
  have ul : us.length = n := rel.length.symm.trans hl
  refine PySem.W.kla_callFunE room.r.depth of1 rfl L.co L.gen rfl ⟨c', oc2, vs2, t2, rfl, hoc, hdc, hvc⟩ ?_
  rw [hbind _ _ _ _ _ us ul]
  refine wpAny_pure (wpAny_newFunctionEnv (fun y hy => (L.own y hy).1) (fun y hy => L.par _ (List.of_mem_zip hy).1) (fun h₁ hns hsb => ⟨lim.fresh _ hsb, ?_⟩) L.kind)
  show codeAny _ _ (.expr body (LamX.lamEnv X scope s1.heap.objs.size p c')) _ _
  have kp : ∀ b o, s1.heap.get? b = some o → h₁.get? b = some o := fun b o e => hsb.extBut b o (Nat.ne_of_lt (Heap.lt_size e)) (Heap.get?_push_of_some _ e)
  obtain ⟨t0, xe⟩ := hbody A outer s1 HZ p c' ⟨room.r.deeper _, room.g⟩ (fun f m F hf => ((hΘ f m F hf).later tx lat))
  have J := lam_start3 (tk := s1.toks + (pn.zip us).length) (f := p) (c' := c') I L e0 room.r.hd lat (ul.trans hn.symm) rel hns kp
  refine PySem.W.kla_codeExpr (wpAny_mono (xe.p.run [] _ (σ ++ vs.map some) HZ Q J (xe.l (τ ++ ds.map some) _ h0 HZ Qd Q (rs_app (rs.mono tx) rds) hr0 bw w)) (fun v s' hq => ?_) fun e s' z => z.elim)
  obtain ⟨w', H', J', rv, qq⟩ := hq
  exact ⟨w', H', J'.os, J'.bare, J'.base, J'.hok, rv, qq⟩

/-! ### lambdas that are kept -/
abbrev LamK := LamP × Nat × DE
def thK (Θ : CT) (τ : DSt) (h : DH) : List LamK → CT
  | [] => Θ
  | l :: r => fun f m F => (h f = some (.clo l.1) ∧ m = l.2.1 ∧ F = lamF l.2.2 l.2.1 τ) ∨ thK Θ τ h r f m F
def dCallK (n : Nat) (M : CT → DC) (Θ : CT) (l0 : List LamK) (ls : CT → List LamD) (a : DA) : DE := fun τ h Q => a τ h fun ds h1 => ds.length = n ∧ lamsAt ds h1 (ls (thK Θ τ h1 l0)) ∧ M (thL (thK Θ τ h1 l0) τ ds (ls (thK Θ τ h1 l0))) ds h1 Q
def tCallKm (K : PySem.W.Frag) (n : Nat) (M : CT → DC) (Θ : CT) (l0 : List LamK) (ls : CT → List LamD) (ta : TA) : TE := fun σ H Q => ta σ H fun vs H1 => vs.length = n ∧ ∃ τ ds h Qd, RS K H1 τ σ ∧ RVs K H1 ds vs ∧ HR K H1 h ∧ Bw K H1 Qd Q ∧ lamsAt ds h (ls (thK Θ τ h l0)) ∧ M (thL (thK Θ τ h l0) τ ds (ls (thK Θ τ h l0))) ds h Qd
def LamOkN (X : Cx) (kd kc : Nat) (Θ : CT) (l : LamD) : Prop := ∀ (pins : List (Addr × Obj)) (σ : L2.St) (H : Hp) (s : Shared) (τ : DSt) (p c : Addr) (o oc : Obj) (q : Str) (ψ : Heap → Prop), Inv X pins σ H s → CloT X.prog X.w X.K X.mg X.base kd Θ H s.heap → RS X.K H τ σ → H p = some (.frz o (.ext ψ)) → H c = some (.frz oc (LamX.CodeO c q)) → l.2.1 o c q →
  CloOk X.prog X.w X.K X.mg X.base kc l.2.2.1 p (lamF l.2.2.2 l.2.2.1 τ) H s.heap
def LamsOkN (X : Cx) (kd kc : Nat) (Θ : CT) : List LamD → Prop
  | [] => True
  | l :: r => LamOkN X kd kc Θ l ∧ LamsOkN X kd kc Θ r
theorem LamOkN.mono {X : Cx} {kd j k : Nat} {Θ : CT} {l : LamD} (L : LamOkN X kd j Θ l) (h : j ≤ k) : LamOkN X kd k Θ l := fun pins σ H s τ p c o oc q ψ I t rs hp hc hl => (L pins σ H s τ p c o oc q ψ I t rs hp hc hl).mono h
theorem lamOkN {X : Cx} {scope : Scope} {params : Arguments} {body : Expr} {pn : List Str} {i n k kd : Nat} {de : DE} {Θ : CT} {φ : LamP} (hφ : φ = lamP X params body scope) (L : LamS2 X.env.scope scope X.N pn)
    (hbody : ∀ (A : Around) (outer : List Env) (s : Shared) (H : Hp) (f c' : Addr), RoomG k (A.deeper (LamX.lamEnv X scope s.heap.objs.size f c')) → CloT X.prog X.w X.K X.mg X.base kd Θ H s.heap → ∃ t0, XE (lamCx2 X A outer s H scope f c' pn) X.K body t0 de)
    (hbind : ∀ (q : Str) (cl : List (Str × Addr)) (pm cv ctv : Value) (us : List Value), us.length = n → bindArgs (PySem.W.kla_fn "<lambda>" q params body scope cl pm cv ctv) ⟨us, []⟩ = pure (pn.zip us))
    (hn : pn.length = n := by rfl) : LamOkN X kd (k + 1) Θ (i, φ, n, de) := fun pins σ H s τ p c o oc q ψ I hΘ rs hp hc hl => by
  subst hφ
  exact clo_lam2 I L rs hp hc hl hn hbind hΘ hbody
def KeptOk (X : Cx) (kc : Nat) : List LamK → Prop
  | [] => True
  | l :: r => LamOk X kc (0, l.1, l.2.1, l.2.2) ∧ KeptOk X kc r
section
variable {X : Cx} {K : PySem.W.Frag} {x : Str} {k kd kc n : Nat} {M : CT → DC} {p pos : Pos} {e : Expr} {es : List Expr} {ta : TA} {da : DA} {Θ : CT} {l0 : List LamK} {ls : CT → List LamD}
theorem thK_ok {pins : List (Addr × Obj)} {σ : L2.St} {H : Hp} {s : Shared} {τ : DSt} {h : DH} (I : Inv X pins σ H s) (hex : X.ex = []) (hΘ : CloT X.prog X.w X.K X.mg X.base kd Θ X.H_0 X.s_0.heap) (rs : RS X.K H τ σ) (hr : HR X.K H h) :
    ∀ {l0 : List LamK}, KeptOk X kd l0 → CloT X.prog X.w X.K X.mg X.base kd (thK Θ τ h l0) H s.heap
  | [], _ => fun f m F hf => (hΘ f m F hf).later (tx_inv I) (later_inv I hex)
  | l :: r, ⟨l1, l2⟩ => fun f m F hf => by
    rcases hf with ⟨e2, em, eF⟩ | hf
    · subst em eF
      obtain ⟨o, c, oc, q, ψ, g1, g2, g3⟩ := hr _ _ e2
      exact l1 pins σ H s τ f c o oc q ψ I rs g1 g2 g3
    · exact thK_ok I hex hΘ rs hr l2 f m F hf
theorem thN_ok {pins : List (Addr × Obj)} {σ : L2.St} {H : Hp} {s : Shared} {τ : DSt} {ds : List D} {h : DH} (I : Inv X pins σ H s) (hk : kd ≤ kc) (hΘ : CloT X.prog X.w X.K X.mg X.base kd Θ H s.heap) (rs : RS X.K H τ σ) (hr : HR X.K H h) :
    ∀ {ls : List LamD}, LamsOkN X kd kc Θ ls → lamsAt ds h ls → CloT X.prog X.w X.K X.mg X.base kc (thL Θ τ ds ls) H s.heap
  | [], _, _ => fun f m F hf => (hΘ f m F hf).mono hk
  | l :: r, ⟨l1, l2⟩, ⟨⟨p, e1, e2⟩, a2⟩ => fun f m F hf => by
    rcases hf with ⟨e3, em, eF⟩ | hf
    · rw [e1] at e3
      cases e3
      subst em eF
      obtain ⟨o, c, oc, q, ψ, g1, g2, g3⟩ := hr _ _ e2
      exact l1 pins σ H s τ p c o oc q ψ I hΘ rs g1 g2 g3
    · exact thN_ok I hk hΘ rs hr l2 a2 f m F hf
theorem xcallK (G : KnownC X.prog X.w X.K X.mg X.base x k kc n M) (hr : RoomG k X.A) (hk : kd ≤ kc) (hΘ : CloT X.prog X.w X.K X.mg X.base kd Θ X.H_0 X.s_0.heap) (h0 : KeptOk X kd l0) (hl : ∀ Θ, LamsOkN X kd kc Θ (ls Θ)) (ha : XA X K (e :: es) ta da) (hg : Gl X x := by rfl) (hex : X.ex = [] := by rfl) (hK : X.K = K := by rfl)
    (hdb : (x == ("__debug__" : Str)) = false := by decide) (he : starEach (e :: es) X.env = (false, eval e X.env) :: starEach es X.env := by rfl) (hpl : (backTo pos (starEach es X.env)).any (·.1) = false := by rfl) :
    XE X K (.Call (.Name x p) (e :: es) [] pos) (tCallKm X.K n M Θ l0 ls ta) (dCallK n M Θ l0 ls da) := by
  subst hK
  obtain ⟨f, fd, ps, F, hm, hkp, hb⟩ := G
  refine ⟨⟨fun pins s σ H Q I h => ?_⟩, fun τ σ h H Q Q0 rs hr0 bw w => ha.l τ σ h H _ _ rs hr0 (fun ds h1 vs H1 x1 r1 hr1 ⟨w1, w2, w3⟩ => ⟨by rw [← r1.length]; exact w1, τ, ds, h1, Q, rs.mono x1, r1, hr1, bw.mono x1, w2, w3⟩) w⟩
  refine wpAny_Call_Name_kw (ld_glob I hg hm ?_ hdb)
  refine PySem.W.callWith_K (h₀ := X.base) I.ok.mod.kin hkp (thn (ha.p.run pos pins s σ H _ I h) fun us s1 ⟨vs, H1, I1, r, hlv, τ, ds, h1, Qd, rs, rds, hr1, bw, at_, w⟩ => ⟨I1.kIn, ?_⟩) he hpl
  have sp : spC X.prog X.w X.K X.mg X.base kc n M s1.heap vs H1 Q E0 := ⟨hlv, _, ds, h1, Qd, thN_ok I1 hk (thK_ok I1 hex hΘ rs hr1 h0) rs hr1 (hl _) at_, rds, hr1, bw, w⟩
  have lens : us.length = ps.length := r.length.symm.trans (F.len _ _ _ _ _ sp)
  have bind := hb s1 us I1.kIn (by rw [List.append_nil]; exact lens)
  rw [List.append_nil] at bind
  refine wpAny_call (codeAny_mono (F.run X.A X.stack s1 H1 ⟨us, []⟩ us vs Q E0 hr I1.env0 bind r sp) fun res s' hq => ?_)
  match res, hq with
  | .ok (.ret u), hq => exact I1.after hq
end
end DL

set_option Elab.async false
set_option linter.all false
set_option maxRecDepth 100000
set_option maxHeartbeats 2000000
/-! DL48: xs.pop(). -/
namespace DL
open PySem PySem.Spec PyProof.Rows L2
section
variable {X : Cx} {K : PySem.W.Frag}
def dPop (a : DE) : DE := fun τ h Q => a τ h fun x h1 => match x with
  | .loc l => (match lstO (h1 l) with
    | some xs => need xs[xs.length - 1]? (hupd h1 l (.lst xs.dropLast)) Q
    | none => False)
  | _ => False
theorem rvs_drop {H : Hp} : ∀ {ds : List D} {vs : List V}, RVs K H ds vs → RVs K H ds.dropLast vs.dropLast
  | [], vs, r => by rw [rvs_nil r]; exact rvs_nil'
  | [d], vs, r => by
    obtain ⟨x, e, r1⟩ := rvs_one r
    subst e
    exact rvs_nil'
  | d :: d2 :: ds, vs, r => by
    obtain ⟨x, xs, e, q1, q2⟩ := rvs_cons r
    subst e
    obtain ⟨x2, xs2, e2, q3, q4⟩ := rvs_cons q2
    subst e2
    exact rvs_cons' q1 (rvs_drop q2)
theorem lm_pop {ta : TE} {da : DE} (la : LE K ta da) : LE K (tBM0 K "list" rPop ta) (dPop da) := fun τ σ h H Q Q0 rs hr bw w =>
  la τ σ h H _ _ rs hr (fun x h1 v H1 x1 r1 hr1 w1 => by
    cases x with
    | loc l =>
      have e := rv_loc r1
      subst e
      have w1 : (match lstO (h1 l) with | some xs => need xs[xs.length - 1]? (hupd h1 l (.lst xs.dropLast)) Q | none => False) := w1
      cases z : lstO (h1 l) with
      | none => rw [z] at w1; exact w1.elim
      | some xs =>
        rw [z] at w1
        obtain ⟨d, hd, w2⟩ := need_of w1
        obtain ⟨vs, s, q⟩ := hr1 _ _ (lstO_of z)
        obtain ⟨y, hy, ry⟩ := q.get hd
        have x3 := tx_lst (K := K) (o := .lst vs.dropLast) s
        refine ⟨Or.inl ⟨rfl, _, Or.inl (Or.inl s)⟩, l, vs, y, rfl, rfl, s, by rw [← q.length]; exact hy, ?_⟩
        exact bw _ _ _ _ (x1.trans x3) (RV.mono x3 _ _ ry) (hr1.put x3 (ro_lst x3 (rvs_drop q))) w2
    | _ => exact w1.elim) w
theorem xpop {o : Expr} {to : TE} {d1 : DE} {apos cpos : Pos} (ho : XE X K o to d1)
    (hbase : attributeBase o "pop" X.env (eval o X.env) = eval o X.env := by rfl) (hline : (apos.endLine == cpos.line) = true := by rfl) (hK : X.K = K := by rfl) :
    XE X K (.Call (.Attribute o "pop" apos) [] [] cpos) (tBM0 K "list" rPop to) (dPop d1) :=
  ⟨by subst hK; exact pe_bm0 PySem.F.plainAttrs_list PySem.F.slot_list_pop PySem.F.type_list_pop mt_pop ho.p hbase hline, lm_pop ho.l⟩
end
theorem w_pop {l : Addr} {xs : List D} {y : D} {h : DH} {Q : DK} (e : h l = some (.lst xs)) (ey : xs[xs.length - 1]? = some y) (k : Q y (hupd h l (.lst xs.dropLast))) :
    (match lstO (h l) with | some xs => need xs[xs.length - 1]? (hupd h l (.lst xs.dropLast)) Q | none => False) := by
  rw [e]
  exact w_need (v := y) ey k
end DL

set_option Elab.async false
set_option linter.all false
set_option maxRecDepth 100000
set_option maxHeartbeats 2000000
/-! DL49: lambdas without parameters that may raise, handed to a def that calls them within a try. -/
namespace DL
open PySem PySem.Spec PyProof.Rows L2
abbrev CTX := Addr → Nat → DCX → Prop
section
variable (P : Program) (w : World) (K : PySem.W.Frag) (mg : Str → Option Value) (base : Heap)
structure CloOkX (k n : Nat) (f : Addr) (F : DCX) (H0 : Hp) (h0 : Heap) : Prop where
  fn : ∃ o u fd, H0 f = some (.frz o u) ∧ o.data = .func fd
  run : ∀ (A : Around) (outer : List Env) (s : Shared) (Hs : Hp) (us : List Value) (vs : List V) (Q : VK) (E : XK), RoomG k A → Env0 P w K mg base A outer s Hs → TX K H0 Hs → Later H0 h0 Hs s.heap → Vals vs us → spDX K n F vs Hs Q E →
    codeAny (model P w) A (.call (.ref f) ⟨us, []⟩) (CR (L2.CX P w) outer P w Hs s Q E) s
def CloTX (k : Nat) (Θ : CTX) (H : Hp) (h : Heap) : Prop := ∀ f n F, Θ f n F → CloOkX P w K mg base k n f F H h
def spCX (kc n : Nat) (M : CTX → DC) : Heap → Sp := fun h0 vs H Q _ => vs.length = n ∧ ∃ Θ ds h Qd, CloTX P w K mg base kc Θ H h0 ∧ RVs K H ds vs ∧ HR K H h ∧ Bw K H Qd Q ∧ M Θ ds h Qd
def KnownCX (x : Str) (k kc n : Nat) (M : CTX → DC) : Prop :=
  ∃ (f : Addr) (fd : FuncData) (ps : List Str), FnC P w K mg base k f fd ps (spCX P w K mg base kc n M) ∧ mg x = some (.ref f) ∧ PySem.W.keepIn K (.ref f) = true ∧ Binds K fd ps []
end
section
variable {P : Program} {w : World} {K : PySem.W.Frag} {mg : Str → Option Value} {base : Heap}
theorem CloOkX.later {k n : Nat} {f : Addr} {F : DCX} {H0 H1 : Hp} {h0 h1 : Heap} (C : CloOkX P w K mg base k n f F H0 h0) (x : TX K H0 H1) (y : Later H0 h0 H1 h1) : CloOkX P w K mg base k n f F H1 h1 :=
  ⟨let ⟨o, u, fd, e, d⟩ := C.fn; ⟨o, u, fd, x.2 _ _ _ e, d⟩, fun A outer s Hs us vs Q E hr e0 x2 y2 => C.run A outer s Hs us vs Q E hr e0 (x.trans x2) (y.trans y2)⟩
theorem CloOkX.at_ {k n : Nat} {f : Addr} {F : DCX} {H0 : Hp} {h0 : Heap} (C : CloOkX P w K mg base k n f F H0 h0) (hok : HOk P w H0 h0) : PySem.W.FnAt f h0 := by
  obtain ⟨o, u, fd, e, d⟩ := C.fn
  obtain ⟨g, _⟩ := hok f _ e
  obtain ⟨oc, od, dt, sl⟩ := o
  have d : dt = .func fd := d
  subst d
  exact ⟨oc, od, fd, sl, g⟩
theorem CloOkX.mono {j k n : Nat} {f : Addr} {F : DCX} {H0 : Hp} {h0 : Heap} (C : CloOkX P w K mg base j n f F H0 h0) (h : j ≤ k) : CloOkX P w K mg base k n f F H0 h0 :=
  ⟨C.fn, fun A outer s Hs us vs Q E hr => C.run A outer s Hs us vs Q E (hr.mono h)⟩
/-- a def that is handed things to call that may raise; none of the errors gets out -/
theorem okCX {qn qual : Str} {st : Stmt} {f : Addr} {fd : FuncData} {N ps : List Str} {k kc m n : Nat} {b : CTX → DS} (F : Fun K qn qual st f fd) (S : FnScope N ps (defScope st)) (hn : ps.length = n) (hm : N.length = m)
    (hbody : ∀ (cdv : Value) (A : Around) (outer : List Env) (s : Shared) (H : Hp) (E : XK) (Θ : CTX), RoomG k (A.deeper (envOfC qual (defScope st) s.heap.objs.size f cdv)) → CloTX P w K mg base kc Θ H s.heap →
      XCs (cxOf CX0 P w K mg base N qual (defScope st) f cdv A outer s H E).nox K (defBody st) (b Θ)) : FnC P w K mg base (k + 1) f fd ps (spCX P w K mg base kc n fun Θ => runD m (b Θ)) := by
  refine ⟨fun _ _ _ _ _ z => z.1.trans hn.symm, fun A outer s H args us vs Q E room e0 bind rel spec => ?_⟩
  obtain ⟨oc, od, kV, doc, pm, an, cdv, ct, osl, efd, look, hcode⟩ := F.ex
  subst efd
  obtain ⟨hl, Θ, ds, h0, Qd, hΘ, rds, hr0, bw, w1⟩ := spec
  have stay : ∀ b o, base.get? b = some o → s.heap.get? b = some o := fun b o q => (e0.bs b o q).1
  have inS : K.In s.heap := e0.mod.kin.keeps stay
  refine codeAny_call_function room.r.depth (inS _ _ look) rfl S.co S.gen rfl (PySem.W.codeRec_of inS hcode) (bind _ _ _ _ ?_)
  refine wpAny_newFunctionEnv_cells S.kind (fun y hy => ?_) fun env he s1 x1 => ?_
  · rcases S.par y.1 (List.of_mem_zip hy).1 with q | q
    · exact .inl q
    · exact .inr ⟨q, PySem.W.cellsFrom_some _ _ _ (.inl q)⟩
  · subst he
    have xs := hbody cdv A outer s H E Θ ⟨room.r.deeper _, room.g⟩ hΘ
    have start := inv_start (CX := CX0) (E := E) S room.r.hd e0 (hl.trans hn.symm) rel x1
    refine ⟨(e0.mod.nolimit.keeps stay).keeps x1.toInCall.keep, codeAny_func (wpAny_mono ((pss_tx (K := K) xs.p.nox).run [] s1 (L2.start N vs) H { nx := fun _ H' => Q .non H', rt := Q } start ?_) (fun fl s' hs => ?_) fun _ _ hs => hs)⟩
    · refine ⟨{ nx := fun _ h => Qd .non h, rt := Qd }, _, h0, rs_start rds, hr0, ⟨fun τ' σ' h' H' _ hr1 w2 x1 => bw _ _ _ _ x1 rv_non' hr1 w2, fun d h' v H' rv hr1 w2 x1 => bw _ _ _ _ x1 rv hr1 w2, fun _ _ _ _ _ _ w2 => w2.elim, fun _ _ _ _ _ _ w2 => w2.elim⟩, ?_⟩
      rw [hm]
      exact w1
    · have q := body_end hs
      cases fl with
      | ret u => exact q
      | next => exact q
      | brk => exact q.elim
      | cont => exact q.elim
theorem knownCX_of {x qual : Str} {st : Stmt} {f : Addr} {fd : FuncData} {ps : List Str} {k kc n : Nat} {M : CTX → DC} (F : Fun K x qual st f fd) (hm : mg x = some (.ref f)) (G : FnC P w K mg base k f fd ps (spCX P w K mg base kc n M)) (b : Binds K fd ps []) :
    KnownCX P w K mg base x k kc n M := ⟨f, fd, ps, G, hm, F.kp, b⟩
end

/-! ### x(), x a name of the def, what it tells of errors -/
def dCallVX (Θ : CTX) (i : Nat) (DW : DWX) : DE := fun τ h Q => ∃ f F, ld τ i = some (.loc f) ∧ Θ f 0 F ∧ F [] h Q (fun cls d h' => DW cls d τ h')
def tCallVX (K : PySem.W.Frag) (Θ : CTX) (i : Nat) (W : WX) : TE := fun σ H Q => ∃ f F, σ[i]? = some (some (.ref f)) ∧ Θ f 0 F ∧ spDX K 0 F [] H Q (WE W σ)
section
variable {X : Cx} {K : PySem.W.Frag} {x : Str} {k i : Nat} {p pos : Pos} {Θ : CTX} {W : WX} {DW : DWX}
theorem xcallVX (hr : RoomG k X.A) (hΘ : CloTX X.prog X.w X.K X.mg X.base k Θ X.H_0 X.s_0.heap) (tk : Takes X W) (lw : LW X.K W DW) (hN : X.N[i]? = some x := by rfl) (hv : Vis X.env.scope x := by first | exact .inl rfl | exact .inr (.inl rfl) | exact .inr (.inr rfl)) (hex : X.ex = [] := by rfl) (hK : X.K = K := by rfl)
    (hdb : (x == ("__debug__" : Str)) = false := by decide) (hcd : (x == ("__classdict__" : Str)) = false := by decide) :
    XE X K (.Call (.Name x p) [] [] pos) (tCallVX X.K Θ i W) (dCallVX Θ i DW) := by
  subst hK
  refine ⟨⟨fun pins s σ H Q I ⟨f, F, hs, hF, ht⟩ => ?_⟩, fun τ σ h H Q Q0 rs hr0 bw ⟨f, F, e1, hF, w1⟩ => ?_⟩
  · refine wpAny_Call_Name_kw (thn ((pe_var (pos := p) hN hv hdb hcd).run pins s σ H (fun v H1 => v = .ref f ∧ H1 = H) I ⟨.ref f, hs, rfl, rfl⟩) fun u s1 ⟨v, H1, I1, r1, ev, eH⟩ => ?_)
    subst ev
    subst eH
    cases (show u = Value.ref f from r1)
    have C := (hΘ f 0 F hF).later (tx_inv I1) (later_inv I1 hex)
    refine PySem.W.callWith_F0 (C.at_ I1.hok) ?_
    show wpAny _ _ (call (.ref f) []) _ _ _
    refine wpAny_call (codeAny_mono (C.run X.A X.stack s1 _ [] [] Q (WE W σ) hr I1.env0 TX.refl (fun b o q n => ⟨⟨o.slots, q⟩, n⟩) .nil ht) fun res s3 hq => ?_)
    match res, hq with
    | .error err, hq => exact passAt tk σ pins _ s1 err s3 I1 hq
    | .ok (.ret u), hq => exact I1.after hq
  · obtain ⟨v, s0, r0⟩ := rs.2 i _ (ld_get e1)
    rw [rv_loc r0] at s0
    exact ⟨f, F, s0, hF, rfl, [], h, Q, _, rvs_nil', hr0, bw, fun cls d h' H' x2 hr2 w2 => lw cls d τ σ h' H' (rs.mono x2) hr2 w2, w1⟩
end

/-! ### lambdas without parameters -/
def lamCxX (X : Cx) (A : Around) (outer : List Env) (s : Shared) (H : Hp) (scope : Scope) (f c' : Addr) (pn : List Str) (E : XK) : Cx :=
  (lamCx2 X A outer s H scope f c' pn).tr [] (fun e s' => wpAny (model X.prog X.w) (A.deeper (LamX.lamEnv X scope s.heap.objs.size f c')) (leaving (LamX.lamEnv X scope s.heap.objs.size f c') e) (fun _ s'' => L2.CX X.prog X.w outer H s E e s'') (fun e' s'' => L2.CX X.prog X.w outer H s E e' s'') s')
def lamFX (de : DWX → DE) (n : Nat) (τ : DSt) : DCX := fun ds h Q Ed => ds.length = n ∧ de (fun cls d _ h' => Ed cls d h') (τ ++ ds.map some) h Q
theorem clo_lamX {X : Cx} {pins : List (Addr × Obj)} {σ : L2.St} {H : Hp} {s : Shared} {τ : DSt} {scope : Scope} {params : Arguments} {body : Expr} {pn : List Str} {n k : Nat} {p c' : Addr} {o oc : Obj} {q : Str} {ψ : Heap → Prop} {de : DWX → DE}
    (I : Inv X pins σ H s) (L : LamS2 X.env.scope scope X.N pn) (rs : RS X.K H τ σ) (hp : H p = some (.frz o (.ext ψ))) (hc : H c' = some (.frz oc (LamX.CodeO c' q))) (hφ : lamP X params body scope o c' q) (hn : pn.length = n)
    (hbind : ∀ (q : Str) (cl : List (Str × Addr)) (pm cv ctv : Value) (us : List Value), us.length = n → bindArgs (PySem.W.kla_fn "<lambda>" q params body scope cl pm cv ctv) ⟨us, []⟩ = pure (pn.zip us))
    (hbody : ∀ (A : Around) (outer : List Env) (s : Shared) (H : Hp) (f c' : Addr) (E : XK) (W : WX) (DW : DWX), RoomG k (A.deeper (LamX.lamEnv X scope s.heap.objs.size f c')) → Takes (lamCxX X A outer s H scope f c' pn E) W → LW X.K W DW → ∃ t0, XE (lamCxX X A outer s H scope f c' pn E) X.K body t0 (de DW)) :
    CloOkX X.prog X.w X.K X.mg X.base (k + 1) n p (lamFX de n τ) H s.heap := by
  obtain ⟨rfl, pm, ctv, eo⟩ := hφ
  subst eo
  refine ⟨⟨_, _, _, hp, rfl⟩, fun A outer s1 HZ us vs Q E room e0 tx lat rel ⟨hl, ds, h0, Qd, Ed, rds, hr0, bw, bx, hlen, w⟩ => ?_⟩
  have of1 := (e0.hok p _ (tx.2 _ _ _ hp)).1
  obtain ⟨_, ⟨oc2, vs2, t2, hoc, hdc, hvc⟩, _, _⟩ := e0.hok c' _ (tx.2 _ _ _ hc)
  have lim : s1.heap.NoLimit := e0.mod.nolimit.keeps fun b o q => (e0.bs b o q).1
  have ul : us.length = n := rel.length.symm.trans hl
  refine PySem.W.kla_callFunE room.r.depth of1 rfl L.co L.gen rfl ⟨c', oc2, vs2, t2, rfl, hoc, hdc, hvc⟩ ?_
  rw [hbind _ _ _ _ _ us ul]
  refine wpAny_pure (wpAny_newFunctionEnv (fun y hy => (L.own y hy).1) (fun y hy => L.par _ (List.of_mem_zip hy).1) (fun h₁ hns hsb => ⟨lim.fresh _ hsb, ?_⟩) L.kind)
  show codeAny _ _ (.expr body (LamX.lamEnv X scope s1.heap.objs.size p c')) _ _
  have kp : ∀ b o, s1.heap.get? b = some o → h₁.get? b = some o := fun b o e => hsb.extBut b o (Nat.ne_of_lt (Heap.lt_size e)) (Heap.get?_push_of_some _ e)
  have tk : Takes (lamCxX X A outer s1 HZ scope p c' pn E) (fun cls d _ H' => E cls d H') := takes_of rfl rfl rfl rfl
  obtain ⟨t0, xe⟩ := hbody A outer s1 HZ p c' E (fun cls d σ H' => TX X.K HZ H' → E cls d H') (fun cls d _ h' => Ed cls d h') ⟨room.r.deeper _, room.g⟩ (takes_tx (K := X.K) tk) (fun cls d τ σ h' H' _ hr' w' x => bx cls d h' H' x hr' w')
  have J := (lam_start3 (tk := s1.toks + (pn.zip us).length) (f := p) (c' := c') I L e0 room.r.hd lat (ul.trans hn.symm) rel hns kp).toTry (fun e s' => wpAny (model X.prog X.w) (A.deeper (LamX.lamEnv X scope s1.heap.objs.size p c')) (leaving (LamX.lamEnv X scope s1.heap.objs.size p c') e) (fun _ s'' => L2.CX X.prog X.w outer HZ s1 E e s'') (fun e' s'' => L2.CX X.prog X.w outer HZ s1 E e' s'') s')
  refine PySem.W.kla_codeExpr (wpAny_mono (xe.p.run [] _ (σ ++ vs.map some) HZ Q J (xe.l (τ ++ ds.map some) _ h0 HZ Qd Q (rs_app (rs.mono tx) rds) hr0 bw w)) (fun v s' hq => ?_) fun e s' z => z)
  obtain ⟨w', H', J', rv, qq⟩ := hq
  exact ⟨w', H', J'.os, J'.bare, J'.base, J'.hok, rv, qq⟩
abbrev LamX' := Nat × LamP × Nat × (DWX → DE)
def thLX (τ : DSt) (ds : List D) : List LamX' → CTX
  | [] => fun _ _ _ => False
  | l :: r => fun f m F => (ds[l.1]? = some (.loc f) ∧ m = l.2.2.1 ∧ F = lamFX l.2.2.2 l.2.2.1 τ) ∨ thLX τ ds r f m F
def lamsAtX (ds : List D) (h : DH) : List LamX' → Prop
  | [] => True
  | l :: r => (∃ p, ds[l.1]? = some (.loc p) ∧ h p = some (.clo l.2.1)) ∧ lamsAtX ds h r
def dCallLX (n : Nat) (M : CTX → DC) (ls : List LamX') (a : DA) : DE := fun τ h Q => a τ h fun ds h1 => ds.length = n ∧ lamsAtX ds h1 ls ∧ M (thLX τ ds ls) ds h1 Q
def tCallLXm (K : PySem.W.Frag) (n : Nat) (M : CTX → DC) (ls : List LamX') (ta : TA) : TE := fun σ H Q => ta σ H fun vs H1 => vs.length = n ∧ ∃ τ ds h Qd, RS K H1 τ σ ∧ RVs K H1 ds vs ∧ HR K H1 h ∧ Bw K H1 Qd Q ∧ lamsAtX ds h ls ∧ M (thLX τ ds ls) ds h Qd
def LamOkX (X : Cx) (kc : Nat) (l : LamX') : Prop := ∀ (pins : List (Addr × Obj)) (σ : L2.St) (H : Hp) (s : Shared) (τ : DSt) (p c : Addr) (o oc : Obj) (q : Str) (ψ : Heap → Prop), Inv X pins σ H s → RS X.K H τ σ → H p = some (.frz o (.ext ψ)) → H c = some (.frz oc (LamX.CodeO c q)) → l.2.1 o c q →
  CloOkX X.prog X.w X.K X.mg X.base kc l.2.2.1 p (lamFX l.2.2.2 l.2.2.1 τ) H s.heap
def LamsOkX (X : Cx) (kc : Nat) : List LamX' → Prop
  | [] => True
  | l :: r => LamOkX X kc l ∧ LamsOkX X kc r
theorem lamOkX {X : Cx} {scope : Scope} {params : Arguments} {body : Expr} {pn : List Str} {i n k : Nat} {de : DWX → DE} {φ : LamP} (hφ : φ = lamP X params body scope) (L : LamS2 X.env.scope scope X.N pn)
    (hbody : ∀ (A : Around) (outer : List Env) (s : Shared) (H : Hp) (f c' : Addr) (E : XK) (W : WX) (DW : DWX), RoomG k (A.deeper (LamX.lamEnv X scope s.heap.objs.size f c')) → Takes (lamCxX X A outer s H scope f c' pn E) W → LW X.K W DW → ∃ t0, XE (lamCxX X A outer s H scope f c' pn E) X.K body t0 (de DW))
    (hbind : ∀ (q : Str) (cl : List (Str × Addr)) (pm cv ctv : Value) (us : List Value), us.length = n → bindArgs (PySem.W.kla_fn "<lambda>" q params body scope cl pm cv ctv) ⟨us, []⟩ = pure (pn.zip us))
    (hn : pn.length = n := by rfl) : LamOkX X (k + 1) (i, φ, n, de) := fun pins σ H s τ p c o oc q ψ I rs hp hc hl => by
  subst hφ
  exact clo_lamX I L rs hp hc hl hn hbind hbody
theorem LamOkX.mono {X : Cx} {j k : Nat} {l : LamX'} (L : LamOkX X j l) (h : j ≤ k) : LamOkX X k l := fun pins σ H s τ p c o oc q ψ I rs hp hc hl => (L pins σ H s τ p c o oc q ψ I rs hp hc hl).mono h
section
variable {X : Cx} {K : PySem.W.Frag} {x : Str} {k kc n : Nat} {M : CTX → DC} {p pos : Pos} {e : Expr} {es : List Expr} {ta : TA} {da : DA} {ls : List LamX'}
theorem thLX_ok {pins : List (Addr × Obj)} {σ : L2.St} {H : Hp} {s : Shared} {τ : DSt} {ds : List D} {h : DH} (I : Inv X pins σ H s) (rs : RS X.K H τ σ) (hr : HR X.K H h) :
    ∀ {ls : List LamX'}, LamsOkX X kc ls → lamsAtX ds h ls → CloTX X.prog X.w X.K X.mg X.base kc (thLX τ ds ls) H s.heap
  | [], _, _ => fun f m F hf => hf.elim
  | l :: r, ⟨l1, l2⟩, ⟨⟨p, e1, e2⟩, a2⟩ => fun f m F hf => by
    rcases hf with ⟨e3, em, eF⟩ | hf
    · rw [e1] at e3
      cases e3
      subst em eF
      obtain ⟨o, c, oc, q, ψ, g1, g2, g3⟩ := hr _ _ e2
      exact l1 pins σ H s τ p c o oc q ψ I rs g1 g2 g3
    · exact thLX_ok I rs hr l2 a2 f m F hf
theorem xcallLX (G : KnownCX X.prog X.w X.K X.mg X.base x k kc n M) (hr : RoomG k X.A) (hl : LamsOkX X kc ls) (ha : XA X K (e :: es) ta da) (hg : Gl X x := by rfl) (hK : X.K = K := by rfl)
    (hdb : (x == ("__debug__" : Str)) = false := by decide) (he : starEach (e :: es) X.env = (false, eval e X.env) :: starEach es X.env := by rfl) (hpl : (backTo pos (starEach es X.env)).any (·.1) = false := by rfl) :
    XE X K (.Call (.Name x p) (e :: es) [] pos) (tCallLXm X.K n M ls ta) (dCallLX n M ls da) := by
  subst hK
  obtain ⟨f, fd, ps, F, hm, hk, hb⟩ := G
  refine ⟨⟨fun pins s σ H Q I h => ?_⟩, fun τ σ h H Q Q0 rs hr0 bw w => ha.l τ σ h H _ _ rs hr0 (fun ds h1 vs H1 x1 r1 hr1 ⟨w1, w2, w3⟩ => ⟨by rw [← r1.length]; exact w1, τ, ds, h1, Q, rs.mono x1, r1, hr1, bw.mono x1, w2, w3⟩) w⟩
  refine wpAny_Call_Name_kw (ld_glob I hg hm ?_ hdb)
  refine PySem.W.callWith_K (h₀ := X.base) I.ok.mod.kin hk (thn (ha.p.run pos pins s σ H _ I h) fun us s1 ⟨vs, H1, I1, r, hlv, τ, ds, h1, Qd, rs, rds, hr1, bw, at_, w⟩ => ⟨I1.kIn, ?_⟩) he hpl
  have sp : spCX X.prog X.w X.K X.mg X.base kc n M s1.heap vs H1 Q E0 := ⟨hlv, _, ds, h1, Qd, thLX_ok I1 rs hr1 hl at_, rds, hr1, bw, w⟩
  have lens : us.length = ps.length := r.length.symm.trans (F.len _ _ _ _ _ sp)
  have bind := hb s1 us I1.kIn (by rw [List.append_nil]; exact lens)
  rw [List.append_nil] at bind
  refine wpAny_call (codeAny_mono (F.run X.A X.stack s1 H1 ⟨us, []⟩ us vs Q E0 hr I1.env0 bind r sp) fun res s' hq => ?_)
  match res, hq with
  | .ok (.ret u), hq => exact I1.after hq
end

/-! ### defs that may raise in which lambdas are made -/
section
variable {P : Program} {w : World} {K : PySem.W.Frag} {mg : Str → Option Value} {base : Heap} {qn qual : Str} {st : Stmt} {f : Addr} {fd : FuncData} {N ps : List Str} {k m n : Nat}
theorem okDXL {c : Addr} {α : Type} {b : DWX → α → DS} (F : FunAt K qn qual st f fd c) (S : FnScope N ps (defScope st)) (hn : ps.length = n) (hm : N.length = m)
    (hbody : ∀ (A : Around) (outer : List Env) (s : Shared) (H : Hp) (E : XK) (W : WX) (DW : DWX), RoomG k (A.deeper (envOfC qual (defScope st) s.heap.objs.size f (.ref c))) →
      Takes (cxOf (L2.CX P w) P w K mg base N qual (defScope st) f (.ref c) A outer s H E) W → LW K W DW →
      ∃ L, XCs (cxOf (L2.CX P w) P w K mg base N qual (defScope st) f (.ref c) A outer s H E) K (defBody st) (b DW L)) : FnG P w K mg base (L2.CX P w) (k + 1) f fd ps (spDX K n fun ds h Q Ed => ∀ L, runDX m (fun DW => b DW L) ds h Q Ed) := by
  obtain ⟨oc, od, kV, doc, pm, an, ct, osl, e, lk, hcd⟩ := F.ex
  subst e
  refine ⟨fun vs H Q E z => z.1.trans hn.symm, fun A outer s H args us vs Q E hr e0 hb r hsp => ?_⟩
  obtain ⟨hl, ds, h0, Qd, Ed, rds, hr0, bw, bx, w1⟩ := hsp
  have there : ∀ b o, base.get? b = some o → s.heap.get? b = some o := fun b o q => (e0.bs b o q).1
  have KX : K.In s.heap := e0.mod.kin.keeps there
  have lens : vs.length = ps.length := hl.trans hn.symm
  refine codeAny_call_function hr.r.depth (KX _ _ lk) rfl S.co S.gen rfl (PySem.W.codeRec_of KX hcd) (hb _ _ _ _ (wpAny_newFunctionEnv_cells S.kind (fun y hy => ?_) fun env he s1 x1 => ?_))
  · cases S.par y.1 (List.of_mem_zip hy).1 with
    | inl q => exact .inl q
    | inr q => exact .inr ⟨q, PySem.W.cellsFrom_some _ _ _ (.inl q)⟩
  · subst he
    obtain ⟨L, xs⟩ := hbody A outer s H E (fun cls d σ H' => TX K H H' → E cls d H') (fun cls d _ h' => Ed cls d h') ⟨hr.r.deeper _, hr.g⟩
      (takes_tx (K := K) (W := fun cls d _ H' => E cls d H') (takes_of rfl rfl rfl rfl)) (fun cls d τ σ h' H' _ hr' w' x => bx cls d h' H' x hr' w')
    refine ⟨(e0.mod.nolimit.keeps there).keeps x1.toInCall.keep, codeAny_func (wpAny_mono ((pss_tx (K := K) xs.p).run [] s1 (L2.start N vs) H { nx := fun _ H' => Q .non H', rt := Q } (inv_start S hr.r.hd e0 lens r x1) ?_) (fun fl s' hs => ?_) fun _ _ hs => hs)⟩
    · refine ⟨{ nx := fun _ h => Qd .non h, rt := Qd }, _, h0, rs_start rds, hr0, ⟨fun τ' σ' h' H' _ hr1 w2 x1 => bw _ _ _ _ x1 rv_non' hr1 w2, fun d h' v H' rv hr1 w2 x1 => bw _ _ _ _ x1 rv hr1 w2, fun _ _ _ _ _ _ w2 => w2.elim, fun _ _ _ _ _ _ w2 => w2.elim⟩, ?_⟩
      rw [hm]
      exact w1 L
    · have q := body_end hs
      cases fl with
      | ret u => exact q
      | next => exact q
      | brk => exact (show False from q).elim
      | cont => exact (show False from q).elim
end

/-! ### isinstance of the error that a suite holds -/
structure XIs (K : PySem.W.Frag) (C : Addr) : Prop where
  hcl : (PySem.W.clsIn K C).isSome = true
  hga : PySem.W.findIn K (.ref C) "__getattribute__" = some (some (.builtin "BaseException.__getattribute__"))
  hgt : PySem.W.findIn K (.ref C) "__getattr__" = some none
  hsub : PySem.W.subIn K (.ref C) (.type "BaseException") = some true
  ha : PySem.W.findIn K (.ref C) "__class__" = some (some (.builtin "object.__class__"))
  hn : PySem.W.specialIn K (.builtin "object.__class__") "__get__" = some (some (.builtin "getset_descriptor.__get__"))
  htk : PySem.W.takesIn K (.builtin "object.__class__") = some true
  hm : PySem.W.mroIn K C (.type "object") = some true
def clsV : V → Value → Prop := fun v c => (∃ S, v = .ref S ∧ c = .ref S) ∨ ∃ n, v = .ty n ∧ c = .type n
def rIsX (K : PySem.W.Frag) (C a : Addr) (cls : Value) (d : Option Addr) : List V → Hp → VK → Prop := fun xs H Q => cls = .ref C ∧ ∃ v c b dd us, xs = [.ref a, v] ∧ clsV v c ∧ PySem.W.kitOne K (.ref C) c = some b ∧ d = some dd ∧ H dd = some (.xd us) ∧ Q (.bl b) H
def bIsX (is : Value → Bool → Prop) (C a : Addr) (cls : Value) (d : Option Addr) : DC := fun ds h Q => cls = .ref C ∧ ∃ dd fs, d = some dd ∧ h dd = some (.xdc fs) ∧ match ds with
  | [.loc p, .loc S] => p = a ∧ ∃ b, is (.ref S) b ∧ Q (.bl b) h
  | [.loc p, .ty n] => p = a ∧ ∃ b, is (.type n) b ∧ Q (.bl b) h
  | _ => False
theorem xclsX {X : Cx} {K : PySem.W.Frag} {x : Str} {C : Addr} {pos : Pos} (h : X.mg x = some (.ref C)) (hg : Gl X x := by rfl) (hd : (x == ("__debug__" : Str)) = false := by decide) : XE X K (.Name x pos) (tC (.ref C)) (dC (.loc C)) :=
  xglob h rfl (fun _ => rv_loc') hg hd
section
variable {X : Cx} {K : PySem.W.Frag} {C a : Addr} {oe : Obj} {cls : Value} {d : Option Addr} {pn : List (Addr × Obj)} {is : Value → Bool → Prop}
theorem call_isX (T : XIs X.K C) (hz : Zc cls d oe) (hf : ∃ vs, oe.data = .fields vs) : CallR (X.suite a ((a, oe) :: pn)) (.builtin "isinstance") (rIsX X.K C a cls d) := by
  intro pins s σ H xs us Q I r h
  obtain ⟨ec, v, c, b, dd, fs, rfl, hc, hb, ed, ea, q⟩ := h
  obtain ⟨u, w', rfl, ru, rw'⟩ := vals2 r
  obtain rfl : u = Value.ref a := ru
  have ew : w' = c := by
    rcases hc with ⟨S, rfl, rfl⟩ | ⟨n, rfl, rfl⟩
    · exact rw'
    · exact rw'
  subst ew ec ed
  obtain ⟨ha, _⟩ := I.pin (a, oe) (List.mem_append_left _ List.mem_cons_self)
  obtain ⟨vs, hd⟩ := hf
  have hx : ObjOk X.prog X.w H s.heap dd (.xd fs) := I.hok dd _ ea
  obtain ⟨mA, hns, hr⟩ := hx
  obtain ⟨od, ho, hlk⟩ := lookIn_ns hns
  have J : PySem.W.InstAt s.heap a oe C (some od) := ⟨ha, hz.1, by unfold PySem.W.notCls; rw [hd] <;> rfl, by rw [hz.2]; exact ho⟩
  exact PySem.W.kia_one (PySem.W.kitx_exc T.hcl T.hga T.hgt T.hsub T.ha T.hn T.htk T.hm) I.kIn J hb (fun z => nomatch z) fun tk => ⟨.bl b, H, I.tok _, rfl, q⟩
theorem q_isX (T : XIs X.K C) (hz : Zc cls d oe) (hf : ∃ vs, oe.data = .fields vs) (his : ∀ c b, is c b → PySem.W.kitOne X.K (.ref C) c = some b) (hK : X.K = K := by rfl) :
    CallR (X.suite a ((a, oe) :: pn)) (.builtin "isinstance") (rIsX K C a cls d) ∧ LC K (rIsX K C a cls d) (bIsX is C a cls d) := by
  subst hK
  refine ⟨call_isX T hz hf, fun ds vs h H Q Q0 r hr bw w => ?_⟩
  obtain ⟨ec, dd, fs, ed, ea, w0⟩ := w
  obtain ⟨us, s, _⟩ := hr _ _ ea
  match ds, w0, r with
  | [.loc p, .loc S], ⟨e, b, i, w⟩, r =>
    subst e
    obtain ⟨x, y, e1, r1, r2⟩ := rvs_two r
    exact ⟨ec, _, .ref S, b, dd, us, by rw [e1, rv_loc r1, rv_loc r2], .inl ⟨S, rfl, rfl⟩, his _ _ i, ed, s, bw _ h _ H TX.refl rv_bl' hr w⟩
  | [.loc p, .ty n], ⟨e, b, i, w⟩, r =>
    subst e
    obtain ⟨x, y, e1, r1, r2⟩ := rvs_two r
    exact ⟨ec, _, .type n, b, dd, us, by rw [e1, rv_loc r1, rv_ty r2], .inr ⟨n, rfl, rfl⟩, his _ _ i, ed, s, bw _ h _ H TX.refl rv_bl' hr w⟩
end
end DL

set_option Elab.async false
set_option linter.all false
set_option maxRecDepth 100000
set_option maxHeartbeats 2000000
/-! DL50: texts (split, join, int of a text, f-strings); lambdas that capture nothing and defs, kept in a list and called from there. -/
namespace DL
open PySem PySem.Spec PyProof.Rows L2

/-! ### texts -/
def dJoin (a b : DE) : DE := fun τ h Q => a τ h fun x h1 => match x with
  | .str z => b τ h1 fun y h2 => ∃ ys : List Str, anyD h2 y = some (ys.map D.str) ∧ (ys.map (·.length)).sum + ys.length * z.length ≤ 16777216 ∧ Q (.str (Txt.join z ys)) h2
  | _ => False
def dSplit (a b : DE) : DE := fun τ h Q => a τ h fun x h1 => match x with
  | .str z => b τ h1 fun y h2 => ∃ s : Str, y = .str s ∧ (s.length == 0) = false ∧ z.length + 2 ≤ sizeLine ∧ ∀ p, h2 p = none → Q (.loc p) (hupd h2 p (.lst ((Txt.split z s).map D.str)))
  | _ => False
def bIntS : DC := fun ds h Q => match ds with
  | [.str a] => ∃ n, PySem.intText? a = some n ∧ a.length ≤ 640 ∧ Q (.int n) h
  | _ => False
section
variable {X : Cx} {K : PySem.W.Frag}
theorem rvs_strT {H : Hp} : ∀ {ys : List Str} {vs : List V}, RVs K H (ys.map D.str) vs → vs = ys.map V.str
  | [], vs, r => by rw [rvs_nil r]; rfl
  | y :: ys, vs, r => by
    obtain ⟨x, xs, e, r1, r2⟩ := rvs_cons r
    subst e
    rw [rv_str r1, rvs_strT r2]; rfl
theorem rvs_strT' {H : Hp} : ∀ (ys : List Str), RVs K H (ys.map D.str) (ys.map V.str)
  | [] => rvs_nil'
  | y :: ys => rvs_cons' rv_str' (rvs_strT' ys)
theorem xjoin {o e : Expr} {to te : TE} {d1 d2 : DE} {apos pos : Pos} (ho : XE X K o to d1) (he : XE X K e te d2) (hbase : attributeBase o "join" X.env (eval o X.env) = eval o X.env := by rfl) (hline : (apos.endLine == pos.line) = true := by rfl) (hpl : starEach [e] X.env = [(false, eval e X.env)] := by rfl) (hK : X.K = K := by rfl) :
    XE X K (.Call (.Attribute o "join" apos) [e] [] pos) (tM1 (fun x xs H Q => ∃ a p, ∃ ys : List Str, x = .str a ∧ xs = [.ref p] ∧ (SqL X.K H p (ys.map V.str) ∨ SqT X.K H p (ys.map V.str)) ∧ (ys.map (·.length)).sum + ys.length * a.length ≤ 16777216 ∧ Q (.str (Txt.join a ys)) H) to te) (dJoin d1 d2) := by
  subst hK
  refine ⟨pe_join (hbase := hbase) (hline := hline) (hs := hpl) ho.p he.p, fun τ σ h H Q Q0 rs hr bw w => ho.l τ σ h H _ _ rs hr (fun x h1 v H1 x1 r1 hr1 w1 => ?_) w⟩
  cases x with
  | str z =>
    refine ⟨⟨z, rv_str r1⟩, he.l τ σ h1 H1 _ _ (rs.mono x1) hr1 (fun y h2 u H2 x2 r2 hr2 w2 => ?_) w1⟩
    obtain ⟨ys, e1, hz, w3⟩ := w2
    rw [rv_str r1]
    obtain ⟨a, vs, eu, sq, rv⟩ := anyD_v hr2 r2 e1
    subst eu
    rw [rvs_strT rv] at sq
    exact ⟨z, a, ys, rfl, rfl, sq, hz, bw _ _ _ _ (x1.trans x2) rv_str' hr2 w3⟩
  | _ => exact w1.elim
theorem xsplit {o e : Expr} {to te : TE} {d1 d2 : DE} {apos pos : Pos} (ho : XE X K o to d1) (he : XE X K e te d2) (hbase : attributeBase o "split" X.env (eval o X.env) = eval o X.env := by rfl) (hline : (apos.endLine == pos.line) = true := by rfl) (hpl : starEach [e] X.env = [(false, eval e X.env)] := by rfl) :
    XE X K (.Call (.Attribute o "split" apos) [e] [] pos) (tM1 (fun x xs H Q => ∃ a b, x = .str a ∧ xs = [.str b] ∧ (b.length == 0) = false ∧ a.length + 2 ≤ sizeLine ∧ rNewStrs (Txt.split a b) H Q) to te) (dSplit d1 d2) := by
  refine ⟨pe_split (hbase := hbase) (hline := hline) (hs := hpl) ho.p he.p, fun τ σ h H Q Q0 rs hr bw w => ho.l τ σ h H _ _ rs hr (fun x h1 v H1 x1 r1 hr1 w1 => ?_) w⟩
  cases x with
  | str z =>
    refine ⟨⟨z, rv_str r1⟩, he.l τ σ h1 H1 _ _ (rs.mono x1) hr1 (fun y h2 u H2 x2 r2 hr2 w2 => ?_) w1⟩
    obtain ⟨s, e1, e0, hz, w3⟩ := w2
    subst e1
    rw [rv_str r1, rv_str r2]
    exact ⟨z, s, rfl, rfl, e0, hz, fun p hp => bw_new hr2 (bw.mono (x1.trans x2)) hp (ro_lst (tx_new hp) (rvs_strT' _)) (w3 p)⟩
  | _ => exact w1.elim
theorem q_intS : CallR X (.type "int") (fun xs H Q => ∃ a n, xs = [.str a] ∧ PySem.intText? a = some n ∧ a.length ≤ 640 ∧ Q (.int n) H) ∧ LC K (fun xs H Q => ∃ a n, xs = [.str a] ∧ PySem.intText? a = some n ∧ a.length ≤ 640 ∧ Q (.int n) H) bIntS := ⟨call_int_str, fun ds vs h H Q Q0 r hr bw w => by
  match ds, w, r with
  | [.str a], ⟨n, e, hl, w⟩, r =>
    obtain ⟨x, e1, r1⟩ := rvs_one r
    subst e1
    exact ⟨a, n, by rw [rv_str r1], e, hl, bw _ h _ H TX.refl rv_int' hr w⟩⟩
/-! ### f-strings -/
def dFmt (t : DE) : DE := fun τ h Q => t τ h fun x h1 => match x with
  | .str y => y.length ≤ sizeLine ∧ Q (.str y) h1
  | .int i => i.natAbs.log2 < 1920 ∧ Q (.str (toString i)) h1
  | _ => False
theorem xfmt {e : Expr} {te : TE} {de : DE} {pos : Pos} (he : XE X K e te de) : XE X K (.FormattedValue e (-1) none pos) (tFmt te) (dFmt de) := ⟨pe_fmt he.p, fun τ σ h H Q Q0 rs hr bw w => he.l τ σ h H _ _ rs hr (fun x h1 v H1 x1 r1 hr1 w1 => by
  cases x with
  | str y => exact .inl ⟨y, rv_str r1, w1.1, bw _ _ _ _ x1 rv_str' hr1 w1.2⟩
  | int i => exact .inr ⟨i, rv_int r1, w1.1, bw _ _ _ _ x1 rv_str' hr1 w1.2⟩
  | _ => exact w1.elim) w⟩
def dJs : List DE → Str → DSt → DH → (Str → DH → Prop) → Prop
  | [], acc, _, h, Q => Q acc h
  | t :: ts, acc, τ, h, Q => t τ h fun x h1 => match x with
    | .str y => (acc ++ y).length ≤ sizeLine ∧ dJs ts (acc ++ y) τ h1 Q
    | _ => False
structure XJ (X : Cx) (K : PySem.W.Frag) (es : List Expr) (ts : List TE) (ds : List DE) : Prop where
  p : PJ X es ts
  l : ∀ (acc : Str) τ σ h H (Q : Str → DH → Prop) (Q0 : Str → Hp → Prop), RS K H τ σ → HR K H h → (∀ z h' H', TX K H H' → HR K H' h' → Q z h' → Q0 z H') → dJs ds acc τ h Q → tJs ts acc σ H Q0
theorem xj_nil : XJ X K [] [] [] := ⟨.nil, fun acc τ σ h H Q Q0 rs hr bw w => bw acc h H TX.refl hr w⟩
theorem xj_cons {e : Expr} {t : TE} {d : DE} {es : List Expr} {ts : List TE} {ds : List DE} (he : XE X K e t d) (r : XJ X K es ts ds) : XJ X K (e :: es) (t :: ts) (d :: ds) := ⟨.cons he.p r.p, fun acc τ σ h H Q Q0 rs hr bw w =>
  he.l τ σ h H _ _ rs hr (fun x h1 v H1 x1 r1 hr1 w1 => by
    cases x with
    | str y => exact ⟨y, rv_str r1, w1.1, r.l (acc ++ y) τ σ h1 H1 Q Q0 (rs.mono x1) hr1 (fun z h' H' x2 hr2 w2 => bw z h' H' (x1.trans x2) hr2 w2) w1.2⟩
    | _ => exact w1.elim) w⟩
def dJoined (ds : List DE) : DE := fun τ h Q => dJs ds Str.empty τ h fun z h1 => Q (.str z) h1
theorem xjoined {v1 v2 : Expr} {rest : List Expr} {ts : List TE} {ds : List DE} {pos : Pos} (j : XJ X K (v1 :: v2 :: rest) ts ds) : XE X K (.JoinedStr (v1 :: v2 :: rest) pos) (fun σ H Q => tJs ts Str.empty σ H fun out H1 => Q (.str out) H1) (dJoined ds) :=
  ⟨pe_joined j.p, fun τ σ h H Q Q0 rs hr bw w => j.l Str.empty τ σ h H _ _ rs hr (fun z h' H' x2 hr2 w2 => bw _ _ _ _ x2 rv_str' hr2 w2) w⟩
end

/-! ### lambdas that capture nothing -/
def lamC (q0 : Str) (o0 : Option (Arguments × Expr × Scope)) : LamP := fun o c q => ∃ t, o0 = some t ∧ q = q0 ∧ ∃ pm ctv, o = PySem.W.kla_obj "<lambda>" q t.1 t.2.1 t.2.2 [] pm c ctv
def lamsE : Expr → List (Arguments × Expr × Scope)
  | .Lambda p b s _ => [(p, b, s)]
  | _ => []
def lamsX : Expr → List (Arguments × Expr × Scope)
  | .List es _ => es.flatMap lamsE
  | _ => []
def lamsSt : List Stmt → List (Arguments × Expr × Scope)
  | .Assign _ e _ :: r => lamsX e ++ lamsSt r
  | _ :: r => lamsSt r
  | [] => []
def freeOf (sc : Scope) : Bool := sc.names.all fun y => !decide (y.2 = .free)
theorem clo_nil {cells : List (Str × Addr)} : ∀ {ns : List (Str × NameKind)} {acc : List (Str × Addr)}, (ns.all fun y => !decide (y.2 = .free)) = true → cloFrom cells ns acc = acc
  | [], _, _ => rfl
  | (n, k) :: r, acc, h => by
    rw [List.all_cons, Bool.and_eq_true] at h
    have hk : (k == NameKind.free) = false := by
      have h1 : ¬ k = .free := by simpa using h.1
      cases k <;> first | rfl | exact absurd rfl h1
    unfold cloFrom
    rw [hk]
    exact clo_nil h.2
theorem lam_eq {X : Cx} {φ : LamP} {q0 : Str} {o0 : Option (Arguments × Expr × Scope)} {params : Arguments} {body : Expr} {scope : Scope} (h : φ = lamC q0 o0) (e : o0 = some (params, body, scope) := by rfl) (hq : X.env.qual ++ "<lambda>" = q0 := by rfl) (hf : freeOf scope = true := by decide +kernel) : φ = lamP X params body scope := by
  subst h e hq
  funext o c q
  unfold lamP lamC
  rw [clo_nil (acc := []) hf]
  refine propext ⟨fun ⟨t, e, e2, pm, ctv, e3⟩ => ?_, fun ⟨e2, pm, ctv, e3⟩ => ⟨_, rfl, e2, pm, ctv, e3⟩⟩
  cases e
  exact ⟨e2, pm, ctv, e3⟩
structure ClS (scope : Scope) (pn : List Str) : Prop where
  kind : scope.kind = .function
  co : scope.isCoroutine = false
  gen : scope.isGenerator = false
  own : ∀ y ∈ scope.names, y.2 ≠ .cell ∧ y.2 ≠ .free ∧ (y.2 = .local → y.1 ∈ pn)
  par : ∀ x ∈ pn, scope.names.lookup x = some .local
  nd : pn.Nodup
def clSB (scope : Scope) (pn : List Str) : Bool :=
  decide (scope.kind = .function) && (!scope.isCoroutine) && (!scope.isGenerator) && (scope.names.all fun y => (!decide (y.2 = .cell)) && (!decide (y.2 = .free)) && (!decide (y.2 = .local) || pn.contains y.1)) &&
    (pn.all fun x => decide (scope.names.lookup x = some .local)) && decide pn.Nodup
theorem clS_by {scope : Scope} {pn : List Str} (h : clSB scope pn = true) : ClS scope pn := by
  unfold clSB at h
  simp only [Bool.and_eq_true, Bool.or_eq_true, Bool.not_eq_true', decide_eq_true_eq, decide_eq_false_iff_not, List.all_eq_true, List.contains_iff_mem, Bool.eq_false_iff, ne_eq] at h
  obtain ⟨⟨⟨⟨⟨a1, a2⟩, a3⟩, a4⟩, a5⟩, a6⟩ := h
  refine ⟨a1, by simpa using a2, by simpa using a3, fun y hy => ⟨(a4 y hy).1.1, (a4 y hy).1.2, fun z => ?_⟩, fun x hx => a5 x hx, a6⟩
  rcases (a4 y hy).2 with k | k
  · exact absurd z k
  · exact k
abbrev cloEnv (q : Str) (scope : Scope) (L f c' : Addr) : Env := PySem.W.envX q scope L f (.ref c') []
def cloCx (P : Program) (w : World) (K : PySem.W.Frag) (mg : Str → Option Value) (base : Heap) (q : Str) (A : Around) (outer : List Env) (s : Shared) (H : Hp) (scope : Scope) (f c' : Addr) (pn : List Str) : Cx :=
  { prog := P, w := w, K := K, mg := mg, base := base, A := A.deeper (cloEnv q scope s.heap.objs.size f c'), N := pn, s_0 := s, H_0 := H, env := cloEnv q scope s.heap.objs.size f c', outer := outer, stack := cloEnv q scope s.heap.objs.size f c' :: outer, ex := [], fn := fun _ => false, calm := true, pn := [], xe := fun _ _ => False }
section
variable {P : Program} {w : World} {K : PySem.W.Frag} {mg : Str → Option Value} {base : Heap}
theorem lam_start4 {HZ : Hp} {s1 : Shared} {A : Around} {outer : List Env} {scope : Scope} {pn : List Str} {q : Str} {f c' : Addr} {h₁ : Heap} {tk : Nat} {us : List Value} {vs : List V} (L : ClS scope pn) (e0 : Env0 P w K mg base A outer s1 HZ) (hd : A.handled = none)
    (hl : us.length = pn.length) (rel : Vals vs us) (hns : h₁.Ns s1.heap.objs.size fun y => (pn.zip us).reverse.lookup y) (kp : ∀ b o, s1.heap.get? b = some o → h₁.get? b = some o) :
    Inv (cloCx P w K mg base q A outer s1 HZ scope f c' pn) [] (vs.map some) HZ { s1 with heap := h₁, toks := tk } := by
  have vl : vs.length = pn.length := rel.length.trans hl
  have noex : ∀ b : Addr, b ∉ (cloCx P w K mg base q A outer s1 HZ scope f c' pn).ex := fun b z => nomatch (show b ∈ ([] : List Addr) from z)
  have nocell : ∀ {y : Str} {c : Addr}, (cloCx P w K mg base q A outer s1 HZ scope f c' pn).env.cells.lookup y = some c → False := fun {y c} e => by
    have e : ([] : List (Str × Addr)).lookup y = some c := e
    cases e
  refine ⟨⟨e0.mod, L.kind, rfl, rfl, Nat.le_refl _, fun y z c e1 e2 => (nocell e1).elim, fun y hy => ?_, fun y c z _ => ?_, fun _ => hd, Around.frames_deeper e0.frames, .inr ⟨rfl, rfl⟩, fun b z => absurd z (noex b), e0.bs, e0.bsz, fun b _ _ => noex b,
      fun b z => absurd z (noex b), e0.funs, e0.frf⟩, rfl, e0.bare, Un.kept kp, ⟨_, hns, fun i y v e1 e2 e3 => ?_⟩, fun y c e => (nocell e).elim, e0.hok.fresh (Nat.le_refl _), fun y c e => (nocell e).elim, fun q hq => absurd (show q ∈ ([] : List (Addr × Obj)) from hq) (by simp), e0.hok.kept kp, ?_⟩
  · have hy : scope.names.lookup y = some .cell ∨ scope.names.lookup y = some .free := hy
    rcases hy with hy | hy
    · exact absurd rfl (L.own _ (PySem.mem_of_lookup hy)).1
    · exact absurd rfl (L.own _ (PySem.mem_of_lookup hy)).2.1
  · cases (show false = true from z)
  · have e1 : pn[i]? = some y := e1
    rw [List.getElem?_map] at e2
    obtain ⟨v', ev, ev2⟩ := Option.map_eq_some_iff.mp e2
    cases ev2
    obtain ⟨u, hu, ru⟩ := rel.get ev
    exact ⟨u, ru, .inl ⟨L.par _ (List.mem_of_getElem? e1), zip_look L.nd e1 u hu⟩⟩
  · show (vs.map some).length = pn.length
    rw [List.length_map, vl]
theorem clo_closed {H : Hp} {h : Heap} {scope : Scope} {params : Arguments} {body : Expr} {pn : List Str} {n k : Nat} {p c' : Addr} {o oc : Obj} {q q0 : Str} {ψ : Heap → Prop} {de : DE} (L : ClS scope pn)
    (hp : H p = some (.frz o (.ext ψ))) (hc : H c' = some (.frz oc (LamX.CodeO c' q))) (hφ : lamC q0 (some (params, body, scope)) o c' q) (hn : pn.length = n)
    (hbind : ∀ (q : Str) (cl : List (Str × Addr)) (pm cv ctv : Value) (us : List Value), us.length = n → bindArgs (PySem.W.kla_fn "<lambda>" q params body scope cl pm cv ctv) ⟨us, []⟩ = pure (pn.zip us))
    (hbody : ∀ (A : Around) (outer : List Env) (s : Shared) (H : Hp) (f c' : Addr), RoomG k (A.deeper (cloEnv q0 scope s.heap.objs.size f c')) → ∃ t0, XE (cloCx P w K mg base q0 A outer s H scope f c' pn) K body t0 de) :
    CloOk P w K mg base (k + 1) n p (lamF de n []) H h := by
  obtain ⟨t, et, rfl, pm, ctv, eo⟩ := hφ
  cases et
  subst eo
  refine ⟨⟨_, _, _, hp, rfl⟩, fun A outer s1 HZ us vs Q E room e0 tx lat rel ⟨hl, ds, h0, Qd, rds, hr0, bw, hlen, w⟩ => ?_⟩
  have of1 := (e0.hok p _ (tx.2 _ _ _ hp)).1
  obtain ⟨_, ⟨oc2, vs2, t2, hoc, hdc, hvc⟩, _, _⟩ := e0.hok c' _ (tx.2 _ _ _ hc)
  have lim : s1.heap.NoLimit := e0.mod.nolimit.keeps fun b o q => (e0.bs b o q).1
  have ul : us.length = n := rel.length.symm.trans hl
  refine PySem.W.kla_callFunE room.r.depth of1 rfl L.co L.gen rfl ⟨c', oc2, vs2, t2, rfl, hoc, hdc, hvc⟩ ?_
  rw [hbind _ _ _ _ _ us ul]
  refine wpAny_pure (wpAny_newFunctionEnv (fun y hy => (L.own y hy).1) (fun y hy => L.par _ (List.of_mem_zip hy).1) (fun h₁ hns hsb => ⟨lim.fresh _ hsb, ?_⟩) L.kind)
  show codeAny _ _ (.expr body (cloEnv _ scope s1.heap.objs.size p c')) _ _
  have kp : ∀ b o, s1.heap.get? b = some o → h₁.get? b = some o := fun b o e => hsb.extBut b o (Nat.ne_of_lt (Heap.lt_size e)) (Heap.get?_push_of_some _ e)
  obtain ⟨t0, xe⟩ := hbody A outer s1 HZ p c' ⟨room.r.deeper _, room.g⟩
  have J := lam_start4 (tk := s1.toks + (pn.zip us).length) (q := q) (f := p) (c' := c') L e0 room.r.hd (ul.trans hn.symm) rel hns kp
  refine PySem.W.kla_codeExpr (wpAny_mono (xe.p.run [] _ (vs.map some) HZ Q J (xe.l (ds.map some) _ h0 HZ Qd Q (rs_app (τ := []) (σ := []) ⟨rfl, fun i d e => by simp at e⟩ rds) hr0 bw w)) (fun v s' hq => ?_) fun e s' z => z.elim)
  obtain ⟨w', H', J', rv, qq⟩ := hq
  exact ⟨w', H', J'.os, J'.bare, J'.base, J'.hok, rv, qq⟩
end

/-! ### what is kept in a list is called -/
abbrev FnT := Addr × Nat × DC
def CanC (fs : List FnT) (ls : List LamK) (h : DH) (f : Addr) (n : Nat) (F : DC) : Prop := (f, n, F) ∈ fs ∨ ∃ l ∈ ls, h f = some (.clo l.1) ∧ n = l.2.1 ∧ F = lamF l.2.2 n []
def dCallP (fs : List FnT) (ls : List LamK) (d : DE) (a : DA) : DE := fun τ h Q => d τ h fun v h1 => ∃ f n F, v = .loc f ∧ CanC fs ls h1 f n F ∧ a τ h1 fun ds h2 => ds.length = n ∧ F ds h2 Q
def ClosedOk (P : Program) (w : World) (K : PySem.W.Frag) (mg : Str → Option Value) (base : Heap) (k : Nat) (l : LamK) : Prop := ∀ (H : Hp) (h : Heap) (p c : Addr) (o oc : Obj) (q : Str) (ψ : Heap → Prop), H p = some (.frz o (.ext ψ)) → H c = some (.frz oc (LamX.CodeO c q)) → l.1 o c q →
  CloOk P w K mg base k l.2.1 p (lamF l.2.2 l.2.1 []) H h
def ClosedAll (P : Program) (w : World) (K : PySem.W.Frag) (mg : Str → Option Value) (base : Heap) (k : Nat) : List LamK → Prop
  | [] => True
  | l :: r => ClosedOk P w K mg base k l ∧ ClosedAll P w K mg base k r
def FnsAll (P : Program) (w : World) (K : PySem.W.Frag) (mg : Str → Option Value) (base : Heap) (k : Nat) : List FnT → Prop
  | [] => True
  | l :: r => (∃ (fd : FuncData) (ps : List Str), FnG P w K mg base CX0 k l.1 fd ps (spD K l.2.1 l.2.2) ∧ PySem.W.keepIn K (.ref l.1) = true ∧ Binds K fd ps []) ∧ FnsAll P w K mg base k r
section
variable {P : Program} {w : World} {K : PySem.W.Frag} {mg : Str → Option Value} {base : Heap}
theorem fns_nil {k : Nat} : FnsAll P w K mg base k [] := trivial
theorem fns_cons {k : Nat} {l : FnT} {r : List FnT} (h : ∃ (fd : FuncData) (ps : List Str), FnG P w K mg base CX0 k l.1 fd ps (spD K l.2.1 l.2.2) ∧ PySem.W.keepIn K (.ref l.1) = true ∧ Binds K fd ps []) (t : FnsAll P w K mg base k r) : FnsAll P w K mg base k (l :: r) := ⟨h, t⟩
theorem cls_nil {k : Nat} : ClosedAll P w K mg base k [] := trivial
theorem cls_cons {j k : Nat} {l : LamK} {r : List LamK} (h : ClosedOk P w K mg base j l) (e : j ≤ k) (t : ClosedAll P w K mg base k r) : ClosedAll P w K mg base k (l :: r) := ⟨fun H hp p c o oc q ψ h1 h2 h3 => (h H hp p c o oc q ψ h1 h2 h3).mono e, t⟩
theorem ClosedOk.mono {j k : Nat} {l : LamK} (L : ClosedOk P w K mg base j l) (h : j ≤ k) : ClosedOk P w K mg base k l := fun H hp p c o oc q ψ h1 h2 h3 => (L H hp p c o oc q ψ h1 h2 h3).mono h
theorem closedOk {φ : LamP} {q0 : Str} {o0 : Option (Arguments × Expr × Scope)} {params : Arguments} {body : Expr} {scope : Scope} {pn : List Str} {n k : Nat} {de : DE} (h : φ = lamC q0 o0) (e : o0 = some (params, body, scope)) (L : ClS scope pn)
    (hbody : ∀ (A : Around) (outer : List Env) (s : Shared) (H : Hp) (f c' : Addr), RoomG k (A.deeper (cloEnv q0 scope s.heap.objs.size f c')) → ∃ t0, XE (cloCx P w K mg base q0 A outer s H scope f c' pn) K body t0 de)
    (hbind : ∀ (q : Str) (cl : List (Str × Addr)) (pm cv ctv : Value) (us : List Value), us.length = n → bindArgs (PySem.W.kla_fn "<lambda>" q params body scope cl pm cv ctv) ⟨us, []⟩ = pure (pn.zip us)) (hn : pn.length = n := by rfl) : ClosedOk P w K mg base (k + 1) (φ, n, de) := fun H hp p c o oc q ψ h1 h2 h3 => by
  subst h e
  exact clo_closed L h1 h2 h3 hn hbind hbody
theorem fnsOk {x : Str} {j k n : Nat} {M : DC} {a : Addr} (G : Known P w K mg base x j n M) (e : mg x = some (.ref a)) (hj : j ≤ k) : ∃ (fd : FuncData) (ps : List Str), FnG P w K mg base CX0 k a fd ps (spD K n M) ∧ PySem.W.keepIn K (.ref a) = true ∧ Binds K fd ps [] := by
  obtain ⟨f, fd, ps, F, hm, hk, hb⟩ := G
  rw [hm] at e
  cases e
  exact ⟨fd, ps, F.mono hj, hk, hb⟩
theorem closed_at {k : Nat} : ∀ {ls : List LamK}, ClosedAll P w K mg base k ls → ∀ l ∈ ls, ClosedOk P w K mg base k l
  | l :: r, ⟨h1, h2⟩, l', hm => by
    rcases List.mem_cons.mp hm with z | z
    · subst z; exact h1
    · exact closed_at h2 l' z
theorem fns_at {k : Nat} : ∀ {fs : List FnT}, FnsAll P w K mg base k fs → ∀ l ∈ fs, ∃ (fd : FuncData) (ps : List Str), FnG P w K mg base CX0 k l.1 fd ps (spD K l.2.1 l.2.2) ∧ PySem.W.keepIn K (.ref l.1) = true ∧ Binds K fd ps []
  | l :: r, ⟨h1, h2⟩, l', hm => by
    rcases List.mem_cons.mp hm with z | z
    · subst z; exact h1
    · exact fns_at h2 l' z
end
def CanV (fs : List FnT) (ls : List LamK) (H : Hp) (f : Addr) (n : Nat) (F : DC) : Prop := (f, n, F) ∈ fs ∨ ∃ l ∈ ls, (∃ o c oc q ψ, H f = some (.frz o (.ext ψ)) ∧ H c = some (.frz oc (LamX.CodeO c q)) ∧ l.1 o c q) ∧ n = l.2.1 ∧ F = lamF l.2.2 n []
def tCallP (K : PySem.W.Frag) (fs : List FnT) (ls : List LamK) (tf : TE) (ta : TA) : TE := fun σ H Q => tf σ H fun v H1 => ∃ f n F, v = .ref f ∧ CanV fs ls H1 f n F ∧ ta σ H1 fun vs H2 => CanV fs ls H2 f n F ∧ (∀ o u, H1 f = some (.frz o u) → H2 f = some (.frz o u)) ∧ spD K n F vs H2 Q E0
section
variable {X : Cx} {K : PySem.W.Frag} {k : Nat} {p pos : Pos} {g e : Expr} {es : List Expr} {tf : TE} {df : DE} {ta : TA} {da : DA} {fs : List FnT} {ls : List LamK}
theorem canV_of {h : DH} {H : Hp} {f : Addr} {n : Nat} {F : DC} (hr : HR K H h) (hF : CanC fs ls h f n F) : CanV fs ls H f n F := by
  rcases hF with hF | ⟨l, hl, e2, en, eF⟩
  · exact .inl hF
  · obtain ⟨o, c, oc, q, ψ, g1, g2, g3⟩ := hr _ _ e2
    exact .inr ⟨l, hl, ⟨o, c, oc, q, ψ, g1, g2, g3⟩, en, eF⟩
theorem CanV.tx {H H' : Hp} {f : Addr} {n : Nat} {F : DC} (c : CanV fs ls H f n F) (x : TX K H H') : CanV fs ls H' f n F := by
  rcases c with c | ⟨l, hl, ⟨o, c, oc, q, ψ, g1, g2, g3⟩, en, eF⟩
  · exact .inl c
  · exact .inr ⟨l, hl, ⟨o, c, oc, q, ψ, x.2 _ _ _ g1, x.2 _ _ _ g2, g3⟩, en, eF⟩
theorem runP {pins : List (Addr × Obj)} {σ : L2.St} {H : Hp} {s : Shared} {Q : VK} {us : List Value} {vs : List V} {f : Addr} {n : Nat} {F : DC} (hr : RoomG k X.A) (hfs : FnsAll X.prog X.w X.K X.mg X.base k fs) (hls : ClosedAll X.prog X.w X.K X.mg X.base k ls)
    (I : Inv X pins σ H s) (r : Vals vs us) (c : CanV fs ls H f n F) (h : spD X.K n F vs H Q E0) : wpAny (model X.prog X.w) X.A (call (.ref f) us) (EP X pins σ Q) X.xe s := by
  rcases c with hF | ⟨l, hl, ⟨o, c, oc, q, ψ, g1, g2, g3⟩, en, eF⟩
  · obtain ⟨fd, ps, G, hk, hb⟩ := fns_at hfs _ hF
    exact runG G hr hb .nil pass0 I r (by rw [List.append_nil]; exact h)
  · subst en eF
    have C2 := closed_at hls l hl H s.heap f c o oc q ψ g1 g2 g3
    refine wpAny_call (codeAny_mono (C2.run X.A X.stack s H us vs Q E0 hr I.env0 TX.refl (fun b o q n => ⟨⟨o.slots, q⟩, n⟩) r h) fun res s3 hq => ?_)
    match res, hq with
    | .ok (.ret u), hq => exact I.after hq
theorem xcallP (hr : RoomG k X.A) (hfs : FnsAll X.prog X.w X.K X.mg X.base k fs) (hls : ClosedAll X.prog X.w X.K X.mg X.base k ls) (hf : XE X K g tf df) (ha : XA X K (e :: es) ta da) (hK : X.K = K := by rfl)
    (ht : eval (.Call g (e :: es) [] pos) X.env = (do callWith pos (← eval g X.env) [] (backTo pos (starEach (e :: es) X.env)) (backToKw pos (keywordEach [] X.env))) := by rfl)
    (he : starEach (e :: es) X.env = (false, eval e X.env) :: starEach es X.env := by rfl) (hpl : (backTo pos (starEach es X.env)).any (·.1) = false := by rfl) :
    XE X K (.Call g (e :: es) [] pos) (tCallP X.K fs ls tf ta) (dCallP fs ls df da) := by
  subst hK
  refine ⟨⟨fun pins s σ H Q I w => ?_⟩, fun τ σ h H Q Q0 rs hr0 bw w1 => ?_⟩
  · rw [ht]
    refine wpAny_bind (thn (hf.p.run pins s σ H _ I w) fun u s1 ⟨v, H1, I1, r1, f, n, F, ev, hF, w2⟩ => ?_)
    subst ev
    cases (show u = Value.ref f from r1)
    rcases hF with hF | ⟨l, hl, ⟨o, c, oc, q, ψ, g1, g2, g3⟩, en, eF⟩
    · obtain ⟨fd, ps, G, hk, hb⟩ := fns_at hfs _ hF
      exact PySem.W.callWith_K (h₀ := X.base) I1.ok.mod.kin hk (thn (ha.p.run pos pins s1 σ H1 _ I1 w2) fun us s2 ⟨vs, H2, I2, r2, cv, kf, hsp⟩ => ⟨I2.kIn, runP hr hfs hls I2 r2 cv hsp⟩) he hpl
    · subst en eF
      have C := closed_at hls l hl H1 s1.heap f c o oc q ψ g1 g2 g3
      refine PySem.W.callWith_F (C.at_ I1.hok) (thn (ha.p.run pos pins s1 σ _ _ I1 w2) fun us s2 ⟨vs, H2, I2, r2, cv, kf, hsp⟩ => ?_) he hpl
      refine ⟨?_, runP hr hfs hls I2 r2 cv hsp⟩
      obtain ⟨o2, u2, fd, e2, d2⟩ := C.fn
      have g := (I2.hok f _ (kf _ _ e2)).1
      obtain ⟨oc, od, dt, sl⟩ := o2
      have d2 : dt = .func fd := d2
      subst d2
      exact ⟨oc, od, fd, sl, g⟩
  · refine hf.l τ σ h H _ _ rs hr0 (fun v h1 V H1 x1 r1 hr1 ⟨f, n, F, e1, hF, w2⟩ => ?_) w1
    subst e1
    rw [rv_loc r1]
    have cv := canV_of hr1 hF
    exact ⟨f, n, F, rfl, cv, ha.l τ σ h1 H1 _ _ (rs.mono x1) hr1 (fun ds h2 vs H2 x2 r2 hr2 ⟨hl, w3⟩ => ⟨cv.tx x2, fun o u e => x2.2 _ _ _ e, by rw [← r2.length]; exact hl, ds, h2, Q, r2, hr2, (bw.mono x1).mono x2, w3⟩) w2⟩
end
end DL

set_option Elab.async false
set_option linter.all false
set_option maxRecDepth 100000
set_option maxHeartbeats 2000000
/-! DL51: text * int; isinstance of an error of one of several classes. -/
namespace DL
open PySem PySem.Spec PyProof.Rows L2
def repS (x : Str) (k : Nat) : Str := ⟨(List.replicate k x.cps).foldl (· ++ ·) #[]⟩
def dMulS : DR2
  | .str x, .int k, h, Q => (2 ≤ k ∧ k ≤ 1000 ∧ 0 < x.length ∧ x.length ≤ 1000) ∧ Q (.str (repS x k.toNat)) h
  | _, _, _, _ => False
def rMulS : R2 := fun x y H Q => ∃ z k, x = .str z ∧ y = .int k ∧ (2 ≤ k ∧ k ≤ 1000 ∧ 0 < z.length ∧ z.length ≤ 1000) ∧ Q (.str (repS z k.toNat)) H
section
variable {X : Cx} {K : PySem.W.Frag}
theorem fold_size (a : Array Nat) : ∀ (k : Nat) (b : Array Nat), ((List.replicate k a).foldl (· ++ ·) b).size = b.size + k * a.size
  | 0, b => by simp
  | k + 1, b => by
    rw [List.replicate_succ, List.foldl_cons, fold_size a k, Array.size_append, Nat.succ_mul]; omega
theorem op_mulS : OpR X (binaryOp .Mult) rMulS := by
  intro pins s σ H x y v u Q I rx ry h
  obtain ⟨z, k, rfl, rfl, ⟨h1, h2, h3, h4⟩, q⟩ := h
  obtain ⟨t, rfl⟩ := rx
  obtain ⟨t', rfl⟩ := ry
  have hm : z.length * k.toNat ≤ 1000 * 1000 := Nat.mul_le_mul h4 (by omega)
  refine PySem.P.mul_str (by rw [decide_eq_false (by omega), decide_eq_false (by omega)]; rfl) (fun _ _ => ?_) (fun _ _ => ?_) ?_
  · have e : (9007199254740992 : Int) ≤ (2 ^ 63 - 1) / k := by
      rw [Int.le_ediv_iff_mul_le (by omega)]
      omega
    omega
  · exact decide_eq_false (Nat.not_lt.mpr (Nat.le_of_lt (small2 (by omega))))
  · have c : (k == 1 || z.length == 0) = false := by
      rw [beq_eq_false_iff_ne.mpr (show k ≠ 1 by omega), beq_eq_false_iff_ne.mpr (show z.length ≠ 0 by omega)]; rfl
    rw [if_neg (by omega), c, if_neg Bool.false_ne_true]
    have sz : (repS z k.toNat).length ≤ sizeLine := by
      show ((List.replicate k.toNat z.cps).foldl (· ++ ·) #[]).size ≤ _
      rw [fold_size]
      have e : z.cps.size = z.length := rfl
      rw [e, Nat.mul_comm]
      have : (#[] : Array Nat).size = 0 := rfl
      rw [this, Nat.zero_add]
      exact Nat.le_of_lt (small2 (by omega))
    exact ⟨sz, .str (repS z k.toNat), H, I.tok _, ⟨_, rfl⟩, q⟩
theorem q_mulS : OpR X (binaryOp .Mult) rMulS ∧ LR2 K rMulS dMulS := ⟨op_mulS, fun d e x y h H Q Q0 r1 r2 hr bw w => by
  cases d with
  | str z =>
    cases e with
    | int k => exact ⟨z, k, rv_str r1, rv_int r2, w.1, bw _ h _ H TX.refl rv_str' hr w.2⟩
    | _ => exact w.elim
  | _ => exact w.elim⟩
end
/-- does «except S» take an error of the class A -/
theorem exm_sub {K : PySem.W.Frag} {A S : Addr} {b : Bool} (h1 : PySem.W.subIn K (.ref S) (.type "BaseException") = some true) (h2 : PySem.W.isClsIn K S = true) (h3 : PySem.W.typeIn K (.ref S) = some (.type "type")) (h4 : PySem.W.subIn K (.ref A) (.ref S) = some b) :
    PySem.W.exmOne K (.ref A) (.ref S) = some b := by
  have e1 : (PySem.W.subIn K (.ref S) (.type "BaseException") == some true) = true := by rw [h1] <;> rfl
  have e2 : ((PySem.W.clsIn K S).isSome && PySem.W.typeIn K (.ref S) == some (.type "type")) = true := by
    have h2' : (PySem.W.clsIn K S).isSome = true := h2
    rw [h2', h3] <;> rfl
  show (if (PySem.W.subIn K (.ref S) (.type "BaseException") == some true) = true then (if ((PySem.W.clsIn K S).isSome && PySem.W.typeIn K (.ref S) == some (.type "type")) = true then PySem.W.subIn K (.ref A) (.ref S) else none) else none) = some b
  rw [if_pos e1, if_pos e2]
  exact h4
/-! ### isinstance of the error that a suite holds, of one of several classes -/
def rIsXs (K : PySem.W.Frag) (a : Addr) (cls : Value) (d : Option Addr) : List V → Hp → VK → Prop := fun xs H Q => ∃ C, XIs K C ∧ rIsX K C a cls d xs H Q
def bIsXs (is : Value → Value → Bool → Prop) (a : Addr) (cls : Value) (d : Option Addr) : DC := fun ds h Q => ∃ dd fs, d = some dd ∧ h dd = some (.xdc fs) ∧ match ds with
  | [.loc p, .loc S] => p = a ∧ ∃ b, is cls (.ref S) b ∧ Q (.bl b) h
  | [.loc p, .ty n] => p = a ∧ ∃ b, is cls (.type n) b ∧ Q (.bl b) h
  | _ => False
section
variable {X : Cx} {K : PySem.W.Frag} {a : Addr} {oe : Obj} {cls : Value} {d : Option Addr} {pn : List (Addr × Obj)} {is : Value → Value → Bool → Prop}
theorem q_isXs (hz : Zc cls d oe) (hf : ∃ vs, oe.data = .fields vs) (his : ∀ cls c b, is cls c b → ∃ C, cls = .ref C ∧ XIs X.K C ∧ PySem.W.kitOne X.K cls c = some b) (hK : X.K = K := by rfl) :
    CallR (X.suite a ((a, oe) :: pn)) (.builtin "isinstance") (rIsXs K a cls d) ∧ LC K (rIsXs K a cls d) (bIsXs is a cls d) := by
  subst hK
  refine ⟨fun pins s σ H xs us Q I r ⟨C, T, h⟩ => call_isX T hz hf pins s σ H xs us Q I r h, fun ds vs h H Q Q0 r hr bw w => ?_⟩
  obtain ⟨dd, fs, ed, ea, w0⟩ := w
  obtain ⟨us, s, _⟩ := hr _ _ ea
  match ds, w0, r with
  | [.loc p, .loc S], ⟨e, b, i, w⟩, r =>
    subst e
    obtain ⟨x, y, e1, r1, r2⟩ := rvs_two r
    obtain ⟨C, ec, T, hb⟩ := his _ _ _ i
    exact ⟨C, T, ec, _, .ref S, b, dd, us, by rw [e1, rv_loc r1, rv_loc r2], .inl ⟨S, rfl, rfl⟩, by rw [← ec]; exact hb, ed, s, bw _ h _ H TX.refl rv_bl' hr w⟩
  | [.loc p, .ty n], ⟨e, b, i, w⟩, r =>
    subst e
    obtain ⟨x, y, e1, r1, r2⟩ := rvs_two r
    obtain ⟨C, ec, T, hb⟩ := his _ _ _ i
    exact ⟨C, T, ec, _, .type n, b, dd, us, by rw [e1, rv_loc r1, rv_ty r2], .inr ⟨n, rfl, rfl⟩, by rw [← ec]; exact hb, ed, s, bw _ h _ H TX.refl rv_bl' hr w⟩
end
end DL

set_option Elab.async false
set_option linter.all false
set_option maxRecDepth 100000
set_option maxHeartbeats 2000000
/-! DL52: errors as values: made, their fields, isinstance. -/
namespace DL
open PySem PySem.Spec PyProof.Rows L2
/-! ### X(e, ..), X with its own __init__, as a value -/
def dMkE (C : Addr) (fs : List Str) (a : DA) : DE := fun τ h Q => a τ h fun ds h1 => ds.length = fs.length ∧ ∀ p, h1 p = none → Q (.loc p) (hupd h1 p (.exc C (initF fs ds [])))
def tMkE (C : Addr) (fs : List Str) (ta : TA) : TE := fun σ H Q => ta σ H fun vs H1 => vs.length = fs.length ∧ vs.length ≤ 1000 ∧ ∀ a dx oa od, H1 a = none → H1 dx = none → dx ≠ a → oa.cls = .ref C → (∃ w, oa.data = .fields w) → oa.dict = some dx →
  Q (.ref a) (upd (upd H1 dx (.frz od (exd dx (initF fs vs [])))) a (.frz oa (exo a C (some dx))))
section
variable {X : Cx} {K : PySem.W.Frag} {x : Str} {k : Nat} {C : Addr} {fs : List Str} {p pos : Pos} {e : Expr} {es : List Expr} {ta : TA} {da : DA}
theorem pe_mkE {fI : Addr} {fd : FuncData} {ps : List Str} (T : OexG X.K C) (iC : PySem.W.findIn X.K (.ref C) "__init__" = some (some (.ref fI))) (tI : PySem.W.typeIn X.K (.ref fI) = some (.type "function"))
    (F1 : FnG X.prog X.w X.K X.mg X.base CX0 k fI fd ps (spInit X.K C fs)) (hr : RoomG (k + 1) X.A) (hb : Binds X.K fd ps []) (hg : Gl X x) (hm : X.mg x = some (.ref C)) (ha : PA X (e :: es) ta)
    (hdb : (x == ("__debug__" : Str)) = false) (he : starEach (e :: es) X.env = (false, eval e X.env) :: starEach es X.env) (hpl : (backTo pos (starEach es X.env)).any (·.1) = false) :
    PE X (.Call (.Name x p) (e :: es) [] pos) (tMkE C fs ta) := by
  refine ⟨fun pins s σ H Q I h => ?_⟩
  obtain ⟨nm, q, N, bs, bm, sn, sub, ab, col, dd, k0, k1, k2, k3, k5, B, newId, initId, bmB, hC, hbm, hF, _⟩ := T.cls
  refine wpAny_Call_Name_kw (ld_glob I hg hm ?_ hdb)
  refine PySem.W.callWith_K (h₀ := X.base) I.ok.mod.kin T.kC (thn (ha.run pos pins s σ H _ I h) fun us s1 ⟨vs, H1, I1, r1, hlen, hz, q1⟩ => ⟨I1.kIn, ?_⟩) he hpl
  show wpAny _ _ (call (.ref C) us) _ _ _
  obtain ⟨hp, g, dr, tk, os⟩ := s1
  have hsz : hp.objs.size ≤ hp.objs.size + 1 := Nat.le_succ _
  have hn : H1 (hp.objs.size + 1) = none := I1.hok.fresh hsz
  have kk : ∀ b o, hp.get? b = some o → ((hp.push (PySem.W.kdv_tup us)).push (PySem.HandSPX.excO C hp.objs.size)).get? b = some o := fun b o e => Heap.get?_push_of_some _ (Heap.get?_push_of_some _ e)
  have hget : ((hp.push (PySem.W.kdv_tup us)).push (PySem.HandSPX.excO C hp.objs.size)).get? (hp.objs.size + 1) = some (PySem.HandSPX.excO C hp.objs.size) := by heap_get
  have I2 : Inv X pins σ (upd H1 (hp.objs.size + 1) (exo (hp.objs.size + 1) C none)) ⟨(hp.push (PySem.W.kdv_tup us)).push (PySem.HandSPX.excO C hp.objs.size), g, dr, tk, os⟩ :=
    I1.laid (t' := tk) (a := hp.objs.size + 1) (o := exo (hp.objs.size + 1) C none) (h' := (hp.push (PySem.W.kdv_tup us)).push (PySem.HandSPX.excO C hp.objs.size)) kk hsz (exo_ok hget)
  have r2 : Vals (V.ref (hp.objs.size + 1) :: vs) (Value.ref (hp.objs.size + 1) :: us) := .cons rfl r1
  have hq : spInit X.K C fs (V.ref (hp.objs.size + 1) :: vs) (upd H1 (hp.objs.size + 1) (exo (hp.objs.size + 1) C none)) (fun v H2 => v = .non ∧ ∃ dx, H1 dx = none ∧ dx ≠ hp.objs.size + 1 ∧ H2 = upd (upd H1 dx (exd dx (initF fs vs []))) (hp.objs.size + 1) (exo (hp.objs.size + 1) C (some dx))) (fun _ _ _ => False) := by
    refine ⟨_, vs, rfl, hlen, upd_same, fun dx hdx ne => ⟨rfl, dx, by rw [upd_ne ne] at hdx; exact hdx, ne, ?_⟩⟩
    funext b
    by_cases h1 : b = hp.objs.size + 1
    · subst h1
      rw [upd_same, upd_same]
    · rw [upd_ne h1, upd_ne h1]
      by_cases h2 : b = dx
      · subst h2
        rw [upd_same, upd_same]
      · rw [upd_ne h2, upd_ne h2, upd_ne h1]
  have hl : (Value.ref (hp.objs.size + 1) :: us).length = ps.length := by
    have e := r2.length
    rw [F1.len _ _ _ _ hq] at e
    exact e.symm
  have hus : us.length ≤ sizeLine := by
    rw [← Paired.length r1, sizeLine_eq]
    omega
  have bind := hb _ (Value.ref (hp.objs.size + 1) :: us) I2.kIn (by rw [List.append_nil]; exact hl)
  rw [List.append_nil] at bind
  refine wpAny_call (PySem.HandSPX.call_own hF (fun Y => PySem.W.excTail_contains Y bm hbm) (I1.kIn _ _ hC) (PySem.W.looks_findIn I1.kIn iC) (fun self => PySem.W.bind_fn I1.kIn self tI) hus
    (codeAny_mono (F1.run _ X.stack _ _ ⟨Value.ref (hp.objs.size + 1) :: us, []⟩ (Value.ref (hp.objs.size + 1) :: us) _ _ (fun _ _ _ => False) (hr.make C us) (I2.env0.make C us []) bind r2 hq) fun r s' hq' => ?_))
  cases r with
  | error er => exact hq'.elim
  | ok fl =>
    cases fl with
    | ret u =>
      obtain ⟨v, H2, J2, rv, ev, dx, hdx, ne, eH⟩ := I2.after hq'
      subst ev
      subst eH
      refine ⟨rv, ?_⟩
      have ed : upd (upd H1 dx (exd dx (initF fs vs []))) (hp.objs.size + 1) (exo (hp.objs.size + 1) C (some dx)) dx = some (exd dx (initF fs vs [])) := by rw [upd_ne ne, upd_same]
      obtain ⟨od, J3⟩ := J2.lock ed (by unfold exd; exact True.intro)
      have ea : upd (upd (upd H1 dx (exd dx (initF fs vs []))) (hp.objs.size + 1) (exo (hp.objs.size + 1) C (some dx))) dx (.frz od (exd dx (initF fs vs []))) (hp.objs.size + 1) = some (exo (hp.objs.size + 1) C (some dx)) := by rw [upd_ne (Ne.symm ne), upd_same]
      obtain ⟨oa, J4⟩ := J3.lock ea (by unfold exo; exact True.intro)
      obtain ⟨t1, ho⟩ := exo_at J3.hok ea
      have ho4 := (J4.hok (hp.objs.size + 1) _ upd_same).1
      have eo := Option.some.inj (ho.symm.trans ho4)
      have eH : upd (upd (upd (upd H1 dx (exd dx (initF fs vs []))) (hp.objs.size + 1) (exo (hp.objs.size + 1) C (some dx))) dx (.frz od (exd dx (initF fs vs [])))) (hp.objs.size + 1) (.frz oa (exo (hp.objs.size + 1) C (some dx))) = upd (upd H1 dx (.frz od (exd dx (initF fs vs [])))) (hp.objs.size + 1) (.frz oa (exo (hp.objs.size + 1) C (some dx))) := by
        funext b
        by_cases h1 : b = hp.objs.size + 1
        · subst h1
          rw [upd_same, upd_same]
        · rw [upd_ne h1, upd_ne h1]
          by_cases h2 : b = dx
          · subst h2
            rw [upd_same, upd_same]
          · rw [upd_ne h2, upd_ne h2, upd_ne h1, upd_ne h2]
      rw [eH] at J4
      exact ⟨.ref (hp.objs.size + 1), _, J4, rfl, q1 _ dx oa od hn hdx ne (by rw [← eo] <;> rfl) ⟨_, by rw [← eo] <;> rfl⟩ (by rw [← eo] <;> rfl)⟩
    | next => exact False.elim hq'
    | brk => exact False.elim hq'
    | cont => exact False.elim hq'
theorem xmkE (G : KnownE X.prog X.w X.K X.mg X.base x C k fs) (hr : RoomG (k + 1) X.A) (ha : XA X K (e :: es) ta da) (hsm : fs.length ≤ 1000 := by decide) (hg : Gl X x := by rfl) (hK : X.K = K := by rfl)
    (hdb : (x == ("__debug__" : Str)) = false := by decide) (he : starEach (e :: es) X.env = (false, eval e X.env) :: starEach es X.env := by rfl) (hpl : (backTo pos (starEach es X.env)).any (·.1) = false := by rfl) :
    XE X K (.Call (.Name x p) (e :: es) [] pos) (tMkE C fs ta) (dMkE C fs da) := by
  subst hK
  obtain ⟨T, fI, fd, ps, F, iC, tI, hb⟩ := G
  refine ⟨pe_mkE T.oex iC tI F hr hb hg T.gC ha.p hdb he hpl, fun τ σ h H Q Q0 rs hr' bw w => ?_⟩
  refine ha.l τ σ h H _ _ rs hr' (fun ds h1 vs H1 x1 r1 hr1 w1 => ?_) w
  have hl : vs.length = fs.length := r1.length.symm.trans w1.1
  refine ⟨hl, by omega, fun a dx oa od hna hdx ne ec hd edi => ?_⟩
  have x2 : TX X.K H1 (upd H1 dx (.frz od (exd dx (initF fs vs [])))) := tx_new hdx
  have hna2 : upd H1 dx (.frz od (exd dx (initF fs vs []))) a = none := by rw [upd_ne (Ne.symm ne)]; exact hna
  have x3 : TX X.K (upd H1 dx (.frz od (exd dx (initF fs vs [])))) (upd (upd H1 dx (.frz od (exd dx (initF fs vs [])))) a (.frz oa (exo a C (some dx)))) := tx_new hna2
  refine bw _ _ _ _ (x1.trans (x2.trans x3)) rv_loc' ((hr1.lay hdx).put (o := .exc C (initF fs ds [])) x3 ⟨oa, _, upd_same, ec, hd, .inr ⟨dx, od, initF fs vs [], edi, by rw [upd_ne ne, upd_same], rkv_init (RVs.mono (x2.trans x3) _ _ r1) .nil⟩⟩) (w1.2 a (hr1.free hna))
end
/-! ### X(), X without an own __init__ -/
def dMkE0 (C : Addr) : DE := fun τ h Q => ∀ p, h p = none → Q (.loc p) (hupd h p (.exc C []))
def tMkE0 (C : Addr) : TE := fun σ H Q => ∀ a oa, H a = none → oa.cls = .ref C → (∃ w, oa.data = .fields w) → oa.dict = none → Q (.ref a) (upd H a (.frz oa (ExO (.ref C) a)))
structure XTx0 (K : PySem.W.Frag) (mg : Str → Option Value) (x : Str) (C : Addr) (bmB : List Value) (B newId initId : String) : Prop where
  F : ExcBaseFacts B newId initId bmB
  gC : mg x = some (.ref C)
  xC : PySem.W.excIn K C bmB newId = true
  kC : PySem.W.keepIn K (.ref C) = true
theorem xmkE0 {X : Cx} {K : PySem.W.Frag} {x : Str} {C : Addr} {p pos : Pos} {bmB : List Value} {B newId initId : String} (T : XTx0 X.K X.mg x C bmB B newId initId) (hg : Gl X x := by rfl) (hdb : (x == ("__debug__" : Str)) = false := by decide) (hK : X.K = K := by rfl) :
    XE X K (.Call (.Name x p) [] [] pos) (tMkE0 C) (dMkE0 C) := by
  subst hK
  refine ⟨⟨fun pins s σ H Q I h => ?_⟩, fun τ σ h H Q Q0 rs hr bw w a oa hna ec hd edi => ?_⟩
  · refine wpAny_Call_Name_kw (ld_glob I hg T.gC ?_ hdb)
    refine PySem.W.callWith_K0 I.kIn T.kC ?_
    show wpAny _ _ (call (.ref C) []) _ _ _
    obtain ⟨bm, N, nm, qn, bs, hdct, sn, sub, ab, col, dd, k0, k1, k2, k3, k5, mN, hC, hN, hni, Tl⟩ := exc_obj I.kIn T.xC
    refine wpAny_call_exc_subT T.F Tl hC hN hni (fun h' a hm => ?_) (by show 0 ≤ sizeLine; omega)
    have hn : H a = none := I.hok.gone hm.new
    obtain ⟨t, ht, _, _⟩ := hm.there
    exact ⟨.ref a, upd H a (.frz _ (ExO (.ref C) a)), I.laidN hm.keeps hm.new hn ⟨ht, exO_ok ht ⟨rfl, rfl⟩ rfl rfl rfl (show 4 < 6 by decide)⟩, rfl, h a _ hn rfl ⟨_, rfl⟩ rfl⟩
  · have x2 : TX X.K H (upd H a (.frz oa (ExO (.ref C) a))) := tx_new hna
    exact bw _ _ _ _ x2 rv_loc' (hr.put (o := .exc C []) x2 ⟨oa, _, upd_same, ec, hd, .inl ⟨edi, rfl⟩⟩) (w a (hr.free hna))
/-! ### a field -/
structure XFt (K : PySem.W.Frag) (C : Addr) (f : Str) : Prop where
  ga : PySem.W.findIn K (.ref C) "__getattribute__" = some (some (.builtin "BaseException.__getattribute__"))
  gg : PySem.W.findIn K (.ref C) "__getattr__" = some none
  exC : PySem.W.subIn K (.ref C) (.type "BaseException") = some true
  hd : PySem.W.hasDictIn K C = true
  no : PySem.W.findIn K (.ref C) f = some none
theorem XTxt.ft {K : PySem.W.Frag} {mg : Str → Option Value} {x : Str} {C : Addr} {fs : List Str} {f : Str} (T : XTxt K mg x C fs) (h : f ∈ fs) : XFt K C f := ⟨T.ga, T.gg, T.oex.exC, T.hd, T.no f h⟩
def dEFld (xf : Addr → Str → Prop) (f : Str) (t : DE) : DE := fun τ h Q => t τ h fun x h1 => ∃ a C fs, x = .loc a ∧ h1 a = some (.exc C fs) ∧ xf C f ∧ need (fldV fs f) h1 Q
def tEFld (xf : Addr → Str → Prop) (f : Str) (te : TE) : TE := fun σ H Q => te σ H fun x H1 => ∃ a oa u C dx od us v, x = .ref a ∧ H1 a = some (.frz oa u) ∧ oa.cls = .ref C ∧ (∃ w, oa.data = .fields w) ∧ oa.dict = some dx ∧ H1 dx = some (.frz od (exd dx us)) ∧ xf C f ∧ us.lookup f = some v ∧ Q v H1
section
variable {X : Cx} {K : PySem.W.Frag} {xf : Addr → Str → Prop} {f : Str}
theorem xefld {e : Expr} {te : TE} {de : DE} {pos : Pos} (T : ∀ C f, xf C f → XFt X.K C f) (he : XE X K e te de) (hb : attributeBase e f X.env (eval e X.env) = eval e X.env := by rfl) (hK : X.K = K := by rfl) : XE X K (.Attribute e f pos) (tEFld xf f te) (dEFld xf f de) := by
  subst hK
  refine ⟨⟨fun pins s σ H Q I h => ?_⟩, fun τ σ h H Q Q0 rs hr bw w => he.l τ σ h H _ _ rs hr (fun y h1 v H1 x1 r1 hr1 w1 => ?_) w⟩
  · refine attr_of hb (thn (he.p.run pins s σ H _ I h) fun u s1 hh => ?_)
    obtain ⟨x, H1, I1, rx, a, oa, u1, C, dx, od, us, v, ex, ea, ec, ⟨vs, hd⟩, edi, edx, hxf, hl, q⟩ := hh
    subst ex
    obtain rfl : u = Value.ref a := rx
    have T := T C f hxf
    have ha := (I1.hok a _ ea).1
    obtain ⟨hod, hx, _⟩ := I1.hok dx _ edx
    obtain ⟨mA, hns, hr⟩ := hx
    obtain ⟨od2, ho, hlk⟩ := lookIn_ns hns
    obtain ⟨u, hu, ru⟩ := RelO.some_of (v := v) (o := mA f) (by rw [← hl]; exact hr f)
    have J : PySem.W.InstAt s1.heap a oa C (some od2) := ⟨ha, ec, by unfold PySem.W.notCls; rw [hd] <;> rfl, by rw [edi]; exact ho⟩
    exact HandSPX.exc_get I1.kIn J T.ga T.gg T.exC (PySem.W.findObj_own T.hd T.no rfl (by rw [hlk, hu])) (handed_of ru) ⟨v, H1, I1.tok _, ru, q⟩
  · obtain ⟨a, C, fs, e1, e2, hxf, w2⟩ := w1
    subst e1
    obtain ⟨d0, z1, z2⟩ := need_of w2
    obtain ⟨oa, u, ea, ec, hd, hh⟩ := hr1 _ _ e2
    rcases hh with ⟨_, e3⟩ | ⟨dx, od, us, edi, edx, r⟩
    · subst e3
      cases z1
    · rcases rkv_lookup r f with ⟨z, _⟩ | ⟨d2, v2, y1, y2, rv⟩
      · rw [z1] at z; cases z
      · rw [z1] at y1; cases y1
        exact ⟨a, oa, u, C, dx, od, us, v2, rv_loc r1, ea, ec, hd, edi, edx, hxf, y2, bw _ h1 _ H1 x1 rv hr1 z2⟩
/-! ### isinstance -/
def rIsE (K : PySem.W.Frag) : List V → Hp → VK → Prop := fun xs H Q => ∃ C a v c b oa u, xs = [.ref a, v] ∧ clsV v c ∧ XIs K C ∧ PySem.W.kitOne K (.ref C) c = some b ∧ H a = some (.frz oa u) ∧ oa.cls = .ref C ∧ (∃ w, oa.data = .fields w) ∧ (oa.dict = none ∨ ∃ dx od us, oa.dict = some dx ∧ H dx = some (.frz od (exd dx us))) ∧ Q (.bl b) H
def bIsE (is : Value → Value → Bool → Prop) : DC := fun ds h Q => match ds with
  | [.loc p, .loc S] => ∃ C fs b, h p = some (.exc C fs) ∧ is (.ref C) (.ref S) b ∧ Q (.bl b) h
  | [.loc p, .ty n] => ∃ C fs b, h p = some (.exc C fs) ∧ is (.ref C) (.type n) b ∧ Q (.bl b) h
  | _ => False
theorem call_isE : CallR X (.builtin "isinstance") (rIsE X.K) := by
  intro pins s σ H xs us Q I r h
  obtain ⟨C, a, v, c, b, oa, u0, rfl, hc, T, hb, ea, ec, ⟨vs, hd⟩, hh, q⟩ := h
  obtain ⟨u, w', rfl, ru, rw'⟩ := vals2 r
  obtain rfl : u = Value.ref a := ru
  have ew : w' = c := by
    rcases hc with ⟨S, rfl, rfl⟩ | ⟨n, rfl, rfl⟩
    · exact rw'
    · exact rw'
  subst ew
  have ha := (I.hok a _ ea).1
  rcases hh with edi | ⟨dx, od, us', edi, edx⟩
  · have J : PySem.W.InstAt s.heap a oa C none := ⟨ha, ec, by unfold PySem.W.notCls; rw [hd] <;> rfl, by rw [edi]; exact trivial⟩
    exact PySem.W.kia_one (PySem.W.kitx_exc T.hcl T.hga T.hgt T.hsub T.ha T.hn T.htk T.hm) I.kIn J hb (fun z => nomatch z) fun tk => ⟨.bl b, H, I.tok _, rfl, q⟩
  · obtain ⟨_, hx, _⟩ := I.hok dx _ edx
    obtain ⟨mA, hns, hr⟩ := hx
    obtain ⟨od, ho, hlk⟩ := lookIn_ns hns
    have J : PySem.W.InstAt s.heap a oa C (some od) := ⟨ha, ec, by unfold PySem.W.notCls; rw [hd] <;> rfl, by rw [edi]; exact ho⟩
    exact PySem.W.kia_one (PySem.W.kitx_exc T.hcl T.hga T.hgt T.hsub T.ha T.hn T.htk T.hm) I.kIn J hb (fun z => nomatch z) fun tk => ⟨.bl b, H, I.tok _, rfl, q⟩
theorem q_isE {is : Value → Value → Bool → Prop} (his : ∀ cls c b, is cls c b → ∃ C, cls = .ref C ∧ XIs X.K C ∧ PySem.W.kitOne X.K cls c = some b) (hK : X.K = K := by rfl) :
    CallR X (.builtin "isinstance") (rIsE K) ∧ LC K (rIsE K) (bIsE is) := by
  subst hK
  refine ⟨call_isE, fun ds vs h H Q Q0 r hr bw w => ?_⟩
  match ds, w, r with
  | [.loc p, .loc S], ⟨C, fs, b, e, i, w⟩, r =>
    obtain ⟨x, y, e1, r1, r2⟩ := rvs_two r
    obtain ⟨C', ec, T, hb⟩ := his _ _ _ i
    cases ec
    obtain ⟨oa, u, ea, ec, hd, hh⟩ := hr _ _ e
    exact ⟨C, p, _, .ref S, b, oa, u, by rw [e1, rv_loc r1, rv_loc r2], .inl ⟨S, rfl, rfl⟩, T, hb, ea, ec, hd, hh.elim (fun z => .inl z.1) (fun ⟨dx, od, us, z1, z2, _⟩ => .inr ⟨dx, od, us, z1, z2⟩), bw _ h _ H TX.refl rv_bl' hr w⟩
  | [.loc p, .ty n], ⟨C, fs, b, e, i, w⟩, r =>
    obtain ⟨x, y, e1, r1, r2⟩ := rvs_two r
    obtain ⟨C', ec, T, hb⟩ := his _ _ _ i
    cases ec
    obtain ⟨oa, u, ea, ec, hd, hh⟩ := hr _ _ e
    exact ⟨C, p, _, .type n, b, oa, u, by rw [e1, rv_loc r1, rv_ty r2], .inr ⟨n, rfl, rfl⟩, T, hb, ea, ec, hd, hh.elim (fun z => .inl z.1) (fun ⟨dx, od, us, z1, z2, _⟩ => .inr ⟨dx, od, us, z1, z2⟩), bw _ h _ H TX.refl rv_bl' hr w⟩
end
/-- stepping -/
theorem w_efld {xf : Addr → Str → Prop} {a C : Addr} {fs : List (Str × D)} {f : Str} {v : D} {h : DH} {Q : DK} (e : h a = some (.exc C fs)) (hx : xf C f) (l : fldV fs f = some v) (k : Q v h) :
    ∃ a' C fs, D.loc a = .loc a' ∧ h a' = some (.exc C fs) ∧ xf C f ∧ need (fldV fs f) h Q := ⟨a, C, fs, rfl, e, hx, w_need l k⟩
end DL

set_option Elab.async false
set_option linter.all false
set_option maxRecDepth 100000
set_option maxHeartbeats 4000000
namespace DL
open PySem PySem.Spec PyProof.Rows L2
def xmT [CTab] : Value → Value → Bool → Prop := fun cls c b => False
def xfv [CTab] : Addr → Str → Prop := fun C f => (C = CTab.BadKitchen ∧ f = "number") ∨ (C = CTab.BadKitchen ∧ f = "word") ∨ (C = CTab.BadReading ∧ f = "number") ∨ (C = CTab.BadReading ∧ f = "word") ∨ (C = CTab.BadText ∧ f = "line") ∨ (C = CTab.BadText ∧ f = "number") ∨ (C = CTab.NoWorld ∧ f = "numbers") ∨ (C = CTab.NoReading ∧ f = "number") ∨ (C = CTab.NoWish ∧ f = "number")
def isxs [CTab] : Value → Value → Bool → Prop := fun cls v b => (cls = .ref CTab.BadKitchen ∧ v = .ref CTab.BadText ∧ b = false) ∨ (cls = .ref CTab.BadKitchen ∧ v = .ref CTab.BadReading ∧ b = false) ∨ (cls = .ref CTab.BadKitchen ∧ v = .ref CTab.BadKitchen ∧ b = true) ∨ (cls = .ref CTab.BadKitchen ∧ v = .ref CTab.NothingToUndo ∧ b = false) ∨ (cls = .ref CTab.BadKitchen ∧ v = .ref CTab.NoWorld ∧ b = false) ∨ (cls = .ref CTab.BadKitchen ∧ v = .ref CTab.Full ∧ b = false) ∨ (cls = .ref CTab.BadKitchen ∧ v = .ref CTab.OvenError ∧ b = true) ∨ (cls = .ref CTab.BadKitchen ∧ v = .ref CTab.NoWish ∧ b = false) ∨ (cls = .ref CTab.BadKitchen ∧ v = .ref CTab.NoReading ∧ b = false) ∨ (cls = .ref CTab.BadKitchen ∧ v = .type "KeyError" ∧ b = false) ∨ (cls = .ref CTab.BadKitchen ∧ v = .type "LookupError" ∧ b = false) ∨ (cls = .ref CTab.BadKitchen ∧ v = .type "ValueError" ∧ b = true) ∨ (cls = .ref CTab.BadKitchen ∧ v = .type "IndexError" ∧ b = false) ∨ (cls = .ref CTab.BadReading ∧ v = .ref CTab.BadText ∧ b = false) ∨ (cls = .ref CTab.BadReading ∧ v = .ref CTab.BadReading ∧ b = true) ∨ (cls = .ref CTab.BadReading ∧ v = .ref CTab.BadKitchen ∧ b = false) ∨ (cls = .ref CTab.BadReading ∧ v = .ref CTab.NothingToUndo ∧ b = false) ∨ (cls = .ref CTab.BadReading ∧ v = .ref CTab.NoWorld ∧ b = false) ∨ (cls = .ref CTab.BadReading ∧ v = .ref CTab.Full ∧ b = false) ∨ (cls = .ref CTab.BadReading ∧ v = .ref CTab.OvenError ∧ b = true) ∨ (cls = .ref CTab.BadReading ∧ v = .ref CTab.NoWish ∧ b = false) ∨ (cls = .ref CTab.BadReading ∧ v = .ref CTab.NoReading ∧ b = false) ∨ (cls = .ref CTab.BadReading ∧ v = .type "KeyError" ∧ b = false) ∨ (cls = .ref CTab.BadReading ∧ v = .type "LookupError" ∧ b = false) ∨ (cls = .ref CTab.BadReading ∧ v = .type "ValueError" ∧ b = true) ∨ (cls = .ref CTab.BadReading ∧ v = .type "IndexError" ∧ b = false) ∨ (cls = .ref CTab.BadText ∧ v = .ref CTab.BadText ∧ b = true) ∨ (cls = .ref CTab.BadText ∧ v = .ref CTab.BadReading ∧ b = false) ∨ (cls = .ref CTab.BadText ∧ v = .ref CTab.BadKitchen ∧ b = false) ∨ (cls = .ref CTab.BadText ∧ v = .ref CTab.NothingToUndo ∧ b = false) ∨ (cls = .ref CTab.BadText ∧ v = .ref CTab.NoWorld ∧ b = false) ∨ (cls = .ref CTab.BadText ∧ v = .ref CTab.Full ∧ b = false) ∨ (cls = .ref CTab.BadText ∧ v = .ref CTab.OvenError ∧ b = true) ∨ (cls = .ref CTab.BadText ∧ v = .ref CTab.NoWish ∧ b = false) ∨ (cls = .ref CTab.BadText ∧ v = .ref CTab.NoReading ∧ b = false) ∨ (cls = .ref CTab.BadText ∧ v = .type "KeyError" ∧ b = false) ∨ (cls = .ref CTab.BadText ∧ v = .type "LookupError" ∧ b = false) ∨ (cls = .ref CTab.BadText ∧ v = .type "ValueError" ∧ b = true) ∨ (cls = .ref CTab.BadText ∧ v = .type "IndexError" ∧ b = false) ∨ (cls = .ref CTab.Full ∧ v = .ref CTab.BadText ∧ b = false) ∨ (cls = .ref CTab.Full ∧ v = .ref CTab.BadReading ∧ b = false) ∨ (cls = .ref CTab.Full ∧ v = .ref CTab.BadKitchen ∧ b = false) ∨ (cls = .ref CTab.Full ∧ v = .ref CTab.NothingToUndo ∧ b = false) ∨ (cls = .ref CTab.Full ∧ v = .ref CTab.NoWorld ∧ b = false) ∨ (cls = .ref CTab.Full ∧ v = .ref CTab.Full ∧ b = true) ∨ (cls = .ref CTab.Full ∧ v = .ref CTab.OvenError ∧ b = true) ∨ (cls = .ref CTab.Full ∧ v = .ref CTab.NoWish ∧ b = false) ∨ (cls = .ref CTab.Full ∧ v = .ref CTab.NoReading ∧ b = false) ∨ (cls = .ref CTab.Full ∧ v = .type "KeyError" ∧ b = false) ∨ (cls = .ref CTab.Full ∧ v = .type "LookupError" ∧ b = false) ∨ (cls = .ref CTab.Full ∧ v = .type "ValueError" ∧ b = true) ∨ (cls = .ref CTab.Full ∧ v = .type "IndexError" ∧ b = false) ∨ (cls = .ref CTab.NoWorld ∧ v = .ref CTab.BadText ∧ b = false) ∨ (cls = .ref CTab.NoWorld ∧ v = .ref CTab.BadReading ∧ b = false) ∨ (cls = .ref CTab.NoWorld ∧ v = .ref CTab.BadKitchen ∧ b = false) ∨ (cls = .ref CTab.NoWorld ∧ v = .ref CTab.NothingToUndo ∧ b = false) ∨ (cls = .ref CTab.NoWorld ∧ v = .ref CTab.NoWorld ∧ b = true) ∨ (cls = .ref CTab.NoWorld ∧ v = .ref CTab.Full ∧ b = false) ∨ (cls = .ref CTab.NoWorld ∧ v = .ref CTab.OvenError ∧ b = true) ∨ (cls = .ref CTab.NoWorld ∧ v = .ref CTab.NoWish ∧ b = false) ∨ (cls = .ref CTab.NoWorld ∧ v = .ref CTab.NoReading ∧ b = false) ∨ (cls = .ref CTab.NoWorld ∧ v = .type "KeyError" ∧ b = false) ∨ (cls = .ref CTab.NoWorld ∧ v = .type "LookupError" ∧ b = false) ∨ (cls = .ref CTab.NoWorld ∧ v = .type "ValueError" ∧ b = true) ∨ (cls = .ref CTab.NoWorld ∧ v = .type "IndexError" ∧ b = false) ∨ (cls = .ref CTab.NothingToUndo ∧ v = .ref CTab.BadText ∧ b = false) ∨ (cls = .ref CTab.NothingToUndo ∧ v = .ref CTab.BadReading ∧ b = false) ∨ (cls = .ref CTab.NothingToUndo ∧ v = .ref CTab.BadKitchen ∧ b = false) ∨ (cls = .ref CTab.NothingToUndo ∧ v = .ref CTab.NothingToUndo ∧ b = true) ∨ (cls = .ref CTab.NothingToUndo ∧ v = .ref CTab.NoWorld ∧ b = false) ∨ (cls = .ref CTab.NothingToUndo ∧ v = .ref CTab.Full ∧ b = false) ∨ (cls = .ref CTab.NothingToUndo ∧ v = .ref CTab.OvenError ∧ b = true) ∨ (cls = .ref CTab.NothingToUndo ∧ v = .ref CTab.NoWish ∧ b = false) ∨ (cls = .ref CTab.NothingToUndo ∧ v = .ref CTab.NoReading ∧ b = false) ∨ (cls = .ref CTab.NothingToUndo ∧ v = .type "KeyError" ∧ b = false) ∨ (cls = .ref CTab.NothingToUndo ∧ v = .type "LookupError" ∧ b = false) ∨ (cls = .ref CTab.NothingToUndo ∧ v = .type "ValueError" ∧ b = true) ∨ (cls = .ref CTab.NothingToUndo ∧ v = .type "IndexError" ∧ b = false) ∨ (cls = .ref CTab.NoReading ∧ v = .ref CTab.BadText ∧ b = false) ∨ (cls = .ref CTab.NoReading ∧ v = .ref CTab.BadReading ∧ b = false) ∨ (cls = .ref CTab.NoReading ∧ v = .ref CTab.BadKitchen ∧ b = false) ∨ (cls = .ref CTab.NoReading ∧ v = .ref CTab.NothingToUndo ∧ b = false) ∨ (cls = .ref CTab.NoReading ∧ v = .ref CTab.NoWorld ∧ b = false) ∨ (cls = .ref CTab.NoReading ∧ v = .ref CTab.Full ∧ b = false) ∨ (cls = .ref CTab.NoReading ∧ v = .ref CTab.OvenError ∧ b = false) ∨ (cls = .ref CTab.NoReading ∧ v = .ref CTab.NoWish ∧ b = false) ∨ (cls = .ref CTab.NoReading ∧ v = .ref CTab.NoReading ∧ b = true) ∨ (cls = .ref CTab.NoReading ∧ v = .type "KeyError" ∧ b = false) ∨ (cls = .ref CTab.NoReading ∧ v = .type "LookupError" ∧ b = true) ∨ (cls = .ref CTab.NoReading ∧ v = .type "ValueError" ∧ b = false) ∨ (cls = .ref CTab.NoReading ∧ v = .type "IndexError" ∧ b = false) ∨ (cls = .ref CTab.NoWish ∧ v = .ref CTab.BadText ∧ b = false) ∨ (cls = .ref CTab.NoWish ∧ v = .ref CTab.BadReading ∧ b = false) ∨ (cls = .ref CTab.NoWish ∧ v = .ref CTab.BadKitchen ∧ b = false) ∨ (cls = .ref CTab.NoWish ∧ v = .ref CTab.NothingToUndo ∧ b = false) ∨ (cls = .ref CTab.NoWish ∧ v = .ref CTab.NoWorld ∧ b = false) ∨ (cls = .ref CTab.NoWish ∧ v = .ref CTab.Full ∧ b = false) ∨ (cls = .ref CTab.NoWish ∧ v = .ref CTab.OvenError ∧ b = false) ∨ (cls = .ref CTab.NoWish ∧ v = .ref CTab.NoWish ∧ b = true) ∨ (cls = .ref CTab.NoWish ∧ v = .ref CTab.NoReading ∧ b = false) ∨ (cls = .ref CTab.NoWish ∧ v = .type "KeyError" ∧ b = false) ∨ (cls = .ref CTab.NoWish ∧ v = .type "LookupError" ∧ b = true) ∨ (cls = .ref CTab.NoWish ∧ v = .type "ValueError" ∧ b = false) ∨ (cls = .ref CTab.NoWish ∧ v = .type "IndexError" ∧ b = false)
/-- _law_bag(_law_script): 0 _law_script 1 _law_cell 2 _law_great 3 _law_small -/
noncomputable def b_law_bag : DS :=
    (dSeq (dPar 2 3 (dCons (dC (.int 0)) (dCons (dOp dAdd (dC (.int 11222)) (dOp dMul (dC (.int 61)) (dCB (bOne lenD) (dCons (dVar 0) dNil)))) dNil)))
    (dSeq (kFor (diSeq (dSl (dVar 0) dNoPart (dPart (dC (.int 63))))) (gdName 1) (dIfS (dTest (dOp dGe (dVar 1) (dOp dPow (dC (.int 10)) (dC (.int 18))))) (dAsg (dOp dSub (dOp dAdd (dOp dMul (dVar 2) (dC (.int 59))) (dVar 1)) (dOp dPow (dC (.int 10)) (dC (.int 18)))) (gdName 2)) (dSeq (dAsg (dOp dAdd (dOp dAdd (dOp dMul (dVar 3) (dC (.int 2862933555777941757))) (dOp dMul (dC (.int 2)) (dCB (bOne absD) (dCons (dVar 1) dNil)))) (dCB (bOne intD) (dCons (dOp dLt (dVar 1) (dC (.int 0))) dNil))) (gdName 3))
    (dAsg (dOp dMod (dCB (bOne intD) (dCons (dVar 3) dNil)) (dC (.int 2305843009213693951))) (gdName 3)))))
    (dRet (dLst (dCons (dVar 2) (dCons (dVar 3) (dCons (dC (.int 0)) dNil)))))))
@[irreducible] noncomputable def m_law_bag : DC := hide (runD 4 b_law_bag)
theorem m_law_bag_eq : m_law_bag = runD 4 b_law_bag := by unfold m_law_bag; rw [hide_eq]
theorem m_law_bag_ap {a0 h Q} (w : b_law_bag { nx := fun _ h => Q .non h, rt := Q } [some a0, none, none, none] h) : m_law_bag [a0] h Q := by rw [m_law_bag_eq]; exact w
/-- _law_draw(_law_bag_here, _law_limit): 0 _law_bag_here 1 _law_limit 2 _law_mixed 3 _law_digit -/
noncomputable def b_law_draw : DS :=
    (dSeq (dIfS (dTest (dOp dGt (dOp dIx (dVar 0) (dC (.int 0))) (dC (.int 0)))) (dSeq (dAsg (dOp dMod (dCB (bOne intD) (dCons (dOp dIx (dVar 0) (dC (.int 0))) dNil)) (dVar 1)) (gdName 3))
    (dSeq (dAsg (dOp dFdiv (dOp dIx (dVar 0) (dC (.int 0))) (dVar 1)) (gdSub (dVar 0) (dC (.int 0))))
    (dRet (dVar 3)))) dNext)
    (dSeq (dAsg (dOp dAdd (dOp dIx (dVar 0) (dC (.int 2))) (dC (.int 1))) (gdSub (dVar 0) (dC (.int 2))))
    (dSeq (dAsg (dOp dAdd (dOp dMul (dOp dIx (dVar 0) (dC (.int 1))) (dC (.int 2862933555777941757))) (dOp dMul (dC (.int 3037000493)) (dOp dIx (dVar 0) (dC (.int 2))))) (gdName 2))
    (dSeq (dAsg (dOp dMod (dCB (bOne intD) (dCons (dVar 2) dNil)) (dC (.int 2305843009213693951))) (gdSub (dVar 0) (dC (.int 1))))
    (dRet (dOp dMod (dOp dFdiv (dOp dMod (dCB (bOne intD) (dCons (dOp dMul (dOp dIx (dVar 0) (dC (.int 1))) (dOp dIx (dVar 0) (dC (.int 1)))) dNil)) (dC (.int 2305843009213693921))) (dC (.int 4096))) (dVar 1)))))))
@[irreducible] noncomputable def m_law_draw : DC := hide (runD 4 b_law_draw)
theorem m_law_draw_eq : m_law_draw = runD 4 b_law_draw := by unfold m_law_draw; rw [hide_eq]
theorem m_law_draw_ap {a0 a1 h Q} (w : b_law_draw { nx := fun _ h => Q .non h, rt := Q } [some a0, some a1, none, none] h) : m_law_draw [a0, a1] h Q := by rw [m_law_draw_eq]; exact w
/-- _law_pick(_law_bag_here, _law_items): 0 _law_bag_here 1 _law_items -/
noncomputable def b_law_pick : DS :=
    (dRet (dOp dIx (dVar 1) (dCall 2 m_law_draw (dCons (dVar 0) (dCons (dCB (bOne lenD) (dCons (dVar 1) dNil)) dNil)))))
@[irreducible] noncomputable def m_law_pick : DC := hide (runD 2 b_law_pick)
theorem m_law_pick_eq : m_law_pick = runD 2 b_law_pick := by unfold m_law_pick; rw [hide_eq]
theorem m_law_pick_ap {a0 a1 h Q} (w : b_law_pick { nx := fun _ h => Q .non h, rt := Q } [some a0, some a1] h) : m_law_pick [a0, a1] h Q := by rw [m_law_pick_eq]; exact w
/-- _law_odd(_law_bag_here): 0 _law_bag_here 1 _law_some -/
noncomputable def b_law_odd : DS :=
    (dSeq (dAsg (dLst (dCons (dC .non) (dCons (dC (.bl true)) (dCons (dC (.bl false)) (dCons (dC (.int 0)) (dCons (dC (.int 1)) (dCons (dUn dNeg (dC (.int 1))) (dCons (dC (.int 6)) (dCons (dC (.int 21)) (dCons (dOp dPow (dC (.int 10)) (dC (.int 39))) (dCons (dC (.str "")) (dCons (dC (.str "0")) (dCons (dC (.str "raw")) (dCons (dC (.str "warm")) (dCons (dTup dNil) (dCons (dLst dNil) (dCons (dTup (dCons (dC (.int 0)) dNil)) (dCons (dTup (dCons (dC (.int 1)) (dCons (dC (.int 0)) dNil))) (dCons (dLst (dCons (dC (.int 0)) dNil)) (dCons (dTup (dCons (dC (.int 0)) (dCons (dC (.bl true)) dNil))) (dCons dNewK dNil))))))))))))))))))))) (gdName 1))
    (dRet (dCall 2 m_law_pick (dCons (dVar 0) (dCons (dOp dAdd (dVar 1) (dLst (dCons (dTup (dCons (dLst dNil) dNil)) (dCons (dTup (dCons (dC .non) dNil)) (dCons (dTup (dCons (dC (.str "raw")) dNil)) (dCons (dTup (dCons (dTup (dCons (dC (.int 0)) (dCons (dC (.int 1)) dNil))) dNil)) (dCons (dTup (dCons (dC (.int 0)) (dCons (dC (.int 0)) dNil))) (dCons (dTup (dCons dNewK dNil)) (dCons (dDisp (((dC (.str "0")), (dC (.int 1))) :: [])) (dCons (dTup (dCons (dUn dNeg (dC (.int 1))) (dCons (dC (.int 0)) dNil))) (dCons (dTup (dCons (dC (.int 5)) (dCons (dC (.int 2)) dNil))) (dCons (dOp dAdd (dOp dPow (dC (.int 10)) (dC (.int 12))) (dC (.int 1))) dNil)))))))))))) dNil)))))
@[irreducible] noncomputable def m_law_odd : DC := hide (runD 2 b_law_odd)
theorem m_law_odd_eq : m_law_odd = runD 2 b_law_odd := by unfold m_law_odd; rw [hide_eq]
theorem m_law_odd_ap {a0 h Q} (w : b_law_odd { nx := fun _ h => Q .non h, rt := Q } [some a0, none] h) : m_law_odd [a0] h Q := by rw [m_law_odd_eq]; exact w
/-- _law_sorts(_law_error): 0 _law_error 1 _law_found -/
noncomputable def b_law_sorts [CTab] : DS :=
    (dSeq (dAsg (dLst (dCons (dCB (bIsE isxs) (dCons (dVar 0) (dCons (dC (.loc CTab.BadKitchen)) dNil))) (dCons (dCB (bIsE isxs) (dCons (dVar 0) (dCons (dC (.loc CTab.BadReading)) dNil))) (dCons (dCB (bIsE isxs) (dCons (dVar 0) (dCons (dC (.loc CTab.BadText)) dNil))) dNil)))) (gdName 1))
    (dSeq (dAsg (dOp dAdd (dVar 1) (dLst (dCons (dCB (bIsE isxs) (dCons (dVar 0) (dCons (dC (.loc CTab.Full)) dNil))) (dCons (dCB (bIsE isxs) (dCons (dVar 0) (dCons (dC (.loc CTab.NoWorld)) dNil))) (dCons (dCB (bIsE isxs) (dCons (dVar 0) (dCons (dC (.loc CTab.NothingToUndo)) dNil))) dNil))))) (gdName 1))
    (dSeq (dAsg (dOp dAdd (dVar 1) (dLst (dCons (dCB (bIsE isxs) (dCons (dVar 0) (dCons (dC (.loc CTab.NoReading)) dNil))) (dCons (dCB (bIsE isxs) (dCons (dVar 0) (dCons (dC (.loc CTab.NoWish)) dNil))) (dCons (dCB (bIsE isxs) (dCons (dVar 0) (dCons (dC (.loc CTab.OvenError)) dNil))) dNil))))) (gdName 1))
    (dSeq (dAsg (dOp dAdd (dVar 1) (dLst (dCons (dCB (bIsE isxs) (dCons (dVar 0) (dCons (dC (.ty "ValueError")) dNil))) (dCons (dCB (bIsE isxs) (dCons (dVar 0) (dCons (dC (.ty "LookupError")) dNil))) (dCons (dCB (bIsE isxs) (dCons (dVar 0) (dCons (dC (.ty "KeyError")) dNil))) dNil))))) (gdName 1))
    (dRet (dOp dAdd (dVar 1) (dLst (dCons (dCB (bIsE isxs) (dCons (dVar 0) (dCons (dC (.ty "IndexError")) dNil))) dNil))))))))
@[irreducible] noncomputable def m_law_sorts [CTab] : DC := hide (runD 2 b_law_sorts)
theorem m_law_sorts_eq [CTab] : m_law_sorts = runD 2 b_law_sorts := by unfold m_law_sorts; rw [hide_eq]
theorem m_law_sorts_ap [CTab] {a0 h Q} (w : b_law_sorts { nx := fun _ h => Q .non h, rt := Q } [some a0, none] h) : m_law_sorts [a0] h Q := by rw [m_law_sorts_eq]; exact w
/-- law(_law_script): 0 _law_script 1 _law_bag_here 2 _law_limits 3 _law_turn 4 _law_some 5 _law_found 6 _law_p 7 _law_q 8 _law_spot 9 _law_error 10 _law_is_oven 11 _law_due 12 _law_at -/
noncomputable def b_law [CTab] : DS :=
    (dSeq (dAsg (dCall 1 m_law_bag (dCons (dVar 0) dNil)) (gdName 1))
    (dSeq (dAsg (dLst (dCons (dC (.int 200)) (dCons (dC (.int 1000000000)) (dCons (dC (.int 6)) (dCons (dC (.int 20)) (dCons (dC (.int 1000000000000)) (dCons (dC (.int 4)) (dCons (dC (.int 4)) (dCons (dC (.int 1000000)) dNil))))))))) (gdName 2))
    (dSeq (dAsg (dOp dAdd (dVar 2) (dLst (dCons (dC (.int 4)) (dCons (dC (.int 20)) (dCons (dC (.int 1000000000)) (dCons (dC (.int 6)) (dCons (dC (.int 1000000000000000000000000)) (dCons (dC (.int 6)) dNil)))))))) (gdName 2))
    (dSeq (dIfS (dTest (dOp (kEq true) (dCB kReprX (dCons (dVar 2) dNil)) (dCB kReprX (dCons (dLst (dCons (dC (.int 200)) (dCons (dOp dPow (dC (.int 10)) (dC (.int 9))) (dCons (dC (.int 6)) (dCons (dC (.int 20)) (dCons (dOp dPow (dC (.int 10)) (dC (.int 12))) (dCons (dC (.int 4)) (dCons (dC (.int 4)) (dCons (dOp dPow (dC (.int 10)) (dC (.int 6))) (dCons (dC (.int 4)) (dCons (dC (.int 20)) (dCons (dOp dPow (dC (.int 10)) (dC (.int 9))) (dCons (dC (.int 6)) (dCons (dOp dPow (dC (.int 10)) (dC (.int 24))) (dCons (dC (.int 6)) dNil))))))))))))))) dNil)))) (dRet (dC (.bl false))) dNext)
    (dSeq (kFor (diRng1 (dCons (dC (.int 6)) dNil)) (gdName 3) (dSeq (dPar 6 7 (dCons (dCall 1 m_law_odd (dCons (dVar 1) dNil)) (dCons (dCall 2 m_law_pick (dCons (dVar 1) (dCons (dLst (dCons (dCall 1 m_law_odd (dCons (dVar 1) dNil)) (dCons (dC (.str "dial")) (dCons (dOp dPow (dC (.int 10)) (dC (.int 39))) (dCons (dTup (dCons (dTup (dCons (dC (.int 0)) (dCons (dC (.int 1)) dNil))) (dCons (dC .non) dNil))) dNil))))) dNil))) dNil)))
    (dSeq (dAsg (dLst (dCons (dMkE CTab.BadKitchen ["number", "word"] (dCons (dVar 6) (dCons (dVar 7) dNil))) (dCons (dMkE CTab.BadReading ["number", "word"] (dCons (dVar 6) (dCons (dVar 7) dNil))) (dCons (dMkE CTab.BadText ["line", "number"] (dCons (dVar 6) (dCons (dVar 7) dNil))) (dCons (dMkE0 CTab.Full) (dCons (dMkE CTab.NoWorld ["numbers"] (dCons (dVar 6) dNil)) (dCons (dMkE0 CTab.NothingToUndo) (dCons (dMkE CTab.NoReading ["number"] (dCons (dVar 6) dNil)) (dCons (dMkE CTab.NoWish ["number"] (dCons (dVar 6) dNil)) dNil))))))))) (gdName 4))
    (dSeq (dAsg (dLst (dCons (dEFld xfv "number" (dOp dIx (dVar 4) (dC (.int 0)))) (dCons (dEFld xfv "number" (dOp dIx (dVar 4) (dC (.int 1)))) (dCons (dEFld xfv "line" (dOp dIx (dVar 4) (dC (.int 2)))) (dCons (dEFld xfv "numbers" (dOp dIx (dVar 4) (dC (.int 4)))) (dCons (dEFld xfv "number" (dOp dIx (dVar 4) (dC (.int 6)))) (dCons (dEFld xfv "number" (dOp dIx (dVar 4) (dC (.int 7)))) dNil))))))) (gdName 5))
    (dSeq (dIfS (dOr (dTest (dOp (kEq true) (dCB kReprX (dCons (dVar 5) dNil)) (dCB kReprX (dCons (dOp dMul (dLst (dCons (dVar 6) dNil)) (dC (.int 6))) dNil)))) (dTest (dOp (kEq true) (dCB kReprX (dCons (dLst (dCons (dEFld xfv "word" (dOp dIx (dVar 4) (dC (.int 0)))) (dCons (dEFld xfv "word" (dOp dIx (dVar 4) (dC (.int 1)))) (dCons (dEFld xfv "number" (dOp dIx (dVar 4) (dC (.int 2)))) dNil)))) dNil)) (dCB kReprX (dCons (dOp dMul (dLst (dCons (dVar 7) dNil)) (dC (.int 3))) dNil))))) (dRet (dC (.bl false))) dNext)
    (kFor (diEnum (dCons (dVar 4) dNil)) (gdTup 2 (gdCons (gdName 8) (gdCons (gdName 9) gdNil))) (dSeq (dAsg (dOp dLt (dVar 8) (dC (.int 6))) (gdName 10))
    (dSeq (dAsg (dOp dAdd (kLc (diRng1 (dCons (dC (.int 8)) dNil)) (gdName 12) dYes (dOp (kEq false) (dVar 12) (dVar 8)) [12]) (dLst (dCons (dVar 10) (dCons (dVar 10) (dCons (dNotV (dVar 10)) (dCons (dC (.bl false)) (dCons (dC (.bl false)) dNil))))))) (gdName 11))
    (dIfS (dTest (dOp (kEq true) (dCall 1 m_law_sorts (dCons (dVar 9) dNil)) (dVar 11))) (dRet (dC (.bl false))) dNext)))))))))
    (dRet (dC (.bl true))))))))
@[irreducible] noncomputable def m_law [CTab] : DC := hide (runD 13 b_law)
theorem m_law_eq [CTab] : m_law = runD 13 b_law := by unfold m_law; rw [hide_eq]
theorem m_law_ap [CTab] {a0 h Q} (w : b_law { nx := fun _ h => Q .non h, rt := Q } [some a0, none, none, none, none, none, none, none, none, none, none, none, none] h) : m_law [a0] h Q := by rw [m_law_eq]; exact w

end DL

set_option Elab.async false
set_option linter.all false
set_option maxRecDepth 100000
set_option maxHeartbeats 4000000
namespace DL
open PySem PySem.Spec PyProof.Rows L2
def top (i : Nat) : Stmt := PySem.Challenge.pw_ovensuntold_k66_errors_and_bounds.main.body.getD i (.Pass ⟨0, 0, 0, 0⟩)
abbrev s_law_bag : Stmt := top 25
abbrev s_law_draw : Stmt := top 26
abbrev s_law_pick : Stmt := top 27
abbrev s_law_odd : Stmt := top 28
abbrev s_NoWish___init__ : Stmt := inClass (top 9) 0
abbrev s_NoReading___init__ : Stmt := inClass (top 8) 0
abbrev s_NoWorld___init__ : Stmt := inClass (top 6) 0
abbrev s_BadText___init__ : Stmt := inClass (top 4) 0
abbrev s_BadReading___init__ : Stmt := inClass (top 3) 0
abbrev s_BadKitchen___init__ : Stmt := inClass (top 2) 0
abbrev s_law_sorts : Stmt := top 29
abbrev s_law : Stmt := top 30
structure Facts [CTab] (w : World) (K : PySem.W.Frag) (mg : Str → Option Value) : Prop where
  u : True
  hw : w = CTab.w
  hxm : ∀ cls c b, xmT cls c b → PySem.W.exmOne K cls c = some b
  xt_OvenError : XTxt K mg "OvenError" CTab.OvenError []
  xt_BadKitchen : XTxt K mg "BadKitchen" CTab.BadKitchen ["number", "word"]
  xt_BadReading : XTxt K mg "BadReading" CTab.BadReading ["number", "word"]
  xt_BadText : XTxt K mg "BadText" CTab.BadText ["line", "number"]
  xt_Full : XTxt K mg "Full" CTab.Full []
  xt_NoWorld : XTxt K mg "NoWorld" CTab.NoWorld ["numbers"]
  xt_NothingToUndo : XTxt K mg "NothingToUndo" CTab.NothingToUndo []
  xt_NoReading : XTxt K mg "NoReading" CTab.NoReading ["number"]
  xt_NoWish : XTxt K mg "NoWish" CTab.NoWish ["number"]
  x0_NothingToUndo : XTx0 K mg "NothingToUndo" CTab.NothingToUndo [.type "ValueError", .type "Exception", .type "BaseException", .type "object"] "ValueError" "ValueError.__new__" "ValueError.__init__"
  x0_Full : XTx0 K mg "Full" CTab.Full [.type "ValueError", .type "Exception", .type "BaseException", .type "object"] "ValueError" "ValueError.__new__" "ValueError.__init__"
  hxf : ∀ C f, xfv C f → XFt K C f
  xi_BadKitchen : XIs K CTab.BadKitchen
  xi_BadReading : XIs K CTab.BadReading
  xi_BadText : XIs K CTab.BadText
  xi_Full : XIs K CTab.Full
  xi_NoWorld : XIs K CTab.NoWorld
  xi_NothingToUndo : XIs K CTab.NothingToUndo
  xi_NoReading : XIs K CTab.NoReading
  xi_NoWish : XIs K CTab.NoWish
  his : ∀ cls c b, isxs cls c b → ∃ C, cls = .ref C ∧ XIs K C ∧ PySem.W.kitOne K cls c = some b
  n_IndexError : mg "IndexError" = none
  n_KeyError : mg "KeyError" = none
  n_LookupError : mg "LookupError" = none
  n_ValueError : mg "ValueError" = none
  n_abs : mg "abs" = none
  n_enumerate : mg "enumerate" = none
  n_int : mg "int" = none
  n_isinstance : mg "isinstance" = none
  n_len : mg "len" = none
  n_range : mg "range" = none
  n_repr : mg "repr" = none
  c_MAX_BENDS : ∃ t, mg "MAX_BENDS" = some (.int 200 t)
  c_MAX_DIALS : ∃ t, mg "MAX_DIALS" = some (.int 1000000000 t)
  c_MAX_DISHES : ∃ t, mg "MAX_DISHES" = some (.int 6 t)
  c_MAX_EDITS : ∃ t, mg "MAX_EDITS" = some (.int 20 t)
  c_MAX_HEAT : ∃ t, mg "MAX_HEAT" = some (.int 1000000000000 t)
  c_MAX_LOADS : ∃ t, mg "MAX_LOADS" = some (.int 4 t)
  c_MAX_MENU : ∃ t, mg "MAX_MENU" = some (.int 4 t)
  c_MAX_MINUTES : ∃ t, mg "MAX_MINUTES" = some (.int 1000000 t)
  c_MAX_OVENS : ∃ t, mg "MAX_OVENS" = some (.int 4 t)
  c_MAX_READINGS : ∃ t, mg "MAX_READINGS" = some (.int 20 t)
  c_MAX_SLOPE : ∃ t, mg "MAX_SLOPE" = some (.int 1000000000 t)
  c_MAX_TIES : ∃ t, mg "MAX_TIES" = some (.int 6 t)
  c_MAX_WARMTH : ∃ t, mg "MAX_WARMTH" = some (.int 1000000000000000000000000 t)
  c_MAX_WISHES : ∃ t, mg "MAX_WISHES" = some (.int 6 t)
section
variable [CTab] {P : Program} {w : World} {K : PySem.W.Frag} {mg : Str → Option Value} {base : Heap}
theorem sc_law_bag : FnScope ["_law_script", "_law_cell", "_law_great", "_law_small"] ["_law_script"] (defScope s_law_bag) := ⟨rfl, rfl, rfl, by decide +kernel, rfl, by decide +kernel, by decide +kernel⟩
theorem ok_law_bag (T : Facts w K mg) {a : Addr} {fd : FuncData} (F : Fun K "_law_bag" "_law_bag" s_law_bag a fd) (hm : mg "_law_bag" = some (.ref a))  : Known P w K mg base "_law_bag" 1 1 m_law_bag := by
  have S := sc_law_bag
  rw [m_law_bag_eq]
  refine known_of F hm (okD F S rfl rfl fun cdv A outer s H E hr => ?_) (F.binds (ps := ["_law_script"]) fun _ _ _ _ _ _ us hl => match us, hl with | [_], _ => rfl)
  have hu := hr.hu
  have hu1 := hr.hu1
  have hu5 := hr.hu5
  have hu9 := hr.hu9
  exact ⟨_, (xss_cons (xs_par (i := 2) (j := 3) rfl S.nd (xcons xint (xcons (xop q_add xint (xop q_mul xint (xcallB q_len T.n_len (xcons (xv 0) xnil)))) xnil)) (by decide))
    (xss_cons (xs_kfor PassesOwn.never rfl (xi_seq (xsl (xv 0) xo_none (xo_some xint))) (xg_name (i := 1) S.nd) (xss_one (xs_if (xtcmp q_ge (xv 1) (xop q_pow xint xint)) (xss_one (xs_set (i := 2) S.nd (xop q_sub (xop q_add (xop q_mul (xv 2) xint) (xv 1)) (xop q_pow xint xint)))) (xss_cons (xs_set (i := 3) S.nd (xop q_add (xop q_add (xop q_mul (xv 3) xint) (xop q_mul xint (xcallB q_abs T.n_abs (xcons (xv 1) xnil)))) (xcallT q_int T.n_int (xcons (xcmp q_lt (xv 1) xint) xnil))))
    (xss_one (xs_set (i := 3) S.nd (xop q_mod (xcallT q_int T.n_int (xcons (xv 3) xnil)) xint)))))))
    (xss_one (xs_ret (xlst (xcons (xv 2) (xcons (xv 3) (xcons xint xnil))))))))⟩
theorem sc_law_draw : FnScope ["_law_bag_here", "_law_limit", "_law_mixed", "_law_digit"] ["_law_bag_here", "_law_limit"] (defScope s_law_draw) := ⟨rfl, rfl, rfl, by decide +kernel, rfl, by decide +kernel, by decide +kernel⟩
theorem ok_law_draw (T : Facts w K mg) {a : Addr} {fd : FuncData} (F : Fun K "_law_draw" "_law_draw" s_law_draw a fd) (hm : mg "_law_draw" = some (.ref a))  : Known P w K mg base "_law_draw" 1 2 m_law_draw := by
  have S := sc_law_draw
  rw [m_law_draw_eq]
  refine known_of F hm (okD F S rfl rfl fun cdv A outer s H E hr => ?_) (F.binds (ps := ["_law_bag_here", "_law_limit"]) fun _ _ _ _ _ _ us hl => match us, hl with | [_, _], _ => rfl)
  have hu := hr.hu
  have hu1 := hr.hu1
  have hu5 := hr.hu5
  have hu9 := hr.hu9
  exact ⟨_, (xss_cons (xs_if (xtcmp q_gt (xix hu1 (xv 0) xint) xint) (xss_cons (xs_set (i := 3) S.nd (xop q_mod (xcallT q_int T.n_int (xcons (xix hu1 (xv 0) xint) xnil)) (xv 1)))
    (xss_cons (xs_asg (xop q_fdiv (xix hu1 (xv 0) xint) (xv 1)) (xg_sub hu1 (xv 0) xint))
    (xss_one (xs_ret (xv 3))))) xss_nil)
    (xss_cons (xs_asg (xop q_add (xix hu1 (xv 0) xint) xint) (xg_sub hu1 (xv 0) xint))
    (xss_cons (xs_set (i := 2) S.nd (xop q_add (xop q_mul (xix hu1 (xv 0) xint) xint) (xop q_mul xint (xix hu1 (xv 0) xint))))
    (xss_cons (xs_asg (xop q_mod (xcallT q_int T.n_int (xcons (xv 2) xnil)) xint) (xg_sub hu1 (xv 0) xint))
    (xss_one (xs_ret (xop q_mod (xop q_fdiv (xop q_mod (xcallT q_int T.n_int (xcons (xop q_mul (xix hu1 (xv 0) xint) (xix hu1 (xv 0) xint)) xnil)) xint) xint) (xv 1))))))))⟩
theorem sc_law_pick : FnScope ["_law_bag_here", "_law_items"] ["_law_bag_here", "_law_items"] (defScope s_law_pick) := ⟨rfl, rfl, rfl, by decide +kernel, rfl, by decide +kernel, by decide +kernel⟩
theorem ok_law_pick (T : Facts w K mg) {a : Addr} {fd : FuncData} (F : Fun K "_law_pick" "_law_pick" s_law_pick a fd) (hm : mg "_law_pick" = some (.ref a)) (G_law_draw : Known P w K mg base "_law_draw" 1 2 m_law_draw) : Known P w K mg base "_law_pick" 2 2 m_law_pick := by
  have S := sc_law_pick
  rw [m_law_pick_eq]
  refine known_of F hm (okD F S rfl rfl fun cdv A outer s H E hr => ?_) (F.binds (ps := ["_law_bag_here", "_law_items"]) fun _ _ _ _ _ _ us hl => match us, hl with | [_, _], _ => rfl)
  have hu := hr.hu
  have hu1 := hr.hu1
  have hu5 := hr.hu5
  have hu9 := hr.hu9
  exact ⟨_, (xss_one (xs_ret (xix hu1 (xv 1) (xkn G_law_draw (hr.mono (by decide)) (xcons (xv 0) (xcons (xcallB q_len T.n_len (xcons (xv 1) xnil)) xnil))))))⟩
theorem sc_law_odd : FnScope ["_law_bag_here", "_law_some"] ["_law_bag_here"] (defScope s_law_odd) := ⟨rfl, rfl, rfl, by decide +kernel, rfl, by decide +kernel, by decide +kernel⟩
theorem ok_law_odd (T : Facts w K mg) {a : Addr} {fd : FuncData} (F : Fun K "_law_odd" "_law_odd" s_law_odd a fd) (hm : mg "_law_odd" = some (.ref a)) (G_law_pick : Known P w K mg base "_law_pick" 2 2 m_law_pick) : Known P w K mg base "_law_odd" 3 1 m_law_odd := by
  have S := sc_law_odd
  rw [m_law_odd_eq]
  refine known_of F hm (okD F S rfl rfl fun cdv A outer s H E hr => ?_) (F.binds (ps := ["_law_bag_here"]) fun _ _ _ _ _ _ us hl => match us, hl with | [_], _ => rfl)
  have hu := hr.hu
  have hu1 := hr.hu1
  have hu5 := hr.hu5
  have hu9 := hr.hu9
  exact ⟨_, (xss_cons (xs_set (i := 1) S.nd (xlst (xcons xnon (xcons xbl (xcons xbl (xcons xint (xcons xint (xcons (xun q_neg xint) (xcons xint (xcons xint (xcons (xop q_pow xint xint) (xcons xstr (xcons xstr (xcons xstr (xcons xstr (xcons (xtup xnil) (xcons (xlst xnil) (xcons (xtup (xcons xint xnil)) (xcons (xtup (xcons xint (xcons xint xnil))) (xcons (xlst (xcons xint xnil)) (xcons (xtup (xcons xint (xcons xbl xnil))) (xcons xnewK xnil))))))))))))))))))))))
    (xss_one (xs_ret (xkn G_law_pick (hr.mono (by decide)) (xcons (xv 0) (xcons (xop q_add (xv 1) (xlst (xcons (xtup (xcons (xlst xnil) xnil)) (xcons (xtup (xcons xnon xnil)) (xcons (xtup (xcons xstr xnil)) (xcons (xtup (xcons (xtup (xcons xint (xcons xint xnil))) xnil)) (xcons (xtup (xcons xint (xcons xint xnil))) (xcons (xtup (xcons xnewK xnil)) (xcons (xdisp (xpps_cons xstr xint xpps_nil)) (xcons (xtup (xcons (xun q_neg xint) (xcons xint xnil))) (xcons (xtup (xcons xint (xcons xint xnil))) (xcons (xop q_add (xop q_pow xint xint) xint) xnil)))))))))))) xnil))))))⟩
theorem sc_NoWish___init__ : FnScope ["self", "number"] ["self", "number"] (defScope s_NoWish___init__) := ⟨rfl, rfl, rfl, by decide +kernel, rfl, by decide +kernel, by decide +kernel⟩
theorem ok_NoWish___init__ (T : Facts w K mg) {a : Addr} {fd : FuncData} (F : Fun K "__init__" "NoWish.__init__" s_NoWish___init__ a fd) (iC : PySem.W.findIn K (.ref CTab.NoWish) "__init__" = some (some (.ref a))) (tI : PySem.W.typeIn K (.ref a) = some (.type "function")) : KnownE P w K mg base "NoWish" CTab.NoWish 1 ["number"] :=
  init1 T.xt_NoWish F iC tI sc_NoWish___init__ (F.binds (ps := ["self", "number"]) fun _ _ _ _ _ _ us hl => match us, hl with | [_, _], _ => rfl) rfl
theorem sc_NoReading___init__ : FnScope ["self", "number"] ["self", "number"] (defScope s_NoReading___init__) := ⟨rfl, rfl, rfl, by decide +kernel, rfl, by decide +kernel, by decide +kernel⟩
theorem ok_NoReading___init__ (T : Facts w K mg) {a : Addr} {fd : FuncData} (F : Fun K "__init__" "NoReading.__init__" s_NoReading___init__ a fd) (iC : PySem.W.findIn K (.ref CTab.NoReading) "__init__" = some (some (.ref a))) (tI : PySem.W.typeIn K (.ref a) = some (.type "function")) : KnownE P w K mg base "NoReading" CTab.NoReading 1 ["number"] :=
  init1 T.xt_NoReading F iC tI sc_NoReading___init__ (F.binds (ps := ["self", "number"]) fun _ _ _ _ _ _ us hl => match us, hl with | [_, _], _ => rfl) rfl
theorem sc_NoWorld___init__ : FnScope ["self", "numbers"] ["self", "numbers"] (defScope s_NoWorld___init__) := ⟨rfl, rfl, rfl, by decide +kernel, rfl, by decide +kernel, by decide +kernel⟩
theorem ok_NoWorld___init__ (T : Facts w K mg) {a : Addr} {fd : FuncData} (F : Fun K "__init__" "NoWorld.__init__" s_NoWorld___init__ a fd) (iC : PySem.W.findIn K (.ref CTab.NoWorld) "__init__" = some (some (.ref a))) (tI : PySem.W.typeIn K (.ref a) = some (.type "function")) : KnownE P w K mg base "NoWorld" CTab.NoWorld 1 ["numbers"] :=
  init1 T.xt_NoWorld F iC tI sc_NoWorld___init__ (F.binds (ps := ["self", "numbers"]) fun _ _ _ _ _ _ us hl => match us, hl with | [_, _], _ => rfl) rfl
theorem sc_BadText___init__ : FnScope ["self", "line", "number"] ["self", "line", "number"] (defScope s_BadText___init__) := ⟨rfl, rfl, rfl, by decide +kernel, rfl, by decide +kernel, by decide +kernel⟩
theorem ok_BadText___init__ (T : Facts w K mg) {a : Addr} {fd : FuncData} (F : Fun K "__init__" "BadText.__init__" s_BadText___init__ a fd) (iC : PySem.W.findIn K (.ref CTab.BadText) "__init__" = some (some (.ref a))) (tI : PySem.W.typeIn K (.ref a) = some (.type "function")) : KnownE P w K mg base "BadText" CTab.BadText 1 ["line", "number"] :=
  init2 T.xt_BadText F iC tI sc_BadText___init__ (F.binds (ps := ["self", "line", "number"]) fun _ _ _ _ _ _ us hl => match us, hl with | [_, _, _], _ => rfl) rfl
theorem sc_BadReading___init__ : FnScope ["self", "number", "word"] ["self", "number", "word"] (defScope s_BadReading___init__) := ⟨rfl, rfl, rfl, by decide +kernel, rfl, by decide +kernel, by decide +kernel⟩
theorem ok_BadReading___init__ (T : Facts w K mg) {a : Addr} {fd : FuncData} (F : Fun K "__init__" "BadReading.__init__" s_BadReading___init__ a fd) (iC : PySem.W.findIn K (.ref CTab.BadReading) "__init__" = some (some (.ref a))) (tI : PySem.W.typeIn K (.ref a) = some (.type "function")) : KnownE P w K mg base "BadReading" CTab.BadReading 1 ["number", "word"] :=
  init2 T.xt_BadReading F iC tI sc_BadReading___init__ (F.binds (ps := ["self", "number", "word"]) fun _ _ _ _ _ _ us hl => match us, hl with | [_, _, _], _ => rfl) rfl
theorem sc_BadKitchen___init__ : FnScope ["self", "number", "word"] ["self", "number", "word"] (defScope s_BadKitchen___init__) := ⟨rfl, rfl, rfl, by decide +kernel, rfl, by decide +kernel, by decide +kernel⟩
theorem ok_BadKitchen___init__ (T : Facts w K mg) {a : Addr} {fd : FuncData} (F : Fun K "__init__" "BadKitchen.__init__" s_BadKitchen___init__ a fd) (iC : PySem.W.findIn K (.ref CTab.BadKitchen) "__init__" = some (some (.ref a))) (tI : PySem.W.typeIn K (.ref a) = some (.type "function")) : KnownE P w K mg base "BadKitchen" CTab.BadKitchen 1 ["number", "word"] :=
  init2 T.xt_BadKitchen F iC tI sc_BadKitchen___init__ (F.binds (ps := ["self", "number", "word"]) fun _ _ _ _ _ _ us hl => match us, hl with | [_, _, _], _ => rfl) rfl
theorem sc_law_sorts : FnScope ["_law_error", "_law_found"] ["_law_error"] (defScope s_law_sorts) := ⟨rfl, rfl, rfl, by decide +kernel, rfl, by decide +kernel, by decide +kernel⟩
theorem ok_law_sorts (T : Facts w K mg) {a : Addr} {fd : FuncData} (F : Fun K "_law_sorts" "_law_sorts" s_law_sorts a fd) (hm : mg "_law_sorts" = some (.ref a))  : Known P w K mg base "_law_sorts" 1 1 m_law_sorts := by
  have S := sc_law_sorts
  rw [m_law_sorts_eq]
  refine known_of F hm (okD F S rfl rfl fun cdv A outer s H E hr => ?_) (F.binds (ps := ["_law_error"]) fun _ _ _ _ _ _ us hl => match us, hl with | [_], _ => rfl)
  have hu := hr.hu
  have hu1 := hr.hu1
  have hu5 := hr.hu5
  have hu9 := hr.hu9
  exact ⟨_, (xss_cons (xs_set (i := 1) S.nd (xlst (xcons (xcallB (q_isE T.his) T.n_isinstance (xcons (xv 0) (xcons (xclsX T.xt_BadKitchen.gC) xnil))) (xcons (xcallB (q_isE T.his) T.n_isinstance (xcons (xv 0) (xcons (xclsX T.xt_BadReading.gC) xnil))) (xcons (xcallB (q_isE T.his) T.n_isinstance (xcons (xv 0) (xcons (xclsX T.xt_BadText.gC) xnil))) xnil)))))
    (xss_cons (xs_set (i := 1) S.nd (xop q_add (xv 1) (xlst (xcons (xcallB (q_isE T.his) T.n_isinstance (xcons (xv 0) (xcons (xclsX T.xt_Full.gC) xnil))) (xcons (xcallB (q_isE T.his) T.n_isinstance (xcons (xv 0) (xcons (xclsX T.xt_NoWorld.gC) xnil))) (xcons (xcallB (q_isE T.his) T.n_isinstance (xcons (xv 0) (xcons (xclsX T.xt_NothingToUndo.gC) xnil))) xnil))))))
    (xss_cons (xs_set (i := 1) S.nd (xop q_add (xv 1) (xlst (xcons (xcallB (q_isE T.his) T.n_isinstance (xcons (xv 0) (xcons (xclsX T.xt_NoReading.gC) xnil))) (xcons (xcallB (q_isE T.his) T.n_isinstance (xcons (xv 0) (xcons (xclsX T.xt_NoWish.gC) xnil))) (xcons (xcallB (q_isE T.his) T.n_isinstance (xcons (xv 0) (xcons (xclsX T.xt_OvenError.gC) xnil))) xnil))))))
    (xss_cons (xs_set (i := 1) S.nd (xop q_add (xv 1) (xlst (xcons (xcallB (q_isE T.his) T.n_isinstance (xcons (xv 0) (xcons (xtype T.n_ValueError (by decide +kernel)) xnil))) (xcons (xcallB (q_isE T.his) T.n_isinstance (xcons (xv 0) (xcons (xtype T.n_LookupError (by decide +kernel)) xnil))) (xcons (xcallB (q_isE T.his) T.n_isinstance (xcons (xv 0) (xcons (xtype T.n_KeyError (by decide +kernel)) xnil))) xnil))))))
    (xss_one (xs_ret (xop q_add (xv 1) (xlst (xcons (xcallB (q_isE T.his) T.n_isinstance (xcons (xv 0) (xcons (xtype T.n_IndexError (by decide +kernel)) xnil))) xnil)))))))))⟩
theorem sc_law : FnScope ["_law_script", "_law_bag_here", "_law_limits", "_law_turn", "_law_some", "_law_found", "_law_p", "_law_q", "_law_spot", "_law_error", "_law_is_oven", "_law_due", "_law_at"] ["_law_script"] (defScope s_law) := ⟨rfl, rfl, rfl, by decide +kernel, rfl, by decide +kernel, by decide +kernel⟩
theorem fg_law (T : Facts w K mg) {a : Addr} {fd : FuncData} (F : Fun K "law" "law" s_law a fd) (G_law_bag : Known P w K mg base "_law_bag" 1 1 m_law_bag) (G_law_pick : Known P w K mg base "_law_pick" 2 2 m_law_pick) (G_law_odd : Known P w K mg base "_law_odd" 3 1 m_law_odd) (G_NoWish___init__ : KnownE P w K mg base "NoWish" CTab.NoWish 1 ["number"]) (G_NoReading___init__ : KnownE P w K mg base "NoReading" CTab.NoReading 1 ["number"]) (G_NoWorld___init__ : KnownE P w K mg base "NoWorld" CTab.NoWorld 1 ["numbers"]) (G_BadText___init__ : KnownE P w K mg base "BadText" CTab.BadText 1 ["line", "number"]) (G_BadReading___init__ : KnownE P w K mg base "BadReading" CTab.BadReading 1 ["number", "word"]) (G_BadKitchen___init__ : KnownE P w K mg base "BadKitchen" CTab.BadKitchen 1 ["number", "word"]) (G_law_sorts : Known P w K mg base "_law_sorts" 1 1 m_law_sorts) : FnG P w K mg base CX0 4 a fd ["_law_script"] (spD K 1 (runD 13 b_law)) := by
  have S := sc_law
  refine okD F S rfl rfl fun cdv A outer s H E hr => ?_
  have hu := hr.hu
  have hu1 := hr.hu1
  have hu5 := hr.hu5
  have hu9 := hr.hu9
  exact ⟨_, (xss_cons (xs_set (i := 1) S.nd (xkn G_law_bag (hr.mono (by decide)) (xcons (xv 0) xnil)))
    (xss_cons (xs_set (i := 2) S.nd (xlst (xcons (xgi T.c_MAX_BENDS) (xcons (xgi T.c_MAX_DIALS) (xcons (xgi T.c_MAX_DISHES) (xcons (xgi T.c_MAX_EDITS) (xcons (xgi T.c_MAX_HEAT) (xcons (xgi T.c_MAX_LOADS) (xcons (xgi T.c_MAX_MENU) (xcons (xgi T.c_MAX_MINUTES) xnil))))))))))
    (xss_cons (xs_set (i := 2) S.nd (xop q_add (xv 2) (xlst (xcons (xgi T.c_MAX_OVENS) (xcons (xgi T.c_MAX_READINGS) (xcons (xgi T.c_MAX_SLOPE) (xcons (xgi T.c_MAX_TIES) (xcons (xgi T.c_MAX_WARMTH) (xcons (xgi T.c_MAX_WISHES) xnil)))))))))
    (xss_cons (xs_if (xtcmp (qk_ne hu) (xcallB (qk_reprX hr) T.n_repr (xcons (xv 2) xnil)) (xcallB (qk_reprX hr) T.n_repr (xcons (xlst (xcons xint (xcons (xop q_pow xint xint) (xcons xint (xcons xint (xcons (xop q_pow xint xint) (xcons xint (xcons xint (xcons (xop q_pow xint xint) (xcons xint (xcons xint (xcons (xop q_pow xint xint) (xcons xint (xcons (xop q_pow xint xint) (xcons xint xnil))))))))))))))) xnil))) (xss_one (xs_ret xbl)) xss_nil)
    (xss_cons (xs_kfor PassesOwn.never rfl (xi_rng1 T.n_range (xcons xint xnil)) (xg_name (i := 3) S.nd) (xss_cons (xs_par (i := 6) (j := 7) rfl S.nd (xcons (xkn G_law_odd (hr.mono (by decide)) (xcons (xv 1) xnil)) (xcons (xkn G_law_pick (hr.mono (by decide)) (xcons (xv 1) (xcons (xlst (xcons (xkn G_law_odd (hr.mono (by decide)) (xcons (xv 1) xnil)) (xcons xstr (xcons (xop q_pow xint xint) (xcons (xtup (xcons (xtup (xcons xint (xcons xint xnil))) (xcons xnon xnil))) xnil))))) xnil))) xnil)) (by decide))
    (xss_cons (xs_set (i := 4) S.nd (xlst (xcons (xmkE G_BadKitchen___init__ (hr.mono (by decide)) (xcons (xv 6) (xcons (xv 7) xnil))) (xcons (xmkE G_BadReading___init__ (hr.mono (by decide)) (xcons (xv 6) (xcons (xv 7) xnil))) (xcons (xmkE G_BadText___init__ (hr.mono (by decide)) (xcons (xv 6) (xcons (xv 7) xnil))) (xcons (xmkE0 T.x0_Full) (xcons (xmkE G_NoWorld___init__ (hr.mono (by decide)) (xcons (xv 6) xnil)) (xcons (xmkE0 T.x0_NothingToUndo) (xcons (xmkE G_NoReading___init__ (hr.mono (by decide)) (xcons (xv 6) xnil)) (xcons (xmkE G_NoWish___init__ (hr.mono (by decide)) (xcons (xv 6) xnil)) xnil))))))))))
    (xss_cons (xs_set (i := 5) S.nd (xlst (xcons (xefld T.hxf (xix hu1 (xv 4) xint)) (xcons (xefld T.hxf (xix hu1 (xv 4) xint)) (xcons (xefld T.hxf (xix hu1 (xv 4) xint)) (xcons (xefld T.hxf (xix hu1 (xv 4) xint)) (xcons (xefld T.hxf (xix hu1 (xv 4) xint)) (xcons (xefld T.hxf (xix hu1 (xv 4) xint)) xnil))))))))
    (xss_cons (xs_if (xwor (xtcmp (qk_ne hu) (xcallB (qk_reprX hr) T.n_repr (xcons (xv 5) xnil)) (xcallB (qk_reprX hr) T.n_repr (xcons (xop q_mul (xlst (xcons (xv 6) xnil)) xint) xnil))) (xwor1 (xtcmp (qk_ne hu) (xcallB (qk_reprX hr) T.n_repr (xcons (xlst (xcons (xefld T.hxf (xix hu1 (xv 4) xint)) (xcons (xefld T.hxf (xix hu1 (xv 4) xint)) (xcons (xefld T.hxf (xix hu1 (xv 4) xint)) xnil)))) xnil)) (xcallB (qk_reprX hr) T.n_repr (xcons (xop q_mul (xlst (xcons (xv 7) xnil)) xint) xnil))))).toT (xss_one (xs_ret xbl)) xss_nil)
    (xss_one (xs_kfor PassesOwn.never rfl (xi_enum T.n_enumerate (xcons (xv 4) xnil)) (xg_tup rfl (xgs_cons (xg_name (i := 8) S.nd) (xgs_cons (xg_name (i := 9) S.nd) xgs_nil))) (xss_cons (xs_set (i := 10) S.nd (xcmp q_lt (xv 8) xint))
    (xss_cons (xs_set (i := 11) S.nd (xop q_add (xklc (own := [("_law_at", 12)]) rfl S.nd (xi_rng1 T.n_range (xcons xint xnil)) (blkOk_by (N := ["_law_script", "_law_bag_here", "_law_limits", "_law_turn", "_law_some", "_law_found", "_law_p", "_law_q", "_law_spot", "_law_error", "_law_is_oven", "_law_due", "_law_at"]) (sc := defScope s_law) (own := [("_law_at", 12)]) (by decide +kernel)) (fun _ _ _ _ _ => (xg_name (i := 12) S.nd)) (own_name (by decide)) (by intro _ _ _ _ _; exact xts_nil) (by intro _ _ _ _ _; exact (xcmp (qk_eq hu) (xv 12) (xv 8)))) (xlst (xcons (xv 10) (xcons (xv 10) (xcons (xnot (xv 10)) (xcons xbl (xcons xbl xnil))))))))
    (xss_one (xs_if (xtcmp (qk_ne hu) (xkn G_law_sorts (hr.mono (by decide)) (xcons (xv 9) xnil)) (xv 11)) (xss_one (xs_ret xbl)) xss_nil)))))))))))
    (xss_one (xs_ret xbl)))))))⟩
end
end DL

set_option linter.all false
set_option maxRecDepth 100000
set_option maxHeartbeats 2000000
set_option pp.deepTerms false
set_option pp.deepTerms.threshold 3
set_option pp.maxSteps 800
namespace DL
open PySem PySem.Spec PyProof.Rows L2
/-! the bag -/
def Bag (h : DH) (b : Addr) : Prop := ∃ g s n : Int, h b = some (.lst [.int g, .int s, .int n])
/-- nothing but the bag is otherwise, and new things -/
def Fr (b : Addr) (h h' : DH) : Prop := (∀ a o, a ≠ b → h a = some o → h' a = some o) ∧ Bag h' b
theorem Fr.bag {b : Addr} {h h' : DH} (f : Fr b h h') : Bag h' b := f.2
theorem Fr.trans {b : Addr} {h h' h'' : DH} (f : Fr b h h') (g : Fr b h' h'') : Fr b h h'' := ⟨fun a o e q => g.1 a o e (f.1 a o e q), g.2⟩
theorem Bag.ext {b : Addr} {h h' : DH} (B : Bag h b) (x : Ext h h') : Bag h' b := let ⟨g, s, n, e⟩ := B; ⟨g, s, n, x _ _ e⟩
theorem Fr.of_ext {b : Addr} {h h' : DH} (B : Bag h b) (x : Ext h h') : Fr b h h' := ⟨fun a o _ q => x a o q, B.ext x⟩
theorem Bag.ne {b p : Addr} {h : DH} (B : Bag h b) (e : h p = none) : p ≠ b := fun z => by
  obtain ⟨g, s, n, q⟩ := B
  rw [z, q] at e; cases e
theorem fr_put {h : DH} {b : Addr} {g s n : Int} : Fr b h (hupd h b (.lst [.int g, .int s, .int n])) := ⟨fun a o e q => by rw [hupd_ne e]; exact q, g, s, n, hupd_same⟩
theorem sp_draw {h : DH} {b : Addr} {lim : Int} {Q : DK} (B : Bag h b) (h0 : 0 < lim) (h1 : lim < 2 ^ 250) (k : ∀ v h', Fr b h h' → 0 ≤ v → v < lim → Q (.int v) h') : m_law_draw [.loc b, .int lim] h Q := by
  obtain ⟨g, s, n, hb⟩ := B
  apply m_law_draw_ap
  (conv => whnf); (repeat (first | (refine w_need rfl ?_; (conv => whnf)) | (refine w_ix (by assumption) rfl ?_; (conv => whnf)) | (refine w_ix hupd_same rfl ?_; (conv => whnf)) | (refine w_setL (by assumption) rfl ?_; (conv => whnf)) | (refine w_setL hupd_same rfl ?_; (conv => whnf)) | (refine w_eqi ?_; (conv => whnf)) | (refine w_eqs ?_; (conv => whnf)) | (refine w_t (by first | rfl | decide | assumption) ?_; (conv => whnf)) | (refine w_f (by first | rfl | decide | assumption) ?_; (conv => whnf)) | (refine And.intro (by first | omega | rfl | decide | assumption | exact Nat.le_of_ble_eq_true rfl | exact mulR (by omega) (by omega) | exact mulL (by omega) (by omega) | exact mulM (by omega) (by omega) | exact divOk (by omega) (by omega) | exact Exists.intro _ (by assumption)) ?_; (conv => whnf))))
  refine w_ite (fun hg => ?_) (fun hg => ?_)
  · (conv => whnf); (repeat (first | (refine w_need rfl ?_; (conv => whnf)) | (refine w_ix (by assumption) rfl ?_; (conv => whnf)) | (refine w_ix hupd_same rfl ?_; (conv => whnf)) | (refine w_setL (by assumption) rfl ?_; (conv => whnf)) | (refine w_setL hupd_same rfl ?_; (conv => whnf)) | (refine w_eqi ?_; (conv => whnf)) | (refine w_eqs ?_; (conv => whnf)) | (refine w_t (by first | rfl | decide | assumption) ?_; (conv => whnf)) | (refine w_f (by first | rfl | decide | assumption) ?_; (conv => whnf)) | (refine And.intro (by first | omega | rfl | decide | assumption | exact Nat.le_of_ble_eq_true rfl | exact mulR (by omega) (by omega) | exact mulL (by omega) (by omega) | exact mulM (by omega) (by omega) | exact divOk (by omega) (by omega) | exact Exists.intro _ (by assumption)) ?_; (conv => whnf))))
    exact k _ _ fr_put (Int.emod_nonneg _ (by omega)) (Int.emod_lt_of_pos _ h0)
  · (conv => whnf); (repeat (first | (refine w_need rfl ?_; (conv => whnf)) | (refine w_ix (by assumption) rfl ?_; (conv => whnf)) | (refine w_ix hupd_same rfl ?_; (conv => whnf)) | (refine w_setL (by assumption) rfl ?_; (conv => whnf)) | (refine w_setL hupd_same rfl ?_; (conv => whnf)) | (refine w_eqi ?_; (conv => whnf)) | (refine w_eqs ?_; (conv => whnf)) | (refine w_t (by first | rfl | decide | assumption) ?_; (conv => whnf)) | (refine w_f (by first | rfl | decide | assumption) ?_; (conv => whnf)) | (refine And.intro (by first | omega | rfl | decide | assumption | exact Nat.le_of_ble_eq_true rfl | exact mulR (by omega) (by omega) | exact mulL (by omega) (by omega) | exact mulM (by omega) (by omega) | exact divOk (by omega) (by omega) | exact Exists.intro _ (by assumption)) ?_; (conv => whnf))))
    rw [hupd_hupd]
    exact k _ _ fr_put (Int.emod_nonneg _ (by omega)) (Int.emod_lt_of_pos _ h0)
theorem sp_pick {h : DH} {b p : Addr} {xs : List D} {Q : DK} (B : Bag h b) (hp : h p = some (.lst xs)) (hne : p ≠ b) (h0 : 0 < xs.length) (h1 : xs.length < 1000000) (k : ∀ x h', x ∈ xs → Fr b h h' → Q x h') : m_law_pick [.loc b, .loc p] h Q := by
  apply m_law_pick_ap
  (conv => whnf)
  refine w_need (v := .int xs.length) (by show lenO (h p) = _; rw [hp]; rfl) ?_
  (conv => whnf); (repeat (first | (refine w_need rfl ?_; (conv => whnf)) | (refine w_ix (by assumption) rfl ?_; (conv => whnf)) | (refine w_ix hupd_same rfl ?_; (conv => whnf)) | (refine w_setL (by assumption) rfl ?_; (conv => whnf)) | (refine w_setL hupd_same rfl ?_; (conv => whnf)) | (refine w_eqi ?_; (conv => whnf)) | (refine w_eqs ?_; (conv => whnf)) | (refine w_t (by first | rfl | decide | assumption) ?_; (conv => whnf)) | (refine w_f (by first | rfl | decide | assumption) ?_; (conv => whnf)) | (refine And.intro (by first | omega | rfl | decide | assumption | exact Nat.le_of_ble_eq_true rfl | exact mulR (by omega) (by omega) | exact mulL (by omega) (by omega) | exact mulM (by omega) (by omega) | exact divOk (by omega) (by omega) | exact Exists.intro _ (by assumption)) ?_; (conv => whnf))))
  refine sp_draw B (by omega) (by omega) fun v h' f v0 v1 => ?_
  (conv => whnf)
  have hp' := f.1 _ _ hne hp
  have hv : v.toNat < xs.length := by omega
  refine w_ix hp' (v := xs[v.toNat]) ?_ (k _ _ (List.getElem_mem _) f)
  show atI xs v = _
  exact atI_at v0 hv
end DL

set_option linter.all false
set_option maxRecDepth 100000
set_option maxHeartbeats 2000000
set_option pp.deepTerms false
set_option pp.deepTerms.threshold 3
set_option pp.maxSteps 800
namespace DL
open PySem PySem.Spec PyProof.Rows L2
theorem valD_put {κ : Type} [DecidableEq κ] (k k' : κ) (v : D) : ∀ kvs : List (κ × D), valD (putD kvs k v) k' = if k' = k then some v else valD kvs k' := by
  have hmap : ∀ kvs : List (κ × D), valD (kvs.map fun kv => if kv.1 = k then (kv.1, v) else kv) k' = if k' = k then (valD kvs k').map (fun _ => v) else valD kvs k' := by
    intro kvs
    induction kvs with
    | nil => simp [valD]
    | cons p ps ih =>
      unfold valD at ih ⊢
      rw [List.map_cons, List.find?_cons, List.find?_cons]
      by_cases e : p.1 = k
      · rw [if_pos e]
        by_cases e2 : p.1 = k'
        · subst e2
          rw [if_pos e]
          simp
        · have ne : ¬ k' = k := fun z => e2 (by rw [e, z])
          rw [if_neg ne] at ih ⊢
          simp only [decide_eq_true_eq, e2, decide_false]
          exact ih
      · rw [if_neg e]
        by_cases e2 : p.1 = k'
        · have ne : ¬ k' = k := fun z => e (by rw [← z, ← e2])
          simp [e2, ne]
        · simp only [e2, decide_false]
          exact ih
  have hany : ∀ kvs : List (κ × D), (kvs.any fun kv => decide (kv.1 = k)) = (valD kvs k).isSome := by
    intro kvs
    induction kvs with
    | nil => rfl
    | cons p ps ih =>
      unfold valD at ih ⊢
      rw [List.any_cons, List.find?_cons]
      by_cases e : p.1 = k
      · simp [e]
      · simp only [e, decide_false, Bool.false_or]; exact ih
  have happ : ∀ kvs : List (κ × D), valD (kvs ++ [(k, v)]) k' = (valD kvs k').or (if k' = k then some v else none) := by
    intro kvs
    unfold valD
    rw [List.find?_append]
    cases z : kvs.find? fun kv => decide (kv.1 = k') with
    | some x => simp
    | none =>
      by_cases e : k' = k
      · subst e; simp
      · have e' : ¬ k = k' := fun z => e z.symm
        simp [e, e']
  intro kvs
  unfold putD
  rw [hany]
  cases z : valD kvs k with
  | some x =>
    rw [if_pos (by rfl), hmap]
    by_cases e : k' = k
    · subst e; rw [if_pos rfl, if_pos rfl, z]; rfl
    · rw [if_neg e, if_neg e]
  | none =>
    rw [if_neg (by simp), happ]
    by_cases e : k' = k
    · subst e; rw [if_pos rfl, z, if_pos rfl]; rfl
    · rw [if_neg e, if_neg e]; cases valD kvs k' <;> rfl
theorem putD_length {κ : Type} [DecidableEq κ] (k : κ) (v : D) (kvs : List (κ × D)) : (putD kvs k v).length ≤ kvs.length + 1 := by
  unfold putD
  split <;> simp
theorem putD_length_of {κ : Type} [DecidableEq κ] {k : κ} {v w : D} {kvs : List (κ × D)} (e : valD kvs k = some w) : (putD kvs k v).length = kvs.length := by
  unfold putD
  have hany : (kvs.any fun kv => decide (kv.1 = k)) = true := by
    unfold valD at e
    obtain ⟨x, hx, _⟩ := Option.map_eq_some_iff.mp e
    exact List.any_eq_true.mpr ⟨x, List.mem_of_find?_eq_some hx, List.find?_some (p := fun kv : κ × D => decide (kv.1 = k)) hx⟩
  rw [if_pos hany]
  simp
theorem sp_bag {h : DH} {ns : List Int} {Q : DK} (hl : ns.length ≤ 63) (k : ∀ b h' g s, Ext h h' → h b = none → h' b = none → Q (.loc b) (hupd h' b (.lst [.int g, .int s, .int 0]))) : m_law_bag [.fls (ns.map D.int)] h Q := by
  apply m_law_bag_ap
  (conv => whnf); (repeat (first | (refine w_need rfl ?_; (conv => whnf)) | (refine w_ix (by assumption) rfl ?_; (conv => whnf)) | (refine w_ix hupd_same rfl ?_; (conv => whnf)) | (refine w_setL (by assumption) rfl ?_; (conv => whnf)) | (refine w_setL hupd_same rfl ?_; (conv => whnf)) | (refine w_eqi ?_; (conv => whnf)) | (refine w_eqs ?_; (conv => whnf)) | (refine w_t (by first | rfl | decide | assumption) ?_; (conv => whnf)) | (refine w_f (by first | rfl | decide | assumption) ?_; (conv => whnf)) | (refine And.intro (by first | omega | rfl | decide | assumption | exact Nat.le_of_ble_eq_true rfl | exact mulR (by omega) (by omega) | exact mulL (by omega) (by omega) | exact mulM (by omega) (by omega) | exact divOk (by omega) (by omega) | exact Exists.intro _ (by assumption)) ?_; (conv => whnf))))
  refine w_for ?_
  (conv => whnf)
  intro p hp
  (conv => whnf)
  rw [hupd_same]
  (conv => whnf)
  refine w_loop (I := fun _ τ h' => h' = hupd h p (.lst (cutD (ns.map D.int) none (some 63))) ∧ ∃ c g s, τ = [some (.fls (ns.map D.int)), c, some (.int g), some (.int s)]) ⟨rfl, none, _, _, rfl⟩ (fun _ _ _ _ e => by rw [e.1]; exact hupd_same) ?_ ?_
  · rintro i d τ h' nx e ⟨rfl, c, g, s, rfl⟩ hn
    have hd : ∃ z, d = .int z := by
      have := List.mem_of_getElem? e
      unfold cutD at this
      have := List.mem_of_mem_drop (List.mem_of_mem_take this)
      obtain ⟨z, _, e⟩ := List.mem_map.mp this
      exact ⟨z, e.symm⟩
    obtain ⟨z, rfl⟩ := hd
    (conv => whnf); (repeat (first | (refine w_need rfl ?_; (conv => whnf)) | (refine w_ix (by assumption) rfl ?_; (conv => whnf)) | (refine w_ix hupd_same rfl ?_; (conv => whnf)) | (refine w_setL (by assumption) rfl ?_; (conv => whnf)) | (refine w_setL hupd_same rfl ?_; (conv => whnf)) | (refine w_eqi ?_; (conv => whnf)) | (refine w_eqs ?_; (conv => whnf)) | (refine w_t (by first | rfl | decide | assumption) ?_; (conv => whnf)) | (refine w_f (by first | rfl | decide | assumption) ?_; (conv => whnf)) | (refine And.intro (by first | omega | rfl | decide | assumption | exact Nat.le_of_ble_eq_true rfl | exact mulR (by omega) (by omega) | exact mulL (by omega) (by omega) | exact mulM (by omega) (by omega) | exact divOk (by omega) (by omega) | exact Exists.intro _ (by assumption)) ?_; (conv => whnf))))
    refine w_ite (fun hz => ?_) (fun hz => ?_)
    · (conv => whnf); (repeat (first | (refine w_need rfl ?_; (conv => whnf)) | (refine w_ix (by assumption) rfl ?_; (conv => whnf)) | (refine w_ix hupd_same rfl ?_; (conv => whnf)) | (refine w_setL (by assumption) rfl ?_; (conv => whnf)) | (refine w_setL hupd_same rfl ?_; (conv => whnf)) | (refine w_eqi ?_; (conv => whnf)) | (refine w_eqs ?_; (conv => whnf)) | (refine w_t (by first | rfl | decide | assumption) ?_; (conv => whnf)) | (refine w_f (by first | rfl | decide | assumption) ?_; (conv => whnf)) | (refine And.intro (by first | omega | rfl | decide | assumption | exact Nat.le_of_ble_eq_true rfl | exact mulR (by omega) (by omega) | exact mulL (by omega) (by omega) | exact mulM (by omega) (by omega) | exact divOk (by omega) (by omega) | exact Exists.intro _ (by assumption)) ?_; (conv => whnf))))
      exact hn _ _ ⟨rfl, _, _, _, rfl⟩
    · (conv => whnf); (repeat (first | (refine w_need rfl ?_; (conv => whnf)) | (refine w_ix (by assumption) rfl ?_; (conv => whnf)) | (refine w_ix hupd_same rfl ?_; (conv => whnf)) | (refine w_setL (by assumption) rfl ?_; (conv => whnf)) | (refine w_setL hupd_same rfl ?_; (conv => whnf)) | (refine w_eqi ?_; (conv => whnf)) | (refine w_eqs ?_; (conv => whnf)) | (refine w_t (by first | rfl | decide | assumption) ?_; (conv => whnf)) | (refine w_f (by first | rfl | decide | assumption) ?_; (conv => whnf)) | (refine And.intro (by first | omega | rfl | decide | assumption | exact Nat.le_of_ble_eq_true rfl | exact mulR (by omega) (by omega) | exact mulL (by omega) (by omega) | exact mulM (by omega) (by omega) | exact divOk (by omega) (by omega) | exact Exists.intro _ (by assumption)) ?_; (conv => whnf))))
      exact hn _ _ ⟨rfl, _, _, _, rfl⟩
  · rintro τ h' ⟨rfl, c, g, s, rfl⟩
    (conv => whnf); (repeat (first | (refine w_need rfl ?_; (conv => whnf)) | (refine w_ix (by assumption) rfl ?_; (conv => whnf)) | (refine w_ix hupd_same rfl ?_; (conv => whnf)) | (refine w_setL (by assumption) rfl ?_; (conv => whnf)) | (refine w_setL hupd_same rfl ?_; (conv => whnf)) | (refine w_eqi ?_; (conv => whnf)) | (refine w_eqs ?_; (conv => whnf)) | (refine w_t (by first | rfl | decide | assumption) ?_; (conv => whnf)) | (refine w_f (by first | rfl | decide | assumption) ?_; (conv => whnf)) | (refine And.intro (by first | omega | rfl | decide | assumption | exact Nat.le_of_ble_eq_true rfl | exact mulR (by omega) (by omega) | exact mulL (by omega) (by omega) | exact mulM (by omega) (by omega) | exact divOk (by omega) (by omega) | exact Exists.intro _ (by assumption)) ?_; (conv => whnf))))
    intro b hb
    refine k b _ g s (ext_new hp) ?_ hb
    rw [hupd_ne (fun z => by subst z; rw [hupd_same] at hb; cases hb)] at hb
    exact hb
end DL

set_option linter.all false
set_option maxRecDepth 100000
set_option maxHeartbeats 2000000
set_option pp.deepTerms false
set_option pp.deepTerms.threshold 3
set_option pp.maxSteps 800
namespace DL
open PySem PySem.Spec PyProof.Rows L2
/-! values of any kind, and ovensuntold.values -/
inductive Vl (h : DH) : D → Prop
  | non : Vl h .non
  | bl (b : Bool) : Vl h (.bl b)
  | int (i : Int) : Vl h (.int i)
  | str (s : Str) : Vl h (.str s)
  | tup {ds : List D} : (∀ d ∈ ds, Vl h d) → Vl h (.tup ds)
  | lst {a : Addr} {ds : List D} : h a = some (.lst ds) → (∀ d ∈ ds, Vl h d) → Vl h (.loc a)
  | dct {a : Addr} {kvs : List (Key × D)} : h a = some (.dK kvs) → (∀ p ∈ kvs, Vl h p.2) → Vl h (.loc a)
theorem Vl.ext {h h' : DH} (x : Ext h h') {d : D} (v : Vl h d) : Vl h' d := by
  induction v with
  | non => exact .non
  | bl b => exact .bl b
  | int i => exact .int i
  | str s => exact .str s
  | tup _ ih => exact .tup ih
  | lst e _ ih => exact .lst (x _ _ e) ih
  | dct e _ ih => exact .dct (x _ _ e) ih
theorem Vl.ty {h : DH} {d : D} (v : Vl h d) : ∃ a, tyD h d = some a := by
  cases v with
  | non => exact ⟨_, rfl⟩
  | bl b => exact ⟨_, rfl⟩
  | int i => exact ⟨_, rfl⟩
  | str s => exact ⟨_, rfl⟩
  | tup _ => exact ⟨_, rfl⟩
  | lst e _ => exact ⟨"list", by show tyO (h _) = _; rw [e]; rfl⟩
  | dct e _ => exact ⟨"dict", by show tyO (h _) = _; rw [e]; rfl⟩
theorem Vl.items {h : DH} {ds : List D} (v : Vl h (.tup ds)) : ∀ d ∈ ds, Vl h d := by
  cases v with
  | tup q => exact q
theorem Vl.loc_ty {h : DH} {a : Addr} (v : Vl h (.loc a)) : tyD h (.loc a) = some "list" ∨ tyD h (.loc a) = some "dict" := by
  cases v with
  | lst e _ => exact .inl (by show tyO (h _) = _; rw [e]; rfl)
  | dct e _ => exact .inr (by show tyO (h _) = _; rw [e]; rfl)
/-! values of any kind that can be shown, away from what is written -/
def offb (S : List Addr) (h : DH) : DH := fun a => if a ∈ S then none else h a
theorem offb_ne {S : List Addr} {a : Addr} {h : DH} (e : a ∉ S) : offb S h a = h a := by unfold offb; rw [if_neg e]
theorem offb_ext {S : List Addr} {h : DH} : Ext (offb S h) h := fun a o e => by
  unfold offb at e
  split at e
  · cases e
  · exact e
theorem off_by {S S' : List Addr} {h h' : DH} (k : ∀ a o, a ∉ S → h a = some o → a ∉ S' ∧ h' a = some o) : Ext (offb S h) (offb S' h') := fun a o e => by
  unfold offb at e
  split at e
  · cases e
  · rename_i ne
    obtain ⟨n, q⟩ := k a o ne e
    rw [offb_ne n]; exact q
theorem Ext.off {S : List Addr} {h h' : DH} (x : Ext h h') : Ext (offb S h) (offb S h') := off_by fun a o n e => ⟨n, x a o e⟩
theorem off_put {S : List Addr} {h : DH} {p : Addr} {o : DO} (m : p ∈ S) : Ext (offb S h) (offb S (hupd h p o)) := off_by fun a u n e => ⟨n, by rw [hupd_ne (fun z => n (by rw [z]; exact m))]; exact e⟩
theorem off_new {S : List Addr} {h : DH} {p : Addr} {o : DO} (hp : h p = none) : Ext (offb S h) (offb (p :: S) (hupd h p o)) := off_by fun a u n e => by
  have ne : a ≠ p := fun z => by rw [z, hp] at e; cases e
  exact ⟨fun z => (List.mem_cons.mp z).elim ne n, by rw [hupd_ne ne]; exact e⟩
/-- what is written stands: the bag among it -/
structure Hid (S : List Addr) (b : Addr) (h : DH) : Prop where
  mem : b ∈ S
  al : ∀ a ∈ S, h a ≠ none
  bag : Bag h b
theorem Hid.ext {S : List Addr} {b : Addr} {h h' : DH} (B : Hid S b h) (x : Ext h h') : Hid S b h' := ⟨B.mem, fun a ha => by
  cases e : h a with
  | none => exact absurd e (B.al a ha)
  | some o => rw [x a o e]; exact Option.some_ne_none _, B.bag.ext x⟩
theorem Hid.fr {S : List Addr} {b : Addr} {h h' : DH} (B : Hid S b h) (f : Fr b h h') : Hid S b h' := ⟨B.mem, fun a ha => by
  by_cases z : a = b
  · obtain ⟨_, _, _, q⟩ := f.bag
    rw [z, q]; exact Option.some_ne_none _
  · cases e : h a with
    | none => exact absurd e (B.al a ha)
    | some o => rw [f.1 a o z e]; exact Option.some_ne_none _, f.bag⟩
theorem Hid.ne {S : List Addr} {b p : Addr} {h : DH} (B : Hid S b h) (hp : h p = none) : p ∉ S := fun z => B.al p z hp
theorem Hid.put {S : List Addr} {b p : Addr} {h : DH} {o : DO} (B : Hid S b h) (hp : p ≠ b) : Hid S b (hupd h p o) := ⟨B.mem, fun a ha => by
  by_cases z : a = p
  · rw [z, hupd_same]; exact Option.some_ne_none _
  · rw [hupd_ne z]; exact B.al a ha, let ⟨g, s, n, e⟩ := B.bag; ⟨g, s, n, by rw [hupd_ne hp.symm]; exact e⟩⟩
theorem Hid.new {S : List Addr} {b p : Addr} {h : DH} {o : DO} (B : Hid S b h) (hp : h p = none) : Hid (p :: S) b (hupd h p o) := ⟨List.mem_cons_of_mem _ B.mem, fun a ha => by
  by_cases z : a = p
  · rw [z, hupd_same]; exact Option.some_ne_none _
  · rw [hupd_ne z]; exact B.al a ((List.mem_cons.mp ha).resolve_left z), B.bag.ext (ext_new hp)⟩
theorem Hid.one {b : Addr} {h : DH} (B : Bag h b) : Hid [b] b h := ⟨List.mem_singleton.mpr rfl, fun a ha => by
  obtain ⟨_, _, _, q⟩ := B
  rw [List.mem_singleton.mp ha, q]; exact Option.some_ne_none _, B⟩
theorem Fr.off {S : List Addr} {b : Addr} {h h' : DH} (f : Fr b h h') (m : b ∈ S) : Ext (offb S h) (offb S h') := off_by fun a o n e => ⟨n, f.1 a o (fun z => n (by rw [z]; exact m)) e⟩
theorem Ext.put {h h2 : DH} {p : Addr} {o : DO} (x : Ext h h2) (hp : h p = none) : Ext h (hupd h2 p o) := fun a u e => by
  have : a ≠ p := fun z => by rw [z, hp] at e; cases e
  rw [hupd_ne this]; exact x a u e
mutual
theorem PX.vl {h : DH} : ∀ {d : D} {p : PyData}, PX h d p → Vl h d
  | _, _, .non => .non
  | _, _, .bl b => .bl b
  | _, _, .int b => .int b
  | _, _, .str b => .str b
  | _, _, .tup q => .tup (PXs.vl q)
  | _, _, .lst e q => .lst e (PXs.vl q)
  | _, _, .dct e k q => .dct e fun p hp => PXs.vl q p.2 (List.mem_map_of_mem hp)
theorem PXs.vl {h : DH} : ∀ {d : List D} {p : List PyData}, PXs h d p → ∀ x ∈ d, Vl h x
  | _, _, .nil => fun _ hx => absurd hx List.not_mem_nil
  | _, _, .cons q r => List.forall_mem_cons.mpr ⟨PX.vl q, PXs.vl r⟩
end
def VX (S : List Addr) (h : DH) (d : D) (n m : Nat) : Prop := ∃ p, PX (offb S h) d p ∧ Rp p n m
theorem VX.fr {S : List Addr} {b : Addr} {h h' : DH} {d : D} {n m : Nat} (v : VX S h d n m) (f : Fr b h h') (k : b ∈ S) : VX S h' d n m := let ⟨p, q, r⟩ := v; ⟨p, q.ext (f.off k), r⟩
theorem VX.off {S S' : List Addr} {h h' : DH} {d : D} {n m : Nat} (v : VX S h d n m) (x : Ext (offb S h) (offb S' h')) : VX S' h' d n m := let ⟨p, q, r⟩ := v; ⟨p, q.ext x, r⟩
theorem VX.ext {S : List Addr} {h h' : DH} {d : D} {n m : Nat} (v : VX S h d n m) (x : Ext h h') : VX S h' d n m := let ⟨p, q, r⟩ := v; ⟨p, q.ext x.off, r⟩
theorem VX.vl {S : List Addr} {h : DH} {d : D} {n m : Nat} (v : VX S h d n m) : Vl h d := let ⟨_, q, _⟩ := v; (q.ext offb_ext).vl
theorem VX.px {S : List Addr} {h : DH} {d : D} {n m : Nat} (v : VX S h d n m) : ∃ p, PX h d p ∧ Rp p n m := let ⟨p, q, r⟩ := v; ⟨p, q.ext offb_ext, r⟩
theorem VX.mono {S : List Addr} {h : DH} {d : D} {n m n2 m2 : Nat} (v : VX S h d n m) (h1 : n ≤ n2) (h2 : m ≤ m2) : VX S h d n2 m2 := let ⟨p, q, r⟩ := v; ⟨p, q, r.mono h1 h2⟩
def VXs (S : List Addr) (h : DH) (ds : List D) (n m : Nat) : Prop := ∃ ps, PXs (offb S h) ds ps ∧ RpL ps n m
theorem VXs.n {S : List Addr} {h : DH} {n m : Nat} : VXs S h [] n m := ⟨[], .nil, .nil⟩
theorem VXs.c {S : List Addr} {h : DH} {d : D} {ds : List D} {n m m2 m3 : Nat} (v : VX S h d n m) (w : VXs S h ds n m2) (e : m + 1 + m2 ≤ m3 := by omega) : VXs S h (d :: ds) n m3 := let ⟨p, q, r⟩ := v; let ⟨ps, qs, rs⟩ := w; ⟨p :: ps, .cons q qs, .cons r rs e⟩
theorem VXs.all {S : List Addr} {h : DH} {n m : Nat} : ∀ {ds : List D}, (∀ d ∈ ds, VX S h d n m) → VXs S h ds n (ds.length * (m + 1))
  | [], _ => .n
  | d :: ds, v => .c (v d List.mem_cons_self) (VXs.all fun x hx => v x (List.mem_cons_of_mem _ hx)) (by rw [List.length_cons, Nat.succ_mul]; omega)
theorem VX.tup {S : List Addr} {h : DH} {ds : List D} {n m : Nat} (v : VXs S h ds n m) : VX S h (.tup ds) (n + 1) m := let ⟨ps, q, r⟩ := v; ⟨.tuple ps, .tup q, .tup r⟩
theorem VX.lst {S : List Addr} {a : Addr} {h : DH} {ds : List D} {n m : Nat} (e : h a = some (.lst ds)) (ne : a ∉ S) (v : VXs S h ds n m) : VX S h (.loc a) (n + 1) m := let ⟨ps, q, r⟩ := v; ⟨.list ps, .lst (by rw [offb_ne ne]; exact e) q, .list r⟩
theorem VX.non {S : List Addr} {h : DH} {n m : Nat} : VX S h .non n m := ⟨.none, .non, .non⟩
theorem VX.bl {S : List Addr} {h : DH} {x : Bool} {n m : Nat} : VX S h (.bl x) n m := ⟨.bool x, .bl x, .bl⟩
theorem VX.int {S : List Addr} {h : DH} {i : Int} {n m : Nat} (k : okI i) : VX S h (.int i) n m := ⟨.int i, .int i, .int k⟩
theorem VX.str {S : List Addr} {h : DH} {s : Str} {n m : Nat} (k : s.cps.size ≤ m) (hl : PyData.leavesShort 101 (.str s) = true := by rfl) : VX S h (.str s) n m := ⟨.str s, .str s, .str k hl⟩
theorem VX.dct0 {S : List Addr} {a : Addr} {h : DH} {n m : Nat} (e : h a = some (.dK [])) (ne : a ∉ S) : VX S h (.loc a) (n + 1) m :=
  ⟨.dict [], .dct (kvs := []) (by rw [offb_ne ne]; exact e) rfl .nil, ⟨by simp [PyData.showable, PyData.showableKv], by simp [PyData.depth, PyData.depthKv], by simp [PyData.leavesShort, PyData.leavesShortKv], by simp [PyData.bulk, PyData.bulkKv]⟩⟩
theorem okI_small {i : Int} (h : i.natAbs < 10 ^ 99) : okI i := Nat.lt_trans h (by decide)
end DL

set_option linter.all false
set_option maxRecDepth 100000
set_option maxHeartbeats 2000000
set_option pp.deepTerms false
set_option pp.deepTerms.threshold 3
set_option pp.maxSteps 800
namespace DL
open PySem PySem.Spec PyProof.Rows L2
/-! odd values -/
theorem newAt2 {h h2 h' : DH} {p : Addr} {o : DO} (hh : hupd h2 p o = h') (hp : h p = none) (x : Ext h h2) : Ext h h' ∧ h' p = some o := by subst hh; exact ⟨x.put hp, hupd_same⟩
structure OddOk (S : List Addr) (h : DH) (y : D) : Prop where
  vx : VX S h y 3 6
  tup : ∀ xs, y = .tup xs → xs.length ≤ 2
theorem sp_odd {h : DH} {S : List Addr} {b : Addr} {Q : DK} (B : Hid S b h) (k : ∀ y h', Fr b h h' → OddOk S h' y → Q y h') : m_law_odd [.loc b] h Q := by
  apply m_law_odd_ap
  (conv => whnf); (repeat (first | (refine w_need rfl ?_; (conv => whnf)) | (refine w_ix (by assumption) rfl ?_; (conv => whnf)) | (refine w_ix hupd_same rfl ?_; (conv => whnf)) | (refine w_setL (by assumption) rfl ?_; (conv => whnf)) | (refine w_setL hupd_same rfl ?_; (conv => whnf)) | (refine w_eqi ?_; (conv => whnf)) | (refine w_eqs ?_; (conv => whnf)) | (refine w_t (by first | rfl | decide | assumption) ?_; (conv => whnf)) | (refine w_f (by first | rfl | decide | assumption) ?_; (conv => whnf)) | (refine And.intro (by first | omega | rfl | decide | assumption | exact Nat.le_of_ble_eq_true rfl | exact mulR (by omega) (by omega) | exact mulL (by omega) (by omega) | exact mulM (by omega) (by omega) | exact divOk (by omega) (by omega) | exact Exists.intro _ (by assumption)) ?_; (conv => whnf))))
  intro p1 hp1; generalize hh_h1 : hupd _ p1 _ = h1; obtain ⟨x1, e1⟩ := newAt hh_h1 hp1
  (conv => whnf); (repeat (first | (refine w_need rfl ?_; (conv => whnf)) | (refine w_ix (by assumption) rfl ?_; (conv => whnf)) | (refine w_ix hupd_same rfl ?_; (conv => whnf)) | (refine w_setL (by assumption) rfl ?_; (conv => whnf)) | (refine w_setL hupd_same rfl ?_; (conv => whnf)) | (refine w_eqi ?_; (conv => whnf)) | (refine w_eqs ?_; (conv => whnf)) | (refine w_t (by first | rfl | decide | assumption) ?_; (conv => whnf)) | (refine w_f (by first | rfl | decide | assumption) ?_; (conv => whnf)) | (refine And.intro (by first | omega | rfl | decide | assumption | exact Nat.le_of_ble_eq_true rfl | exact mulR (by omega) (by omega) | exact mulL (by omega) (by omega) | exact mulM (by omega) (by omega) | exact divOk (by omega) (by omega) | exact Exists.intro _ (by assumption)) ?_; (conv => whnf))))
  intro p2 hp2; generalize hh_h2 : hupd _ p2 _ = h2; obtain ⟨x2, e2⟩ := newAt hh_h2 hp2
  (conv => whnf); (repeat (first | (refine w_need rfl ?_; (conv => whnf)) | (refine w_ix (by assumption) rfl ?_; (conv => whnf)) | (refine w_ix hupd_same rfl ?_; (conv => whnf)) | (refine w_setL (by assumption) rfl ?_; (conv => whnf)) | (refine w_setL hupd_same rfl ?_; (conv => whnf)) | (refine w_eqi ?_; (conv => whnf)) | (refine w_eqs ?_; (conv => whnf)) | (refine w_t (by first | rfl | decide | assumption) ?_; (conv => whnf)) | (refine w_f (by first | rfl | decide | assumption) ?_; (conv => whnf)) | (refine And.intro (by first | omega | rfl | decide | assumption | exact Nat.le_of_ble_eq_true rfl | exact mulR (by omega) (by omega) | exact mulL (by omega) (by omega) | exact mulM (by omega) (by omega) | exact divOk (by omega) (by omega) | exact Exists.intro _ (by assumption)) ?_; (conv => whnf))))
  intro p3 hp3; generalize hh_h3 : hupd _ p3 _ = h3; obtain ⟨x3, e3⟩ := newAt hh_h3 hp3
  (conv => whnf); (repeat (first | (refine w_need rfl ?_; (conv => whnf)) | (refine w_ix (by assumption) rfl ?_; (conv => whnf)) | (refine w_ix hupd_same rfl ?_; (conv => whnf)) | (refine w_setL (by assumption) rfl ?_; (conv => whnf)) | (refine w_setL hupd_same rfl ?_; (conv => whnf)) | (refine w_eqi ?_; (conv => whnf)) | (refine w_eqs ?_; (conv => whnf)) | (refine w_t (by first | rfl | decide | assumption) ?_; (conv => whnf)) | (refine w_f (by first | rfl | decide | assumption) ?_; (conv => whnf)) | (refine And.intro (by first | omega | rfl | decide | assumption | exact Nat.le_of_ble_eq_true rfl | exact mulR (by omega) (by omega) | exact mulL (by omega) (by omega) | exact mulM (by omega) (by omega) | exact divOk (by omega) (by omega) | exact Exists.intro _ (by assumption)) ?_; (conv => whnf))))
  intro p4 hp4; generalize hh_h4 : hupd _ p4 _ = h4; obtain ⟨x4, e4⟩ := newAt hh_h4 hp4
  (conv => whnf); (repeat (first | (refine w_need rfl ?_; (conv => whnf)) | (refine w_ix (by assumption) rfl ?_; (conv => whnf)) | (refine w_ix hupd_same rfl ?_; (conv => whnf)) | (refine w_setL (by assumption) rfl ?_; (conv => whnf)) | (refine w_setL hupd_same rfl ?_; (conv => whnf)) | (refine w_eqi ?_; (conv => whnf)) | (refine w_eqs ?_; (conv => whnf)) | (refine w_t (by first | rfl | decide | assumption) ?_; (conv => whnf)) | (refine w_f (by first | rfl | decide | assumption) ?_; (conv => whnf)) | (refine And.intro (by first | omega | rfl | decide | assumption | exact Nat.le_of_ble_eq_true rfl | exact mulR (by omega) (by omega) | exact mulL (by omega) (by omega) | exact mulM (by omega) (by omega) | exact divOk (by omega) (by omega) | exact Exists.intro _ (by assumption)) ?_; (conv => whnf))))
  intro p5 hp5; generalize hh_h5 : hupd _ p5 _ = h5; obtain ⟨x5, e5⟩ := newAt hh_h5 hp5
  (conv => whnf); (repeat (first | (refine w_need rfl ?_; (conv => whnf)) | (refine w_ix (by assumption) rfl ?_; (conv => whnf)) | (refine w_ix hupd_same rfl ?_; (conv => whnf)) | (refine w_setL (by assumption) rfl ?_; (conv => whnf)) | (refine w_setL hupd_same rfl ?_; (conv => whnf)) | (refine w_eqi ?_; (conv => whnf)) | (refine w_eqs ?_; (conv => whnf)) | (refine w_t (by first | rfl | decide | assumption) ?_; (conv => whnf)) | (refine w_f (by first | rfl | decide | assumption) ?_; (conv => whnf)) | (refine And.intro (by first | omega | rfl | decide | assumption | exact Nat.le_of_ble_eq_true rfl | exact mulR (by omega) (by omega) | exact mulL (by omega) (by omega) | exact mulM (by omega) (by omega) | exact divOk (by omega) (by omega) | exact Exists.intro _ (by assumption)) ?_; (conv => whnf))))
  intro p6 hp6; generalize hh_h6 : hupd _ p6 _ = h6; obtain ⟨x6, e6⟩ := newAt hh_h6 hp6
  (conv => whnf); (repeat (first | (refine w_need rfl ?_; (conv => whnf)) | (refine w_ix (by assumption) rfl ?_; (conv => whnf)) | (refine w_ix hupd_same rfl ?_; (conv => whnf)) | (refine w_setL (by assumption) rfl ?_; (conv => whnf)) | (refine w_setL hupd_same rfl ?_; (conv => whnf)) | (refine w_eqi ?_; (conv => whnf)) | (refine w_eqs ?_; (conv => whnf)) | (refine w_t (by first | rfl | decide | assumption) ?_; (conv => whnf)) | (refine w_f (by first | rfl | decide | assumption) ?_; (conv => whnf)) | (refine And.intro (by first | omega | rfl | decide | assumption | exact Nat.le_of_ble_eq_true rfl | exact mulR (by omega) (by omega) | exact mulL (by omega) (by omega) | exact mulM (by omega) (by omega) | exact divOk (by omega) (by omega) | exact Exists.intro _ (by assumption)) ?_; (conv => whnf))))
  intro p7 hp7
  (conv => whnf); (repeat (first | (refine w_need rfl ?_; (conv => whnf)) | (refine w_ix (by assumption) rfl ?_; (conv => whnf)) | (refine w_ix hupd_same rfl ?_; (conv => whnf)) | (refine w_setL (by assumption) rfl ?_; (conv => whnf)) | (refine w_setL hupd_same rfl ?_; (conv => whnf)) | (refine w_eqi ?_; (conv => whnf)) | (refine w_eqs ?_; (conv => whnf)) | (refine w_t (by first | rfl | decide | assumption) ?_; (conv => whnf)) | (refine w_f (by first | rfl | decide | assumption) ?_; (conv => whnf)) | (refine And.intro (by first | omega | rfl | decide | assumption | exact Nat.le_of_ble_eq_true rfl | exact mulR (by omega) (by omega) | exact mulL (by omega) (by omega) | exact mulM (by omega) (by omega) | exact divOk (by omega) (by omega) | exact Exists.intro _ (by assumption)) ?_; (conv => whnf))))
  refine ⟨hupd_same, by decide, ?_⟩
  generalize hh7 : hupd (hupd h6 p7 _) p7 _ = h7
  obtain ⟨x7, e7⟩ := newAt2 hh7 hp7 (ext_new hp7)
  (conv => whnf); (repeat (first | (refine w_need rfl ?_; (conv => whnf)) | (refine w_ix (by assumption) rfl ?_; (conv => whnf)) | (refine w_ix hupd_same rfl ?_; (conv => whnf)) | (refine w_setL (by assumption) rfl ?_; (conv => whnf)) | (refine w_setL hupd_same rfl ?_; (conv => whnf)) | (refine w_eqi ?_; (conv => whnf)) | (refine w_eqs ?_; (conv => whnf)) | (refine w_t (by first | rfl | decide | assumption) ?_; (conv => whnf)) | (refine w_f (by first | rfl | decide | assumption) ?_; (conv => whnf)) | (refine And.intro (by first | omega | rfl | decide | assumption | exact Nat.le_of_ble_eq_true rfl | exact mulR (by omega) (by omega) | exact mulL (by omega) (by omega) | exact mulM (by omega) (by omega) | exact divOk (by omega) (by omega) | exact Exists.intro _ (by assumption)) ?_; (conv => whnf))))
  intro p8 hp8; generalize hh_h8 : hupd _ p8 _ = h8; obtain ⟨x8, e8⟩ := newAt hh_h8 hp8
  (conv => whnf)
  have x48 : Ext h4 h8 := x5.trans (x6.trans (x7.trans x8))
  refine ⟨_, _, x48 _ _ e4, e8, (show 30 ≤ sizeLine by decide), ?_⟩
  intro p9 hp9; generalize hh_h9 : hupd _ p9 _ = h9; obtain ⟨x9, e9⟩ := newAt hh_h9 hp9
  simp only [List.cons_append, List.nil_append] at e9
  have x09 : Ext h h9 := x1.trans (x2.trans (x3.trans (x4.trans (x48.trans x9))))
  have n1 := B.ne hp1
  have B1 := B.ext x1
  have n2 := B1.ne hp2
  have B2 := B1.ext x2
  have n3 := B2.ne hp3
  have B4 := (B2.ext x3).ext x4
  have n5 := B4.ne hp5
  have B5 := B4.ext x5
  have n6 := B5.ne hp6
  have B6 := B5.ext x6
  have n7 := B6.ne hp7
  have B8 := (B6.ext x7).ext x8
  have n9 := B8.bag.ne hp9
  have q1 : h9 p1 = _ := (x2.trans (x3.trans (x4.trans (x48.trans x9)))) _ _ e1
  have q2 : h9 p2 = _ := (x3.trans (x4.trans (x48.trans x9))) _ _ e2
  have q3 : h9 p3 = _ := (x4.trans (x48.trans x9)) _ _ e3
  have q5 : h9 p5 = _ := (x6.trans (x7.trans (x8.trans x9))) _ _ e5
  have q6 : h9 p6 = _ := (x7.trans (x8.trans x9)) _ _ e6
  have q7 : h9 p7 = _ := (x8.trans x9) _ _ e7
  (conv => whnf); (repeat (first | (refine w_need rfl ?_; (conv => whnf)) | (refine w_ix (by assumption) rfl ?_; (conv => whnf)) | (refine w_ix hupd_same rfl ?_; (conv => whnf)) | (refine w_setL (by assumption) rfl ?_; (conv => whnf)) | (refine w_setL hupd_same rfl ?_; (conv => whnf)) | (refine w_eqi ?_; (conv => whnf)) | (refine w_eqs ?_; (conv => whnf)) | (refine w_t (by first | rfl | decide | assumption) ?_; (conv => whnf)) | (refine w_f (by first | rfl | decide | assumption) ?_; (conv => whnf)) | (refine And.intro (by first | omega | rfl | decide | assumption | exact Nat.le_of_ble_eq_true rfl | exact mulR (by omega) (by omega) | exact mulL (by omega) (by omega) | exact mulM (by omega) (by omega) | exact divOk (by omega) (by omega) | exact Exists.intro _ (by assumption)) ?_; (conv => whnf))))
  refine sp_pick (B8.bag.ext x9) e9 n9 (show 0 < 30 by decide) (show 30 < 1000000 by decide) fun y h10 hy f => ?_
  refine k y h10 ((Fr.of_ext B.bag x09).trans f) ?_
  have small : ∀ i : Int, i.natAbs ≤ 10 ^ 40 → okI i := fun i hi => Nat.lt_of_le_of_lt hi (by decide)
  have vi : ∀ (i : Int) (n m : Nat), i.natAbs ≤ 10 ^ 40 → VX S h9 (.int i) n m := fun i n m hi => .int (small i hi)
  have v0 : VX S h9 (.int 0) 0 0 := vi _ _ _ (by decide)
  have v1 : VX S h9 (.int 1) 0 0 := vi _ _ _ (by decide)
  suffices VX S h9 y 3 6 ∧ ∀ xs, y = .tup xs → xs.length ≤ 2 from ⟨this.1.fr f B.mem, this.2⟩
  have ne : ∀ {d : D}, (∀ xs, d ≠ .tup xs) → ∀ xs, d = .tup xs → xs.length ≤ 2 := fun z xs e => absurd e (z xs)
  simp only [List.mem_cons, List.not_mem_nil, or_false] at hy
  rcases hy with rfl | rfl | rfl | rfl | rfl | rfl | rfl | rfl | rfl | rfl | rfl | rfl | rfl | rfl | rfl | rfl | rfl | rfl | rfl | rfl | rfl | rfl | rfl | rfl | rfl | rfl | rfl | rfl | rfl | rfl
  case _ => exact ⟨.non, fun xs e => by cases e⟩
  case _ => exact ⟨.bl, fun xs e => by cases e⟩
  case _ => exact ⟨.bl, fun xs e => by cases e⟩
  case _ => exact ⟨vi _ _ _ (by decide), fun xs e => by cases e⟩
  case _ => exact ⟨vi _ _ _ (by decide), fun xs e => by cases e⟩
  case _ => exact ⟨vi _ _ _ (by decide), fun xs e => by cases e⟩
  case _ => exact ⟨vi _ _ _ (by decide), fun xs e => by cases e⟩
  case _ => exact ⟨vi _ _ _ (by decide), fun xs e => by cases e⟩
  case _ => exact ⟨vi _ _ _ (by decide), fun xs e => by cases e⟩
  case _ => exact ⟨.str (by decide), fun xs e => by cases e⟩
  case _ => exact ⟨.str (by decide), fun xs e => by cases e⟩
  case _ => exact ⟨.str (by decide), fun xs e => by cases e⟩
  case _ => exact ⟨.str (by decide), fun xs e => by cases e⟩
  case _ => exact ⟨.tup .n, fun xs e => by cases e; decide⟩
  case _ => exact ⟨.lst q1 n1 .n, fun xs e => by cases e⟩
  case _ => exact ⟨.tup (.c (vi _ _ 0 (by decide)) .n (m2 := 0)), fun xs e => by cases e; decide⟩
  case _ => exact ⟨.tup (.c (vi _ _ 0 (by decide)) (.c (vi _ _ 0 (by decide)) .n (m2 := 0) (m3 := 1))), fun xs e => by cases e; decide⟩
  case _ => exact ⟨.lst q2 n2 (.c (vi _ _ 0 (by decide)) .n (m2 := 0)), fun xs e => by cases e⟩
  case _ => exact ⟨.tup (.c (vi _ _ 0 (by decide)) (.c (m := 0) .bl .n (m2 := 0) (m3 := 1))), fun xs e => by cases e; decide⟩
  case _ => exact ⟨.dct0 q3 n3, fun xs e => by cases e⟩
  case _ => exact ⟨.tup (.c (m := 0) (.lst q5 n5 .n) .n (m2 := 0)), fun xs e => by cases e; exact (show 1 ≤ 2 by decide)⟩
  case _ => exact ⟨.tup (.c (m := 0) .non .n (m2 := 0)), fun xs e => by cases e; decide⟩
  case _ => exact ⟨.tup (.c (m := 4) (.str (by decide)) .n (m2 := 0)), fun xs e => by cases e; decide⟩
  case _ => exact ⟨.tup (.c (m := 4) (.tup (.c (vi _ _ 0 (by decide)) (.c (vi _ _ 0 (by decide)) .n (m2 := 0) (m3 := 1)))) .n (m2 := 0)), fun xs e => by cases e; decide⟩
  case _ => exact ⟨.tup (.c (vi _ _ 0 (by decide)) (.c (vi _ _ 0 (by decide)) .n (m2 := 0) (m3 := 1))), fun xs e => by cases e; decide⟩
  case _ => exact ⟨.tup (.c (m := 0) (.dct0 q6 n6) .n (m2 := 0)), fun xs e => by cases e; exact (show 1 ≤ 2 by decide)⟩
  case _ =>
    refine ⟨⟨.dict [(.str "0", .int 1)], .dct (by rw [offb_ne n7]; exact q7) rfl (.cons (.int 1) .nil), ?_⟩, fun xs e => by cases e⟩
    exact ⟨by decide +kernel, by decide +kernel, by decide +kernel, by decide +kernel⟩
  case _ => exact ⟨.tup (.c (vi _ _ 0 (by decide)) (.c (vi _ _ 0 (by decide)) .n (m2 := 0) (m3 := 1))), fun xs e => by cases e; decide⟩
  case _ => exact ⟨.tup (.c (vi _ _ 0 (by decide)) (.c (vi _ _ 0 (by decide)) .n (m2 := 0) (m3 := 1))), fun xs e => by cases e; decide⟩
  case _ => exact ⟨vi _ _ _ (by decide), fun xs e => by cases e⟩
end DL

set_option linter.all false
set_option maxRecDepth 100000
set_option maxHeartbeats 2000000
set_option pp.deepTerms false
set_option pp.deepTerms.threshold 3
set_option pp.maxSteps 800
namespace DL
open PySem PySem.Spec PyProof.Rows L2
theorem small2' {n : Nat} (h : n ≤ 1000) : n ≤ sizeLine := Nat.le_of_lt (small2 (by omega))
theorem w_eqss {i : Str} {h : DH} {Q : DK} (k : Q (.bl false) h) : kEq true (.str i) (.str i) h Q := w_eqs (by simpa using k)
variable [CTab]
/-- of which classes an error is -/
structure Is13 (C : Addr) (b1 b2 b3 b4 b5 b6 b7 b8 b9 b10 b11 b12 b13 : Bool) : Prop where
  i1 : isxs (.ref C) (.ref CTab.BadKitchen) b1
  i2 : isxs (.ref C) (.ref CTab.BadReading) b2
  i3 : isxs (.ref C) (.ref CTab.BadText) b3
  i4 : isxs (.ref C) (.ref CTab.Full) b4
  i5 : isxs (.ref C) (.ref CTab.NoWorld) b5
  i6 : isxs (.ref C) (.ref CTab.NothingToUndo) b6
  i7 : isxs (.ref C) (.ref CTab.NoReading) b7
  i8 : isxs (.ref C) (.ref CTab.NoWish) b8
  i9 : isxs (.ref C) (.ref CTab.OvenError) b9
  i10 : isxs (.ref C) (.type "ValueError") b10
  i11 : isxs (.ref C) (.type "LookupError") b11
  i12 : isxs (.ref C) (.type "KeyError") b12
  i13 : isxs (.ref C) (.type "IndexError") b13
theorem sp_sorts {h : DH} {p C : Addr} {fs : List (Str × D)} {Q : DK} {b1 b2 b3 b4 b5 b6 b7 b8 b9 b10 b11 b12 b13 : Bool} (e : h p = some (.exc C fs)) (i : Is13 C b1 b2 b3 b4 b5 b6 b7 b8 b9 b10 b11 b12 b13)
    (k : ∀ l h', Ext h h' → h' l = some (.lst ([b1, b2, b3, b4, b5, b6, b7, b8, b9, b10, b11, b12, b13].map D.bl)) → Q (.loc l) h') : m_law_sorts [.loc p] h Q := by
  apply m_law_sorts_ap
  (conv => whnf)
  refine ⟨C, fs, b1, e, i.i1, ?_⟩
  (conv => whnf)
  refine ⟨C, fs, b2, e, i.i2, ?_⟩
  (conv => whnf)
  refine ⟨C, fs, b3, e, i.i3, ?_⟩
  (conv => whnf); (repeat (first | (refine w_need rfl ?_; (conv => whnf)) | (refine w_ix (by assumption) rfl ?_; (conv => whnf)) | (refine w_ix hupd_same rfl ?_; (conv => whnf)) | (refine w_setL (by assumption) rfl ?_; (conv => whnf)) | (refine w_setL hupd_same rfl ?_; (conv => whnf)) | (refine w_eqi ?_; (conv => whnf)) | (refine w_eqs ?_; (conv => whnf)) | (refine w_t (by first | rfl | decide | assumption) ?_; (conv => whnf)) | (refine w_f (by first | rfl | decide | assumption) ?_; (conv => whnf)) | (refine And.intro (by first | omega | rfl | decide | assumption | exact Nat.le_of_ble_eq_true rfl | exact mulR (by omega) (by omega) | exact mulL (by omega) (by omega) | exact mulM (by omega) (by omega) | exact divOk (by omega) (by omega) | exact Exists.intro _ (by assumption)) ?_; (conv => whnf))))
  intro p1 hp1; generalize hh_h1 : hupd _ p1 _ = h1; obtain ⟨x1, e1⟩ := newAt hh_h1 hp1
  have e := x1 _ _ e
  (conv => whnf)
  refine ⟨C, fs, b4, e, i.i4, ?_⟩
  (conv => whnf)
  refine ⟨C, fs, b5, e, i.i5, ?_⟩
  (conv => whnf)
  refine ⟨C, fs, b6, e, i.i6, ?_⟩
  (conv => whnf); (repeat (first | (refine w_need rfl ?_; (conv => whnf)) | (refine w_ix (by assumption) rfl ?_; (conv => whnf)) | (refine w_ix hupd_same rfl ?_; (conv => whnf)) | (refine w_setL (by assumption) rfl ?_; (conv => whnf)) | (refine w_setL hupd_same rfl ?_; (conv => whnf)) | (refine w_eqi ?_; (conv => whnf)) | (refine w_eqs ?_; (conv => whnf)) | (refine w_t (by first | rfl | decide | assumption) ?_; (conv => whnf)) | (refine w_f (by first | rfl | decide | assumption) ?_; (conv => whnf)) | (refine And.intro (by first | omega | rfl | decide | assumption | exact Nat.le_of_ble_eq_true rfl | exact mulR (by omega) (by omega) | exact mulL (by omega) (by omega) | exact mulM (by omega) (by omega) | exact divOk (by omega) (by omega) | exact Exists.intro _ (by assumption)) ?_; (conv => whnf))))
  intro p2 hp2; generalize hh_h2 : hupd _ p2 _ = h2; obtain ⟨x2, e2⟩ := newAt hh_h2 hp2
  have e := x2 _ _ e
  (conv => whnf)
  refine ⟨_, _, x2 _ _ e1, e2, Nat.le_of_lt (small2 (Nat.le_of_ble_eq_true rfl)), ?_⟩
  intro p3 hp3; generalize hh_h3 : hupd _ p3 _ = h3; obtain ⟨x3, e3⟩ := newAt hh_h3 hp3
  have e := x3 _ _ e
  (conv => whnf)
  refine ⟨C, fs, b7, e, i.i7, ?_⟩
  (conv => whnf)
  refine ⟨C, fs, b8, e, i.i8, ?_⟩
  (conv => whnf)
  refine ⟨C, fs, b9, e, i.i9, ?_⟩
  (conv => whnf); (repeat (first | (refine w_need rfl ?_; (conv => whnf)) | (refine w_ix (by assumption) rfl ?_; (conv => whnf)) | (refine w_ix hupd_same rfl ?_; (conv => whnf)) | (refine w_setL (by assumption) rfl ?_; (conv => whnf)) | (refine w_setL hupd_same rfl ?_; (conv => whnf)) | (refine w_eqi ?_; (conv => whnf)) | (refine w_eqs ?_; (conv => whnf)) | (refine w_t (by first | rfl | decide | assumption) ?_; (conv => whnf)) | (refine w_f (by first | rfl | decide | assumption) ?_; (conv => whnf)) | (refine And.intro (by first | omega | rfl | decide | assumption | exact Nat.le_of_ble_eq_true rfl | exact mulR (by omega) (by omega) | exact mulL (by omega) (by omega) | exact mulM (by omega) (by omega) | exact divOk (by omega) (by omega) | exact Exists.intro _ (by assumption)) ?_; (conv => whnf))))
  intro p4 hp4; generalize hh_h4 : hupd _ p4 _ = h4; obtain ⟨x4, e4⟩ := newAt hh_h4 hp4
  have e := x4 _ _ e
  (conv => whnf)
  refine ⟨_, _, x4 _ _ e3, e4, Nat.le_of_lt (small2 (Nat.le_of_ble_eq_true rfl)), ?_⟩
  intro p5 hp5; generalize hh_h5 : hupd _ p5 _ = h5; obtain ⟨x5, e5⟩ := newAt hh_h5 hp5
  have e := x5 _ _ e
  (conv => whnf)
  refine ⟨C, fs, b10, e, i.i10, ?_⟩
  (conv => whnf)
  refine ⟨C, fs, b11, e, i.i11, ?_⟩
  (conv => whnf)
  refine ⟨C, fs, b12, e, i.i12, ?_⟩
  (conv => whnf); (repeat (first | (refine w_need rfl ?_; (conv => whnf)) | (refine w_ix (by assumption) rfl ?_; (conv => whnf)) | (refine w_ix hupd_same rfl ?_; (conv => whnf)) | (refine w_setL (by assumption) rfl ?_; (conv => whnf)) | (refine w_setL hupd_same rfl ?_; (conv => whnf)) | (refine w_eqi ?_; (conv => whnf)) | (refine w_eqs ?_; (conv => whnf)) | (refine w_t (by first | rfl | decide | assumption) ?_; (conv => whnf)) | (refine w_f (by first | rfl | decide | assumption) ?_; (conv => whnf)) | (refine And.intro (by first | omega | rfl | decide | assumption | exact Nat.le_of_ble_eq_true rfl | exact mulR (by omega) (by omega) | exact mulL (by omega) (by omega) | exact mulM (by omega) (by omega) | exact divOk (by omega) (by omega) | exact Exists.intro _ (by assumption)) ?_; (conv => whnf))))
  intro p6 hp6; generalize hh_h6 : hupd _ p6 _ = h6; obtain ⟨x6, e6⟩ := newAt hh_h6 hp6
  have e := x6 _ _ e
  (conv => whnf)
  refine ⟨_, _, x6 _ _ e5, e6, Nat.le_of_lt (small2 (Nat.le_of_ble_eq_true rfl)), ?_⟩
  intro p7 hp7; generalize hh_h7 : hupd _ p7 _ = h7; obtain ⟨x7, e7⟩ := newAt hh_h7 hp7
  have e := x7 _ _ e
  (conv => whnf)
  refine ⟨C, fs, b13, e, i.i13, ?_⟩
  (conv => whnf); (repeat (first | (refine w_need rfl ?_; (conv => whnf)) | (refine w_ix (by assumption) rfl ?_; (conv => whnf)) | (refine w_ix hupd_same rfl ?_; (conv => whnf)) | (refine w_setL (by assumption) rfl ?_; (conv => whnf)) | (refine w_setL hupd_same rfl ?_; (conv => whnf)) | (refine w_eqi ?_; (conv => whnf)) | (refine w_eqs ?_; (conv => whnf)) | (refine w_t (by first | rfl | decide | assumption) ?_; (conv => whnf)) | (refine w_f (by first | rfl | decide | assumption) ?_; (conv => whnf)) | (refine And.intro (by first | omega | rfl | decide | assumption | exact Nat.le_of_ble_eq_true rfl | exact mulR (by omega) (by omega) | exact mulL (by omega) (by omega) | exact mulM (by omega) (by omega) | exact divOk (by omega) (by omega) | exact Exists.intro _ (by assumption)) ?_; (conv => whnf))))
  intro p8 hp8; generalize hh_h8 : hupd _ p8 _ = h8; obtain ⟨x8, e8⟩ := newAt hh_h8 hp8
  (conv => whnf)
  refine ⟨_, _, x8 _ _ e7, e8, Nat.le_of_lt (small2 (Nat.le_of_ble_eq_true rfl)), ?_⟩
  intro p9 hp9; generalize hh_h9 : hupd _ p9 _ = h9; obtain ⟨x9, e9⟩ := newAt hh_h9 hp9
  exact k _ _ (x1.trans (x2.trans (x3.trans (x4.trans (x5.trans (x6.trans (x7.trans (x8.trans x9)))))))) e9
theorem pxs_ints {h : DH} : ∀ ns : List Int, PXs h (ns.map D.int) (ns.map PyData.int)
  | [] => .nil
  | n :: ns => .cons (.int n) (pxs_ints ns)
theorem rp_intsL {ns : List Int} (h : ∀ n ∈ ns, okI n) : RpL (ns.map PyData.int) 0 (ns.length * 1) := RpL.map (b := 0) fun a ha => .int (h a ha)
def limL : List Int := [200, 10 ^ 9, 6, 20, 10 ^ 12, 4, 4, 10 ^ 6, 4, 20, 10 ^ 9, 6, 10 ^ 24, 6]
theorem lim_ok : ∀ n ∈ limL, okI n := by unfold okI; decide
theorem xf_of {C : Addr} {f : Str} (h : (C = CTab.BadKitchen ∧ (f = "number" ∨ f = "word")) ∨ (C = CTab.BadReading ∧ (f = "number" ∨ f = "word")) ∨ (C = CTab.BadText ∧ (f = "line" ∨ f = "number")) ∨ (C = CTab.NoWorld ∧ f = "numbers") ∨ (C = CTab.NoReading ∧ f = "number") ∨ (C = CTab.NoWish ∧ f = "number")) : xfv C f := by
  unfold xfv
  rcases h with ⟨rfl, rfl | rfl⟩ | ⟨rfl, rfl | rfl⟩ | ⟨rfl, rfl | rfl⟩ | ⟨rfl, rfl⟩ | ⟨rfl, rfl⟩ | ⟨rfl, rfl⟩ <;> simp
def dueL (i : Nat) : List Bool := ((List.range 8).map fun j => j == i) ++ [decide (i < 6), decide (i < 6), !decide (i < 6), false, false]
theorem pds_bls (h : DH) : ∀ l : List Bool, PDs h (l.map D.bl) (l.map PyData.bool)
  | [] => .nil
  | b :: l => .cons (.bl b) (pds_bls h l)
theorem sp_spot {h : DH} {c C : Addr} {fs : List (Str × D)} {N : DEnds} {i : Nat} {b1 b2 b3 b4 b5 b6 b7 b8 b9 b10 b11 b12 b13 : Bool} {a0 a1 a2 a3 a4 a5 a6 a7 a10 a11 a12 : Option D} (hi : i < 8) (e : h c = some (.exc C fs)) (is : Is13 C b1 b2 b3 b4 b5 b6 b7 b8 b9 b10 b11 b12 b13)
    (hd : [b1, b2, b3, b4, b5, b6, b7, b8, b9, b10, b11, b12, b13] = dueL i)
    (k : ∀ h' x10 x11 x12, Ext h h' → N.nx [a0, a1, a2, a3, a4, a5, a6, a7, some (.int (i : Nat)), some (.loc c), x10, x11, x12] h') :
    (dSeq (dAsg (dOp dLt (dVar 8) (dC (.int 6))) (gdName 10))
    (dSeq (dAsg (dOp dAdd (kLc (diRng1 (dCons (dC (.int 8)) dNil)) (gdName 12) dYes (dOp (kEq false) (dVar 12) (dVar 8)) [12]) (dLst (dCons (dVar 10) (dCons (dVar 10) (dCons (dNotV (dVar 10)) (dCons (dC (.bl false)) (dCons (dC (.bl false)) dNil))))))) (gdName 11))
    (dIfS (dTest (dOp (kEq true) (dCall 1 m_law_sorts (dCons (dVar 9) dNil)) (dVar 11))) (dRet (dC (.bl false))) dNext))) N [a0, a1, a2, a3, a4, a5, a6, a7, some (.int (i : Nat)), some (.loc c), a10, a11, a12] h := by
  (conv => whnf); (repeat (first | (refine w_need rfl ?_; (conv => whnf)) | (refine w_ix (by assumption) rfl ?_; (conv => whnf)) | (refine w_ix hupd_same rfl ?_; (conv => whnf)) | (refine w_setL (by assumption) rfl ?_; (conv => whnf)) | (refine w_setL hupd_same rfl ?_; (conv => whnf)) | (refine w_eqi ?_; (conv => whnf)) | (refine w_eqs ?_; (conv => whnf)) | (refine w_t (by first | rfl | decide | assumption) ?_; (conv => whnf)) | (refine w_f (by first | rfl | decide | assumption) ?_; (conv => whnf)) | (refine And.intro (by first | omega | rfl | decide | assumption | exact Nat.le_of_ble_eq_true rfl | exact mulR (by omega) (by omega) | exact mulL (by omega) (by omega) | exact mulM (by omega) (by omega) | exact divOk (by omega) (by omega) | exact Exists.intro _ (by assumption)) ?_; (conv => whnf))))
  refine w_lc ?_
  (conv => whnf); (repeat (first | (refine w_need rfl ?_; (conv => whnf)) | (refine w_ix (by assumption) rfl ?_; (conv => whnf)) | (refine w_ix hupd_same rfl ?_; (conv => whnf)) | (refine w_setL (by assumption) rfl ?_; (conv => whnf)) | (refine w_setL hupd_same rfl ?_; (conv => whnf)) | (refine w_eqi ?_; (conv => whnf)) | (refine w_eqs ?_; (conv => whnf)) | (refine w_t (by first | rfl | decide | assumption) ?_; (conv => whnf)) | (refine w_f (by first | rfl | decide | assumption) ?_; (conv => whnf)) | (refine And.intro (by first | omega | rfl | decide | assumption | exact Nat.le_of_ble_eq_true rfl | exact mulR (by omega) (by omega) | exact mulL (by omega) (by omega) | exact mulM (by omega) (by omega) | exact divOk (by omega) (by omega) | exact Exists.intro _ (by assumption)) ?_; (conv => whnf))))
  intro p1 hp1
  refine w_map (fun j => .bl (j == i)) hp1 (by rw [rangeD_length]; exact small2 (by decide)) (fun _ _ => trivial) (fun j d h1 Cc ed x1 hC => ?_) (fun h1 x1 e1 => ?_)
  · obtain ⟨hj, rfl⟩ := rangeD_get0 ed
    (conv => whnf)
    refine w_eqi ?_
    have e : (j == i) = decide (((j : Nat) : Int) = ((i : Nat) : Int)) := by
      by_cases z : j = i
      · subst z; simp
      · have : ¬ ((j : Nat) : Int) = ((i : Nat) : Int) := by omega
        simp [z, this]
    rw [e] at hC
    refine hC _ (.refl _) |> fun z => ?_
    by_cases z2 : ((j : Nat) : Int) = ((i : Nat) : Int)
    · rw [decide_eq_true z2] at z; rw [if_neg (by decide), decide_eq_true z2]; exact z
    · rw [decide_eq_false z2] at z; rw [if_neg (by decide), decide_eq_false z2]; exact z
  · rw [rangeD_length] at e1
    (conv => whnf); (repeat (first | (refine w_need rfl ?_; (conv => whnf)) | (refine w_ix (by assumption) rfl ?_; (conv => whnf)) | (refine w_ix hupd_same rfl ?_; (conv => whnf)) | (refine w_setL (by assumption) rfl ?_; (conv => whnf)) | (refine w_setL hupd_same rfl ?_; (conv => whnf)) | (refine w_eqi ?_; (conv => whnf)) | (refine w_eqs ?_; (conv => whnf)) | (refine w_t (by first | rfl | decide | assumption) ?_; (conv => whnf)) | (refine w_f (by first | rfl | decide | assumption) ?_; (conv => whnf)) | (refine And.intro (by first | omega | rfl | decide | assumption | exact Nat.le_of_ble_eq_true rfl | exact mulR (by omega) (by omega) | exact mulL (by omega) (by omega) | exact mulM (by omega) (by omega) | exact divOk (by omega) (by omega) | exact Exists.intro _ (by assumption)) ?_; (conv => whnf))))
    intro p2 hp2; generalize hh_h2 : hupd _ p2 _ = h2; obtain ⟨x2, e2⟩ := newAt hh_h2 hp2
    (conv => whnf)
    refine ⟨_, _, x2 _ _ e1, e2, Nat.le_of_lt (small2 (Nat.le_of_ble_eq_true rfl)), ?_⟩
    intro p3 hp3; generalize hh_h3 : hupd _ p3 _ = h3; obtain ⟨x3, e3⟩ := newAt hh_h3 hp3
    have c6 : decide (((i : Nat) : Int) < 6) = decide (i < 6) := by
      by_cases z : i < 6
      · rw [decide_eq_true z, decide_eq_true (by omega)]
      · rw [decide_eq_false z, decide_eq_false (by omega)]
    have e3 : h3 p3 = some (.lst ((dueL i).map D.bl)) := by
      rw [e3]
      unfold dueL
      rw [List.map_append, List.map_map, ← c6]
      rfl
    (conv => whnf); (repeat (first | (refine w_need rfl ?_; (conv => whnf)) | (refine w_ix (by assumption) rfl ?_; (conv => whnf)) | (refine w_ix hupd_same rfl ?_; (conv => whnf)) | (refine w_setL (by assumption) rfl ?_; (conv => whnf)) | (refine w_setL hupd_same rfl ?_; (conv => whnf)) | (refine w_eqi ?_; (conv => whnf)) | (refine w_eqs ?_; (conv => whnf)) | (refine w_t (by first | rfl | decide | assumption) ?_; (conv => whnf)) | (refine w_f (by first | rfl | decide | assumption) ?_; (conv => whnf)) | (refine And.intro (by first | omega | rfl | decide | assumption | exact Nat.le_of_ble_eq_true rfl | exact mulR (by omega) (by omega) | exact mulL (by omega) (by omega) | exact mulM (by omega) (by omega) | exact divOk (by omega) (by omega) | exact Exists.intro _ (by assumption)) ?_; (conv => whnf))))
    refine sp_sorts (x3 _ _ (x2 _ _ (x1 _ _ e))) is fun l h4 x4 e4 => ?_
    rw [hd] at e4
    (conv => whnf)
    refine w_eqd (.lst e4 (pds_bls _ _)) (.lst (x4 _ _ e3) (pds_bls _ _)) (by unfold dueL; match i, hi with | 0, _ => rfl | 1, _ => rfl | 2, _ => rfl | 3, _ => rfl | 4, _ => rfl | 5, _ => rfl | 6, _ => rfl | 7, _ => rfl) (by unfold dueL; match i, hi with | 0, _ => rfl | 1, _ => rfl | 2, _ => rfl | 3, _ => rfl | 4, _ => rfl | 5, _ => rfl | 6, _ => rfl | 7, _ => rfl) ?_
    rw [show PyData.eqv (.list ((dueL i).map PyData.bool)) (.list ((dueL i).map PyData.bool)) = true from by unfold dueL; match i, hi with | 0, _ => rfl | 1, _ => rfl | 2, _ => rfl | 3, _ => rfl | 4, _ => rfl | 5, _ => rfl | 6, _ => rfl | 7, _ => rfl]
    (conv => whnf); (repeat (first | (refine w_need rfl ?_; (conv => whnf)) | (refine w_ix (by assumption) rfl ?_; (conv => whnf)) | (refine w_ix hupd_same rfl ?_; (conv => whnf)) | (refine w_setL (by assumption) rfl ?_; (conv => whnf)) | (refine w_setL hupd_same rfl ?_; (conv => whnf)) | (refine w_eqi ?_; (conv => whnf)) | (refine w_eqs ?_; (conv => whnf)) | (refine w_t (by first | rfl | decide | assumption) ?_; (conv => whnf)) | (refine w_f (by first | rfl | decide | assumption) ?_; (conv => whnf)) | (refine And.intro (by first | omega | rfl | decide | assumption | exact Nat.le_of_ble_eq_true rfl | exact mulR (by omega) (by omega) | exact mulL (by omega) (by omega) | exact mulM (by omega) (by omega) | exact divOk (by omega) (by omega) | exact Exists.intro _ (by assumption)) ?_; (conv => whnf))))
    exact k _ _ _ _ (x1.trans (x2.trans (x3.trans x4)))
theorem is_BadKitchen : Is13 CTab.BadKitchen true false false false false false false false true true false false false := ⟨by unfold isxs; repeat (first | exact .inl ⟨rfl, rfl, rfl⟩ | exact ⟨rfl, rfl, rfl⟩ | apply Or.inr), by unfold isxs; repeat (first | exact .inl ⟨rfl, rfl, rfl⟩ | exact ⟨rfl, rfl, rfl⟩ | apply Or.inr), by unfold isxs; repeat (first | exact .inl ⟨rfl, rfl, rfl⟩ | exact ⟨rfl, rfl, rfl⟩ | apply Or.inr), by unfold isxs; repeat (first | exact .inl ⟨rfl, rfl, rfl⟩ | exact ⟨rfl, rfl, rfl⟩ | apply Or.inr), by unfold isxs; repeat (first | exact .inl ⟨rfl, rfl, rfl⟩ | exact ⟨rfl, rfl, rfl⟩ | apply Or.inr), by unfold isxs; repeat (first | exact .inl ⟨rfl, rfl, rfl⟩ | exact ⟨rfl, rfl, rfl⟩ | apply Or.inr), by unfold isxs; repeat (first | exact .inl ⟨rfl, rfl, rfl⟩ | exact ⟨rfl, rfl, rfl⟩ | apply Or.inr), by unfold isxs; repeat (first | exact .inl ⟨rfl, rfl, rfl⟩ | exact ⟨rfl, rfl, rfl⟩ | apply Or.inr), by unfold isxs; repeat (first | exact .inl ⟨rfl, rfl, rfl⟩ | exact ⟨rfl, rfl, rfl⟩ | apply Or.inr), by unfold isxs; repeat (first | exact .inl ⟨rfl, rfl, rfl⟩ | exact ⟨rfl, rfl, rfl⟩ | apply Or.inr), by unfold isxs; repeat (first | exact .inl ⟨rfl, rfl, rfl⟩ | exact ⟨rfl, rfl, rfl⟩ | apply Or.inr), by unfold isxs; repeat (first | exact .inl ⟨rfl, rfl, rfl⟩ | exact ⟨rfl, rfl, rfl⟩ | apply Or.inr), by unfold isxs; repeat (first | exact .inl ⟨rfl, rfl, rfl⟩ | exact ⟨rfl, rfl, rfl⟩ | apply Or.inr)⟩
theorem is_BadReading : Is13 CTab.BadReading false true false false false false false false true true false false false := ⟨by unfold isxs; repeat (first | exact .inl ⟨rfl, rfl, rfl⟩ | exact ⟨rfl, rfl, rfl⟩ | apply Or.inr), by unfold isxs; repeat (first | exact .inl ⟨rfl, rfl, rfl⟩ | exact ⟨rfl, rfl, rfl⟩ | apply Or.inr), by unfold isxs; repeat (first | exact .inl ⟨rfl, rfl, rfl⟩ | exact ⟨rfl, rfl, rfl⟩ | apply Or.inr), by unfold isxs; repeat (first | exact .inl ⟨rfl, rfl, rfl⟩ | exact ⟨rfl, rfl, rfl⟩ | apply Or.inr), by unfold isxs; repeat (first | exact .inl ⟨rfl, rfl, rfl⟩ | exact ⟨rfl, rfl, rfl⟩ | apply Or.inr), by unfold isxs; repeat (first | exact .inl ⟨rfl, rfl, rfl⟩ | exact ⟨rfl, rfl, rfl⟩ | apply Or.inr), by unfold isxs; repeat (first | exact .inl ⟨rfl, rfl, rfl⟩ | exact ⟨rfl, rfl, rfl⟩ | apply Or.inr), by unfold isxs; repeat (first | exact .inl ⟨rfl, rfl, rfl⟩ | exact ⟨rfl, rfl, rfl⟩ | apply Or.inr), by unfold isxs; repeat (first | exact .inl ⟨rfl, rfl, rfl⟩ | exact ⟨rfl, rfl, rfl⟩ | apply Or.inr), by unfold isxs; repeat (first | exact .inl ⟨rfl, rfl, rfl⟩ | exact ⟨rfl, rfl, rfl⟩ | apply Or.inr), by unfold isxs; repeat (first | exact .inl ⟨rfl, rfl, rfl⟩ | exact ⟨rfl, rfl, rfl⟩ | apply Or.inr), by unfold isxs; repeat (first | exact .inl ⟨rfl, rfl, rfl⟩ | exact ⟨rfl, rfl, rfl⟩ | apply Or.inr), by unfold isxs; repeat (first | exact .inl ⟨rfl, rfl, rfl⟩ | exact ⟨rfl, rfl, rfl⟩ | apply Or.inr)⟩
theorem is_BadText : Is13 CTab.BadText false false true false false false false false true true false false false := ⟨by unfold isxs; repeat (first | exact .inl ⟨rfl, rfl, rfl⟩ | exact ⟨rfl, rfl, rfl⟩ | apply Or.inr), by unfold isxs; repeat (first | exact .inl ⟨rfl, rfl, rfl⟩ | exact ⟨rfl, rfl, rfl⟩ | apply Or.inr), by unfold isxs; repeat (first | exact .inl ⟨rfl, rfl, rfl⟩ | exact ⟨rfl, rfl, rfl⟩ | apply Or.inr), by unfold isxs; repeat (first | exact .inl ⟨rfl, rfl, rfl⟩ | exact ⟨rfl, rfl, rfl⟩ | apply Or.inr), by unfold isxs; repeat (first | exact .inl ⟨rfl, rfl, rfl⟩ | exact ⟨rfl, rfl, rfl⟩ | apply Or.inr), by unfold isxs; repeat (first | exact .inl ⟨rfl, rfl, rfl⟩ | exact ⟨rfl, rfl, rfl⟩ | apply Or.inr), by unfold isxs; repeat (first | exact .inl ⟨rfl, rfl, rfl⟩ | exact ⟨rfl, rfl, rfl⟩ | apply Or.inr), by unfold isxs; repeat (first | exact .inl ⟨rfl, rfl, rfl⟩ | exact ⟨rfl, rfl, rfl⟩ | apply Or.inr), by unfold isxs; repeat (first | exact .inl ⟨rfl, rfl, rfl⟩ | exact ⟨rfl, rfl, rfl⟩ | apply Or.inr), by unfold isxs; repeat (first | exact .inl ⟨rfl, rfl, rfl⟩ | exact ⟨rfl, rfl, rfl⟩ | apply Or.inr), by unfold isxs; repeat (first | exact .inl ⟨rfl, rfl, rfl⟩ | exact ⟨rfl, rfl, rfl⟩ | apply Or.inr), by unfold isxs; repeat (first | exact .inl ⟨rfl, rfl, rfl⟩ | exact ⟨rfl, rfl, rfl⟩ | apply Or.inr), by unfold isxs; repeat (first | exact .inl ⟨rfl, rfl, rfl⟩ | exact ⟨rfl, rfl, rfl⟩ | apply Or.inr)⟩
theorem is_Full : Is13 CTab.Full false false false true false false false false true true false false false := ⟨by unfold isxs; repeat (first | exact .inl ⟨rfl, rfl, rfl⟩ | exact ⟨rfl, rfl, rfl⟩ | apply Or.inr), by unfold isxs; repeat (first | exact .inl ⟨rfl, rfl, rfl⟩ | exact ⟨rfl, rfl, rfl⟩ | apply Or.inr), by unfold isxs; repeat (first | exact .inl ⟨rfl, rfl, rfl⟩ | exact ⟨rfl, rfl, rfl⟩ | apply Or.inr), by unfold isxs; repeat (first | exact .inl ⟨rfl, rfl, rfl⟩ | exact ⟨rfl, rfl, rfl⟩ | apply Or.inr), by unfold isxs; repeat (first | exact .inl ⟨rfl, rfl, rfl⟩ | exact ⟨rfl, rfl, rfl⟩ | apply Or.inr), by unfold isxs; repeat (first | exact .inl ⟨rfl, rfl, rfl⟩ | exact ⟨rfl, rfl, rfl⟩ | apply Or.inr), by unfold isxs; repeat (first | exact .inl ⟨rfl, rfl, rfl⟩ | exact ⟨rfl, rfl, rfl⟩ | apply Or.inr), by unfold isxs; repeat (first | exact .inl ⟨rfl, rfl, rfl⟩ | exact ⟨rfl, rfl, rfl⟩ | apply Or.inr), by unfold isxs; repeat (first | exact .inl ⟨rfl, rfl, rfl⟩ | exact ⟨rfl, rfl, rfl⟩ | apply Or.inr), by unfold isxs; repeat (first | exact .inl ⟨rfl, rfl, rfl⟩ | exact ⟨rfl, rfl, rfl⟩ | apply Or.inr), by unfold isxs; repeat (first | exact .inl ⟨rfl, rfl, rfl⟩ | exact ⟨rfl, rfl, rfl⟩ | apply Or.inr), by unfold isxs; repeat (first | exact .inl ⟨rfl, rfl, rfl⟩ | exact ⟨rfl, rfl, rfl⟩ | apply Or.inr), by unfold isxs; repeat (first | exact .inl ⟨rfl, rfl, rfl⟩ | exact ⟨rfl, rfl, rfl⟩ | apply Or.inr)⟩
theorem is_NoWorld : Is13 CTab.NoWorld false false false false true false false false true true false false false := ⟨by unfold isxs; repeat (first | exact .inl ⟨rfl, rfl, rfl⟩ | exact ⟨rfl, rfl, rfl⟩ | apply Or.inr), by unfold isxs; repeat (first | exact .inl ⟨rfl, rfl, rfl⟩ | exact ⟨rfl, rfl, rfl⟩ | apply Or.inr), by unfold isxs; repeat (first | exact .inl ⟨rfl, rfl, rfl⟩ | exact ⟨rfl, rfl, rfl⟩ | apply Or.inr), by unfold isxs; repeat (first | exact .inl ⟨rfl, rfl, rfl⟩ | exact ⟨rfl, rfl, rfl⟩ | apply Or.inr), by unfold isxs; repeat (first | exact .inl ⟨rfl, rfl, rfl⟩ | exact ⟨rfl, rfl, rfl⟩ | apply Or.inr), by unfold isxs; repeat (first | exact .inl ⟨rfl, rfl, rfl⟩ | exact ⟨rfl, rfl, rfl⟩ | apply Or.inr), by unfold isxs; repeat (first | exact .inl ⟨rfl, rfl, rfl⟩ | exact ⟨rfl, rfl, rfl⟩ | apply Or.inr), by unfold isxs; repeat (first | exact .inl ⟨rfl, rfl, rfl⟩ | exact ⟨rfl, rfl, rfl⟩ | apply Or.inr), by unfold isxs; repeat (first | exact .inl ⟨rfl, rfl, rfl⟩ | exact ⟨rfl, rfl, rfl⟩ | apply Or.inr), by unfold isxs; repeat (first | exact .inl ⟨rfl, rfl, rfl⟩ | exact ⟨rfl, rfl, rfl⟩ | apply Or.inr), by unfold isxs; repeat (first | exact .inl ⟨rfl, rfl, rfl⟩ | exact ⟨rfl, rfl, rfl⟩ | apply Or.inr), by unfold isxs; repeat (first | exact .inl ⟨rfl, rfl, rfl⟩ | exact ⟨rfl, rfl, rfl⟩ | apply Or.inr), by unfold isxs; repeat (first | exact .inl ⟨rfl, rfl, rfl⟩ | exact ⟨rfl, rfl, rfl⟩ | apply Or.inr)⟩
theorem is_NothingToUndo : Is13 CTab.NothingToUndo false false false false false true false false true true false false false := ⟨by unfold isxs; repeat (first | exact .inl ⟨rfl, rfl, rfl⟩ | exact ⟨rfl, rfl, rfl⟩ | apply Or.inr), by unfold isxs; repeat (first | exact .inl ⟨rfl, rfl, rfl⟩ | exact ⟨rfl, rfl, rfl⟩ | apply Or.inr), by unfold isxs; repeat (first | exact .inl ⟨rfl, rfl, rfl⟩ | exact ⟨rfl, rfl, rfl⟩ | apply Or.inr), by unfold isxs; repeat (first | exact .inl ⟨rfl, rfl, rfl⟩ | exact ⟨rfl, rfl, rfl⟩ | apply Or.inr), by unfold isxs; repeat (first | exact .inl ⟨rfl, rfl, rfl⟩ | exact ⟨rfl, rfl, rfl⟩ | apply Or.inr), by unfold isxs; repeat (first | exact .inl ⟨rfl, rfl, rfl⟩ | exact ⟨rfl, rfl, rfl⟩ | apply Or.inr), by unfold isxs; repeat (first | exact .inl ⟨rfl, rfl, rfl⟩ | exact ⟨rfl, rfl, rfl⟩ | apply Or.inr), by unfold isxs; repeat (first | exact .inl ⟨rfl, rfl, rfl⟩ | exact ⟨rfl, rfl, rfl⟩ | apply Or.inr), by unfold isxs; repeat (first | exact .inl ⟨rfl, rfl, rfl⟩ | exact ⟨rfl, rfl, rfl⟩ | apply Or.inr), by unfold isxs; repeat (first | exact .inl ⟨rfl, rfl, rfl⟩ | exact ⟨rfl, rfl, rfl⟩ | apply Or.inr), by unfold isxs; repeat (first | exact .inl ⟨rfl, rfl, rfl⟩ | exact ⟨rfl, rfl, rfl⟩ | apply Or.inr), by unfold isxs; repeat (first | exact .inl ⟨rfl, rfl, rfl⟩ | exact ⟨rfl, rfl, rfl⟩ | apply Or.inr), by unfold isxs; repeat (first | exact .inl ⟨rfl, rfl, rfl⟩ | exact ⟨rfl, rfl, rfl⟩ | apply Or.inr)⟩
theorem is_NoReading : Is13 CTab.NoReading false false false false false false true false false false true false false := ⟨by unfold isxs; repeat (first | exact .inl ⟨rfl, rfl, rfl⟩ | exact ⟨rfl, rfl, rfl⟩ | apply Or.inr), by unfold isxs; repeat (first | exact .inl ⟨rfl, rfl, rfl⟩ | exact ⟨rfl, rfl, rfl⟩ | apply Or.inr), by unfold isxs; repeat (first | exact .inl ⟨rfl, rfl, rfl⟩ | exact ⟨rfl, rfl, rfl⟩ | apply Or.inr), by unfold isxs; repeat (first | exact .inl ⟨rfl, rfl, rfl⟩ | exact ⟨rfl, rfl, rfl⟩ | apply Or.inr), by unfold isxs; repeat (first | exact .inl ⟨rfl, rfl, rfl⟩ | exact ⟨rfl, rfl, rfl⟩ | apply Or.inr), by unfold isxs; repeat (first | exact .inl ⟨rfl, rfl, rfl⟩ | exact ⟨rfl, rfl, rfl⟩ | apply Or.inr), by unfold isxs; repeat (first | exact .inl ⟨rfl, rfl, rfl⟩ | exact ⟨rfl, rfl, rfl⟩ | apply Or.inr), by unfold isxs; repeat (first | exact .inl ⟨rfl, rfl, rfl⟩ | exact ⟨rfl, rfl, rfl⟩ | apply Or.inr), by unfold isxs; repeat (first | exact .inl ⟨rfl, rfl, rfl⟩ | exact ⟨rfl, rfl, rfl⟩ | apply Or.inr), by unfold isxs; repeat (first | exact .inl ⟨rfl, rfl, rfl⟩ | exact ⟨rfl, rfl, rfl⟩ | apply Or.inr), by unfold isxs; repeat (first | exact .inl ⟨rfl, rfl, rfl⟩ | exact ⟨rfl, rfl, rfl⟩ | apply Or.inr), by unfold isxs; repeat (first | exact .inl ⟨rfl, rfl, rfl⟩ | exact ⟨rfl, rfl, rfl⟩ | apply Or.inr), by unfold isxs; repeat (first | exact .inl ⟨rfl, rfl, rfl⟩ | exact ⟨rfl, rfl, rfl⟩ | apply Or.inr)⟩
theorem is_NoWish : Is13 CTab.NoWish false false false false false false false true false false true false false := ⟨by unfold isxs; repeat (first | exact .inl ⟨rfl, rfl, rfl⟩ | exact ⟨rfl, rfl, rfl⟩ | apply Or.inr), by unfold isxs; repeat (first | exact .inl ⟨rfl, rfl, rfl⟩ | exact ⟨rfl, rfl, rfl⟩ | apply Or.inr), by unfold isxs; repeat (first | exact .inl ⟨rfl, rfl, rfl⟩ | exact ⟨rfl, rfl, rfl⟩ | apply Or.inr), by unfold isxs; repeat (first | exact .inl ⟨rfl, rfl, rfl⟩ | exact ⟨rfl, rfl, rfl⟩ | apply Or.inr), by unfold isxs; repeat (first | exact .inl ⟨rfl, rfl, rfl⟩ | exact ⟨rfl, rfl, rfl⟩ | apply Or.inr), by unfold isxs; repeat (first | exact .inl ⟨rfl, rfl, rfl⟩ | exact ⟨rfl, rfl, rfl⟩ | apply Or.inr), by unfold isxs; repeat (first | exact .inl ⟨rfl, rfl, rfl⟩ | exact ⟨rfl, rfl, rfl⟩ | apply Or.inr), by unfold isxs; repeat (first | exact .inl ⟨rfl, rfl, rfl⟩ | exact ⟨rfl, rfl, rfl⟩ | apply Or.inr), by unfold isxs; repeat (first | exact .inl ⟨rfl, rfl, rfl⟩ | exact ⟨rfl, rfl, rfl⟩ | apply Or.inr), by unfold isxs; repeat (first | exact .inl ⟨rfl, rfl, rfl⟩ | exact ⟨rfl, rfl, rfl⟩ | apply Or.inr), by unfold isxs; repeat (first | exact .inl ⟨rfl, rfl, rfl⟩ | exact ⟨rfl, rfl, rfl⟩ | apply Or.inr), by unfold isxs; repeat (first | exact .inl ⟨rfl, rfl, rfl⟩ | exact ⟨rfl, rfl, rfl⟩ | apply Or.inr), by unfold isxs; repeat (first | exact .inl ⟨rfl, rfl, rfl⟩ | exact ⟨rfl, rfl, rfl⟩ | apply Or.inr)⟩
theorem law_holds (ns : List Int) (hl : ns.length ≤ 63) : runD 13 b_law [.fls (ns.map D.int)] (fun _ => none) fun d _ => d = .bl true := by
  show b_law _ [some (.fls (ns.map D.int)), none, none, none, none, none, none, none, none, none, none, none, none] _
  (conv => whnf); (repeat (first | (refine w_need rfl ?_; (conv => whnf)) | (refine w_ix (by assumption) rfl ?_; (conv => whnf)) | (refine w_ix hupd_same rfl ?_; (conv => whnf)) | (refine w_setL (by assumption) rfl ?_; (conv => whnf)) | (refine w_setL hupd_same rfl ?_; (conv => whnf)) | (refine w_eqi ?_; (conv => whnf)) | (refine w_eqs ?_; (conv => whnf)) | (refine w_t (by first | rfl | decide | assumption) ?_; (conv => whnf)) | (refine w_f (by first | rfl | decide | assumption) ?_; (conv => whnf)) | (refine And.intro (by first | omega | rfl | decide | assumption | exact Nat.le_of_ble_eq_true rfl | exact mulR (by omega) (by omega) | exact mulL (by omega) (by omega) | exact mulM (by omega) (by omega) | exact divOk (by omega) (by omega) | exact Exists.intro _ (by assumption)) ?_; (conv => whnf))))
  refine sp_bag hl fun b h0 g s x0 hb hb2 => ?_
  have B0 : Bag (hupd h0 b (.lst [.int g, .int s, .int 0])) b := ⟨g, s, 0, hupd_same⟩
  generalize hupd h0 b (.lst [.int g, .int s, .int 0]) = h1 at B0
  (conv => whnf); (repeat (first | (refine w_need rfl ?_; (conv => whnf)) | (refine w_ix (by assumption) rfl ?_; (conv => whnf)) | (refine w_ix hupd_same rfl ?_; (conv => whnf)) | (refine w_setL (by assumption) rfl ?_; (conv => whnf)) | (refine w_setL hupd_same rfl ?_; (conv => whnf)) | (refine w_eqi ?_; (conv => whnf)) | (refine w_eqs ?_; (conv => whnf)) | (refine w_t (by first | rfl | decide | assumption) ?_; (conv => whnf)) | (refine w_f (by first | rfl | decide | assumption) ?_; (conv => whnf)) | (refine And.intro (by first | omega | rfl | decide | assumption | exact Nat.le_of_ble_eq_true rfl | exact mulR (by omega) (by omega) | exact mulL (by omega) (by omega) | exact mulM (by omega) (by omega) | exact divOk (by omega) (by omega) | exact Exists.intro _ (by assumption)) ?_; (conv => whnf))))
  intro p2 hp2; generalize hh_h2 : hupd _ p2 _ = h2; obtain ⟨x2, e2⟩ := newAt hh_h2 hp2
  (conv => whnf); (repeat (first | (refine w_need rfl ?_; (conv => whnf)) | (refine w_ix (by assumption) rfl ?_; (conv => whnf)) | (refine w_ix hupd_same rfl ?_; (conv => whnf)) | (refine w_setL (by assumption) rfl ?_; (conv => whnf)) | (refine w_setL hupd_same rfl ?_; (conv => whnf)) | (refine w_eqi ?_; (conv => whnf)) | (refine w_eqs ?_; (conv => whnf)) | (refine w_t (by first | rfl | decide | assumption) ?_; (conv => whnf)) | (refine w_f (by first | rfl | decide | assumption) ?_; (conv => whnf)) | (refine And.intro (by first | omega | rfl | decide | assumption | exact Nat.le_of_ble_eq_true rfl | exact mulR (by omega) (by omega) | exact mulL (by omega) (by omega) | exact mulM (by omega) (by omega) | exact divOk (by omega) (by omega) | exact Exists.intro _ (by assumption)) ?_; (conv => whnf))))
  intro p3 hp3; generalize hh_h3 : hupd _ p3 _ = h3; obtain ⟨x3, e3⟩ := newAt hh_h3 hp3
  (conv => whnf)
  refine ⟨_, _, x3 _ _ e2, e3, Nat.le_of_lt (small2 (Nat.le_of_ble_eq_true rfl)), ?_⟩
  intro p4 hp4; generalize hh_h4 : hupd _ p4 _ = h4; obtain ⟨x4, e4⟩ := newAt hh_h4 hp4
  simp only [List.cons_append, List.nil_append] at e4
  have B4 := ((B0.ext x2).ext x3).ext x4
  have e4 : h4 p4 = some (.lst (limL.map D.int)) := e4
  have rl : Rp (.list (limL.map PyData.int)) 1 (limL.length * 1) := .list (rp_intsL lim_ok)
  (conv => whnf)
  refine w_repX (.lst e4 (pxs_ints _)) rl (by decide) (by decide) ?_
  (conv => whnf); (repeat (first | (refine w_need rfl ?_; (conv => whnf)) | (refine w_ix (by assumption) rfl ?_; (conv => whnf)) | (refine w_ix hupd_same rfl ?_; (conv => whnf)) | (refine w_setL (by assumption) rfl ?_; (conv => whnf)) | (refine w_setL hupd_same rfl ?_; (conv => whnf)) | (refine w_eqi ?_; (conv => whnf)) | (refine w_eqs ?_; (conv => whnf)) | (refine w_t (by first | rfl | decide | assumption) ?_; (conv => whnf)) | (refine w_f (by first | rfl | decide | assumption) ?_; (conv => whnf)) | (refine And.intro (by first | omega | rfl | decide | assumption | exact Nat.le_of_ble_eq_true rfl | exact mulR (by omega) (by omega) | exact mulL (by omega) (by omega) | exact mulM (by omega) (by omega) | exact divOk (by omega) (by omega) | exact Exists.intro _ (by assumption)) ?_; (conv => whnf))))
  intro p5 hp5; generalize hh_h5 : hupd _ p5 _ = h5; obtain ⟨x5, e5⟩ := newAt hh_h5 hp5
  (conv => whnf); (repeat (first | (refine w_need rfl ?_; (conv => whnf)) | (refine w_ix (by assumption) rfl ?_; (conv => whnf)) | (refine w_ix hupd_same rfl ?_; (conv => whnf)) | (refine w_setL (by assumption) rfl ?_; (conv => whnf)) | (refine w_setL hupd_same rfl ?_; (conv => whnf)) | (refine w_eqi ?_; (conv => whnf)) | (refine w_eqs ?_; (conv => whnf)) | (refine w_t (by first | rfl | decide | assumption) ?_; (conv => whnf)) | (refine w_f (by first | rfl | decide | assumption) ?_; (conv => whnf)) | (refine And.intro (by first | omega | rfl | decide | assumption | exact Nat.le_of_ble_eq_true rfl | exact mulR (by omega) (by omega) | exact mulL (by omega) (by omega) | exact mulM (by omega) (by omega) | exact divOk (by omega) (by omega) | exact Exists.intro _ (by assumption)) ?_; (conv => whnf))))
  have e5 : h5 p5 = some (.lst (limL.map D.int)) := e5
  refine w_repX (.lst e5 (pxs_ints _)) rl (by decide) (by decide) ?_
  refine w_eqss ?_
  (conv => whnf); (repeat (first | (refine w_need rfl ?_; (conv => whnf)) | (refine w_ix (by assumption) rfl ?_; (conv => whnf)) | (refine w_ix hupd_same rfl ?_; (conv => whnf)) | (refine w_setL (by assumption) rfl ?_; (conv => whnf)) | (refine w_setL hupd_same rfl ?_; (conv => whnf)) | (refine w_eqi ?_; (conv => whnf)) | (refine w_eqs ?_; (conv => whnf)) | (refine w_t (by first | rfl | decide | assumption) ?_; (conv => whnf)) | (refine w_f (by first | rfl | decide | assumption) ?_; (conv => whnf)) | (refine And.intro (by first | omega | rfl | decide | assumption | exact Nat.le_of_ble_eq_true rfl | exact mulR (by omega) (by omega) | exact mulL (by omega) (by omega) | exact mulM (by omega) (by omega) | exact divOk (by omega) (by omega) | exact Exists.intro _ (by assumption)) ?_; (conv => whnf))))
  have B5 := B4.ext x5
  clear e5 e4 rl
  refine w_for ?_
  (conv => whnf); (repeat (first | (refine w_need rfl ?_; (conv => whnf)) | (refine w_ix (by assumption) rfl ?_; (conv => whnf)) | (refine w_ix hupd_same rfl ?_; (conv => whnf)) | (refine w_setL (by assumption) rfl ?_; (conv => whnf)) | (refine w_setL hupd_same rfl ?_; (conv => whnf)) | (refine w_eqi ?_; (conv => whnf)) | (refine w_eqs ?_; (conv => whnf)) | (refine w_t (by first | rfl | decide | assumption) ?_; (conv => whnf)) | (refine w_f (by first | rfl | decide | assumption) ?_; (conv => whnf)) | (refine And.intro (by first | omega | rfl | decide | assumption | exact Nat.le_of_ble_eq_true rfl | exact mulR (by omega) (by omega) | exact mulL (by omega) (by omega) | exact mulM (by omega) (by omega) | exact divOk (by omega) (by omega) | exact Exists.intro _ (by assumption)) ?_; (conv => whnf))))
  refine w_range0 (I := fun _ τ h' => Bag h' b ∧ ∃ a3 a4 a5 a6 a7 a8 a9 a10 a11 a12, τ = [some (.fls (ns.map D.int)), some (.loc b), some (.loc p4), a3, a4, a5, a6, a7, a8, a9, a10, a11, a12]) ⟨B5, _, _, _, _, _, _, _, _, _, _, rfl⟩ ?_ ?_
  · rintro t τ h6 nx ht ⟨B6, a3, a4, a5, a6, a7, a8, a9, a10, a11, a12, rfl⟩ hnx
    clear B5 B4
    (conv => whnf); (repeat (first | (refine w_need rfl ?_; (conv => whnf)) | (refine w_ix (by assumption) rfl ?_; (conv => whnf)) | (refine w_ix hupd_same rfl ?_; (conv => whnf)) | (refine w_setL (by assumption) rfl ?_; (conv => whnf)) | (refine w_setL hupd_same rfl ?_; (conv => whnf)) | (refine w_eqi ?_; (conv => whnf)) | (refine w_eqs ?_; (conv => whnf)) | (refine w_t (by first | rfl | decide | assumption) ?_; (conv => whnf)) | (refine w_f (by first | rfl | decide | assumption) ?_; (conv => whnf)) | (refine And.intro (by first | omega | rfl | decide | assumption | exact Nat.le_of_ble_eq_true rfl | exact mulR (by omega) (by omega) | exact mulL (by omega) (by omega) | exact mulM (by omega) (by omega) | exact divOk (by omega) (by omega) | exact Exists.intro _ (by assumption)) ?_; (conv => whnf))))
    refine sp_odd (Hid.one B6) fun y1 h7 f7 O1 => ?_
    have HB7 := (Hid.one B6).fr f7
    (conv => whnf); (repeat (first | (refine w_need rfl ?_; (conv => whnf)) | (refine w_ix (by assumption) rfl ?_; (conv => whnf)) | (refine w_ix hupd_same rfl ?_; (conv => whnf)) | (refine w_setL (by assumption) rfl ?_; (conv => whnf)) | (refine w_setL hupd_same rfl ?_; (conv => whnf)) | (refine w_eqi ?_; (conv => whnf)) | (refine w_eqs ?_; (conv => whnf)) | (refine w_t (by first | rfl | decide | assumption) ?_; (conv => whnf)) | (refine w_f (by first | rfl | decide | assumption) ?_; (conv => whnf)) | (refine And.intro (by first | omega | rfl | decide | assumption | exact Nat.le_of_ble_eq_true rfl | exact mulR (by omega) (by omega) | exact mulL (by omega) (by omega) | exact mulM (by omega) (by omega) | exact divOk (by omega) (by omega) | exact Exists.intro _ (by assumption)) ?_; (conv => whnf))))
    refine sp_odd HB7 fun y2 h8 f8 O2 => ?_
    have HB8 := HB7.fr f8
    have V1 := O1.vx.fr f8 (by simp)
    have V2 := O2.vx
    clear O1 O2
    (conv => whnf); (repeat (first | (refine w_need rfl ?_; (conv => whnf)) | (refine w_ix (by assumption) rfl ?_; (conv => whnf)) | (refine w_ix hupd_same rfl ?_; (conv => whnf)) | (refine w_setL (by assumption) rfl ?_; (conv => whnf)) | (refine w_setL hupd_same rfl ?_; (conv => whnf)) | (refine w_eqi ?_; (conv => whnf)) | (refine w_eqs ?_; (conv => whnf)) | (refine w_t (by first | rfl | decide | assumption) ?_; (conv => whnf)) | (refine w_f (by first | rfl | decide | assumption) ?_; (conv => whnf)) | (refine And.intro (by first | omega | rfl | decide | assumption | exact Nat.le_of_ble_eq_true rfl | exact mulR (by omega) (by omega) | exact mulL (by omega) (by omega) | exact mulM (by omega) (by omega) | exact divOk (by omega) (by omega) | exact Exists.intro _ (by assumption)) ?_; (conv => whnf))))
    intro pk hpk; generalize hh_h9 : hupd _ pk _ = h9; obtain ⟨x9, ek⟩ := newAt hh_h9 hpk
    (conv => whnf); (repeat (first | (refine w_need rfl ?_; (conv => whnf)) | (refine w_ix (by assumption) rfl ?_; (conv => whnf)) | (refine w_ix hupd_same rfl ?_; (conv => whnf)) | (refine w_setL (by assumption) rfl ?_; (conv => whnf)) | (refine w_setL hupd_same rfl ?_; (conv => whnf)) | (refine w_eqi ?_; (conv => whnf)) | (refine w_eqs ?_; (conv => whnf)) | (refine w_t (by first | rfl | decide | assumption) ?_; (conv => whnf)) | (refine w_f (by first | rfl | decide | assumption) ?_; (conv => whnf)) | (refine And.intro (by first | omega | rfl | decide | assumption | exact Nat.le_of_ble_eq_true rfl | exact mulR (by omega) (by omega) | exact mulL (by omega) (by omega) | exact mulM (by omega) (by omega) | exact divOk (by omega) (by omega) | exact Exists.intro _ (by assumption)) ?_; (conv => whnf))))
    refine sp_pick (HB8.bag.ext x9) ek (HB8.bag.ne hpk) (show 0 < 4 by decide) (show 4 < 1000000 by decide) fun y3 h10 hy f10 => ?_
    have f10 := (Fr.of_ext HB8.bag x9).trans f10
    have B10 := f10.bag
    have W1 : VX [b] h10 y1 3 50 := (V1.fr f10 (by simp)).mono (by decide) (by decide)
    have W2 : VX [b] h10 y3 3 50 := by
      simp only [List.mem_cons, List.not_mem_nil, or_false] at hy
      rcases hy with rfl | rfl | rfl | rfl
      · exact (V2.fr f10 (by simp)).mono (by decide) (by decide)
      · exact (VX.str (by decide) : VX [b] h10 (.str "dial") 3 4).mono (by decide) (by decide)
      · exact (VX.int (show okI _ by unfold okI; decide) : VX [b] h10 (.int _) 3 0).mono (by decide) (by decide)
      · have v0 : VX [b] h10 (.int 0) 0 0 := .int (by unfold okI; decide)
        have v1 : VX [b] h10 (.int 1) 0 0 := .int (by unfold okI; decide)
        exact (VX.tup (.c (m := 4) (VX.tup (.c (m := 0) v0 (.c (m := 0) v1 .n (m2 := 0) (m3 := 1)) (m3 := 4))) (.c (m := 0) (.non : VX [b] h10 .non 1 0) .n (m2 := 0) (m3 := 1)) (m3 := 50))).mono (by decide) (by decide)
    obtain ⟨P1, q1, r1⟩ := W1.px
    obtain ⟨P2, q2, r2⟩ := W2.px
    clear W1 W2 V1 V2 hy ek x9 f10 HB8 HB7 f8 f7 B6
    (conv => whnf)
    refine ⟨rfl, ?_⟩
    intro c0 hc0; generalize hh_h11 : hupd _ c0 _ = h11; obtain ⟨x11, d0⟩ := newAt hh_h11 hc0
    (conv => whnf)
    refine ⟨rfl, ?_⟩
    intro c1 hc1; generalize hh_h12 : hupd _ c1 _ = h12; obtain ⟨x12, d1⟩ := newAt hh_h12 hc1
    (conv => whnf)
    refine ⟨rfl, ?_⟩
    intro c2 hc2; generalize hh_h13 : hupd _ c2 _ = h13; obtain ⟨x13, d2⟩ := newAt hh_h13 hc2
    (conv => whnf)
    intro c3 hc3; generalize hh_h14 : hupd _ c3 _ = h14; obtain ⟨x14, d3⟩ := newAt hh_h14 hc3
    (conv => whnf)
    refine ⟨rfl, ?_⟩
    intro c4 hc4; generalize hh_h15 : hupd _ c4 _ = h15; obtain ⟨x15, d4⟩ := newAt hh_h15 hc4
    (conv => whnf)
    intro c5 hc5; generalize hh_h16 : hupd _ c5 _ = h16; obtain ⟨x16, d5⟩ := newAt hh_h16 hc5
    (conv => whnf)
    refine ⟨rfl, ?_⟩
    intro c6 hc6; generalize hh_h17 : hupd _ c6 _ = h17; obtain ⟨x17, d6⟩ := newAt hh_h17 hc6
    (conv => whnf)
    refine ⟨rfl, ?_⟩
    intro c7 hc7; generalize hh_h18 : hupd _ c7 _ = h18; obtain ⟨x18, d7⟩ := newAt hh_h18 hc7
    (conv => whnf); (repeat (first | (refine w_need rfl ?_; (conv => whnf)) | (refine w_ix (by assumption) rfl ?_; (conv => whnf)) | (refine w_ix hupd_same rfl ?_; (conv => whnf)) | (refine w_setL (by assumption) rfl ?_; (conv => whnf)) | (refine w_setL hupd_same rfl ?_; (conv => whnf)) | (refine w_eqi ?_; (conv => whnf)) | (refine w_eqs ?_; (conv => whnf)) | (refine w_t (by first | rfl | decide | assumption) ?_; (conv => whnf)) | (refine w_f (by first | rfl | decide | assumption) ?_; (conv => whnf)) | (refine And.intro (by first | omega | rfl | decide | assumption | exact Nat.le_of_ble_eq_true rfl | exact mulR (by omega) (by omega) | exact mulL (by omega) (by omega) | exact mulM (by omega) (by omega) | exact divOk (by omega) (by omega) | exact Exists.intro _ (by assumption)) ?_; (conv => whnf))))
    intro pl hpl; generalize hh_h19 : hupd _ pl _ = h19; obtain ⟨x19, el⟩ := newAt hh_h19 hpl
    have d0 := (x12.trans (x13.trans (x14.trans (x15.trans (x16.trans (x17.trans (x18.trans (x19)))))))) _ _ d0
    have d1 := (x13.trans (x14.trans (x15.trans (x16.trans (x17.trans (x18.trans (x19))))))) _ _ d1
    have d2 := (x14.trans (x15.trans (x16.trans (x17.trans (x18.trans (x19)))))) _ _ d2
    have d3 := (x15.trans (x16.trans (x17.trans (x18.trans (x19))))) _ _ d3
    have d4 := (x16.trans (x17.trans (x18.trans (x19)))) _ _ d4
    have d5 := (x17.trans (x18.trans (x19))) _ _ d5
    have d6 := (x18.trans (x19)) _ _ d6
    have d7 := (x19) _ _ d7
    have x20 : Ext h10 h19 := x11.trans (x12.trans (x13.trans (x14.trans (x15.trans (x16.trans (x17.trans (x18.trans (x19))))))))
    have B19 := B10.ext x20
    clear x11 x12 x13 x14 x15 x16 x17 x18
    (conv => whnf); (repeat (first | (refine w_need rfl ?_; (conv => whnf)) | (refine w_ix (by assumption) rfl ?_; (conv => whnf)) | (refine w_ix hupd_same rfl ?_; (conv => whnf)) | (refine w_setL (by assumption) rfl ?_; (conv => whnf)) | (refine w_setL hupd_same rfl ?_; (conv => whnf)) | (refine w_eqi ?_; (conv => whnf)) | (refine w_eqs ?_; (conv => whnf)) | (refine w_t (by first | rfl | decide | assumption) ?_; (conv => whnf)) | (refine w_f (by first | rfl | decide | assumption) ?_; (conv => whnf)) | (refine And.intro (by first | omega | rfl | decide | assumption | exact Nat.le_of_ble_eq_true rfl | exact mulR (by omega) (by omega) | exact mulL (by omega) (by omega) | exact mulM (by omega) (by omega) | exact divOk (by omega) (by omega) | exact Exists.intro _ (by assumption)) ?_; (conv => whnf))))
    refine w_efld d0 (xf_of (.inl ⟨rfl, .inl rfl⟩)) rfl ?_
    (conv => whnf); (repeat (first | (refine w_need rfl ?_; (conv => whnf)) | (refine w_ix (by assumption) rfl ?_; (conv => whnf)) | (refine w_ix hupd_same rfl ?_; (conv => whnf)) | (refine w_setL (by assumption) rfl ?_; (conv => whnf)) | (refine w_setL hupd_same rfl ?_; (conv => whnf)) | (refine w_eqi ?_; (conv => whnf)) | (refine w_eqs ?_; (conv => whnf)) | (refine w_t (by first | rfl | decide | assumption) ?_; (conv => whnf)) | (refine w_f (by first | rfl | decide | assumption) ?_; (conv => whnf)) | (refine And.intro (by first | omega | rfl | decide | assumption | exact Nat.le_of_ble_eq_true rfl | exact mulR (by omega) (by omega) | exact mulL (by omega) (by omega) | exact mulM (by omega) (by omega) | exact divOk (by omega) (by omega) | exact Exists.intro _ (by assumption)) ?_; (conv => whnf))))
    refine w_efld d1 (xf_of (.inr (.inl ⟨rfl, .inl rfl⟩))) rfl ?_
    (conv => whnf); (repeat (first | (refine w_need rfl ?_; (conv => whnf)) | (refine w_ix (by assumption) rfl ?_; (conv => whnf)) | (refine w_ix hupd_same rfl ?_; (conv => whnf)) | (refine w_setL (by assumption) rfl ?_; (conv => whnf)) | (refine w_setL hupd_same rfl ?_; (conv => whnf)) | (refine w_eqi ?_; (conv => whnf)) | (refine w_eqs ?_; (conv => whnf)) | (refine w_t (by first | rfl | decide | assumption) ?_; (conv => whnf)) | (refine w_f (by first | rfl | decide | assumption) ?_; (conv => whnf)) | (refine And.intro (by first | omega | rfl | decide | assumption | exact Nat.le_of_ble_eq_true rfl | exact mulR (by omega) (by omega) | exact mulL (by omega) (by omega) | exact mulM (by omega) (by omega) | exact divOk (by omega) (by omega) | exact Exists.intro _ (by assumption)) ?_; (conv => whnf))))
    refine w_efld d2 (xf_of (.inr (.inr (.inl ⟨rfl, .inl rfl⟩)))) rfl ?_
    (conv => whnf); (repeat (first | (refine w_need rfl ?_; (conv => whnf)) | (refine w_ix (by assumption) rfl ?_; (conv => whnf)) | (refine w_ix hupd_same rfl ?_; (conv => whnf)) | (refine w_setL (by assumption) rfl ?_; (conv => whnf)) | (refine w_setL hupd_same rfl ?_; (conv => whnf)) | (refine w_eqi ?_; (conv => whnf)) | (refine w_eqs ?_; (conv => whnf)) | (refine w_t (by first | rfl | decide | assumption) ?_; (conv => whnf)) | (refine w_f (by first | rfl | decide | assumption) ?_; (conv => whnf)) | (refine And.intro (by first | omega | rfl | decide | assumption | exact Nat.le_of_ble_eq_true rfl | exact mulR (by omega) (by omega) | exact mulL (by omega) (by omega) | exact mulM (by omega) (by omega) | exact divOk (by omega) (by omega) | exact Exists.intro _ (by assumption)) ?_; (conv => whnf))))
    refine w_efld d4 (xf_of (.inr (.inr (.inr (.inl ⟨rfl, rfl⟩))))) rfl ?_
    (conv => whnf); (repeat (first | (refine w_need rfl ?_; (conv => whnf)) | (refine w_ix (by assumption) rfl ?_; (conv => whnf)) | (refine w_ix hupd_same rfl ?_; (conv => whnf)) | (refine w_setL (by assumption) rfl ?_; (conv => whnf)) | (refine w_setL hupd_same rfl ?_; (conv => whnf)) | (refine w_eqi ?_; (conv => whnf)) | (refine w_eqs ?_; (conv => whnf)) | (refine w_t (by first | rfl | decide | assumption) ?_; (conv => whnf)) | (refine w_f (by first | rfl | decide | assumption) ?_; (conv => whnf)) | (refine And.intro (by first | omega | rfl | decide | assumption | exact Nat.le_of_ble_eq_true rfl | exact mulR (by omega) (by omega) | exact mulL (by omega) (by omega) | exact mulM (by omega) (by omega) | exact divOk (by omega) (by omega) | exact Exists.intro _ (by assumption)) ?_; (conv => whnf))))
    refine w_efld d6 (xf_of (.inr (.inr (.inr (.inr (.inl ⟨rfl, rfl⟩)))))) rfl ?_
    (conv => whnf); (repeat (first | (refine w_need rfl ?_; (conv => whnf)) | (refine w_ix (by assumption) rfl ?_; (conv => whnf)) | (refine w_ix hupd_same rfl ?_; (conv => whnf)) | (refine w_setL (by assumption) rfl ?_; (conv => whnf)) | (refine w_setL hupd_same rfl ?_; (conv => whnf)) | (refine w_eqi ?_; (conv => whnf)) | (refine w_eqs ?_; (conv => whnf)) | (refine w_t (by first | rfl | decide | assumption) ?_; (conv => whnf)) | (refine w_f (by first | rfl | decide | assumption) ?_; (conv => whnf)) | (refine And.intro (by first | omega | rfl | decide | assumption | exact Nat.le_of_ble_eq_true rfl | exact mulR (by omega) (by omega) | exact mulL (by omega) (by omega) | exact mulM (by omega) (by omega) | exact divOk (by omega) (by omega) | exact Exists.intro _ (by assumption)) ?_; (conv => whnf))))
    refine w_efld d7 (xf_of (.inr (.inr (.inr (.inr (.inr ⟨rfl, rfl⟩)))))) rfl ?_
    (conv => whnf); (repeat (first | (refine w_need rfl ?_; (conv => whnf)) | (refine w_ix (by assumption) rfl ?_; (conv => whnf)) | (refine w_ix hupd_same rfl ?_; (conv => whnf)) | (refine w_setL (by assumption) rfl ?_; (conv => whnf)) | (refine w_setL hupd_same rfl ?_; (conv => whnf)) | (refine w_eqi ?_; (conv => whnf)) | (refine w_eqs ?_; (conv => whnf)) | (refine w_t (by first | rfl | decide | assumption) ?_; (conv => whnf)) | (refine w_f (by first | rfl | decide | assumption) ?_; (conv => whnf)) | (refine And.intro (by first | omega | rfl | decide | assumption | exact Nat.le_of_ble_eq_true rfl | exact mulR (by omega) (by omega) | exact mulL (by omega) (by omega) | exact mulM (by omega) (by omega) | exact divOk (by omega) (by omega) | exact Exists.intro _ (by assumption)) ?_; (conv => whnf))))
    intro pf hpf; generalize hh_h21 : hupd _ pf _ = h21; obtain ⟨x21, ef⟩ := newAt hh_h21 hpf
    have q1 := q1.ext x20
    have q2 := q2.ext x20
    have rl1 : Rp (.list [P1, P1, P1, P1, P1, P1]) 4 400 := (Rp.list (.c r1 (.c r1 (.c r1 (.c r1 (.c r1 (.c r1 .n))))))).mono (by decide) (by decide)
    have rl2 : Rp (.list [P2, P2, P2]) 4 400 := (Rp.list (.c r2 (.c r2 (.c r2 .n)))).mono (by decide) (by decide)
    (conv => whnf); (repeat (first | (refine w_need rfl ?_; (conv => whnf)) | (refine w_ix (by assumption) rfl ?_; (conv => whnf)) | (refine w_ix hupd_same rfl ?_; (conv => whnf)) | (refine w_setL (by assumption) rfl ?_; (conv => whnf)) | (refine w_setL hupd_same rfl ?_; (conv => whnf)) | (refine w_eqi ?_; (conv => whnf)) | (refine w_eqs ?_; (conv => whnf)) | (refine w_t (by first | rfl | decide | assumption) ?_; (conv => whnf)) | (refine w_f (by first | rfl | decide | assumption) ?_; (conv => whnf)) | (refine And.intro (by first | omega | rfl | decide | assumption | exact Nat.le_of_ble_eq_true rfl | exact mulR (by omega) (by omega) | exact mulL (by omega) (by omega) | exact mulM (by omega) (by omega) | exact divOk (by omega) (by omega) | exact Exists.intro _ (by assumption)) ?_; (conv => whnf))))
    have q := q1.ext x21
    refine w_repX (.lst ef (.cons q (.cons q (.cons q (.cons q (.cons q (.cons q .nil))))))) rl1 (by decide) (by decide) ?_
    clear q
    (conv => whnf); (repeat (first | (refine w_need rfl ?_; (conv => whnf)) | (refine w_ix (by assumption) rfl ?_; (conv => whnf)) | (refine w_ix hupd_same rfl ?_; (conv => whnf)) | (refine w_setL (by assumption) rfl ?_; (conv => whnf)) | (refine w_setL hupd_same rfl ?_; (conv => whnf)) | (refine w_eqi ?_; (conv => whnf)) | (refine w_eqs ?_; (conv => whnf)) | (refine w_t (by first | rfl | decide | assumption) ?_; (conv => whnf)) | (refine w_f (by first | rfl | decide | assumption) ?_; (conv => whnf)) | (refine And.intro (by first | omega | rfl | decide | assumption | exact Nat.le_of_ble_eq_true rfl | exact mulR (by omega) (by omega) | exact mulL (by omega) (by omega) | exact mulM (by omega) (by omega) | exact divOk (by omega) (by omega) | exact Exists.intro _ (by assumption)) ?_; (conv => whnf))))
    intro pg hpg; generalize hh_h22 : hupd _ pg _ = h22; obtain ⟨x22, eg⟩ := newAt hh_h22 hpg
    (conv => whnf)
    refine ⟨_, eg, by decide, by decide, small2' (Nat.le_of_ble_eq_true rfl), ?_⟩
    intro pm hpm; generalize hh_h23 : hupd _ pm _ = h23; obtain ⟨x23, em⟩ := newAt hh_h23 hpm
    have em : h23 pm = some (.lst [y1, y1, y1, y1, y1, y1]) := em
    have q := q1.ext (x21.trans (x22.trans x23))
    refine w_repX (.lst em (.cons q (.cons q (.cons q (.cons q (.cons q (.cons q .nil))))))) rl1 (by decide) (by decide) ?_
    refine w_eqss ?_
    have x23 := x21.trans (x22.trans x23)
    clear q q1 em eg ef
    have d0 := x23 _ _ d0; have d1 := x23 _ _ d1; have d2 := x23 _ _ d2; have d3 := x23 _ _ d3; have d4 := x23 _ _ d4; have d5 := x23 _ _ d5; have d6 := x23 _ _ d6; have d7 := x23 _ _ d7
    have el := x23 _ _ el
    have q2 := q2.ext x23
    (conv => whnf); (repeat (first | (refine w_need rfl ?_; (conv => whnf)) | (refine w_ix (by assumption) rfl ?_; (conv => whnf)) | (refine w_ix hupd_same rfl ?_; (conv => whnf)) | (refine w_setL (by assumption) rfl ?_; (conv => whnf)) | (refine w_setL hupd_same rfl ?_; (conv => whnf)) | (refine w_eqi ?_; (conv => whnf)) | (refine w_eqs ?_; (conv => whnf)) | (refine w_t (by first | rfl | decide | assumption) ?_; (conv => whnf)) | (refine w_f (by first | rfl | decide | assumption) ?_; (conv => whnf)) | (refine And.intro (by first | omega | rfl | decide | assumption | exact Nat.le_of_ble_eq_true rfl | exact mulR (by omega) (by omega) | exact mulL (by omega) (by omega) | exact mulM (by omega) (by omega) | exact divOk (by omega) (by omega) | exact Exists.intro _ (by assumption)) ?_; (conv => whnf))))
    refine w_efld d0 (xf_of (.inl ⟨rfl, .inr rfl⟩)) rfl ?_
    (conv => whnf); (repeat (first | (refine w_need rfl ?_; (conv => whnf)) | (refine w_ix (by assumption) rfl ?_; (conv => whnf)) | (refine w_ix hupd_same rfl ?_; (conv => whnf)) | (refine w_setL (by assumption) rfl ?_; (conv => whnf)) | (refine w_setL hupd_same rfl ?_; (conv => whnf)) | (refine w_eqi ?_; (conv => whnf)) | (refine w_eqs ?_; (conv => whnf)) | (refine w_t (by first | rfl | decide | assumption) ?_; (conv => whnf)) | (refine w_f (by first | rfl | decide | assumption) ?_; (conv => whnf)) | (refine And.intro (by first | omega | rfl | decide | assumption | exact Nat.le_of_ble_eq_true rfl | exact mulR (by omega) (by omega) | exact mulL (by omega) (by omega) | exact mulM (by omega) (by omega) | exact divOk (by omega) (by omega) | exact Exists.intro _ (by assumption)) ?_; (conv => whnf))))
    refine w_efld d1 (xf_of (.inr (.inl ⟨rfl, .inr rfl⟩))) rfl ?_
    (conv => whnf); (repeat (first | (refine w_need rfl ?_; (conv => whnf)) | (refine w_ix (by assumption) rfl ?_; (conv => whnf)) | (refine w_ix hupd_same rfl ?_; (conv => whnf)) | (refine w_setL (by assumption) rfl ?_; (conv => whnf)) | (refine w_setL hupd_same rfl ?_; (conv => whnf)) | (refine w_eqi ?_; (conv => whnf)) | (refine w_eqs ?_; (conv => whnf)) | (refine w_t (by first | rfl | decide | assumption) ?_; (conv => whnf)) | (refine w_f (by first | rfl | decide | assumption) ?_; (conv => whnf)) | (refine And.intro (by first | omega | rfl | decide | assumption | exact Nat.le_of_ble_eq_true rfl | exact mulR (by omega) (by omega) | exact mulL (by omega) (by omega) | exact mulM (by omega) (by omega) | exact divOk (by omega) (by omega) | exact Exists.intro _ (by assumption)) ?_; (conv => whnf))))
    refine w_efld d2 (xf_of (.inr (.inr (.inl ⟨rfl, .inr rfl⟩)))) rfl ?_
    (conv => whnf); (repeat (first | (refine w_need rfl ?_; (conv => whnf)) | (refine w_ix (by assumption) rfl ?_; (conv => whnf)) | (refine w_ix hupd_same rfl ?_; (conv => whnf)) | (refine w_setL (by assumption) rfl ?_; (conv => whnf)) | (refine w_setL hupd_same rfl ?_; (conv => whnf)) | (refine w_eqi ?_; (conv => whnf)) | (refine w_eqs ?_; (conv => whnf)) | (refine w_t (by first | rfl | decide | assumption) ?_; (conv => whnf)) | (refine w_f (by first | rfl | decide | assumption) ?_; (conv => whnf)) | (refine And.intro (by first | omega | rfl | decide | assumption | exact Nat.le_of_ble_eq_true rfl | exact mulR (by omega) (by omega) | exact mulL (by omega) (by omega) | exact mulM (by omega) (by omega) | exact divOk (by omega) (by omega) | exact Exists.intro _ (by assumption)) ?_; (conv => whnf))))
    intro pf hpf; generalize hh_h24 : hupd _ pf _ = h24; obtain ⟨x24, ef⟩ := newAt hh_h24 hpf
    (conv => whnf); (repeat (first | (refine w_need rfl ?_; (conv => whnf)) | (refine w_ix (by assumption) rfl ?_; (conv => whnf)) | (refine w_ix hupd_same rfl ?_; (conv => whnf)) | (refine w_setL (by assumption) rfl ?_; (conv => whnf)) | (refine w_setL hupd_same rfl ?_; (conv => whnf)) | (refine w_eqi ?_; (conv => whnf)) | (refine w_eqs ?_; (conv => whnf)) | (refine w_t (by first | rfl | decide | assumption) ?_; (conv => whnf)) | (refine w_f (by first | rfl | decide | assumption) ?_; (conv => whnf)) | (refine And.intro (by first | omega | rfl | decide | assumption | exact Nat.le_of_ble_eq_true rfl | exact mulR (by omega) (by omega) | exact mulL (by omega) (by omega) | exact mulM (by omega) (by omega) | exact divOk (by omega) (by omega) | exact Exists.intro _ (by assumption)) ?_; (conv => whnf))))
    have q := q2.ext x24
    refine w_repX (.lst ef (.cons q (.cons q (.cons q .nil)))) rl2 (by decide) (by decide) ?_
    clear q
    (conv => whnf); (repeat (first | (refine w_need rfl ?_; (conv => whnf)) | (refine w_ix (by assumption) rfl ?_; (conv => whnf)) | (refine w_ix hupd_same rfl ?_; (conv => whnf)) | (refine w_setL (by assumption) rfl ?_; (conv => whnf)) | (refine w_setL hupd_same rfl ?_; (conv => whnf)) | (refine w_eqi ?_; (conv => whnf)) | (refine w_eqs ?_; (conv => whnf)) | (refine w_t (by first | rfl | decide | assumption) ?_; (conv => whnf)) | (refine w_f (by first | rfl | decide | assumption) ?_; (conv => whnf)) | (refine And.intro (by first | omega | rfl | decide | assumption | exact Nat.le_of_ble_eq_true rfl | exact mulR (by omega) (by omega) | exact mulL (by omega) (by omega) | exact mulM (by omega) (by omega) | exact divOk (by omega) (by omega) | exact Exists.intro _ (by assumption)) ?_; (conv => whnf))))
    intro pg hpg; generalize hh_h25 : hupd _ pg _ = h25; obtain ⟨x25, eg⟩ := newAt hh_h25 hpg
    (conv => whnf)
    refine ⟨_, eg, by decide, by decide, small2' (Nat.le_of_ble_eq_true rfl), ?_⟩
    intro pm hpm; generalize hh_h26 : hupd _ pm _ = h26; obtain ⟨x26, em⟩ := newAt hh_h26 hpm
    have em : h26 pm = some (.lst [y3, y3, y3]) := em
    have x26 := x24.trans (x25.trans x26)
    have q := q2.ext x26
    refine w_repX (.lst em (.cons q (.cons q (.cons q .nil)))) rl2 (by decide) (by decide) ?_
    refine w_eqss ?_
    clear q q2 em eg ef
    have d0 := x26 _ _ d0; have d1 := x26 _ _ d1; have d2 := x26 _ _ d2; have d3 := x26 _ _ d3; have d4 := x26 _ _ d4; have d5 := x26 _ _ d5; have d6 := x26 _ _ d6; have d7 := x26 _ _ d7
    have el := x26 _ _ el
    have B26 := (B19.ext x23).ext x26
    (conv => whnf); (repeat (first | (refine w_need rfl ?_; (conv => whnf)) | (refine w_ix (by assumption) rfl ?_; (conv => whnf)) | (refine w_ix hupd_same rfl ?_; (conv => whnf)) | (refine w_setL (by assumption) rfl ?_; (conv => whnf)) | (refine w_setL hupd_same rfl ?_; (conv => whnf)) | (refine w_eqi ?_; (conv => whnf)) | (refine w_eqs ?_; (conv => whnf)) | (refine w_t (by first | rfl | decide | assumption) ?_; (conv => whnf)) | (refine w_f (by first | rfl | decide | assumption) ?_; (conv => whnf)) | (refine And.intro (by first | omega | rfl | decide | assumption | exact Nat.le_of_ble_eq_true rfl | exact mulR (by omega) (by omega) | exact mulL (by omega) (by omega) | exact mulM (by omega) (by omega) | exact divOk (by omega) (by omega) | exact Exists.intro _ (by assumption)) ?_; (conv => whnf))))
    refine w_for ?_
    (conv => whnf); (repeat (first | (refine w_need rfl ?_; (conv => whnf)) | (refine w_ix (by assumption) rfl ?_; (conv => whnf)) | (refine w_ix hupd_same rfl ?_; (conv => whnf)) | (refine w_setL (by assumption) rfl ?_; (conv => whnf)) | (refine w_setL hupd_same rfl ?_; (conv => whnf)) | (refine w_eqi ?_; (conv => whnf)) | (refine w_eqs ?_; (conv => whnf)) | (refine w_t (by first | rfl | decide | assumption) ?_; (conv => whnf)) | (refine w_f (by first | rfl | decide | assumption) ?_; (conv => whnf)) | (refine And.intro (by first | omega | rfl | decide | assumption | exact Nat.le_of_ble_eq_true rfl | exact mulR (by omega) (by omega) | exact mulL (by omega) (by omega) | exact mulM (by omega) (by omega) | exact divOk (by omega) (by omega) | exact Exists.intro _ (by assumption)) ?_; (conv => whnf))))
    rw [show isTupK (D.loc pl) = none from rfl, show seqD h26 (D.loc pl) = some _ from by show lstO (h26 pl) = _; rw [el]; rfl]
    dsimp only
    refine w_loop (I := fun _ τ h' => Ext h26 h' ∧ ∃ a5 a8 a9 a10 a11 a12, τ = [some (.fls (ns.map D.int)), some (.loc b), some (.loc p4), some (.int (t : Nat)), some (.loc pl), a5, some y1, some y3, a8, a9, a10, a11, a12]) ?_ ?_ ?_ ?_
    · exact ⟨.refl _, _, _, _, _, _, _, rfl⟩
    · rintro i τ h' - ⟨x, -⟩
      show h' pl = h26 pl
      rw [el, x _ _ el]
    · rintro i d τ h' nx2 hd ⟨x, a5, a8, a9, a10, a11, a12, rfl⟩ hnx2
      obtain ⟨y, ey, rfl⟩ := enumD_get hd
      obtain ⟨c, C, fs, b1, b2, b3, b4, b5, b6, b7, b8, b9, b10, b11, b12, b13, hi, rfl, e, is, du⟩ : ∃ (c C : Addr) (fs : List (Str × D)) (b1 b2 b3 b4 b5 b6 b7 b8 b9 b10 b11 b12 b13 : Bool), i < 8 ∧ y = .loc c ∧ h26 c = some (.exc C fs) ∧ Is13 C b1 b2 b3 b4 b5 b6 b7 b8 b9 b10 b11 b12 b13 ∧ [b1, b2, b3, b4, b5, b6, b7, b8, b9, b10, b11, b12, b13] = dueL i := by
        clear hd hnx2 hnx x
        match i, ey with
        | 0, ey => cases ey; exact ⟨c0, _, _, _, _, _, _, _, _, _, _, _, _, _, _, _, by decide, rfl, d0, is_BadKitchen, rfl⟩
        | 1, ey => cases ey; exact ⟨c1, _, _, _, _, _, _, _, _, _, _, _, _, _, _, _, by decide, rfl, d1, is_BadReading, rfl⟩
        | 2, ey => cases ey; exact ⟨c2, _, _, _, _, _, _, _, _, _, _, _, _, _, _, _, by decide, rfl, d2, is_BadText, rfl⟩
        | 3, ey => cases ey; exact ⟨c3, _, _, _, _, _, _, _, _, _, _, _, _, _, _, _, by decide, rfl, d3, is_Full, rfl⟩
        | 4, ey => cases ey; exact ⟨c4, _, _, _, _, _, _, _, _, _, _, _, _, _, _, _, by decide, rfl, d4, is_NoWorld, rfl⟩
        | 5, ey => cases ey; exact ⟨c5, _, _, _, _, _, _, _, _, _, _, _, _, _, _, _, by decide, rfl, d5, is_NothingToUndo, rfl⟩
        | 6, ey => cases ey; exact ⟨c6, _, _, _, _, _, _, _, _, _, _, _, _, _, _, _, by decide, rfl, d6, is_NoReading, rfl⟩
        | 7, ey => cases ey; exact ⟨c7, _, _, _, _, _, _, _, _, _, _, _, _, _, _, _, by decide, rfl, d7, is_NoWish, rfl⟩
        | n + 8, ey => cases ey
      (conv => whnf); (repeat (first | (refine w_need rfl ?_; (conv => whnf)) | (refine w_ix (by assumption) rfl ?_; (conv => whnf)) | (refine w_ix hupd_same rfl ?_; (conv => whnf)) | (refine w_setL (by assumption) rfl ?_; (conv => whnf)) | (refine w_setL hupd_same rfl ?_; (conv => whnf)) | (refine w_eqi ?_; (conv => whnf)) | (refine w_eqs ?_; (conv => whnf)) | (refine w_t (by first | rfl | decide | assumption) ?_; (conv => whnf)) | (refine w_f (by first | rfl | decide | assumption) ?_; (conv => whnf)) | (refine And.intro (by first | omega | rfl | decide | assumption | exact Nat.le_of_ble_eq_true rfl | exact mulR (by omega) (by omega) | exact mulL (by omega) (by omega) | exact mulM (by omega) (by omega) | exact divOk (by omega) (by omega) | exact Exists.intro _ (by assumption)) ?_; (conv => whnf))))
      refine sp_spot hi (x _ _ e) is du fun h2 x10 x11 x12 x2 => ?_
      exact hnx2 _ _ ⟨x.trans x2, _, _, _, _, _, _, rfl⟩
    · rintro τ h' ⟨x, a5, a8, a9, a10, a11, a12, rfl⟩
      exact hnx _ _ ⟨B26.ext x, _, _, _, _, _, _, _, _, _, _, rfl⟩
  · rintro τ h' ⟨B', a3, a4, a5, a6, a7, a8, a9, a10, a11, a12, rfl⟩
    (conv => whnf)
end DL

set_option Elab.async false
set_option linter.all false
set_option maxRecDepth 100000
set_option maxHeartbeats 4000000
namespace DL
open PySem PySem.Spec PyProof.Rows L2
theorem all_mk1 [I0 : CTab] {l : PySem.W.OpenLaw} {w : World} {K : PySem.W.Frag} {h : Heap} {mg : Str → Option Value} {fa : Addr} (hw : w = CTab.w) (X : K.In h) (G : h.Ns mainGlobals mg) (hfa : mg "law" = some (.ref fa))
    {f_law_bag f_law_draw f_law_pick f_law_odd f_NoWish___init__ f_NoReading___init__ f_NoWorld___init__ f_BadText___init__ f_BadReading___init__ f_BadKitchen___init__ f_law_sorts f_law : Addr}
    {od_law_bag an_law_bag od_law_draw an_law_draw od_law_pick an_law_pick od_law_odd an_law_odd od_NoWish___init__ an_NoWish___init__ od_NoReading___init__ an_NoReading___init__ od_NoWorld___init__ an_NoWorld___init__ od_BadText___init__ an_BadText___init__ od_BadReading___init__ an_BadReading___init__ od_BadKitchen___init__ an_BadKitchen___init__ od_law_sorts an_law_sorts od_law an_law : Option Addr}
    {sl_law_bag sl_law_draw sl_law_pick sl_law_odd sl_NoWish___init__ sl_NoReading___init__ sl_NoWorld___init__ sl_BadText___init__ sl_BadReading___init__ sl_BadKitchen___init__ sl_law_sorts sl_law : Array (Option Value)}
    {oc_law_bag kV_law_bag dc_law_bag pm_law_bag ct_law_bag cd_law_bag oc_law_draw kV_law_draw dc_law_draw pm_law_draw ct_law_draw cd_law_draw oc_law_pick kV_law_pick dc_law_pick pm_law_pick ct_law_pick cd_law_pick oc_law_odd kV_law_odd dc_law_odd pm_law_odd ct_law_odd cd_law_odd oc_NoWish___init__ kV_NoWish___init__ dc_NoWish___init__ pm_NoWish___init__ ct_NoWish___init__ cd_NoWish___init__ oc_NoReading___init__ kV_NoReading___init__ dc_NoReading___init__ pm_NoReading___init__ ct_NoReading___init__ cd_NoReading___init__ oc_NoWorld___init__ kV_NoWorld___init__ dc_NoWorld___init__ pm_NoWorld___init__ ct_NoWorld___init__ cd_NoWorld___init__ oc_BadText___init__ kV_BadText___init__ dc_BadText___init__ pm_BadText___init__ ct_BadText___init__ cd_BadText___init__ oc_BadReading___init__ kV_BadReading___init__ dc_BadReading___init__ pm_BadReading___init__ ct_BadReading___init__ cd_BadReading___init__ oc_BadKitchen___init__ kV_BadKitchen___init__ dc_BadKitchen___init__ pm_BadKitchen___init__ ct_BadKitchen___init__ cd_BadKitchen___init__ oc_law_sorts kV_law_sorts dc_law_sorts pm_law_sorts ct_law_sorts cd_law_sorts oc_law kV_law dc_law pm_law ct_law cd_law : Value}
    {nm_OvenError q_OvenError : Str} {N_OvenError : Addr} {bs_OvenError : List Value} {sn_OvenError : List Str} {sub_OvenError : List Value} {ab_OvenError : Bool} {col_OvenError : Option Bool} {dd_OvenError : Option Addr} {m0_OvenError m1_OvenError m2_OvenError m3_OvenError m5_OvenError : Option Value}
    (a_OvenError : PySem.W.nsIn K mainGlobals "OvenError" = some (some (.ref CTab.OvenError)))
    (xl_OvenError : K.lookup CTab.OvenError = some (excClassObj nm_OvenError q_OvenError CTab.OvenError N_OvenError bs_OvenError [.type "ValueError", .type "Exception", .type "BaseException", .type "object"] true sn_OvenError sub_OvenError ab_OvenError col_OvenError dd_OvenError m0_OvenError m1_OvenError m2_OvenError m3_OvenError m5_OvenError "ValueError.__new__"))
    (xsa_OvenError : PySem.W.findIn K (.ref CTab.OvenError) "__setattr__" = some (some (.builtin "object.__setattr__")))
    (xga_OvenError : PySem.W.findIn K (.ref CTab.OvenError) "__getattribute__" = some (some (.builtin "BaseException.__getattribute__")))
    (xgg_OvenError : PySem.W.findIn K (.ref CTab.OvenError) "__getattr__" = some none)
    (xk_OvenError : PySem.W.keepIn K (.ref CTab.OvenError) = true)
    (xe_OvenError : PySem.W.subIn K (.ref CTab.OvenError) (.type "BaseException") = some true)
    (xt_OvenError : PySem.W.typeIn K (.ref CTab.OvenError) = some (.type "type"))
    (xh_OvenError : PySem.W.hasDictIn K CTab.OvenError = true)
    (xi_OvenError : PySem.W.isClsIn K CTab.OvenError = true)
    (xs_OvenError : PySem.W.subIn K (.ref CTab.OvenError) (.ref CTab.OvenError) = some true)
    {nm_BadKitchen q_BadKitchen : Str} {N_BadKitchen : Addr} {bs_BadKitchen : List Value} {sn_BadKitchen : List Str} {sub_BadKitchen : List Value} {ab_BadKitchen : Bool} {col_BadKitchen : Option Bool} {dd_BadKitchen : Option Addr} {m0_BadKitchen m1_BadKitchen m2_BadKitchen m3_BadKitchen m5_BadKitchen : Option Value}
    {O_BadKitchen_OvenError : Addr}
    (a_BadKitchen : PySem.W.nsIn K mainGlobals "BadKitchen" = some (some (.ref CTab.BadKitchen)))
    (xl_BadKitchen : K.lookup CTab.BadKitchen = some (excClassObj nm_BadKitchen q_BadKitchen CTab.BadKitchen N_BadKitchen bs_BadKitchen [.ref O_BadKitchen_OvenError, .type "ValueError", .type "Exception", .type "BaseException", .type "object"] true sn_BadKitchen sub_BadKitchen ab_BadKitchen col_BadKitchen dd_BadKitchen m0_BadKitchen m1_BadKitchen m2_BadKitchen m3_BadKitchen m5_BadKitchen "ValueError.__new__"))
    (xsa_BadKitchen : PySem.W.findIn K (.ref CTab.BadKitchen) "__setattr__" = some (some (.builtin "object.__setattr__")))
    (xga_BadKitchen : PySem.W.findIn K (.ref CTab.BadKitchen) "__getattribute__" = some (some (.builtin "BaseException.__getattribute__")))
    (xgg_BadKitchen : PySem.W.findIn K (.ref CTab.BadKitchen) "__getattr__" = some none)
    (xno_BadKitchen_number : PySem.W.findIn K (.ref CTab.BadKitchen) "number" = some none)
    (xno_BadKitchen_word : PySem.W.findIn K (.ref CTab.BadKitchen) "word" = some none)
    (xk_BadKitchen : PySem.W.keepIn K (.ref CTab.BadKitchen) = true)
    (xe_BadKitchen : PySem.W.subIn K (.ref CTab.BadKitchen) (.type "BaseException") = some true)
    (xt_BadKitchen : PySem.W.typeIn K (.ref CTab.BadKitchen) = some (.type "type"))
    (xh_BadKitchen : PySem.W.hasDictIn K CTab.BadKitchen = true)
    (xi_BadKitchen : PySem.W.isClsIn K CTab.BadKitchen = true)
    (xs_BadKitchen : PySem.W.subIn K (.ref CTab.BadKitchen) (.ref CTab.BadKitchen) = some true)
    {nm_BadReading q_BadReading : Str} {N_BadReading : Addr} {bs_BadReading : List Value} {sn_BadReading : List Str} {sub_BadReading : List Value} {ab_BadReading : Bool} {col_BadReading : Option Bool} {dd_BadReading : Option Addr} {m0_BadReading m1_BadReading m2_BadReading m3_BadReading m5_BadReading : Option Value}
    {O_BadReading_OvenError : Addr}
    (a_BadReading : PySem.W.nsIn K mainGlobals "BadReading" = some (some (.ref CTab.BadReading)))
    (xl_BadReading : K.lookup CTab.BadReading = some (excClassObj nm_BadReading q_BadReading CTab.BadReading N_BadReading bs_BadReading [.ref O_BadReading_OvenError, .type "ValueError", .type "Exception", .type "BaseException", .type "object"] true sn_BadReading sub_BadReading ab_BadReading col_BadReading dd_BadReading m0_BadReading m1_BadReading m2_BadReading m3_BadReading m5_BadReading "ValueError.__new__"))
    (xsa_BadReading : PySem.W.findIn K (.ref CTab.BadReading) "__setattr__" = some (some (.builtin "object.__setattr__")))
    (xga_BadReading : PySem.W.findIn K (.ref CTab.BadReading) "__getattribute__" = some (some (.builtin "BaseException.__getattribute__")))
    (xgg_BadReading : PySem.W.findIn K (.ref CTab.BadReading) "__getattr__" = some none)
    (xno_BadReading_number : PySem.W.findIn K (.ref CTab.BadReading) "number" = some none)
    (xno_BadReading_word : PySem.W.findIn K (.ref CTab.BadReading) "word" = some none)
    (xk_BadReading : PySem.W.keepIn K (.ref CTab.BadReading) = true)
    (xe_BadReading : PySem.W.subIn K (.ref CTab.BadReading) (.type "BaseException") = some true)
    (xt_BadReading : PySem.W.typeIn K (.ref CTab.BadReading) = some (.type "type"))
    (xh_BadReading : PySem.W.hasDictIn K CTab.BadReading = true)
    (xi_BadReading : PySem.W.isClsIn K CTab.BadReading = true)
    (xs_BadReading : PySem.W.subIn K (.ref CTab.BadReading) (.ref CTab.BadReading) = some true)
    {nm_BadText q_BadText : Str} {N_BadText : Addr} {bs_BadText : List Value} {sn_BadText : List Str} {sub_BadText : List Value} {ab_BadText : Bool} {col_BadText : Option Bool} {dd_BadText : Option Addr} {m0_BadText m1_BadText m2_BadText m3_BadText m5_BadText : Option Value}
    {O_BadText_OvenError : Addr}
    (a_BadText : PySem.W.nsIn K mainGlobals "BadText" = some (some (.ref CTab.BadText)))
    (xl_BadText : K.lookup CTab.BadText = some (excClassObj nm_BadText q_BadText CTab.BadText N_BadText bs_BadText [.ref O_BadText_OvenError, .type "ValueError", .type "Exception", .type "BaseException", .type "object"] true sn_BadText sub_BadText ab_BadText col_BadText dd_BadText m0_BadText m1_BadText m2_BadText m3_BadText m5_BadText "ValueError.__new__"))
    (xsa_BadText : PySem.W.findIn K (.ref CTab.BadText) "__setattr__" = some (some (.builtin "object.__setattr__")))
    (xga_BadText : PySem.W.findIn K (.ref CTab.BadText) "__getattribute__" = some (some (.builtin "BaseException.__getattribute__")))
    (xgg_BadText : PySem.W.findIn K (.ref CTab.BadText) "__getattr__" = some none)
    (xno_BadText_line : PySem.W.findIn K (.ref CTab.BadText) "line" = some none)
    (xno_BadText_number : PySem.W.findIn K (.ref CTab.BadText) "number" = some none)
    (xk_BadText : PySem.W.keepIn K (.ref CTab.BadText) = true)
    (xe_BadText : PySem.W.subIn K (.ref CTab.BadText) (.type "BaseException") = some true)
    (xt_BadText : PySem.W.typeIn K (.ref CTab.BadText) = some (.type "type"))
    (xh_BadText : PySem.W.hasDictIn K CTab.BadText = true)
    (xi_BadText : PySem.W.isClsIn K CTab.BadText = true)
    (xs_BadText : PySem.W.subIn K (.ref CTab.BadText) (.ref CTab.BadText) = some true)
    {nm_Full q_Full : Str} {N_Full : Addr} {bs_Full : List Value} {sn_Full : List Str} {sub_Full : List Value} {ab_Full : Bool} {col_Full : Option Bool} {dd_Full : Option Addr} {m0_Full m1_Full m2_Full m3_Full m5_Full : Option Value}
    {O_Full_OvenError : Addr}
    (a_Full : PySem.W.nsIn K mainGlobals "Full" = some (some (.ref CTab.Full)))
    (xl_Full : K.lookup CTab.Full = some (excClassObj nm_Full q_Full CTab.Full N_Full bs_Full [.ref O_Full_OvenError, .type "ValueError", .type "Exception", .type "BaseException", .type "object"] true sn_Full sub_Full ab_Full col_Full dd_Full m0_Full m1_Full m2_Full m3_Full m5_Full "ValueError.__new__"))
    (x0_Full : PySem.W.excIn K CTab.Full [.type "ValueError", .type "Exception", .type "BaseException", .type "object"] "ValueError.__new__" = true)
    (xsa_Full : PySem.W.findIn K (.ref CTab.Full) "__setattr__" = some (some (.builtin "object.__setattr__")))
    (xga_Full : PySem.W.findIn K (.ref CTab.Full) "__getattribute__" = some (some (.builtin "BaseException.__getattribute__")))
    (xgg_Full : PySem.W.findIn K (.ref CTab.Full) "__getattr__" = some none)
    (xk_Full : PySem.W.keepIn K (.ref CTab.Full) = true)
    (xe_Full : PySem.W.subIn K (.ref CTab.Full) (.type "BaseException") = some true)
    (xt_Full : PySem.W.typeIn K (.ref CTab.Full) = some (.type "type"))
    (xh_Full : PySem.W.hasDictIn K CTab.Full = true)
    (xi_Full : PySem.W.isClsIn K CTab.Full = true)
    (xs_Full : PySem.W.subIn K (.ref CTab.Full) (.ref CTab.Full) = some true)
    {nm_NoWorld q_NoWorld : Str} {N_NoWorld : Addr} {bs_NoWorld : List Value} {sn_NoWorld : List Str} {sub_NoWorld : List Value} {ab_NoWorld : Bool} {col_NoWorld : Option Bool} {dd_NoWorld : Option Addr} {m0_NoWorld m1_NoWorld m2_NoWorld m3_NoWorld m5_NoWorld : Option Value}
    {O_NoWorld_OvenError : Addr}
    (a_NoWorld : PySem.W.nsIn K mainGlobals "NoWorld" = some (some (.ref CTab.NoWorld)))
    (xl_NoWorld : K.lookup CTab.NoWorld = some (excClassObj nm_NoWorld q_NoWorld CTab.NoWorld N_NoWorld bs_NoWorld [.ref O_NoWorld_OvenError, .type "ValueError", .type "Exception", .type "BaseException", .type "object"] true sn_NoWorld sub_NoWorld ab_NoWorld col_NoWorld dd_NoWorld m0_NoWorld m1_NoWorld m2_NoWorld m3_NoWorld m5_NoWorld "ValueError.__new__"))
    (xsa_NoWorld : PySem.W.findIn K (.ref CTab.NoWorld) "__setattr__" = some (some (.builtin "object.__setattr__")))
    (xga_NoWorld : PySem.W.findIn K (.ref CTab.NoWorld) "__getattribute__" = some (some (.builtin "BaseException.__getattribute__")))
    (xgg_NoWorld : PySem.W.findIn K (.ref CTab.NoWorld) "__getattr__" = some none)
    (xno_NoWorld_numbers : PySem.W.findIn K (.ref CTab.NoWorld) "numbers" = some none)
    (xk_NoWorld : PySem.W.keepIn K (.ref CTab.NoWorld) = true)
    (xe_NoWorld : PySem.W.subIn K (.ref CTab.NoWorld) (.type "BaseException") = some true)
    (xt_NoWorld : PySem.W.typeIn K (.ref CTab.NoWorld) = some (.type "type"))
    (xh_NoWorld : PySem.W.hasDictIn K CTab.NoWorld = true)
    (xi_NoWorld : PySem.W.isClsIn K CTab.NoWorld = true)
    (xs_NoWorld : PySem.W.subIn K (.ref CTab.NoWorld) (.ref CTab.NoWorld) = some true)
    {nm_NothingToUndo q_NothingToUndo : Str} {N_NothingToUndo : Addr} {bs_NothingToUndo : List Value} {sn_NothingToUndo : List Str} {sub_NothingToUndo : List Value} {ab_NothingToUndo : Bool} {col_NothingToUndo : Option Bool} {dd_NothingToUndo : Option Addr} {m0_NothingToUndo m1_NothingToUndo m2_NothingToUndo m3_NothingToUndo m5_NothingToUndo : Option Value}
    {O_NothingToUndo_OvenError : Addr}
    (a_NothingToUndo : PySem.W.nsIn K mainGlobals "NothingToUndo" = some (some (.ref CTab.NothingToUndo)))
    (xl_NothingToUndo : K.lookup CTab.NothingToUndo = some (excClassObj nm_NothingToUndo q_NothingToUndo CTab.NothingToUndo N_NothingToUndo bs_NothingToUndo [.ref O_NothingToUndo_OvenError, .type "ValueError", .type "Exception", .type "BaseException", .type "object"] true sn_NothingToUndo sub_NothingToUndo ab_NothingToUndo col_NothingToUndo dd_NothingToUndo m0_NothingToUndo m1_NothingToUndo m2_NothingToUndo m3_NothingToUndo m5_NothingToUndo "ValueError.__new__"))
    (x0_NothingToUndo : PySem.W.excIn K CTab.NothingToUndo [.type "ValueError", .type "Exception", .type "BaseException", .type "object"] "ValueError.__new__" = true)
    (xsa_NothingToUndo : PySem.W.findIn K (.ref CTab.NothingToUndo) "__setattr__" = some (some (.builtin "object.__setattr__")))
    (xga_NothingToUndo : PySem.W.findIn K (.ref CTab.NothingToUndo) "__getattribute__" = some (some (.builtin "BaseException.__getattribute__")))
    (xgg_NothingToUndo : PySem.W.findIn K (.ref CTab.NothingToUndo) "__getattr__" = some none)
    (xk_NothingToUndo : PySem.W.keepIn K (.ref CTab.NothingToUndo) = true)
    (xe_NothingToUndo : PySem.W.subIn K (.ref CTab.NothingToUndo) (.type "BaseException") = some true)
    (xt_NothingToUndo : PySem.W.typeIn K (.ref CTab.NothingToUndo) = some (.type "type"))
    (xh_NothingToUndo : PySem.W.hasDictIn K CTab.NothingToUndo = true)
    (xi_NothingToUndo : PySem.W.isClsIn K CTab.NothingToUndo = true)
    (xs_NothingToUndo : PySem.W.subIn K (.ref CTab.NothingToUndo) (.ref CTab.NothingToUndo) = some true)
    {nm_NoReading q_NoReading : Str} {N_NoReading : Addr} {bs_NoReading : List Value} {sn_NoReading : List Str} {sub_NoReading : List Value} {ab_NoReading : Bool} {col_NoReading : Option Bool} {dd_NoReading : Option Addr} {m0_NoReading m1_NoReading m2_NoReading m3_NoReading m5_NoReading : Option Value}
    (a_NoReading : PySem.W.nsIn K mainGlobals "NoReading" = some (some (.ref CTab.NoReading)))
    (xl_NoReading : K.lookup CTab.NoReading = some (excClassObj nm_NoReading q_NoReading CTab.NoReading N_NoReading bs_NoReading [.type "LookupError", .type "Exception", .type "BaseException", .type "object"] true sn_NoReading sub_NoReading ab_NoReading col_NoReading dd_NoReading m0_NoReading m1_NoReading m2_NoReading m3_NoReading m5_NoReading "LookupError.__new__"))
    (xsa_NoReading : PySem.W.findIn K (.ref CTab.NoReading) "__setattr__" = some (some (.builtin "object.__setattr__")))
    (xga_NoReading : PySem.W.findIn K (.ref CTab.NoReading) "__getattribute__" = some (some (.builtin "BaseException.__getattribute__")))
    (xgg_NoReading : PySem.W.findIn K (.ref CTab.NoReading) "__getattr__" = some none)
    (xno_NoReading_number : PySem.W.findIn K (.ref CTab.NoReading) "number" = some none)
    (xk_NoReading : PySem.W.keepIn K (.ref CTab.NoReading) = true)
    (xe_NoReading : PySem.W.subIn K (.ref CTab.NoReading) (.type "BaseException") = some true)
    (xt_NoReading : PySem.W.typeIn K (.ref CTab.NoReading) = some (.type "type"))
    (xh_NoReading : PySem.W.hasDictIn K CTab.NoReading = true)
    (xi_NoReading : PySem.W.isClsIn K CTab.NoReading = true)
    (xs_NoReading : PySem.W.subIn K (.ref CTab.NoReading) (.ref CTab.NoReading) = some true)
    {nm_NoWish q_NoWish : Str} {N_NoWish : Addr} {bs_NoWish : List Value} {sn_NoWish : List Str} {sub_NoWish : List Value} {ab_NoWish : Bool} {col_NoWish : Option Bool} {dd_NoWish : Option Addr} {m0_NoWish m1_NoWish m2_NoWish m3_NoWish m5_NoWish : Option Value}
    (a_NoWish : PySem.W.nsIn K mainGlobals "NoWish" = some (some (.ref CTab.NoWish)))
    (xl_NoWish : K.lookup CTab.NoWish = some (excClassObj nm_NoWish q_NoWish CTab.NoWish N_NoWish bs_NoWish [.type "LookupError", .type "Exception", .type "BaseException", .type "object"] true sn_NoWish sub_NoWish ab_NoWish col_NoWish dd_NoWish m0_NoWish m1_NoWish m2_NoWish m3_NoWish m5_NoWish "LookupError.__new__"))
    (xsa_NoWish : PySem.W.findIn K (.ref CTab.NoWish) "__setattr__" = some (some (.builtin "object.__setattr__")))
    (xga_NoWish : PySem.W.findIn K (.ref CTab.NoWish) "__getattribute__" = some (some (.builtin "BaseException.__getattribute__")))
    (xgg_NoWish : PySem.W.findIn K (.ref CTab.NoWish) "__getattr__" = some none)
    (xno_NoWish_number : PySem.W.findIn K (.ref CTab.NoWish) "number" = some none)
    (xk_NoWish : PySem.W.keepIn K (.ref CTab.NoWish) = true)
    (xe_NoWish : PySem.W.subIn K (.ref CTab.NoWish) (.type "BaseException") = some true)
    (xt_NoWish : PySem.W.typeIn K (.ref CTab.NoWish) = some (.type "type"))
    (xh_NoWish : PySem.W.hasDictIn K CTab.NoWish = true)
    (xi_NoWish : PySem.W.isClsIn K CTab.NoWish = true)
    (xs_NoWish : PySem.W.subIn K (.ref CTab.NoWish) (.ref CTab.NoWish) = some true)
    (xhn : PySem.W.specialIn K (.builtin "object.__class__") "__get__" = some (some (.builtin "getset_descriptor.__get__")))
    (xhk : PySem.W.takesIn K (.builtin "object.__class__") = some true)
    (xha_BadKitchen : PySem.W.findIn K (.ref CTab.BadKitchen) "__class__" = some (some (.builtin "object.__class__")))
    (xhm_BadKitchen : PySem.W.mroIn K CTab.BadKitchen (.type "object") = some true)
    (xq_BadKitchen_BadText : PySem.W.kitOne K (.ref CTab.BadKitchen) (.ref CTab.BadText) = some false)
    (xq_BadKitchen_BadReading : PySem.W.kitOne K (.ref CTab.BadKitchen) (.ref CTab.BadReading) = some false)
    (xq_BadKitchen_BadKitchen : PySem.W.kitOne K (.ref CTab.BadKitchen) (.ref CTab.BadKitchen) = some true)
    (xq_BadKitchen_NothingToUndo : PySem.W.kitOne K (.ref CTab.BadKitchen) (.ref CTab.NothingToUndo) = some false)
    (xq_BadKitchen_NoWorld : PySem.W.kitOne K (.ref CTab.BadKitchen) (.ref CTab.NoWorld) = some false)
    (xq_BadKitchen_Full : PySem.W.kitOne K (.ref CTab.BadKitchen) (.ref CTab.Full) = some false)
    (xq_BadKitchen_OvenError : PySem.W.kitOne K (.ref CTab.BadKitchen) (.ref CTab.OvenError) = some true)
    (xq_BadKitchen_NoWish : PySem.W.kitOne K (.ref CTab.BadKitchen) (.ref CTab.NoWish) = some false)
    (xq_BadKitchen_NoReading : PySem.W.kitOne K (.ref CTab.BadKitchen) (.ref CTab.NoReading) = some false)
    (xq_BadKitchen_KeyError : PySem.W.kitOne K (.ref CTab.BadKitchen) (.type "KeyError") = some false)
    (xq_BadKitchen_LookupError : PySem.W.kitOne K (.ref CTab.BadKitchen) (.type "LookupError") = some false)
    (xq_BadKitchen_ValueError : PySem.W.kitOne K (.ref CTab.BadKitchen) (.type "ValueError") = some true)
    (xq_BadKitchen_IndexError : PySem.W.kitOne K (.ref CTab.BadKitchen) (.type "IndexError") = some false)
    (xha_BadReading : PySem.W.findIn K (.ref CTab.BadReading) "__class__" = some (some (.builtin "object.__class__")))
    (xhm_BadReading : PySem.W.mroIn K CTab.BadReading (.type "object") = some true)
    (xq_BadReading_BadText : PySem.W.kitOne K (.ref CTab.BadReading) (.ref CTab.BadText) = some false)
    (xq_BadReading_BadReading : PySem.W.kitOne K (.ref CTab.BadReading) (.ref CTab.BadReading) = some true)
    (xq_BadReading_BadKitchen : PySem.W.kitOne K (.ref CTab.BadReading) (.ref CTab.BadKitchen) = some false)
    (xq_BadReading_NothingToUndo : PySem.W.kitOne K (.ref CTab.BadReading) (.ref CTab.NothingToUndo) = some false)
    (xq_BadReading_NoWorld : PySem.W.kitOne K (.ref CTab.BadReading) (.ref CTab.NoWorld) = some false)
    (xq_BadReading_Full : PySem.W.kitOne K (.ref CTab.BadReading) (.ref CTab.Full) = some false)
    (xq_BadReading_OvenError : PySem.W.kitOne K (.ref CTab.BadReading) (.ref CTab.OvenError) = some true)
    (xq_BadReading_NoWish : PySem.W.kitOne K (.ref CTab.BadReading) (.ref CTab.NoWish) = some false)
    (xq_BadReading_NoReading : PySem.W.kitOne K (.ref CTab.BadReading) (.ref CTab.NoReading) = some false)
    (xq_BadReading_KeyError : PySem.W.kitOne K (.ref CTab.BadReading) (.type "KeyError") = some false)
    (xq_BadReading_LookupError : PySem.W.kitOne K (.ref CTab.BadReading) (.type "LookupError") = some false)
    (xq_BadReading_ValueError : PySem.W.kitOne K (.ref CTab.BadReading) (.type "ValueError") = some true)
    (xq_BadReading_IndexError : PySem.W.kitOne K (.ref CTab.BadReading) (.type "IndexError") = some false)
    (xha_BadText : PySem.W.findIn K (.ref CTab.BadText) "__class__" = some (some (.builtin "object.__class__")))
    (xhm_BadText : PySem.W.mroIn K CTab.BadText (.type "object") = some true)
    (xq_BadText_BadText : PySem.W.kitOne K (.ref CTab.BadText) (.ref CTab.BadText) = some true)
    (xq_BadText_BadReading : PySem.W.kitOne K (.ref CTab.BadText) (.ref CTab.BadReading) = some false)
    (xq_BadText_BadKitchen : PySem.W.kitOne K (.ref CTab.BadText) (.ref CTab.BadKitchen) = some false)
    (xq_BadText_NothingToUndo : PySem.W.kitOne K (.ref CTab.BadText) (.ref CTab.NothingToUndo) = some false)
    (xq_BadText_NoWorld : PySem.W.kitOne K (.ref CTab.BadText) (.ref CTab.NoWorld) = some false)
    (xq_BadText_Full : PySem.W.kitOne K (.ref CTab.BadText) (.ref CTab.Full) = some false)
    (xq_BadText_OvenError : PySem.W.kitOne K (.ref CTab.BadText) (.ref CTab.OvenError) = some true)
    (xq_BadText_NoWish : PySem.W.kitOne K (.ref CTab.BadText) (.ref CTab.NoWish) = some false)
    (xq_BadText_NoReading : PySem.W.kitOne K (.ref CTab.BadText) (.ref CTab.NoReading) = some false)
    (xq_BadText_KeyError : PySem.W.kitOne K (.ref CTab.BadText) (.type "KeyError") = some false)
    (xq_BadText_LookupError : PySem.W.kitOne K (.ref CTab.BadText) (.type "LookupError") = some false)
    (xq_BadText_ValueError : PySem.W.kitOne K (.ref CTab.BadText) (.type "ValueError") = some true)
    (xq_BadText_IndexError : PySem.W.kitOne K (.ref CTab.BadText) (.type "IndexError") = some false)
    (xha_Full : PySem.W.findIn K (.ref CTab.Full) "__class__" = some (some (.builtin "object.__class__")))
    (xhm_Full : PySem.W.mroIn K CTab.Full (.type "object") = some true)
    (xq_Full_BadText : PySem.W.kitOne K (.ref CTab.Full) (.ref CTab.BadText) = some false)
    (xq_Full_BadReading : PySem.W.kitOne K (.ref CTab.Full) (.ref CTab.BadReading) = some false)
    (xq_Full_BadKitchen : PySem.W.kitOne K (.ref CTab.Full) (.ref CTab.BadKitchen) = some false)
    (xq_Full_NothingToUndo : PySem.W.kitOne K (.ref CTab.Full) (.ref CTab.NothingToUndo) = some false)
    (xq_Full_NoWorld : PySem.W.kitOne K (.ref CTab.Full) (.ref CTab.NoWorld) = some false)
    (xq_Full_Full : PySem.W.kitOne K (.ref CTab.Full) (.ref CTab.Full) = some true)
    (xq_Full_OvenError : PySem.W.kitOne K (.ref CTab.Full) (.ref CTab.OvenError) = some true)
    (xq_Full_NoWish : PySem.W.kitOne K (.ref CTab.Full) (.ref CTab.NoWish) = some false)
    (xq_Full_NoReading : PySem.W.kitOne K (.ref CTab.Full) (.ref CTab.NoReading) = some false)
    (xq_Full_KeyError : PySem.W.kitOne K (.ref CTab.Full) (.type "KeyError") = some false)
    (xq_Full_LookupError : PySem.W.kitOne K (.ref CTab.Full) (.type "LookupError") = some false)
    (xq_Full_ValueError : PySem.W.kitOne K (.ref CTab.Full) (.type "ValueError") = some true)
    (xq_Full_IndexError : PySem.W.kitOne K (.ref CTab.Full) (.type "IndexError") = some false)
    (xha_NoWorld : PySem.W.findIn K (.ref CTab.NoWorld) "__class__" = some (some (.builtin "object.__class__")))
    (xhm_NoWorld : PySem.W.mroIn K CTab.NoWorld (.type "object") = some true)
    (xq_NoWorld_BadText : PySem.W.kitOne K (.ref CTab.NoWorld) (.ref CTab.BadText) = some false)
    (xq_NoWorld_BadReading : PySem.W.kitOne K (.ref CTab.NoWorld) (.ref CTab.BadReading) = some false)
    (xq_NoWorld_BadKitchen : PySem.W.kitOne K (.ref CTab.NoWorld) (.ref CTab.BadKitchen) = some false)
    (xq_NoWorld_NothingToUndo : PySem.W.kitOne K (.ref CTab.NoWorld) (.ref CTab.NothingToUndo) = some false)
    (xq_NoWorld_NoWorld : PySem.W.kitOne K (.ref CTab.NoWorld) (.ref CTab.NoWorld) = some true)
    (xq_NoWorld_Full : PySem.W.kitOne K (.ref CTab.NoWorld) (.ref CTab.Full) = some false)
    (xq_NoWorld_OvenError : PySem.W.kitOne K (.ref CTab.NoWorld) (.ref CTab.OvenError) = some true)
    (xq_NoWorld_NoWish : PySem.W.kitOne K (.ref CTab.NoWorld) (.ref CTab.NoWish) = some false)
    (xq_NoWorld_NoReading : PySem.W.kitOne K (.ref CTab.NoWorld) (.ref CTab.NoReading) = some false)
    (xq_NoWorld_KeyError : PySem.W.kitOne K (.ref CTab.NoWorld) (.type "KeyError") = some false)
    (xq_NoWorld_LookupError : PySem.W.kitOne K (.ref CTab.NoWorld) (.type "LookupError") = some false)
    (xq_NoWorld_ValueError : PySem.W.kitOne K (.ref CTab.NoWorld) (.type "ValueError") = some true)
    (xq_NoWorld_IndexError : PySem.W.kitOne K (.ref CTab.NoWorld) (.type "IndexError") = some false)
    (xha_NothingToUndo : PySem.W.findIn K (.ref CTab.NothingToUndo) "__class__" = some (some (.builtin "object.__class__")))
    (xhm_NothingToUndo : PySem.W.mroIn K CTab.NothingToUndo (.type "object") = some true)
    (xq_NothingToUndo_BadText : PySem.W.kitOne K (.ref CTab.NothingToUndo) (.ref CTab.BadText) = some false)
    (xq_NothingToUndo_BadReading : PySem.W.kitOne K (.ref CTab.NothingToUndo) (.ref CTab.BadReading) = some false)
    (xq_NothingToUndo_BadKitchen : PySem.W.kitOne K (.ref CTab.NothingToUndo) (.ref CTab.BadKitchen) = some false)
    (xq_NothingToUndo_NothingToUndo : PySem.W.kitOne K (.ref CTab.NothingToUndo) (.ref CTab.NothingToUndo) = some true)
    (xq_NothingToUndo_NoWorld : PySem.W.kitOne K (.ref CTab.NothingToUndo) (.ref CTab.NoWorld) = some false)
    (xq_NothingToUndo_Full : PySem.W.kitOne K (.ref CTab.NothingToUndo) (.ref CTab.Full) = some false)
    (xq_NothingToUndo_OvenError : PySem.W.kitOne K (.ref CTab.NothingToUndo) (.ref CTab.OvenError) = some true)
    (xq_NothingToUndo_NoWish : PySem.W.kitOne K (.ref CTab.NothingToUndo) (.ref CTab.NoWish) = some false)
    (xq_NothingToUndo_NoReading : PySem.W.kitOne K (.ref CTab.NothingToUndo) (.ref CTab.NoReading) = some false)
    (xq_NothingToUndo_KeyError : PySem.W.kitOne K (.ref CTab.NothingToUndo) (.type "KeyError") = some false)
    (xq_NothingToUndo_LookupError : PySem.W.kitOne K (.ref CTab.NothingToUndo) (.type "LookupError") = some false)
    (xq_NothingToUndo_ValueError : PySem.W.kitOne K (.ref CTab.NothingToUndo) (.type "ValueError") = some true)
    (xq_NothingToUndo_IndexError : PySem.W.kitOne K (.ref CTab.NothingToUndo) (.type "IndexError") = some false)
    (xha_NoReading : PySem.W.findIn K (.ref CTab.NoReading) "__class__" = some (some (.builtin "object.__class__")))
    (xhm_NoReading : PySem.W.mroIn K CTab.NoReading (.type "object") = some true)
    (xq_NoReading_BadText : PySem.W.kitOne K (.ref CTab.NoReading) (.ref CTab.BadText) = some false)
    (xq_NoReading_BadReading : PySem.W.kitOne K (.ref CTab.NoReading) (.ref CTab.BadReading) = some false)
    (xq_NoReading_BadKitchen : PySem.W.kitOne K (.ref CTab.NoReading) (.ref CTab.BadKitchen) = some false)
    (xq_NoReading_NothingToUndo : PySem.W.kitOne K (.ref CTab.NoReading) (.ref CTab.NothingToUndo) = some false)
    (xq_NoReading_NoWorld : PySem.W.kitOne K (.ref CTab.NoReading) (.ref CTab.NoWorld) = some false)
    (xq_NoReading_Full : PySem.W.kitOne K (.ref CTab.NoReading) (.ref CTab.Full) = some false)
    (xq_NoReading_OvenError : PySem.W.kitOne K (.ref CTab.NoReading) (.ref CTab.OvenError) = some false)
    (xq_NoReading_NoWish : PySem.W.kitOne K (.ref CTab.NoReading) (.ref CTab.NoWish) = some false)
    (xq_NoReading_NoReading : PySem.W.kitOne K (.ref CTab.NoReading) (.ref CTab.NoReading) = some true)
    (xq_NoReading_KeyError : PySem.W.kitOne K (.ref CTab.NoReading) (.type "KeyError") = some false)
    (xq_NoReading_LookupError : PySem.W.kitOne K (.ref CTab.NoReading) (.type "LookupError") = some true)
    (xq_NoReading_ValueError : PySem.W.kitOne K (.ref CTab.NoReading) (.type "ValueError") = some false)
    (xq_NoReading_IndexError : PySem.W.kitOne K (.ref CTab.NoReading) (.type "IndexError") = some false)
    (xha_NoWish : PySem.W.findIn K (.ref CTab.NoWish) "__class__" = some (some (.builtin "object.__class__")))
    (xhm_NoWish : PySem.W.mroIn K CTab.NoWish (.type "object") = some true)
    (xq_NoWish_BadText : PySem.W.kitOne K (.ref CTab.NoWish) (.ref CTab.BadText) = some false)
    (xq_NoWish_BadReading : PySem.W.kitOne K (.ref CTab.NoWish) (.ref CTab.BadReading) = some false)
    (xq_NoWish_BadKitchen : PySem.W.kitOne K (.ref CTab.NoWish) (.ref CTab.BadKitchen) = some false)
    (xq_NoWish_NothingToUndo : PySem.W.kitOne K (.ref CTab.NoWish) (.ref CTab.NothingToUndo) = some false)
    (xq_NoWish_NoWorld : PySem.W.kitOne K (.ref CTab.NoWish) (.ref CTab.NoWorld) = some false)
    (xq_NoWish_Full : PySem.W.kitOne K (.ref CTab.NoWish) (.ref CTab.Full) = some false)
    (xq_NoWish_OvenError : PySem.W.kitOne K (.ref CTab.NoWish) (.ref CTab.OvenError) = some false)
    (xq_NoWish_NoWish : PySem.W.kitOne K (.ref CTab.NoWish) (.ref CTab.NoWish) = some true)
    (xq_NoWish_NoReading : PySem.W.kitOne K (.ref CTab.NoWish) (.ref CTab.NoReading) = some false)
    (xq_NoWish_KeyError : PySem.W.kitOne K (.ref CTab.NoWish) (.type "KeyError") = some false)
    (xq_NoWish_LookupError : PySem.W.kitOne K (.ref CTab.NoWish) (.type "LookupError") = some true)
    (xq_NoWish_ValueError : PySem.W.kitOne K (.ref CTab.NoWish) (.type "ValueError") = some false)
    (xq_NoWish_IndexError : PySem.W.kitOne K (.ref CTab.NoWish) (.type "IndexError") = some false)
    (a_law_bag : PySem.W.nsIn K mainGlobals "_law_bag" = some (some (.ref f_law_bag)))
    (l_law_bag : K.lookup f_law_bag = some ⟨oc_law_bag, od_law_bag, .func (PySem.W.fnOf "_law_bag" "_law_bag" (defArgs s_law_bag) (defBody s_law_bag) (defScope s_law_bag) .none kV_law_bag dc_law_bag pm_law_bag an_law_bag cd_law_bag ct_law_bag), sl_law_bag⟩)
    (c_law_bag : PySem.W.codeIn K cd_law_bag "_law_bag" = true)
    (k_law_bag : PySem.W.keepIn K (.ref f_law_bag) = true)
    (a_law_draw : PySem.W.nsIn K mainGlobals "_law_draw" = some (some (.ref f_law_draw)))
    (l_law_draw : K.lookup f_law_draw = some ⟨oc_law_draw, od_law_draw, .func (PySem.W.fnOf "_law_draw" "_law_draw" (defArgs s_law_draw) (defBody s_law_draw) (defScope s_law_draw) .none kV_law_draw dc_law_draw pm_law_draw an_law_draw cd_law_draw ct_law_draw), sl_law_draw⟩)
    (c_law_draw : PySem.W.codeIn K cd_law_draw "_law_draw" = true)
    (k_law_draw : PySem.W.keepIn K (.ref f_law_draw) = true)
    (a_law_pick : PySem.W.nsIn K mainGlobals "_law_pick" = some (some (.ref f_law_pick)))
    (l_law_pick : K.lookup f_law_pick = some ⟨oc_law_pick, od_law_pick, .func (PySem.W.fnOf "_law_pick" "_law_pick" (defArgs s_law_pick) (defBody s_law_pick) (defScope s_law_pick) .none kV_law_pick dc_law_pick pm_law_pick an_law_pick cd_law_pick ct_law_pick), sl_law_pick⟩)
    (c_law_pick : PySem.W.codeIn K cd_law_pick "_law_pick" = true)
    (k_law_pick : PySem.W.keepIn K (.ref f_law_pick) = true)
    (a_law_odd : PySem.W.nsIn K mainGlobals "_law_odd" = some (some (.ref f_law_odd)))
    (l_law_odd : K.lookup f_law_odd = some ⟨oc_law_odd, od_law_odd, .func (PySem.W.fnOf "_law_odd" "_law_odd" (defArgs s_law_odd) (defBody s_law_odd) (defScope s_law_odd) .none kV_law_odd dc_law_odd pm_law_odd an_law_odd cd_law_odd ct_law_odd), sl_law_odd⟩)
    (c_law_odd : PySem.W.codeIn K cd_law_odd "_law_odd" = true)
    (k_law_odd : PySem.W.keepIn K (.ref f_law_odd) = true)
    (a_NoWish___init__ : PySem.W.findIn K (.ref CTab.NoWish) "__init__" = some (some (.ref f_NoWish___init__)))
    (i_NoWish___init__ : PySem.W.isFn K (.ref f_NoWish___init__) = true)
    (l_NoWish___init__ : K.lookup f_NoWish___init__ = some ⟨oc_NoWish___init__, od_NoWish___init__, .func (PySem.W.fnOf "__init__" "NoWish.__init__" (defArgs s_NoWish___init__) (defBody s_NoWish___init__) (defScope s_NoWish___init__) .none kV_NoWish___init__ dc_NoWish___init__ pm_NoWish___init__ an_NoWish___init__ cd_NoWish___init__ ct_NoWish___init__), sl_NoWish___init__⟩)
    (c_NoWish___init__ : PySem.W.codeIn K cd_NoWish___init__ "NoWish.__init__" = true)
    (k_NoWish___init__ : PySem.W.keepIn K (.ref f_NoWish___init__) = true)
    (a_NoReading___init__ : PySem.W.findIn K (.ref CTab.NoReading) "__init__" = some (some (.ref f_NoReading___init__)))
    (i_NoReading___init__ : PySem.W.isFn K (.ref f_NoReading___init__) = true)
    (l_NoReading___init__ : K.lookup f_NoReading___init__ = some ⟨oc_NoReading___init__, od_NoReading___init__, .func (PySem.W.fnOf "__init__" "NoReading.__init__" (defArgs s_NoReading___init__) (defBody s_NoReading___init__) (defScope s_NoReading___init__) .none kV_NoReading___init__ dc_NoReading___init__ pm_NoReading___init__ an_NoReading___init__ cd_NoReading___init__ ct_NoReading___init__), sl_NoReading___init__⟩)
    (c_NoReading___init__ : PySem.W.codeIn K cd_NoReading___init__ "NoReading.__init__" = true)
    (k_NoReading___init__ : PySem.W.keepIn K (.ref f_NoReading___init__) = true)
    (a_NoWorld___init__ : PySem.W.findIn K (.ref CTab.NoWorld) "__init__" = some (some (.ref f_NoWorld___init__)))
    (i_NoWorld___init__ : PySem.W.isFn K (.ref f_NoWorld___init__) = true)
    (l_NoWorld___init__ : K.lookup f_NoWorld___init__ = some ⟨oc_NoWorld___init__, od_NoWorld___init__, .func (PySem.W.fnOf "__init__" "NoWorld.__init__" (defArgs s_NoWorld___init__) (defBody s_NoWorld___init__) (defScope s_NoWorld___init__) .none kV_NoWorld___init__ dc_NoWorld___init__ pm_NoWorld___init__ an_NoWorld___init__ cd_NoWorld___init__ ct_NoWorld___init__), sl_NoWorld___init__⟩)
    (c_NoWorld___init__ : PySem.W.codeIn K cd_NoWorld___init__ "NoWorld.__init__" = true)
    (k_NoWorld___init__ : PySem.W.keepIn K (.ref f_NoWorld___init__) = true)
    (a_BadText___init__ : PySem.W.findIn K (.ref CTab.BadText) "__init__" = some (some (.ref f_BadText___init__)))
    (i_BadText___init__ : PySem.W.isFn K (.ref f_BadText___init__) = true)
    (l_BadText___init__ : K.lookup f_BadText___init__ = some ⟨oc_BadText___init__, od_BadText___init__, .func (PySem.W.fnOf "__init__" "BadText.__init__" (defArgs s_BadText___init__) (defBody s_BadText___init__) (defScope s_BadText___init__) .none kV_BadText___init__ dc_BadText___init__ pm_BadText___init__ an_BadText___init__ cd_BadText___init__ ct_BadText___init__), sl_BadText___init__⟩)
    (c_BadText___init__ : PySem.W.codeIn K cd_BadText___init__ "BadText.__init__" = true)
    (k_BadText___init__ : PySem.W.keepIn K (.ref f_BadText___init__) = true)
    (a_BadReading___init__ : PySem.W.findIn K (.ref CTab.BadReading) "__init__" = some (some (.ref f_BadReading___init__)))
    (i_BadReading___init__ : PySem.W.isFn K (.ref f_BadReading___init__) = true)
    (l_BadReading___init__ : K.lookup f_BadReading___init__ = some ⟨oc_BadReading___init__, od_BadReading___init__, .func (PySem.W.fnOf "__init__" "BadReading.__init__" (defArgs s_BadReading___init__) (defBody s_BadReading___init__) (defScope s_BadReading___init__) .none kV_BadReading___init__ dc_BadReading___init__ pm_BadReading___init__ an_BadReading___init__ cd_BadReading___init__ ct_BadReading___init__), sl_BadReading___init__⟩)
    (c_BadReading___init__ : PySem.W.codeIn K cd_BadReading___init__ "BadReading.__init__" = true)
    (k_BadReading___init__ : PySem.W.keepIn K (.ref f_BadReading___init__) = true)
    (a_BadKitchen___init__ : PySem.W.findIn K (.ref CTab.BadKitchen) "__init__" = some (some (.ref f_BadKitchen___init__)))
    (i_BadKitchen___init__ : PySem.W.isFn K (.ref f_BadKitchen___init__) = true)
    (l_BadKitchen___init__ : K.lookup f_BadKitchen___init__ = some ⟨oc_BadKitchen___init__, od_BadKitchen___init__, .func (PySem.W.fnOf "__init__" "BadKitchen.__init__" (defArgs s_BadKitchen___init__) (defBody s_BadKitchen___init__) (defScope s_BadKitchen___init__) .none kV_BadKitchen___init__ dc_BadKitchen___init__ pm_BadKitchen___init__ an_BadKitchen___init__ cd_BadKitchen___init__ ct_BadKitchen___init__), sl_BadKitchen___init__⟩)
    (c_BadKitchen___init__ : PySem.W.codeIn K cd_BadKitchen___init__ "BadKitchen.__init__" = true)
    (k_BadKitchen___init__ : PySem.W.keepIn K (.ref f_BadKitchen___init__) = true)
    (a_law_sorts : PySem.W.nsIn K mainGlobals "_law_sorts" = some (some (.ref f_law_sorts)))
    (l_law_sorts : K.lookup f_law_sorts = some ⟨oc_law_sorts, od_law_sorts, .func (PySem.W.fnOf "_law_sorts" "_law_sorts" (defArgs s_law_sorts) (defBody s_law_sorts) (defScope s_law_sorts) .none kV_law_sorts dc_law_sorts pm_law_sorts an_law_sorts cd_law_sorts ct_law_sorts), sl_law_sorts⟩)
    (c_law_sorts : PySem.W.codeIn K cd_law_sorts "_law_sorts" = true)
    (k_law_sorts : PySem.W.keepIn K (.ref f_law_sorts) = true)
    (a_law : PySem.W.nsIn K mainGlobals "law" = some (some (.ref f_law)))
    (l_law : K.lookup f_law = some ⟨oc_law, od_law, .func (PySem.W.fnOf "law" "law" (defArgs s_law) (defBody s_law) (defScope s_law) .none kV_law dc_law pm_law an_law cd_law ct_law), sl_law⟩)
    (c_law : PySem.W.codeIn K cd_law "law" = true)
    (k_law : PySem.W.keepIn K (.ref f_law) = true)
    (n_IndexError : PySem.W.nsIn K mainGlobals "IndexError" = some none)
    (n_KeyError : PySem.W.nsIn K mainGlobals "KeyError" = some none)
    (n_LookupError : PySem.W.nsIn K mainGlobals "LookupError" = some none)
    (n_ValueError : PySem.W.nsIn K mainGlobals "ValueError" = some none)
    (n_abs : PySem.W.nsIn K mainGlobals "abs" = some none)
    (n_enumerate : PySem.W.nsIn K mainGlobals "enumerate" = some none)
    (n_int : PySem.W.nsIn K mainGlobals "int" = some none)
    (n_isinstance : PySem.W.nsIn K mainGlobals "isinstance" = some none)
    (n_len : PySem.W.nsIn K mainGlobals "len" = some none)
    (n_range : PySem.W.nsIn K mainGlobals "range" = some none)
    (n_repr : PySem.W.nsIn K mainGlobals "repr" = some none)
    {t_cMAX_BENDS : Tok}
    (v_cMAX_BENDS : PySem.W.nsIn K mainGlobals "MAX_BENDS" = some (some (.int 200 t_cMAX_BENDS)))
    {t_cMAX_DIALS : Tok}
    (v_cMAX_DIALS : PySem.W.nsIn K mainGlobals "MAX_DIALS" = some (some (.int 1000000000 t_cMAX_DIALS)))
    {t_cMAX_DISHES : Tok}
    (v_cMAX_DISHES : PySem.W.nsIn K mainGlobals "MAX_DISHES" = some (some (.int 6 t_cMAX_DISHES)))
    {t_cMAX_EDITS : Tok}
    (v_cMAX_EDITS : PySem.W.nsIn K mainGlobals "MAX_EDITS" = some (some (.int 20 t_cMAX_EDITS)))
    {t_cMAX_HEAT : Tok}
    (v_cMAX_HEAT : PySem.W.nsIn K mainGlobals "MAX_HEAT" = some (some (.int 1000000000000 t_cMAX_HEAT)))
    {t_cMAX_LOADS : Tok}
    (v_cMAX_LOADS : PySem.W.nsIn K mainGlobals "MAX_LOADS" = some (some (.int 4 t_cMAX_LOADS)))
    {t_cMAX_MENU : Tok}
    (v_cMAX_MENU : PySem.W.nsIn K mainGlobals "MAX_MENU" = some (some (.int 4 t_cMAX_MENU)))
    {t_cMAX_MINUTES : Tok}
    (v_cMAX_MINUTES : PySem.W.nsIn K mainGlobals "MAX_MINUTES" = some (some (.int 1000000 t_cMAX_MINUTES)))
    {t_cMAX_OVENS : Tok}
    (v_cMAX_OVENS : PySem.W.nsIn K mainGlobals "MAX_OVENS" = some (some (.int 4 t_cMAX_OVENS)))
    {t_cMAX_READINGS : Tok}
    (v_cMAX_READINGS : PySem.W.nsIn K mainGlobals "MAX_READINGS" = some (some (.int 20 t_cMAX_READINGS)))
    {t_cMAX_SLOPE : Tok}
    (v_cMAX_SLOPE : PySem.W.nsIn K mainGlobals "MAX_SLOPE" = some (some (.int 1000000000 t_cMAX_SLOPE)))
    {t_cMAX_TIES : Tok}
    (v_cMAX_TIES : PySem.W.nsIn K mainGlobals "MAX_TIES" = some (some (.int 6 t_cMAX_TIES)))
    {t_cMAX_WARMTH : Tok}
    (v_cMAX_WARMTH : PySem.W.nsIn K mainGlobals "MAX_WARMTH" = some (some (.int 1000000000000000000000000 t_cMAX_WARMTH)))
    {t_cMAX_WISHES : Tok}
    (v_cMAX_WISHES : PySem.W.nsIn K mainGlobals "MAX_WISHES" = some (some (.int 6 t_cMAX_WISHES))) :
    ∃ fd : FuncData, (∀ (s : Shared) (v : Value), BindsTo s fd ⟨[v], []⟩ [("_law_script", v)]) ∧ ∀ base : Heap, K.In base → base.Ns mainGlobals mg → FnG l.prog w K mg base CX0 4 fa fd ["_law_script"] (spD K 1 (runD 13 b_law)) := by
  have e := hfa.symm.trans (PySem.W.mg_of X G a_law)
  cases e
  have T : Facts w K mg := ⟨True.intro, hw, (fun _ _ _ z => z.elim), ⟨PySem.W.mg_of X G a_OvenError, ⟨⟨_, _, _, _, _, _, _, _, _, _, _, _, _, _, _, _, _, _, _, xl_OvenError, rfl, PySem.F.excBase_ValueError, PySem.F.store_ValueError⟩, xsa_OvenError, xe_OvenError, xt_OvenError, xk_OvenError⟩, xga_OvenError, xgg_OvenError, (fun f hf => absurd hf List.not_mem_nil), xh_OvenError, exm_self xe_OvenError xi_OvenError xt_OvenError xs_OvenError⟩, ⟨PySem.W.mg_of X G a_BadKitchen, ⟨⟨_, _, _, _, _, _, _, _, _, _, _, _, _, _, _, _, _, _, _, xl_BadKitchen, rfl, PySem.F.excBase_ValueError, PySem.F.store_ValueError⟩, xsa_BadKitchen, xe_BadKitchen, xt_BadKitchen, xk_BadKitchen⟩, xga_BadKitchen, xgg_BadKitchen, (fun f hf => by simp only [List.mem_cons, List.not_mem_nil, or_false] at hf; rcases hf with rfl | rfl <;> assumption), xh_BadKitchen, exm_self xe_BadKitchen xi_BadKitchen xt_BadKitchen xs_BadKitchen⟩, ⟨PySem.W.mg_of X G a_BadReading, ⟨⟨_, _, _, _, _, _, _, _, _, _, _, _, _, _, _, _, _, _, _, xl_BadReading, rfl, PySem.F.excBase_ValueError, PySem.F.store_ValueError⟩, xsa_BadReading, xe_BadReading, xt_BadReading, xk_BadReading⟩, xga_BadReading, xgg_BadReading, (fun f hf => by simp only [List.mem_cons, List.not_mem_nil, or_false] at hf; rcases hf with rfl | rfl <;> assumption), xh_BadReading, exm_self xe_BadReading xi_BadReading xt_BadReading xs_BadReading⟩, ⟨PySem.W.mg_of X G a_BadText, ⟨⟨_, _, _, _, _, _, _, _, _, _, _, _, _, _, _, _, _, _, _, xl_BadText, rfl, PySem.F.excBase_ValueError, PySem.F.store_ValueError⟩, xsa_BadText, xe_BadText, xt_BadText, xk_BadText⟩, xga_BadText, xgg_BadText, (fun f hf => by simp only [List.mem_cons, List.not_mem_nil, or_false] at hf; rcases hf with rfl | rfl <;> assumption), xh_BadText, exm_self xe_BadText xi_BadText xt_BadText xs_BadText⟩, ⟨PySem.W.mg_of X G a_Full, ⟨⟨_, _, _, _, _, _, _, _, _, _, _, _, _, _, _, _, _, _, _, xl_Full, rfl, PySem.F.excBase_ValueError, PySem.F.store_ValueError⟩, xsa_Full, xe_Full, xt_Full, xk_Full⟩, xga_Full, xgg_Full, (fun f hf => absurd hf List.not_mem_nil), xh_Full, exm_self xe_Full xi_Full xt_Full xs_Full⟩, ⟨PySem.W.mg_of X G a_NoWorld, ⟨⟨_, _, _, _, _, _, _, _, _, _, _, _, _, _, _, _, _, _, _, xl_NoWorld, rfl, PySem.F.excBase_ValueError, PySem.F.store_ValueError⟩, xsa_NoWorld, xe_NoWorld, xt_NoWorld, xk_NoWorld⟩, xga_NoWorld, xgg_NoWorld, (fun f hf => by simp only [List.mem_cons, List.not_mem_nil, or_false] at hf; subst hf; assumption), xh_NoWorld, exm_self xe_NoWorld xi_NoWorld xt_NoWorld xs_NoWorld⟩, ⟨PySem.W.mg_of X G a_NothingToUndo, ⟨⟨_, _, _, _, _, _, _, _, _, _, _, _, _, _, _, _, _, _, _, xl_NothingToUndo, rfl, PySem.F.excBase_ValueError, PySem.F.store_ValueError⟩, xsa_NothingToUndo, xe_NothingToUndo, xt_NothingToUndo, xk_NothingToUndo⟩, xga_NothingToUndo, xgg_NothingToUndo, (fun f hf => absurd hf List.not_mem_nil), xh_NothingToUndo, exm_self xe_NothingToUndo xi_NothingToUndo xt_NothingToUndo xs_NothingToUndo⟩, ⟨PySem.W.mg_of X G a_NoReading, ⟨⟨_, _, _, _, _, _, _, _, _, _, _, _, _, _, _, _, _, _, _, xl_NoReading, rfl, PySem.F.excBase_LookupError, PySem.F.store_LookupError⟩, xsa_NoReading, xe_NoReading, xt_NoReading, xk_NoReading⟩, xga_NoReading, xgg_NoReading, (fun f hf => by simp only [List.mem_cons, List.not_mem_nil, or_false] at hf; subst hf; assumption), xh_NoReading, exm_self xe_NoReading xi_NoReading xt_NoReading xs_NoReading⟩, ⟨PySem.W.mg_of X G a_NoWish, ⟨⟨_, _, _, _, _, _, _, _, _, _, _, _, _, _, _, _, _, _, _, xl_NoWish, rfl, PySem.F.excBase_LookupError, PySem.F.store_LookupError⟩, xsa_NoWish, xe_NoWish, xt_NoWish, xk_NoWish⟩, xga_NoWish, xgg_NoWish, (fun f hf => by simp only [List.mem_cons, List.not_mem_nil, or_false] at hf; subst hf; assumption), xh_NoWish, exm_self xe_NoWish xi_NoWish xt_NoWish xs_NoWish⟩, ⟨PySem.F.excBase_ValueError, PySem.W.mg_of X G a_NothingToUndo, x0_NothingToUndo, xk_NothingToUndo⟩, ⟨PySem.F.excBase_ValueError, PySem.W.mg_of X G a_Full, x0_Full, xk_Full⟩, (fun C f z => by rcases z with ⟨rfl, rfl⟩ | ⟨rfl, rfl⟩ | ⟨rfl, rfl⟩ | ⟨rfl, rfl⟩ | ⟨rfl, rfl⟩ | ⟨rfl, rfl⟩ | ⟨rfl, rfl⟩ | ⟨rfl, rfl⟩ | ⟨rfl, rfl⟩ <;> first | exact ⟨xga_BadKitchen, xgg_BadKitchen, xe_BadKitchen, xh_BadKitchen, xno_BadKitchen_number⟩ | exact ⟨xga_BadKitchen, xgg_BadKitchen, xe_BadKitchen, xh_BadKitchen, xno_BadKitchen_word⟩ | exact ⟨xga_BadReading, xgg_BadReading, xe_BadReading, xh_BadReading, xno_BadReading_number⟩ | exact ⟨xga_BadReading, xgg_BadReading, xe_BadReading, xh_BadReading, xno_BadReading_word⟩ | exact ⟨xga_BadText, xgg_BadText, xe_BadText, xh_BadText, xno_BadText_line⟩ | exact ⟨xga_BadText, xgg_BadText, xe_BadText, xh_BadText, xno_BadText_number⟩ | exact ⟨xga_NoWorld, xgg_NoWorld, xe_NoWorld, xh_NoWorld, xno_NoWorld_numbers⟩ | exact ⟨xga_NoReading, xgg_NoReading, xe_NoReading, xh_NoReading, xno_NoReading_number⟩ | exact ⟨xga_NoWish, xgg_NoWish, xe_NoWish, xh_NoWish, xno_NoWish_number⟩), ⟨xi_BadKitchen, xga_BadKitchen, xgg_BadKitchen, xe_BadKitchen, xha_BadKitchen, xhn, xhk, xhm_BadKitchen⟩, ⟨xi_BadReading, xga_BadReading, xgg_BadReading, xe_BadReading, xha_BadReading, xhn, xhk, xhm_BadReading⟩, ⟨xi_BadText, xga_BadText, xgg_BadText, xe_BadText, xha_BadText, xhn, xhk, xhm_BadText⟩, ⟨xi_Full, xga_Full, xgg_Full, xe_Full, xha_Full, xhn, xhk, xhm_Full⟩, ⟨xi_NoWorld, xga_NoWorld, xgg_NoWorld, xe_NoWorld, xha_NoWorld, xhn, xhk, xhm_NoWorld⟩, ⟨xi_NothingToUndo, xga_NothingToUndo, xgg_NothingToUndo, xe_NothingToUndo, xha_NothingToUndo, xhn, xhk, xhm_NothingToUndo⟩, ⟨xi_NoReading, xga_NoReading, xgg_NoReading, xe_NoReading, xha_NoReading, xhn, xhk, xhm_NoReading⟩, ⟨xi_NoWish, xga_NoWish, xgg_NoWish, xe_NoWish, xha_NoWish, xhn, xhk, xhm_NoWish⟩, (fun cls v b z => by rcases z with ⟨rfl, rfl, rfl⟩ | ⟨rfl, rfl, rfl⟩ | ⟨rfl, rfl, rfl⟩ | ⟨rfl, rfl, rfl⟩ | ⟨rfl, rfl, rfl⟩ | ⟨rfl, rfl, rfl⟩ | ⟨rfl, rfl, rfl⟩ | ⟨rfl, rfl, rfl⟩ | ⟨rfl, rfl, rfl⟩ | ⟨rfl, rfl, rfl⟩ | ⟨rfl, rfl, rfl⟩ | ⟨rfl, rfl, rfl⟩ | ⟨rfl, rfl, rfl⟩ | ⟨rfl, rfl, rfl⟩ | ⟨rfl, rfl, rfl⟩ | ⟨rfl, rfl, rfl⟩ | ⟨rfl, rfl, rfl⟩ | ⟨rfl, rfl, rfl⟩ | ⟨rfl, rfl, rfl⟩ | ⟨rfl, rfl, rfl⟩ | ⟨rfl, rfl, rfl⟩ | ⟨rfl, rfl, rfl⟩ | ⟨rfl, rfl, rfl⟩ | ⟨rfl, rfl, rfl⟩ | ⟨rfl, rfl, rfl⟩ | ⟨rfl, rfl, rfl⟩ | ⟨rfl, rfl, rfl⟩ | ⟨rfl, rfl, rfl⟩ | ⟨rfl, rfl, rfl⟩ | ⟨rfl, rfl, rfl⟩ | ⟨rfl, rfl, rfl⟩ | ⟨rfl, rfl, rfl⟩ | ⟨rfl, rfl, rfl⟩ | ⟨rfl, rfl, rfl⟩ | ⟨rfl, rfl, rfl⟩ | ⟨rfl, rfl, rfl⟩ | ⟨rfl, rfl, rfl⟩ | ⟨rfl, rfl, rfl⟩ | ⟨rfl, rfl, rfl⟩ | ⟨rfl, rfl, rfl⟩ | ⟨rfl, rfl, rfl⟩ | ⟨rfl, rfl, rfl⟩ | ⟨rfl, rfl, rfl⟩ | ⟨rfl, rfl, rfl⟩ | ⟨rfl, rfl, rfl⟩ | ⟨rfl, rfl, rfl⟩ | ⟨rfl, rfl, rfl⟩ | ⟨rfl, rfl, rfl⟩ | ⟨rfl, rfl, rfl⟩ | ⟨rfl, rfl, rfl⟩ | ⟨rfl, rfl, rfl⟩ | ⟨rfl, rfl, rfl⟩ | ⟨rfl, rfl, rfl⟩ | ⟨rfl, rfl, rfl⟩ | ⟨rfl, rfl, rfl⟩ | ⟨rfl, rfl, rfl⟩ | ⟨rfl, rfl, rfl⟩ | ⟨rfl, rfl, rfl⟩ | ⟨rfl, rfl, rfl⟩ | ⟨rfl, rfl, rfl⟩ | ⟨rfl, rfl, rfl⟩ | ⟨rfl, rfl, rfl⟩ | ⟨rfl, rfl, rfl⟩ | ⟨rfl, rfl, rfl⟩ | ⟨rfl, rfl, rfl⟩ | ⟨rfl, rfl, rfl⟩ | ⟨rfl, rfl, rfl⟩ | ⟨rfl, rfl, rfl⟩ | ⟨rfl, rfl, rfl⟩ | ⟨rfl, rfl, rfl⟩ | ⟨rfl, rfl, rfl⟩ | ⟨rfl, rfl, rfl⟩ | ⟨rfl, rfl, rfl⟩ | ⟨rfl, rfl, rfl⟩ | ⟨rfl, rfl, rfl⟩ | ⟨rfl, rfl, rfl⟩ | ⟨rfl, rfl, rfl⟩ | ⟨rfl, rfl, rfl⟩ | ⟨rfl, rfl, rfl⟩ | ⟨rfl, rfl, rfl⟩ | ⟨rfl, rfl, rfl⟩ | ⟨rfl, rfl, rfl⟩ | ⟨rfl, rfl, rfl⟩ | ⟨rfl, rfl, rfl⟩ | ⟨rfl, rfl, rfl⟩ | ⟨rfl, rfl, rfl⟩ | ⟨rfl, rfl, rfl⟩ | ⟨rfl, rfl, rfl⟩ | ⟨rfl, rfl, rfl⟩ | ⟨rfl, rfl, rfl⟩ | ⟨rfl, rfl, rfl⟩ | ⟨rfl, rfl, rfl⟩ | ⟨rfl, rfl, rfl⟩ | ⟨rfl, rfl, rfl⟩ | ⟨rfl, rfl, rfl⟩ | ⟨rfl, rfl, rfl⟩ | ⟨rfl, rfl, rfl⟩ | ⟨rfl, rfl, rfl⟩ | ⟨rfl, rfl, rfl⟩ | ⟨rfl, rfl, rfl⟩ | ⟨rfl, rfl, rfl⟩ | ⟨rfl, rfl, rfl⟩ | ⟨rfl, rfl, rfl⟩ | ⟨rfl, rfl, rfl⟩ <;> first | exact ⟨_, rfl, ⟨xi_BadKitchen, xga_BadKitchen, xgg_BadKitchen, xe_BadKitchen, xha_BadKitchen, xhn, xhk, xhm_BadKitchen⟩, xq_BadKitchen_BadText⟩ | exact ⟨_, rfl, ⟨xi_BadKitchen, xga_BadKitchen, xgg_BadKitchen, xe_BadKitchen, xha_BadKitchen, xhn, xhk, xhm_BadKitchen⟩, xq_BadKitchen_BadReading⟩ | exact ⟨_, rfl, ⟨xi_BadKitchen, xga_BadKitchen, xgg_BadKitchen, xe_BadKitchen, xha_BadKitchen, xhn, xhk, xhm_BadKitchen⟩, xq_BadKitchen_BadKitchen⟩ | exact ⟨_, rfl, ⟨xi_BadKitchen, xga_BadKitchen, xgg_BadKitchen, xe_BadKitchen, xha_BadKitchen, xhn, xhk, xhm_BadKitchen⟩, xq_BadKitchen_NothingToUndo⟩ | exact ⟨_, rfl, ⟨xi_BadKitchen, xga_BadKitchen, xgg_BadKitchen, xe_BadKitchen, xha_BadKitchen, xhn, xhk, xhm_BadKitchen⟩, xq_BadKitchen_NoWorld⟩ | exact ⟨_, rfl, ⟨xi_BadKitchen, xga_BadKitchen, xgg_BadKitchen, xe_BadKitchen, xha_BadKitchen, xhn, xhk, xhm_BadKitchen⟩, xq_BadKitchen_Full⟩ | exact ⟨_, rfl, ⟨xi_BadKitchen, xga_BadKitchen, xgg_BadKitchen, xe_BadKitchen, xha_BadKitchen, xhn, xhk, xhm_BadKitchen⟩, xq_BadKitchen_OvenError⟩ | exact ⟨_, rfl, ⟨xi_BadKitchen, xga_BadKitchen, xgg_BadKitchen, xe_BadKitchen, xha_BadKitchen, xhn, xhk, xhm_BadKitchen⟩, xq_BadKitchen_NoWish⟩ | exact ⟨_, rfl, ⟨xi_BadKitchen, xga_BadKitchen, xgg_BadKitchen, xe_BadKitchen, xha_BadKitchen, xhn, xhk, xhm_BadKitchen⟩, xq_BadKitchen_NoReading⟩ | exact ⟨_, rfl, ⟨xi_BadKitchen, xga_BadKitchen, xgg_BadKitchen, xe_BadKitchen, xha_BadKitchen, xhn, xhk, xhm_BadKitchen⟩, xq_BadKitchen_KeyError⟩ | exact ⟨_, rfl, ⟨xi_BadKitchen, xga_BadKitchen, xgg_BadKitchen, xe_BadKitchen, xha_BadKitchen, xhn, xhk, xhm_BadKitchen⟩, xq_BadKitchen_LookupError⟩ | exact ⟨_, rfl, ⟨xi_BadKitchen, xga_BadKitchen, xgg_BadKitchen, xe_BadKitchen, xha_BadKitchen, xhn, xhk, xhm_BadKitchen⟩, xq_BadKitchen_ValueError⟩ | exact ⟨_, rfl, ⟨xi_BadKitchen, xga_BadKitchen, xgg_BadKitchen, xe_BadKitchen, xha_BadKitchen, xhn, xhk, xhm_BadKitchen⟩, xq_BadKitchen_IndexError⟩ | exact ⟨_, rfl, ⟨xi_BadReading, xga_BadReading, xgg_BadReading, xe_BadReading, xha_BadReading, xhn, xhk, xhm_BadReading⟩, xq_BadReading_BadText⟩ | exact ⟨_, rfl, ⟨xi_BadReading, xga_BadReading, xgg_BadReading, xe_BadReading, xha_BadReading, xhn, xhk, xhm_BadReading⟩, xq_BadReading_BadReading⟩ | exact ⟨_, rfl, ⟨xi_BadReading, xga_BadReading, xgg_BadReading, xe_BadReading, xha_BadReading, xhn, xhk, xhm_BadReading⟩, xq_BadReading_BadKitchen⟩ | exact ⟨_, rfl, ⟨xi_BadReading, xga_BadReading, xgg_BadReading, xe_BadReading, xha_BadReading, xhn, xhk, xhm_BadReading⟩, xq_BadReading_NothingToUndo⟩ | exact ⟨_, rfl, ⟨xi_BadReading, xga_BadReading, xgg_BadReading, xe_BadReading, xha_BadReading, xhn, xhk, xhm_BadReading⟩, xq_BadReading_NoWorld⟩ | exact ⟨_, rfl, ⟨xi_BadReading, xga_BadReading, xgg_BadReading, xe_BadReading, xha_BadReading, xhn, xhk, xhm_BadReading⟩, xq_BadReading_Full⟩ | exact ⟨_, rfl, ⟨xi_BadReading, xga_BadReading, xgg_BadReading, xe_BadReading, xha_BadReading, xhn, xhk, xhm_BadReading⟩, xq_BadReading_OvenError⟩ | exact ⟨_, rfl, ⟨xi_BadReading, xga_BadReading, xgg_BadReading, xe_BadReading, xha_BadReading, xhn, xhk, xhm_BadReading⟩, xq_BadReading_NoWish⟩ | exact ⟨_, rfl, ⟨xi_BadReading, xga_BadReading, xgg_BadReading, xe_BadReading, xha_BadReading, xhn, xhk, xhm_BadReading⟩, xq_BadReading_NoReading⟩ | exact ⟨_, rfl, ⟨xi_BadReading, xga_BadReading, xgg_BadReading, xe_BadReading, xha_BadReading, xhn, xhk, xhm_BadReading⟩, xq_BadReading_KeyError⟩ | exact ⟨_, rfl, ⟨xi_BadReading, xga_BadReading, xgg_BadReading, xe_BadReading, xha_BadReading, xhn, xhk, xhm_BadReading⟩, xq_BadReading_LookupError⟩ | exact ⟨_, rfl, ⟨xi_BadReading, xga_BadReading, xgg_BadReading, xe_BadReading, xha_BadReading, xhn, xhk, xhm_BadReading⟩, xq_BadReading_ValueError⟩ | exact ⟨_, rfl, ⟨xi_BadReading, xga_BadReading, xgg_BadReading, xe_BadReading, xha_BadReading, xhn, xhk, xhm_BadReading⟩, xq_BadReading_IndexError⟩ | exact ⟨_, rfl, ⟨xi_BadText, xga_BadText, xgg_BadText, xe_BadText, xha_BadText, xhn, xhk, xhm_BadText⟩, xq_BadText_BadText⟩ | exact ⟨_, rfl, ⟨xi_BadText, xga_BadText, xgg_BadText, xe_BadText, xha_BadText, xhn, xhk, xhm_BadText⟩, xq_BadText_BadReading⟩ | exact ⟨_, rfl, ⟨xi_BadText, xga_BadText, xgg_BadText, xe_BadText, xha_BadText, xhn, xhk, xhm_BadText⟩, xq_BadText_BadKitchen⟩ | exact ⟨_, rfl, ⟨xi_BadText, xga_BadText, xgg_BadText, xe_BadText, xha_BadText, xhn, xhk, xhm_BadText⟩, xq_BadText_NothingToUndo⟩ | exact ⟨_, rfl, ⟨xi_BadText, xga_BadText, xgg_BadText, xe_BadText, xha_BadText, xhn, xhk, xhm_BadText⟩, xq_BadText_NoWorld⟩ | exact ⟨_, rfl, ⟨xi_BadText, xga_BadText, xgg_BadText, xe_BadText, xha_BadText, xhn, xhk, xhm_BadText⟩, xq_BadText_Full⟩ | exact ⟨_, rfl, ⟨xi_BadText, xga_BadText, xgg_BadText, xe_BadText, xha_BadText, xhn, xhk, xhm_BadText⟩, xq_BadText_OvenError⟩ | exact ⟨_, rfl, ⟨xi_BadText, xga_BadText, xgg_BadText, xe_BadText, xha_BadText, xhn, xhk, xhm_BadText⟩, xq_BadText_NoWish⟩ | exact ⟨_, rfl, ⟨xi_BadText, xga_BadText, xgg_BadText, xe_BadText, xha_BadText, xhn, xhk, xhm_BadText⟩, xq_BadText_NoReading⟩ | exact ⟨_, rfl, ⟨xi_BadText, xga_BadText, xgg_BadText, xe_BadText, xha_BadText, xhn, xhk, xhm_BadText⟩, xq_BadText_KeyError⟩ | exact ⟨_, rfl, ⟨xi_BadText, xga_BadText, xgg_BadText, xe_BadText, xha_BadText, xhn, xhk, xhm_BadText⟩, xq_BadText_LookupError⟩ | exact ⟨_, rfl, ⟨xi_BadText, xga_BadText, xgg_BadText, xe_BadText, xha_BadText, xhn, xhk, xhm_BadText⟩, xq_BadText_ValueError⟩ | exact ⟨_, rfl, ⟨xi_BadText, xga_BadText, xgg_BadText, xe_BadText, xha_BadText, xhn, xhk, xhm_BadText⟩, xq_BadText_IndexError⟩ | exact ⟨_, rfl, ⟨xi_Full, xga_Full, xgg_Full, xe_Full, xha_Full, xhn, xhk, xhm_Full⟩, xq_Full_BadText⟩ | exact ⟨_, rfl, ⟨xi_Full, xga_Full, xgg_Full, xe_Full, xha_Full, xhn, xhk, xhm_Full⟩, xq_Full_BadReading⟩ | exact ⟨_, rfl, ⟨xi_Full, xga_Full, xgg_Full, xe_Full, xha_Full, xhn, xhk, xhm_Full⟩, xq_Full_BadKitchen⟩ | exact ⟨_, rfl, ⟨xi_Full, xga_Full, xgg_Full, xe_Full, xha_Full, xhn, xhk, xhm_Full⟩, xq_Full_NothingToUndo⟩ | exact ⟨_, rfl, ⟨xi_Full, xga_Full, xgg_Full, xe_Full, xha_Full, xhn, xhk, xhm_Full⟩, xq_Full_NoWorld⟩ | exact ⟨_, rfl, ⟨xi_Full, xga_Full, xgg_Full, xe_Full, xha_Full, xhn, xhk, xhm_Full⟩, xq_Full_Full⟩ | exact ⟨_, rfl, ⟨xi_Full, xga_Full, xgg_Full, xe_Full, xha_Full, xhn, xhk, xhm_Full⟩, xq_Full_OvenError⟩ | exact ⟨_, rfl, ⟨xi_Full, xga_Full, xgg_Full, xe_Full, xha_Full, xhn, xhk, xhm_Full⟩, xq_Full_NoWish⟩ | exact ⟨_, rfl, ⟨xi_Full, xga_Full, xgg_Full, xe_Full, xha_Full, xhn, xhk, xhm_Full⟩, xq_Full_NoReading⟩ | exact ⟨_, rfl, ⟨xi_Full, xga_Full, xgg_Full, xe_Full, xha_Full, xhn, xhk, xhm_Full⟩, xq_Full_KeyError⟩ | exact ⟨_, rfl, ⟨xi_Full, xga_Full, xgg_Full, xe_Full, xha_Full, xhn, xhk, xhm_Full⟩, xq_Full_LookupError⟩ | exact ⟨_, rfl, ⟨xi_Full, xga_Full, xgg_Full, xe_Full, xha_Full, xhn, xhk, xhm_Full⟩, xq_Full_ValueError⟩ | exact ⟨_, rfl, ⟨xi_Full, xga_Full, xgg_Full, xe_Full, xha_Full, xhn, xhk, xhm_Full⟩, xq_Full_IndexError⟩ | exact ⟨_, rfl, ⟨xi_NoWorld, xga_NoWorld, xgg_NoWorld, xe_NoWorld, xha_NoWorld, xhn, xhk, xhm_NoWorld⟩, xq_NoWorld_BadText⟩ | exact ⟨_, rfl, ⟨xi_NoWorld, xga_NoWorld, xgg_NoWorld, xe_NoWorld, xha_NoWorld, xhn, xhk, xhm_NoWorld⟩, xq_NoWorld_BadReading⟩ | exact ⟨_, rfl, ⟨xi_NoWorld, xga_NoWorld, xgg_NoWorld, xe_NoWorld, xha_NoWorld, xhn, xhk, xhm_NoWorld⟩, xq_NoWorld_BadKitchen⟩ | exact ⟨_, rfl, ⟨xi_NoWorld, xga_NoWorld, xgg_NoWorld, xe_NoWorld, xha_NoWorld, xhn, xhk, xhm_NoWorld⟩, xq_NoWorld_NothingToUndo⟩ | exact ⟨_, rfl, ⟨xi_NoWorld, xga_NoWorld, xgg_NoWorld, xe_NoWorld, xha_NoWorld, xhn, xhk, xhm_NoWorld⟩, xq_NoWorld_NoWorld⟩ | exact ⟨_, rfl, ⟨xi_NoWorld, xga_NoWorld, xgg_NoWorld, xe_NoWorld, xha_NoWorld, xhn, xhk, xhm_NoWorld⟩, xq_NoWorld_Full⟩ | exact ⟨_, rfl, ⟨xi_NoWorld, xga_NoWorld, xgg_NoWorld, xe_NoWorld, xha_NoWorld, xhn, xhk, xhm_NoWorld⟩, xq_NoWorld_OvenError⟩ | exact ⟨_, rfl, ⟨xi_NoWorld, xga_NoWorld, xgg_NoWorld, xe_NoWorld, xha_NoWorld, xhn, xhk, xhm_NoWorld⟩, xq_NoWorld_NoWish⟩ | exact ⟨_, rfl, ⟨xi_NoWorld, xga_NoWorld, xgg_NoWorld, xe_NoWorld, xha_NoWorld, xhn, xhk, xhm_NoWorld⟩, xq_NoWorld_NoReading⟩ | exact ⟨_, rfl, ⟨xi_NoWorld, xga_NoWorld, xgg_NoWorld, xe_NoWorld, xha_NoWorld, xhn, xhk, xhm_NoWorld⟩, xq_NoWorld_KeyError⟩ | exact ⟨_, rfl, ⟨xi_NoWorld, xga_NoWorld, xgg_NoWorld, xe_NoWorld, xha_NoWorld, xhn, xhk, xhm_NoWorld⟩, xq_NoWorld_LookupError⟩ | exact ⟨_, rfl, ⟨xi_NoWorld, xga_NoWorld, xgg_NoWorld, xe_NoWorld, xha_NoWorld, xhn, xhk, xhm_NoWorld⟩, xq_NoWorld_ValueError⟩ | exact ⟨_, rfl, ⟨xi_NoWorld, xga_NoWorld, xgg_NoWorld, xe_NoWorld, xha_NoWorld, xhn, xhk, xhm_NoWorld⟩, xq_NoWorld_IndexError⟩ | exact ⟨_, rfl, ⟨xi_NothingToUndo, xga_NothingToUndo, xgg_NothingToUndo, xe_NothingToUndo, xha_NothingToUndo, xhn, xhk, xhm_NothingToUndo⟩, xq_NothingToUndo_BadText⟩ | exact ⟨_, rfl, ⟨xi_NothingToUndo, xga_NothingToUndo, xgg_NothingToUndo, xe_NothingToUndo, xha_NothingToUndo, xhn, xhk, xhm_NothingToUndo⟩, xq_NothingToUndo_BadReading⟩ | exact ⟨_, rfl, ⟨xi_NothingToUndo, xga_NothingToUndo, xgg_NothingToUndo, xe_NothingToUndo, xha_NothingToUndo, xhn, xhk, xhm_NothingToUndo⟩, xq_NothingToUndo_BadKitchen⟩ | exact ⟨_, rfl, ⟨xi_NothingToUndo, xga_NothingToUndo, xgg_NothingToUndo, xe_NothingToUndo, xha_NothingToUndo, xhn, xhk, xhm_NothingToUndo⟩, xq_NothingToUndo_NothingToUndo⟩ | exact ⟨_, rfl, ⟨xi_NothingToUndo, xga_NothingToUndo, xgg_NothingToUndo, xe_NothingToUndo, xha_NothingToUndo, xhn, xhk, xhm_NothingToUndo⟩, xq_NothingToUndo_NoWorld⟩ | exact ⟨_, rfl, ⟨xi_NothingToUndo, xga_NothingToUndo, xgg_NothingToUndo, xe_NothingToUndo, xha_NothingToUndo, xhn, xhk, xhm_NothingToUndo⟩, xq_NothingToUndo_Full⟩ | exact ⟨_, rfl, ⟨xi_NothingToUndo, xga_NothingToUndo, xgg_NothingToUndo, xe_NothingToUndo, xha_NothingToUndo, xhn, xhk, xhm_NothingToUndo⟩, xq_NothingToUndo_OvenError⟩ | exact ⟨_, rfl, ⟨xi_NothingToUndo, xga_NothingToUndo, xgg_NothingToUndo, xe_NothingToUndo, xha_NothingToUndo, xhn, xhk, xhm_NothingToUndo⟩, xq_NothingToUndo_NoWish⟩ | exact ⟨_, rfl, ⟨xi_NothingToUndo, xga_NothingToUndo, xgg_NothingToUndo, xe_NothingToUndo, xha_NothingToUndo, xhn, xhk, xhm_NothingToUndo⟩, xq_NothingToUndo_NoReading⟩ | exact ⟨_, rfl, ⟨xi_NothingToUndo, xga_NothingToUndo, xgg_NothingToUndo, xe_NothingToUndo, xha_NothingToUndo, xhn, xhk, xhm_NothingToUndo⟩, xq_NothingToUndo_KeyError⟩ | exact ⟨_, rfl, ⟨xi_NothingToUndo, xga_NothingToUndo, xgg_NothingToUndo, xe_NothingToUndo, xha_NothingToUndo, xhn, xhk, xhm_NothingToUndo⟩, xq_NothingToUndo_LookupError⟩ | exact ⟨_, rfl, ⟨xi_NothingToUndo, xga_NothingToUndo, xgg_NothingToUndo, xe_NothingToUndo, xha_NothingToUndo, xhn, xhk, xhm_NothingToUndo⟩, xq_NothingToUndo_ValueError⟩ | exact ⟨_, rfl, ⟨xi_NothingToUndo, xga_NothingToUndo, xgg_NothingToUndo, xe_NothingToUndo, xha_NothingToUndo, xhn, xhk, xhm_NothingToUndo⟩, xq_NothingToUndo_IndexError⟩ | exact ⟨_, rfl, ⟨xi_NoReading, xga_NoReading, xgg_NoReading, xe_NoReading, xha_NoReading, xhn, xhk, xhm_NoReading⟩, xq_NoReading_BadText⟩ | exact ⟨_, rfl, ⟨xi_NoReading, xga_NoReading, xgg_NoReading, xe_NoReading, xha_NoReading, xhn, xhk, xhm_NoReading⟩, xq_NoReading_BadReading⟩ | exact ⟨_, rfl, ⟨xi_NoReading, xga_NoReading, xgg_NoReading, xe_NoReading, xha_NoReading, xhn, xhk, xhm_NoReading⟩, xq_NoReading_BadKitchen⟩ | exact ⟨_, rfl, ⟨xi_NoReading, xga_NoReading, xgg_NoReading, xe_NoReading, xha_NoReading, xhn, xhk, xhm_NoReading⟩, xq_NoReading_NothingToUndo⟩ | exact ⟨_, rfl, ⟨xi_NoReading, xga_NoReading, xgg_NoReading, xe_NoReading, xha_NoReading, xhn, xhk, xhm_NoReading⟩, xq_NoReading_NoWorld⟩ | exact ⟨_, rfl, ⟨xi_NoReading, xga_NoReading, xgg_NoReading, xe_NoReading, xha_NoReading, xhn, xhk, xhm_NoReading⟩, xq_NoReading_Full⟩ | exact ⟨_, rfl, ⟨xi_NoReading, xga_NoReading, xgg_NoReading, xe_NoReading, xha_NoReading, xhn, xhk, xhm_NoReading⟩, xq_NoReading_OvenError⟩ | exact ⟨_, rfl, ⟨xi_NoReading, xga_NoReading, xgg_NoReading, xe_NoReading, xha_NoReading, xhn, xhk, xhm_NoReading⟩, xq_NoReading_NoWish⟩ | exact ⟨_, rfl, ⟨xi_NoReading, xga_NoReading, xgg_NoReading, xe_NoReading, xha_NoReading, xhn, xhk, xhm_NoReading⟩, xq_NoReading_NoReading⟩ | exact ⟨_, rfl, ⟨xi_NoReading, xga_NoReading, xgg_NoReading, xe_NoReading, xha_NoReading, xhn, xhk, xhm_NoReading⟩, xq_NoReading_KeyError⟩ | exact ⟨_, rfl, ⟨xi_NoReading, xga_NoReading, xgg_NoReading, xe_NoReading, xha_NoReading, xhn, xhk, xhm_NoReading⟩, xq_NoReading_LookupError⟩ | exact ⟨_, rfl, ⟨xi_NoReading, xga_NoReading, xgg_NoReading, xe_NoReading, xha_NoReading, xhn, xhk, xhm_NoReading⟩, xq_NoReading_ValueError⟩ | exact ⟨_, rfl, ⟨xi_NoReading, xga_NoReading, xgg_NoReading, xe_NoReading, xha_NoReading, xhn, xhk, xhm_NoReading⟩, xq_NoReading_IndexError⟩ | exact ⟨_, rfl, ⟨xi_NoWish, xga_NoWish, xgg_NoWish, xe_NoWish, xha_NoWish, xhn, xhk, xhm_NoWish⟩, xq_NoWish_BadText⟩ | exact ⟨_, rfl, ⟨xi_NoWish, xga_NoWish, xgg_NoWish, xe_NoWish, xha_NoWish, xhn, xhk, xhm_NoWish⟩, xq_NoWish_BadReading⟩ | exact ⟨_, rfl, ⟨xi_NoWish, xga_NoWish, xgg_NoWish, xe_NoWish, xha_NoWish, xhn, xhk, xhm_NoWish⟩, xq_NoWish_BadKitchen⟩ | exact ⟨_, rfl, ⟨xi_NoWish, xga_NoWish, xgg_NoWish, xe_NoWish, xha_NoWish, xhn, xhk, xhm_NoWish⟩, xq_NoWish_NothingToUndo⟩ | exact ⟨_, rfl, ⟨xi_NoWish, xga_NoWish, xgg_NoWish, xe_NoWish, xha_NoWish, xhn, xhk, xhm_NoWish⟩, xq_NoWish_NoWorld⟩ | exact ⟨_, rfl, ⟨xi_NoWish, xga_NoWish, xgg_NoWish, xe_NoWish, xha_NoWish, xhn, xhk, xhm_NoWish⟩, xq_NoWish_Full⟩ | exact ⟨_, rfl, ⟨xi_NoWish, xga_NoWish, xgg_NoWish, xe_NoWish, xha_NoWish, xhn, xhk, xhm_NoWish⟩, xq_NoWish_OvenError⟩ | exact ⟨_, rfl, ⟨xi_NoWish, xga_NoWish, xgg_NoWish, xe_NoWish, xha_NoWish, xhn, xhk, xhm_NoWish⟩, xq_NoWish_NoWish⟩ | exact ⟨_, rfl, ⟨xi_NoWish, xga_NoWish, xgg_NoWish, xe_NoWish, xha_NoWish, xhn, xhk, xhm_NoWish⟩, xq_NoWish_NoReading⟩ | exact ⟨_, rfl, ⟨xi_NoWish, xga_NoWish, xgg_NoWish, xe_NoWish, xha_NoWish, xhn, xhk, xhm_NoWish⟩, xq_NoWish_KeyError⟩ | exact ⟨_, rfl, ⟨xi_NoWish, xga_NoWish, xgg_NoWish, xe_NoWish, xha_NoWish, xhn, xhk, xhm_NoWish⟩, xq_NoWish_LookupError⟩ | exact ⟨_, rfl, ⟨xi_NoWish, xga_NoWish, xgg_NoWish, xe_NoWish, xha_NoWish, xhn, xhk, xhm_NoWish⟩, xq_NoWish_ValueError⟩ | exact ⟨_, rfl, ⟨xi_NoWish, xga_NoWish, xgg_NoWish, xe_NoWish, xha_NoWish, xhn, xhk, xhm_NoWish⟩, xq_NoWish_IndexError⟩), PySem.W.mg_none_of X G n_IndexError, PySem.W.mg_none_of X G n_KeyError, PySem.W.mg_none_of X G n_LookupError, PySem.W.mg_none_of X G n_ValueError, PySem.W.mg_none_of X G n_abs, PySem.W.mg_none_of X G n_enumerate, PySem.W.mg_none_of X G n_int, PySem.W.mg_none_of X G n_isinstance, PySem.W.mg_none_of X G n_len, PySem.W.mg_none_of X G n_range, PySem.W.mg_none_of X G n_repr, ⟨_, PySem.W.mg_of X G v_cMAX_BENDS⟩, ⟨_, PySem.W.mg_of X G v_cMAX_DIALS⟩, ⟨_, PySem.W.mg_of X G v_cMAX_DISHES⟩, ⟨_, PySem.W.mg_of X G v_cMAX_EDITS⟩, ⟨_, PySem.W.mg_of X G v_cMAX_HEAT⟩, ⟨_, PySem.W.mg_of X G v_cMAX_LOADS⟩, ⟨_, PySem.W.mg_of X G v_cMAX_MENU⟩, ⟨_, PySem.W.mg_of X G v_cMAX_MINUTES⟩, ⟨_, PySem.W.mg_of X G v_cMAX_OVENS⟩, ⟨_, PySem.W.mg_of X G v_cMAX_READINGS⟩, ⟨_, PySem.W.mg_of X G v_cMAX_SLOPE⟩, ⟨_, PySem.W.mg_of X G v_cMAX_TIES⟩, ⟨_, PySem.W.mg_of X G v_cMAX_WARMTH⟩, ⟨_, PySem.W.mg_of X G v_cMAX_WISHES⟩⟩
  apply Exists.intro
  apply And.intro
  case right =>
    intro base _ _
    have G_law_bag := ok_law_bag (P := l.prog) (w := w) (base := base) T (fun_mk (st := s_law_bag) l_law_bag c_law_bag k_law_bag) (PySem.W.mg_of X G a_law_bag) 
    have G_law_draw := ok_law_draw (P := l.prog) (w := w) (base := base) T (fun_mk (st := s_law_draw) l_law_draw c_law_draw k_law_draw) (PySem.W.mg_of X G a_law_draw) 
    have G_law_pick := ok_law_pick (P := l.prog) (w := w) (base := base) T (fun_mk (st := s_law_pick) l_law_pick c_law_pick k_law_pick) (PySem.W.mg_of X G a_law_pick) G_law_draw
    have G_law_odd := ok_law_odd (P := l.prog) (w := w) (base := base) T (fun_mk (st := s_law_odd) l_law_odd c_law_odd k_law_odd) (PySem.W.mg_of X G a_law_odd) G_law_pick
    have G_NoWish___init__ := ok_NoWish___init__ (P := l.prog) (w := w) (base := base) T (fun_mk (st := s_NoWish___init__) l_NoWish___init__ c_NoWish___init__ k_NoWish___init__) a_NoWish___init__ (beq_iff_eq.mp i_NoWish___init__) 
    have G_NoReading___init__ := ok_NoReading___init__ (P := l.prog) (w := w) (base := base) T (fun_mk (st := s_NoReading___init__) l_NoReading___init__ c_NoReading___init__ k_NoReading___init__) a_NoReading___init__ (beq_iff_eq.mp i_NoReading___init__) 
    have G_NoWorld___init__ := ok_NoWorld___init__ (P := l.prog) (w := w) (base := base) T (fun_mk (st := s_NoWorld___init__) l_NoWorld___init__ c_NoWorld___init__ k_NoWorld___init__) a_NoWorld___init__ (beq_iff_eq.mp i_NoWorld___init__) 
    have G_BadText___init__ := ok_BadText___init__ (P := l.prog) (w := w) (base := base) T (fun_mk (st := s_BadText___init__) l_BadText___init__ c_BadText___init__ k_BadText___init__) a_BadText___init__ (beq_iff_eq.mp i_BadText___init__) 
    have G_BadReading___init__ := ok_BadReading___init__ (P := l.prog) (w := w) (base := base) T (fun_mk (st := s_BadReading___init__) l_BadReading___init__ c_BadReading___init__ k_BadReading___init__) a_BadReading___init__ (beq_iff_eq.mp i_BadReading___init__) 
    have G_BadKitchen___init__ := ok_BadKitchen___init__ (P := l.prog) (w := w) (base := base) T (fun_mk (st := s_BadKitchen___init__) l_BadKitchen___init__ c_BadKitchen___init__ k_BadKitchen___init__) a_BadKitchen___init__ (beq_iff_eq.mp i_BadKitchen___init__) 
    have G_law_sorts := ok_law_sorts (P := l.prog) (w := w) (base := base) T (fun_mk (st := s_law_sorts) l_law_sorts c_law_sorts k_law_sorts) (PySem.W.mg_of X G a_law_sorts) 
    exact fg_law (P := l.prog) (w := w) (base := base) T (fun_mk (st := s_law) l_law c_law k_law) G_law_bag G_law_pick G_law_odd G_NoWish___init__ G_NoReading___init__ G_NoWorld___init__ G_BadText___init__ G_BadReading___init__ G_BadKitchen___init__ G_law_sorts
  case left => exact fun s v => .of_eq rfl
theorem all_mk {l : PySem.W.OpenLaw} {w : World} {K : PySem.W.Frag} {h : Heap} {mg : Str → Option Value} {fa : Addr} (X : K.In h) (G : h.Ns mainGlobals mg) (hfa : mg "law" = some (.ref fa))
    {CLS_OvenError CLS_BadKitchen CLS_BadReading CLS_BadText CLS_Full CLS_NoWorld CLS_NothingToUndo CLS_NoReading CLS_NoWish : Addr}
    {f_law_bag f_law_draw f_law_pick f_law_odd f_NoWish___init__ f_NoReading___init__ f_NoWorld___init__ f_BadText___init__ f_BadReading___init__ f_BadKitchen___init__ f_law_sorts f_law : Addr}
    {od_law_bag an_law_bag od_law_draw an_law_draw od_law_pick an_law_pick od_law_odd an_law_odd od_NoWish___init__ an_NoWish___init__ od_NoReading___init__ an_NoReading___init__ od_NoWorld___init__ an_NoWorld___init__ od_BadText___init__ an_BadText___init__ od_BadReading___init__ an_BadReading___init__ od_BadKitchen___init__ an_BadKitchen___init__ od_law_sorts an_law_sorts od_law an_law : Option Addr}
    {sl_law_bag sl_law_draw sl_law_pick sl_law_odd sl_NoWish___init__ sl_NoReading___init__ sl_NoWorld___init__ sl_BadText___init__ sl_BadReading___init__ sl_BadKitchen___init__ sl_law_sorts sl_law : Array (Option Value)}
    {oc_law_bag kV_law_bag dc_law_bag pm_law_bag ct_law_bag cd_law_bag oc_law_draw kV_law_draw dc_law_draw pm_law_draw ct_law_draw cd_law_draw oc_law_pick kV_law_pick dc_law_pick pm_law_pick ct_law_pick cd_law_pick oc_law_odd kV_law_odd dc_law_odd pm_law_odd ct_law_odd cd_law_odd oc_NoWish___init__ kV_NoWish___init__ dc_NoWish___init__ pm_NoWish___init__ ct_NoWish___init__ cd_NoWish___init__ oc_NoReading___init__ kV_NoReading___init__ dc_NoReading___init__ pm_NoReading___init__ ct_NoReading___init__ cd_NoReading___init__ oc_NoWorld___init__ kV_NoWorld___init__ dc_NoWorld___init__ pm_NoWorld___init__ ct_NoWorld___init__ cd_NoWorld___init__ oc_BadText___init__ kV_BadText___init__ dc_BadText___init__ pm_BadText___init__ ct_BadText___init__ cd_BadText___init__ oc_BadReading___init__ kV_BadReading___init__ dc_BadReading___init__ pm_BadReading___init__ ct_BadReading___init__ cd_BadReading___init__ oc_BadKitchen___init__ kV_BadKitchen___init__ dc_BadKitchen___init__ pm_BadKitchen___init__ ct_BadKitchen___init__ cd_BadKitchen___init__ oc_law_sorts kV_law_sorts dc_law_sorts pm_law_sorts ct_law_sorts cd_law_sorts oc_law kV_law dc_law pm_law ct_law cd_law : Value}
    {nm_OvenError q_OvenError : Str} {N_OvenError : Addr} {bs_OvenError : List Value} {sn_OvenError : List Str} {sub_OvenError : List Value} {ab_OvenError : Bool} {col_OvenError : Option Bool} {dd_OvenError : Option Addr} {m0_OvenError m1_OvenError m2_OvenError m3_OvenError m5_OvenError : Option Value}
    (a_OvenError : PySem.W.nsIn K mainGlobals "OvenError" = some (some (.ref CLS_OvenError)))
    (xl_OvenError : K.lookup CLS_OvenError = some (excClassObj nm_OvenError q_OvenError CLS_OvenError N_OvenError bs_OvenError [.type "ValueError", .type "Exception", .type "BaseException", .type "object"] true sn_OvenError sub_OvenError ab_OvenError col_OvenError dd_OvenError m0_OvenError m1_OvenError m2_OvenError m3_OvenError m5_OvenError "ValueError.__new__"))
    (xsa_OvenError : PySem.W.findIn K (.ref CLS_OvenError) "__setattr__" = some (some (.builtin "object.__setattr__")))
    (xga_OvenError : PySem.W.findIn K (.ref CLS_OvenError) "__getattribute__" = some (some (.builtin "BaseException.__getattribute__")))
    (xgg_OvenError : PySem.W.findIn K (.ref CLS_OvenError) "__getattr__" = some none)
    (xk_OvenError : PySem.W.keepIn K (.ref CLS_OvenError) = true)
    (xe_OvenError : PySem.W.subIn K (.ref CLS_OvenError) (.type "BaseException") = some true)
    (xt_OvenError : PySem.W.typeIn K (.ref CLS_OvenError) = some (.type "type"))
    (xh_OvenError : PySem.W.hasDictIn K CLS_OvenError = true)
    (xi_OvenError : PySem.W.isClsIn K CLS_OvenError = true)
    (xs_OvenError : PySem.W.subIn K (.ref CLS_OvenError) (.ref CLS_OvenError) = some true)
    {nm_BadKitchen q_BadKitchen : Str} {N_BadKitchen : Addr} {bs_BadKitchen : List Value} {sn_BadKitchen : List Str} {sub_BadKitchen : List Value} {ab_BadKitchen : Bool} {col_BadKitchen : Option Bool} {dd_BadKitchen : Option Addr} {m0_BadKitchen m1_BadKitchen m2_BadKitchen m3_BadKitchen m5_BadKitchen : Option Value}
    {O_BadKitchen_OvenError : Addr}
    (a_BadKitchen : PySem.W.nsIn K mainGlobals "BadKitchen" = some (some (.ref CLS_BadKitchen)))
    (xl_BadKitchen : K.lookup CLS_BadKitchen = some (excClassObj nm_BadKitchen q_BadKitchen CLS_BadKitchen N_BadKitchen bs_BadKitchen [.ref O_BadKitchen_OvenError, .type "ValueError", .type "Exception", .type "BaseException", .type "object"] true sn_BadKitchen sub_BadKitchen ab_BadKitchen col_BadKitchen dd_BadKitchen m0_BadKitchen m1_BadKitchen m2_BadKitchen m3_BadKitchen m5_BadKitchen "ValueError.__new__"))
    (xsa_BadKitchen : PySem.W.findIn K (.ref CLS_BadKitchen) "__setattr__" = some (some (.builtin "object.__setattr__")))
    (xga_BadKitchen : PySem.W.findIn K (.ref CLS_BadKitchen) "__getattribute__" = some (some (.builtin "BaseException.__getattribute__")))
    (xgg_BadKitchen : PySem.W.findIn K (.ref CLS_BadKitchen) "__getattr__" = some none)
    (xno_BadKitchen_number : PySem.W.findIn K (.ref CLS_BadKitchen) "number" = some none)
    (xno_BadKitchen_word : PySem.W.findIn K (.ref CLS_BadKitchen) "word" = some none)
    (xk_BadKitchen : PySem.W.keepIn K (.ref CLS_BadKitchen) = true)
    (xe_BadKitchen : PySem.W.subIn K (.ref CLS_BadKitchen) (.type "BaseException") = some true)
    (xt_BadKitchen : PySem.W.typeIn K (.ref CLS_BadKitchen) = some (.type "type"))
    (xh_BadKitchen : PySem.W.hasDictIn K CLS_BadKitchen = true)
    (xi_BadKitchen : PySem.W.isClsIn K CLS_BadKitchen = true)
    (xs_BadKitchen : PySem.W.subIn K (.ref CLS_BadKitchen) (.ref CLS_BadKitchen) = some true)
    {nm_BadReading q_BadReading : Str} {N_BadReading : Addr} {bs_BadReading : List Value} {sn_BadReading : List Str} {sub_BadReading : List Value} {ab_BadReading : Bool} {col_BadReading : Option Bool} {dd_BadReading : Option Addr} {m0_BadReading m1_BadReading m2_BadReading m3_BadReading m5_BadReading : Option Value}
    {O_BadReading_OvenError : Addr}
    (a_BadReading : PySem.W.nsIn K mainGlobals "BadReading" = some (some (.ref CLS_BadReading)))
    (xl_BadReading : K.lookup CLS_BadReading = some (excClassObj nm_BadReading q_BadReading CLS_BadReading N_BadReading bs_BadReading [.ref O_BadReading_OvenError, .type "ValueError", .type "Exception", .type "BaseException", .type "object"] true sn_BadReading sub_BadReading ab_BadReading col_BadReading dd_BadReading m0_BadReading m1_BadReading m2_BadReading m3_BadReading m5_BadReading "ValueError.__new__"))
    (xsa_BadReading : PySem.W.findIn K (.ref CLS_BadReading) "__setattr__" = some (some (.builtin "object.__setattr__")))
    (xga_BadReading : PySem.W.findIn K (.ref CLS_BadReading) "__getattribute__" = some (some (.builtin "BaseException.__getattribute__")))
    (xgg_BadReading : PySem.W.findIn K (.ref CLS_BadReading) "__getattr__" = some none)
    (xno_BadReading_number : PySem.W.findIn K (.ref CLS_BadReading) "number" = some none)
    (xno_BadReading_word : PySem.W.findIn K (.ref CLS_BadReading) "word" = some none)
    (xk_BadReading : PySem.W.keepIn K (.ref CLS_BadReading) = true)
    (xe_BadReading : PySem.W.subIn K (.ref CLS_BadReading) (.type "BaseException") = some true)
    (xt_BadReading : PySem.W.typeIn K (.ref CLS_BadReading) = some (.type "type"))
    (xh_BadReading : PySem.W.hasDictIn K CLS_BadReading = true)
    (xi_BadReading : PySem.W.isClsIn K CLS_BadReading = true)
    (xs_BadReading : PySem.W.subIn K (.ref CLS_BadReading) (.ref CLS_BadReading) = some true)
    {nm_BadText q_BadText : Str} {N_BadText : Addr} {bs_BadText : List Value} {sn_BadText : List Str} {sub_BadText : List Value} {ab_BadText : Bool} {col_BadText : Option Bool} {dd_BadText : Option Addr} {m0_BadText m1_BadText m2_BadText m3_BadText m5_BadText : Option Value}
    {O_BadText_OvenError : Addr}
    (a_BadText : PySem.W.nsIn K mainGlobals "BadText" = some (some (.ref CLS_BadText)))
    (xl_BadText : K.lookup CLS_BadText = some (excClassObj nm_BadText q_BadText CLS_BadText N_BadText bs_BadText [.ref O_BadText_OvenError, .type "ValueError", .type "Exception", .type "BaseException", .type "object"] true sn_BadText sub_BadText ab_BadText col_BadText dd_BadText m0_BadText m1_BadText m2_BadText m3_BadText m5_BadText "ValueError.__new__"))
    (xsa_BadText : PySem.W.findIn K (.ref CLS_BadText) "__setattr__" = some (some (.builtin "object.__setattr__")))
    (xga_BadText : PySem.W.findIn K (.ref CLS_BadText) "__getattribute__" = some (some (.builtin "BaseException.__getattribute__")))
    (xgg_BadText : PySem.W.findIn K (.ref CLS_BadText) "__getattr__" = some none)
    (xno_BadText_line : PySem.W.findIn K (.ref CLS_BadText) "line" = some none)
    (xno_BadText_number : PySem.W.findIn K (.ref CLS_BadText) "number" = some none)
    (xk_BadText : PySem.W.keepIn K (.ref CLS_BadText) = true)
    (xe_BadText : PySem.W.subIn K (.ref CLS_BadText) (.type "BaseException") = some true)
    (xt_BadText : PySem.W.typeIn K (.ref CLS_BadText) = some (.type "type"))
    (xh_BadText : PySem.W.hasDictIn K CLS_BadText = true)
    (xi_BadText : PySem.W.isClsIn K CLS_BadText = true)
    (xs_BadText : PySem.W.subIn K (.ref CLS_BadText) (.ref CLS_BadText) = some true)
    {nm_Full q_Full : Str} {N_Full : Addr} {bs_Full : List Value} {sn_Full : List Str} {sub_Full : List Value} {ab_Full : Bool} {col_Full : Option Bool} {dd_Full : Option Addr} {m0_Full m1_Full m2_Full m3_Full m5_Full : Option Value}
    {O_Full_OvenError : Addr}
    (a_Full : PySem.W.nsIn K mainGlobals "Full" = some (some (.ref CLS_Full)))
    (xl_Full : K.lookup CLS_Full = some (excClassObj nm_Full q_Full CLS_Full N_Full bs_Full [.ref O_Full_OvenError, .type "ValueError", .type "Exception", .type "BaseException", .type "object"] true sn_Full sub_Full ab_Full col_Full dd_Full m0_Full m1_Full m2_Full m3_Full m5_Full "ValueError.__new__"))
    (x0_Full : PySem.W.excIn K CLS_Full [.type "ValueError", .type "Exception", .type "BaseException", .type "object"] "ValueError.__new__" = true)
    (xsa_Full : PySem.W.findIn K (.ref CLS_Full) "__setattr__" = some (some (.builtin "object.__setattr__")))
    (xga_Full : PySem.W.findIn K (.ref CLS_Full) "__getattribute__" = some (some (.builtin "BaseException.__getattribute__")))
    (xgg_Full : PySem.W.findIn K (.ref CLS_Full) "__getattr__" = some none)
    (xk_Full : PySem.W.keepIn K (.ref CLS_Full) = true)
    (xe_Full : PySem.W.subIn K (.ref CLS_Full) (.type "BaseException") = some true)
    (xt_Full : PySem.W.typeIn K (.ref CLS_Full) = some (.type "type"))
    (xh_Full : PySem.W.hasDictIn K CLS_Full = true)
    (xi_Full : PySem.W.isClsIn K CLS_Full = true)
    (xs_Full : PySem.W.subIn K (.ref CLS_Full) (.ref CLS_Full) = some true)
    {nm_NoWorld q_NoWorld : Str} {N_NoWorld : Addr} {bs_NoWorld : List Value} {sn_NoWorld : List Str} {sub_NoWorld : List Value} {ab_NoWorld : Bool} {col_NoWorld : Option Bool} {dd_NoWorld : Option Addr} {m0_NoWorld m1_NoWorld m2_NoWorld m3_NoWorld m5_NoWorld : Option Value}
    {O_NoWorld_OvenError : Addr}
    (a_NoWorld : PySem.W.nsIn K mainGlobals "NoWorld" = some (some (.ref CLS_NoWorld)))
    (xl_NoWorld : K.lookup CLS_NoWorld = some (excClassObj nm_NoWorld q_NoWorld CLS_NoWorld N_NoWorld bs_NoWorld [.ref O_NoWorld_OvenError, .type "ValueError", .type "Exception", .type "BaseException", .type "object"] true sn_NoWorld sub_NoWorld ab_NoWorld col_NoWorld dd_NoWorld m0_NoWorld m1_NoWorld m2_NoWorld m3_NoWorld m5_NoWorld "ValueError.__new__"))
    (xsa_NoWorld : PySem.W.findIn K (.ref CLS_NoWorld) "__setattr__" = some (some (.builtin "object.__setattr__")))
    (xga_NoWorld : PySem.W.findIn K (.ref CLS_NoWorld) "__getattribute__" = some (some (.builtin "BaseException.__getattribute__")))
    (xgg_NoWorld : PySem.W.findIn K (.ref CLS_NoWorld) "__getattr__" = some none)
    (xno_NoWorld_numbers : PySem.W.findIn K (.ref CLS_NoWorld) "numbers" = some none)
    (xk_NoWorld : PySem.W.keepIn K (.ref CLS_NoWorld) = true)
    (xe_NoWorld : PySem.W.subIn K (.ref CLS_NoWorld) (.type "BaseException") = some true)
    (xt_NoWorld : PySem.W.typeIn K (.ref CLS_NoWorld) = some (.type "type"))
    (xh_NoWorld : PySem.W.hasDictIn K CLS_NoWorld = true)
    (xi_NoWorld : PySem.W.isClsIn K CLS_NoWorld = true)
    (xs_NoWorld : PySem.W.subIn K (.ref CLS_NoWorld) (.ref CLS_NoWorld) = some true)
    {nm_NothingToUndo q_NothingToUndo : Str} {N_NothingToUndo : Addr} {bs_NothingToUndo : List Value} {sn_NothingToUndo : List Str} {sub_NothingToUndo : List Value} {ab_NothingToUndo : Bool} {col_NothingToUndo : Option Bool} {dd_NothingToUndo : Option Addr} {m0_NothingToUndo m1_NothingToUndo m2_NothingToUndo m3_NothingToUndo m5_NothingToUndo : Option Value}
    {O_NothingToUndo_OvenError : Addr}
    (a_NothingToUndo : PySem.W.nsIn K mainGlobals "NothingToUndo" = some (some (.ref CLS_NothingToUndo)))
    (xl_NothingToUndo : K.lookup CLS_NothingToUndo = some (excClassObj nm_NothingToUndo q_NothingToUndo CLS_NothingToUndo N_NothingToUndo bs_NothingToUndo [.ref O_NothingToUndo_OvenError, .type "ValueError", .type "Exception", .type "BaseException", .type "object"] true sn_NothingToUndo sub_NothingToUndo ab_NothingToUndo col_NothingToUndo dd_NothingToUndo m0_NothingToUndo m1_NothingToUndo m2_NothingToUndo m3_NothingToUndo m5_NothingToUndo "ValueError.__new__"))
    (x0_NothingToUndo : PySem.W.excIn K CLS_NothingToUndo [.type "ValueError", .type "Exception", .type "BaseException", .type "object"] "ValueError.__new__" = true)
    (xsa_NothingToUndo : PySem.W.findIn K (.ref CLS_NothingToUndo) "__setattr__" = some (some (.builtin "object.__setattr__")))
    (xga_NothingToUndo : PySem.W.findIn K (.ref CLS_NothingToUndo) "__getattribute__" = some (some (.builtin "BaseException.__getattribute__")))
    (xgg_NothingToUndo : PySem.W.findIn K (.ref CLS_NothingToUndo) "__getattr__" = some none)
    (xk_NothingToUndo : PySem.W.keepIn K (.ref CLS_NothingToUndo) = true)
    (xe_NothingToUndo : PySem.W.subIn K (.ref CLS_NothingToUndo) (.type "BaseException") = some true)
    (xt_NothingToUndo : PySem.W.typeIn K (.ref CLS_NothingToUndo) = some (.type "type"))
    (xh_NothingToUndo : PySem.W.hasDictIn K CLS_NothingToUndo = true)
    (xi_NothingToUndo : PySem.W.isClsIn K CLS_NothingToUndo = true)
    (xs_NothingToUndo : PySem.W.subIn K (.ref CLS_NothingToUndo) (.ref CLS_NothingToUndo) = some true)
    {nm_NoReading q_NoReading : Str} {N_NoReading : Addr} {bs_NoReading : List Value} {sn_NoReading : List Str} {sub_NoReading : List Value} {ab_NoReading : Bool} {col_NoReading : Option Bool} {dd_NoReading : Option Addr} {m0_NoReading m1_NoReading m2_NoReading m3_NoReading m5_NoReading : Option Value}
    (a_NoReading : PySem.W.nsIn K mainGlobals "NoReading" = some (some (.ref CLS_NoReading)))
    (xl_NoReading : K.lookup CLS_NoReading = some (excClassObj nm_NoReading q_NoReading CLS_NoReading N_NoReading bs_NoReading [.type "LookupError", .type "Exception", .type "BaseException", .type "object"] true sn_NoReading sub_NoReading ab_NoReading col_NoReading dd_NoReading m0_NoReading m1_NoReading m2_NoReading m3_NoReading m5_NoReading "LookupError.__new__"))
    (xsa_NoReading : PySem.W.findIn K (.ref CLS_NoReading) "__setattr__" = some (some (.builtin "object.__setattr__")))
    (xga_NoReading : PySem.W.findIn K (.ref CLS_NoReading) "__getattribute__" = some (some (.builtin "BaseException.__getattribute__")))
    (xgg_NoReading : PySem.W.findIn K (.ref CLS_NoReading) "__getattr__" = some none)
    (xno_NoReading_number : PySem.W.findIn K (.ref CLS_NoReading) "number" = some none)
    (xk_NoReading : PySem.W.keepIn K (.ref CLS_NoReading) = true)
    (xe_NoReading : PySem.W.subIn K (.ref CLS_NoReading) (.type "BaseException") = some true)
    (xt_NoReading : PySem.W.typeIn K (.ref CLS_NoReading) = some (.type "type"))
    (xh_NoReading : PySem.W.hasDictIn K CLS_NoReading = true)
    (xi_NoReading : PySem.W.isClsIn K CLS_NoReading = true)
    (xs_NoReading : PySem.W.subIn K (.ref CLS_NoReading) (.ref CLS_NoReading) = some true)
    {nm_NoWish q_NoWish : Str} {N_NoWish : Addr} {bs_NoWish : List Value} {sn_NoWish : List Str} {sub_NoWish : List Value} {ab_NoWish : Bool} {col_NoWish : Option Bool} {dd_NoWish : Option Addr} {m0_NoWish m1_NoWish m2_NoWish m3_NoWish m5_NoWish : Option Value}
    (a_NoWish : PySem.W.nsIn K mainGlobals "NoWish" = some (some (.ref CLS_NoWish)))
    (xl_NoWish : K.lookup CLS_NoWish = some (excClassObj nm_NoWish q_NoWish CLS_NoWish N_NoWish bs_NoWish [.type "LookupError", .type "Exception", .type "BaseException", .type "object"] true sn_NoWish sub_NoWish ab_NoWish col_NoWish dd_NoWish m0_NoWish m1_NoWish m2_NoWish m3_NoWish m5_NoWish "LookupError.__new__"))
    (xsa_NoWish : PySem.W.findIn K (.ref CLS_NoWish) "__setattr__" = some (some (.builtin "object.__setattr__")))
    (xga_NoWish : PySem.W.findIn K (.ref CLS_NoWish) "__getattribute__" = some (some (.builtin "BaseException.__getattribute__")))
    (xgg_NoWish : PySem.W.findIn K (.ref CLS_NoWish) "__getattr__" = some none)
    (xno_NoWish_number : PySem.W.findIn K (.ref CLS_NoWish) "number" = some none)
    (xk_NoWish : PySem.W.keepIn K (.ref CLS_NoWish) = true)
    (xe_NoWish : PySem.W.subIn K (.ref CLS_NoWish) (.type "BaseException") = some true)
    (xt_NoWish : PySem.W.typeIn K (.ref CLS_NoWish) = some (.type "type"))
    (xh_NoWish : PySem.W.hasDictIn K CLS_NoWish = true)
    (xi_NoWish : PySem.W.isClsIn K CLS_NoWish = true)
    (xs_NoWish : PySem.W.subIn K (.ref CLS_NoWish) (.ref CLS_NoWish) = some true)
    (xhn : PySem.W.specialIn K (.builtin "object.__class__") "__get__" = some (some (.builtin "getset_descriptor.__get__")))
    (xhk : PySem.W.takesIn K (.builtin "object.__class__") = some true)
    (xha_BadKitchen : PySem.W.findIn K (.ref CLS_BadKitchen) "__class__" = some (some (.builtin "object.__class__")))
    (xhm_BadKitchen : PySem.W.mroIn K CLS_BadKitchen (.type "object") = some true)
    (xq_BadKitchen_BadText : PySem.W.kitOne K (.ref CLS_BadKitchen) (.ref CLS_BadText) = some false)
    (xq_BadKitchen_BadReading : PySem.W.kitOne K (.ref CLS_BadKitchen) (.ref CLS_BadReading) = some false)
    (xq_BadKitchen_BadKitchen : PySem.W.kitOne K (.ref CLS_BadKitchen) (.ref CLS_BadKitchen) = some true)
    (xq_BadKitchen_NothingToUndo : PySem.W.kitOne K (.ref CLS_BadKitchen) (.ref CLS_NothingToUndo) = some false)
    (xq_BadKitchen_NoWorld : PySem.W.kitOne K (.ref CLS_BadKitchen) (.ref CLS_NoWorld) = some false)
    (xq_BadKitchen_Full : PySem.W.kitOne K (.ref CLS_BadKitchen) (.ref CLS_Full) = some false)
    (xq_BadKitchen_OvenError : PySem.W.kitOne K (.ref CLS_BadKitchen) (.ref CLS_OvenError) = some true)
    (xq_BadKitchen_NoWish : PySem.W.kitOne K (.ref CLS_BadKitchen) (.ref CLS_NoWish) = some false)
    (xq_BadKitchen_NoReading : PySem.W.kitOne K (.ref CLS_BadKitchen) (.ref CLS_NoReading) = some false)
    (xq_BadKitchen_KeyError : PySem.W.kitOne K (.ref CLS_BadKitchen) (.type "KeyError") = some false)
    (xq_BadKitchen_LookupError : PySem.W.kitOne K (.ref CLS_BadKitchen) (.type "LookupError") = some false)
    (xq_BadKitchen_ValueError : PySem.W.kitOne K (.ref CLS_BadKitchen) (.type "ValueError") = some true)
    (xq_BadKitchen_IndexError : PySem.W.kitOne K (.ref CLS_BadKitchen) (.type "IndexError") = some false)
    (xha_BadReading : PySem.W.findIn K (.ref CLS_BadReading) "__class__" = some (some (.builtin "object.__class__")))
    (xhm_BadReading : PySem.W.mroIn K CLS_BadReading (.type "object") = some true)
    (xq_BadReading_BadText : PySem.W.kitOne K (.ref CLS_BadReading) (.ref CLS_BadText) = some false)
    (xq_BadReading_BadReading : PySem.W.kitOne K (.ref CLS_BadReading) (.ref CLS_BadReading) = some true)
    (xq_BadReading_BadKitchen : PySem.W.kitOne K (.ref CLS_BadReading) (.ref CLS_BadKitchen) = some false)
    (xq_BadReading_NothingToUndo : PySem.W.kitOne K (.ref CLS_BadReading) (.ref CLS_NothingToUndo) = some false)
    (xq_BadReading_NoWorld : PySem.W.kitOne K (.ref CLS_BadReading) (.ref CLS_NoWorld) = some false)
    (xq_BadReading_Full : PySem.W.kitOne K (.ref CLS_BadReading) (.ref CLS_Full) = some false)
    (xq_BadReading_OvenError : PySem.W.kitOne K (.ref CLS_BadReading) (.ref CLS_OvenError) = some true)
    (xq_BadReading_NoWish : PySem.W.kitOne K (.ref CLS_BadReading) (.ref CLS_NoWish) = some false)
    (xq_BadReading_NoReading : PySem.W.kitOne K (.ref CLS_BadReading) (.ref CLS_NoReading) = some false)
    (xq_BadReading_KeyError : PySem.W.kitOne K (.ref CLS_BadReading) (.type "KeyError") = some false)
    (xq_BadReading_LookupError : PySem.W.kitOne K (.ref CLS_BadReading) (.type "LookupError") = some false)
    (xq_BadReading_ValueError : PySem.W.kitOne K (.ref CLS_BadReading) (.type "ValueError") = some true)
    (xq_BadReading_IndexError : PySem.W.kitOne K (.ref CLS_BadReading) (.type "IndexError") = some false)
    (xha_BadText : PySem.W.findIn K (.ref CLS_BadText) "__class__" = some (some (.builtin "object.__class__")))
    (xhm_BadText : PySem.W.mroIn K CLS_BadText (.type "object") = some true)
    (xq_BadText_BadText : PySem.W.kitOne K (.ref CLS_BadText) (.ref CLS_BadText) = some true)
    (xq_BadText_BadReading : PySem.W.kitOne K (.ref CLS_BadText) (.ref CLS_BadReading) = some false)
    (xq_BadText_BadKitchen : PySem.W.kitOne K (.ref CLS_BadText) (.ref CLS_BadKitchen) = some false)
    (xq_BadText_NothingToUndo : PySem.W.kitOne K (.ref CLS_BadText) (.ref CLS_NothingToUndo) = some false)
    (xq_BadText_NoWorld : PySem.W.kitOne K (.ref CLS_BadText) (.ref CLS_NoWorld) = some false)
    (xq_BadText_Full : PySem.W.kitOne K (.ref CLS_BadText) (.ref CLS_Full) = some false)
    (xq_BadText_OvenError : PySem.W.kitOne K (.ref CLS_BadText) (.ref CLS_OvenError) = some true)
    (xq_BadText_NoWish : PySem.W.kitOne K (.ref CLS_BadText) (.ref CLS_NoWish) = some false)
    (xq_BadText_NoReading : PySem.W.kitOne K (.ref CLS_BadText) (.ref CLS_NoReading) = some false)
    (xq_BadText_KeyError : PySem.W.kitOne K (.ref CLS_BadText) (.type "KeyError") = some false)
    (xq_BadText_LookupError : PySem.W.kitOne K (.ref CLS_BadText) (.type "LookupError") = some false)
    (xq_BadText_ValueError : PySem.W.kitOne K (.ref CLS_BadText) (.type "ValueError") = some true)
    (xq_BadText_IndexError : PySem.W.kitOne K (.ref CLS_BadText) (.type "IndexError") = some false)
    (xha_Full : PySem.W.findIn K (.ref CLS_Full) "__class__" = some (some (.builtin "object.__class__")))
    (xhm_Full : PySem.W.mroIn K CLS_Full (.type "object") = some true)
    (xq_Full_BadText : PySem.W.kitOne K (.ref CLS_Full) (.ref CLS_BadText) = some false)
    (xq_Full_BadReading : PySem.W.kitOne K (.ref CLS_Full) (.ref CLS_BadReading) = some false)
    (xq_Full_BadKitchen : PySem.W.kitOne K (.ref CLS_Full) (.ref CLS_BadKitchen) = some false)
    (xq_Full_NothingToUndo : PySem.W.kitOne K (.ref CLS_Full) (.ref CLS_NothingToUndo) = some false)
    (xq_Full_NoWorld : PySem.W.kitOne K (.ref CLS_Full) (.ref CLS_NoWorld) = some false)
    (xq_Full_Full : PySem.W.kitOne K (.ref CLS_Full) (.ref CLS_Full) = some true)
    (xq_Full_OvenError : PySem.W.kitOne K (.ref CLS_Full) (.ref CLS_OvenError) = some true)
    (xq_Full_NoWish : PySem.W.kitOne K (.ref CLS_Full) (.ref CLS_NoWish) = some false)
    (xq_Full_NoReading : PySem.W.kitOne K (.ref CLS_Full) (.ref CLS_NoReading) = some false)
    (xq_Full_KeyError : PySem.W.kitOne K (.ref CLS_Full) (.type "KeyError") = some false)
    (xq_Full_LookupError : PySem.W.kitOne K (.ref CLS_Full) (.type "LookupError") = some false)
    (xq_Full_ValueError : PySem.W.kitOne K (.ref CLS_Full) (.type "ValueError") = some true)
    (xq_Full_IndexError : PySem.W.kitOne K (.ref CLS_Full) (.type "IndexError") = some false)
    (xha_NoWorld : PySem.W.findIn K (.ref CLS_NoWorld) "__class__" = some (some (.builtin "object.__class__")))
    (xhm_NoWorld : PySem.W.mroIn K CLS_NoWorld (.type "object") = some true)
    (xq_NoWorld_BadText : PySem.W.kitOne K (.ref CLS_NoWorld) (.ref CLS_BadText) = some false)
    (xq_NoWorld_BadReading : PySem.W.kitOne K (.ref CLS_NoWorld) (.ref CLS_BadReading) = some false)
    (xq_NoWorld_BadKitchen : PySem.W.kitOne K (.ref CLS_NoWorld) (.ref CLS_BadKitchen) = some false)
    (xq_NoWorld_NothingToUndo : PySem.W.kitOne K (.ref CLS_NoWorld) (.ref CLS_NothingToUndo) = some false)
    (xq_NoWorld_NoWorld : PySem.W.kitOne K (.ref CLS_NoWorld) (.ref CLS_NoWorld) = some true)
    (xq_NoWorld_Full : PySem.W.kitOne K (.ref CLS_NoWorld) (.ref CLS_Full) = some false)
    (xq_NoWorld_OvenError : PySem.W.kitOne K (.ref CLS_NoWorld) (.ref CLS_OvenError) = some true)
    (xq_NoWorld_NoWish : PySem.W.kitOne K (.ref CLS_NoWorld) (.ref CLS_NoWish) = some false)
    (xq_NoWorld_NoReading : PySem.W.kitOne K (.ref CLS_NoWorld) (.ref CLS_NoReading) = some false)
    (xq_NoWorld_KeyError : PySem.W.kitOne K (.ref CLS_NoWorld) (.type "KeyError") = some false)
    (xq_NoWorld_LookupError : PySem.W.kitOne K (.ref CLS_NoWorld) (.type "LookupError") = some false)
    (xq_NoWorld_ValueError : PySem.W.kitOne K (.ref CLS_NoWorld) (.type "ValueError") = some true)
    (xq_NoWorld_IndexError : PySem.W.kitOne K (.ref CLS_NoWorld) (.type "IndexError") = some false)
    (xha_NothingToUndo : PySem.W.findIn K (.ref CLS_NothingToUndo) "__class__" = some (some (.builtin "object.__class__")))
    (xhm_NothingToUndo : PySem.W.mroIn K CLS_NothingToUndo (.type "object") = some true)
    (xq_NothingToUndo_BadText : PySem.W.kitOne K (.ref CLS_NothingToUndo) (.ref CLS_BadText) = some false)
    (xq_NothingToUndo_BadReading : PySem.W.kitOne K (.ref CLS_NothingToUndo) (.ref CLS_BadReading) = some false)
    (xq_NothingToUndo_BadKitchen : PySem.W.kitOne K (.ref CLS_NothingToUndo) (.ref CLS_BadKitchen) = some false)
    (xq_NothingToUndo_NothingToUndo : PySem.W.kitOne K (.ref CLS_NothingToUndo) (.ref CLS_NothingToUndo) = some true)
    (xq_NothingToUndo_NoWorld : PySem.W.kitOne K (.ref CLS_NothingToUndo) (.ref CLS_NoWorld) = some false)
    (xq_NothingToUndo_Full : PySem.W.kitOne K (.ref CLS_NothingToUndo) (.ref CLS_Full) = some false)
    (xq_NothingToUndo_OvenError : PySem.W.kitOne K (.ref CLS_NothingToUndo) (.ref CLS_OvenError) = some true)
    (xq_NothingToUndo_NoWish : PySem.W.kitOne K (.ref CLS_NothingToUndo) (.ref CLS_NoWish) = some false)
    (xq_NothingToUndo_NoReading : PySem.W.kitOne K (.ref CLS_NothingToUndo) (.ref CLS_NoReading) = some false)
    (xq_NothingToUndo_KeyError : PySem.W.kitOne K (.ref CLS_NothingToUndo) (.type "KeyError") = some false)
    (xq_NothingToUndo_LookupError : PySem.W.kitOne K (.ref CLS_NothingToUndo) (.type "LookupError") = some false)
    (xq_NothingToUndo_ValueError : PySem.W.kitOne K (.ref CLS_NothingToUndo) (.type "ValueError") = some true)
    (xq_NothingToUndo_IndexError : PySem.W.kitOne K (.ref CLS_NothingToUndo) (.type "IndexError") = some false)
    (xha_NoReading : PySem.W.findIn K (.ref CLS_NoReading) "__class__" = some (some (.builtin "object.__class__")))
    (xhm_NoReading : PySem.W.mroIn K CLS_NoReading (.type "object") = some true)
    (xq_NoReading_BadText : PySem.W.kitOne K (.ref CLS_NoReading) (.ref CLS_BadText) = some false)
    (xq_NoReading_BadReading : PySem.W.kitOne K (.ref CLS_NoReading) (.ref CLS_BadReading) = some false)
    (xq_NoReading_BadKitchen : PySem.W.kitOne K (.ref CLS_NoReading) (.ref CLS_BadKitchen) = some false)
    (xq_NoReading_NothingToUndo : PySem.W.kitOne K (.ref CLS_NoReading) (.ref CLS_NothingToUndo) = some false)
    (xq_NoReading_NoWorld : PySem.W.kitOne K (.ref CLS_NoReading) (.ref CLS_NoWorld) = some false)
    (xq_NoReading_Full : PySem.W.kitOne K (.ref CLS_NoReading) (.ref CLS_Full) = some false)
    (xq_NoReading_OvenError : PySem.W.kitOne K (.ref CLS_NoReading) (.ref CLS_OvenError) = some false)
    (xq_NoReading_NoWish : PySem.W.kitOne K (.ref CLS_NoReading) (.ref CLS_NoWish) = some false)
    (xq_NoReading_NoReading : PySem.W.kitOne K (.ref CLS_NoReading) (.ref CLS_NoReading) = some true)
    (xq_NoReading_KeyError : PySem.W.kitOne K (.ref CLS_NoReading) (.type "KeyError") = some false)
    (xq_NoReading_LookupError : PySem.W.kitOne K (.ref CLS_NoReading) (.type "LookupError") = some true)
    (xq_NoReading_ValueError : PySem.W.kitOne K (.ref CLS_NoReading) (.type "ValueError") = some false)
    (xq_NoReading_IndexError : PySem.W.kitOne K (.ref CLS_NoReading) (.type "IndexError") = some false)
    (xha_NoWish : PySem.W.findIn K (.ref CLS_NoWish) "__class__" = some (some (.builtin "object.__class__")))
    (xhm_NoWish : PySem.W.mroIn K CLS_NoWish (.type "object") = some true)
    (xq_NoWish_BadText : PySem.W.kitOne K (.ref CLS_NoWish) (.ref CLS_BadText) = some false)
    (xq_NoWish_BadReading : PySem.W.kitOne K (.ref CLS_NoWish) (.ref CLS_BadReading) = some false)
    (xq_NoWish_BadKitchen : PySem.W.kitOne K (.ref CLS_NoWish) (.ref CLS_BadKitchen) = some false)
    (xq_NoWish_NothingToUndo : PySem.W.kitOne K (.ref CLS_NoWish) (.ref CLS_NothingToUndo) = some false)
    (xq_NoWish_NoWorld : PySem.W.kitOne K (.ref CLS_NoWish) (.ref CLS_NoWorld) = some false)
    (xq_NoWish_Full : PySem.W.kitOne K (.ref CLS_NoWish) (.ref CLS_Full) = some false)
    (xq_NoWish_OvenError : PySem.W.kitOne K (.ref CLS_NoWish) (.ref CLS_OvenError) = some false)
    (xq_NoWish_NoWish : PySem.W.kitOne K (.ref CLS_NoWish) (.ref CLS_NoWish) = some true)
    (xq_NoWish_NoReading : PySem.W.kitOne K (.ref CLS_NoWish) (.ref CLS_NoReading) = some false)
    (xq_NoWish_KeyError : PySem.W.kitOne K (.ref CLS_NoWish) (.type "KeyError") = some false)
    (xq_NoWish_LookupError : PySem.W.kitOne K (.ref CLS_NoWish) (.type "LookupError") = some true)
    (xq_NoWish_ValueError : PySem.W.kitOne K (.ref CLS_NoWish) (.type "ValueError") = some false)
    (xq_NoWish_IndexError : PySem.W.kitOne K (.ref CLS_NoWish) (.type "IndexError") = some false)
    (a_law_bag : PySem.W.nsIn K mainGlobals "_law_bag" = some (some (.ref f_law_bag)))
    (l_law_bag : K.lookup f_law_bag = some ⟨oc_law_bag, od_law_bag, .func (PySem.W.fnOf "_law_bag" "_law_bag" (defArgs s_law_bag) (defBody s_law_bag) (defScope s_law_bag) .none kV_law_bag dc_law_bag pm_law_bag an_law_bag cd_law_bag ct_law_bag), sl_law_bag⟩)
    (c_law_bag : PySem.W.codeIn K cd_law_bag "_law_bag" = true)
    (k_law_bag : PySem.W.keepIn K (.ref f_law_bag) = true)
    (a_law_draw : PySem.W.nsIn K mainGlobals "_law_draw" = some (some (.ref f_law_draw)))
    (l_law_draw : K.lookup f_law_draw = some ⟨oc_law_draw, od_law_draw, .func (PySem.W.fnOf "_law_draw" "_law_draw" (defArgs s_law_draw) (defBody s_law_draw) (defScope s_law_draw) .none kV_law_draw dc_law_draw pm_law_draw an_law_draw cd_law_draw ct_law_draw), sl_law_draw⟩)
    (c_law_draw : PySem.W.codeIn K cd_law_draw "_law_draw" = true)
    (k_law_draw : PySem.W.keepIn K (.ref f_law_draw) = true)
    (a_law_pick : PySem.W.nsIn K mainGlobals "_law_pick" = some (some (.ref f_law_pick)))
    (l_law_pick : K.lookup f_law_pick = some ⟨oc_law_pick, od_law_pick, .func (PySem.W.fnOf "_law_pick" "_law_pick" (defArgs s_law_pick) (defBody s_law_pick) (defScope s_law_pick) .none kV_law_pick dc_law_pick pm_law_pick an_law_pick cd_law_pick ct_law_pick), sl_law_pick⟩)
    (c_law_pick : PySem.W.codeIn K cd_law_pick "_law_pick" = true)
    (k_law_pick : PySem.W.keepIn K (.ref f_law_pick) = true)
    (a_law_odd : PySem.W.nsIn K mainGlobals "_law_odd" = some (some (.ref f_law_odd)))
    (l_law_odd : K.lookup f_law_odd = some ⟨oc_law_odd, od_law_odd, .func (PySem.W.fnOf "_law_odd" "_law_odd" (defArgs s_law_odd) (defBody s_law_odd) (defScope s_law_odd) .none kV_law_odd dc_law_odd pm_law_odd an_law_odd cd_law_odd ct_law_odd), sl_law_odd⟩)
    (c_law_odd : PySem.W.codeIn K cd_law_odd "_law_odd" = true)
    (k_law_odd : PySem.W.keepIn K (.ref f_law_odd) = true)
    (a_NoWish___init__ : PySem.W.findIn K (.ref CLS_NoWish) "__init__" = some (some (.ref f_NoWish___init__)))
    (i_NoWish___init__ : PySem.W.isFn K (.ref f_NoWish___init__) = true)
    (l_NoWish___init__ : K.lookup f_NoWish___init__ = some ⟨oc_NoWish___init__, od_NoWish___init__, .func (PySem.W.fnOf "__init__" "NoWish.__init__" (defArgs s_NoWish___init__) (defBody s_NoWish___init__) (defScope s_NoWish___init__) .none kV_NoWish___init__ dc_NoWish___init__ pm_NoWish___init__ an_NoWish___init__ cd_NoWish___init__ ct_NoWish___init__), sl_NoWish___init__⟩)
    (c_NoWish___init__ : PySem.W.codeIn K cd_NoWish___init__ "NoWish.__init__" = true)
    (k_NoWish___init__ : PySem.W.keepIn K (.ref f_NoWish___init__) = true)
    (a_NoReading___init__ : PySem.W.findIn K (.ref CLS_NoReading) "__init__" = some (some (.ref f_NoReading___init__)))
    (i_NoReading___init__ : PySem.W.isFn K (.ref f_NoReading___init__) = true)
    (l_NoReading___init__ : K.lookup f_NoReading___init__ = some ⟨oc_NoReading___init__, od_NoReading___init__, .func (PySem.W.fnOf "__init__" "NoReading.__init__" (defArgs s_NoReading___init__) (defBody s_NoReading___init__) (defScope s_NoReading___init__) .none kV_NoReading___init__ dc_NoReading___init__ pm_NoReading___init__ an_NoReading___init__ cd_NoReading___init__ ct_NoReading___init__), sl_NoReading___init__⟩)
    (c_NoReading___init__ : PySem.W.codeIn K cd_NoReading___init__ "NoReading.__init__" = true)
    (k_NoReading___init__ : PySem.W.keepIn K (.ref f_NoReading___init__) = true)
    (a_NoWorld___init__ : PySem.W.findIn K (.ref CLS_NoWorld) "__init__" = some (some (.ref f_NoWorld___init__)))
    (i_NoWorld___init__ : PySem.W.isFn K (.ref f_NoWorld___init__) = true)
    (l_NoWorld___init__ : K.lookup f_NoWorld___init__ = some ⟨oc_NoWorld___init__, od_NoWorld___init__, .func (PySem.W.fnOf "__init__" "NoWorld.__init__" (defArgs s_NoWorld___init__) (defBody s_NoWorld___init__) (defScope s_NoWorld___init__) .none kV_NoWorld___init__ dc_NoWorld___init__ pm_NoWorld___init__ an_NoWorld___init__ cd_NoWorld___init__ ct_NoWorld___init__), sl_NoWorld___init__⟩)
    (c_NoWorld___init__ : PySem.W.codeIn K cd_NoWorld___init__ "NoWorld.__init__" = true)
    (k_NoWorld___init__ : PySem.W.keepIn K (.ref f_NoWorld___init__) = true)
    (a_BadText___init__ : PySem.W.findIn K (.ref CLS_BadText) "__init__" = some (some (.ref f_BadText___init__)))
    (i_BadText___init__ : PySem.W.isFn K (.ref f_BadText___init__) = true)
    (l_BadText___init__ : K.lookup f_BadText___init__ = some ⟨oc_BadText___init__, od_BadText___init__, .func (PySem.W.fnOf "__init__" "BadText.__init__" (defArgs s_BadText___init__) (defBody s_BadText___init__) (defScope s_BadText___init__) .none kV_BadText___init__ dc_BadText___init__ pm_BadText___init__ an_BadText___init__ cd_BadText___init__ ct_BadText___init__), sl_BadText___init__⟩)
    (c_BadText___init__ : PySem.W.codeIn K cd_BadText___init__ "BadText.__init__" = true)
    (k_BadText___init__ : PySem.W.keepIn K (.ref f_BadText___init__) = true)
    (a_BadReading___init__ : PySem.W.findIn K (.ref CLS_BadReading) "__init__" = some (some (.ref f_BadReading___init__)))
    (i_BadReading___init__ : PySem.W.isFn K (.ref f_BadReading___init__) = true)
    (l_BadReading___init__ : K.lookup f_BadReading___init__ = some ⟨oc_BadReading___init__, od_BadReading___init__, .func (PySem.W.fnOf "__init__" "BadReading.__init__" (defArgs s_BadReading___init__) (defBody s_BadReading___init__) (defScope s_BadReading___init__) .none kV_BadReading___init__ dc_BadReading___init__ pm_BadReading___init__ an_BadReading___init__ cd_BadReading___init__ ct_BadReading___init__), sl_BadReading___init__⟩)
    (c_BadReading___init__ : PySem.W.codeIn K cd_BadReading___init__ "BadReading.__init__" = true)
    (k_BadReading___init__ : PySem.W.keepIn K (.ref f_BadReading___init__) = true)
    (a_BadKitchen___init__ : PySem.W.findIn K (.ref CLS_BadKitchen) "__init__" = some (some (.ref f_BadKitchen___init__)))
    (i_BadKitchen___init__ : PySem.W.isFn K (.ref f_BadKitchen___init__) = true)
    (l_BadKitchen___init__ : K.lookup f_BadKitchen___init__ = some ⟨oc_BadKitchen___init__, od_BadKitchen___init__, .func (PySem.W.fnOf "__init__" "BadKitchen.__init__" (defArgs s_BadKitchen___init__) (defBody s_BadKitchen___init__) (defScope s_BadKitchen___init__) .none kV_BadKitchen___init__ dc_BadKitchen___init__ pm_BadKitchen___init__ an_BadKitchen___init__ cd_BadKitchen___init__ ct_BadKitchen___init__), sl_BadKitchen___init__⟩)
    (c_BadKitchen___init__ : PySem.W.codeIn K cd_BadKitchen___init__ "BadKitchen.__init__" = true)
    (k_BadKitchen___init__ : PySem.W.keepIn K (.ref f_BadKitchen___init__) = true)
    (a_law_sorts : PySem.W.nsIn K mainGlobals "_law_sorts" = some (some (.ref f_law_sorts)))
    (l_law_sorts : K.lookup f_law_sorts = some ⟨oc_law_sorts, od_law_sorts, .func (PySem.W.fnOf "_law_sorts" "_law_sorts" (defArgs s_law_sorts) (defBody s_law_sorts) (defScope s_law_sorts) .none kV_law_sorts dc_law_sorts pm_law_sorts an_law_sorts cd_law_sorts ct_law_sorts), sl_law_sorts⟩)
    (c_law_sorts : PySem.W.codeIn K cd_law_sorts "_law_sorts" = true)
    (k_law_sorts : PySem.W.keepIn K (.ref f_law_sorts) = true)
    (a_law : PySem.W.nsIn K mainGlobals "law" = some (some (.ref f_law)))
    (l_law : K.lookup f_law = some ⟨oc_law, od_law, .func (PySem.W.fnOf "law" "law" (defArgs s_law) (defBody s_law) (defScope s_law) .none kV_law dc_law pm_law an_law cd_law ct_law), sl_law⟩)
    (c_law : PySem.W.codeIn K cd_law "law" = true)
    (k_law : PySem.W.keepIn K (.ref f_law) = true)
    (n_IndexError : PySem.W.nsIn K mainGlobals "IndexError" = some none)
    (n_KeyError : PySem.W.nsIn K mainGlobals "KeyError" = some none)
    (n_LookupError : PySem.W.nsIn K mainGlobals "LookupError" = some none)
    (n_ValueError : PySem.W.nsIn K mainGlobals "ValueError" = some none)
    (n_abs : PySem.W.nsIn K mainGlobals "abs" = some none)
    (n_enumerate : PySem.W.nsIn K mainGlobals "enumerate" = some none)
    (n_int : PySem.W.nsIn K mainGlobals "int" = some none)
    (n_isinstance : PySem.W.nsIn K mainGlobals "isinstance" = some none)
    (n_len : PySem.W.nsIn K mainGlobals "len" = some none)
    (n_range : PySem.W.nsIn K mainGlobals "range" = some none)
    (n_repr : PySem.W.nsIn K mainGlobals "repr" = some none)
    {t_cMAX_BENDS : Tok}
    (v_cMAX_BENDS : PySem.W.nsIn K mainGlobals "MAX_BENDS" = some (some (.int 200 t_cMAX_BENDS)))
    {t_cMAX_DIALS : Tok}
    (v_cMAX_DIALS : PySem.W.nsIn K mainGlobals "MAX_DIALS" = some (some (.int 1000000000 t_cMAX_DIALS)))
    {t_cMAX_DISHES : Tok}
    (v_cMAX_DISHES : PySem.W.nsIn K mainGlobals "MAX_DISHES" = some (some (.int 6 t_cMAX_DISHES)))
    {t_cMAX_EDITS : Tok}
    (v_cMAX_EDITS : PySem.W.nsIn K mainGlobals "MAX_EDITS" = some (some (.int 20 t_cMAX_EDITS)))
    {t_cMAX_HEAT : Tok}
    (v_cMAX_HEAT : PySem.W.nsIn K mainGlobals "MAX_HEAT" = some (some (.int 1000000000000 t_cMAX_HEAT)))
    {t_cMAX_LOADS : Tok}
    (v_cMAX_LOADS : PySem.W.nsIn K mainGlobals "MAX_LOADS" = some (some (.int 4 t_cMAX_LOADS)))
    {t_cMAX_MENU : Tok}
    (v_cMAX_MENU : PySem.W.nsIn K mainGlobals "MAX_MENU" = some (some (.int 4 t_cMAX_MENU)))
    {t_cMAX_MINUTES : Tok}
    (v_cMAX_MINUTES : PySem.W.nsIn K mainGlobals "MAX_MINUTES" = some (some (.int 1000000 t_cMAX_MINUTES)))
    {t_cMAX_OVENS : Tok}
    (v_cMAX_OVENS : PySem.W.nsIn K mainGlobals "MAX_OVENS" = some (some (.int 4 t_cMAX_OVENS)))
    {t_cMAX_READINGS : Tok}
    (v_cMAX_READINGS : PySem.W.nsIn K mainGlobals "MAX_READINGS" = some (some (.int 20 t_cMAX_READINGS)))
    {t_cMAX_SLOPE : Tok}
    (v_cMAX_SLOPE : PySem.W.nsIn K mainGlobals "MAX_SLOPE" = some (some (.int 1000000000 t_cMAX_SLOPE)))
    {t_cMAX_TIES : Tok}
    (v_cMAX_TIES : PySem.W.nsIn K mainGlobals "MAX_TIES" = some (some (.int 6 t_cMAX_TIES)))
    {t_cMAX_WARMTH : Tok}
    (v_cMAX_WARMTH : PySem.W.nsIn K mainGlobals "MAX_WARMTH" = some (some (.int 1000000000000000000000000 t_cMAX_WARMTH)))
    {t_cMAX_WISHES : Tok}
    (v_cMAX_WISHES : PySem.W.nsIn K mainGlobals "MAX_WISHES" = some (some (.int 6 t_cMAX_WISHES))) :
    ∃ (fd : FuncData) (T : CTab), (∀ (s : Shared) (v : Value), BindsTo s fd ⟨[v], []⟩ [("_law_script", v)]) ∧ ∀ base : Heap, K.In base → base.Ns mainGlobals mg → FnG l.prog w K mg base CX0 4 fa fd ["_law_script"] (spD K 1 (runD 13 (@b_law T))) := by
  obtain ⟨fd, q1, q2⟩ := all_mk1 (I0 := ({ w := w, OvenError := CLS_OvenError, BadKitchen := CLS_BadKitchen, BadReading := CLS_BadReading, BadText := CLS_BadText, Full := CLS_Full, NoWorld := CLS_NoWorld, NothingToUndo := CLS_NothingToUndo, NoReading := CLS_NoReading, NoWish := CLS_NoWish } : CTab)) (l := l) (w := w) rfl X G hfa a_OvenError xl_OvenError xsa_OvenError xga_OvenError xgg_OvenError xk_OvenError xe_OvenError xt_OvenError xh_OvenError xi_OvenError xs_OvenError a_BadKitchen xl_BadKitchen xsa_BadKitchen xga_BadKitchen xgg_BadKitchen xno_BadKitchen_number xno_BadKitchen_word xk_BadKitchen xe_BadKitchen xt_BadKitchen xh_BadKitchen xi_BadKitchen xs_BadKitchen a_BadReading xl_BadReading xsa_BadReading xga_BadReading xgg_BadReading xno_BadReading_number xno_BadReading_word xk_BadReading xe_BadReading xt_BadReading xh_BadReading xi_BadReading xs_BadReading a_BadText xl_BadText xsa_BadText xga_BadText xgg_BadText xno_BadText_line xno_BadText_number xk_BadText xe_BadText xt_BadText xh_BadText xi_BadText xs_BadText a_Full xl_Full x0_Full xsa_Full xga_Full xgg_Full xk_Full xe_Full xt_Full xh_Full xi_Full xs_Full a_NoWorld xl_NoWorld xsa_NoWorld xga_NoWorld xgg_NoWorld xno_NoWorld_numbers xk_NoWorld xe_NoWorld xt_NoWorld xh_NoWorld xi_NoWorld xs_NoWorld a_NothingToUndo xl_NothingToUndo x0_NothingToUndo xsa_NothingToUndo xga_NothingToUndo xgg_NothingToUndo xk_NothingToUndo xe_NothingToUndo xt_NothingToUndo xh_NothingToUndo xi_NothingToUndo xs_NothingToUndo a_NoReading xl_NoReading xsa_NoReading xga_NoReading xgg_NoReading xno_NoReading_number xk_NoReading xe_NoReading xt_NoReading xh_NoReading xi_NoReading xs_NoReading a_NoWish xl_NoWish xsa_NoWish xga_NoWish xgg_NoWish xno_NoWish_number xk_NoWish xe_NoWish xt_NoWish xh_NoWish xi_NoWish xs_NoWish xhn xhk xha_BadKitchen xhm_BadKitchen xq_BadKitchen_BadText xq_BadKitchen_BadReading xq_BadKitchen_BadKitchen xq_BadKitchen_NothingToUndo xq_BadKitchen_NoWorld xq_BadKitchen_Full xq_BadKitchen_OvenError xq_BadKitchen_NoWish xq_BadKitchen_NoReading xq_BadKitchen_KeyError xq_BadKitchen_LookupError xq_BadKitchen_ValueError xq_BadKitchen_IndexError xha_BadReading xhm_BadReading xq_BadReading_BadText xq_BadReading_BadReading xq_BadReading_BadKitchen xq_BadReading_NothingToUndo xq_BadReading_NoWorld xq_BadReading_Full xq_BadReading_OvenError xq_BadReading_NoWish xq_BadReading_NoReading xq_BadReading_KeyError xq_BadReading_LookupError xq_BadReading_ValueError xq_BadReading_IndexError xha_BadText xhm_BadText xq_BadText_BadText xq_BadText_BadReading xq_BadText_BadKitchen xq_BadText_NothingToUndo xq_BadText_NoWorld xq_BadText_Full xq_BadText_OvenError xq_BadText_NoWish xq_BadText_NoReading xq_BadText_KeyError xq_BadText_LookupError xq_BadText_ValueError xq_BadText_IndexError xha_Full xhm_Full xq_Full_BadText xq_Full_BadReading xq_Full_BadKitchen xq_Full_NothingToUndo xq_Full_NoWorld xq_Full_Full xq_Full_OvenError xq_Full_NoWish xq_Full_NoReading xq_Full_KeyError xq_Full_LookupError xq_Full_ValueError xq_Full_IndexError xha_NoWorld xhm_NoWorld xq_NoWorld_BadText xq_NoWorld_BadReading xq_NoWorld_BadKitchen xq_NoWorld_NothingToUndo xq_NoWorld_NoWorld xq_NoWorld_Full xq_NoWorld_OvenError xq_NoWorld_NoWish xq_NoWorld_NoReading xq_NoWorld_KeyError xq_NoWorld_LookupError xq_NoWorld_ValueError xq_NoWorld_IndexError xha_NothingToUndo xhm_NothingToUndo xq_NothingToUndo_BadText xq_NothingToUndo_BadReading xq_NothingToUndo_BadKitchen xq_NothingToUndo_NothingToUndo xq_NothingToUndo_NoWorld xq_NothingToUndo_Full xq_NothingToUndo_OvenError xq_NothingToUndo_NoWish xq_NothingToUndo_NoReading xq_NothingToUndo_KeyError xq_NothingToUndo_LookupError xq_NothingToUndo_ValueError xq_NothingToUndo_IndexError xha_NoReading xhm_NoReading xq_NoReading_BadText xq_NoReading_BadReading xq_NoReading_BadKitchen xq_NoReading_NothingToUndo xq_NoReading_NoWorld xq_NoReading_Full xq_NoReading_OvenError xq_NoReading_NoWish xq_NoReading_NoReading xq_NoReading_KeyError xq_NoReading_LookupError xq_NoReading_ValueError xq_NoReading_IndexError xha_NoWish xhm_NoWish xq_NoWish_BadText xq_NoWish_BadReading xq_NoWish_BadKitchen xq_NoWish_NothingToUndo xq_NoWish_NoWorld xq_NoWish_Full xq_NoWish_OvenError xq_NoWish_NoWish xq_NoWish_NoReading xq_NoWish_KeyError xq_NoWish_LookupError xq_NoWish_ValueError xq_NoWish_IndexError a_law_bag l_law_bag c_law_bag k_law_bag a_law_draw l_law_draw c_law_draw k_law_draw a_law_pick l_law_pick c_law_pick k_law_pick a_law_odd l_law_odd c_law_odd k_law_odd a_NoWish___init__ i_NoWish___init__ l_NoWish___init__ c_NoWish___init__ k_NoWish___init__ a_NoReading___init__ i_NoReading___init__ l_NoReading___init__ c_NoReading___init__ k_NoReading___init__ a_NoWorld___init__ i_NoWorld___init__ l_NoWorld___init__ c_NoWorld___init__ k_NoWorld___init__ a_BadText___init__ i_BadText___init__ l_BadText___init__ c_BadText___init__ k_BadText___init__ a_BadReading___init__ i_BadReading___init__ l_BadReading___init__ c_BadReading___init__ k_BadReading___init__ a_BadKitchen___init__ i_BadKitchen___init__ l_BadKitchen___init__ c_BadKitchen___init__ k_BadKitchen___init__ a_law_sorts l_law_sorts c_law_sorts k_law_sorts a_law l_law c_law k_law n_IndexError n_KeyError n_LookupError n_ValueError n_abs n_enumerate n_int n_isinstance n_len n_range n_repr v_cMAX_BENDS v_cMAX_DIALS v_cMAX_DISHES v_cMAX_EDITS v_cMAX_HEAT v_cMAX_LOADS v_cMAX_MENU v_cMAX_MINUTES v_cMAX_OVENS v_cMAX_READINGS v_cMAX_SLOPE v_cMAX_TIES v_cMAX_WARMTH v_cMAX_WISHES
  exact ⟨fd, _, q1, q2⟩
end DL
open PySem PySem.W PyProof.Rows
set_option pp.deepTerms false
set_option pp.deepTerms.threshold 3
set_option pp.maxSteps 600
set_option maxRecDepth 100000 in
set_option maxHeartbeats 0 in
theorem PySem.Challenge.cw_ovensuntold_k66_errors_and_bounds_holds : PySem.Challenge.rw_ovensuntold_k66_errors_and_bounds.Holds := by
  w_on; o_law; k_head; (case hw => w_witness2)
  k_fill
  refine DL.walkC (l := PySem.Challenge.rw_ovensuntold_k66_errors_and_bounds) (n := 63) (k := 4) (x := "_law_script") (m := 13) (b := fun T => @DL.b_law T) rfl (by decide) rfl ⟨⟨rfl, by decide, by decide⟩, rfl⟩ (fun w h Y => PySem.W.kIn_of Y) ?F fun T => @DL.law_holds T
  case F =>
    intro w mg fa h KX G hmg
    refine' DL.all_mk KX G hmg ?a_OvenError ?xl_OvenError ?xsa_OvenError ?xga_OvenError ?xgg_OvenError ?xk_OvenError ?xe_OvenError ?xt_OvenError ?xh_OvenError ?xi_OvenError ?xs_OvenError ?a_BadKitchen ?xl_BadKitchen ?xsa_BadKitchen ?xga_BadKitchen ?xgg_BadKitchen ?xno_BadKitchen_number ?xno_BadKitchen_word ?xk_BadKitchen ?xe_BadKitchen ?xt_BadKitchen ?xh_BadKitchen ?xi_BadKitchen ?xs_BadKitchen ?a_BadReading ?xl_BadReading ?xsa_BadReading ?xga_BadReading ?xgg_BadReading ?xno_BadReading_number ?xno_BadReading_word ?xk_BadReading ?xe_BadReading ?xt_BadReading ?xh_BadReading ?xi_BadReading ?xs_BadReading ?a_BadText ?xl_BadText ?xsa_BadText ?xga_BadText ?xgg_BadText ?xno_BadText_line ?xno_BadText_number ?xk_BadText ?xe_BadText ?xt_BadText ?xh_BadText ?xi_BadText ?xs_BadText ?a_Full ?xl_Full ?x0_Full ?xsa_Full ?xga_Full ?xgg_Full ?xk_Full ?xe_Full ?xt_Full ?xh_Full ?xi_Full ?xs_Full ?a_NoWorld ?xl_NoWorld ?xsa_NoWorld ?xga_NoWorld ?xgg_NoWorld ?xno_NoWorld_numbers ?xk_NoWorld ?xe_NoWorld ?xt_NoWorld ?xh_NoWorld ?xi_NoWorld ?xs_NoWorld ?a_NothingToUndo ?xl_NothingToUndo ?x0_NothingToUndo ?xsa_NothingToUndo ?xga_NothingToUndo ?xgg_NothingToUndo ?xk_NothingToUndo ?xe_NothingToUndo ?xt_NothingToUndo ?xh_NothingToUndo ?xi_NothingToUndo ?xs_NothingToUndo ?a_NoReading ?xl_NoReading ?xsa_NoReading ?xga_NoReading ?xgg_NoReading ?xno_NoReading_number ?xk_NoReading ?xe_NoReading ?xt_NoReading ?xh_NoReading ?xi_NoReading ?xs_NoReading ?a_NoWish ?xl_NoWish ?xsa_NoWish ?xga_NoWish ?xgg_NoWish ?xno_NoWish_number ?xk_NoWish ?xe_NoWish ?xt_NoWish ?xh_NoWish ?xi_NoWish ?xs_NoWish ?xhn ?xhk ?xha_BadKitchen ?xhm_BadKitchen ?xq_BadKitchen_BadText ?xq_BadKitchen_BadReading ?xq_BadKitchen_BadKitchen ?xq_BadKitchen_NothingToUndo ?xq_BadKitchen_NoWorld ?xq_BadKitchen_Full ?xq_BadKitchen_OvenError ?xq_BadKitchen_NoWish ?xq_BadKitchen_NoReading ?xq_BadKitchen_KeyError ?xq_BadKitchen_LookupError ?xq_BadKitchen_ValueError ?xq_BadKitchen_IndexError ?xha_BadReading ?xhm_BadReading ?xq_BadReading_BadText ?xq_BadReading_BadReading ?xq_BadReading_BadKitchen ?xq_BadReading_NothingToUndo ?xq_BadReading_NoWorld ?xq_BadReading_Full ?xq_BadReading_OvenError ?xq_BadReading_NoWish ?xq_BadReading_NoReading ?xq_BadReading_KeyError ?xq_BadReading_LookupError ?xq_BadReading_ValueError ?xq_BadReading_IndexError ?xha_BadText ?xhm_BadText ?xq_BadText_BadText ?xq_BadText_BadReading ?xq_BadText_BadKitchen ?xq_BadText_NothingToUndo ?xq_BadText_NoWorld ?xq_BadText_Full ?xq_BadText_OvenError ?xq_BadText_NoWish ?xq_BadText_NoReading ?xq_BadText_KeyError ?xq_BadText_LookupError ?xq_BadText_ValueError ?xq_BadText_IndexError ?xha_Full ?xhm_Full ?xq_Full_BadText ?xq_Full_BadReading ?xq_Full_BadKitchen ?xq_Full_NothingToUndo ?xq_Full_NoWorld ?xq_Full_Full ?xq_Full_OvenError ?xq_Full_NoWish ?xq_Full_NoReading ?xq_Full_KeyError ?xq_Full_LookupError ?xq_Full_ValueError ?xq_Full_IndexError ?xha_NoWorld ?xhm_NoWorld ?xq_NoWorld_BadText ?xq_NoWorld_BadReading ?xq_NoWorld_BadKitchen ?xq_NoWorld_NothingToUndo ?xq_NoWorld_NoWorld ?xq_NoWorld_Full ?xq_NoWorld_OvenError ?xq_NoWorld_NoWish ?xq_NoWorld_NoReading ?xq_NoWorld_KeyError ?xq_NoWorld_LookupError ?xq_NoWorld_ValueError ?xq_NoWorld_IndexError ?xha_NothingToUndo ?xhm_NothingToUndo ?xq_NothingToUndo_BadText ?xq_NothingToUndo_BadReading ?xq_NothingToUndo_BadKitchen ?xq_NothingToUndo_NothingToUndo ?xq_NothingToUndo_NoWorld ?xq_NothingToUndo_Full ?xq_NothingToUndo_OvenError ?xq_NothingToUndo_NoWish ?xq_NothingToUndo_NoReading ?xq_NothingToUndo_KeyError ?xq_NothingToUndo_LookupError ?xq_NothingToUndo_ValueError ?xq_NothingToUndo_IndexError ?xha_NoReading ?xhm_NoReading ?xq_NoReading_BadText ?xq_NoReading_BadReading ?xq_NoReading_BadKitchen ?xq_NoReading_NothingToUndo ?xq_NoReading_NoWorld ?xq_NoReading_Full ?xq_NoReading_OvenError ?xq_NoReading_NoWish ?xq_NoReading_NoReading ?xq_NoReading_KeyError ?xq_NoReading_LookupError ?xq_NoReading_ValueError ?xq_NoReading_IndexError ?xha_NoWish ?xhm_NoWish ?xq_NoWish_BadText ?xq_NoWish_BadReading ?xq_NoWish_BadKitchen ?xq_NoWish_NothingToUndo ?xq_NoWish_NoWorld ?xq_NoWish_Full ?xq_NoWish_OvenError ?xq_NoWish_NoWish ?xq_NoWish_NoReading ?xq_NoWish_KeyError ?xq_NoWish_LookupError ?xq_NoWish_ValueError ?xq_NoWish_IndexError ?a_law_bag ?l_law_bag ?c_law_bag ?k_law_bag ?a_law_draw ?l_law_draw ?c_law_draw ?k_law_draw ?a_law_pick ?l_law_pick ?c_law_pick ?k_law_pick ?a_law_odd ?l_law_odd ?c_law_odd ?k_law_odd ?a_NoWish___init__ ?i_NoWish___init__ ?l_NoWish___init__ ?c_NoWish___init__ ?k_NoWish___init__ ?a_NoReading___init__ ?i_NoReading___init__ ?l_NoReading___init__ ?c_NoReading___init__ ?k_NoReading___init__ ?a_NoWorld___init__ ?i_NoWorld___init__ ?l_NoWorld___init__ ?c_NoWorld___init__ ?k_NoWorld___init__ ?a_BadText___init__ ?i_BadText___init__ ?l_BadText___init__ ?c_BadText___init__ ?k_BadText___init__ ?a_BadReading___init__ ?i_BadReading___init__ ?l_BadReading___init__ ?c_BadReading___init__ ?k_BadReading___init__ ?a_BadKitchen___init__ ?i_BadKitchen___init__ ?l_BadKitchen___init__ ?c_BadKitchen___init__ ?k_BadKitchen___init__ ?a_law_sorts ?l_law_sorts ?c_law_sorts ?k_law_sorts ?a_law ?l_law ?c_law ?k_law ?n_IndexError ?n_KeyError ?n_LookupError ?n_ValueError ?n_abs ?n_enumerate ?n_int ?n_isinstance ?n_len ?n_range ?n_repr ?v_cMAX_BENDS ?v_cMAX_DIALS ?v_cMAX_DISHES ?v_cMAX_EDITS ?v_cMAX_HEAT ?v_cMAX_LOADS ?v_cMAX_MENU ?v_cMAX_MINUTES ?v_cMAX_OVENS ?v_cMAX_READINGS ?v_cMAX_SLOPE ?v_cMAX_TIES ?v_cMAX_WARMTH ?v_cMAX_WISHES
    (case a_OvenError => k_is)
    (case xl_OvenError => k_is)
    (case xsa_OvenError => k_is)
    (case xga_OvenError => k_is)
    (case xgg_OvenError => k_is)
    (case xk_OvenError => k_is)
    (case xe_OvenError => k_is)
    (case xt_OvenError => k_is)
    (case xh_OvenError => k_is)
    (case xi_OvenError => k_is)
    (case xs_OvenError => k_is)
    (case a_BadKitchen => k_is)
    (case xl_BadKitchen => k_is)
    (case xsa_BadKitchen => k_is)
    (case xga_BadKitchen => k_is)
    (case xgg_BadKitchen => k_is)
    (case xno_BadKitchen_number => k_is)
    (case xno_BadKitchen_word => k_is)
    (case xk_BadKitchen => k_is)
    (case xe_BadKitchen => k_is)
    (case xt_BadKitchen => k_is)
    (case xh_BadKitchen => k_is)
    (case xi_BadKitchen => k_is)
    (case xs_BadKitchen => k_is)
    (case a_BadReading => k_is)
    (case xl_BadReading => k_is)
    (case xsa_BadReading => k_is)
    (case xga_BadReading => k_is)
    (case xgg_BadReading => k_is)
    (case xno_BadReading_number => k_is)
    (case xno_BadReading_word => k_is)
    (case xk_BadReading => k_is)
    (case xe_BadReading => k_is)
    (case xt_BadReading => k_is)
    (case xh_BadReading => k_is)
    (case xi_BadReading => k_is)
    (case xs_BadReading => k_is)
    (case a_BadText => k_is)
    (case xl_BadText => k_is)
    (case xsa_BadText => k_is)
    (case xga_BadText => k_is)
    (case xgg_BadText => k_is)
    (case xno_BadText_line => k_is)
    (case xno_BadText_number => k_is)
    (case xk_BadText => k_is)
    (case xe_BadText => k_is)
    (case xt_BadText => k_is)
    (case xh_BadText => k_is)
    (case xi_BadText => k_is)
    (case xs_BadText => k_is)
    (case a_Full => k_is)
    (case xl_Full => k_is)
    (case x0_Full => k_exc)
    (case xsa_Full => k_is)
    (case xga_Full => k_is)
    (case xgg_Full => k_is)
    (case xk_Full => k_is)
    (case xe_Full => k_is)
    (case xt_Full => k_is)
    (case xh_Full => k_is)
    (case xi_Full => k_is)
    (case xs_Full => k_is)
    (case a_NoWorld => k_is)
    (case xl_NoWorld => k_is)
    (case xsa_NoWorld => k_is)
    (case xga_NoWorld => k_is)
    (case xgg_NoWorld => k_is)
    (case xno_NoWorld_numbers => k_is)
    (case xk_NoWorld => k_is)
    (case xe_NoWorld => k_is)
    (case xt_NoWorld => k_is)
    (case xh_NoWorld => k_is)
    (case xi_NoWorld => k_is)
    (case xs_NoWorld => k_is)
    (case a_NothingToUndo => k_is)
    (case xl_NothingToUndo => k_is)
    (case x0_NothingToUndo => k_exc)
    (case xsa_NothingToUndo => k_is)
    (case xga_NothingToUndo => k_is)
    (case xgg_NothingToUndo => k_is)
    (case xk_NothingToUndo => k_is)
    (case xe_NothingToUndo => k_is)
    (case xt_NothingToUndo => k_is)
    (case xh_NothingToUndo => k_is)
    (case xi_NothingToUndo => k_is)
    (case xs_NothingToUndo => k_is)
    (case a_NoReading => k_is)
    (case xl_NoReading => k_is)
    (case xsa_NoReading => k_is)
    (case xga_NoReading => k_is)
    (case xgg_NoReading => k_is)
    (case xno_NoReading_number => k_is)
    (case xk_NoReading => k_is)
    (case xe_NoReading => k_is)
    (case xt_NoReading => k_is)
    (case xh_NoReading => k_is)
    (case xi_NoReading => k_is)
    (case xs_NoReading => k_is)
    (case a_NoWish => k_is)
    (case xl_NoWish => k_is)
    (case xsa_NoWish => k_is)
    (case xga_NoWish => k_is)
    (case xgg_NoWish => k_is)
    (case xno_NoWish_number => k_is)
    (case xk_NoWish => k_is)
    (case xe_NoWish => k_is)
    (case xt_NoWish => k_is)
    (case xh_NoWish => k_is)
    (case xi_NoWish => k_is)
    (case xs_NoWish => k_is)
    (case xhn => k_is)
    (case xhk => k_is)
    (case xha_BadKitchen => k_is)
    (case xhm_BadKitchen => k_is)
    (case xq_BadKitchen_BadText => first | kit_is | k_is | rfl | kernel_rfl)
    (case xq_BadKitchen_BadReading => first | kit_is | k_is | rfl | kernel_rfl)
    (case xq_BadKitchen_BadKitchen => first | kit_is | k_is | rfl | kernel_rfl)
    (case xq_BadKitchen_NothingToUndo => first | kit_is | k_is | rfl | kernel_rfl)
    (case xq_BadKitchen_NoWorld => first | kit_is | k_is | rfl | kernel_rfl)
    (case xq_BadKitchen_Full => first | kit_is | k_is | rfl | kernel_rfl)
    (case xq_BadKitchen_OvenError => first | kit_is | k_is | rfl | kernel_rfl)
    (case xq_BadKitchen_NoWish => first | kit_is | k_is | rfl | kernel_rfl)
    (case xq_BadKitchen_NoReading => first | kit_is | k_is | rfl | kernel_rfl)
    (case xq_BadKitchen_KeyError => first | kit_is | k_is | rfl | kernel_rfl)
    (case xq_BadKitchen_LookupError => first | kit_is | k_is | rfl | kernel_rfl)
    (case xq_BadKitchen_ValueError => first | kit_is | k_is | rfl | kernel_rfl)
    (case xq_BadKitchen_IndexError => first | kit_is | k_is | rfl | kernel_rfl)
    (case xha_BadReading => k_is)
    (case xhm_BadReading => k_is)
    (case xq_BadReading_BadText => first | kit_is | k_is | rfl | kernel_rfl)
    (case xq_BadReading_BadReading => first | kit_is | k_is | rfl | kernel_rfl)
    (case xq_BadReading_BadKitchen => first | kit_is | k_is | rfl | kernel_rfl)
    (case xq_BadReading_NothingToUndo => first | kit_is | k_is | rfl | kernel_rfl)
    (case xq_BadReading_NoWorld => first | kit_is | k_is | rfl | kernel_rfl)
    (case xq_BadReading_Full => first | kit_is | k_is | rfl | kernel_rfl)
    (case xq_BadReading_OvenError => first | kit_is | k_is | rfl | kernel_rfl)
    (case xq_BadReading_NoWish => first | kit_is | k_is | rfl | kernel_rfl)
    (case xq_BadReading_NoReading => first | kit_is | k_is | rfl | kernel_rfl)
    (case xq_BadReading_KeyError => first | kit_is | k_is | rfl | kernel_rfl)
    (case xq_BadReading_LookupError => first | kit_is | k_is | rfl | kernel_rfl)
    (case xq_BadReading_ValueError => first | kit_is | k_is | rfl | kernel_rfl)
    (case xq_BadReading_IndexError => first | kit_is | k_is | rfl | kernel_rfl)
    (case xha_BadText => k_is)
    (case xhm_BadText => k_is)
    (case xq_BadText_BadText => first | kit_is | k_is | rfl | kernel_rfl)
    (case xq_BadText_BadReading => first | kit_is | k_is | rfl | kernel_rfl)
    (case xq_BadText_BadKitchen => first | kit_is | k_is | rfl | kernel_rfl)
    (case xq_BadText_NothingToUndo => first | kit_is | k_is | rfl | kernel_rfl)
    (case xq_BadText_NoWorld => first | kit_is | k_is | rfl | kernel_rfl)
    (case xq_BadText_Full => first | kit_is | k_is | rfl | kernel_rfl)
    (case xq_BadText_OvenError => first | kit_is | k_is | rfl | kernel_rfl)
    (case xq_BadText_NoWish => first | kit_is | k_is | rfl | kernel_rfl)
    (case xq_BadText_NoReading => first | kit_is | k_is | rfl | kernel_rfl)
    (case xq_BadText_KeyError => first | kit_is | k_is | rfl | kernel_rfl)
    (case xq_BadText_LookupError => first | kit_is | k_is | rfl | kernel_rfl)
    (case xq_BadText_ValueError => first | kit_is | k_is | rfl | kernel_rfl)
    (case xq_BadText_IndexError => first | kit_is | k_is | rfl | kernel_rfl)
    (case xha_Full => k_is)
    (case xhm_Full => k_is)
    (case xq_Full_BadText => first | kit_is | k_is | rfl | kernel_rfl)
    (case xq_Full_BadReading => first | kit_is | k_is | rfl | kernel_rfl)
    (case xq_Full_BadKitchen => first | kit_is | k_is | rfl | kernel_rfl)
    (case xq_Full_NothingToUndo => first | kit_is | k_is | rfl | kernel_rfl)
    (case xq_Full_NoWorld => first | kit_is | k_is | rfl | kernel_rfl)
    (case xq_Full_Full => first | kit_is | k_is | rfl | kernel_rfl)
    (case xq_Full_OvenError => first | kit_is | k_is | rfl | kernel_rfl)
    (case xq_Full_NoWish => first | kit_is | k_is | rfl | kernel_rfl)
    (case xq_Full_NoReading => first | kit_is | k_is | rfl | kernel_rfl)
    (case xq_Full_KeyError => first | kit_is | k_is | rfl | kernel_rfl)
    (case xq_Full_LookupError => first | kit_is | k_is | rfl | kernel_rfl)
    (case xq_Full_ValueError => first | kit_is | k_is | rfl | kernel_rfl)
    (case xq_Full_IndexError => first | kit_is | k_is | rfl | kernel_rfl)
    (case xha_NoWorld => k_is)
    (case xhm_NoWorld => k_is)
    (case xq_NoWorld_BadText => first | kit_is | k_is | rfl | kernel_rfl)
    (case xq_NoWorld_BadReading => first | kit_is | k_is | rfl | kernel_rfl)
    (case xq_NoWorld_BadKitchen => first | kit_is | k_is | rfl | kernel_rfl)
    (case xq_NoWorld_NothingToUndo => first | kit_is | k_is | rfl | kernel_rfl)
    (case xq_NoWorld_NoWorld => first | kit_is | k_is | rfl | kernel_rfl)
    (case xq_NoWorld_Full => first | kit_is | k_is | rfl | kernel_rfl)
    (case xq_NoWorld_OvenError => first | kit_is | k_is | rfl | kernel_rfl)
    (case xq_NoWorld_NoWish => first | kit_is | k_is | rfl | kernel_rfl)
    (case xq_NoWorld_NoReading => first | kit_is | k_is | rfl | kernel_rfl)
    (case xq_NoWorld_KeyError => first | kit_is | k_is | rfl | kernel_rfl)
    (case xq_NoWorld_LookupError => first | kit_is | k_is | rfl | kernel_rfl)
    (case xq_NoWorld_ValueError => first | kit_is | k_is | rfl | kernel_rfl)
    (case xq_NoWorld_IndexError => first | kit_is | k_is | rfl | kernel_rfl)
    (case xha_NothingToUndo => k_is)
    (case xhm_NothingToUndo => k_is)
    (case xq_NothingToUndo_BadText => first | kit_is | k_is | rfl | kernel_rfl)
    (case xq_NothingToUndo_BadReading => first | kit_is | k_is | rfl | kernel_rfl)
    (case xq_NothingToUndo_BadKitchen => first | kit_is | k_is | rfl | kernel_rfl)
    (case xq_NothingToUndo_NothingToUndo => first | kit_is | k_is | rfl | kernel_rfl)
    (case xq_NothingToUndo_NoWorld => first | kit_is | k_is | rfl | kernel_rfl)
    (case xq_NothingToUndo_Full => first | kit_is | k_is | rfl | kernel_rfl)
    (case xq_NothingToUndo_OvenError => first | kit_is | k_is | rfl | kernel_rfl)
    (case xq_NothingToUndo_NoWish => first | kit_is | k_is | rfl | kernel_rfl)
    (case xq_NothingToUndo_NoReading => first | kit_is | k_is | rfl | kernel_rfl)
    (case xq_NothingToUndo_KeyError => first | kit_is | k_is | rfl | kernel_rfl)
    (case xq_NothingToUndo_LookupError => first | kit_is | k_is | rfl | kernel_rfl)
    (case xq_NothingToUndo_ValueError => first | kit_is | k_is | rfl | kernel_rfl)
    (case xq_NothingToUndo_IndexError => first | kit_is | k_is | rfl | kernel_rfl)
    (case xha_NoReading => k_is)
    (case xhm_NoReading => k_is)
    (case xq_NoReading_BadText => first | kit_is | k_is | rfl | kernel_rfl)
    (case xq_NoReading_BadReading => first | kit_is | k_is | rfl | kernel_rfl)
    (case xq_NoReading_BadKitchen => first | kit_is | k_is | rfl | kernel_rfl)
    (case xq_NoReading_NothingToUndo => first | kit_is | k_is | rfl | kernel_rfl)
    (case xq_NoReading_NoWorld => first | kit_is | k_is | rfl | kernel_rfl)
    (case xq_NoReading_Full => first | kit_is | k_is | rfl | kernel_rfl)
    (case xq_NoReading_OvenError => first | kit_is | k_is | rfl | kernel_rfl)
    (case xq_NoReading_NoWish => first | kit_is | k_is | rfl | kernel_rfl)
    (case xq_NoReading_NoReading => first | kit_is | k_is | rfl | kernel_rfl)
    (case xq_NoReading_KeyError => first | kit_is | k_is | rfl | kernel_rfl)
    (case xq_NoReading_LookupError => first | kit_is | k_is | rfl | kernel_rfl)
    (case xq_NoReading_ValueError => first | kit_is | k_is | rfl | kernel_rfl)
    (case xq_NoReading_IndexError => first | kit_is | k_is | rfl | kernel_rfl)
    (case xha_NoWish => k_is)
    (case xhm_NoWish => k_is)
    (case xq_NoWish_BadText => first | kit_is | k_is | rfl | kernel_rfl)
    (case xq_NoWish_BadReading => first | kit_is | k_is | rfl | kernel_rfl)
    (case xq_NoWish_BadKitchen => first | kit_is | k_is | rfl | kernel_rfl)
    (case xq_NoWish_NothingToUndo => first | kit_is | k_is | rfl | kernel_rfl)
    (case xq_NoWish_NoWorld => first | kit_is | k_is | rfl | kernel_rfl)
    (case xq_NoWish_Full => first | kit_is | k_is | rfl | kernel_rfl)
    (case xq_NoWish_OvenError => first | kit_is | k_is | rfl | kernel_rfl)
    (case xq_NoWish_NoWish => first | kit_is | k_is | rfl | kernel_rfl)
    (case xq_NoWish_NoReading => first | kit_is | k_is | rfl | kernel_rfl)
    (case xq_NoWish_KeyError => first | kit_is | k_is | rfl | kernel_rfl)
    (case xq_NoWish_LookupError => first | kit_is | k_is | rfl | kernel_rfl)
    (case xq_NoWish_ValueError => first | kit_is | k_is | rfl | kernel_rfl)
    (case xq_NoWish_IndexError => first | kit_is | k_is | rfl | kernel_rfl)
    (case a_law_bag => k_is)
    (case l_law_bag => k_is)
    (case c_law_bag => k_is)
    (case k_law_bag => k_is)
    (case a_law_draw => k_is)
    (case l_law_draw => k_is)
    (case c_law_draw => k_is)
    (case k_law_draw => k_is)
    (case a_law_pick => k_is)
    (case l_law_pick => k_is)
    (case c_law_pick => k_is)
    (case k_law_pick => k_is)
    (case a_law_odd => k_is)
    (case l_law_odd => k_is)
    (case c_law_odd => k_is)
    (case k_law_odd => k_is)
    (case a_NoWish___init__ => k_is)
    (case i_NoWish___init__ => k_is)
    (case l_NoWish___init__ => k_is)
    (case c_NoWish___init__ => k_is)
    (case k_NoWish___init__ => k_is)
    (case a_NoReading___init__ => k_is)
    (case i_NoReading___init__ => k_is)
    (case l_NoReading___init__ => k_is)
    (case c_NoReading___init__ => k_is)
    (case k_NoReading___init__ => k_is)
    (case a_NoWorld___init__ => k_is)
    (case i_NoWorld___init__ => k_is)
    (case l_NoWorld___init__ => k_is)
    (case c_NoWorld___init__ => k_is)
    (case k_NoWorld___init__ => k_is)
    (case a_BadText___init__ => k_is)
    (case i_BadText___init__ => k_is)
    (case l_BadText___init__ => k_is)
    (case c_BadText___init__ => k_is)
    (case k_BadText___init__ => k_is)
    (case a_BadReading___init__ => k_is)
    (case i_BadReading___init__ => k_is)
    (case l_BadReading___init__ => k_is)
    (case c_BadReading___init__ => k_is)
    (case k_BadReading___init__ => k_is)
    (case a_BadKitchen___init__ => k_is)
    (case i_BadKitchen___init__ => k_is)
    (case l_BadKitchen___init__ => k_is)
    (case c_BadKitchen___init__ => k_is)
    (case k_BadKitchen___init__ => k_is)
    (case a_law_sorts => k_is)
    (case l_law_sorts => k_is)
    (case c_law_sorts => k_is)
    (case k_law_sorts => k_is)
    (case a_law => k_is)
    (case l_law => k_is)
    (case c_law => k_is)
    (case k_law => k_is)
    (case n_IndexError => k_is)
    (case n_KeyError => k_is)
    (case n_LookupError => k_is)
    (case n_ValueError => k_is)
    (case n_abs => k_is)
    (case n_enumerate => k_is)
    (case n_int => k_is)
    (case n_isinstance => k_is)
    (case n_len => k_is)
    (case n_range => k_is)
    (case n_repr => k_is)
    (case v_cMAX_BENDS => k_is)
    (case v_cMAX_DIALS => k_is)
    (case v_cMAX_DISHES => k_is)
    (case v_cMAX_EDITS => k_is)
    (case v_cMAX_HEAT => k_is)
    (case v_cMAX_LOADS => k_is)
    (case v_cMAX_MENU => k_is)
    (case v_cMAX_MINUTES => k_is)
    (case v_cMAX_OVENS => k_is)
    (case v_cMAX_READINGS => k_is)
    (case v_cMAX_SLOPE => k_is)
    (case v_cMAX_TIES => k_is)
    (case v_cMAX_WARMTH => k_is)
    (case v_cMAX_WISHES => k_is)

