import PyProof.Rows.All
import Wide.All
import OpenK.AllK
import Wide.FinOn
import HandS.ForMost
import HandS.IsInst
import HandS.TupAny
import HandS.TupMul
import HandS.Deep
import HandS.TupLe
import HandS.SetFor
import HandS.Style
import KE.KTupSum
import KE.GoesMore
import KE.KRevSl
import HandS.Dict
import HandS.DictTup
import HandS.Small
import HandS.Conv
import HandS.SortRule
import HandS.SortInts
import HandS.Zip
import HandS.DictSubView
import KE.KDictList
import KE.KDictPairs
import PyProof.MaxThree
import PyProof.DictMoreH
import HandS.SortOrd
import PySem.Challenge.RW_cellhall_k01_whole_counts_boxes_and_move
set_option Elab.async false
set_option linter.all false
set_option autoImplicit false
set_option maxRecDepth 100000
/-! ML: Python's constructs as plain Lean functions over data and a store of lists and dicts; each rule of the hand layer once more, so. -/
namespace ML
open PySem L2
/-- a value as plain data: tuples and lists that nobody changes (kl: locked ones) are trees, changed things stand in the store -/
inductive D where
  | non | bl (b : Bool) | int (i : Int) | str (x : Str) | ty (n : String) | glb (x : Str)
  | tup (ds : List D) | fzl (ds : List D) | kl (ds : List D) | loc (n : Nat)
/-- a changed thing -/
inductive O where
  | lst (ds : List D) | dK (kvs : List (Key × D)) | dT (kvs : List (List Key × D))
abbrev Sto := List O
/-- how a step ends -/
inductive R (α : Type) where
  | ok (a : α) (s : Sto)
  | bad
def R.bind {α β : Type} : R α → (α → Sto → R β) → R β
  | .ok a s, k => k a s
  | .bad, _ => .bad
/-- where the store's objects stand (r), and what is being made just now (h) -/
structure Mp where
  r : List Addr
  h : List Addr
instance : Membership Addr Mp := ⟨fun ρ a => a ∈ ρ.r ∨ a ∈ ρ.h⟩
section
variable (K : PySem.W.Frag) (mg : Str → Option Value)
/-- a tuple, a list at a, that nobody changes -/
def TAt (_K : PySem.W.Frag) (ρ : Mp) (H : Hp) (a : Addr) (xs : List V) : Prop := H a = some (.tup xs) ∧ a ∉ ρ
def FAt (ρ : Mp) (H : Hp) (a : Addr) (xs : List V) : Prop := H a = some (.lst xs) ∧ a ∉ ρ
def LAt (ρ : Mp) (H : Hp) (a : Addr) (xs : List V) : Prop := (Rd H a (.lst xs) ∧ a ∉ ρ) ∨ SqL K (fun _ => none) a xs
mutual
inductive RV (ρ : Mp) (H : Hp) : D → V → Prop
  | non : RV ρ H .non .non
  | bl (b : Bool) : RV ρ H (.bl b) (.bl b)
  | int (i : Int) : RV ρ H (.int i) (.int i)
  | str (x : Str) : RV ρ H (.str x) (.str x)
  | ty (n : String) : RV ρ H (.ty n) (.ty n)
  | glb {x : Str} {v : V} {u : Value} : mg x = some u → RelV v u → RV ρ H (.glb x) v
  | tup {ds : List D} {a : Addr} {xs : List V} : TAt K ρ H a xs → RVs ρ H ds xs → RV ρ H (.tup ds) (.ref a)
  | fzl {ds : List D} {a : Addr} {xs : List V} : FAt ρ H a xs → RVs ρ H ds xs → RV ρ H (.fzl ds) (.ref a)
  | kl {ds : List D} {a : Addr} {xs : List V} : LAt K ρ H a xs → RVs ρ H ds xs → RV ρ H (.kl ds) (.ref a)
  | loc {n : Nat} {a : Addr} : ρ.r[n]? = some a → RV ρ H (.loc n) (.ref a)
inductive RVs (ρ : Mp) (H : Hp) : List D → List V → Prop
  | nil : RVs ρ H [] []
  | cons {d : D} {ds : List D} {v : V} {vs : List V} : RV ρ H d v → RVs ρ H ds vs → RVs ρ H (d :: ds) (v :: vs)
end
/-- what stands in the store stands so in the heap -/
inductive RO (ρ : Mp) (H : Hp) : O → HO → Prop
  | lst {ds : List D} {xs : List V} : RVs K mg ρ H ds xs → RO ρ H (.lst ds) (.lst xs)
  | dK {kvs : List (Key × D)} {xs : List V} : RVs K mg ρ H (kvs.map (·.2)) xs → RO ρ H (.dK kvs) (.dK ((kvs.map (·.1)).zip xs))
  | dT {kvs : List (List Key × D)} {xs : List V} : RVs K mg ρ H (kvs.map (·.2)) xs → RO ρ H (.dT kvs) (.dT ((kvs.map (·.1)).zip xs))
structure Rep (ρ : Mp) (H : Hp) (S : Sto) : Prop where
  len : ρ.r.length = S.length
  nd : ρ.r.Nodup
  at_ : ∀ (n : Nat) (a : Addr) (o : O), ρ.r[n]? = some a → S[n]? = some o → ∃ u, H a = some u ∧ RO K mg ρ H o u
  hd : ∀ a ∈ ρ.h, (∃ xs, H a = some (.lst xs)) ∧ a ∉ ρ.r
end
def noTbl : HO → Prop
  | .tbl _ => False
  | _ => True
/-- the heap grew: what is tracked and not in the store is as it was -/
structure Ext0 (ρ : Mp) (H : Hp) (ρ' : Mp) (H' : Hp) : Prop where
  pre : ρ.r <+: ρ'.r
  keep : ∀ a o, H a = some o → noTbl o → a ∉ ρ → H' a = some o ∧ a ∉ ρ'
structure Ext (ρ : Mp) (H : Hp) (ρ' : Mp) (H' : Hp) : Prop extends Ext0 ρ H ρ' H' where
  hid : ∀ a o, H a = some o → a ∈ ρ.h → H' a = some o ∧ a ∈ ρ'.h
theorem Ext.refl (ρ : Mp) (H : Hp) : Ext ρ H ρ H := ⟨⟨List.prefix_rfl, fun _ _ h _ n => ⟨h, n⟩⟩, fun _ _ h m => ⟨h, m⟩⟩
theorem Ext0.trans {ρ ρ1 ρ2 : Mp} {H H1 H2 : Hp} (a : Ext0 ρ H ρ1 H1) (b : Ext0 ρ1 H1 ρ2 H2) : Ext0 ρ H ρ2 H2 :=
  ⟨a.pre.trans b.pre, fun x o h t n => let ⟨h1, n1⟩ := a.keep x o h t n; b.keep x o h1 t n1⟩
theorem Ext.trans {ρ ρ1 ρ2 : Mp} {H H1 H2 : Hp} (a : Ext ρ H ρ1 H1) (b : Ext ρ1 H1 ρ2 H2) : Ext ρ H ρ2 H2 :=
  ⟨a.toExt0.trans b.toExt0, fun x o h m => let ⟨h1, m1⟩ := a.hid x o h m; b.hid x o h1 m1⟩
section
variable {K : PySem.W.Frag} {mg : Str → Option Value} {ρ ρ' : Mp} {H H' : Hp}
theorem TAt.sq {a : Addr} {xs : List V} (h : TAt K ρ H a xs) : SqT K H a xs := .inl (.inl h.1)
theorem LAt.sq {a : Addr} {xs : List V} (h : LAt K ρ H a xs) : SqL K H a xs := by
  rcases h with h | h
  · exact .inl h.1
  · rcases h with (h | ⟨o, h⟩) | h
    · cases h
    · cases h
    · exact .inr h
theorem TAt.ext {a : Addr} {xs : List V} (e : Ext0 ρ H ρ' H') (h : TAt K ρ H a xs) : TAt K ρ' H' a xs := e.keep a _ h.1 trivial h.2
theorem LAt.ext {a : Addr} {xs : List V} (e : Ext0 ρ H ρ' H') (h : LAt K ρ H a xs) : LAt K ρ' H' a xs := by
  rcases h with ⟨h | ⟨o, h⟩, n⟩ | h
  · obtain ⟨h1, n1⟩ := e.keep a _ h trivial n
    exact .inl ⟨.inl h1, n1⟩
  · obtain ⟨h1, n1⟩ := e.keep a _ h trivial n
    exact .inl ⟨.inr ⟨o, h1⟩, n1⟩
  · exact .inr h
theorem FAt.ext {a : Addr} {xs : List V} (e : Ext0 ρ H ρ' H') (h : FAt ρ H a xs) : FAt ρ' H' a xs := e.keep a _ h.1 trivial h.2
theorem pre_get {α : Type} {l l' : List α} {n : Nat} {a : α} (p : l <+: l') (h : l[n]? = some a) : l'[n]? = some a := by
  obtain ⟨t, rfl⟩ := p
  rw [List.getElem?_append_left (List.getElem?_eq_some_iff.mp h).1]
  exact h
mutual
theorem RV.ext0 (e : Ext0 ρ H ρ' H') : ∀ {d : D} {v : V}, RV K mg ρ H d v → RV K mg ρ' H' d v
  | _, _, .non => .non
  | _, _, .bl b => .bl b
  | _, _, .int i => .int i
  | _, _, .str x => .str x
  | _, _, .ty n => .ty n
  | _, _, .glb h r => .glb h r
  | _, _, .tup t r => .tup (t.ext e) (RVs.ext0 e r)
  | _, _, .fzl t r => .fzl (t.ext e) (RVs.ext0 e r)
  | _, _, .kl t r => .kl (t.ext e) (RVs.ext0 e r)
  | _, _, .loc h => .loc (pre_get e.pre h)
theorem RVs.ext0 (e : Ext0 ρ H ρ' H') : ∀ {ds : List D} {vs : List V}, RVs K mg ρ H ds vs → RVs K mg ρ' H' ds vs
  | _, _, .nil => .nil
  | _, _, .cons r t => .cons (RV.ext0 e r) (RVs.ext0 e t)
end
theorem RV.ext {d : D} {v : V} (r : RV K mg ρ H d v) (e : Ext ρ H ρ' H') : RV K mg ρ' H' d v := RV.ext0 e.toExt0 r
theorem RVs.ext {ds : List D} {vs : List V} (r : RVs K mg ρ H ds vs) (e : Ext ρ H ρ' H') : RVs K mg ρ' H' ds vs := RVs.ext0 e.toExt0 r
theorem RO.ext0 {o : O} {u : HO} (e : Ext0 ρ H ρ' H') (h : RO K mg ρ H o u) : RO K mg ρ' H' o u := by
  cases h with
  | lst r => exact .lst (r.ext0 e)
  | dK r => exact .dK (r.ext0 e)
  | dT r => exact .dT (r.ext0 e)
theorem RO.ext {o : O} {u : HO} (h : RO K mg ρ H o u) (e : Ext ρ H ρ' H') : RO K mg ρ' H' o u := h.ext0 e.toExt0
theorem RVs.length {ds : List D} {vs : List V} (h : RVs K mg ρ H ds vs) : ds.length = vs.length := by
  induction ds generalizing vs with
  | nil => cases h; rfl
  | cons d ds ih => cases h with | cons r t => rw [List.length_cons, List.length_cons, ih t]
theorem RVs.get {ds : List D} {vs : List V} (h : RVs K mg ρ H ds vs) : ∀ {i : Nat} {v : V}, vs[i]? = some v → ∃ d, ds[i]? = some d ∧ RV K mg ρ H d v := by
  induction ds generalizing vs with
  | nil => cases h; intro i v e; simp at e
  | cons d ds ih =>
    cases h with
    | cons r t =>
      intro i v e
      cases i with
      | zero => simp at e; subst e; exact ⟨d, rfl, r⟩
      | succ i => exact ih t (by simpa using e)
theorem RVs.getD {ds : List D} {vs : List V} (h : RVs K mg ρ H ds vs) : ∀ {i : Nat} {d : D}, ds[i]? = some d → ∃ v, vs[i]? = some v ∧ RV K mg ρ H d v := by
  induction ds generalizing vs with
  | nil => intro i d e; simp at e
  | cons d ds ih =>
    cases h with
    | cons r t =>
      intro i v e
      cases i with
      | zero => simp at e; subst e; exact ⟨_, rfl, r⟩
      | succ i => exact ih t (by simpa using e)
theorem RVs.append {ds es : List D} {vs ws : List V} (h : RVs K mg ρ H ds vs) (g : RVs K mg ρ H es ws) : RVs K mg ρ H (ds ++ es) (vs ++ ws) := by
  induction ds generalizing vs with
  | nil => cases h; exact g
  | cons d ds ih => cases h with | cons r t => exact .cons r (ih t)
theorem RVs.take {ds : List D} {vs : List V} (h : RVs K mg ρ H ds vs) : ∀ n : Nat, RVs K mg ρ H (ds.take n) (vs.take n) := by
  induction ds generalizing vs with
  | nil => cases h; intro n; simp; exact .nil
  | cons d ds ih =>
    cases h with
    | cons r t =>
      intro n
      cases n with
      | zero => exact .nil
      | succ n => exact .cons r (ih t n)
theorem RVs.drop {ds : List D} {vs : List V} (h : RVs K mg ρ H ds vs) : ∀ n : Nat, RVs K mg ρ H (ds.drop n) (vs.drop n) := by
  induction ds generalizing vs with
  | nil => cases h; intro n; simp; exact .nil
  | cons d ds ih =>
    cases h with
    | cons r t =>
      intro n
      cases n with
      | zero => exact .cons r t
      | succ n => exact ih t n
theorem RVs.set {ds : List D} {vs : List V} {d : D} {v : V} (h : RVs K mg ρ H ds vs) (r : RV K mg ρ H d v) : ∀ i : Nat, RVs K mg ρ H (ds.set i d) (vs.set i v) := by
  induction ds generalizing vs with
  | nil => cases h; intro i; simp; exact .nil
  | cons d' ds ih =>
    cases h with
    | cons r' t =>
      intro i
      cases i with
      | zero => exact .cons r t
      | succ i => exact .cons r' (ih t i)
theorem RVs.reverse {ds : List D} {vs : List V} (h : RVs K mg ρ H ds vs) : RVs K mg ρ H ds.reverse vs.reverse := by
  induction ds generalizing vs with
  | nil => cases h; exact .nil
  | cons d ds ih =>
    cases h with
    | cons r t =>
      rw [List.reverse_cons, List.reverse_cons]
      exact (ih t).append (.cons r .nil)
theorem RVs.rep {ds : List D} {vs : List V} (h : RVs K mg ρ H ds vs) : ∀ k : Nat, RVs K mg ρ H (List.replicate k ds).flatten (List.replicate k vs).flatten
  | 0 => .nil
  | k + 1 => by
    rw [List.replicate_succ, List.replicate_succ, List.flatten_cons, List.flatten_cons]
    exact h.append (RVs.rep h k)
/-- a new object that the store does not hold -/
theorem Rep.freshR {S : Sto} (r : Rep K mg ρ H S) {p : Addr} (hp : H p = none) : p ∉ ρ.r := by
  intro h
  obtain ⟨n, hn, e⟩ := List.getElem_of_mem h
  obtain ⟨u, hu, _⟩ := r.at_ n p (S[n]'(r.len ▸ hn)) (by rw [List.getElem?_eq_getElem hn, e]) (List.getElem?_eq_getElem _)
  rw [hp] at hu
  cases hu
theorem Rep.fresh {S : Sto} (r : Rep K mg ρ H S) {p : Addr} (hp : H p = none) : p ∉ ρ := by
  intro h
  rcases h with h | h
  · exact r.freshR hp h
  · obtain ⟨⟨o, q⟩, _⟩ := r.hd p h
    rw [hp] at q
    cases q
theorem Ext.new {p : Addr} {o : HO} (hp : H p = none) : Ext ρ H ρ (upd H p o) :=
  ⟨⟨List.prefix_rfl, fun a u h _ n => ⟨by rw [upd_ne (ne_of_none h hp)]; exact h, n⟩⟩, fun a u h m => ⟨by rw [upd_ne (ne_of_none h hp)]; exact h, m⟩⟩
theorem Rep.new {S : Sto} (r : Rep K mg ρ H S) {p : Addr} {o : HO} (hp : H p = none) : Rep K mg ρ (upd H p o) S :=
  ⟨r.len, r.nd, fun n a o' h1 h2 => by
    obtain ⟨u, hu, hr⟩ := r.at_ n a o' h1 h2
    exact ⟨u, by rw [upd_ne (ne_of_none hu hp)]; exact hu, hr.ext (Ext.new hp)⟩,
   fun a m => by
    obtain ⟨⟨o', q⟩, n⟩ := r.hd a m
    exact ⟨⟨o', by rw [upd_ne (ne_of_none q hp)]; exact q⟩, n⟩⟩
theorem TAt.new {S : Sto} (r : Rep K mg ρ H S) {p : Addr} {xs : List V} (hp : H p = none) : TAt K ρ (upd H p (.tup xs)) p xs := ⟨upd_same, r.fresh hp⟩
theorem FAt.new {S : Sto} (r : Rep K mg ρ H S) {p : Addr} {xs : List V} (hp : H p = none) : FAt ρ (upd H p (.lst xs)) p xs := ⟨upd_same, r.fresh hp⟩
/-- a new object in the store -/
def Mp.add (ρ : Mp) (p : Addr) : Mp := ⟨ρ.r ++ [p], ρ.h⟩
theorem Ext.add {p : Addr} {o : HO} (hp : H p = none) : Ext ρ H (ρ.add p) (upd H p o) :=
  ⟨⟨List.prefix_append _ _, fun a u h _ n => ⟨by rw [upd_ne (ne_of_none h hp)]; exact h, by
    intro m
    rcases m with m | m
    · rcases List.mem_append.mp m with m | m
      · exact n (.inl m)
      · rw [List.mem_singleton] at m
        exact ne_of_none h hp m
    · exact n (.inr m)⟩⟩, fun a u h m => ⟨by rw [upd_ne (ne_of_none h hp)]; exact h, m⟩⟩
theorem Rep.add {S : Sto} (r : Rep K mg ρ H S) {p : Addr} {o : O} {u : HO} (hp : H p = none) (h : RO K mg ρ H o u) : Rep K mg (ρ.add p) (upd H p u) (S ++ [o]) :=
  ⟨by show (ρ.r ++ [p]).length = _; rw [List.length_append, List.length_append, r.len]; rfl,
   List.nodup_append.mpr ⟨r.nd, by simp, fun a ha b hb => by rw [List.mem_singleton] at hb; subst hb; intro e; subst e; exact r.freshR hp ha⟩,
   fun n a o' h1 h2 => by
    have h1 : (ρ.r ++ [p])[n]? = some a := h1
    by_cases hn : n < ρ.r.length
    · rw [List.getElem?_append_left hn] at h1
      rw [List.getElem?_append_left (r.len ▸ hn)] at h2
      obtain ⟨u', hu, hr⟩ := r.at_ n a o' h1 h2
      exact ⟨u', by rw [upd_ne (ne_of_none hu hp)]; exact hu, hr.ext (Ext.add hp)⟩
    · have hn' : n = ρ.r.length := by
        have := (List.getElem?_eq_some_iff.mp h1).1
        rw [List.length_append] at this
        simp at this
        omega
      subst hn'
      rw [List.getElem?_append_right (Nat.le_refl _), Nat.sub_self] at h1
      rw [r.len, List.getElem?_append_right (Nat.le_refl _), Nat.sub_self] at h2
      cases h1
      cases h2
      exact ⟨u, upd_same, h.ext (Ext.add hp)⟩,
   fun a m => by
    obtain ⟨⟨o', q⟩, n⟩ := r.hd a m
    refine ⟨⟨o', by rw [upd_ne (ne_of_none q hp)]; exact q⟩, fun z => ?_⟩
    rcases List.mem_append.mp z with z | z
    · exact n z
    · rw [List.mem_singleton] at z
      exact ne_of_none q hp z⟩
theorem add_get {p : Addr} {S : Sto} (r : Rep K mg ρ H S) : (ρ.add p).r[S.length]? = some p := by
  show (ρ.r ++ [p])[S.length]? = some p
  rw [← r.len, List.getElem?_append_right (Nat.le_refl _), Nat.sub_self]
  rfl
/-- an object of the store changes -/
theorem Ext.put {S : Sto} (r : Rep K mg ρ H S) {a : Addr} {o : HO} (h : a ∈ ρ.r) : Ext ρ H ρ (upd H a o) :=
  ⟨⟨List.prefix_rfl, fun b u hb _ n => ⟨by rw [upd_ne (fun e => n (by rw [e]; exact .inl h))]; exact hb, n⟩⟩, fun b u hb m => ⟨by rw [upd_ne (fun e => (r.hd b m).2 (by rw [e]; exact h))]; exact hb, m⟩⟩
theorem Rep.put {S : Sto} (r : Rep K mg ρ H S) {n : Nat} {a : Addr} {o : O} {u : HO} (ha : ρ.r[n]? = some a) (h : RO K mg ρ H o u) : Rep K mg ρ (upd H a u) (S.set n o) :=
  have ma : a ∈ ρ.r := List.mem_of_getElem? ha
  ⟨by rw [List.length_set]; exact r.len, r.nd, fun m b o' h1 h2 => by
    by_cases hm : m = n
    · subst hm
      rw [ha] at h1
      cases h1
      have hl := (List.getElem?_eq_some_iff.mp ha).1
      rw [List.getElem?_set_self (r.len ▸ hl)] at h2
      cases h2
      exact ⟨u, upd_same, h.ext (Ext.put r ma)⟩
    · rw [List.getElem?_set_ne (fun e => hm e.symm)] at h2
      obtain ⟨u', hu, hr⟩ := r.at_ m b o' h1 h2
      have hb : b ≠ a := by
        intro e
        subst e
        obtain ⟨l1, e1⟩ := List.getElem?_eq_some_iff.mp h1
        obtain ⟨l2, e2⟩ := List.getElem?_eq_some_iff.mp ha
        exact hm ((List.getElem_inj r.nd).mp (e1.trans e2.symm))
      exact ⟨u', by rw [upd_ne hb]; exact hu, hr.ext (Ext.put r ma)⟩,
   fun b m => by
    obtain ⟨⟨o', q⟩, n⟩ := r.hd b m
    exact ⟨⟨o', by rw [upd_ne (fun e => n (by rw [e]; exact ma))]; exact q⟩, n⟩⟩
/-! what stands last is forgotten -/
mutual
def D.cl (n : Nat) : D → Bool
  | .tup ds => D.cls n ds
  | .fzl ds => D.cls n ds
  | .kl ds => D.cls n ds
  | .loc m => decide (m < n)
  | _ => true
def D.cls (n : Nat) : List D → Bool
  | [] => true
  | d :: ds => D.cl n d && D.cls n ds
end
def O.cl (n : Nat) : O → Bool
  | .lst ds => D.cls n ds
  | .dK kvs => D.cls n (kvs.map (·.2))
  | .dT kvs => D.cls n (kvs.map (·.2))
theorem sub_mp {ρ σ : Mp} (p : ρ.r <+: σ.r) (hh : ρ.h = σ.h) {a : Addr} (m : a ∈ ρ) : a ∈ σ := m.imp (fun m => p.subset m) (fun m => hh ▸ m)
mutual
theorem RV.cut {σ : Mp} (p : ρ.r <+: σ.r) (hh : ρ.h = σ.h) : ∀ {d : D} {v : V}, D.cl ρ.r.length d = true → RV K mg σ H d v → RV K mg ρ H d v
  | _, _, _, .non => .non
  | _, _, _, .bl b => .bl b
  | _, _, _, .int i => .int i
  | _, _, _, .str x => .str x
  | _, _, _, .ty n => .ty n
  | _, _, _, .glb h r => .glb h r
  | _, _, c, .tup t r => .tup ⟨t.1, fun m => t.2 (sub_mp p hh m)⟩ (RVs.cut p hh (by simpa [D.cl] using c) r)
  | _, _, c, .fzl t r => .fzl ⟨t.1, fun m => t.2 (sub_mp p hh m)⟩ (RVs.cut p hh (by simpa [D.cl] using c) r)
  | _, _, c, .kl t r => .kl (t.imp (fun ⟨h, n⟩ => ⟨h, fun m => n (sub_mp p hh m)⟩) id) (RVs.cut p hh (by simpa [D.cl] using c) r)
  | _, _, c, .loc h => .loc (by
    obtain ⟨t, e⟩ := p
    rw [← e, List.getElem?_append_left (by simpa [D.cl] using c)] at h
    exact h)
theorem RVs.cut {σ : Mp} (p : ρ.r <+: σ.r) (hh : ρ.h = σ.h) : ∀ {ds : List D} {vs : List V}, D.cls ρ.r.length ds = true → RVs K mg σ H ds vs → RVs K mg ρ H ds vs
  | _, _, _, .nil => .nil
  | _, _, c, .cons r t => by
    simp only [D.cls, Bool.and_eq_true] at c
    exact .cons (RV.cut p hh c.1 r) (RVs.cut p hh c.2 t)
end
theorem RO.cut {σ : Mp} {o : O} {u : HO} (p : ρ.r <+: σ.r) (hh : ρ.h = σ.h) (c : O.cl ρ.r.length o = true) (h : RO K mg σ H o u) : RO K mg ρ H o u := by
  cases h with
  | lst r => exact .lst (r.cut p hh c)
  | dK r => exact .dK (r.cut p hh c)
  | dT r => exact .dT (r.cut p hh c)
theorem Rep.cut {σ : Mp} {S T : Sto} (r : Rep K mg σ H (S ++ T)) (p : ρ.r <+: σ.r) (hh : ρ.h = σ.h) (hl : ρ.r.length = S.length) (c : S.all (O.cl S.length) = true) : Rep K mg ρ H S := by
  have q := p
  obtain ⟨t, e⟩ := p
  have nd := r.nd
  rw [← e] at nd
  refine ⟨hl, (List.nodup_append.mp nd).1, fun n a o h1 h2 => ?_, fun a m => ?_⟩
  · obtain ⟨u, hu, hr⟩ := r.at_ n a o (pre_get q h1) (by rw [List.getElem?_append_left (List.getElem?_eq_some_iff.mp h2).1]; exact h2)
    exact ⟨u, hu, hr.cut q hh (by rw [hl]; exact List.all_eq_true.mp c o (List.mem_of_getElem? h2))⟩
  · obtain ⟨h1, n⟩ := r.hd a (hh ▸ m)
    exact ⟨h1, fun z => n (q.subset z)⟩
theorem Ext.cut {σ : Mp} {ρ0 : Mp} {H0 : Hp} (e : Ext ρ0 H0 σ H) (p : ρ.r <+: σ.r) (hh : ρ.h = σ.h) (q : ρ0.r <+: ρ.r) : Ext ρ0 H0 ρ H :=
  ⟨⟨q, fun a o h t n => ⟨(e.keep a o h t n).1, fun m => (e.keep a o h t n).2 (sub_mp p hh m)⟩⟩, fun a o h m => ⟨(e.hid a o h m).1, hh ▸ (e.hid a o h m).2⟩⟩
/-! ### what a step promises -/
section
variable {α β γ δ : Type}
/-- whatever comes of r, told by rel, is wanted -/
def Post (K : PySem.W.Frag) (mg : Str → Option Value) (ρ : Mp) (H : Hp) (r : R α) (rel : Mp → Hp → α → β → Prop) (Q : β → Hp → Prop) : Prop :=
  match r with
  | .ok a S' => ∀ ρ' H' b, Ext ρ H ρ' H' → Rep K mg ρ' H' S' → rel ρ' H' a b → Q b H'
  | .bad => False
theorem Post.imp {r : R α} {rel : Mp → Hp → α → β → Prop} {Q Q' : β → Hp → Prop} (p : Post K mg ρ H r rel Q) (h : ∀ b H', Q b H' → Q' b H') : Post K mg ρ H r rel Q' := by
  cases r with
  | ok a S => exact fun ρ' H' b e rp rl => h b H' (p ρ' H' b e rp rl)
  | bad => exact p
theorem Post.ext {r : R α} {rel : Mp → Hp → α → β → Prop} {Q : β → Hp → Prop} (e : Ext ρ H ρ' H') (p : Post K mg ρ H r rel Q) : Post K mg ρ' H' r rel Q := by
  cases r with
  | ok a S => exact fun ρ1 H1 b e1 rp rl => p ρ1 H1 b (e.trans e1) rp rl
  | bad => exact p
/-- step by step -/
theorem Post.bind {r : R α} {k : α → Sto → R γ} {rel : Mp → Hp → α → β → Prop} {rel' : Mp → Hp → γ → δ → Prop} {Q : δ → Hp → Prop} (p : Post K mg ρ H (r.bind k) rel' Q) :
    Post K mg ρ H r rel (fun b H1 => ∃ ρ1 S1 a, Ext ρ H ρ1 H1 ∧ Rep K mg ρ1 H1 S1 ∧ rel ρ1 H1 a b ∧ Post K mg ρ1 H1 (k a S1) rel' Q) := by
  cases r with
  | ok a S => exact fun ρ' H' b e rp rl => ⟨ρ', S, a, e, rp, rl, Post.ext e p⟩
  | bad => exact p
theorem Post.bindB {r : R α} {k : α → Sto → R γ} {rel : Mp → Hp → α → β → Prop} {rel' : Mp → Hp → γ → δ → Prop} {Q : δ → Hp → Prop} {Q' : β → Hp → Prop} (p : Post K mg ρ H (r.bind k) rel' Q)
    (h : ∀ b H1 ρ1 S1 a, Ext ρ H ρ1 H1 → Rep K mg ρ1 H1 S1 → rel ρ1 H1 a b → Post K mg ρ1 H1 (k a S1) rel' Q → Q' b H1) : Post K mg ρ H r rel Q' :=
  p.bind.imp fun b H1 ⟨ρ1, S1, a, e, rp, rl, q⟩ => h b H1 ρ1 S1 a e rp rl q
theorem Post.ok {a : α} {S : Sto} {rel : Mp → Hp → α → β → Prop} {Q : β → Hp → Prop} {b : β} (p : Post K mg ρ H (.ok a S) rel Q) (rp : Rep K mg ρ H S) (rl : rel ρ H a b) : Q b H :=
  p ρ H b (Ext.refl ρ H) rp rl
end
end
/-! ### a def's names -/
abbrev Env := List (Option D)
structure REnv (K : PySem.W.Frag) (mg : Str → Option Value) (ρ : Mp) (H : Hp) (env : Env) (σ : St) : Prop where
  len : env.length = σ.length
  at_ : ∀ (i : Nat) (d : D), env[i]? = some (some d) → ∃ v, σ[i]? = some (some v) ∧ RV K mg ρ H d v
section
variable {K : PySem.W.Frag} {mg : Str → Option Value} {ρ ρ' : Mp} {H H' : Hp} {env : Env} {σ : St}
theorem REnv.ext (e : Ext ρ H ρ' H') (h : REnv K mg ρ H env σ) : REnv K mg ρ' H' env σ :=
  ⟨h.len, fun i d q => let ⟨v, h1, h2⟩ := h.at_ i d q; ⟨v, h1, h2.ext e⟩⟩
theorem REnv.set {i : Nat} {d : D} {v : V} (h : REnv K mg ρ H env σ) (r : RV K mg ρ H d v) : REnv K mg ρ H (env.set i (some d)) (σ.set i (some v)) :=
  ⟨by rw [List.length_set, List.length_set, h.len], fun j d' q => by
    by_cases hj : i = j
    · subst hj
      by_cases hl : i < env.length
      · rw [List.getElem?_set_self hl] at q
        cases q
        exact ⟨v, by rw [List.getElem?_set_self (h.len ▸ hl)], r⟩
      · rw [List.getElem?_eq_none (by simpa using hl)] at q
        cases q
    · rw [List.getElem?_set_ne hj] at q ⊢
      exact h.at_ j d' q⟩
def wipeE (env : Env) : List Nat → Env
  | [] => env
  | v :: vs => (wipeE env vs).set v none
theorem REnv.wipe (h : REnv K mg ρ H env σ) : ∀ vs : List Nat, REnv K mg ρ H (wipeE env vs) (wipe σ vs)
  | [] => h
  | v :: vs => by
    have ih := REnv.wipe h vs
    refine ⟨by show ((wipeE env vs).set v none).length = ((L2.wipe σ vs).set v none).length; rw [List.length_set, List.length_set, ih.len], fun j d' q => ?_⟩
    have q' : ((wipeE env vs).set v none)[j]? = some (some d') := q
    by_cases hj : v = j
    · subst hj
      by_cases hl : v < (wipeE env vs).length
      · rw [List.getElem?_set_self hl] at q'
        cases q'
      · rw [List.getElem?_eq_none (by simpa using hl)] at q'
        cases q'
    · rw [List.getElem?_set_ne hj] at q'
      obtain ⟨v', h1, h2⟩ := ih.at_ j d' q'
      exact ⟨v', by show ((L2.wipe σ vs).set v none)[j]? = _; rw [List.getElem?_set_ne hj]; exact h1, h2⟩
end
end ML
namespace ML
open PySem L2
/-! ### readings made of plain functions -/
abbrev EM := Env → Sto → R D
abbrev TM := Env → Sto → R Bool
abbrev AM := Env → Sto → R (List D)
section
variable (K : PySem.W.Frag) (mg : Str → Option Value)
def relB (_ : Mp) (_ : Hp) (a b : Bool) : Prop := a = b
def rdE (m : EM) : TE := fun σ H Q => ∃ ρ env S, Rep K mg ρ H S ∧ REnv K mg ρ H env σ ∧ Post K mg ρ H (m env S) (RV K mg) Q
def rdT (m : TM) : TT := fun σ H Q => ∃ ρ env S, Rep K mg ρ H S ∧ REnv K mg ρ H env σ ∧ Post K mg ρ H (m env S) relB Q
def rdA (m : AM) : TA := fun σ H Q => ∃ ρ env S, Rep K mg ρ H S ∧ REnv K mg ρ H env σ ∧ Post K mg ρ H (m env S) (RVs K mg) Q
/-- an operator by values -/
def rdO (f : D → D → Sto → R D) : R2 := fun x y H Q => ∃ ρ S dx dy, Rep K mg ρ H S ∧ RV K mg ρ H dx x ∧ RV K mg ρ H dy y ∧ Post K mg ρ H (f dx dy S) (RV K mg) Q
def rdU (f : D → Sto → R D) : V → Hp → VK → Prop := fun x H Q => ∃ ρ S dx, Rep K mg ρ H S ∧ RV K mg ρ H dx x ∧ Post K mg ρ H (f dx S) (RV K mg) Q
def rdC (f : List D → Sto → R D) : List V → Hp → VK → Prop := fun xs H Q => ∃ ρ S ds, Rep K mg ρ H S ∧ RVs K mg ρ H ds xs ∧ Post K mg ρ H (f ds S) (RV K mg) Q
def rdM (f : D → List D → Sto → R D) : V → List V → Hp → VK → Prop := fun x xs H Q => ∃ ρ S dx ds, Rep K mg ρ H S ∧ RV K mg ρ H dx x ∧ RVs K mg ρ H ds xs ∧ Post K mg ρ H (f dx ds S) (RV K mg) Q
end
theorem _root_.L2.PE.mono' {X : Cx} {e : Expr} {t t' : TE} (h : PE X e t) (m : ∀ σ H Q, t' σ H Q → t σ H Q) : PE X e t' := ⟨fun pins s σ H Q I q => h.run pins s σ H Q I (m σ H Q q)⟩
theorem _root_.L2.PT.mono' {X : Cx} {e : Expr} {t t' : TT} (h : PT X e t) (m : ∀ σ H Q, t' σ H Q → t σ H Q) : PT X e t' := ⟨fun pins s σ H Q I q => h.run pins s σ H Q I (m σ H Q q)⟩
theorem _root_.L2.PW.mono' {X : Cx} {e : Expr} {t t' : TT} (h : PW X e t) (m : ∀ σ H Q, t' σ H Q → t σ H Q) : PW X e t' := ⟨fun w pins s σ H Q I q => h.run w pins s σ H Q I (m σ H Q q)⟩
theorem _root_.L2.PA.mono' {X : Cx} {e : List Expr} {t t' : TA} (h : PA X e t) (m : ∀ σ H Q, t' σ H Q → t σ H Q) : PA X e t' := ⟨fun w pins s σ H Q I q => h.run w pins s σ H Q I (m σ H Q q)⟩
theorem _root_.L2.OpR.mono' {X : Cx} {f : Value → Value → Sem Value} {r r' : R2} (h : OpR X f r) (m : ∀ x y H Q, r' x y H Q → r x y H Q) : OpR X f r' := fun pins s σ H x y v u Q I rx ry q => h pins s σ H x y v u Q I rx ry (m x y H Q q)
abbrev GE (X : Cx) (e : Expr) (m : EM) : Prop := PE X e (rdE X.K X.mg m)
abbrev GT (X : Cx) (e : Expr) (m : TM) : Prop := PT X e (rdT X.K X.mg m)
abbrev GW (X : Cx) (e : Expr) (m : TM) : Prop := PW X e (rdT X.K X.mg m)
abbrev GA (X : Cx) (es : List Expr) (m : AM) : Prop := PA X es (rdA X.K X.mg m)
abbrev GO (X : Cx) (f : Value → Value → Sem Value) (m : D → D → Sto → R D) : Prop := OpR X f (rdO X.K X.mg m)
abbrev GIx (X : Cx) (m : D → D → Sto → R D) : Prop := IxR X (rdO X.K X.mg m)
abbrev GU (X : Cx) (f : Value → Sem Value) (m : D → Sto → R D) : Prop := UnR X f (rdU X.K X.mg m)
abbrev GC (X : Cx) (f : Value) (m : List D → Sto → R D) : Prop := CallR X f (rdC X.K X.mg m)
/-! ### the plain functions of the constructs -/
def mVar (i : Nat) : EM := fun env S => match env[i]? with
  | some (some d) => .ok d S
  | _ => .bad
def mC (d : D) : EM := fun _ S => .ok d S
def mOp (f : D → D → Sto → R D) (a b : EM) : EM := fun env S => (a env S).bind fun x S1 => (b env S1).bind fun y S2 => f x y S2
def mUn (f : D → Sto → R D) (a : EM) : EM := fun env S => (a env S).bind fun x S1 => f x S1
def isB : D → Sto → R Bool
  | .bl b, S => .ok b S
  | _, _ => .bad
def mT (a : EM) : TM := fun env S => (a env S).bind isB
def mAnd (a b : TM) : TM := fun env S => (a env S).bind fun c S1 => if c = true then b env S1 else .ok false S1
def mOr (a b : TM) : TM := fun env S => (a env S).bind fun c S1 => if c = true then .ok true S1 else b env S1
def mNot (a : TM) : TM := fun env S => (a env S).bind fun c S1 => .ok (!c) S1
def mIfE (c : TM) (a b : EM) : EM := fun env S => (c env S).bind fun k S1 => if k = true then a env S1 else b env S1
def mAndV (a b : EM) : EM := fun env S => (a env S).bind fun x S1 => (isB x S1).bind fun c S2 => if c = true then b env S2 else .ok (.bl false) S2
def mOrV (a b : EM) : EM := fun env S => (a env S).bind fun x S1 => (isB x S1).bind fun c S2 => if c = true then .ok (.bl true) S2 else b env S2
def mNotV (a : EM) : EM := fun env S => (a env S).bind fun x S1 => (isB x S1).bind fun c S2 => .ok (.bl (!c)) S2
def mChain (f g : D → D → Sto → R D) (a b c : EM) : EM := fun env S => (a env S).bind fun x S1 => (b env S1).bind fun y S2 => (f x y S2).bind fun z S3 => (isB z S3).bind fun k S4 =>
  if k = true then (c env S4).bind fun w S5 => g y w S5 else .ok (.bl false) S4
def mNil : AM := fun _ S => .ok [] S
def mCons (a : EM) (r : AM) : AM := fun env S => (a env S).bind fun d S1 => (r env S1).bind fun ds S2 => .ok (d :: ds) S2
def mCall (f : List D → Sto → R D) (a : AM) : EM := fun env S => (a env S).bind fun ds S1 => f ds S1
def mTup (a : AM) : EM := fun env S => (a env S).bind fun ds S1 => if ds.length ≤ sizeLine then .ok (.tup ds) S1 else .bad
/-- a list display: one that nobody changes; one that is changed -/
def mLst (a : AM) : EM := fun env S => (a env S).bind fun ds S1 => if ds.length ≤ sizeLine then .ok (.fzl ds) S1 else .bad
def newL (ds : List D) (S : Sto) : R D := .ok (.loc S.length) (S ++ [.lst ds])
def mLstM (a : AM) : EM := fun env S => (a env S).bind fun ds S1 => if ds.length ≤ sizeLine then newL ds S1 else .bad
section
variable {X : Cx} {a b c e : Expr} {es rest : List Expr} {ma mb mc : EM} {ta tb : TM} {as : AM} {pos : Pos}
theorem post_B {K : PySem.W.Frag} {mg : Str → Option Value} {ρ : Mp} {H : Hp} {α β : Type} {d : D} {v : V} {S : Sto} {k : Bool → Sto → R α} {rel : Mp → Hp → α → β → Prop} {Q : β → Hp → Prop} (r : RV K mg ρ H d v) (p : Post K mg ρ H ((isB d S).bind k) rel Q) :
    ∃ c, v = .bl c ∧ Post K mg ρ H (k c S) rel Q := by
  cases r with
  | bl b => exact ⟨b, rfl, p⟩
  | _ => exact p.elim
theorem ge_var {i : Nat} {x : Str} {pos : Pos} (hN : X.N[i]? = some x := by rfl) (hv : Vis X.env.scope x := by first | exact Or.inl rfl | exact Or.inr (Or.inl rfl) | exact Or.inr (Or.inr rfl)) (hd : (x == ("__debug__" : Str)) = false := by decide)
    (hcd : (x == ("__classdict__" : Str)) = false := by decide) : GE X (.Name x pos) (mVar i) :=
  (pe_var hN hv hd hcd).mono' fun σ H Q ⟨ρ, env, S, rp, re, p⟩ => by
    unfold mVar at p
    split at p
    · next d q =>
      obtain ⟨v, h1, h2⟩ := re.at_ i d q
      exact ⟨v, h1, p.ok rp h2⟩
    · exact p.elim
theorem ge_int {i : Int} {j : Nat} : GE X (.Constant (.int i) j pos) (mC (.int i)) := pe_int.mono' fun σ H Q ⟨ρ, env, S, rp, re, p⟩ => Post.ok p rp (.int i)
theorem ge_bl {b : Bool} {j : Nat} : GE X (.Constant (.bool b) j pos) (mC (.bl b)) := pe_bl.mono' fun σ H Q ⟨ρ, env, S, rp, re, p⟩ => Post.ok p rp (.bl b)
theorem ge_non {j : Nat} : GE X (.Constant .none j pos) (mC .non) := pe_non.mono' fun σ H Q ⟨ρ, env, S, rp, re, p⟩ => Post.ok p rp .non
theorem ge_str {x : Str} {j : Nat} : GE X (.Constant (.str x) j pos) (mC (.str x)) := pe_str.mono' fun σ H Q ⟨ρ, env, S, rp, re, p⟩ => Post.ok p rp (.str x)
/-- a module's name that holds an int, a text .. -/
theorem ge_globI {x : Str} {i : Int} {pos : Pos} (hg : Gl X x) (hm : ∃ t, X.mg x = some (.int i t)) (hd : (x == ("__debug__" : Str)) = false := by decide) : GE X (.Name x pos) (mC (.int i)) := by
  obtain ⟨t, hm⟩ := hm
  exact (pe_glob hg hm (v := .int i) ⟨t, rfl⟩ hd).mono' fun σ H Q ⟨ρ, env, S, rp, re, p⟩ => Post.ok p rp (.int i)
theorem ge_glob {x : Str} {u : Value} {v : V} {pos : Pos} (hg : Gl X x) (hm : X.mg x = some u) (r : RelV v u) (hd : (x == ("__debug__" : Str)) = false := by decide) : GE X (.Name x pos) (mC (.glb x)) :=
  (pe_glob hg hm r hd).mono' fun σ H Q ⟨ρ, env, S, rp, re, p⟩ => Post.ok p rp (.glb hm r)
theorem ge_ty {x : Str} {n : String} {pos : Pos} (hg : Gl X x) (hm : X.mg x = none) (hv : bootBuiltins x = some (.type n)) (hn : x ≠ "__name__" := by decide) (hd : (x == ("__debug__" : Str)) = false := by decide) : GE X (.Name x pos) (mC (.ty n)) :=
  (pe_bltn (v := .ty n) hg hm hv rfl hn hd).mono' fun σ H Q ⟨ρ, env, S, rp, re, p⟩ => Post.ok p rp (.ty n)
/-- two readings, then a third by their values -/
theorem rd2 {K : PySem.W.Frag} {mg : Str → Option Value} {f : D → D → Sto → R D} {σ : St} {H : Hp} {Q : VK} (h : rdE K mg (mOp f ma mb) σ H Q) : tOp (rdO K mg f) (rdE K mg ma) (rdE K mg mb) σ H Q := by
  obtain ⟨ρ, env, S, rp, re, p⟩ := h
  refine ⟨ρ, env, S, rp, re, Post.bindB p fun x H1 ρ1 S1 d e1 rp1 rv1 p1 => ?_⟩
  refine ⟨ρ1, env, S1, rp1, re.ext e1, Post.bindB p1 fun y H2 ρ2 S2 d2 e2 rp2 rv2 p2 => ?_⟩
  exact ⟨ρ2, S2, d, d2, rp2, rv1.ext e2, rv2, p2⟩
theorem ge_op {op : Operator} {f : D → D → Sto → R D} (ho : GO X (binaryOp op) f) (ha : GE X a ma) (hb : GE X b mb) : GE X (.BinOp a op b pos) (mOp f ma mb) := (pe_op ho ha hb).mono' fun _ _ _ h => rd2 h
theorem ge_cmp {op : CmpOp} {f : D → D → Sto → R D} (ho : GO X (compareOp op) f) (ha : GE X a ma) (hb : GE X b mb) (hm : behindInMarks op b = false := by first | exact nomark _ | rfl) : GE X (.Compare a [op] [b] pos) (mOp f ma mb) := (pe_cmpR ho ha hb hm).mono' fun _ _ _ h => rd2 h
theorem ge_ix {f : D → D → Sto → R D} (ho : GIx X f) (ha : GE X a ma) (hb : GE X b mb) (hs : PlainIx b := by intro _ _; rfl) : GE X (.Subscript a b pos) (mOp f ma mb) := (pe_ix ho ha hb hs).mono' fun _ _ _ h => rd2 h
theorem ge_un {op : UnaryOp} {f : D → Sto → R D} (ho : GU X (unaryOp op) f) (ha : GE X a ma) : GE X (.UnaryOp op a pos) (mUn f ma) :=
  (pe_un ho ha).mono' fun σ H Q ⟨ρ, env, S, rp, re, p⟩ => ⟨ρ, env, S, rp, re, Post.bindB p fun x H1 ρ1 S1 d e1 rp1 rv1 p1 => ⟨ρ1, S1, d, rp1, rv1, p1⟩⟩
/-- tests -/
theorem rdT1 {K : PySem.W.Frag} {mg : Str → Option Value} {σ : St} {H : Hp} {Q : Bool → Hp → Prop} (h : rdT K mg (mT ma) σ H Q) : tTest (rdE K mg ma) σ H Q := by
  obtain ⟨ρ, env, S, rp, re, p⟩ := h
  refine ⟨ρ, env, S, rp, re, Post.bindB p fun x H1 ρ1 S1 d e1 rp1 rv1 p1 => ?_⟩
  cases rv1 with
  | bl b => exact ⟨b, rfl, Post.ok p1 rp1 rfl⟩
  | _ => exact p1.elim
theorem gt_cmp {op : CmpOp} {f : D → D → Sto → R D} (ho : GO X (compareOp op) f) (ha : GE X a ma) (hb : GE X b mb) (hm : behindInMarks op b = false := by first | exact nomark _ | rfl) : GT X (.Compare a [op] [b] pos) (mT (mOp f ma mb)) :=
  (pt_cmpR ho ha hb hm).mono' fun σ H Q h => by
    have q : tTest (rdE X.K X.mg (mOp f ma mb)) σ H Q := rdT1 h
    exact rd2 q
theorem gt_val (h : GE X e ma) (he : ∀ whole, isTrue e X.env whole = (do let v ← whole; standAt e.pos; holding [v] (truthy v)) := by intro _; rfl) : GT X e (mT ma) :=
  (pt_val h he).mono' fun σ H Q h => by
    obtain ⟨ρ, env, S, rp, re, p⟩ := h
    refine ⟨ρ, env, S, rp, re, Post.bindB p fun x H1 ρ1 S1 d e1 rp1 rv1 p1 => ?_⟩
    cases rv1 with
    | bl b => exact ⟨b, rfl, Post.ok p1 rp1 rfl⟩
    | _ => exact p1.elim
theorem gw_and1 (ha : GT X a ta) : GW X (.BoolOp .And [a] pos) ta := pw_and1 ha
theorem gw_or1 (ha : GT X a ta) : GW X (.BoolOp .Or [a] pos) ta := pw_or1 ha
theorem gw_and (ha : GT X a ta) (hb : GW X (.BoolOp .And (b :: rest) pos) tb) : GW X (.BoolOp .And (a :: b :: rest) pos) (mAnd ta tb) :=
  (pw_and ha hb).mono' fun σ H Q ⟨ρ, env, S, rp, re, p⟩ => ⟨ρ, env, S, rp, re, Post.bindB p fun k H1 ρ1 S1 k' e1 rp1 rv1 p1 => by
    cases rv1
    cases k with
    | true => exact ⟨ρ1, env, S1, rp1, re.ext e1, p1⟩
    | false => exact Post.ok (a := false) p1 rp1 rfl⟩
theorem gw_or (ha : GT X a ta) (hb : GW X (.BoolOp .Or (b :: rest) pos) tb) : GW X (.BoolOp .Or (a :: b :: rest) pos) (mOr ta tb) :=
  (pw_or ha hb).mono' fun σ H Q ⟨ρ, env, S, rp, re, p⟩ => ⟨ρ, env, S, rp, re, Post.bindB p fun k H1 ρ1 S1 k' e1 rp1 rv1 p1 => by
    cases rv1
    cases k with
    | false => exact ⟨ρ1, env, S1, rp1, re.ext e1, p1⟩
    | true => exact Post.ok (a := true) p1 rp1 rfl⟩
theorem gt_w (h : GW X e ta) : GT X e ta := h.pt
theorem gt_not (ha : GT X a ta) : GT X (.UnaryOp .Not a pos) (mNot ta) :=
  (pt_not ha).mono' fun σ H Q ⟨ρ, env, S, rp, re, p⟩ => ⟨ρ, env, S, rp, re, Post.bindB p fun k H1 ρ1 S1 k' e1 rp1 rv1 p1 => by
    cases rv1
    exact Post.ok (a := !k) p1 rp1 rfl⟩
theorem ge_if (hc : GT X c ta) (ha : GE X a ma) (hb : GE X b mb) : GE X (.IfExp c a b pos) (mIfE ta ma mb) :=
  (pe_ifExp hc ha hb).mono' fun σ H Q ⟨ρ, env, S, rp, re, p⟩ => ⟨ρ, env, S, rp, re, Post.bindB p fun k H1 ρ1 S1 k' e1 rp1 rv1 p1 => by
    cases rv1
    cases k with
    | true => exact ⟨ρ1, env, S1, rp1, re.ext e1, p1⟩
    | false => exact ⟨ρ1, env, S1, rp1, re.ext e1, p1⟩⟩
theorem ge_one {op : BoolOp} (h : GE X a ma) : GE X (.BoolOp op [a] pos) ma := pe_one h
theorem ge_and (ha : GE X a ma) (hb : GE X (.BoolOp .And (b :: rest) pos) mb) : GE X (.BoolOp .And (a :: b :: rest) pos) (mAndV ma mb) :=
  (pe_and ha hb).mono' fun σ H Q ⟨ρ, env, S, rp, re, p⟩ => ⟨ρ, env, S, rp, re, Post.bindB p fun v H1 ρ1 S1 d e1 rp1 rv1 p1 => by
    obtain ⟨c, rfl, p2⟩ := post_B rv1 p1
    refine ⟨c, rfl, ?_⟩
    cases c with
    | true => exact ⟨ρ1, env, S1, rp1, re.ext e1, p2⟩
    | false => exact Post.ok (a := D.bl false) p2 rp1 (RV.bl false)⟩
theorem ge_or (ha : GE X a ma) (hb : GE X (.BoolOp .Or (b :: rest) pos) mb) : GE X (.BoolOp .Or (a :: b :: rest) pos) (mOrV ma mb) :=
  (pe_or ha hb).mono' fun σ H Q ⟨ρ, env, S, rp, re, p⟩ => ⟨ρ, env, S, rp, re, Post.bindB p fun v H1 ρ1 S1 d e1 rp1 rv1 p1 => by
    obtain ⟨c, rfl, p2⟩ := post_B rv1 p1
    refine ⟨c, rfl, ?_⟩
    cases c with
    | false => exact ⟨ρ1, env, S1, rp1, re.ext e1, p2⟩
    | true => exact Post.ok (a := D.bl true) p2 rp1 (RV.bl true)⟩
theorem ge_not (ha : GE X a ma) : GE X (.UnaryOp .Not a pos) (mNotV ma) :=
  (pe_not ha).mono' fun σ H Q ⟨ρ, env, S, rp, re, p⟩ => ⟨ρ, env, S, rp, re, Post.bindB p fun v H1 ρ1 S1 d e1 rp1 rv1 p1 => by
    obtain ⟨c, rfl, p2⟩ := post_B rv1 p1
    exact ⟨c, rfl, Post.ok (a := D.bl (!c)) p2 rp1 (RV.bl (!c))⟩⟩
theorem rdChain {K : PySem.W.Frag} {mg : Str → Option Value} {f g : D → D → Sto → R D} {σ : St} {H : Hp} {Q : VK} (h : rdE K mg (mChain f g ma mb mc) σ H Q) : tChain (rdO K mg f) (rdO K mg g) (rdE K mg ma) (rdE K mg mb) (rdE K mg mc) σ H Q := by
  obtain ⟨ρ, env, S, rp, re, p⟩ := h
  refine ⟨ρ, env, S, rp, re, Post.bindB p fun x H1 ρ1 S1 d e1 rp1 rv1 p1 => ?_⟩
  refine ⟨ρ1, env, S1, rp1, re.ext e1, Post.bindB p1 fun y H2 ρ2 S2 d2 e2 rp2 rv2 p2 => ?_⟩
  refine ⟨ρ2, S2, d, d2, rp2, rv1.ext e2, rv2, Post.bindB p2 fun z H3 ρ3 S3 d3 e3 rp3 rv3 p3 => ?_⟩
  obtain ⟨c, rfl, p4⟩ := post_B rv3 p3
  refine ⟨c, rfl, ?_⟩
  cases c with
  | false => exact Post.ok (a := D.bl false) p4 rp3 (RV.bl false)
  | true =>
    refine ⟨ρ3, env, S3, rp3, ((re.ext e1).ext e2).ext e3, Post.bindB p4 fun w H4 ρ4 S4 d4 e4 rp4 rv4 p5 => ?_⟩
    exact ⟨ρ4, S4, d2, d4, rp4, (rv2.ext e3).ext e4, rv4, p5⟩
theorem ge_chain {op op' : CmpOp} {f g : D → D → Sto → R D} (ho : GO X (compareOp op) f) (ho' : GO X (compareOp op') g) (ha : GE X a ma) (hb : GE X b mb) (hc : GE X c mc)
    (hm : lastMarks [op, op'] [b, c] = false := by with_unfolding_all rfl) : GE X (.Compare a [op, op'] [b, c] pos) (mChain f g ma mb mc) := (pe_chain ho ho' ha hb hc hm).mono' fun _ _ _ h => rdChain h
theorem gt_chain {op op' : CmpOp} {f g : D → D → Sto → R D} (ho : GO X (compareOp op) f) (ho' : GO X (compareOp op') g) (ha : GE X a ma) (hb : GE X b mb) (hc : GE X c mc)
    (hm : lastMarks [op, op'] [b, c] = false := by with_unfolding_all rfl) : GT X (.Compare a [op, op'] [b, c] pos) (mT (mChain f g ma mb mc)) :=
  (pt_chain ho ho' ha hb hc hm).mono' fun σ H Q h => by
    have q : tTest (rdE X.K X.mg (mChain f g ma mb mc)) σ H Q := rdT1 h
    exact rdChain q
theorem ga_nil : GA X [] mNil := pa_nil.mono' fun σ H Q ⟨ρ, env, S, rp, re, p⟩ => Post.ok p rp .nil
theorem ga_cons (ha : GE X e ma) (hr : GA X es as) (hs : starEach (e :: es) X.env = (false, eval e X.env) :: starEach es X.env := by rfl) : GA X (e :: es) (mCons ma as) :=
  (pa_cons ha hr hs).mono' fun σ H Q ⟨ρ, env, S, rp, re, p⟩ => ⟨ρ, env, S, rp, re, Post.bindB p fun v H1 ρ1 S1 d e1 rp1 rv1 p1 =>
    ⟨ρ1, env, S1, rp1, re.ext e1, Post.bindB p1 fun vs H2 ρ2 S2 ds e2 rp2 rv2 p2 => Post.ok p2 rp2 (.cons (rv1.ext e2) rv2)⟩⟩
theorem ge_tup {k : Nat} (h : GA X es as) : GE X (.Tuple es k pos) (mTup as) :=
  (pe_tup h).mono' fun σ H Q ⟨ρ, env, S, rp, re, p⟩ => ⟨ρ, env, S, rp, re, Post.bindB p fun vs H1 ρ1 S1 ds e1 rp1 rv1 p1 => by
    split at p1
    · next hz => exact ⟨by rw [← rv1.length]; exact hz, fun q hq => p1 ρ1 _ _ (Ext.new hq) (rp1.new hq) (.tup (TAt.new rp1 hq) (rv1.ext (Ext.new hq)))⟩
    · exact p1.elim⟩
theorem ge_lst (h : GA X es as) : GE X (.List es pos) (mLst as) :=
  (pe_lst h).mono' fun σ H Q ⟨ρ, env, S, rp, re, p⟩ => ⟨ρ, env, S, rp, re, Post.bindB p fun vs H1 ρ1 S1 ds e1 rp1 rv1 p1 => by
    split at p1
    · next hz => exact ⟨by rw [← rv1.length]; exact hz, fun q hq => p1 ρ1 _ _ (Ext.new hq) (rp1.new hq) (.fzl (FAt.new rp1 hq) (rv1.ext (Ext.new hq)))⟩
    · exact p1.elim⟩
theorem post_newL {K : PySem.W.Frag} {mg : Str → Option Value} {ρ : Mp} {H : Hp} {S : Sto} {ds : List D} {vs : List V} {Q : VK} (rp : Rep K mg ρ H S) (rv : RVs K mg ρ H ds vs) (p : Post K mg ρ H (newL ds S) (RV K mg) Q) : ∀ q, H q = none → Q (.ref q) (upd H q (.lst vs)) :=
  fun q hq => p (ρ.add q) _ _ (Ext.add hq) (rp.add hq (.lst rv)) (.loc (add_get rp))
theorem ge_lstM (h : GA X es as) : GE X (.List es pos) (mLstM as) :=
  (pe_lst h).mono' fun σ H Q ⟨ρ, env, S, rp, re, p⟩ => ⟨ρ, env, S, rp, re, Post.bindB p fun vs H1 ρ1 S1 ds e1 rp1 rv1 p1 => by
    split at p1
    · next hz => exact ⟨by rw [← rv1.length]; exact hz, post_newL rp1 rv1 p1⟩
    · exact p1.elim⟩
/-- calls of built-ins -/
theorem rdC1 {K : PySem.W.Frag} {mg : Str → Option Value} {f : List D → Sto → R D} {σ : St} {H : Hp} {Q : VK} (h : rdE K mg (mCall f as) σ H Q) : tCB (rdC K mg f) (rdA K mg as) σ H Q := by
  obtain ⟨ρ, env, S, rp, re, p⟩ := h
  exact ⟨ρ, env, S, rp, re, Post.bindB p fun xs H1 ρ1 S1 ds e1 rp1 rv1 p1 => ⟨ρ1, S1, ds, rp1, rv1, p1⟩⟩
theorem ge_callB {x : Str} {id : String} {p : Pos} {f : List D → Sto → R D} (hc : GC X (.builtin id) f) (hg : Gl X x) (hm : X.mg x = none) (hv : bootBuiltins x = some (.builtin id)) (ha : GA X (e :: es) as) (hn : x ≠ "__name__" := by decide) (hdb : (x == ("__debug__" : Str)) = false := by decide)
    (he : starEach (e :: es) X.env = (false, eval e X.env) :: starEach es X.env := by rfl) (hpl : (backTo pos (starEach es X.env)).any (·.1) = false := by rfl) : GE X (.Call (.Name x p) (e :: es) [] pos) (mCall f as) :=
  (pe_callB hc hg hm hv ha hn hdb he hpl).mono' fun _ _ _ h => rdC1 h
theorem ge_callTy {x : Str} {T : String} {p : Pos} {f : List D → Sto → R D} (hc : GC X (.type T) f) (hg : Gl X x) (hm : X.mg x = none) (hv : bootBuiltins x = some (.type T)) (ha : GA X (e :: es) as) (hn : x ≠ "__name__" := by decide) (hdb : (x == ("__debug__" : Str)) = false := by decide)
    (he : starEach (e :: es) X.env = (false, eval e X.env) :: starEach es X.env := by rfl) (hpl : (backTo pos (starEach es X.env)).any (·.1) = false := by rfl) : GE X (.Call (.Name x p) (e :: es) [] pos) (mCall f as) :=
  (pe_callTy hc hg hm hv ha hn hdb he hpl).mono' fun _ _ _ h => rdC1 h
end
end ML
namespace ML
open PySem L2
/-! ### what a value is, by the store -/
def lstOf (S : Sto) : D → Option (List D)
  | .fzl ds => some ds
  | .kl ds => some ds
  | .loc n => match S[n]? with
    | some (.lst ds) => some ds
    | _ => none
  | _ => none
def catOf (S : Sto) : D → Option (List D)
  | .fzl ds => some ds
  | .loc n => match S[n]? with
    | some (.lst ds) => some ds
    | _ => none
  | _ => none
section
variable {K : PySem.W.Frag} {mg : Str → Option Value} {ρ : Mp} {H : Hp} {S : Sto} {d : D} {v : V} {ds : List D}
theorem Rep.obj {n : Nat} {a : Addr} {o : O} (rp : Rep K mg ρ H S) (ha : ρ.r[n]? = some a) (ho : S[n]? = some o) : ∃ u, H a = some u ∧ RO K mg ρ H o u := rp.at_ n a o ha ho
theorem cat_at (rp : Rep K mg ρ H S) (r : RV K mg ρ H d v) (h : catOf S d = some ds) : ∃ a xs, v = .ref a ∧ H a = some (.lst xs) ∧ RVs K mg ρ H ds xs := by
  cases r with
  | fzl t r => cases h; exact ⟨_, _, rfl, t.1, r⟩
  | loc ha =>
    next n a =>
    unfold catOf at h
    cases q : S[n]? with
    | none => simp [q] at h
    | some o =>
      cases o with
      | lst es =>
        simp [q] at h
        subst h
        obtain ⟨u, hu, ro⟩ := rp.obj ha q
        cases ro with
        | lst r => exact ⟨_, _, rfl, hu, r⟩
      | dK _ => simp [q] at h
      | dT _ => simp [q] at h
  | _ => cases h
theorem lst_at (rp : Rep K mg ρ H S) (r : RV K mg ρ H d v) (h : lstOf S d = some ds) : ∃ a xs, v = .ref a ∧ SqL K H a xs ∧ RVs K mg ρ H ds xs := by
  cases d with
  | kl es =>
    cases h
    cases r with
    | kl t r => exact ⟨_, _, rfl, t.sq, r⟩
  | fzl es =>
    obtain ⟨a, xs, e, h1, h2⟩ := cat_at (ds := ds) rp r h
    exact ⟨a, xs, e, .of h1, h2⟩
  | loc n =>
    obtain ⟨a, xs, e, h1, h2⟩ := cat_at (ds := ds) rp r h
    exact ⟨a, xs, e, .of h1, h2⟩
  | _ => cases h
theorem tup_at (r : RV K mg ρ H (.tup ds) v) : ∃ a xs, v = .ref a ∧ TAt K ρ H a xs ∧ RVs K mg ρ H ds xs := by
  cases r with
  | tup t r => exact ⟨_, _, rfl, t, r⟩
/-- None, bools, ints, texts, lists, tuples as data -/
def opAll {α β : Type} (f : α → Option β) : List α → Option (List β)
  | [] => some []
  | x :: xs => match f x, opAll f xs with
    | some y, some ys => some (y :: ys)
    | _, _ => none
def toPD (S : Sto) : Nat → D → Option PyData
  | _, .non => some .none
  | _, .bl b => some (.bool b)
  | _, .int i => some (.int i)
  | _, .str x => some (.str x)
  | k + 1, .tup ds => (opAll (toPD S k) ds).map .tuple
  | k + 1, .fzl ds => (opAll (toPD S k) ds).map .list
  | k + 1, .kl ds => (opAll (toPD S k) ds).map .list
  | k + 1, .loc n => match S[n]? with
    | some (.lst ds) => (opAll (toPD S k) ds).map .list
    | _ => none
  | _, _ => none
theorem dpAll_of {f : D → Option PyData} (hf : ∀ d v p, RV K mg ρ H d v → f d = some p → Dp K H v p) : ∀ {ds : List D} {vs : List V} {ps : List PyData}, RVs K mg ρ H ds vs → opAll f ds = some ps → DpAll K H vs ps
  | _, _, _, .nil, h => by cases h; exact .nil
  | d :: ds, _, ps, .cons r t, h => by
    unfold opAll at h
    cases h1 : f d with
    | none => simp [h1] at h
    | some y =>
      cases h2 : opAll f ds with
      | none => simp [h1, h2] at h
      | some ys =>
        simp [h1, h2] at h
        subst h
        exact .cons (hf _ _ _ r h1) (dpAll_of hf t h2)
theorem dp_of (rp : Rep K mg ρ H S) : ∀ (k : Nat) (d : D) (v : V) (p : PyData), RV K mg ρ H d v → toPD S k d = some p → Dp K H v p := by
  intro k
  induction k with
  | zero =>
    intro d v p r h
    cases r with
    | non => simp [toPD] at h; subst h; exact .non
    | bl b => simp [toPD] at h; subst h; exact .bl b
    | int i => simp [toPD] at h; subst h; exact .int i
    | str x => simp [toPD] at h; subst h; exact .str x
    | _ => simp [toPD] at h
  | succ k ih =>
    intro d v p r h
    cases r with
    | non => simp [toPD] at h; subst h; exact .non
    | bl b => simp [toPD] at h; subst h; exact .bl b
    | int i => simp [toPD] at h; subst h; exact .int i
    | str x => simp [toPD] at h; subst h; exact .str x
    | ty n => simp [toPD] at h
    | glb _ _ => simp [toPD] at h
    | tup t r =>
      simp [toPD] at h
      obtain ⟨ps, h1, rfl⟩ := h
      exact .tup t.sq (dpAll_of ih r h1)
    | fzl t r =>
      simp [toPD] at h
      obtain ⟨ps, h1, rfl⟩ := h
      exact .lst (.of t.1) (dpAll_of ih r h1)
    | kl t r =>
      simp [toPD] at h
      obtain ⟨ps, h1, rfl⟩ := h
      exact .lst t.sq (dpAll_of ih r h1)
    | loc ha =>
      next n a =>
      cases q : S[n]? with
      | none => simp [toPD, q] at h
      | some o =>
        cases o with
        | lst es =>
          simp [toPD, q] at h
          obtain ⟨ps, h1, rfl⟩ := h
          obtain ⟨u, hu, ro⟩ := rp.obj ha q
          cases ro with
          | lst r => exact .lst (.of hu) (dpAll_of ih r h1)
        | dK _ => simp [toPD, q] at h
        | dT _ => simp [toPD, q] at h
end
/-! ### operators -/
def pdS (S : Sto) (d : D) : Option PyData := match toPD S 8 d with
  | some p => if SeqAt.shaped p = true then some p else none
  | none => none
theorem pd_at {K : PySem.W.Frag} {mg : Str → Option Value} {ρ : Mp} {H : Hp} {S : Sto} {d : D} {v : V} {p : PyData} (rp : Rep K mg ρ H S) (r : RV K mg ρ H d v) (h : pdS S d = some p) : Dp K H v p ∧ SeqAt.shaped p = true := by
  unfold pdS at h
  cases q : toPD S 8 d with
  | none => simp [q] at h
  | some z =>
    simp [q] at h
    obtain ⟨h1, rfl⟩ := h
    exact ⟨dp_of rp 8 d v z r q, h1⟩
def intsOf : List D → Option (List Int)
  | [] => some []
  | .int i :: ds => (intsOf ds).map (i :: ·)
  | _ :: _ => none
def blsOf : List D → Option (List Bool)
  | [] => some []
  | .bl i :: ds => (blsOf ds).map (i :: ·)
  | _ :: _ => none
theorem ints_at {K : PySem.W.Frag} {mg : Str → Option Value} {ρ : Mp} {H : Hp} : ∀ {ds : List D} {vs : List V} {ns : List Int}, RVs K mg ρ H ds vs → intsOf ds = some ns → vs = ns.map V.int
  | _, _, _, .nil, h => by cases h; rfl
  | _, _, ns, .cons (d := d) r t, h => by
    cases r with
    | int i =>
      simp [intsOf] at h
      obtain ⟨ms, h1, rfl⟩ := h
      rw [ints_at t h1]
      rfl
    | _ => simp [intsOf] at h
theorem bls_at {K : PySem.W.Frag} {mg : Str → Option Value} {ρ : Mp} {H : Hp} : ∀ {ds : List D} {vs : List V} {ns : List Bool}, RVs K mg ρ H ds vs → blsOf ds = some ns → vs = ns.map V.bl
  | _, _, _, .nil, h => by cases h; rfl
  | _, _, ns, .cons (d := d) r t, h => by
    cases r with
    | bl i =>
      simp [blsOf] at h
      obtain ⟨ms, h1, rfl⟩ := h
      rw [bls_at t h1]
      rfl
    | _ => simp [blsOf] at h
def m_add : D → D → Sto → R D
  | .int i, .int j, S => .ok (.int (i + j)) S
  | .str a, .str b, S => if a.length + b.length ≤ sizeLine then .ok (.str (a ++ b)) S else .bad
  | .tup a, .tup b, S => if a.length + b.length ≤ sizeLine then .ok (.tup (a ++ b)) S else .bad
  | x, y, S => match catOf S x, catOf S y with
    | some a, some b => if a.length + b.length ≤ sizeLine then .ok (.fzl (a ++ b)) S else .bad
    | _, _ => .bad
def m_sub : D → D → Sto → R D
  | .int i, .int j, S => .ok (.int (i - j)) S
  | _, _, _ => .bad
instance (i j : Int) : Decidable (CMul i j) := by unfold CMul; infer_instance
def m_mul : D → D → Sto → R D
  | .int i, .int j, S => if CMul i j then .ok (.int (i * j)) S else .bad
  | .tup a, .int k, S => if a ≠ [] ∧ 2 ≤ k ∧ k ≤ 1000 ∧ a.length ≤ 1000 then .ok (.tup (List.replicate k.toNat a).flatten) S else .bad
  | x, .int k, S => match catOf S x with
    | some a => if -(2 ^ 63) ≤ k ∧ k < 2 ^ 63 ∧ a.length * k.toNat ≤ sizeLine then .ok (.fzl (List.replicate k.toNat a).flatten) S else .bad
    | none => .bad
  | _, _, _ => .bad
def m_fdiv : D → D → Sto → R D
  | .int i, .int j, S => if j ≠ 0 ∧ j.natAbs < 1073741824 then .ok (.int (i.fdiv j)) S else .bad
  | _, _, _ => .bad
def m_mod : D → D → Sto → R D
  | .int i, .int j, S => if j ≠ 0 then .ok (.int (i.fmod j)) S else .bad
  | _, _, _ => .bad
def m_pow : D → D → Sto → R D
  | .int i, .int j, S => if 0 ≤ j ∧ j ≤ 1000000 ∧ i.natAbs < 2 ^ 64 then .ok (.int (i ^ j.toNat)) S else .bad
  | _, _, _ => .bad
def m_eq (x y : D) (S : Sto) : R D := match pdS S x, pdS S y with
  | some d, some e => .ok (.bl (PyData.eqv d e)) S
  | _, _ => .bad
def m_ne (x y : D) (S : Sto) : R D := match pdS S x, pdS S y with
  | some d, some e => .ok (.bl (!PyData.eqv d e)) S
  | _, _ => .bad
def m_cmpI (f : Int → Int → Bool) : D → D → Sto → R D
  | .int i, .int j, S => .ok (.bl (f i j)) S
  | _, _, _ => .bad
abbrev m_gt : D → D → Sto → R D := m_cmpI fun i j => decide (j < i)
abbrev m_ge : D → D → Sto → R D := m_cmpI fun i j => decide (j ≤ i)
abbrev m_le : D → D → Sto → R D := m_cmpI fun i j => decide (i ≤ j)
def m_lt : D → D → Sto → R D
  | .int i, .int j, S => .ok (.bl (decide (i < j))) S
  | .tup a, .tup b, S => match intsOf a, intsOf b with
    | some ns, some ms => .ok (.bl (HT.lexLt ns ms)) S
    | _, _ => .bad
  | _, _, _ => .bad
def pds (S : Sto) (d : D) : Option (Bool × List PyData) := match pdS S d with
    | some (.list ds) => some (false, ds)
    | some (.tuple ds) => some (true, ds)
    | _ => none
def m_in (x y : D) (S : Sto) : R D := match pdS S x, pds S y with
  | some d, some (_, ds) => .ok (.bl (ds.any fun z => PyData.eqv z d)) S
  | _, _ => .bad
def m_notin (x y : D) (S : Sto) : R D := match pdS S x, pds S y with
  | some d, some (_, ds) => .ok (.bl (!ds.any fun z => PyData.eqv z d)) S
  | _, _ => .bad
def isNon : D → Bool
  | .non => true
  | _ => false
def m_is : D → D → Sto → R D
  | .bl a, .bl b, S => .ok (.bl (decide (a = b))) S
  | .glb _, .non, _ => .bad
  | x, .non, S => .ok (.bl (isNon x)) S
  | _, _, _ => .bad
def m_isnot : D → D → Sto → R D
  | .bl a, .bl b, S => .ok (.bl (!decide (a = b))) S
  | .glb _, .non, _ => .bad
  | x, .non, S => .ok (.bl (!isNon x)) S
  | _, _, _ => .bad
def m_ix : D → D → Sto → R D
  | .tup a, .int i, S => match atI a i with
    | some d => .ok d S
    | none => .bad
  | .str z, .int i, S => if z.length ≤ sizeLine then (match atI z.cps.toList i with
    | some c => .ok (.str ⟨#[c]⟩) S
    | none => .bad) else .bad
  | x, .int i, S => match lstOf S x with
    | some a => (match atI a i with
      | some d => .ok d S
      | none => .bad)
    | none => .bad
  | _, _, _ => .bad
section
variable {X : Cx}
theorem RVs.atI {K : PySem.W.Frag} {mg : Str → Option Value} {ρ : Mp} {H : Hp} {ds : List D} {vs : List V} {d : D} {i : Int} (r : RVs K mg ρ H ds vs) (h : L2.atI ds i = some d) : ∃ v, L2.atI vs i = some v ∧ RV K mg ρ H d v := by
  unfold L2.atI at h ⊢
  rw [← r.length]
  cases q : ixN ds.length i with
  | none => simp [q] at h
  | some j => simp only [q, Option.bind_some] at h ⊢; exact r.getD h
theorem go_addL : GO X (binaryOp .Add) (fun x y S => match catOf S x, catOf S y with
    | some a, some b => if a.length + b.length ≤ sizeLine then .ok (.fzl (a ++ b)) S else .bad
    | _, _ => .bad) := op_cat.mono' fun x y H Q ⟨ρ, S, dx, dy, rp, rx, ry, p⟩ => by
  cases q1 : catOf S dx with
  | none => simp [q1] at p; exact p.elim
  | some a =>
    cases q2 : catOf S dy with
    | none => simp [q1, q2] at p; exact p.elim
    | some b =>
      simp only [q1, q2] at p
      split at p
      · next hz =>
        obtain ⟨l, xs, rfl, h1, r1⟩ := cat_at rp rx q1
        obtain ⟨m, ys, rfl, h2, r2⟩ := cat_at rp ry q2
        exact ⟨l, m, xs, ys, rfl, rfl, h1, h2, by rw [← r1.length, ← r2.length]; exact hz, fun z hz => p ρ _ _ (Ext.new hz) (rp.new hz) (.fzl (FAt.new rp hz) ((r1.append r2).ext (Ext.new hz)))⟩
      · exact p.elim
theorem go_add : GO X (binaryOp .Add) m_add := fun pins s σ H x y v u Q I rx ry ⟨ρ, S, dx, dy, rp, hx, hy, p⟩ => by
  unfold m_add at p
  split at p
  · cases hx; cases hy
    exact op_add pins s σ H _ _ v u Q I rx ry ⟨_, _, rfl, rfl, p.ok rp (.int _)⟩
  · cases hx; cases hy
    split at p
    · next hz => exact op_add_str pins s σ H _ _ v u Q I rx ry ⟨_, _, rfl, rfl, hz, p.ok rp (.str _)⟩
    · exact p.elim
  · obtain ⟨l, xs, rfl, h1, r1⟩ := tup_at hx
    obtain ⟨m, ys, rfl, h2, r2⟩ := tup_at hy
    split at p
    · next hz =>
      refine op_catA pins s σ H _ _ v u Q I rx ry ⟨l, m, xs, ys, rfl, rfl, h1.sq, h2.sq, by rw [← r1.length, ← r2.length]; exact hz, fun e => ?_, fun _ e => ?_, fun _ _ z hz => p ρ _ _ (Ext.new hz) (rp.new hz) (.tup (TAt.new rp hz) ((r1.append r2).ext (Ext.new hz)))⟩
      · subst e
        cases r1
        exact p.ok rp (.tup h2 r2)
      · subst e
        cases r2
        rw [List.append_nil] at p
        exact p.ok rp (.tup h1 r1)
    · exact p.elim
  · exact go_addL pins s σ H x y v u Q I rx ry ⟨ρ, S, _, _, rp, hx, hy, p⟩
theorem go_sub : GO X (binaryOp .Sub) m_sub := fun pins s σ H x y v u Q I rx ry ⟨ρ, S, dx, dy, rp, hx, hy, p⟩ => by
  unfold m_sub at p
  split at p
  · cases hx; cases hy
    exact op_sub pins s σ H _ _ v u Q I rx ry ⟨_, _, rfl, rfl, p.ok rp (.int _)⟩
  · exact p.elim
theorem go_mul : GO X (binaryOp .Mult) m_mul := fun pins s σ H x y v u Q I rx ry ⟨ρ, S, dx, dy, rp, hx, hy, p⟩ => by
  unfold m_mul at p
  split at p
  · cases hx; cases hy
    split at p
    · next hz => exact op_mul pins s σ H _ _ v u Q I rx ry ⟨_, _, rfl, rfl, hz, p.ok rp (.int _)⟩
    · exact p.elim
  · cases hy
    obtain ⟨l, xs, rfl, h1, r1⟩ := tup_at hx
    split at p
    · next hz =>
      obtain ⟨z1, z2, z3, z4⟩ := hz
      refine op_repT pins s σ H _ _ v u Q I rx ry ⟨l, _, xs, rfl, rfl, h1.sq, fun e => z1 (by subst e; cases r1; rfl), z2, z3, by rw [← r1.length]; exact z4, fun z hz => p ρ _ _ (Ext.new hz) (rp.new hz) (.tup (TAt.new rp hz) ((r1.rep _).ext (Ext.new hz)))⟩
    · exact p.elim
  · cases hy
    split at p
    · next a q =>
      obtain ⟨l, xs, rfl, h1, r1⟩ := cat_at rp hx q
      split at p
      · next hz =>
        obtain ⟨z1, z2, z3⟩ := hz
        refine op_rep pins s σ H _ _ v u Q I rx ry ⟨l, _, xs, rfl, rfl, h1, z1, z2, by rw [← r1.length]; exact z3, fun z hz => p ρ _ _ (Ext.new hz) (rp.new hz) (.fzl (FAt.new rp hz) ((r1.rep _).ext (Ext.new hz)))⟩
      · exact p.elim
    · exact p.elim
  · exact p.elim
theorem go_fdiv : GO X (binaryOp .FloorDiv) m_fdiv := fun pins s σ H x y v u Q I rx ry ⟨ρ, S, dx, dy, rp, hx, hy, p⟩ => by
  unfold m_fdiv at p
  split at p
  · cases hx; cases hy
    split at p
    · next hz => exact op_fdivN pins s σ H _ _ v u Q I rx ry ⟨_, _, rfl, rfl, hz, p.ok rp (.int _)⟩
    · exact p.elim
  · exact p.elim
theorem go_mod : GO X (binaryOp .Mod) m_mod := fun pins s σ H x y v u Q I rx ry ⟨ρ, S, dx, dy, rp, hx, hy, p⟩ => by
  unfold m_mod at p
  split at p
  · cases hx; cases hy
    split at p
    · next hz => exact op_modN pins s σ H _ _ v u Q I rx ry ⟨_, _, rfl, rfl, hz, p.ok rp (.int _)⟩
    · exact p.elim
  · exact p.elim
theorem go_pow : GO X (binaryOp .Pow) m_pow := fun pins s σ H x y v u Q I rx ry ⟨ρ, S, dx, dy, rp, hx, hy, p⟩ => by
  unfold m_pow at p
  split at p
  · cases hx; cases hy
    split at p
    · next hz => exact op_pow pins s σ H _ _ v u Q I rx ry ⟨_, _, rfl, rfl, hz, p.ok rp (.int _)⟩
    · exact p.elim
  · exact p.elim
theorem go_eq (hu : X.A.units + 64 < cLine) : GO X (compareOp .Eq) m_eq := (op_eqD hu).mono' fun x y H Q ⟨ρ, S, dx, dy, rp, rx, ry, p⟩ => by
  unfold m_eq at p
  split at p
  · next d e q1 q2 =>
    obtain ⟨a1, a2⟩ := pd_at rp rx q1
    obtain ⟨b1, b2⟩ := pd_at rp ry q2
    exact ⟨d, e, a1, b1, a2, b2, p.ok rp (.bl _)⟩
  · exact p.elim
theorem go_ne (hu : X.A.units + 64 < cLine) : GO X (compareOp .NotEq) m_ne := (op_neD hu).mono' fun x y H Q ⟨ρ, S, dx, dy, rp, rx, ry, p⟩ => by
  unfold m_ne at p
  split at p
  · next d e q1 q2 =>
    obtain ⟨a1, a2⟩ := pd_at rp rx q1
    obtain ⟨b1, b2⟩ := pd_at rp ry q2
    exact ⟨d, e, a1, b1, a2, b2, p.ok rp (.bl _)⟩
  · exact p.elim
theorem go_cmpI {op : CmpOp} {f : Int → Int → Bool} (ho : OpR X (compareOp op) (rI0 fun i j => .bl (f i j))) : GO X (compareOp op) (m_cmpI f) := fun pins s σ H x y v u Q I rx ry ⟨ρ, S, dx, dy, rp, hx, hy, p⟩ => by
  unfold m_cmpI at p
  split at p
  · cases hx; cases hy
    exact ho pins s σ H _ _ v u Q I rx ry ⟨_, _, rfl, rfl, p.ok rp (.bl _)⟩
  · exact p.elim
theorem go_gt : GO X (compareOp .Gt) m_gt := go_cmpI op_gt
theorem go_ge : GO X (compareOp .GtE) m_ge := go_cmpI op_ge
theorem go_le : GO X (compareOp .LtE) m_le := go_cmpI op_le
theorem go_lt (hu : X.A.units < cLine) : GO X (compareOp .Lt) m_lt := fun pins s σ H x y v u Q I rx ry ⟨ρ, S, dx, dy, rp, hx, hy, p⟩ => by
  unfold m_lt at p
  split at p
  · cases hx; cases hy
    exact op_lt pins s σ H _ _ v u Q I rx ry ⟨_, _, rfl, rfl, p.ok rp (.bl _)⟩
  · split at p
    · next ns ms q1 q2 =>
      obtain ⟨l, xs, rfl, h1, r1⟩ := tup_at hx
      obtain ⟨m, ys, rfl, h2, r2⟩ := tup_at hy
      have e1 := ints_at r1 q1
      have e2 := ints_at r2 q2
      subst e1 e2
      exact op_ltT hu pins s σ H _ _ v u Q I rx ry ⟨l, m, ns, ms, rfl, rfl, h1.sq, h2.sq, p.ok rp (.bl _)⟩
    · exact p.elim
  · exact p.elim
theorem pds_at {K : PySem.W.Frag} {mg : Str → Option Value} {ρ : Mp} {H : Hp} {S : Sto} {d : D} {v : V} {b : Bool} {ps : List PyData} (rp : Rep K mg ρ H S) (r : RV K mg ρ H d v) (h : pds S d = some (b, ps)) :
    (b = false ∧ Dp K H v (.list ps) ∧ SeqAt.shaped (.list ps) = true) ∨ (b = true ∧ Dp K H v (.tuple ps) ∧ SeqAt.shaped (.tuple ps) = true) := by
  unfold pds at h
  split at h
  · next ds q =>
    cases h
    exact .inl ⟨rfl, pd_at rp r q⟩
  · next ds q =>
    cases h
    exact .inr ⟨rfl, pd_at rp r q⟩
  · cases h
theorem go_in (hu : X.A.units + 65 < cLine) : GO X (compareOp .In) m_in := fun pins s σ H x y v u Q I rx ry ⟨ρ, S, dx, dy, rp, hx, hy, p⟩ => by
  unfold m_in at p
  split at p
  · next d k ds q1 q2 =>
    obtain ⟨hd, sd⟩ := pd_at rp hx q1
    have hq := p.ok rp (.bl _)
    rcases pds_at rp hy q2 with ⟨_, he, se⟩ | ⟨_, he, se⟩
    · exact op_inD hu pins s σ H x y v u Q I rx ry ⟨d, ds, hd, he, sd, se, hq⟩
    · obtain ⟨as, r1⟩ := Dp.reads I d x v hd rx
      obtain ⟨bs, r2⟩ := Dp.reads I (.tuple ds) y u he ry
      exact SeqAt.in_tuple_reads r2 r1 (SeqAt.canLay_of_shaped se) (SeqAt.canLay_of_shaped sd) (PyProof.Rows.room_in_shaped sd hu) ⟨.bl _, H, I, rfl, hq⟩
  · exact p.elim
theorem go_notin (hu : X.A.units + 65 < cLine) : GO X (compareOp .NotIn) m_notin := fun pins s σ H x y v u Q I rx ry ⟨ρ, S, dx, dy, rp, hx, hy, p⟩ => by
  unfold m_notin at p
  split at p
  · next d k ds q1 q2 =>
    obtain ⟨hd, sd⟩ := pd_at rp hx q1
    have hq := p.ok rp (.bl _)
    rcases pds_at rp hy q2 with ⟨_, he, se⟩ | ⟨_, he, se⟩
    · exact op_notInD hu pins s σ H x y v u Q I rx ry ⟨d, ds, hd, he, sd, se, hq⟩
    · obtain ⟨as, r1⟩ := Dp.reads I d x v hd rx
      obtain ⟨bs, r2⟩ := Dp.reads I (.tuple ds) y u he ry
      exact SeqAt.notIn_tuple_reads r2 r1 (SeqAt.canLay_of_shaped se) (SeqAt.canLay_of_shaped sd) (PyProof.Rows.room_in_shaped sd hu) ⟨.bl _, H, I, rfl, hq⟩
  · exact p.elim
theorem isNon_at {K : PySem.W.Frag} {mg : Str → Option Value} {ρ : Mp} {H : Hp} {d : D} {v : V} (r : RV K mg ρ H d v) (hg : ∀ x, d ≠ .glb x) : decide (v = .non) = isNon d := by
  cases r with
  | glb _ _ => exact absurd rfl (hg _)
  | _ => rfl
theorem go_is : GO X (compareOp .Is) m_is := fun pins s σ H x y v u Q I rx ry ⟨ρ, S, dx, dy, rp, hx, hy, p⟩ => by
  unfold m_is at p
  split at p
  · cases hx; cases hy
    exact op_is_bl pins s σ H _ _ v u Q I rx ry ⟨_, _, rfl, rfl, p.ok rp (.bl _)⟩
  · exact p.elim
  · next hg =>
    cases hy
    refine op_isN pins s σ H _ _ v u Q I rx ry ⟨rfl, ?_⟩
    rw [isNon_at hx hg]
    exact p.ok rp (.bl _)
  · exact p.elim
theorem go_isnot : GO X (compareOp .IsNot) m_isnot := fun pins s σ H x y v u Q I rx ry ⟨ρ, S, dx, dy, rp, hx, hy, p⟩ => by
  unfold m_isnot at p
  split at p
  · cases hx; cases hy
    exact op_isnot_bl pins s σ H _ _ v u Q I rx ry ⟨_, _, rfl, rfl, p.ok rp (.bl _)⟩
  · exact p.elim
  · next hg =>
    cases hy
    refine op_notN pins s σ H _ _ v u Q I rx ry ⟨rfl, ?_⟩
    rw [isNon_at hx hg]
    exact p.ok rp (.bl _)
  · exact p.elim
theorem gi_ix : GIx X m_ix := fun value slice pins s σ H x y v u Q I rx ry ⟨ρ, S, dx, dy, rp, hx, hy, p⟩ hs => by
  unfold m_ix at p
  split at p
  · cases hy
    obtain ⟨l, xs, rfl, h1, r1⟩ := tup_at hx
    split at p
    · next d q =>
      obtain ⟨w, hw, rw'⟩ := r1.atI q
      exact ix_tup value slice pins s σ H _ _ v u Q I rx ry ⟨l, xs, _, w, rfl, rfl, h1.sq, hw, p.ok rp rw'⟩ hs
    · exact p.elim
  · cases hx; cases hy
    split at p
    · next hz =>
      split at p
      · next c q => exact ix_str value slice pins s σ H _ _ v u Q I rx ry ⟨_, _, c, rfl, rfl, hz, q, p.ok rp (.str _)⟩ hs
      · exact p.elim
    · exact p.elim
  · cases hy
    split at p
    · next a q1 =>
      obtain ⟨l, xs, rfl, h1, r1⟩ := lst_at rp hx q1
      split at p
      · next d q =>
        obtain ⟨w, hw, rw'⟩ := r1.atI q
        exact ix_list value slice pins s σ H _ _ v u Q I rx ry ⟨l, xs, _, w, rfl, rfl, h1, hw, p.ok rp rw'⟩ hs
      · exact p.elim
    · exact p.elim
  · exact p.elim
def m_neg : D → Sto → R D
  | .int i, S => .ok (.int (-i)) S
  | _, _ => .bad
theorem gu_neg : GU X (unaryOp .USub) m_neg := fun pins s σ H x v Q I rx ⟨ρ, S, dx, rp, hx, p⟩ => by
  unfold m_neg at p
  split at p
  · cases hx
    exact un_neg pins s σ H _ v Q I rx ⟨_, rfl, p.ok rp (.int _)⟩
  · exact p.elim
end
end ML
namespace ML
open PySem L2
/-! ### built-in calls -/
def m_len : List D → Sto → R D
  | [.str z], S => if z.length ≤ sizeLine then .ok (.int z.length) S else .bad
  | [.tup a], S => .ok (.int a.length) S
  | [x], S => match lstOf S x with
    | some a => .ok (.int a.length) S
    | none => .bad
  | _, _ => .bad
def m_abs : List D → Sto → R D
  | [.int i], S => .ok (.int (if i < 0 then -i else i)) S
  | _, _ => .bad
def m_int : List D → Sto → R D
  | [.int i], S => .ok (.int i) S
  | [.bl k], S => .ok (.int (if k = true then 1 else 0)) S
  | _, _ => .bad
/-- str(text) is asked of texts alone -/
def lstMax : List Int → Option Int
  | [] => none
  | n :: ns => some (ns.foldl (fun a b => if a < b then b else a) n)
def lstMin : List Int → Option Int
  | [] => none
  | n :: ns => some (ns.foldl (fun a b => if b < a then b else a) n)
def intsL (S : Sto) (x : D) : Option (List Int) := (lstOf S x).bind intsOf
def m_max : List D → Sto → R D
  | [.int i, .int j], S => .ok (.int (if j > i then j else i)) S
  | [x], S => match (intsL S x).bind lstMax with
    | some m => .ok (.int m) S
    | none => .bad
  | _, _ => .bad
def m_min : List D → Sto → R D
  | [.int i, .int j], S => .ok (.int (if j < i then j else i)) S
  | [x], S => match (intsL S x).bind lstMin with
    | some m => .ok (.int m) S
    | none => .bad
  | _, _ => .bad
def m_sum : List D → Sto → R D
  | [.tup a], S => match intsOf a with
    | some ns => .ok (.int ns.sum) S
    | none => .bad
  | [x], S => match intsL S x with
    | some ns => .ok (.int ns.sum) S
    | none => .bad
  | _, _ => .bad
def m_all : List D → Sto → R D
  | [x], S => match (lstOf S x).bind blsOf with
    | some bs => .ok (.bl (bs.all id)) S
    | none => .bad
  | _, _ => .bad
def m_any : List D → Sto → R D
  | [x], S => match (lstOf S x).bind blsOf with
    | some bs => .ok (.bl (bs.any id)) S
    | none => .bad
  | _, _ => .bad
def seqOf (S : Sto) : D → Option (List D)
  | .tup a => some a
  | x => lstOf S x
def m_list : List D → Sto → R D
  | [x], S => match seqOf S x with
    | some a => .ok (.fzl a) S
    | none => .bad
  | _, _ => .bad
def m_listM : List D → Sto → R D
  | [x], S => match seqOf S x with
    | some a => newL a S
    | none => .bad
  | _, _ => .bad
def m_tuple : List D → Sto → R D
  | [x], S => match seqOf S x with
    | some a => .ok (.tup a) S
    | none => .bad
  | _, _ => .bad
/-- isinstance(x, T), T a built-in class: the class of x -/
def tyLoc : Option O → Option String
  | some (.lst _) => some "list"
  | some (.dK _) => some "dict"
  | some (.dT _) => some "dict"
  | none => none
def tyOfD (S : Sto) : D → Option String
  | .non => some "NoneType"
  | .bl _ => some "bool"
  | .int _ => some "int"
  | .str _ => some "str"
  | .tup _ => some "tuple"
  | .fzl _ => some "list"
  | .kl _ => some "list"
  | .loc n => tyLoc S[n]?
  | _ => none
/-- as kitB answers, for the classes that are asked -/
def isiB (a b : String) : Option Bool :=
  if a = b then some true
  else if a = "bool" ∧ b = "int" then some true
  else if (a = "NoneType" ∨ a = "bool" ∨ a = "int" ∨ a = "str" ∨ a = "tuple" ∨ a = "list" ∨ a = "dict") ∧ (b = "bool" ∨ b = "int" ∨ b = "str" ∨ b = "tuple" ∨ b = "list" ∨ b = "dict") then some false
  else none
def m_isi : List D → Sto → R D
  | [x, .ty n], S => match tyOfD S x with
    | some t => (match isiB t n with
      | some b => .ok (.bl b) S
      | none => .bad)
    | none => .bad
  | _, _ => .bad
section
variable {X : Cx}
section
variable {K : PySem.W.Frag} {mg : Str → Option Value} {ρ : Mp} {H : Hp} {S : Sto}
theorem RVs.one {d : D} {vs : List V} (r : RVs K mg ρ H [d] vs) : ∃ v, vs = [v] ∧ RV K mg ρ H d v := by
  cases r with | cons r t => cases t; exact ⟨_, rfl, r⟩
theorem RVs.two {d e : D} {vs : List V} (r : RVs K mg ρ H [d, e] vs) : ∃ v w, vs = [v, w] ∧ RV K mg ρ H d v ∧ RV K mg ρ H e w := by
  cases r with | cons r t => cases t with | cons r' t => cases t; exact ⟨_, _, rfl, r, r'⟩
theorem ints_of {d : D} {v : V} {ns : List Int} (rp : Rep K mg ρ H S) (r : RV K mg ρ H d v) (h : intsL S d = some ns) : ∃ a, v = .ref a ∧ SqL K H a (ns.map V.int) := by
  unfold intsL at h
  cases q : lstOf S d with
  | none => simp [q] at h
  | some ds =>
    simp only [q, Option.bind_some] at h
    obtain ⟨a, xs, e, h1, r1⟩ := lst_at rp r q
    rw [ints_at r1 h] at h1
    exact ⟨a, e, h1⟩
end
theorem gc_len : GC X (.builtin "len") m_len := fun pins s σ H xs us Q I r ⟨ρ, S, ds, rp, rx, p⟩ => by
  unfold m_len at p
  split at p
  · obtain ⟨v, rfl, r1⟩ := rx.one
    cases r1
    split at p
    · next hz => exact call_len pins s σ H _ us Q I r ⟨_, _, rfl, ⟨hz, rfl⟩, p.ok rp (.int _)⟩
    · exact p.elim
  · obtain ⟨v, rfl, r1⟩ := rx.one
    obtain ⟨a, ys, rfl, h1, r2⟩ := tup_at r1
    exact call_len_seq pins s σ H _ us Q I r ⟨a, ys, rfl, .inr h1.sq, by rw [← r2.length]; exact p.ok rp (.int _)⟩
  · obtain ⟨v, rfl, r1⟩ := rx.one
    split at p
    · next a q =>
      obtain ⟨l, ys, rfl, h1, r2⟩ := lst_at rp r1 q
      exact call_len_seq pins s σ H _ us Q I r ⟨l, ys, rfl, .inl h1, by rw [← r2.length]; exact p.ok rp (.int _)⟩
    · exact p.elim
  · exact p.elim
theorem gc_abs : GC X (.builtin "abs") m_abs := fun pins s σ H xs us Q I r ⟨ρ, S, ds, rp, rx, p⟩ => by
  unfold m_abs at p
  split at p
  · obtain ⟨v, rfl, r1⟩ := rx.one
    cases r1
    exact call_abs pins s σ H _ us Q I r ⟨_, rfl, p.ok rp (.int _)⟩
  · exact p.elim
theorem gc_int : GC X (.type "int") m_int := fun pins s σ H xs us Q I r ⟨ρ, S, ds, rp, rx, p⟩ => by
  unfold m_int at p
  split at p
  · obtain ⟨v, rfl, r1⟩ := rx.one
    cases r1
    exact call_int1 pins s σ H _ us Q I r (.inl ⟨_, rfl, p.ok rp (.int _)⟩)
  · obtain ⟨v, rfl, r1⟩ := rx.one
    cases r1
    exact call_int1 pins s σ H _ us Q I r (.inr ⟨_, rfl, p.ok rp (.int _)⟩)
  · exact p.elim
theorem fold_max : ∀ (ns : List Int) (n : Int), (∀ y ∈ n :: ns, y ≤ ns.foldl (fun a b => if a < b then b else a) n) ∧ ns.foldl (fun a b => if a < b then b else a) n ∈ n :: ns
  | [], n => by simp
  | m :: ns, n => by
    have ih := fold_max ns (if n < m then m else n)
    obtain ⟨h1, h2⟩ := ih
    refine ⟨fun y hy => ?_, ?_⟩
    · have h3 := h1 (if n < m then m else n) (List.mem_cons_self ..)
      simp only [List.foldl_cons]
      rcases List.mem_cons.mp hy with rfl | hy
      · split at h3 <;> rename_i c <;> simp only [c, if_true, if_false] at h3 ⊢ <;> omega
      · rcases List.mem_cons.mp hy with rfl | hy
        · split at h3 <;> rename_i c <;> simp only [c, if_true, if_false] at h3 ⊢ <;> omega
        · exact h1 y (List.mem_cons_of_mem _ hy)
    · simp only [List.foldl_cons]
      rcases List.mem_cons.mp h2 with e | h2
      · rw [e]
        split
        · simp
        · simp
      · exact List.mem_cons_of_mem _ (List.mem_cons_of_mem _ h2)
theorem fold_min : ∀ (ns : List Int) (n : Int), (∀ y ∈ n :: ns, ns.foldl (fun a b => if b < a then b else a) n ≤ y) ∧ ns.foldl (fun a b => if b < a then b else a) n ∈ n :: ns
  | [], n => by simp
  | m :: ns, n => by
    have ih := fold_min ns (if m < n then m else n)
    obtain ⟨h1, h2⟩ := ih
    refine ⟨fun y hy => ?_, ?_⟩
    · have h3 := h1 (if m < n then m else n) (List.mem_cons_self ..)
      simp only [List.foldl_cons]
      rcases List.mem_cons.mp hy with rfl | hy
      · split at h3 <;> rename_i c <;> simp only [c, if_true, if_false] at h3 ⊢ <;> omega
      · rcases List.mem_cons.mp hy with rfl | hy
        · split at h3 <;> rename_i c <;> simp only [c, if_true, if_false] at h3 ⊢ <;> omega
        · exact h1 y (List.mem_cons_of_mem _ hy)
    · simp only [List.foldl_cons]
      rcases List.mem_cons.mp h2 with e | h2
      · rw [e]
        split
        · simp
        · simp
      · exact List.mem_cons_of_mem _ (List.mem_cons_of_mem _ h2)
theorem gc_max (hc : X.calm = true) : GC X (.builtin "max") m_max := fun pins s σ H xs us Q I r ⟨ρ, S, ds, rp, rx, p⟩ => by
  unfold m_max at p
  split at p
  · obtain ⟨v, w, rfl, r1, r2⟩ := rx.two
    cases r1; cases r2
    exact call_max2 hc pins s σ H _ us Q I r ⟨_, _, rfl, p.ok rp (.int _)⟩
  · obtain ⟨v, rfl, r1⟩ := rx.one
    split at p
    · next m q =>
      obtain ⟨ns, q1, q⟩ := Option.bind_eq_some_iff.mp q
      · obtain ⟨a, rfl, h1⟩ := ints_of rp r1 q1
        cases ns with
        | nil => cases q
        | cons n ns =>
          cases q
          obtain ⟨f1, f2⟩ := fold_max ns n
          refine cr_max hc pins s σ H _ us Q I r ⟨a, _, rfl, h1, Nat.succ_pos _, fun m' hm hall => ?_⟩
          have e : m' = ns.foldl (fun a b => if a < b then b else a) n := Int.le_antisymm (f1 m' hm) (hall _ f2)
          rw [e]
          exact p.ok rp (.int _)
    · exact p.elim
  · exact p.elim
theorem gc_min (hc : X.calm = true) : GC X (.builtin "min") m_min := fun pins s σ H xs us Q I r ⟨ρ, S, ds, rp, rx, p⟩ => by
  unfold m_min at p
  split at p
  · obtain ⟨v, w, rfl, r1, r2⟩ := rx.two
    cases r1; cases r2
    exact call_min2 hc pins s σ H _ us Q I r ⟨_, _, rfl, p.ok rp (.int _)⟩
  · obtain ⟨v, rfl, r1⟩ := rx.one
    split at p
    · next m q =>
      obtain ⟨ns, q1, q⟩ := Option.bind_eq_some_iff.mp q
      · obtain ⟨a, rfl, h1⟩ := ints_of rp r1 q1
        cases ns with
        | nil => cases q
        | cons n ns =>
          cases q
          obtain ⟨f1, f2⟩ := fold_min ns n
          refine cr_min hc pins s σ H _ us Q I r ⟨a, _, rfl, h1, Nat.succ_pos _, fun m' hm hall => ?_⟩
          have e : m' = ns.foldl (fun a b => if b < a then b else a) n := Int.le_antisymm (hall _ f2) (f1 m' hm)
          rw [e]
          exact p.ok rp (.int _)
    · exact p.elim
  · exact p.elim
theorem gc_sum (hc : X.calm = true) : GC X (.builtin "sum") m_sum := fun pins s σ H xs us Q I r ⟨ρ, S, ds, rp, rx, p⟩ => by
  unfold m_sum at p
  split at p
  · obtain ⟨v, rfl, r1⟩ := rx.one
    obtain ⟨a, ys, rfl, h1, r2⟩ := tup_at r1
    split at p
    · next ns q =>
      have e := ints_at r2 q
      subst e
      obtain ⟨its, rv, hl, _⟩ := I.tuple h1.sq
      have hi : PyProof.Rows.IntsAre its ns := rv.ints
      obtain ⟨ys, e⟩ := hi.allInts.items
      have hn : PySem.numsOf (PySem.intItems ys).toList = ns := by rw [← e]; exact hi.numsOf
      rw [PySem.nums_intItems] at hn
      rw [Vals.ref1 r]
      obtain ⟨ob, ho, hcl, n, hd⟩ := hl
      refine PySem.W.ktm_sumG (I.ok.hd hc) (xs := ys) ⟨ob, ho, hcl, n, by rw [hd, e]⟩ fun h' tk t' hk => ⟨.int _, H, I.kept hk, ⟨_, rfl⟩, ?_⟩
      rw [PySem.preSum_eq, List.take_of_length_le (by simp), hn]
      exact p.ok rp (.int _)
    · exact p.elim
  · obtain ⟨v, rfl, r1⟩ := rx.one
    split at p
    · next ns q =>
      obtain ⟨a, rfl, h1⟩ := ints_of rp r1 q
      exact cr_sum hc pins s σ H _ us Q I r ⟨a, ns, rfl, h1, p.ok rp (.int _)⟩
    · exact p.elim
  · exact p.elim
theorem gc_all (hc : X.calm = true) : GC X (.builtin "all") m_all := fun pins s σ H xs us Q I r ⟨ρ, S, ds, rp, rx, p⟩ => by
  unfold m_all at p
  split at p
  · obtain ⟨v, rfl, r1⟩ := rx.one
    split at p
    · next bs q =>
      obtain ⟨es, q1, q⟩ := Option.bind_eq_some_iff.mp q
      · obtain ⟨a, ys, rfl, h1, r2⟩ := lst_at rp r1 q1
        rw [bls_at r2 q] at h1
        exact cr_all hc pins s σ H _ us Q I r ⟨a, bs, rfl, h1, p.ok rp (.bl _)⟩
    · exact p.elim
  · exact p.elim
theorem gc_any (hc : X.calm = true) : GC X (.builtin "any") m_any := fun pins s σ H xs us Q I r ⟨ρ, S, ds, rp, rx, p⟩ => by
  unfold m_any at p
  split at p
  · obtain ⟨v, rfl, r1⟩ := rx.one
    split at p
    · next bs q =>
      obtain ⟨es, q1, q⟩ := Option.bind_eq_some_iff.mp q
      · obtain ⟨a, ys, rfl, h1, r2⟩ := lst_at rp r1 q1
        rw [bls_at r2 q] at h1
        exact cr_any hc pins s σ H _ us Q I r ⟨a, bs, rfl, h1, p.ok rp (.bl _)⟩
    · exact p.elim
  · exact p.elim
theorem seq_at {K : PySem.W.Frag} {mg : Str → Option Value} {ρ : Mp} {H : Hp} {S : Sto} {d : D} {v : V} {ds : List D} (rp : Rep K mg ρ H S) (r : RV K mg ρ H d v) (h : seqOf S d = some ds) :
    ∃ a xs, v = .ref a ∧ (SqL K H a xs ∨ (SqT K H a xs ∧ TAt K ρ H a xs)) ∧ RVs K mg ρ H ds xs := by
  unfold seqOf at h
  split at h
  · cases h
    obtain ⟨a, xs, e, h1, r1⟩ := tup_at r
    exact ⟨a, xs, e, .inr ⟨h1.sq, h1⟩, r1⟩
  · obtain ⟨a, xs, e, h1, r1⟩ := lst_at rp r h
    exact ⟨a, xs, e, .inl h1, r1⟩
theorem gc_list : GC X (.type "list") m_list := fun pins s σ H xs us Q I r ⟨ρ, S, ds, rp, rx, p⟩ => by
  unfold m_list at p
  split at p
  · obtain ⟨v, rfl, r1⟩ := rx.one
    split at p
    · next a q =>
      obtain ⟨l, ys, rfl, h1, r2⟩ := seq_at rp r1 q
      exact call_list_of pins s σ H _ us Q I r ⟨l, ys, rfl, h1.imp id (·.1), fun z hz => p ρ _ _ (Ext.new hz) (rp.new hz) (.fzl (FAt.new rp hz) (r2.ext (Ext.new hz)))⟩
    · exact p.elim
  · exact p.elim
theorem gc_listM : GC X (.type "list") m_listM := fun pins s σ H xs us Q I r ⟨ρ, S, ds, rp, rx, p⟩ => by
  unfold m_listM at p
  split at p
  · obtain ⟨v, rfl, r1⟩ := rx.one
    split at p
    · next a q =>
      obtain ⟨l, ys, rfl, h1, r2⟩ := seq_at rp r1 q
      exact call_list_of pins s σ H _ us Q I r ⟨l, ys, rfl, h1.imp id (·.1), post_newL rp r2 p⟩
    · exact p.elim
  · exact p.elim
theorem gc_tuple : GC X (.type "tuple") m_tuple := fun pins s σ H xs us Q I r ⟨ρ, S, ds, rp, rx, p⟩ => by
  unfold m_tuple at p
  split at p
  · obtain ⟨v, rfl, r1⟩ := rx.one
    split at p
    · next a q =>
      obtain ⟨l, ys, rfl, h1, r2⟩ := seq_at rp r1 q
      refine call_tuple_of pins s σ H _ us Q I r ⟨l, ys, rfl, ?_⟩
      rcases h1 with h1 | ⟨h1, h2⟩
      · exact .inl ⟨h1, fun z hz => p ρ _ _ (Ext.new hz) (rp.new hz) (.tup (TAt.new rp hz) (r2.ext (Ext.new hz)))⟩
      · exact .inr ⟨h1, p.ok rp (.tup h2 r2)⟩
    · exact p.elim
  · exact p.elim
end
end ML
namespace ML
open PySem L2
/-! ### isinstance -/
theorem kitB_of {a b : String} {r : Bool} (h : isiB a b = some r) : kitB a b = some r := by
  unfold isiB at h
  split at h
  · next e =>
    cases h
    subst e
    unfold kitB
    rw [if_pos (beq_self_eq_true _)]
  · split at h
    · next e =>
      cases h
      rw [e.1, e.2]
      decide +kernel
    · split at h
      · next n1 n2 e =>
        cases h
        obtain ⟨ha, hb⟩ := e
        rcases ha with ha | ha | ha | ha | ha | ha | ha <;> rcases hb with hb | hb | hb | hb | hb | hb <;> subst ha <;> subst hb <;>
          first | exact absurd rfl n1 | exact absurd ⟨rfl, rfl⟩ n2 | decide +kernel
      · cases h
theorem sqL_ty {K : PySem.W.Frag} {H : Hp} {a : Addr} {xs : List V} (h : SqL K H a xs) : TyX K H (.ref a) (.type "list") := by
  rcases h with (h | ⟨o, h⟩) | ⟨o, its, n, h, hc, _⟩
  · exact .base (.lst h)
  · exact .base (.frz h)
  · exact .kList h hc
theorem sqT_ty {K : PySem.W.Frag} {H : Hp} {a : Addr} {xs : List V} (h : SqT K H a xs) : TyX K H (.ref a) (.type "tuple") := by
  rcases h with (h | ⟨o, h⟩) | ⟨o, its, n, h, hc, _⟩
  · exact .base (.tup h)
  · exact .fTuple h
  · exact .kTuple h hc
section
variable {K : PySem.W.Frag} {mg : Str → Option Value} {ρ : Mp} {H : Hp} {S : Sto}
theorem ty_at {d : D} {v : V} {t : String} (rp : Rep K mg ρ H S) (r : RV K mg ρ H d v) (h : tyOfD S d = some t) : TyX K H v (.type t) := by
  cases r with
  | non => cases h; exact .base .non
  | bl b => cases h; exact .base (.bl b)
  | int i => cases h; exact .base (.int i)
  | str x => cases h; exact .base (.str x)
  | ty n => cases h
  | glb _ _ => cases h
  | tup q _ => cases h; exact sqT_ty q.sq
  | fzl q _ => cases h; exact .base (.lst q.1)
  | kl q _ => cases h; exact sqL_ty q.sq
  | loc ha =>
    next n a =>
    have h' : tyLoc S[n]? = some t := h
    cases q : S[n]? with
    | none => rw [q] at h'; cases h'
    | some o =>
      rw [q] at h'
      obtain ⟨u, hu, ro⟩ := rp.obj ha q
      cases ro <;> cases h'
      · exact .base (.lst hu)
      · exact .base (.dK hu)
      · exact .base (.dT hu)
end
section
variable {X : Cx}
theorem gc_isi : GC X (.builtin "isinstance") m_isi := fun pins s σ H xs us Q I r ⟨ρ, S, ds, rp, rx, p⟩ => by
  unfold m_isi at p
  split at p
  · obtain ⟨v, w, rfl, r1, r2⟩ := rx.two
    cases r2
    split at p
    · next t q1 =>
      split at p
      · next b q2 => exact call_isi pins s σ H _ us Q I r ⟨v, _, _, _, b, rfl, .ty _, ty_at rp r1 q1, kit_ty (kitB_of q2), p.ok rp (.bl _)⟩
      · exact p.elim
    · exact p.elim
  · exact p.elim
/-! ### methods of built-in types -/
def tyD (S : Sto) (T : String) (x : D) : Bool := (T == "list" && (lstOf S x).isSome) || (T == "str" && (tyOfD S x == some "str")) || (T == "dict" && (tyOfD S x == some "dict"))
def mMeth (T : String) (f : D → List D → Sto → R D) (o : EM) (a : AM) : EM := fun env S => (o env S).bind fun x S1 => if tyD S1 T x = true then (a env S1).bind fun ds S2 => f x ds S2 else .bad
theorem tyV_at {K : PySem.W.Frag} {mg : Str → Option Value} {ρ : Mp} {H : Hp} {S : Sto} {T : String} {d : D} {v : V} (rp : Rep K mg ρ H S) (r : RV K mg ρ H d v) (h : tyD S T d = true) : tyV K T v H := by
  unfold tyD at h
  simp only [Bool.or_eq_true, Bool.and_eq_true, beq_iff_eq] at h
  rcases h with (⟨rfl, h⟩ | ⟨rfl, h⟩) | ⟨rfl, h⟩
  · obtain ⟨ds, q⟩ := Option.isSome_iff_exists.mp h
    obtain ⟨a, xs, rfl, h1, _⟩ := lst_at rp r q
    exact .inl ⟨rfl, xs, h1⟩
  · cases r with
    | str x => rfl
    | loc _ =>
      next n a _ =>
      have h' : tyLoc S[n]? = some "str" := h
      cases q : S[n]? with
      | none => rw [q] at h'; cases h'
      | some o => rw [q] at h'; cases o <;> simp [tyLoc] at h'
    | _ => simp [tyOfD] at h
  · cases r with
    | loc ha =>
      next n a =>
      have h' : tyLoc S[n]? = some "dict" := h
      cases q : S[n]? with
      | none => rw [q] at h'; cases h'
      | some o =>
        rw [q] at h'
        obtain ⟨u, hu, ro⟩ := rp.obj ha q
        cases ro with
        | lst _ => simp [tyLoc] at h'
        | dK _ => exact .inr (.inr (.inl ⟨rfl, .inl ⟨_, hu⟩⟩))
        | dT _ => exact .inr (.inr (.inl ⟨rfl, .inr ⟨_, hu⟩⟩))
    | _ => simp [tyOfD] at h
abbrev GM (X : Cx) (id : String) (f : D → List D → Sto → R D) : Prop := MtR X id (rdM X.K X.mg f)
theorem rdBM {as : AM} {mo : EM} {K : PySem.W.Frag} {mg : Str → Option Value} {T : String} {f : D → List D → Sto → R D} {σ : St} {H : Hp} {Q : VK} (h : rdE K mg (mMeth T f mo as) σ H Q) : tBM K T (rdM K mg f) (rdE K mg mo) (rdA K mg as) σ H Q := by
  obtain ⟨ρ, env, S, rp, re, p⟩ := h
  refine ⟨ρ, env, S, rp, re, Post.bindB p fun x H1 ρ1 S1 d e1 rp1 rv1 p1 => ?_⟩
  split at p1
  · next ht => exact ⟨tyV_at rp1 rv1 ht, ρ1, env, S1, rp1, re.ext e1, Post.bindB p1 fun xs H2 ρ2 S2 ds e2 rp2 rv2 p2 => ⟨ρ2, S2, d, ds, rp2, rv1.ext e2, rv2, p2⟩⟩
  · exact p1.elim
theorem ge_bm {T : String} {name : Str} {id : String} {o e : Expr} {es : List Expr} {apos cpos : Pos} {f : D → List D → Sto → R D} {mo : EM} {as : AM} (pa : PySem.PlainAttrs T) (slot : PySem.Slot T name id) (hty : typeOf (.builtin id) = pure (.type "method_descriptor")) (hm : GM X id f) (ho : GE X o mo) (ha : GA X (e :: es) as)
    (hbase : attributeBase o name X.env (eval o X.env) = eval o X.env := by rfl)
    (hfew : ((backTo cpos (starEach (e :: es) X.env)).all (fun x => !x.1) && (backToKw cpos (keywordEach [] X.env)).all (fun x => x.1.isSome)
      && decide ((e :: es).length + ([] : List Keyword).length + (if ([] : List Keyword).isEmpty then 0 else 1) < 30)) = true := by rfl)
    (hline : (apos.endLine == cpos.line) = true := by rfl) (hs : starEach (e :: es) X.env = (false, eval e X.env) :: starEach es X.env := by rfl) (hplain : (backTo cpos (starEach es X.env)).any (·.1) = false := by rfl) : GE X (.Call (.Attribute o name apos) (e :: es) [] cpos) (mMeth T f mo as) :=
  (pe_bm pa slot hty hm ho ha hbase hfew hline hs hplain).mono' fun _ _ _ h => rdBM h
theorem ge_bm0 {T : String} {name : Str} {id : String} {o : Expr} {apos cpos : Pos} {f : D → List D → Sto → R D} {mo : EM} (pa : PySem.PlainAttrs T) (slot : PySem.Slot T name id) (hty : typeOf (.builtin id) = pure (.type "method_descriptor")) (hm : GM X id f) (ho : GE X o mo)
    (hbase : attributeBase o name X.env (eval o X.env) = eval o X.env := by rfl) (hline : (apos.endLine == cpos.line) = true := by rfl) : GE X (.Call (.Attribute o name apos) [] [] cpos) (mMeth T f mo mNil) :=
  (pe_bm0 pa slot hty hm ho hbase hline).mono' fun σ H Q h => by
    obtain ⟨ρ, env, S, rp, re, p⟩ := h
    refine ⟨ρ, env, S, rp, re, Post.bindB p fun x H1 ρ1 S1 d e1 rp1 rv1 p1 => ?_⟩
    split at p1
    · next ht => exact ⟨tyV_at rp1 rv1 ht, ρ1, S1, d, [], rp1, rv1, .nil, p1⟩
    · exact p1.elim
def m_append : D → List D → Sto → R D
  | .loc n, [y], S => match S[n]? with
    | some (.lst ds) => if ds.length < sizeLine then .ok .non (S.set n (.lst (ds ++ [y]))) else .bad
    | _ => .bad
  | _, _, _ => .bad
def m_pop : D → List D → Sto → R D
  | .loc n, [], S => match S[n]? with
    | some (.lst ds) => (match ds[ds.length - 1]? with
      | some y => .ok y (S.set n (.lst ds.dropLast))
      | none => .bad)
    | _ => .bad
  | _, _, _ => .bad
def m_count : D → List D → Sto → R D
  | x, [.int k], S => match intsL S x with
    | some ns => .ok (.int (ns.count k : Nat)) S
    | none => .bad
  | _, _, _ => .bad
def m_index : D → List D → Sto → R D
  | x, [y], S => match pds S x, pdS S y with
    | some (false, ds), some d => (match ds.findIdx? (fun z => PyData.eqv z d) with
      | some j => .ok (.int (j : Nat)) S
      | none => .bad)
    | _, _ => .bad
  | _, _, _ => .bad
theorem gm_append : GM X "list.append" m_append := fun pins s σ H x xs v us Q I rx rxs ⟨ρ, S, d, ds, rp, hx, hxs, p⟩ => by
  unfold m_append at p
  split at p
  · obtain ⟨w, rfl, r1⟩ := hxs.one
    split at p
    · next es q =>
      split at p
      · next hz =>
        cases hx with
        | loc ha =>
          obtain ⟨u, hu, ro⟩ := rp.obj ha q
          cases ro with
          | lst r2 => exact mt_append pins s σ H _ _ v us Q I rx rxs ⟨_, _, w, rfl, rfl, hu, by rw [← r2.length]; exact hz, p ρ _ _ (Ext.put rp (List.mem_of_getElem? ha)) (rp.put ha (.lst (r2.append (.cons r1 .nil)))) .non⟩
      · exact p.elim
    · exact p.elim
  · exact p.elim
theorem RVs.dropLast {K : PySem.W.Frag} {mg : Str → Option Value} {ρ : Mp} {H : Hp} {ds : List D} {vs : List V} (r : RVs K mg ρ H ds vs) : RVs K mg ρ H ds.dropLast vs.dropLast := by
  rw [List.dropLast_eq_take, List.dropLast_eq_take, r.length]
  exact r.take _
theorem gm_pop : GM X "list.pop" m_pop := fun pins s σ H x xs v us Q I rx rxs ⟨ρ, S, d, ds, rp, hx, hxs, p⟩ => by
  unfold m_pop at p
  split at p
  · cases hxs
    split at p
    · next es q =>
      split at p
      · next y hy =>
        cases hx with
        | loc ha =>
          obtain ⟨u, hu, ro⟩ := rp.obj ha q
          cases ro with
          | lst r2 =>
            obtain ⟨w, hw, r3⟩ := r2.getD hy
            rw [r2.length] at hw
            exact mt_pop pins s σ H _ _ v us Q I rx rxs ⟨_, _, w, rfl, rfl, hu, hw, p ρ _ _ (Ext.put rp (List.mem_of_getElem? ha)) (rp.put ha (.lst r2.dropLast)) (r3.ext (Ext.put rp (List.mem_of_getElem? ha)))⟩
      · exact p.elim
    · exact p.elim
  · exact p.elim
theorem gm_count : GM X "list.count" m_count := fun pins s σ H x xs v us Q I rx rxs ⟨ρ, S, d, ds, rp, hx, hxs, p⟩ => by
  unfold m_count at p
  split at p
  · obtain ⟨w, rfl, r1⟩ := hxs.one
    cases r1
    split at p
    · next ns q =>
      obtain ⟨a, rfl, h1⟩ := ints_of rp hx q
      exact mt_lcount pins s σ H _ _ v us Q I rx rxs ⟨a, ns, _, rfl, rfl, h1, p.ok rp (.int _)⟩
    · exact p.elim
  · exact p.elim
theorem gm_index (hu : X.A.units + 65 < cLine) : GM X "list.index" m_index := fun pins s σ H x xs v us Q I rx rxs ⟨ρ, S, d, ds, rp, hx, hxs, p⟩ => by
  unfold m_index at p
  split at p
  · obtain ⟨w, rfl, r1⟩ := hxs.one
    split at p
    · next ps d' q1 q2 =>
      split at p
      · next j hj =>
        obtain ⟨hj1, hj2, hj3⟩ := List.findIdx?_eq_some_iff_getElem.mp hj
        rcases pds_at rp hx q1 with ⟨_, he, se⟩ | ⟨c, _⟩
        · obtain ⟨hd, sd⟩ := pd_at rp r1 q2
          have hx' : ∃ a, x = .ref a := by cases he; exact ⟨_, rfl⟩
          obtain ⟨a, rfl⟩ := hx'
          exact mt_indexD hu pins s σ H _ _ v us Q I rx rxs ⟨a, w, d', ps, j, ps[j], rfl, rfl, he, hd, se, sd, List.getElem?_eq_getElem hj1, hj2, fun m z hm hz => by
            obtain ⟨hm1, rfl⟩ := List.getElem?_eq_some_iff.mp hz
            exact Bool.eq_false_iff.mpr (by simpa using hj3 m hm), p.ok rp (.int _)⟩
        · cases c
      · exact p.elim
    · exact p.elim
  · exact p.elim
end
end ML
namespace ML
open PySem L2
/-! ### statements -/
inductive Fl where
  | nx (e : Env) | rt (d : D) | bk (e : Env) | ct (e : Env)
abbrev SM := Env → Sto → R Fl
def PostS (K : PySem.W.Frag) (mg : Str → Option Value) (ρ : Mp) (H : Hp) (r : R Fl) (D : Ends) : Prop :=
  match r with
  | .ok (.nx e) S' => ∀ ρ' H' σ', Ext ρ H ρ' H' → Rep K mg ρ' H' S' → REnv K mg ρ' H' e σ' → D.nx σ' H'
  | .ok (.bk e) S' => ∀ ρ' H' σ', Ext ρ H ρ' H' → Rep K mg ρ' H' S' → REnv K mg ρ' H' e σ' → D.bk σ' H'
  | .ok (.ct e) S' => ∀ ρ' H' σ', Ext ρ H ρ' H' → Rep K mg ρ' H' S' → REnv K mg ρ' H' e σ' → D.ct σ' H'
  | .ok (.rt d) S' => ∀ ρ' H' v, Ext ρ H ρ' H' → Rep K mg ρ' H' S' → RV K mg ρ' H' d v → D.rt v H'
  | .bad => False
def rdS (K : PySem.W.Frag) (mg : Str → Option Value) (m : SM) : TS := fun D σ H => ∃ ρ env S, Rep K mg ρ H S ∧ REnv K mg ρ H env σ ∧ PostS K mg ρ H (m env S) D
section
variable {K : PySem.W.Frag} {mg : Str → Option Value} {ρ ρ' : Mp} {H H' : Hp}
theorem PostS.ext {r : R Fl} {D : Ends} (e : Ext ρ H ρ' H') (p : PostS K mg ρ H r D) : PostS K mg ρ' H' r D := by
  cases r with
  | bad => exact p
  | ok f S => cases f with
    | nx env => exact fun ρ1 H1 σ1 e1 => p ρ1 H1 σ1 (e.trans e1)
    | bk env => exact fun ρ1 H1 σ1 e1 => p ρ1 H1 σ1 (e.trans e1)
    | ct env => exact fun ρ1 H1 σ1 e1 => p ρ1 H1 σ1 (e.trans e1)
    | rt d => exact fun ρ1 H1 σ1 e1 => p ρ1 H1 σ1 (e.trans e1)
theorem PostS.bindB {α β : Type} {r : R α} {k : α → Sto → R Fl} {rel : Mp → Hp → α → β → Prop} {D : Ends} {Q' : β → Hp → Prop} (p : PostS K mg ρ H (r.bind k) D)
    (h : ∀ b H1 ρ1 S1 a, Ext ρ H ρ1 H1 → Rep K mg ρ1 H1 S1 → rel ρ1 H1 a b → PostS K mg ρ1 H1 (k a S1) D → Q' b H1) : Post K mg ρ H r rel Q' := by
  cases r with
  | bad => exact p.elim
  | ok a S => exact fun ρ1 H1 b e rp rl => h b H1 ρ1 S a e rp rl (PostS.ext e p)
theorem PostS.nx {env : Env} {S : Sto} {D : Ends} {σ : St} (p : PostS K mg ρ H (.ok (.nx env) S) D) (rp : Rep K mg ρ H S) (re : REnv K mg ρ H env σ) : D.nx σ H := p ρ H σ (Ext.refl ρ H) rp re
theorem PostS.rt {d : D} {S : Sto} {D : Ends} {v : V} (p : PostS K mg ρ H (.ok (.rt d) S) D) (rp : Rep K mg ρ H S) (re : RV K mg ρ H d v) : D.rt v H := p ρ H v (Ext.refl ρ H) rp re
end
/-- a target: what comes of the names -/
abbrev TgM := D → Env → Sto → R Env
def relE (K : PySem.W.Frag) (mg : Str → Option Value) (ρ : Mp) (H : Hp) (env : Env) (σ : St) : Prop := REnv K mg ρ H env σ
def rdG (K : PySem.W.Frag) (mg : Str → Option Value) (g : TgM) : TG := fun v σ H Q => ∃ ρ env S d, Rep K mg ρ H S ∧ REnv K mg ρ H env σ ∧ RV K mg ρ H d v ∧ Post K mg ρ H (g d env S) (relE K mg) Q
abbrev TgsM := List D → Env → Sto → R Env
def rdGs (K : PySem.W.Frag) (mg : Str → Option Value) (g : TgsM) : TGs := fun vs σ H Q => ∃ ρ env S ds, Rep K mg ρ H S ∧ REnv K mg ρ H env σ ∧ RVs K mg ρ H ds vs ∧ Post K mg ρ H (g ds env S) (relE K mg) Q
theorem _root_.L2.PS.mono' {X : Cx} {e : Stmt} {t t' : TS} (h : PS X e t) (m : ∀ D σ H, t' D σ H → t D σ H) : PS X e t' := ⟨fun pins s σ H D I q => h.run pins s σ H D I (m D σ H q)⟩
theorem _root_.L2.PSs.mono' {X : Cx} {e : List Stmt} {t t' : TS} (h : PSs X e t) (m : ∀ D σ H, t' D σ H → t D σ H) : PSs X e t' := ⟨fun pins s σ H D I q => h.run pins s σ H D I (m D σ H q)⟩
theorem _root_.L2.PG.mono' {X : Cx} {e : Expr} {t t' : TG} (h : PG X e t) (m : ∀ v σ H Q, t' v σ H Q → t v σ H Q) : PG X e t' := ⟨fun pins s σ H v u Q I r q => h.run pins s σ H v u Q I r (m v σ H Q q)⟩
theorem _root_.L2.PGs.mono' {X : Cx} {e : List Expr} {t t' : TGs} (h : PGs X e t) (m : ∀ v σ H Q, t' v σ H Q → t v σ H Q) : PGs X e t' := ⟨fun pins s σ H v u Q I r q => h.run pins s σ H v u Q I r (m v σ H Q q)⟩
abbrev GS (X : Cx) (st : Stmt) (m : SM) : Prop := PS X st (rdS X.K X.mg m)
abbrev GSs (X : Cx) (st : List Stmt) (m : SM) : Prop := PSs X st (rdS X.K X.mg m)
abbrev GG (X : Cx) (tg : Expr) (g : TgM) : Prop := PG X tg (rdG X.K X.mg g)
abbrev GGs (X : Cx) (tg : List Expr) (g : TgsM) : Prop := PGs X tg (rdGs X.K X.mg g)
def sNx : SM := fun env S => .ok (.nx env) S
def sBk : SM := fun env S => .ok (.bk env) S
def sCt : SM := fun env S => .ok (.ct env) S
def sBad : SM := fun _ _ => .bad
def sSeq (a b : SM) : SM := fun env S => (a env S).bind fun f S1 => match f with
  | .nx e => b e S1
  | f => .ok f S1
def sExpr (e : EM) : SM := fun env S => (e env S).bind fun _ S1 => .ok (.nx env) S1
def sRet (e : EM) : SM := fun env S => (e env S).bind fun d S1 => .ok (.rt d) S1
def sRetN : SM := fun _ S => .ok (.rt .non) S
def sIf (c : TM) (a b : SM) : SM := fun env S => (c env S).bind fun k S1 => if k = true then a env S1 else b env S1
def sAsg (e : EM) (g : TgM) : SM := fun env S => (e env S).bind fun d S1 => (g d env S1).bind fun env1 S2 => .ok (.nx env1) S2
def gN (i : Nat) : TgM := fun d env S => .ok (env.set i (some d)) S
def gsN : TgsM
  | [], env, S => .ok env S
  | _, _, _ => .bad
def gsC (g : TgM) (r : TgsM) : TgsM
  | d :: ds, env, S => (g d env S).bind fun env1 S1 => r ds env1 S1
  | _, _, _ => .bad
def gT (n : Nat) (g : TgsM) : TgM
  | .tup ds, env, S => if ds.length = n then g ds env S else .bad
  | _, _, _ => .bad
/-- names side by side, what they get side by side -/
def setAll : List Nat → List D → Env → Env
  | i :: is, d :: ds, env => setAll is ds (env.set i (some d))
  | _, _, env => env
def sPar (is : List Nat) (a : AM) : SM := fun env S => (a env S).bind fun ds S1 => if ds.length = is.length then .ok (.nx (setAll is ds env)) S1 else .bad
/-- o[i] = e, by what the store does -/
abbrev SetM := D → D → D → Sto → R Unit
def rdSet (K : PySem.W.Frag) (mg : Str → Option Value) (f : SetM) : TSet := fun o i v H Q => ∃ ρ S d j e, Rep K mg ρ H S ∧ RV K mg ρ H d o ∧ RV K mg ρ H j i ∧ RV K mg ρ H e v ∧ Post K mg ρ H (f d j e S) (fun _ _ _ (_ : Unit) => True) (fun _ H' => Q H')
abbrev GSet (X : Cx) (f : SetM) : Prop := PSet X (rdSet X.K X.mg f)
def gSubM (o i : EM) (f : SetM) : TgM := fun d env S => (o env S).bind fun x S1 => (i env S1).bind fun j S2 => (f x j d S2).bind fun _ S3 => .ok env S3
def m_setL : SetM
  | .loc n, .int k, v, S => match S[n]? with
    | some (.lst ds) => (match ixN ds.length k with
      | some j => .ok () (S.set n (.lst (ds.set j v)))
      | none => .bad)
    | _ => .bad
  | _, _, _, _ => .bad
/-- x op= e -/
def sAug (i : Nat) (e : EM) (f : D → D → Sto → R D) : SM := fun env S => match env[i]? with
  | some (some x) => (e env S).bind fun y S1 => (f x y S1).bind fun z S2 => .ok (.nx (env.set i (some z))) S2
  | _ => .bad
section
variable {X : Cx} {st : Stmt} {rest : List Stmt} {m m1 m2 : SM} {e : Expr} {es : List Expr} {me : EM} {as : AM} {pos : Pos} {tc : TM}
theorem gss_nil : GSs X [] sNx := pss_nil.mono' fun D σ H ⟨ρ, env, S, rp, re, p⟩ => p.nx rp re
theorem gss_cons (h1 : GS X st m1) (h2 : GSs X rest m2) : GSs X (st :: rest) (sSeq m1 m2) := (pss_cons h1 h2).mono' fun D σ H ⟨ρ, env, S, rp, re, p⟩ => by
  refine ⟨ρ, env, S, rp, re, ?_⟩
  unfold sSeq at p
  cases q : m1 env S with
  | bad => rw [q] at p; exact p
  | ok f S1 =>
    rw [q] at p
    cases f with
    | nx e => exact fun ρ1 H1 σ1 e1 rp1 re1 => ⟨ρ1, e, S1, rp1, re1, PostS.ext e1 p⟩
    | bk e => exact p
    | ct e => exact p
    | rt d => exact p
theorem gss_one (h1 : GS X st m1) : GSs X [st] m1 := pss_one h1
theorem gs_pass : GS X (.Pass pos) sNx := ps_pass.mono' fun D σ H ⟨ρ, env, S, rp, re, p⟩ => p.nx rp re
theorem gs_break : GS X (.Break pos) sBk := ps_break.mono' fun D σ H ⟨ρ, env, S, rp, re, p⟩ => p ρ H σ (Ext.refl ρ H) rp re
theorem gs_continue : GS X (.Continue pos) sCt := ps_continue.mono' fun D σ H ⟨ρ, env, S, rp, re, p⟩ => p ρ H σ (Ext.refl ρ H) rp re
theorem gs_never : GS X st sBad := ps_never.mono' fun D σ H ⟨ρ, env, S, rp, re, p⟩ => p
theorem gss_never {sts : List Stmt} : GSs X sts sBad := pss_never.mono' fun D σ H ⟨ρ, env, S, rp, re, p⟩ => p
theorem gs_expr (he : GE X e me) (hs : swapsWith e none pos.line X.env = pure false := by rfl) : GS X (.Expr e pos) (sExpr me) := (ps_expr he hs).mono' fun D σ H ⟨ρ, env, S, rp, re, p⟩ =>
  ⟨ρ, env, S, rp, re, PostS.bindB p fun v H1 ρ1 S1 d e1 rp1 rv1 p1 => p1.nx rp1 (re.ext e1)⟩
theorem gs_ret (he : GE X e me) : GS X (.Return (some e) pos) (sRet me) := (ps_ret he).mono' fun D σ H ⟨ρ, env, S, rp, re, p⟩ =>
  ⟨ρ, env, S, rp, re, PostS.bindB p fun v H1 ρ1 S1 d e1 rp1 rv1 p1 => p1.rt rp1 rv1⟩
theorem gs_retN : GS X (.Return none pos) sRetN := ps_retN.mono' fun D σ H ⟨ρ, env, S, rp, re, p⟩ => p.rt rp .non
theorem gs_if {c : Expr} {a b : List Stmt} (hc : GT X c tc) (ha : GSs X a m1) (hb : GSs X b m2) : GS X (.If c a b pos) (sIf tc m1 m2) := (ps_if hc ha hb).mono' fun D σ H ⟨ρ, env, S, rp, re, p⟩ =>
  ⟨ρ, env, S, rp, re, PostS.bindB p fun v H1 ρ1 S1 d e1 rp1 rv1 p1 => by
    cases rv1
    cases v with
    | true => exact ⟨ρ1, env, S1, rp1, re.ext e1, p1⟩
    | false => exact ⟨ρ1, env, S1, rp1, re.ext e1, p1⟩⟩
/-- targets -/
theorem gg_name {i : Nat} {x : Str} (hN : X.N.Nodup) (hi : X.N[i]? = some x := by rfl) (hx : Loc X.env.scope x := by first | exact Or.inl rfl | exact Or.inr rfl) (hf : X.fn x = true ∨ X.env.scope.names.lookup x = some .local := by first | exact .inl rfl | exact .inr rfl | assumption) : GG X (.Name x pos) (gN i) :=
  (pg_name hN hi hx hf).mono' fun v σ H Q ⟨ρ, env, S, d, rp, re, rv, p⟩ => Post.ok p rp (re.set rv)
theorem ggs_nil : GGs X [] gsN := pgs_nil.mono' fun vs σ H Q ⟨ρ, env, S, ds, rp, re, rv, p⟩ => by
  cases rv with
  | nil => exact ⟨rfl, Post.ok p rp re⟩
  | cons _ _ => exact p.elim
theorem ggs_cons {tg : Expr} {tgs : List Expr} {g : TgM} {gs : TgsM} (h1 : GG X tg g) (h2 : GGs X tgs gs)
    (hs : (assignEach (tg :: tgs) X.env).map (·.2) = assign tg X.env :: (assignEach tgs X.env).map (·.2) := by rfl) : GGs X (tg :: tgs) (gsC g gs) := (pgs_cons h1 h2 hs).mono' fun vs σ H Q ⟨ρ, env, S, ds, rp, re, rv, p⟩ => by
  cases rv with
  | nil => exact p.elim
  | cons r t => exact ⟨_, _, rfl, ρ, env, S, _, rp, re, r, Post.bindB p fun σ1 H1 ρ1 S1 env1 e1 rp1 re1 p1 => ⟨ρ1, env1, S1, _, rp1, re1, t.ext e1, p1⟩⟩
theorem gg_tup {tgs : List Expr} {k : Nat} {gs : TgsM} {n : Nat} (hc : X.calm = true) (h : GGs X tgs gs)
    (hn : (assignEach tgs X.env).length = n := by rfl) (hst : (assignEach tgs X.env).findIdx? (·.1) = none := by rfl) : GG X (.Tuple tgs k pos) (gT n gs) := (pg_tup hc h hn hst).mono' fun v σ H Q ⟨ρ, env, S, d, rp, re, rv, p⟩ => by
  unfold gT at p
  split at p
  · obtain ⟨a, xs, rfl, h1, r1⟩ := tup_at rv
    split at p
    · next hz => exact ⟨a, xs, rfl, h1.sq, by rw [← r1.length]; exact hz, ρ, env, S, _, rp, re, r1, p⟩
    · exact p.elim
  · exact p.elim
theorem gg_sub {o i : Expr} {mo mi : EM} {f : SetM} (ho : GE X o mo) (hi : GE X i mi) (hs : GSet X f)
    (ha : ∀ v, assign (.Subscript o i pos) X.env v = (do
      let ov ← holding [v] (eval o X.env)
      let iv ← holding [v, ov] (eval i X.env)
      standAt pos
      holding [v, ov, iv] (setItem ov iv v)
      release [v, ov, iv] []) := by intro _; rfl) : GG X (.Subscript o i pos) (gSubM mo mi f) := (pg_sub ho hi hs ha).mono' fun v σ H Q ⟨ρ, env, S, d, rp, re, rv, p⟩ =>
  ⟨ρ, env, S, rp, re, Post.bindB p fun x H1 ρ1 S1 d1 e1 rp1 rv1 p1 => ⟨ρ1, env, S1, rp1, re.ext e1, Post.bindB p1 fun y H2 ρ2 S2 d2 e2 rp2 rv2 p2 =>
    ⟨ρ2, S2, d1, d2, d, rp2, rv1.ext e2, rv2, (rv.ext e1).ext e2, Post.bindB p2 fun _ H3 ρ3 S3 _ e3 rp3 _ p3 => Post.ok p3 rp3 (((re.ext e1).ext e2).ext e3)⟩⟩⟩
theorem gset_list : GSet X m_setL := fun pins s σ H o i v ov iv u Q I ro ri rv ⟨ρ, S, d, j, e, rp, ho, hi, hv, p⟩ => by
  unfold m_setL at p
  split at p
  · cases hi
    split at p
    · next ds q =>
      split at p
      · next j hj =>
        cases ho with
        | loc ha =>
          obtain ⟨w, hw, rr⟩ := rp.obj ha q
          cases rr with
          | lst r2 => exact set_list pins s σ H _ _ _ ov iv u Q I ro ri rv ⟨_, _, _, j, rfl, rfl, hw, by rw [← r2.length]; exact hj, p ρ _ () (Ext.put rp (List.mem_of_getElem? ha)) (rp.put ha (.lst (r2.set hv j))) trivial⟩
      · exact p.elim
    · exact p.elim
  · exact p.elim
/-- assignments -/
theorem gs_asg {tg : Expr} {g : TgM} (he : GE X e me) (hg : GG X tg g) (hs : swapsWithSole [tg] e pos.line X.env = pure false := by rfl) (hw : swappedStores [tg] e X.env = pure none := by rfl)
    (h1 : (assignEach [tg] X.env).map (·.2) = [assign tg X.env] := by rfl) : GS X (.Assign [tg] e pos) (sAsg me g) := (ps_asg he hg hs hw h1).mono' fun D σ H ⟨ρ, env, S, rp, re, p⟩ =>
  ⟨ρ, env, S, rp, re, PostS.bindB p fun v H1 ρ1 S1 d e1 rp1 rv1 p1 => ⟨ρ1, env, S1, d, rp1, re.ext e1, rv1, PostS.bindB p1 fun σ2 H2 ρ2 S2 env2 e2 rp2 re2 p2 => p2.nx rp2 re2⟩⟩
theorem gs_set {i : Nat} {x : Str} {pos' : Pos} (hN : X.N.Nodup) (he : GE X e me) (hi : X.N[i]? = some x := by rfl) (hx : Loc X.env.scope x := by first | exact Or.inl rfl | exact Or.inr rfl) (hs : swapsWith e (some (.Name x pos')) pos.line X.env = pure false := by rfl) (hf : X.fn x = true ∨ X.env.scope.names.lookup x = some .local := by first | exact .inl rfl | exact .inr rfl | assumption) :
    GS X (.Assign [.Name x pos'] e pos) (sAsg me (gN i)) := (ps_set hN hi hx he hs hf).mono' fun D σ H ⟨ρ, env, S, rp, re, p⟩ =>
  ⟨ρ, env, S, rp, re, PostS.bindB p fun v H1 ρ1 S1 d e1 rp1 rv1 p1 => PostS.nx p1 rp1 ((re.ext e1).set rv1)⟩
theorem gs_par {i j : Nat} {x y : Str} {a b : Expr} {px py pt : Pos} {kt k2 : Nat} {pt2 : Pos} (hc : X.calm = true) (hN : X.N.Nodup) (ha : GA X [a, b] as) (hi : X.N[i]? = some x := by rfl) (hj : X.N[j]? = some y := by rfl) (hij : i ≠ j := by decide)
    (hx : X.env.scope.names.lookup x = some .local := by rfl) (hy : X.env.scope.names.lookup y = some .local := by rfl)
    (hw : swappedStores [.Tuple [.Name x px, .Name y py] kt pt] (.Tuple [a, b] k2 pt2) X.env = pure (some [x, y]) := by rfl)
    (hs : swapsWithSole [.Tuple [.Name x px, .Name y py] kt pt] (.Tuple [a, b] k2 pt2) pos.line X.env = pure false := by rfl) :
    GS X (.Assign [.Tuple [.Name x px, .Name y py] kt pt] (.Tuple [a, b] k2 pt2) pos) (sPar [i, j] as) := (ps_par hc hN hi hj hij hx hy ha hw hs).mono' fun D σ H ⟨ρ, env, S, rp, re, p⟩ =>
  ⟨ρ, env, S, rp, re, PostS.bindB p fun vs H1 ρ1 S1 ds e1 rp1 rv1 p1 => by
    split at p1
    · next hl =>
      match ds, hl, rv1, p1 with
      | [d1, d2], _, rv1, p1 =>
        obtain ⟨v, w, rfl, r1, r2⟩ := rv1.two
        exact ⟨v, w, rfl, PostS.nx p1 rp1 (((re.ext e1).set r1).set r2)⟩
    · exact p1.elim⟩
theorem gs_par3 {i j l : Nat} {x y z : Str} {a b c : Expr} {px py pz pt : Pos} {kt k2 : Nat} {pt2 : Pos} (hc : X.calm = true) (hN : X.N.Nodup) (ha : GA X [a, b, c] as) (hi : X.N[i]? = some x := by rfl) (hj : X.N[j]? = some y := by rfl) (hl : X.N[l]? = some z := by rfl) (hij : i ≠ j := by decide) (hil : i ≠ l := by decide) (hjl : j ≠ l := by decide)
    (hx : X.env.scope.names.lookup x = some .local := by rfl) (hy : X.env.scope.names.lookup y = some .local := by rfl) (hz : X.env.scope.names.lookup z = some .local := by rfl)
    (hw : swappedStores [.Tuple [.Name x px, .Name y py, .Name z pz] kt pt] (.Tuple [a, b, c] k2 pt2) X.env = pure (some [x, y, z]) := by rfl)
    (hs : swapsWithSole [.Tuple [.Name x px, .Name y py, .Name z pz] kt pt] (.Tuple [a, b, c] k2 pt2) pos.line X.env = pure false := by rfl) :
    GS X (.Assign [.Tuple [.Name x px, .Name y py, .Name z pz] kt pt] (.Tuple [a, b, c] k2 pt2) pos) (sPar [i, j, l] as) := (ps_par3 hc hN hi hj hl hij hil hjl hx hy hz ha hw hs).mono' fun D σ H ⟨ρ, env, S, rp, re, p⟩ =>
  ⟨ρ, env, S, rp, re, PostS.bindB p fun vs H1 ρ1 S1 ds e1 rp1 rv1 p1 => by
    split at p1
    · next hl =>
      match ds, hl, rv1, p1 with
      | [d1, d2, d3], _, rv1, p1 =>
        cases rv1 with
        | cons r1 t =>
          obtain ⟨v, w, rfl, r2, r3⟩ := t.two
          exact ⟨_, v, w, rfl, PostS.nx p1 rp1 ((((re.ext e1).set r1).set r2).set r3)⟩
    · exact p1.elim⟩
theorem pip_of {op : Operator} {f : D → D → Sto → R D} (h : GO X (inplaceOp op) f) : PIp X op (rdO X.K X.mg f) := fun pins s σ H x y v u Q I rx ry q => h pins s σ H x y v u Q I rx ry q
theorem gs_aug {i : Nat} {x : Str} {op : Operator} {f : D → D → Sto → R D} {pos' : Pos} (hN : X.N.Nodup) (he : GE X e me) (ho : GO X (inplaceOp op) f) (hi : X.N[i]? = some x := by rfl) (hx : Loc X.env.scope x := by first | exact Or.inl rfl | exact Or.inr rfl) (hf : X.fn x = true ∨ X.env.scope.names.lookup x = some .local := by first | exact .inl rfl | exact .inr rfl | assumption) :
    GS X (.AugAssign (.Name x pos') op e pos) (sAug i me f) := (ps_aug hN hi hx he (pip_of ho) hf).mono' fun D σ H ⟨ρ, env, S, rp, re, p⟩ => by
  unfold sAug at p
  split at p
  · next d q =>
    obtain ⟨v, h1, h2⟩ := re.at_ i d q
    exact ⟨v, h1, ρ, env, S, rp, re, PostS.bindB p fun w H1 ρ1 S1 d1 e1 rp1 rv1 p1 => ⟨ρ1, S1, d, d1, rp1, h2.ext e1, rv1, PostS.bindB p1 fun z H2 ρ2 S2 d2 e2 rp2 rv2 p2 => PostS.nx p2 rp2 (((re.ext e1).ext e2).set rv2)⟩⟩
  · exact p.elim
end
end ML
namespace ML
open PySem L2
/-! ### what is walked -/
/-- the items, and what must stay as it is while they are walked -/
structure Itm where
  ds : List D
  gd : Sto → Bool
def ItOk (K : PySem.W.Frag) (mg : Str → Option Value) (ρ : Mp) (H : Hp) (J : It) (it : Itm) : Prop :=
  ∀ ρ1 H1 S1, Ext0 ρ H ρ1 H1 → Rep K mg ρ1 H1 S1 → it.gd S1 = true →
    (J.stop it.ds.length H1) ∧ ∀ i d, it.ds[i]? = some d → J.go i H1 ∧ ∀ x H2, J.yld i H1 x H2 → Ext ρ1 H1 ρ1 H2 ∧ Rep K mg ρ1 H2 S1 ∧ RV K mg ρ1 H2 d x
abbrev IM := Env → Sto → R Itm
def rdI (K : PySem.W.Frag) (mg : Str → Option Value) (m : IM) : TI := fun σ H Q => ∃ ρ env S, Rep K mg ρ H S ∧ REnv K mg ρ H env σ ∧ Post K mg ρ H (m env S) (fun ρ' H' it J => ItOk K mg ρ' H' J it) Q
abbrev GI (X : Cx) (tg iter : Expr) (m : IM) : Prop := PI X tg iter (rdI X.K X.mg m)
theorem _root_.L2.PI.mono' {X : Cx} {tg e : Expr} {t t' : TI} (h : PI X tg e t) (m : ∀ σ H Q, t' σ H Q → t σ H Q) : PI X tg e t' := ⟨fun pins s σ H Q I q => h.run pins s σ H Q I (m σ H Q q)⟩
mutual
def D.beq : D → D → Bool
  | .non, .non => true
  | .bl a, .bl b => a == b
  | .int a, .int b => a == b
  | .str a, .str b => a == b
  | .ty a, .ty b => a == b
  | .glb a, .glb b => a == b
  | .tup a, .tup b => D.beqs a b
  | .fzl a, .fzl b => D.beqs a b
  | .kl a, .kl b => D.beqs a b
  | .loc a, .loc b => a == b
  | _, _ => false
def D.beqs : List D → List D → Bool
  | [], [] => true
  | a :: as, b :: bs => D.beq a b && D.beqs as bs
  | _, _ => false
end
mutual
theorem D.eq_of : ∀ {a b : D}, D.beq a b = true → a = b
  | .non, b, h => by cases b <;> simp [D.beq] at h ⊢
  | .bl a, b, h => by cases b <;> simp [D.beq] at h ⊢; exact h
  | .int a, b, h => by cases b <;> simp [D.beq] at h ⊢; exact h
  | .str a, b, h => by cases b <;> simp [D.beq] at h ⊢; exact h
  | .ty a, b, h => by cases b <;> simp [D.beq] at h ⊢; exact h
  | .glb a, b, h => by cases b <;> simp [D.beq] at h ⊢; exact h
  | .loc a, b, h => by cases b <;> simp [D.beq] at h ⊢; exact h
  | .tup a, b, h => by cases b <;> simp [D.beq] at h ⊢; exact D.eqs_of h
  | .fzl a, b, h => by cases b <;> simp [D.beq] at h ⊢; exact D.eqs_of h
  | .kl a, b, h => by cases b <;> simp [D.beq] at h ⊢; exact D.eqs_of h
theorem D.eqs_of : ∀ {a b : List D}, D.beqs a b = true → a = b
  | [], b, h => by cases b <;> simp [D.beqs] at h ⊢
  | a :: as, b, h => by
    cases b with
    | nil => simp [D.beqs] at h
    | cons b bs =>
      simp [D.beqs] at h
      rw [D.eq_of h.1, D.eqs_of h.2]
end
mutual
theorem D.beq_self : ∀ a : D, D.beq a a = true
  | .non => rfl
  | .bl a => by simp [D.beq]
  | .int a => by simp [D.beq]
  | .str a => by simp [D.beq]
  | .ty a => by simp [D.beq]
  | .glb a => by simp [D.beq]
  | .loc a => by simp [D.beq]
  | .tup a => by simp [D.beq, D.beqs_self a]
  | .fzl a => by simp [D.beq, D.beqs_self a]
  | .kl a => by simp [D.beq, D.beqs_self a]
theorem D.beqs_self : ∀ a : List D, D.beqs a a = true
  | [] => rfl
  | a :: as => by simp [D.beqs, D.beq_self a, D.beqs_self as]
end
def gdOf (n : Nat) (ds : List D) (S : Sto) : Bool := match S[n]? with
  | some (.lst es) => D.beqs es ds
  | _ => false
/-- the items of a list or a tuple -/
def itSeq (d : D) (S : Sto) : R Itm := match d with
  | .fzl ds => .ok ⟨ds, fun _ => true⟩ S
  | .kl ds => .ok ⟨ds, fun _ => true⟩ S
  | .loc n => match S[n]? with
    | some (.lst ds) => .ok ⟨ds, gdOf n ds⟩ S
    | _ => .bad
  | _ => .bad
def itTup (d : D) (S : Sto) : R Itm := match d with
  | .tup ds => .ok ⟨ds, fun _ => true⟩ S
  | _ => .bad
def rangeD (lo : Int) (n : Nat) : List D := (List.range n).map fun i => .int (lo + (i : Nat))
def smallI (i : Int) : Prop := -(2 ^ 62) ≤ i ∧ i < 2 ^ 62
instance (i : Int) : Decidable (smallI i) := by unfold smallI; infer_instance
def itR1 (ds : List D) (S : Sto) : R Itm := match ds with
  | [.int j] => if smallI j then .ok ⟨rangeD 0 j.toNat, fun _ => true⟩ S else .bad
  | _ => .bad
def itR2 (ds : List D) (S : Sto) : R Itm := match ds with
  | [.int i, .int j] => if smallI i ∧ smallI j then .ok ⟨rangeD i (j - i).toNat, fun _ => true⟩ S else .bad
  | _ => .bad
def mIt (f : D → Sto → R Itm) (e : EM) : IM := fun env S => (e env S).bind f
def mItA (f : List D → Sto → R Itm) (a : AM) : IM := fun env S => (a env S).bind f
section
variable {X : Cx} {tg e : Expr} {me : EM} {as : AM} {pos : Pos}
section
variable {K : PySem.W.Frag} {mg : Str → Option Value} {ρ : Mp} {H : Hp} {S : Sto}
theorem itOk_list {a : Addr} {ds : List D} {gd : Sto → Bool} (h : ∀ ρ1 H1 S1, Ext0 ρ H ρ1 H1 → Rep K mg ρ1 H1 S1 → gd S1 = true → ∃ xs, SqL K H1 a xs ∧ RVs K mg ρ1 H1 ds xs) : ItOk K mg ρ H (Itl K a) ⟨ds, gd⟩ := fun ρ1 H1 S1 e rp hg => by
  obtain ⟨xs, h1, r⟩ := h ρ1 H1 S1 e rp hg
  refine ⟨⟨xs, h1, by rw [← r.length]; exact Nat.le_refl _⟩, fun i d hd => ?_⟩
  obtain ⟨v, hv, rv⟩ := r.getD hd
  refine ⟨⟨xs, v, h1, hv⟩, fun x H2 hy => ?_⟩
  obtain ⟨rfl, hall⟩ := hy
  have := hall xs h1
  rw [hv] at this
  cases this
  exact ⟨Ext.refl _ _, rp, rv⟩
theorem itOk_tup {a : Addr} {ds : List D} {gd : Sto → Bool} (h : ∀ ρ1 H1 S1, Ext0 ρ H ρ1 H1 → Rep K mg ρ1 H1 S1 → gd S1 = true → ∃ xs, SqT K H1 a xs ∧ RVs K mg ρ1 H1 ds xs) : ItOk K mg ρ H (Itt K a) ⟨ds, gd⟩ := fun ρ1 H1 S1 e rp hg => by
  obtain ⟨xs, h1, r⟩ := h ρ1 H1 S1 e rp hg
  refine ⟨⟨xs, h1, by rw [← r.length]; exact Nat.le_refl _⟩, fun i d hd => ?_⟩
  obtain ⟨v, hv, rv⟩ := r.getD hd
  refine ⟨⟨xs, v, h1, hv⟩, fun x H2 hy => ?_⟩
  obtain ⟨rfl, hall⟩ := hy
  have := hall xs h1
  rw [hv] at this
  cases this
  exact ⟨Ext.refl _ _, rp, rv⟩
theorem itOk_range {lo : Int} {n : Nat} {gd : Sto → Bool} : ItOk K mg ρ H (Itr lo n) ⟨rangeD lo n, gd⟩ := fun ρ1 H1 S1 e rp hg => by
  have hl : (rangeD lo n).length = n := by unfold rangeD; simp
  refine ⟨by show n ≤ (rangeD lo n).length; rw [hl]; exact Nat.le_refl _, fun i d hd => ?_⟩
  have hi : i < n := by rw [← hl]; exact (List.getElem?_eq_some_iff.mp hd).1
  have e : d = .int (lo + (i : Nat)) := by
    have : (rangeD lo n)[i]? = some (.int (lo + (i : Nat))) := by unfold rangeD; simp [hi]
    rw [hd] at this
    exact Option.some.inj this
  subst e
  refine ⟨hi, fun x H2 hy => ?_⟩
  obtain ⟨rfl, rfl⟩ := hy
  exact ⟨Ext.refl _ _, rp, .int _⟩
theorem lst_it {d : D} {v : V} {it : Itm} {S' : Sto} (rp : Rep K mg ρ H S) (r : RV K mg ρ H d v) (h : itSeq d S = .ok it S') : S' = S ∧ ∃ a, v = .ref a ∧ (∃ xs, SqL K H a xs) ∧ ItOk K mg ρ H (Itl K a) it := by
  unfold itSeq at h
  split at h
  · cases h
    cases r with
    | fzl t r => exact ⟨rfl, _, rfl, ⟨_, .of t.1⟩, itOk_list fun ρ1 H1 S1 e _ _ => ⟨_, .of (t.ext e).1, r.ext0 e⟩⟩
  · cases h
    cases r with
    | kl t r => exact ⟨rfl, _, rfl, ⟨_, t.sq⟩, itOk_list fun ρ1 H1 S1 e _ _ => ⟨_, (t.ext e).sq, r.ext0 e⟩⟩
  · split at h
    · next ds q =>
      cases h
      cases r with
      | loc ha =>
        obtain ⟨u, hu, ro⟩ := rp.obj ha q
        cases ro with
        | lst r =>
          refine ⟨rfl, _, rfl, ⟨_, .of hu⟩, itOk_list fun ρ1 H1 S1 e rp1 hg => ?_⟩
          unfold gdOf at hg
          split at hg
          · next es q1 =>
            have e1 := D.eqs_of hg
            subst e1
            obtain ⟨u, hu, ro⟩ := rp1.obj (pre_get e.pre ha) q1
            cases ro with
            | lst r => exact ⟨_, .of hu, r⟩
          · cases hg
    · cases h
  · cases h
theorem tup_it {d : D} {v : V} {it : Itm} {S' : Sto} (r : RV K mg ρ H d v) (h : itTup d S = .ok it S') : S' = S ∧ ∃ a, v = .ref a ∧ (∃ xs, SqT K H a xs) ∧ ItOk K mg ρ H (Itt K a) it := by
  unfold itTup at h
  split at h
  · cases h
    obtain ⟨a, xs, rfl, h1, r1⟩ := tup_at r
    exact ⟨rfl, a, rfl, ⟨xs, h1.sq⟩, itOk_tup fun ρ1 H1 S1 e _ _ => ⟨xs, (h1.ext e).sq, r1.ext0 e⟩⟩
  · cases h
theorem Post.bindI {α β : Type} {r : R α} {f : α → Sto → R Itm} {rel : Mp → Hp → α → β → Prop} {Q : It → Hp → Prop} {Q' : β → Hp → Prop} (p : Post K mg ρ H (r.bind f) (fun ρ' H' it J => ItOk K mg ρ' H' J it) Q)
    (h : ∀ b H1 ρ1 S1 a it S2, Ext ρ H ρ1 H1 → Rep K mg ρ1 H1 S1 → rel ρ1 H1 a b → f a S1 = .ok it S2 → (S2 = S1 → ∀ J, ItOk K mg ρ1 H1 J it → Q J H1) → Q' b H1) : Post K mg ρ H r rel Q' :=
  Post.bindB p fun b H1 ρ1 S1 a e rp rl p1 => by
    cases q : f a S1 with
    | bad => rw [q] at p1; exact p1.elim
    | ok it S2 =>
      rw [q] at p1
      exact h b H1 ρ1 S1 a it S2 e rp rl q fun e2 J ok => by
        subst e2
        exact Post.ok p1 rp ok
end
theorem gi_list (he : GE X e me) : GI X tg e (mIt itSeq me) := (pi_list he).mono' fun σ H Q ⟨ρ, env, S, rp, re, p⟩ =>
  ⟨ρ, env, S, rp, re, Post.bindI p fun v H1 ρ1 S1 d it S2 e1 rp1 rv1 q k => by
    obtain ⟨e2, a, rfl, h1, ok⟩ := lst_it rp1 rv1 q
    exact ⟨a, rfl, h1, k e2 _ ok⟩⟩
theorem gi_tup (he : GE X e me) : GI X tg e (mIt itTup me) := (pi_tup he).mono' fun σ H Q ⟨ρ, env, S, rp, re, p⟩ =>
  ⟨ρ, env, S, rp, re, Post.bindI p fun v H1 ρ1 S1 d it S2 e1 rp1 rv1 q k => by
    obtain ⟨e2, a, rfl, h1, ok⟩ := tup_it rv1 q
    exact ⟨a, rfl, h1, k e2 _ ok⟩⟩
/-- a list or a tuple -/
def itAny (d : D) (S : Sto) : R Itm := match d with
  | .tup ds => .ok ⟨ds, fun _ => true⟩ S
  | d => itSeq d S
def isTup : D → Bool
  | .tup _ => true
  | _ => false
theorem gi_any (he : GE X e me) : GI X tg e (mIt itAny me) := ⟨fun pins s σ H Q I h => by
  obtain ⟨ρ, env, S, rp, re, p⟩ := h
  cases q : me env S with
  | bad => unfold mIt at p; rw [q] at p; exact p.elim
  | ok d S1 =>
    by_cases hd : isTup d = true
    · refine (gi_tup (tg := tg) he).run pins s σ H Q I ⟨ρ, env, S, rp, re, ?_⟩
      unfold mIt at p ⊢
      rw [q] at p ⊢
      cases d <;> simp [isTup] at hd
      exact p
    · refine (gi_list (tg := tg) he).run pins s σ H Q I ⟨ρ, env, S, rp, re, ?_⟩
      unfold mIt at p ⊢
      rw [q] at p ⊢
      cases d <;> simp [isTup] at hd <;> exact p⟩
theorem gi_range1 {p : Pos} (hg : Gl X "range") (hm : X.mg "range" = none) (ha : GA X [e] as) (hs : starEach [e] X.env = [(false, eval e X.env)] := by rfl) : GI X tg (.Call (.Name "range" p) [e] [] pos) (mItA itR1 as) := (pi_range1 hg hm ha hs).mono' fun σ H Q ⟨ρ, env, S, rp, re, p⟩ =>
  ⟨ρ, env, S, rp, re, Post.bindI p fun vs H1 ρ1 S1 ds it S2 e1 rp1 rv1 q k => by
    unfold itR1 at q
    split at q
    · obtain ⟨v, rfl, r1⟩ := rv1.one
      cases r1
      split at q
      · next hz => cases q; exact ⟨_, rfl, hz.1, hz.2, k rfl _ itOk_range⟩
      · cases q
    · cases q⟩
theorem gi_range2 {p : Pos} {e2 : Expr} (hg : Gl X "range") (hm : X.mg "range" = none) (ha : GA X [e, e2] as) (hs : starEach [e, e2] X.env = [(false, eval e X.env), (false, eval e2 X.env)] := by rfl) (hs2 : starEach [e2] X.env = [(false, eval e2 X.env)] := by rfl) : GI X tg (.Call (.Name "range" p) [e, e2] [] pos) (mItA itR2 as) := (pi_range2 hg hm ha hs hs2).mono' fun σ H Q ⟨ρ, env, S, rp, re, p⟩ =>
  ⟨ρ, env, S, rp, re, Post.bindI p fun vs H1 ρ1 S1 ds it S2 e1 rp1 rv1 q k => by
    unfold itR2 at q
    split at q
    · obtain ⟨v, w, rfl, r1, r2⟩ := rv1.two
      cases r1; cases r2
      split at q
      · next hz => cases q; exact ⟨_, _, rfl, ⟨hz.1.1, hz.1.2, hz.2.1, hz.2.2⟩, k rfl _ itOk_range⟩
      · cases q
    · cases q⟩
end
/-! ### for, while -/
def forD (g : TgM) (body : SM) (gd : Sto → Bool) : List D → SM
  | [], env, S => if gd S = true then .ok (.nx env) S else .bad
  | d :: ds, env, S => if gd S = true then (g d env S).bind fun env1 S1 => (body env1 S1).bind fun f S2 => match f with
    | .nx e => forD g body gd ds e S2
    | .ct e => forD g body gd ds e S2
    | .bk e => .ok (.nx e) S2
    | .rt r => .ok (.rt r) S2
    else .bad
def sFor (m : IM) (g : TgM) (body : SM) : SM := fun env S => (m env S).bind fun it S1 => forD g body it.gd it.ds env S1
def whileD (c : TM) (body : SM) : Nat → SM
  | 0, _, _ => .bad
  | k + 1, env, S => (c env S).bind fun b S1 => if b = true then (body env S1).bind fun f S2 => match f with
    | .nx e => whileD c body k e S2
    | .ct e => whileD c body k e S2
    | .bk e => .ok (.nx e) S2
    | .rt r => .ok (.rt r) S2
    else .ok (.nx env) S1
section
variable {X : Cx} {tg e : Expr} {me : EM} {as : AM} {pos : Pos}
theorem Post.mem {K : PySem.W.Frag} {mg : Str → Option Value} {ρ : Mp} {H : Hp} {α β γ : Type} {r : R α} {f : α → Sto → R γ} {rel : Mp → Hp → α → β → Prop} {D : Ends} {k : γ → Sto → R Fl} {Q' : β → Hp → Prop} (p : PostS K mg ρ H ((r.bind f).bind k) D)
    (h : ∀ b H1 ρ1 S1 a, Ext ρ H ρ1 H1 → Rep K mg ρ1 H1 S1 → rel ρ1 H1 a b → PostS K mg ρ1 H1 ((f a S1).bind k) D → Q' b H1) : Post K mg ρ H r rel Q' := by
  cases r with
  | bad => exact p.elim
  | ok a S => exact fun ρ1 H1 b e rp rl => h b H1 ρ1 S a e rp rl (PostS.ext e p)
/-- behind a turn's body: the next turn -/
theorem turnS {K : PySem.W.Frag} {mg : Str → Option Value} {ρ : Mp} {H : Hp} {r : R Fl} {nxt : SM} {D : Ends} {N : St → Hp → Prop}
    (p : PostS K mg ρ H (r.bind fun f S2 => match f with
      | .nx e => nxt e S2
      | .ct e => nxt e S2
      | .bk e => .ok (.nx e) S2
      | .rt r => .ok (.rt r) S2) D)
    (h : ∀ ρ1 H1 σ1 e S1, Ext ρ H ρ1 H1 → Rep K mg ρ1 H1 S1 → REnv K mg ρ1 H1 e σ1 → PostS K mg ρ1 H1 (nxt e S1) D → N σ1 H1) :
    PostS K mg ρ H r { D with nx := N, ct := N, bk := D.nx } := by
  cases r with
  | bad => exact p
  | ok f S =>
    cases f with
    | nx env => exact fun ρ1 H1 σ1 e1 rp re => h ρ1 H1 σ1 env S e1 rp re (PostS.ext e1 p)
    | ct env => exact fun ρ1 H1 σ1 e1 rp re => h ρ1 H1 σ1 env S e1 rp re (PostS.ext e1 p)
    | bk env => exact p
    | rt d => exact p
theorem gs_for {iter : Expr} {body : List Stmt} {mi : IM} {g : TgM} {mb : SM} (hp : PySem.PassesOwn (model X.prog X.w) X.A X.env X.xe) (hc : X.calm = true) (hi : GI X tg iter mi) (hg : GG X tg g) (hb : GSs X body mb)
    (hs : ∀ x, foldedSetIterable iter X.env x = pure x := by intro _; rfl) : GS X (.For tg iter body [] pos) (sFor mi g mb) := (ps_for hp hc hi hg hb hs).mono' fun D σ H ⟨ρ, env, S, rp, re, p⟩ => by
  refine ⟨ρ, env, S, rp, re, PostS.bindB p fun J H1 ρ1 S1 it e1 rp1 ok p1 => ?_⟩
  refine ⟨fun i m σ' H' => i ≤ it.ds.length ∧ m = it.ds.length - i ∧ ∃ ρ2 env2 S2, Ext ρ1 H1 ρ2 H' ∧ Rep X.K X.mg ρ2 H' S2 ∧ REnv X.K X.mg ρ2 H' env2 σ' ∧ PostS X.K X.mg ρ2 H' (forD g mb it.gd (it.ds.drop i) env2 S2) D,
    ⟨it.ds.length, Nat.zero_le _, rfl, ρ1, env, S1, Ext.refl _ _, rp1, re.ext e1, p1⟩, ?_⟩
  rintro i m σ' H' ⟨hi, hm, ρ2, env2, S2, e2, rp2, re2, p2⟩
  by_cases hl : i < it.ds.length
  · right
    rw [List.drop_eq_getElem_cons hl] at p2
    unfold forD at p2
    split at p2
    · next hgd =>
      obtain ⟨_, hgo⟩ := ok ρ2 H' S2 e2.toExt0 rp2 hgd
      obtain ⟨go, hy⟩ := hgo i _ (List.getElem?_eq_getElem hl)
      refine ⟨go, fun σ3 H3 => i + 1 ≤ it.ds.length ∧ ∃ ρ3 env3 S3, Ext ρ1 H1 ρ3 H3 ∧ Rep X.K X.mg ρ3 H3 S3 ∧ REnv X.K X.mg ρ3 H3 env3 σ3 ∧ PostS X.K X.mg ρ3 H3 (forD g mb it.gd (it.ds.drop (i + 1)) env3 S3) D, ?_, ?_⟩
      · rintro σ3 H3 ⟨hi3, r⟩
        exact ⟨it.ds.length - (i + 1), by omega, hi3, rfl, r⟩
      · intro x H3 hx
        obtain ⟨e3, rp3, rv3⟩ := hy x H3 hx
        refine ⟨ρ2, env2, S2, _, rp3, re2.ext e3, rv3, PostS.bindB (PostS.ext e3 p2) fun σ4 H4 ρ4 S4 env4 e4 rp4 re4 p4 => ?_⟩
        exact ⟨ρ4, env4, S4, rp4, re4, turnS p4 fun ρ5 H5 σ5 env5 S5 e5 rp5 re5 p5 => ⟨hl, ρ5, env5, S5, ((e2.trans e3).trans e4).trans e5, rp5, re5, p5⟩⟩
    · exact p2.elim
  · left
    have hd : i = it.ds.length := by omega
    subst hd
    rw [List.drop_of_length_le (Nat.le_refl _)] at p2
    unfold forD at p2
    split at p2
    · next hgd =>
      obtain ⟨st, _⟩ := ok ρ2 H' S2 e2.toExt0 rp2 hgd
      exact ⟨st, p2.nx rp2 re2⟩
    · exact p2.elim
theorem gs_while {c : Expr} {body : List Stmt} {tc : TM} {mb : SM} (k : Nat) (hp : PySem.PassesOwn (model X.prog X.w) X.A X.env X.xe) (hc : GT X c tc) (hb : GSs X body mb) : GS X (.While c body [] pos) (whileD tc mb k) := (ps_while hp hc hb).mono' fun D σ H ⟨ρ, env, S, rp, re, p⟩ => by
  refine ⟨fun m σ' H' => ∃ ρ2 env2 S2, Rep X.K X.mg ρ2 H' S2 ∧ REnv X.K X.mg ρ2 H' env2 σ' ∧ PostS X.K X.mg ρ2 H' (whileD tc mb m env2 S2) D, ⟨k, ρ, env, S, rp, re, p⟩, ?_⟩
  rintro m σ' H' ⟨ρ2, env2, S2, rp2, re2, p2⟩
  cases m with
  | zero => exact p2.elim
  | succ m =>
    unfold whileD at p2
    refine ⟨ρ2, env2, S2, rp2, re2, PostS.bindB p2 fun b H3 ρ3 S3 b' e3 rp3 rb p3 => ?_⟩
    cases rb
    cases b with
    | false => exact PostS.nx p3 rp3 (re2.ext e3)
    | true =>
      refine ⟨fun σ4 H4 => ∃ ρ4 env4 S4, Rep X.K X.mg ρ4 H4 S4 ∧ REnv X.K X.mg ρ4 H4 env4 σ4 ∧ PostS X.K X.mg ρ4 H4 (whileD tc mb m env4 S4) D, fun σ4 H4 r => ⟨m, Nat.lt_succ_self m, r⟩, ρ3, env2, S3, rp3, re2.ext e3, turnS p3 fun ρ5 H5 σ5 env5 S5 e5 rp5 re5 p5 => ⟨ρ5, env5, S5, rp5, re5, p5⟩⟩
end
end ML
namespace ML
open PySem L2
/-! ### list comprehensions -/
theorem wipe_set (σ : St) (i : Nat) (x : Option V) : ∀ vs : List Nat, wipe (σ.set i x) vs = if i ∈ vs then wipe σ vs else (wipe σ vs).set i x
  | [] => by simp [wipe]
  | v :: vs => by
    show (wipe (σ.set i x) vs).set v none = if i ∈ v :: vs then (wipe σ vs).set v none else ((wipe σ vs).set v none).set i x
    rw [wipe_set σ i x vs]
    by_cases h : i ∈ vs
    · rw [if_pos h, if_pos (List.mem_cons_of_mem _ h)]
    · rw [if_neg h]
      by_cases e : i = v
      · subst e
        rw [if_pos (List.mem_cons_self ..), List.set_set]
      · rw [if_neg (by simp [e, h]), List.set_comm _ _ e]
theorem wipe_wipe (σ : St) : ∀ vs : List Nat, wipe (wipe σ vs) vs = wipe σ vs
  | [] => rfl
  | v :: vs => by
    show (wipe ((wipe σ vs).set v none) vs).set v none = (wipe σ vs).set v none
    rw [wipe_set, wipe_wipe σ vs]
    split
    · rfl
    · rw [List.set_set]
def relW (K : PySem.W.Frag) (mg : Str → Option Value) (vs : List Nat) (σ0 : St) (ρ : Mp) (H : Hp) (env : Env) (σ : St) : Prop := REnv K mg ρ H env σ ∧ wipe σ vs = wipe σ0 vs
def rdGW (K : PySem.W.Frag) (mg : Str → Option Value) (vs : List Nat) (g : TgM) : TG := fun v σ H Q => ∃ ρ env S d, Rep K mg ρ H S ∧ REnv K mg ρ H env σ ∧ RV K mg ρ H d v ∧ Post K mg ρ H (g d env S) (relW K mg vs σ) Q
def rdGsW (K : PySem.W.Frag) (mg : Str → Option Value) (vs : List Nat) (g : TgsM) : TGs := fun v σ H Q => ∃ ρ env S d, Rep K mg ρ H S ∧ REnv K mg ρ H env σ ∧ RVs K mg ρ H d v ∧ Post K mg ρ H (g d env S) (relW K mg vs σ) Q
abbrev GGW (X : Cx) (vs : List Nat) (tg : Expr) (g : TgM) : Prop := PG X tg (rdGW X.K X.mg vs g)
abbrev GGsW (X : Cx) (vs : List Nat) (tg : List Expr) (g : TgsM) : Prop := PGs X tg (rdGsW X.K X.mg vs g)
section
variable {X : Cx} {pos : Pos} {vs : List Nat}
theorem gw_name {i : Nat} {x : Str} (hN : X.N.Nodup) (hv : i ∈ vs := by decide) (hi : X.N[i]? = some x := by rfl) (hx : Loc X.env.scope x := by first | exact Or.inl rfl | exact Or.inr rfl) (hf : X.fn x = true ∨ X.env.scope.names.lookup x = some .local := by first | exact .inl rfl | exact .inr rfl | assumption) : GGW X vs (.Name x pos) (gN i) :=
  (pg_name hN hi hx hf).mono' fun v σ H Q ⟨ρ, env, S, d, rp, re, rv, p⟩ => Post.ok p rp ⟨re.set rv, by rw [wipe_set, if_pos hv]⟩
theorem gws_nil : GGsW X vs [] gsN := pgs_nil.mono' fun us σ H Q ⟨ρ, env, S, ds, rp, re, rv, p⟩ => by
  cases rv with
  | nil => exact ⟨rfl, Post.ok p rp ⟨re, rfl⟩⟩
  | cons _ _ => exact p.elim
theorem gws_cons {tg : Expr} {tgs : List Expr} {g : TgM} {gs : TgsM} (h1 : GGW X vs tg g) (h2 : GGsW X vs tgs gs)
    (hs : (assignEach (tg :: tgs) X.env).map (·.2) = assign tg X.env :: (assignEach tgs X.env).map (·.2) := by rfl) : GGsW X vs (tg :: tgs) (gsC g gs) := (pgs_cons h1 h2 hs).mono' fun us σ H Q ⟨ρ, env, S, ds, rp, re, rv, p⟩ => by
  cases rv with
  | nil => exact p.elim
  | cons r t =>
    refine ⟨_, _, rfl, ρ, env, S, _, rp, re, r, Post.bindB p fun σ1 H1 ρ1 S1 env1 e1 rp1 re1 p1 => ⟨ρ1, env1, S1, _, rp1, re1.1, t.ext e1, ?_⟩⟩
    have hrel : relW X.K X.mg vs σ = relW X.K X.mg vs σ1 := by
      funext ρ H env σ'
      unfold relW
      rw [re1.2]
    rw [← hrel]
    exact p1
theorem gw_tup {tgs : List Expr} {k : Nat} {gs : TgsM} {n : Nat} (hc : X.calm = true) (h : GGsW X vs tgs gs)
    (hn : (assignEach tgs X.env).length = n := by rfl) (hst : (assignEach tgs X.env).findIdx? (·.1) = none := by rfl) : GGW X vs (.Tuple tgs k pos) (gT n gs) := (pg_tup hc h hn hst).mono' fun v σ H Q ⟨ρ, env, S, d, rp, re, rv, p⟩ => by
  unfold gT at p
  split at p
  · obtain ⟨a, xs, rfl, h1, r1⟩ := tup_at rv
    split at p
    · next hz => exact ⟨a, xs, rfl, h1.sq, by rw [← r1.length]; exact hz, ρ, env, S, _, rp, re, r1, p⟩
    · exact p.elim
  · exact p.elim
end
def tmYes : TM := fun _ S => .ok true S
abbrev GTs (X : Cx) (ifs : List Expr) (m : TM) : Prop := PTs X ifs (rdT X.K X.mg m)
section
variable {X : Cx}
theorem gts_nil : GTs X [] tmYes := ⟨fun pins s σ H Q I ⟨ρ, env, S, rp, re, p⟩ => pts_nil.run pins s σ H Q I (Post.ok (a := true) p rp rfl)⟩
theorem gts_one {c : Expr} {t : TM} (h : GT X c t) : GTs X [c] t := pts_one h
end
def lcD (g : TgM) (t : TM) (e : EM) (gd : Sto → Bool) (env : Env) (vs : List Nat) : List D → List D → Sto → R (List D)
  | [], acc, S => if gd S = true then .ok acc S else .bad
  | d :: ds, acc, S => if gd S = true then (g d (wipeE env vs) S).bind fun env1 S1 => (t env1 S1).bind fun b S2 =>
      if b = true then (e env1 S2).bind fun y S3 => if acc.length < sizeLine then lcD g t e gd env vs ds (acc ++ [y]) S3 else .bad else lcD g t e gd env vs ds acc S2
    else .bad
def mLc (m : IM) (g : TgM) (t : TM) (e : EM) (vs : List Nat) : EM := fun env S => (m env S).bind fun it S1 => (lcD g t e it.gd env vs it.ds [] S1).bind fun acc S2 => .ok (.fzl acc) S2
def mLcM (m : IM) (g : TgM) (t : TM) (e : EM) (vs : List Nat) : EM := fun env S => (m env S).bind fun it S1 => (lcD g t e it.gd env vs it.ds [] S1).bind newL
section
variable {K : PySem.W.Frag} {mg : Str → Option Value} {ρ ρ1 ρ2 : Mp} {H H1 H2 : Hp}
theorem Post.step {α β γ δ : Type} {r : R α} {k : α → Sto → R γ} {rel : Mp → Hp → α → β → Prop} {rel' : Mp → Hp → γ → δ → Prop} {Q : δ → Hp → Prop} {Q' : β → Hp → Prop} (p : Post K mg ρ H (r.bind k) rel' Q)
    (h : ∀ b H2 ρ2 S2 a, Ext ρ1 H1 ρ2 H2 → Rep K mg ρ2 H2 S2 → rel ρ2 H2 a b → Post K mg ρ H (k a S2) rel' Q → Q' b H2) : Post K mg ρ1 H1 r rel Q' := by
  cases r with
  | bad => exact p.elim
  | ok a S => exact fun ρ2 H2 b e rp rl => h b H2 ρ2 S a e rp rl p
/-- L, a list that is being made -/
theorem hide_new {S : Sto} {L : Addr} {o : List V} (rp : Rep K mg ρ H S) (hD : H L = none) : Ext ρ H ⟨ρ.r, L :: ρ.h⟩ (upd H L (.lst o)) ∧ Rep K mg ⟨ρ.r, L :: ρ.h⟩ (upd H L (.lst o)) S := by
  have nin : ∀ a u, H a = some u → a ∉ ρ → a ∉ (⟨ρ.r, L :: ρ.h⟩ : Mp) := fun a u h n m => by
    rcases m with m | m
    · exact n (.inl m)
    · rcases List.mem_cons.mp m with m | m
      · subst m; rw [hD] at h; cases h
      · exact n (.inr m)
  have e0 : Ext ρ H ⟨ρ.r, L :: ρ.h⟩ (upd H L (.lst o)) := ⟨⟨List.prefix_rfl, fun a u h _ n => ⟨by rw [upd_ne (ne_of_none h hD)]; exact h, nin a u h n⟩⟩, fun a u h m => ⟨by rw [upd_ne (ne_of_none h hD)]; exact h, List.mem_cons_of_mem _ m⟩⟩
  refine ⟨e0, rp.len, rp.nd, fun n a o' h1 h2 => ?_, fun a m => ?_⟩
  · obtain ⟨u, hu, ro⟩ := rp.at_ n a o' h1 h2
    exact ⟨u, by rw [upd_ne (ne_of_none hu hD)]; exact hu, ro.ext e0⟩
  · rcases List.mem_cons.mp m with m | m
    · subst m
      exact ⟨⟨o, upd_same⟩, rp.freshR hD⟩
    · obtain ⟨⟨u, hu⟩, n⟩ := rp.hd a m
      exact ⟨⟨u, by rw [upd_ne (ne_of_none hu hD)]; exact hu⟩, n⟩
theorem hide_put {S : Sto} {L : Addr} {o : List V} (rp : Rep K mg ρ H S) (hD : L ∈ ρ.h) : Ext0 ρ H ρ (upd H L (.lst o)) ∧ Rep K mg ρ (upd H L (.lst o)) S := by
  have e0 : Ext0 ρ H ρ (upd H L (.lst o)) := ⟨List.prefix_rfl, fun a u h _ n => ⟨by rw [upd_ne (fun e => n (by rw [e]; exact .inr hD))]; exact h, n⟩⟩
  refine ⟨e0, rp.len, rp.nd, fun n a o' h1 h2 => ?_, fun a m => ?_⟩
  · obtain ⟨u, hu, ro⟩ := rp.at_ n a o' h1 h2
    exact ⟨u, by rw [upd_ne (fun e => (rp.hd L hD).2 (by rw [← e]; exact List.mem_of_getElem? h1))]; exact hu, ro.ext0 e0⟩
  · obtain ⟨⟨u, hu⟩, n⟩ := rp.hd a m
    by_cases e : a = L
    · subst e; exact ⟨⟨o, upd_same⟩, n⟩
    · exact ⟨⟨u, by rw [upd_ne e]; exact hu⟩, n⟩
/-- it is made: nothing hides it any more -/
theorem hide_end {S : Sto} {L : Addr} (e : Ext ρ H ρ2 H2) (rp0 : Rep K mg ρ H S) {S2 : Sto} (rp : Rep K mg ρ2 H2 S2) : Ext ρ H ⟨ρ2.r, ρ.h⟩ H2 ∧ Ext0 ρ2 H2 ⟨ρ2.r, ρ.h⟩ H2 ∧ Rep K mg ⟨ρ2.r, ρ.h⟩ H2 S2 := by
  have sub : ∀ a, a ∈ ρ.h → a ∈ ρ2.h := fun a m => by
    obtain ⟨⟨u, hu⟩, _⟩ := rp0.hd a m
    exact (e.hid a _ hu m).2
  have sub2 : ∀ a, a ∈ (⟨ρ2.r, ρ.h⟩ : Mp) → a ∈ ρ2 := fun a m => m.imp id (sub a)
  have e0 : Ext0 ρ2 H2 ⟨ρ2.r, ρ.h⟩ H2 := ⟨List.prefix_rfl, fun a u h _ n => ⟨h, fun m => n (sub2 a m)⟩⟩
  refine ⟨⟨⟨e.pre, fun a u h t n => ⟨(e.keep a u h t n).1, fun m => (e.keep a u h t n).2 (sub2 a m)⟩⟩, fun a u h m => ⟨(e.hid a u h m).1, m⟩⟩, e0, rp.len, rp.nd, fun n a o' h1 h2 => ?_, fun a m => rp.hd a (sub a m)⟩
  obtain ⟨u, hu, ro⟩ := rp.at_ n a o' h1 h2
  exact ⟨u, hu, ro.ext0 e0⟩
end
section
variable {X : Cx}
theorem rdLc {K : PySem.W.Frag} {mg : Str → Option Value} {mi : IM} {g : TgM} {t : TM} {e : EM} {vs : List Nat} {fin : List D → Sto → R D} {σ : St} {H : Hp} {Q : VK}
    (hfin : ∀ ρ0 H0 S0 ρ2 H2 S2 xs acc L, Rep K mg ρ0 H0 S0 → H0 L = none → Ext ρ0 H0 ρ2 H2 → Rep K mg ρ2 H2 S2 → L ∈ ρ2.h → H2 L = some (.lst xs) → RVs K mg ρ2 H2 acc xs → Post K mg ρ0 H0 (fin acc S2) (RV K mg) Q → Q (.ref L) H2)
    (h : rdE K mg (fun env S => (mi env S).bind fun it S1 => (lcD g t e it.gd env vs it.ds [] S1).bind fin) σ H Q) : tLc (rdI K mg mi) (rdGW K mg vs g) (rdT K mg t) (rdE K mg e) vs σ H Q := by
  obtain ⟨ρ, env, S, rp, re, p⟩ := h
  refine ⟨ρ, env, S, rp, re, Post.bindB p fun J H1 ρ1 S1 it e1 rp1 ok p1 => fun L hD => ?_⟩
  obtain ⟨x0, rp0⟩ := hide_new (o := []) rp1 hD
  have re1 := re.ext e1
  refine ⟨fun i m H' => i ≤ it.ds.length ∧ m = it.ds.length - i ∧ ∃ ρ2 S2 acc xs, Ext ρ1 H1 ρ2 H' ∧ Rep K mg ρ2 H' S2 ∧ L ∈ ρ2.h ∧ H' L = some (.lst xs) ∧ RVs K mg ρ2 H' acc xs ∧ Post K mg ρ1 H1 ((lcD g t e it.gd env vs (it.ds.drop i) acc S2).bind fin) (RV K mg) Q,
    ⟨it.ds.length, Nat.zero_le _, rfl, _, S1, [], [], x0, rp0, List.mem_cons_self .., upd_same, .nil, p1⟩, ?_⟩
  rintro i m H' ⟨hi, hm, ρ2, S2, acc, xs, e2, rp2, hDh, hDo, rvs, p2⟩
  by_cases hl : i < it.ds.length
  · right
    rw [List.drop_eq_getElem_cons hl] at p2
    unfold lcD at p2
    split at p2
    · next hgd =>
      obtain ⟨_, hgo⟩ := ok ρ2 H' S2 e2.toExt0 rp2 hgd
      obtain ⟨go, hy⟩ := hgo i _ (List.getElem?_eq_getElem hl)
      refine ⟨go, fun H3 => i + 1 ≤ it.ds.length ∧ ∃ ρ2 S2 acc xs, Ext ρ1 H1 ρ2 H3 ∧ Rep K mg ρ2 H3 S2 ∧ L ∈ ρ2.h ∧ H3 L = some (.lst xs) ∧ RVs K mg ρ2 H3 acc xs ∧ Post K mg ρ1 H1 ((lcD g t e it.gd env vs (it.ds.drop (i + 1)) acc S2).bind fin) (RV K mg) Q, fun H3 ⟨h3, r⟩ => ⟨it.ds.length - (i + 1), by omega, h3, rfl, r⟩, fun x H3 hx => ?_⟩
      obtain ⟨e3, rp3, rv3⟩ := hy x H3 hx
      have re3 : REnv K mg ρ2 H3 (wipeE env vs) (wipe σ vs) := (((re1.ext e2).ext e3)).wipe vs
      have asc : ∀ (r : R Env) (k : Env → Sto → R (List D)), (r.bind k).bind fin = r.bind fun a S => (k a S).bind fin := fun r k => by cases r <;> rfl
      have ascB : ∀ (r : R Bool) (k : Bool → Sto → R (List D)), (r.bind k).bind fin = r.bind fun a S => (k a S).bind fin := fun r k => by cases r <;> rfl
      have ascD : ∀ (r : R D) (k : D → Sto → R (List D)), (r.bind k).bind fin = r.bind fun a S => (k a S).bind fin := fun r k => by cases r <;> rfl
      rw [asc] at p2
      refine ⟨ρ2, _, S2, _, rp3, re3, rv3, Post.step p2 fun σ4 H4 ρ4 S4 env4 e4 rp4 re4 p4 => ⟨by rw [re4.2]; exact wipe_wipe σ vs, ?_⟩⟩
      rw [ascB] at p4
      refine ⟨ρ4, env4, S4, rp4, re4.1, Post.step p4 fun b H5 ρ5 S5 b' e5 rp5 rb p5 => ?_⟩
      cases rb
      have hD5 := (((e3.trans e4).trans e5).hid L _ hDo hDh)
      cases b with
      | false => exact ⟨hl, ρ5, S5, acc, xs, ((e2.trans e3).trans e4).trans e5, rp5, hD5.2, hD5.1, ((rvs.ext e3).ext e4).ext e5, p5⟩
      | true =>
        have p5' : Post K mg ρ1 H1 (((e env4 S5).bind fun y S3 => if acc.length < sizeLine then lcD g t e it.gd env vs (it.ds.drop (i + 1)) (acc ++ [y]) S3 else .bad).bind fin) (RV K mg) Q := p5
        rw [ascD] at p5'
        refine ⟨ρ5, env4, S5, rp5, re4.1.ext e5, Post.step p5' fun y H6 ρ6 S6 d6 e6 rp6 rv6 p6 => ?_⟩
        have hD6 := e6.hid L _ hD5.1 hD5.2
        refine ⟨xs, hD6.1, ?_⟩
        split at p6
        · next hz =>
          have rvs6 := (((rvs.ext e3).ext e4).ext e5).ext e6
          obtain ⟨x7, rp7⟩ := hide_put (o := xs ++ [y]) rp6 hD6.2
          refine ⟨by rw [← rvs6.length]; exact hz, hl, ρ6, S6, acc ++ [d6], xs ++ [y], ?_, rp7, hD6.2, upd_same, (rvs6.append (.cons rv6 .nil)).ext0 x7, p6⟩
          have ee := ((((e2.trans e3).trans e4).trans e5).trans e6)
          exact ⟨⟨ee.pre, fun a u h q n => ⟨by rw [upd_ne (ne_of_none h hD)]; exact (ee.keep a u h q n).1, (ee.keep a u h q n).2⟩⟩, fun a u h q => ⟨by rw [upd_ne (ne_of_none h hD)]; exact (ee.hid a u h q).1, (ee.hid a u h q).2⟩⟩
        · exact p6.elim
    · exact p2.elim
  · left
    have hd : i = it.ds.length := by omega
    subst hd
    rw [List.drop_of_length_le (Nat.le_refl _)] at p2
    unfold lcD at p2
    split at p2
    · next hgd =>
      obtain ⟨st, _⟩ := ok ρ2 H' S2 e2.toExt0 rp2 hgd
      exact ⟨st, hfin ρ1 H1 S1 ρ2 H' S2 xs acc L rp1 hD e2 rp2 hDh hDo rvs p2⟩
    · exact p2.elim
theorem fin_F {K : PySem.W.Frag} {mg : Str → Option Value} {Q : VK} : ∀ ρ0 H0 S0 ρ2 H2 S2 (xs : List V) (acc : List D) (L : Addr), Rep K mg ρ0 H0 S0 → H0 L = none → Ext ρ0 H0 ρ2 H2 → Rep K mg ρ2 H2 S2 → L ∈ ρ2.h → H2 L = some (.lst xs) → RVs K mg ρ2 H2 acc xs → Post K mg ρ0 H0 (.ok (.fzl acc) S2) (RV K mg) Q → Q (.ref L) H2 :=
  fun ρ0 H0 S0 ρ2 H2 S2 xs acc L rp0 hL e rp hh hL2 rv p => by
    obtain ⟨e1, e2, rp3⟩ := hide_end (L := L) e rp0 rp
    refine p _ _ _ e1 rp3 (.fzl ⟨hL2, fun m => ?_⟩ (rv.ext0 e2))
    rcases m with m | m
    · exact (rp.hd L hh).2 m
    · obtain ⟨⟨u, hu⟩, _⟩ := rp0.hd L m
      rw [hL] at hu
      cases hu
theorem fin_M {K : PySem.W.Frag} {mg : Str → Option Value} {Q : VK} : ∀ ρ0 H0 S0 ρ2 H2 S2 (xs : List V) (acc : List D) (L : Addr), Rep K mg ρ0 H0 S0 → H0 L = none → Ext ρ0 H0 ρ2 H2 → Rep K mg ρ2 H2 S2 → L ∈ ρ2.h → H2 L = some (.lst xs) → RVs K mg ρ2 H2 acc xs → Post K mg ρ0 H0 (newL acc S2) (RV K mg) Q → Q (.ref L) H2 :=
  fun ρ0 H0 S0 ρ2 H2 S2 xs acc L rp0 hL e rp hh hL2 rv p => by
    obtain ⟨e1, e2, rp3⟩ := hide_end (L := L) e rp0 rp
    have nL : L ∉ ρ0 := fun m => by
      exact rp0.fresh hL m
    have nr : L ∉ ρ2.r := (rp.hd L hh).2
    have sub : ∀ a, a ∈ ρ0.h → a ∈ ρ2.h := fun a m => by
      obtain ⟨⟨u, hu⟩, _⟩ := rp0.hd a m
      exact (e.hid a _ hu m).2
    have e3 : Ext0 ρ2 H2 ⟨ρ2.r ++ [L], ρ0.h⟩ H2 := ⟨List.prefix_append _ _, fun a u h _ n => ⟨h, fun m => by
      rcases m with m | m
      · rcases List.mem_append.mp m with m | m
        · exact n (.inl m)
        · rw [List.mem_singleton] at m; subst m; exact n (.inr hh)
      · exact n (.inr (sub a m))⟩⟩
    refine p ⟨ρ2.r ++ [L], ρ0.h⟩ _ _ ⟨⟨e.pre.trans (List.prefix_append _ _), fun a u h t n => ⟨(e.keep a u h t n).1, fun m => ?_⟩⟩, fun a u h m => ⟨(e.hid a u h m).1, m⟩⟩ ⟨by show (ρ2.r ++ [L]).length = _; rw [List.length_append, List.length_append, rp.len]; rfl, List.nodup_append.mpr ⟨rp.nd, by simp, fun a ha b hb => by rw [List.mem_singleton] at hb; subst hb; intro q; subst q; exact nr ha⟩, fun n a o' h1 h2 => ?_, fun a m => ?_⟩ (.loc ?_)
    · rcases m with m | m
      · rcases List.mem_append.mp m with m | m
        · exact (e.keep a u h t n).2 (.inl m)
        · rw [List.mem_singleton] at m; exact ne_of_none h hL m
      · exact n (.inr m)
    · have h1 : (ρ2.r ++ [L])[n]? = some a := h1
      by_cases hn : n < ρ2.r.length
      · rw [List.getElem?_append_left hn] at h1
        rw [List.getElem?_append_left (rp.len ▸ hn)] at h2
        obtain ⟨u', hu, hr⟩ := rp.at_ n a o' h1 h2
        exact ⟨u', hu, hr.ext0 e3⟩
      · have hn' : n = ρ2.r.length := by
          have := (List.getElem?_eq_some_iff.mp h1).1
          rw [List.length_append] at this
          simp at this
          omega
        subst hn'
        rw [List.getElem?_append_right (Nat.le_refl _), Nat.sub_self] at h1
        rw [rp.len, List.getElem?_append_right (Nat.le_refl _), Nat.sub_self] at h2
        cases h1
        cases h2
        exact ⟨_, hL2, .lst (rv.ext0 e3)⟩
    · obtain ⟨q, n⟩ := rp.hd a (sub a m)
      refine ⟨q, fun z => ?_⟩
      rcases List.mem_append.mp z with z | z
      · exact n z
      · rw [List.mem_singleton] at z; subst z; exact nL (.inr m)
    · show (ρ2.r ++ [L])[S2.length]? = some L
      rw [← rp.len, List.getElem?_append_right (Nat.le_refl _), Nat.sub_self]
      rfl
variable {elt tg iter : Expr} {ifs : List Expr} {scope : Scope} {own : List (Str × Nat)} {vs : List Nat} {pos : Pos} {mi : IM} {g : TgM} {tt : TM} {me : EM}
theorem ge_lc (hc : X.calm = true) (hN : X.N.Nodup) (hi : GI X tg iter mi) (ok : BlkOk X.N X.env.scope scope own ∧ own.map (·.2) = vs)
    (hg : ∀ (s : Shared) (H : Hp) (C : Addr) (cl : List (Str × Addr)) (fp : List Addr), GGW (X.blk s H scope (compEnvC scope cl C X.env) fp) vs tg g) (ht : ∀ (s : Shared) (H : Hp) (C : Addr) (cl : List (Str × Addr)) (fp : List Addr), GTs (X.blk s H scope (compEnvC scope cl C X.env) fp) ifs tt)
    (he : ∀ (s : Shared) (H : Hp) (C : Addr) (cl : List (Str × Addr)) (fp : List Addr), GE (X.blk s H scope (compEnvC scope cl C X.env) fp) elt me) (hs : ∀ x, foldedSetIterable iter X.env x = pure x := by intro _; rfl) :
    GE X (.ListComp elt [⟨tg, iter, ifs, 0⟩] scope pos) (mLc mi g tt me vs) := by
  obtain ⟨ok, rfl⟩ := ok
  exact (pe_lc hc hN hi ok hg ht he hs).mono' fun _ _ _ h => rdLc fin_F h
theorem ge_lcM (hc : X.calm = true) (hN : X.N.Nodup) (hi : GI X tg iter mi) (ok : BlkOk X.N X.env.scope scope own ∧ own.map (·.2) = vs)
    (hg : ∀ (s : Shared) (H : Hp) (C : Addr) (cl : List (Str × Addr)) (fp : List Addr), GGW (X.blk s H scope (compEnvC scope cl C X.env) fp) vs tg g) (ht : ∀ (s : Shared) (H : Hp) (C : Addr) (cl : List (Str × Addr)) (fp : List Addr), GTs (X.blk s H scope (compEnvC scope cl C X.env) fp) ifs tt)
    (he : ∀ (s : Shared) (H : Hp) (C : Addr) (cl : List (Str × Addr)) (fp : List Addr), GE (X.blk s H scope (compEnvC scope cl C X.env) fp) elt me) (hs : ∀ x, foldedSetIterable iter X.env x = pure x := by intro _; rfl) :
    GE X (.ListComp elt [⟨tg, iter, ifs, 0⟩] scope pos) (mLcM mi g tt me vs) := by
  obtain ⟨ok, rfl⟩ := ok
  exact (pe_lc hc hN hi ok hg ht he hs).mono' fun _ _ _ h => rdLc fin_M h
theorem gs_setLcG {f : EM} {i : Nat} {y : Str} {py spos : Pos} (hc : X.calm = true) (hN : X.N.Nodup) (hy : X.N[i]? = some y) (hyl : X.env.scope.names.lookup y = some .local)
    (hsw : swapsWith (.ListComp elt [⟨tg, iter, ifs, 0⟩] scope pos) (some (.Name y py)) spos.line X.env = pure true) (hi : GI X tg iter mi) (ok : BlkOk X.N X.env.scope scope own ∧ own.map (·.2) = vs)
    (hg : ∀ (s : Shared) (H : Hp) (C : Addr) (cl : List (Str × Addr)) (fp : List Addr), GGW (X.blk s H scope (compEnvC scope cl C X.env) fp) vs tg g) (ht : ∀ (s : Shared) (H : Hp) (C : Addr) (cl : List (Str × Addr)) (fp : List Addr), GTs (X.blk s H scope (compEnvC scope cl C X.env) fp) ifs tt)
    (he : ∀ (s : Shared) (H : Hp) (C : Addr) (cl : List (Str × Addr)) (fp : List Addr), GE (X.blk s H scope (compEnvC scope cl C X.env) fp) elt me)
    (hf : ∀ σ H Q, rdE X.K X.mg f σ H Q → tLc (rdI X.K X.mg mi) (rdGW X.K X.mg vs g) (rdT X.K X.mg tt) (rdE X.K X.mg me) vs σ H Q) (hs : ∀ x, foldedSetIterable iter X.env x = pure x := by intro _; rfl) :
    GS X (.Assign [.Name y py] (.ListComp elt [⟨tg, iter, ifs, 0⟩] scope pos) spos) (sAsg f (gN i)) := by
  obtain ⟨ok, rfl⟩ := ok
  exact (ps_setLc hc hN hy hyl hsw hi ok hg ht he hs).mono' fun D σ H ⟨ρ, env, S, rp, re, p⟩ =>
    hf σ H _ ⟨ρ, env, S, rp, re, PostS.bindB p fun v H1 ρ1 S1 d e1 rp1 rv1 p1 => PostS.nx p1 rp1 ((re.ext e1).set rv1)⟩
theorem gs_setLc {i : Nat} {y : Str} {py spos : Pos} (hc : X.calm = true) (hN : X.N.Nodup) (hi : GI X tg iter mi) (ok : BlkOk X.N X.env.scope scope own ∧ own.map (·.2) = vs)
    (hg : ∀ (s : Shared) (H : Hp) (C : Addr) (cl : List (Str × Addr)) (fp : List Addr), GGW (X.blk s H scope (compEnvC scope cl C X.env) fp) vs tg g) (ht : ∀ (s : Shared) (H : Hp) (C : Addr) (cl : List (Str × Addr)) (fp : List Addr), GTs (X.blk s H scope (compEnvC scope cl C X.env) fp) ifs tt)
    (he : ∀ (s : Shared) (H : Hp) (C : Addr) (cl : List (Str × Addr)) (fp : List Addr), GE (X.blk s H scope (compEnvC scope cl C X.env) fp) elt me) (hsw : swapsWith (.ListComp elt [⟨tg, iter, ifs, 0⟩] scope pos) (some (.Name y py)) spos.line X.env = pure true := by exact sw_true rfl rfl rfl (by decide +kernel)) (hy : X.N[i]? = some y := by rfl) (hyl : X.env.scope.names.lookup y = some .local := by rfl) (hs : ∀ x, foldedSetIterable iter X.env x = pure x := by intro _; rfl) :
    GS X (.Assign [.Name y py] (.ListComp elt [⟨tg, iter, ifs, 0⟩] scope pos) spos) (sAsg (mLc mi g tt me vs) (gN i)) := gs_setLcG hc hN hy hyl hsw hi ok hg ht he (fun _ _ _ h => rdLc fin_F h) hs
theorem gs_setLcM {i : Nat} {y : Str} {py spos : Pos} (hc : X.calm = true) (hN : X.N.Nodup) (hi : GI X tg iter mi) (ok : BlkOk X.N X.env.scope scope own ∧ own.map (·.2) = vs)
    (hg : ∀ (s : Shared) (H : Hp) (C : Addr) (cl : List (Str × Addr)) (fp : List Addr), GGW (X.blk s H scope (compEnvC scope cl C X.env) fp) vs tg g) (ht : ∀ (s : Shared) (H : Hp) (C : Addr) (cl : List (Str × Addr)) (fp : List Addr), GTs (X.blk s H scope (compEnvC scope cl C X.env) fp) ifs tt)
    (he : ∀ (s : Shared) (H : Hp) (C : Addr) (cl : List (Str × Addr)) (fp : List Addr), GE (X.blk s H scope (compEnvC scope cl C X.env) fp) elt me) (hsw : swapsWith (.ListComp elt [⟨tg, iter, ifs, 0⟩] scope pos) (some (.Name y py)) spos.line X.env = pure true := by exact sw_true rfl rfl rfl (by decide +kernel)) (hy : X.N[i]? = some y := by rfl) (hyl : X.env.scope.names.lookup y = some .local := by rfl) (hs : ∀ x, foldedSetIterable iter X.env x = pure x := by intro _; rfl) :
    GS X (.Assign [.Name y py] (.ListComp elt [⟨tg, iter, ifs, 0⟩] scope pos) spos) (sAsg (mLcM mi g tt me vs) (gN i)) := gs_setLcG hc hN hy hyl hsw hi ok hg ht he (fun _ _ _ h => rdLc fin_M h) hs
end
end ML
namespace ML
open PySem L2
/-! ### defs and their calls -/
def spM (K : PySem.W.Frag) (mg : Str → Option Value) (n : Nat) (f : List D → Sto → R D) : Sp := fun vs H Q _ => ∃ ρ S ds, Rep K mg ρ H S ∧ RVs K mg ρ H ds vs ∧ ds.length = n ∧ Post K mg ρ H (f ds S) (RV K mg) Q
/-- the def that stands under a name keeps what f says, by at most so many calls one in another -/
def Cal (P : Program) (w : World) (K : PySem.W.Frag) (mg : Str → Option Value) (base : Heap) (k : Nat) (x : Str) (ps : List Str) (f : List D → Sto → R D) : Prop :=
  ∃ a fd, mg x = some (.ref a) ∧ PySem.W.keepIn K (.ref a) = true ∧ Binds K fd ps [] ∧ FnOk P w K mg base CX0 k a fd ps (spM K mg ps.length f)
/-- where a def of the text stands -/
def Dn (K : PySem.W.Frag) (mg : Str → Option Value) (x : Str) (st : Stmt) (ps : List Str) : Prop :=
  ∃ a fd, mg x = some (.ref a) ∧ Fun K x x st a fd ∧ Binds K fd ps []
def mFn (n : Nat) (f : List D → Sto → R D) (as : AM) : EM := fun env S => (as env S).bind fun ds S1 => if ds.length = n then f ds S1 else .bad
/-- the body run from the arguments -/
def runFl (r : R Fl) : R D := r.bind fun f S => match f with
  | .rt d => .ok d S
  | .nx _ => .ok .non S
  | _ => .bad
def env0 (n : Nat) (ds : List D) : Env := ds.map some ++ List.replicate (n - ds.length) none
def fnD (n : Nat) (m : SM) (ds : List D) (S : Sto) : R D := runFl (m (env0 n ds) S)
section
variable {P : Program} {w : World} {K : PySem.W.Frag} {mg : Str → Option Value} {base : Heap}
theorem env_start {ρ : Mp} {H : Hp} {N : List Str} {ds : List D} {vs : List V} (r : RVs K mg ρ H ds vs) : REnv K mg ρ H (env0 N.length ds) (L2.start N vs) := by
  refine ⟨by unfold env0 L2.start; simp [r.length], fun i d h => ?_⟩
  unfold env0 at h
  unfold L2.start
  by_cases hi : i < ds.length
  · rw [List.getElem?_append_left (by simpa using hi), List.getElem?_map] at h
    rw [List.getElem?_append_left (by rw [List.length_map, ← r.length]; exact hi), List.getElem?_map]
    cases q : ds[i]? with
    | none => rw [q] at h; cases h
    | some d' =>
      rw [q] at h
      cases h
      obtain ⟨v, hv, rv⟩ := r.getD q
      exact ⟨v, by rw [hv]; rfl, rv⟩
  · rw [List.getElem?_append_right (by simpa using hi), List.getElem?_replicate] at h
    split at h <;> simp at h
theorem fnok_ML {a : Addr} {fd : FuncData} {x : Str} {st : Stmt} {N ps : List Str} {k : Nat} {m : SM} (F : Fun K x x st a fd) (Sc : FnScope N ps (defScope st))
    (body : ∀ (f : Addr) (cdv : Value) (A : Around) (outer : List PySem.Env) (s : Shared) (H : Hp) (E : XK), Room k (A.deeper (PyProof.Rows.envOfC x (defScope st) s.heap.objs.size f cdv)) →
      GSs (cxOf CX0 P w K mg base N x (defScope st) f cdv A outer s H E).nox (defBody st) m) : FnOk P w K mg base CX0 (k + 1) a fd ps (spM K mg ps.length (fnD N.length m)) := by
  refine F.ok Sc (fun vs H Q E ⟨ρ, S, ds, rp, rv, hl, p⟩ => by rw [← rv.length]; exact hl) fun cdv A outer s H vs Q E hr ⟨ρ, S, ds, rp, rv, hl, p⟩ => ?_
  refine ⟨_, body a cdv A outer s H E hr, ρ, env0 N.length ds, S, rp, env_start rv, ?_⟩
  unfold fnD runFl at p
  show PostS K mg ρ H (m (env0 N.length ds) S) _
  cases q : m (env0 N.length ds) S with
  | bad => rw [q] at p; exact p
  | ok f S1 =>
    rw [q] at p
    cases f with
    | nx e => exact fun ρ1 H1 σ1 e1 rp1 _ => p ρ1 H1 .non e1 rp1 .non
    | rt d => exact p
    | bk e => exact p.elim
    | ct e => exact p.elim
theorem fn_ML {x : Str} {st : Stmt} {N ps : List Str} {k : Nat} {m : SM} (F : Dn K mg x st ps) (Sc : FnScope N ps (defScope st))
    (body : ∀ (f : Addr) (cdv : Value) (A : Around) (outer : List PySem.Env) (s : Shared) (H : Hp) (E : XK), Room k (A.deeper (PyProof.Rows.envOfC x (defScope st) s.heap.objs.size f cdv)) →
      GSs (cxOf CX0 P w K mg base N x (defScope st) f cdv A outer s H E).nox (defBody st) m) : Cal P w K mg base (k + 1) x ps (fnD N.length m) := by
  obtain ⟨a, fd, h1, F, b⟩ := F
  exact ⟨a, fd, h1, F.kp, b, fnok_ML F Sc body⟩
theorem Cal.mono {j k : Nat} {x : Str} {ps : List Str} {f : List D → Sto → R D} (c : Cal P w K mg base j x ps f) (h : j ≤ k) : Cal P w K mg base k x ps f :=
  let ⟨a, fd, h1, h2, h3, h4⟩ := c
  ⟨a, fd, h1, h2, h3, h4.mono h⟩
theorem cl_loc {ρ : Mp} {n : Nat} {a : Addr} (h : ρ.r[n]? = some a) : D.cl ρ.r.length (.loc n) = true := by
  simp only [D.cl, decide_eq_true_eq]
  exact (List.getElem?_eq_some_iff.mp h).1
mutual
theorem RV.clo {ρ : Mp} {H : Hp} : ∀ {d : D} {v : V}, RV K mg ρ H d v → D.cl ρ.r.length d = true
  | _, _, .non => rfl
  | _, _, .bl b => rfl
  | _, _, .int i => rfl
  | _, _, .str x => rfl
  | _, _, .ty n => rfl
  | _, _, .glb h r => rfl
  | _, _, .tup t r => by simpa [D.cl] using RVs.clo r
  | _, _, .fzl t r => by simpa [D.cl] using RVs.clo r
  | _, _, .kl t r => by simpa [D.cl] using RVs.clo r
  | _, _, .loc h => cl_loc h
theorem RVs.clo {ρ : Mp} {H : Hp} : ∀ {d : List D} {v : List V}, RVs K mg ρ H d v → D.cls ρ.r.length d = true
  | _, _, .nil => rfl
  | _, _, .cons r t => by simp [D.cls, RV.clo r, RVs.clo t]
end
theorem Rep.clo {ρ : Mp} {H : Hp} {S : Sto} (rp : Rep K mg ρ H S) : S.all (O.cl S.length) = true := by
  refine List.all_eq_true.mpr fun o ho => ?_
  obtain ⟨n, hn, e⟩ := List.getElem_of_mem ho
  have hr : n < ρ.r.length := rp.len ▸ hn
  obtain ⟨u, _, ro⟩ := rp.at_ n (ρ.r[n]'hr) o (List.getElem?_eq_getElem hr) (by rw [List.getElem?_eq_getElem hn, e])
  rw [← rp.len]
  cases ro with
  | lst r => exact r.clo
  | dK r => exact r.clo
  | dT r => exact r.clo
/-! d0 as it stands in the store, its new lists now held for such that nobody changes: d -/
mutual
inductive Frz (F : Sto) (n : Nat) : D → D → Prop
  | old {d : D} : D.cl n d = true → Frz F n d d
  | tup {ds es : List D} : Frzs F n ds es → Frz F n (.tup ds) (.tup es)
  | fzl {ds es : List D} : Frzs F n ds es → Frz F n (.fzl ds) (.fzl es)
  | loc {m : Nat} {ds es : List D} : n ≤ m → F[m]? = some (.lst ds) → Frzs F n ds es → Frz F n (.loc m) (.fzl es)
inductive Frzs (F : Sto) (n : Nat) : List D → List D → Prop
  | nil : Frzs F n [] []
  | cons {d e : D} {ds es : List D} : Frz F n d e → Frzs F n ds es → Frzs F n (d :: ds) (e :: es)
end
section
variable {ρ : Mp} {H : Hp} {F : Sto} {n : Nat}
theorem cut_mem {a : Addr} (m : a ∈ (⟨ρ.r.take n, ρ.h⟩ : Mp)) : a ∈ ρ := m.imp (fun m => List.mem_of_mem_take m) id
mutual
theorem Frz.rv (rp : Rep K mg ρ H F) (hn : n ≤ ρ.r.length) : ∀ {d e : D} {v : V}, Frz F n d e → RV K mg ρ H d v → RV K mg ⟨ρ.r.take n, ρ.h⟩ H e v
  | _, _, _, .old c, r => RV.cut (ρ := ⟨ρ.r.take n, ρ.h⟩) (List.take_prefix _ _) rfl (by show D.cl (ρ.r.take n).length _ = true; rw [List.length_take, Nat.min_eq_left hn]; exact c) r
  | _, _, _, .tup f, .tup t r => .tup ⟨t.1, fun m => t.2 (cut_mem m)⟩ (Frzs.rv rp hn f r)
  | _, _, _, .fzl f, .fzl t r => .fzl ⟨t.1, fun m => t.2 (cut_mem m)⟩ (Frzs.rv rp hn f r)
  | _, _, _, .loc hm hF f, .loc ha => by
    obtain ⟨u, hu, ro⟩ := rp.obj ha hF
    cases ro with
    | lst r =>
      refine .fzl ⟨hu, fun m => ?_⟩ (Frzs.rv rp hn f r)
      rcases m with m | m
      · obtain ⟨i, hi, e⟩ := List.getElem_of_mem m
        have hi' : i < n := by
          have := hi
          rw [List.length_take] at this
          omega
        rw [List.getElem_take] at e
        obtain ⟨hl, e2⟩ := List.getElem?_eq_some_iff.mp ha
        have := (List.getElem_inj rp.nd).mp (e.trans e2.symm)
        omega
      · exact (rp.hd _ m).2 (List.mem_of_getElem? ha)
theorem Frzs.rv (rp : Rep K mg ρ H F) (hn : n ≤ ρ.r.length) : ∀ {d e : List D} {v : List V}, Frzs F n d e → RVs K mg ρ H d v → RVs K mg ⟨ρ.r.take n, ρ.h⟩ H e v
  | _, _, _, .nil, .nil => .nil
  | _, _, _, .cons f fs, .cons r t => .cons (Frz.rv rp hn f r) (Frzs.rv rp hn fs t)
end
end
/-- a plainer function in its place: it may forget what was laid behind in the store -/
def Fits (n : Nat) (f g : List D → Sto → R D) : Prop := ∀ ds S, ds.length = n → ∀ d S', g ds S = .ok d S' → ∃ d0 T, f ds S = .ok d0 (S' ++ T) ∧ ((d0 = d ∧ T = []) ∨ (D.cls S.length ds = true → S.all (O.cl S.length) = true → S'.length = S.length ∧ Frz (S' ++ T) S.length d0 d ∧ S'.all (O.cl S.length) = true))
theorem Cal.fit {k : Nat} {x : Str} {ps : List Str} {f g : List D → Sto → R D} (c : Cal P w K mg base k x ps f) (h : Fits ps.length f g) : Cal P w K mg base k x ps g := by
  obtain ⟨a, fd, h1, h2, h3, h4⟩ := c
  refine ⟨a, fd, h1, h2, h3, h4.imp fun vs H Q E ⟨ρ, S, ds, rp, rv, hl, p⟩ => ?_⟩
  refine ⟨ρ, S, ds, rp, rv, hl, ?_⟩
  cases q : g ds S with
  | bad => rw [q] at p; exact p.elim
  | ok d S' =>
    rw [q] at p
    obtain ⟨d0, T, e, hT⟩ := h ds S hl d S' q
    rw [e]
    rcases hT with ⟨rfl, rfl⟩ | hT
    · rw [List.append_nil]
      exact p
    · intro ρ1 H1 v e1 rp1 rv1
      obtain ⟨hlen, hd, hS⟩ := hT (by rw [← rp.len]; exact rv.clo) rp.clo
      have hl1 : ρ.r.length = S'.length := by rw [hlen]; exact rp.len
      have hpre : ρ.r <+: ρ1.r := e1.pre
      have hlen1 : ρ.r.length ≤ ρ1.r.length := hpre.length_le
      have et : ρ1.r.take S.length = ρ.r := by
        obtain ⟨t, ht⟩ := hpre
        rw [← ht, ← rp.len, List.take_left]
      have e2 : Ext ρ H ⟨ρ.r, ρ1.h⟩ H1 := by
        refine e1.cut (ρ := ⟨ρ.r, ρ1.h⟩) hpre rfl List.prefix_rfl
      have rv2 := hd.rv rp1 (by rw [← rp.len]; exact hlen1) rv1
      rw [et] at rv2
      exact p ⟨ρ.r, ρ1.h⟩ H1 v e2 (rp1.cut (ρ := ⟨ρ.r, ρ1.h⟩) hpre rfl hl1 (by rw [hlen]; exact hS)) rv2
/-- d as it stands in F, what stands from place n on held for such that nobody changes -/
def frzD (F : Sto) (n : Nat) : Nat → D → Option D
  | 0, d => if D.cl n d = true then some d else none
  | k + 1, d => if D.cl n d = true then some d else match d with
    | .tup ds => (opAll (frzD F n k) ds).map .tup
    | .fzl ds => (opAll (frzD F n k) ds).map .fzl
    | .loc m => if n ≤ m then (match F[m]? with
      | some (.lst ds) => (opAll (frzD F n k) ds).map .fzl
      | _ => none) else none
    | _ => none
theorem frzs_of {F : Sto} {n : Nat} {f : D → Option D} (hf : ∀ d e, f d = some e → Frz F n d e) : ∀ {ds es : List D}, opAll f ds = some es → Frzs F n ds es
  | [], es, h => by cases h; exact .nil
  | d :: ds, es, h => by
    unfold opAll at h
    cases h1 : f d with
    | none => simp [h1] at h
    | some y =>
      cases h2 : opAll f ds with
      | none => simp [h1, h2] at h
      | some ys =>
        simp [h1, h2] at h
        subst h
        exact .cons (hf _ _ h1) (frzs_of hf h2)
theorem frz_of {F : Sto} {n : Nat} : ∀ (k : Nat) (d e : D), frzD F n k d = some e → Frz F n d e := by
  intro k
  induction k with
  | zero =>
    intro d e h
    unfold frzD at h
    split at h
    · next c => cases h; exact .old c
    · cases h
  | succ k ih =>
    intro d e h
    unfold frzD at h
    split at h
    · next c => cases h; exact .old c
    · split at h
      · obtain ⟨es, h1, rfl⟩ := Option.map_eq_some_iff.mp h
        exact .tup (frzs_of ih h1)
      · obtain ⟨es, h1, rfl⟩ := Option.map_eq_some_iff.mp h
        exact .fzl (frzs_of ih h1)
      · split at h
        · next hm =>
          split at h
          · next ds q =>
            obtain ⟨es, h1, rfl⟩ := Option.map_eq_some_iff.mp h
            exact .loc hm q (frzs_of ih h1)
          · cases h
        · cases h
      · cases h
/-- what a def lays behind is forgotten -/
def dropG (f : List D → Sto → R D) : List D → Sto → R D := fun ds S => match f ds S with
  | .ok d S' => if S.length ≤ S'.length ∧ (S'.take S.length).all (O.cl S.length) = true then (match frzD S' S.length 6 d with
    | some e => .ok e (S'.take S.length)
    | none => .bad) else .bad
  | .bad => .bad
theorem fits_drop (n : Nat) (f : List D → Sto → R D) : Fits n f (dropG f) := fun ds S hl d S' h => by
  unfold dropG at h
  cases q : f ds S with
  | bad => rw [q] at h; cases h
  | ok d0 S1 =>
    rw [q] at h
    simp only at h
    split at h
    · next c =>
      split at h
      · next e he =>
        cases h
        refine ⟨d0, S1.drop S.length, by rw [List.take_append_drop], .inr fun _ _ => ⟨by rw [List.length_take, Nat.min_eq_left c.1], ?_, c.2⟩⟩
        rw [List.take_append_drop]
        exact frz_of 6 d0 _ he
      · cases h
    · cases h
/-- a def that calls itself, by the number of calls -/
theorem Cal.none {x : Str} {ps : List Str} {st : Stmt} (F : Dn K mg x st ps) : Cal P w K mg base 0 x ps (fun _ _ => .bad) := by
  obtain ⟨a, fd, h1, F, b⟩ := F
  exact ⟨a, fd, h1, F.kp, b, ⟨fun vs H Q E ⟨ρ, S, ds, rp, rv, hl, p⟩ => p.elim, fun A outer s H args us vs Q E _ _ _ _ ⟨ρ, S, ds, rp, rv, hl, p⟩ => p.elim⟩⟩
end
section
variable {X : Cx} {x : Str} {p pos : Pos} {e : Expr} {es : List Expr} {as : AM} {ps : List Str} {f : List D → Sto → R D} {j k : Nat}
theorem ge_call {n : Nat} (c : Cal X.prog X.w X.K X.mg X.base j x ps f) (hr : Room k X.A) (ha : GA X (e :: es) as) (hn : ps.length = n := by rfl) (hj : j ≤ k := by decide) (hg : Gl X x := by rfl) (hdb : (x == ("__debug__" : Str)) = false := by decide)
    (he : starEach (e :: es) X.env = (false, eval e X.env) :: starEach es X.env := by rfl) (hpl : (backTo pos (starEach es X.env)).any (·.1) = false := by rfl) : GE X (.Call (.Name x p) (e :: es) [] pos) (mFn n f as) := by
  subst hn
  obtain ⟨a, fd, h1, h2, h3, h4⟩ := c
  refine (pe_call (h4.mono hj) hr hg h1 h2 h3 .nil pass0 ha hdb he hpl).mono' fun σ H Q ⟨ρ, env, S, rp, re, p⟩ => ?_
  refine ⟨ρ, env, S, rp, re, Post.bindB p fun vs H1 ρ1 S1 ds e1 rp1 rv1 p1 => ?_⟩
  split at p1
  · next hl => rw [List.append_nil]; exact ⟨ρ1, S1, ds, rp1, rv1, hl, p1⟩
  · exact p1.elim
end
/-! ### the end -/
theorem ints_rv {K : PySem.W.Frag} {mg : Str → Option Value} {ρ : Mp} {H : Hp} : ∀ ns : List Int, RVs K mg ρ H (ns.map D.int) (ns.map V.int)
  | [] => .nil
  | n :: ns => .cons (.int n) (ints_rv ns)
theorem kl_ints {K : PySem.W.Frag} {mg : Str → Option Value} {H : Hp} {a : Addr} {ns : List Int} (h : SqL K H a (ns.map V.int)) : RV K mg ⟨[], []⟩ H (.kl (ns.map D.int)) (.ref a) := by
  refine .kl (xs := ns.map V.int) ?_ (ints_rv ns)
  rcases h with h | h
  · exact .inl ⟨h, fun m => m.elim (fun m => nomatch m) (fun m => nomatch m)⟩
  · exact .inr (.inr h)
/-- what law promises -/
def spLaw (K : PySem.W.Frag) : Sp := fun vs H Q _ => ∃ (a : Addr) (ns : List Int), vs = [.ref a] ∧ SqL K H a (ns.map V.int) ∧ ns.length ≤ 63 ∧ ∀ H', Q (.bl true) H'
theorem law_ok {P : Program} {w : World} {K : PySem.W.Frag} {mg : Str → Option Value} {base : Heap} {k : Nat} {a : Addr} {fd : FuncData} {ps : List Str} {f : List D → Sto → R D} (h : FnOk P w K mg base CX0 k a fd ps (spM K mg 1 f))
    (hf : ∀ ns : List Int, ns.length ≤ 63 → ∃ S', f [.kl (ns.map D.int)] [] = .ok (.bl true) S') : FnOk P w K mg base CX0 k a fd ps (spLaw K) :=
  h.imp fun vs H Q E ⟨a, ns, e, hS, hl, q⟩ => by
    subst e
    obtain ⟨S', e⟩ := hf ns hl
    refine ⟨⟨[], []⟩, [], [.kl (ns.map D.int)], ⟨rfl, List.nodup_nil, fun n a o h => by simp at h, fun a m => by cases m⟩, .cons (kl_ints hS) .nil, rfl, ?_⟩
    rw [e]
    intro ρ' H' v _ _ rv
    cases rv
    exact q H'
end ML
/-! enumerate of a tuple -/
namespace PySem
open Sem (wp)
open AutoSeq1 (wpAny_loadPart')
theorem meets_enumerate_newTu (l : Addr) (items : Array Value) (n : Nat) (dct : Option Addr) (sl : Array (Option Value)) :
    Meets (Builtin.«enumerate.__new__» ⟨[.type "enumerate", .ref l], []⟩) (fun _ R s => s.heap.get? l = some { cls := .type "tuple", dict := dct, data := .seq items n, slots := sl } ∧
      R (.ok (.ret (.ref (s.heap.push { cls := .type "tuple_iterator", data := .fields #[.ref l, .int 0 0] }).objs.size)))
        { s with heap := (s.heap.push { cls := .type "tuple_iterator", data := .fields #[.ref l, .int 0 0] }).push { cls := .type "enumerate", data := .fields #[.none, .bool false, .ref s.heap.objs.size, rawInt 0, .none, .none] } }) :=
  .of_wp fun prog w A R s h => by
    obtain ⟨hp, g, d, tk, os⟩ := s; obtain ⟨hl, h⟩ := h
    have hsub := sub_enumerate
    have hL : Heap.IsTuple (Shared.heap ⟨hp, g, d, tk, os⟩) l items := ⟨_, hl, rfl, n, rfl⟩
    wp_walk using wpAny_loadPart' hl
    refine wpAny_stack_any fun st => wpAny_pure ?_
    split
    · rename_i c _ _ _ _ _
      cases (c == Value.type "enumerate")
      · wp_walk using wpAny_loadPart' hl, wpAny_pyIter_tuple hL
        exact ⟨_, rfl, h⟩
      · wp_walk using wpAny_loadPart' hl, wpAny_pyIter_tuple hL
        exact ⟨_, rfl, h⟩
    · wp_walk using wpAny_loadPart' hl, wpAny_pyIter_tuple hL
      exact ⟨_, rfl, h⟩
section
variable {prog : Program} {w : World} {A : Around} {E : Value → Shared → Prop} {s : Shared}
theorem call_enumerate_tu {l : Addr} {items : Array Value} {Q : Value → Shared → Prop} (hL : s.heap.IsTuple l items)
    (h : ∀ h', IsEnum h' (s.heap.objs.size + 1) s.heap.objs.size 0 .none → h'.IsTupleIter s.heap.objs.size l 0 → h'.objs.size = s.heap.objs.size + 2 →
      (∀ b o, s.heap.get? b = some o → h'.get? b = some o) → Q (.ref (s.heap.objs.size + 1)) { s with heap := h' }) :
    wpAny (model prog w) A (call (.type "enumerate") [.ref l]) Q E s := by
  obtain ⟨⟨c, dct, dt, sl⟩, hl, hc, n, hd⟩ := hL
  replace hc : c = .type "tuple" := hc
  replace hd : dt = .seq items n := hd
  subst hc hd
  refine callType_new F.called_enumerate (by decide) (F.typeCall_enumerate_1 _) (F.newCall_enumerate_1 _) (fun obj => F.args_object_init_2 obj _) F.entry_enumerate_new
    (meets_enumerate_newTu l items n dct sl) ⟨hl, ?_⟩
  have hz : (s.heap.push { cls := .type "tuple_iterator", data := .fields #[.ref l, .int 0 0] }).objs.size = s.heap.objs.size + 1 := Heap.size_push ..
  show _ ∧ _
  rw [hz]
  have he : IsEnum ((s.heap.push { cls := .type "tuple_iterator", data := .fields #[.ref l, .int 0 0] }).push
      { cls := .type "enumerate", data := .fields #[.none, .bool false, .ref s.heap.objs.size, rawInt 0, .none, .none] }) (s.heap.objs.size + 1) s.heap.objs.size 0 .none := by
    have := Heap.get?_push_size (s.heap.push { cls := .type "tuple_iterator", data := .fields #[.ref l, .int 0 0] })
      (o := { cls := .type "enumerate", data := .fields #[.none, .bool false, .ref s.heap.objs.size, rawInt 0, .none, .none] }) rfl
    rw [hz] at this; exact this
  refine ⟨⟨_, he, rfl⟩, h _ he ⟨_, Heap.get?_push_of_some _ (Heap.get?_push_size _ rfl), rfl, rfl⟩ (by rw [Heap.size_push, hz]) fun b o x => Heap.get?_push_of_some _ (Heap.get?_push_of_some _ x)⟩
end
end PySem
namespace L2
open PySem PySem.Spec PyProof.Rows
def IteT (K : PySem.W.Frag) (a : Addr) : It :=
  ⟨fun i H => ∃ (xs : List V) (x : V), SqT K H a xs ∧ xs[i]? = some x, fun i H v H' => ∃ T x, v = .ref T ∧ H T = none ∧ H' = upd H T (.tup [.int (i : Nat), x]) ∧ ∀ xs, SqT K H a xs → xs[i]? = some x, fun i H => ∃ xs : List V, SqT K H a xs ∧ xs.length = i⟩
theorem turn_enumT {P : Program} {w : World} {K : PySem.W.Frag} {elts : List Expr} {kk : Nat} {tpos : Pos} (a e it : Addr) :
    Turn P w K (.Tuple elts kk tpos) (IteT K a) [e, it] e (fun i h => (∃ old, IsEnum h e it ((i : Nat) : Int) old) ∧ h.IsTupleIter it a i ∧ e ≠ it ∧ a ≠ it ∧ a ≠ e) where
  mem := by simp
  obj := fun i h st b hb => by
    obtain ⟨⟨old, he⟩, ⟨o, ho, hc, hd⟩, _⟩ := st
    have e' : b = e ∨ b = it := by simpa using hb
    rcases e' with z | z
    · rw [z]; exact ⟨_, he, fun v q => nomatch q⟩
    · rw [z]; exact ⟨o, ho, fun v q => by rw [hd] at q; cases q⟩
  keep := fun i h h' st k => let ⟨⟨old, he⟩, hi, hne⟩ := st; ⟨⟨old, k e (by simp) _ he⟩, hi.at fun o q => k it (by simp) o q, hne⟩
  item := by
    intro X hP hw hK hc i pins s σ H E I hf st hg
    subst hP hw hK
    obtain ⟨⟨old, he⟩, hit, hne, hai, hae⟩ := st
    obtain ⟨xs, x, hq, hx⟩ := hg
    obtain ⟨its, rv, p, hz⟩ := I.tuple hq
    obtain ⟨u, hu, ru⟩ := rv.get hx
    have hel : e < s.heap.objs.size := Heap.lt_size he
    have hil : it < s.heap.objs.size := by obtain ⟨_, q, _⟩ := hit; exact Heap.lt_size q
    have hlt : i < its.toArray.size := by
      have := (List.getElem?_eq_some_iff.mp hu).1
      simpa using this
    refine wpAny_pyNext_enum_itemD (Draws.tuple (prog := X.prog) (w := X.w) (A := X.A.in1) (I.ok.hd hc) it a hai its.toArray) he ⟨hit, p⟩ hlt hne (by simp [hne, Ne.symm hae]) fun x' h' tk hx' ho hst' hT hsz hk => ?_
    have ex : x' = u := by
      have : its.toArray[i]? = some u := by simpa using hu
      rw [this] at hx'
      exact (Option.some.inj hx').symm
    subst ex
    refine ⟨_, rfl, wpAny_letOwnedTupleGo_enum (s := { s with heap := h', toks := tk + 1 }) ho fun h'' he' sb => ?_⟩
    have hT2 : h''.get? s.heap.objs.size = some { cls := .type "tuple", data := .seq #[.int i tk, x'] } := (sb.2 _ (Nat.ne_of_gt hel)).trans hT
    have new : ObjOk X.prog X.w (upd H s.heap.objs.size (.tup [.int (i : Nat), x])) h'' s.heap.objs.size (.tup [.int (i : Nat), x]) :=
      ⟨by show 2 ≤ sizeLine; decide, [.int i tk, x'], .cons ⟨_, rfl⟩ (.cons ru .nil), ⟨_, hT2, rfl, _, rfl⟩⟩
    have I1 : Inv X pins σ (upd H s.heap.objs.size (.tup [.int (i : Nat), x])) { s with heap := h'', toks := tk + 1 } :=
      I.turnedNew (ch := [e, it]) (fun b ob hb q => (sb.2 b (fun z => hb (by simp [z]))).trans (hk b ob (fun z => hb (by simp [z])) (fun z => hb (by simp [z])) q)) hf (Nat.le_refl _) new
    refine ⟨.ref s.heap.objs.size, _, I1, rfl, ⟨_, x, rfl, I.hok.fresh (Nat.le_refl _), rfl, fun ys hy => by rw [I.tuple_inj hy hq]; exact hx⟩, ⟨⟨x', ?_⟩, hst'.1.at fun o q => (sb.2 it (Ne.symm hne)).trans q, hne, hai, hae⟩, fun b hb => ?_⟩
    · have e1 : ((i + 1 : Nat) : Int) = (i : Int) + 1 := by omega
      rw [e1]; exact he'
    · have hb' : b < s.heap.objs.size := by
        have e' : b = e ∨ b = it := by simpa using hb
        rcases e' with z | z
        · rw [z]; exact hel
        · rw [z]; exact hil
      rw [upd_ne (Nat.ne_of_lt hb')]
      exact (hf b hb).1
  done := by
    intro X hP hw hK hc i pins s σ H E I hf st hg
    subst hP hw hK
    obtain ⟨⟨old, he⟩, hit, hne, hai, hae⟩ := st
    obtain ⟨xs, hq, hx⟩ := hg
    obtain ⟨its, rv, p, hz⟩ := I.tuple hq
    obtain ⟨f0, f1, f2, f3, f4, f5⟩ := hf it (by simp)
    have hl := rv.length
    have D := Draws.tuple (prog := X.prog) (w := X.w) (A := X.A.in1) (I.ok.hd hc) it a hai its.toArray
    have e1 : i = its.toArray.size := by simp; omega
    refine wpAny_pyNext_enum_endD D he ⟨by rw [← e1]; exact hit, p⟩ fun h' eb => ⟨rfl, I.turned (t' := s.toks) (fun b o hb q => eb b o hb q) f0 f1 f3 f4 f5⟩
  self := fun A i s Q E st h => let ⟨⟨_, he⟩, _⟩ := st; wpAny_pyIter_enum he h
def iEnumT (K : PySem.W.Frag) (ta : TA) : TI := fun σ H R => ta σ H fun vs H1 => ∃ a xs, vs = [.ref a] ∧ SqT K H1 a xs ∧ R (IteT K a) H1
theorem pi_enumT {X : Cx} {e : Expr} {ta : TA} {p pos tpos : Pos} {elts : List Expr} {kk : Nat} (hg : Gl X "enumerate") (hm : X.mg "enumerate" = none) (ha : PA X [e] ta) (hs : starEach [e] X.env = [(false, eval e X.env)] := by rfl) :
    PI X (.Tuple elts kk tpos) (.Call (.Name "enumerate" p) [e] [] pos) (iEnumT X.K ta) := by
  refine ⟨fun pins s σ H R I h => ?_⟩
  refine Call_ (ld_blt I hg hm boot_enumerate (PyProof.Rows.callWith_type1 (thn (ha.run pos pins s σ H _ I h) fun us s1 ⟨vs, H1, I1, r1, q1⟩ => ?_) hs rfl))
  obtain ⟨a, xs, ex, hq, q⟩ := q1
  subst ex
  cases r1 with
  | cons r rr =>
    cases rr
    cases r
    obtain ⟨its, rv, p', hz⟩ := I1.tuple hq
    have hal : a < s1.heap.objs.size := p'.lt
    refine call_enumerate_tu p' fun h' he hit hsz hk => wpAny_pyIter_enum he ?_
    have I2 : Inv X pins σ H1 { s1 with heap := h' } := I1.kept (t' := s1.toks) hk
    refine ⟨s1.heap.objs.size + 1, [s1.heap.objs.size + 1, s1.heap.objs.size], _, _, H1, rfl, I2, turn_enumT a (s1.heap.objs.size + 1) s1.heap.objs.size, ⟨⟨.none, he⟩, hit, Nat.succ_ne_self _, Nat.ne_of_lt hal, Nat.ne_of_lt (Nat.lt_succ_of_lt hal)⟩, fun b hb => ?_, q⟩
    have e' : b = s1.heap.objs.size + 1 ∨ b = s1.heap.objs.size := by simpa using hb
    have hle : s1.heap.objs.size ≤ b := by
      rcases e' with z | z
      · rw [z]; exact Nat.le_add_right _ _
      · rw [z]; exact Nat.le_refl _
    exact I1.fpOk hle (I1.hok.fresh hle)
end L2
namespace ML
open PySem L2
def enumD (ds : List D) : List D := ds.mapIdx fun i d => .tup [.int (i : Nat), d]
/-- enumerate: of a tuple, of a list -/
def it_enumerate (as : List D) (S : Sto) : R Itm := match as with
  | [.tup ds] => .ok ⟨enumD ds, fun _ => true⟩ S
  | [d] => match itSeq d S with
    | .ok it S1 => .ok ⟨enumD it.ds, it.gd⟩ S1
    | .bad => .bad
  | _ => .bad
section
variable {K : PySem.W.Frag} {mg : Str → Option Value} {ρ : Mp} {H : Hp}
theorem enumD_len (ds : List D) : (enumD ds).length = ds.length := by unfold enumD; simp
theorem enumD_get {ds : List D} {i : Nat} {d : D} (h : (enumD ds)[i]? = some d) : ∃ e, ds[i]? = some e ∧ d = .tup [.int (i : Nat), e] := by
  unfold enumD at h
  rw [List.getElem?_mapIdx] at h
  cases q : ds[i]? with
  | none => rw [q] at h; cases h
  | some e => rw [q] at h; exact ⟨e, rfl, (Option.some.inj h).symm⟩
theorem itOk_pair {J : It} {ds : List D} {gd : Sto → Bool}
    (hst : ∀ ρ1 H1 S1, Ext0 ρ H ρ1 H1 → Rep K mg ρ1 H1 S1 → gd S1 = true → J.stop ds.length H1)
    (hgo : ∀ ρ1 H1 S1, Ext0 ρ H ρ1 H1 → Rep K mg ρ1 H1 S1 → gd S1 = true → ∀ i d, ds[i]? = some d → J.go i H1 ∧ ∀ x H2, J.yld i H1 x H2 → ∃ T vs es, x = .ref T ∧ H1 T = none ∧ H2 = upd H1 T (.tup vs) ∧ d = .tup es ∧ RVs K mg ρ1 H1 es vs) : ItOk K mg ρ H J ⟨ds, gd⟩ := fun ρ1 H1 S1 e rp hg =>
  ⟨hst ρ1 H1 S1 e rp hg, fun i d hd => by
    obtain ⟨h1, h2⟩ := hgo ρ1 H1 S1 e rp hg i d hd
    refine ⟨h1, fun x H2 hy => ?_⟩
    obtain ⟨T, vs, es, rfl, hT, rfl, rfl, rv⟩ := h2 x H2 hy
    exact ⟨Ext.new hT, rp.new hT, .tup (TAt.new rp hT) (rv.ext (Ext.new hT))⟩⟩
theorem itOk_enumT {a : Addr} {ds : List D} {gd : Sto → Bool} (h : ∀ ρ1 H1 S1, Ext0 ρ H ρ1 H1 → Rep K mg ρ1 H1 S1 → gd S1 = true → ∃ xs, SqT K H1 a xs ∧ RVs K mg ρ1 H1 ds xs) : ItOk K mg ρ H (IteT K a) ⟨enumD ds, gd⟩ :=
  itOk_pair (fun ρ1 H1 S1 e rp hg => let ⟨xs, h1, r⟩ := h ρ1 H1 S1 e rp hg; ⟨xs, h1, by rw [enumD_len, r.length]⟩) fun ρ1 H1 S1 e rp hg i d hd => by
    obtain ⟨xs, h1, r⟩ := h ρ1 H1 S1 e rp hg
    obtain ⟨d', hd', rfl⟩ := enumD_get hd
    obtain ⟨v, hv, rv⟩ := r.getD hd'
    refine ⟨⟨xs, v, h1, hv⟩, fun x H2 hy => ?_⟩
    obtain ⟨T, x', rfl, hT, rfl, hall⟩ := hy
    have := hall xs h1
    rw [hv] at this
    cases this
    exact ⟨T, _, _, rfl, hT, rfl, rfl, .cons (.int _) (.cons rv .nil)⟩
theorem itOk_enumL {a : Addr} {ds : List D} {gd : Sto → Bool} (h : ∀ ρ1 H1 S1, Ext0 ρ H ρ1 H1 → Rep K mg ρ1 H1 S1 → gd S1 = true → ∃ xs, SqL K H1 a xs ∧ RVs K mg ρ1 H1 ds xs) : ItOk K mg ρ H (Ite K a) ⟨enumD ds, gd⟩ :=
  itOk_pair (fun ρ1 H1 S1 e rp hg => let ⟨xs, h1, r⟩ := h ρ1 H1 S1 e rp hg; ⟨xs, h1, by rw [enumD_len, r.length]; exact Nat.le_refl _⟩) fun ρ1 H1 S1 e rp hg i d hd => by
    obtain ⟨xs, h1, r⟩ := h ρ1 H1 S1 e rp hg
    obtain ⟨d', hd', rfl⟩ := enumD_get hd
    obtain ⟨v, hv, rv⟩ := r.getD hd'
    refine ⟨⟨xs, v, h1, hv⟩, fun x H2 hy => ?_⟩
    obtain ⟨T, x', rfl, hT, rfl, hall⟩ := hy
    have := hall xs h1
    rw [hv] at this
    cases this
    exact ⟨T, _, _, rfl, hT, rfl, rfl, .cons (.int _) (.cons rv .nil)⟩
end
section
variable {X : Cx} {e : Expr} {as : AM} {pos tpos : Pos} {elts : List Expr} {kk : Nat}
/-- what is walked in one of two ways -/
theorem gi_or {tg iter : Expr} {m : IM} {t t' : TI} (h : PI X tg iter t) (h' : PI X tg iter t') (hm : ∀ σ H Q, rdI X.K X.mg m σ H Q → t σ H Q ∨ t' σ H Q) : GI X tg iter m := ⟨fun pins s σ H Q I q => by
  rcases hm σ H Q q with q | q
  · exact h.run pins s σ H Q I q
  · exact h'.run pins s σ H Q I q⟩
/-- the lists' items as they are walked -/
theorem lst_stays {K : PySem.W.Frag} {mg : Str → Option Value} {ρ : Mp} {H : Hp} {S S' : Sto} {d : D} {v : V} {it : Itm} (rp : Rep K mg ρ H S) (r : RV K mg ρ H d v) (h : itSeq d S = .ok it S') :
    S' = S ∧ ∃ a xs, v = .ref a ∧ SqL K H a xs ∧ ∀ ρ1 H1 S1, Ext0 ρ H ρ1 H1 → Rep K mg ρ1 H1 S1 → it.gd S1 = true → ∃ xs, SqL K H1 a xs ∧ RVs K mg ρ1 H1 it.ds xs := by
  unfold itSeq at h
  split at h
  · cases h
    cases r with
    | fzl t r => exact ⟨rfl, _, _, rfl, .of t.1, fun ρ1 H1 S1 e _ _ => ⟨_, .of (t.ext e).1, r.ext0 e⟩⟩
  · cases h
    cases r with
    | kl t r => exact ⟨rfl, _, _, rfl, t.sq, fun ρ1 H1 S1 e _ _ => ⟨_, (t.ext e).sq, r.ext0 e⟩⟩
  · split at h
    · next ds q =>
      cases h
      cases r with
      | loc ha =>
        obtain ⟨u, hu, ro⟩ := rp.obj ha q
        cases ro with
        | lst r =>
          refine ⟨rfl, _, _, rfl, .of hu, fun ρ1 H1 S1 e rp1 hg => ?_⟩
          have hg : gdOf _ ds S1 = true := hg
          unfold gdOf at hg
          split at hg
          · next es q1 =>
            have e1 := D.eqs_of hg
            subst e1
            obtain ⟨u, hu, ro⟩ := rp1.obj (pre_get e.pre ha) q1
            cases ro with
            | lst r => exact ⟨_, .of hu, r⟩
          · cases hg
    · cases h
  · cases h
theorem gi_enumerate {p : Pos} (hg : Gl X "enumerate") (hm : X.mg "enumerate" = none) (ha : GA X [e] as) (hs : starEach [e] X.env = [(false, eval e X.env)] := by rfl) : GI X (.Tuple elts kk tpos) (.Call (.Name "enumerate" p) [e] [] pos) (mItA it_enumerate as) :=
  gi_or (pi_enumT hg hm ha hs) (pi_enum hg hm ha hs) fun σ H Q ⟨ρ, env, S, rp, re, p⟩ => by
    cases q0 : as env S with
    | bad => unfold mItA at p; rw [q0] at p; exact p.elim
    | ok ds0 S0 =>
      have p1 : Post X.K X.mg ρ H (it_enumerate ds0 S0) (fun ρ' H' it J => ItOk X.K X.mg ρ' H' J it) Q := by unfold mItA at p; rw [q0] at p; exact p
      unfold it_enumerate at p1
      split at p1
      · left
        next ds =>
        refine ⟨ρ, env, S, rp, re, ?_⟩
        rw [q0]
        intro ρ1 H1 vs e1 rp1 rv1
        obtain ⟨v, rfl, r1⟩ := rv1.one
        obtain ⟨a, xs, rfl, h1, r2⟩ := tup_at r1
        exact ⟨a, xs, rfl, h1.sq, Post.ok (Post.ext e1 p1) rp1 (itOk_enumT fun ρ2 H2 S2 e2 _ _ => ⟨xs, (h1.ext e2).sq, r2.ext0 e2⟩)⟩
      · right
        next d _ =>
        refine ⟨ρ, env, S, rp, re, ?_⟩
        rw [q0]
        intro ρ1 H1 vs e1 rp1 rv1
        obtain ⟨v, rfl, r1⟩ := rv1.one
        cases q2 : itSeq d S0 with
        | bad => rw [q2] at p1; exact p1.elim
        | ok it S2 =>
          rw [q2] at p1
          obtain ⟨rfl, a, xs, rfl, h1, hst⟩ := lst_stays rp1 r1 q2
          exact ⟨a, xs, rfl, h1, Post.ok (Post.ext e1 p1) rp1 (itOk_enumL hst)⟩
      · exact p1.elim
end
/-! ### slices, x += e, what is never evaluated, and small words -/
def mBad : EM := fun _ _ => .bad
abbrev PM := Env → Sto → R (Option Int)
def rdP (K : PySem.W.Frag) (mg : Str → Option Value) (m : PM) : TO := fun σ H Q => ∃ ρ env S, Rep K mg ρ H S ∧ REnv K mg ρ H env σ ∧ Post K mg ρ H (m env S) (fun _ _ a b => a = b) Q
abbrev GP (X : Cx) (e : Option Expr) (m : PM) : Prop := PO X e (rdP X.K X.mg m)
def mpNone : PM := fun _ S => .ok none S
def mpSome (e : EM) : PM := fun env S => (e env S).bind fun d S1 => match d with
  | .int i => .ok (some i) S1
  | _ => .bad
def cutL {α : Type} (xs : List α) (lo hi : Option Int) : List α := (xs.drop (HT.sIx xs.length 0 lo)).take (HT.sIx xs.length xs.length hi - HT.sIx xs.length 0 lo)
def m_cut (x : D) (lo hi : Option Int) (S : Sto) : R D := match x with
  | .tup a => .ok (.tup (cutL a lo hi)) S
  | x => match lstOf S x with
    | some a => .ok (.fzl (cutL a lo hi)) S
    | none => .bad
def mSl (e : EM) (lo hi : PM) : EM := fun env S => (e env S).bind fun x S1 => (lo env S1).bind fun l S2 => (hi env S2).bind fun u S3 => m_cut x l u S3
def m_iadd : D → D → Sto → R D
  | .int i, .int j, S => .ok (.int (i + j)) S
  | .loc n, y, S => match S[n]?, catOf S y with
    | some (.lst a), some b => if a.length + b.length ≤ sizeLine then .ok (.loc n) (S.set n (.lst (a ++ b))) else .bad
    | _, _ => .bad
  | _, _, _ => .bad
section
variable {X : Cx} {e : Expr} {me : EM} {pos p2 : Pos}
theorem ge_never : GE X e mBad := ⟨fun pins s σ H Q I ⟨ρ, env, S, rp, re, p⟩ => p.elim⟩
theorem gp_none : GP X none mpNone := ⟨fun pins s σ H Q I ⟨ρ, env, S, rp, re, p⟩ => po_none.run pins s σ H Q I (Post.ok p rp rfl)⟩
theorem gp_some (h : GE X e me) : GP X (some e) (mpSome me) := ⟨fun pins s σ H Q I ⟨ρ, env, S, rp, re, p⟩ => (po_some h).run pins s σ H Q I ⟨ρ, env, S, rp, re, Post.bindB p fun v H1 ρ1 S1 d e1 rp1 rv1 p1 => by
  cases rv1 with
  | int i => exact ⟨i, rfl, Post.ok p1 rp1 rfl⟩
  | _ => exact p1.elim⟩⟩
theorem RVs.cutL {K : PySem.W.Frag} {mg : Str → Option Value} {ρ : Mp} {H : Hp} {ds : List D} {vs : List V} (r : RVs K mg ρ H ds vs) (lo hi : Option Int) : RVs K mg ρ H (ML.cutL ds lo hi) (cutV vs lo hi) := by
  unfold ML.cutL cutV
  rw [r.length]
  exact (r.drop _).take _
theorem cut_whole {α : Type} {xs : List α} {lo hi : Option Int} (h : HT.sIx xs.length 0 lo = 0 ∧ HT.sIx xs.length xs.length hi = xs.length) : cutL xs lo hi = xs := by
  unfold cutL
  rw [h.1, h.2]
  simp
theorem ge_slice {lo hi : Option Expr} {ml mh : PM} (he : GE X e me) (hl : GP X lo ml) (hu : GP X hi mh) : GE X (.Subscript e (.Slice lo hi none p2) pos) (mSl me ml mh) := ⟨fun pins s σ H Q I h => by
  refine (pe_slice (SlR.or sl_tupA sl_list) he hl hu).run pins s σ H Q I ?_
  obtain ⟨ρ, env, S, rp, re, p⟩ := h
  refine ⟨ρ, env, S, rp, re, Post.bindB p fun x H1 ρ1 S1 d e1 rp1 rv1 p1 => ?_⟩
  refine ⟨ρ1, env, S1, rp1, re.ext e1, Post.bindB p1 fun l H2 ρ2 S2 l' e2 rp2 rl p2 => ?_⟩
  refine ⟨ρ2, env, S2, rp2, (re.ext e1).ext e2, Post.bindB p2 fun u H3 ρ3 S3 u' e3 rp3 ru p3 => ?_⟩
  subst rl ru
  have rv3 := (rv1.ext e2).ext e3
  unfold m_cut at p3
  split at p3
  · obtain ⟨a, xs, rfl, h1, r1⟩ := tup_at rv3
    refine .inl ⟨a, xs, rfl, h1.sq, fun w => ?_, fun _ q hq => p3 ρ3 _ _ (Ext.new hq) (rp3.new hq) (.tup (TAt.new rp3 hq) ((r1.cutL _ _).ext (Ext.new hq)))⟩
    rw [← r1.length] at w
    rw [cut_whole w] at p3
    exact p3.ok rp3 (.tup h1 r1)
  · split at p3
    · next a q =>
      obtain ⟨l, xs, rfl, h1, r1⟩ := lst_at rp3 rv3 q
      exact .inr ⟨l, xs, rfl, h1, fun q hq => p3 ρ3 _ _ (Ext.new hq) (rp3.new hq) (.fzl (FAt.new rp3 hq) ((r1.cutL _ _).ext (Ext.new hq)))⟩
    · exact p3.elim⟩
theorem go_iadd : GO X (inplaceOp .Add) m_iadd := fun pins s σ H x y v u Q I rx ry ⟨ρ, S, dx, dy, rp, hx, hy, p⟩ => by
  unfold m_iadd at p
  split at p
  · cases hx; cases hy
    exact iop_add pins s σ H _ _ v u Q I rx ry ⟨_, _, rfl, rfl, p.ok rp (.int _)⟩
  · split at p
    · next a b q1 q2 =>
      split at p
      · next hz =>
        obtain ⟨m, ys, rfl, h2, r2⟩ := cat_at rp hy q2
        cases hx with
        | loc ha =>
          obtain ⟨w, hw, ro⟩ := rp.obj ha q1
          cases ro with
          | lst r1 => exact iop_ext pins s σ H _ _ v u Q I rx ry ⟨_, m, _, ys, rfl, rfl, hw, h2, by rw [← r1.length, ← r2.length]; exact hz, p ρ _ _ (Ext.put rp (List.mem_of_getElem? ha)) (rp.put ha (.lst (r1.append r2))) (.loc ha)⟩
      · exact p.elim
    · exact p.elim
  · exact p.elim
end
theorem hu65 {A : Around} {k : Nat} (hr : Room k A) : A.units + 65 < cLine := by
  have := hr.un
  omega
def scp (l : List (String × NameKind)) (m : List (String × String)) : Scope := { kind := .function, names := l.map fun p => (Str.ofString p.1, p.2), isGenerator := false, isCoroutine := false, more := m.map fun p => (Str.ofString p.1, Const.str (Str.ofString p.2)) }
end ML
/-! Plain reasoning about what the plain functions give. -/
namespace ML
open PySem L2
theorem bind_ok {α β : Type} (a : α) (S : Sto) (k : α → Sto → R β) : (R.ok a S).bind k = k a S := rfl
theorem bind_bad {α β : Type} (k : α → Sto → R β) : (R.bad : R α).bind k = .bad := rfl
theorem bind_assoc {α β γ : Type} (r : R α) (k : α → Sto → R β) (k' : β → Sto → R γ) : (r.bind k).bind k' = r.bind fun a S => (k a S).bind k' := by cases r <;> rfl
@[irreducible] def Run {α : Type} (r : R α) (Q : α → Sto → Prop) : Prop := match r with
  | .ok a S => Q a S
  | .bad => False
section
variable {α β : Type}
@[simp] theorem e_run_ok (a : α) (S : Sto) (Q : α → Sto → Prop) : Run (R.ok a S) Q = Q a S := by unfold Run; rfl
@[simp] theorem e_run_bad (Q : α → Sto → Prop) : Run (R.bad : R α) Q = False := by unfold Run; rfl
theorem Run.ok {a : α} {S : Sto} {Q : α → Sto → Prop} (h : Q a S) : Run (R.ok a S) Q := by rw [e_run_ok]; exact h
theorem Run.bind {r : R α} {k : α → Sto → R β} {Q : β → Sto → Prop} (h : Run r fun a S => Run (k a S) Q) : Run (r.bind k) Q := by
  cases r with
  | ok a S => rw [e_run_ok] at h; exact h
  | bad => rw [e_run_bad] at h; exact h.elim
theorem Run.mono {r : R α} {Q Q' : α → Sto → Prop} (h : Run r Q) (m : ∀ a S, Q a S → Q' a S) : Run r Q' := by
  cases r with
  | ok a S => rw [e_run_ok] at h ⊢; exact m a S h
  | bad => rw [e_run_bad] at h; exact h.elim
theorem Run.eq {r : R α} {a : α} {S : Sto} {Q : α → Sto → Prop} (e : r = .ok a S) (h : Q a S) : Run r Q := by rw [e, e_run_ok]; exact h
theorem Run.out {r : R α} {Q : α → Sto → Prop} (h : Run r Q) : ∃ a S, r = .ok a S ∧ Q a S := by
  cases r with
  | ok a S => rw [e_run_ok] at h; exact ⟨a, S, rfl, h⟩
  | bad => rw [e_run_bad] at h; exact h.elim
end
/-- a comprehension, by an invariant -/
theorem run_lcAux {g : TgM} {t : TM} {e : EM} {gd : Sto → Bool} {env : Env} {vs : List Nat} {ds : List D} {Q : List D → Sto → Prop} (I : Nat → List D → Sto → Prop) (hn : ds.length ≤ sizeLine)
    (step : ∀ i d acc S, ds[i]? = some d → I i acc S → gd S = true ∧ Run (g d (wipeE env vs) S) fun env1 S1 => Run (t env1 S1) fun b S2 => if b = true then Run (e env1 S2) fun y S3 => I (i + 1) (acc ++ [y]) S3 else I (i + 1) acc S2)
    (fin : ∀ acc S, I ds.length acc S → gd S = true ∧ Q acc S) : ∀ (k i : Nat) (acc : List D) (S : Sto), i + k = ds.length → acc.length ≤ i → I i acc S → Run (lcD g t e gd env vs (ds.drop i) acc S) Q := by
  intro k
  induction k with
  | zero =>
    intro i acc S hi _ h
    have e : i = ds.length := by omega
    subst e
    rw [List.drop_of_length_le (Nat.le_refl _)]
    obtain ⟨h1, h2⟩ := fin acc S h
    unfold lcD
    rw [if_pos h1]
    exact .ok h2
  | succ k ih =>
    intro i acc S hi hl h
    have hlt : i < ds.length := by omega
    rw [List.drop_eq_getElem_cons hlt]
    obtain ⟨h1, h2⟩ := step i _ acc S (List.getElem?_eq_getElem hlt) h
    unfold lcD
    rw [if_pos h1]
    refine Run.bind (h2.mono fun env1 S1 h3 => Run.bind (h3.mono fun b S2 h4 => ?_))
    cases b with
    | true =>
      have h5 : Run (e env1 S2) fun y S3 => I (i + 1) (acc ++ [y]) S3 := h4
      refine Run.bind (h5.mono fun y S3 h6 => ?_)
      rw [if_pos (show acc.length < sizeLine by omega)]
      exact ih (i + 1) _ _ (by omega) (by rw [List.length_append]; simp; omega) h6
    | false => exact ih (i + 1) acc S2 (by omega) (by omega) h4
theorem run_lc {g : TgM} {t : TM} {e : EM} {gd : Sto → Bool} {env : Env} {vs : List Nat} {ds : List D} {S : Sto} {Q : List D → Sto → Prop} (I : Nat → List D → Sto → Prop) (hn : ds.length ≤ sizeLine) (h0 : I 0 [] S)
    (step : ∀ i d acc S, ds[i]? = some d → I i acc S → gd S = true ∧ Run (g d (wipeE env vs) S) fun env1 S1 => Run (t env1 S1) fun b S2 => if b = true then Run (e env1 S2) fun y S3 => I (i + 1) (acc ++ [y]) S3 else I (i + 1) acc S2)
    (fin : ∀ acc S, I ds.length acc S → gd S = true ∧ Q acc S) : Run (lcD g t e gd env vs ds [] S) Q := by
  have := run_lcAux I hn step fin ds.length 0 [] S (by omega) (Nat.le_refl _) h0
  rwa [List.drop_zero] at this
/-- a comprehension that changes nothing -/
theorem lc_pure {g : TgM} {t : TM} {e : EM} {env : Env} {vs : List Nat} {S : Sto} (E : D → Env) (p : D → Bool) (f : D → D) : ∀ (ds acc : List D), acc.length + ds.length ≤ sizeLine →
    (∀ d, d ∈ ds → g d (wipeE env vs) S = .ok (E d) S ∧ t (E d) S = .ok (p d) S ∧ (p d = true → e (E d) S = .ok (f d) S)) →
    lcD g t e (fun _ => true) env vs ds acc S = .ok (acc ++ (ds.filter p).map f) S
  | [], acc, _, _ => by simp [lcD]
  | d :: ds, acc, hz, h => by
    obtain ⟨h1, h2, h3⟩ := h d (List.mem_cons_self ..)
    rw [List.length_cons] at hz
    unfold lcD
    rw [if_pos rfl, h1, bind_ok, h2, bind_ok]
    cases q : p d with
    | true =>
      rw [if_pos rfl, h3 q, bind_ok, if_pos (by omega), lc_pure E p f ds (acc ++ [f d]) (by rw [List.length_append]; simp; omega) fun x hx => h x (List.mem_cons_of_mem _ hx)]
      simp [q]
    | false =>
      rw [if_neg Bool.false_ne_true, lc_pure E p f ds acc (by omega) fun x hx => h x (List.mem_cons_of_mem _ hx)]
      simp [q]
/-- a for loop, by an invariant -/
theorem run_forAux {g : TgM} {body : SM} {gd : Sto → Bool} {ds : List D} {Q : Fl → Sto → Prop} (I : Nat → Env → Sto → Prop)
    (step : ∀ i d env S, ds[i]? = some d → I i env S → gd S = true ∧ Run (g d env S) fun env1 S1 => Run (body env1 S1) fun f S2 => match f with
      | .nx e => I (i + 1) e S2
      | .ct e => I (i + 1) e S2
      | .bk e => Q (.nx e) S2
      | .rt r => Q (.rt r) S2)
    (fin : ∀ env S, I ds.length env S → gd S = true ∧ Q (.nx env) S) : ∀ (k i : Nat) (env : Env) (S : Sto), i + k = ds.length → I i env S → Run (forD g body gd (ds.drop i) env S) Q := by
  intro k
  induction k with
  | zero =>
    intro i env S hi h
    have e : i = ds.length := by omega
    subst e
    rw [List.drop_of_length_le (Nat.le_refl _)]
    obtain ⟨h1, h2⟩ := fin env S h
    unfold forD
    rw [if_pos h1]
    exact .ok h2
  | succ k ih =>
    intro i env S hi h
    have hlt : i < ds.length := by omega
    rw [List.drop_eq_getElem_cons hlt]
    obtain ⟨h1, h2⟩ := step i _ env S (List.getElem?_eq_getElem hlt) h
    unfold forD
    rw [if_pos h1]
    refine Run.bind (h2.mono fun env1 S1 h3 => Run.bind (h3.mono fun f S2 h4 => ?_))
    cases f with
    | nx e => exact ih (i + 1) _ _ (by omega) h4
    | ct e => exact ih (i + 1) _ _ (by omega) h4
    | bk e => exact .ok h4
    | rt r => exact .ok h4
theorem run_for {g : TgM} {body : SM} {gd : Sto → Bool} {ds : List D} {env : Env} {S : Sto} {Q : Fl → Sto → Prop} (I : Nat → Env → Sto → Prop) (h0 : I 0 env S)
    (step : ∀ i d env S, ds[i]? = some d → I i env S → gd S = true ∧ Run (g d env S) fun env1 S1 => Run (body env1 S1) fun f S2 => match f with
      | .nx e => I (i + 1) e S2
      | .ct e => I (i + 1) e S2
      | .bk e => Q (.nx e) S2
      | .rt r => Q (.rt r) S2)
    (fin : ∀ env S, I ds.length env S → gd S = true ∧ Q (.nx env) S) : Run (forD g body gd ds env S) Q := by
  have := run_forAux I step fin ds.length 0 env S (by omega) h0
  rwa [List.drop_zero] at this
/-! ### small facts -/
theorem rangeD_len (lo : Int) (n : Nat) : (rangeD lo n).length = n := by unfold rangeD; simp
theorem rangeD_get {lo : Int} {n i : Nat} {d : D} (h : (rangeD lo n)[i]? = some d) : i < n ∧ d = .int (lo + (i : Nat)) := by
  have hi : i < n := by
    have := (List.getElem?_eq_some_iff.mp h).1
    rwa [rangeD_len] at this
  refine ⟨hi, ?_⟩
  have : (rangeD lo n)[i]? = some (.int (lo + (i : Nat))) := by unfold rangeD; simp [hi]
  rw [h] at this
  exact Option.some.inj this
theorem mem_rangeD {lo : Int} {n : Nat} {d : D} : d ∈ rangeD lo n ↔ ∃ i : Nat, i < n ∧ d = .int (lo + (i : Nat)) := by
  unfold rangeD
  simp only [List.mem_map, List.mem_range]
  exact ⟨fun ⟨i, h, e⟩ => ⟨i, h, e.symm⟩, fun ⟨i, h, e⟩ => ⟨i, h, e.symm⟩⟩
theorem intsOf_map (ns : List Int) : intsOf (ns.map D.int) = some ns := by
  induction ns with
  | nil => rfl
  | cons n ns ih => simp [intsOf, ih]
theorem blsOf_map (ns : List Bool) : blsOf (ns.map D.bl) = some ns := by
  induction ns with
  | nil => rfl
  | cons n ns ih => simp [blsOf, ih]
/-! no place of the store in it -/
mutual
def D.pl : D → Bool
  | .tup ds => D.pls ds
  | .fzl ds => D.pls ds
  | .kl ds => D.pls ds
  | .loc _ => false
  | _ => true
def D.pls : List D → Bool
  | [] => true
  | d :: ds => D.pl d && D.pls ds
end
mutual
theorem cl_of_pl (n : Nat) : ∀ d : D, D.pl d = true → D.cl n d = true
  | .non, _ => rfl
  | .bl _, _ => rfl
  | .int _, _ => rfl
  | .str _, _ => rfl
  | .ty _, _ => rfl
  | .glb _, _ => rfl
  | .tup ds, h => by simpa [D.cl] using cls_of_pls n ds (by simpa [D.pl] using h)
  | .fzl ds, h => by simpa [D.cl] using cls_of_pls n ds (by simpa [D.pl] using h)
  | .kl ds, h => by simpa [D.cl] using cls_of_pls n ds (by simpa [D.pl] using h)
  | .loc _, h => by simp [D.pl] at h
theorem cls_of_pls (n : Nat) : ∀ ds : List D, D.pls ds = true → D.cls n ds = true
  | [], _ => rfl
  | d :: ds, h => by
    simp [D.pls] at h
    simp [D.cls, cl_of_pl n d h.1, cls_of_pls n ds h.2]
end
theorem pls_iff {ds : List D} : D.pls ds = true ↔ ∀ d ∈ ds, D.pl d = true := by
  induction ds with
  | nil => simp [D.pls]
  | cons d ds ih => simp [D.pls, ih]
end ML
namespace ML
open PySem L2
/-! ### the operators on what is known -/
section
variable {S : Sto} {i j : Int} {a b : List D} {x y d : D} {n k : Nat} {p q : Bool} {s t : Str}
@[simp] theorem e_bind_ok {α β : Type} (a : α) (S : Sto) (k : α → Sto → R β) : (R.ok a S).bind k = k a S := (rfl)
@[simp] theorem e_bind_bad {α β : Type} (k : α → Sto → R β) : (R.bad : R α).bind k = .bad := (rfl)
@[simp] theorem e_add : m_add (.int i) (.int j) S = .ok (.int (i + j)) S := (rfl)
@[simp] theorem e_sub : m_sub (.int i) (.int j) S = .ok (.int (i - j)) S := (rfl)
theorem e_mul (h : CMul i j) : m_mul (.int i) (.int j) S = .ok (.int (i * j)) S := by
  show (if CMul i j then _ else _) = _
  rw [if_pos h]
theorem e_fdiv (h : 0 < j) (h2 : j < 1073741824) : m_fdiv (.int i) (.int j) S = .ok (.int (i / j)) S := by
  show (if j ≠ 0 ∧ j.natAbs < 1073741824 then _ else _) = _
  rw [if_pos ⟨by omega, by omega⟩, Int.fdiv_eq_ediv_of_nonneg _ (Int.le_of_lt h)]
theorem e_mod (h : 0 < j) : m_mod (.int i) (.int j) S = .ok (.int (i % j)) S := by
  show (if j ≠ 0 then _ else _) = _
  rw [if_pos (by omega), Int.fmod_eq_emod_of_nonneg _ (Int.le_of_lt h)]
@[simp] theorem e_gt : m_gt (.int i) (.int j) S = .ok (.bl (decide (j < i))) S := (rfl)
@[simp] theorem e_ge : m_ge (.int i) (.int j) S = .ok (.bl (decide (j ≤ i))) S := (rfl)
@[simp] theorem e_le : m_le (.int i) (.int j) S = .ok (.bl (decide (i ≤ j))) S := (rfl)
@[simp] theorem e_lt : m_lt (.int i) (.int j) S = .ok (.bl (decide (i < j))) S := (rfl)
@[simp] theorem e_isB : isB (.bl p) S = .ok p S := (rfl)
@[simp] theorem e_neg : m_neg (.int i) S = .ok (.int (-i)) S := (rfl)
@[simp] theorem e_int : m_int [.int i] S = .ok (.int i) S := (rfl)
@[simp] theorem e_abs : m_abs [.int i] S = .ok (.int (if i < 0 then -i else i)) S := (rfl)
@[simp] theorem e_lenT : m_len [.tup a] S = .ok (.int a.length) S := (rfl)
@[simp] theorem e_lenF : m_len [.fzl a] S = .ok (.int a.length) S := (rfl)
theorem e_lenL (h : S[n]? = some (.lst a)) : m_len [.loc n] S = .ok (.int a.length) S := by simp [m_len, lstOf, h]
theorem e_ixT (h : L2.atI a i = some d) : m_ix (.tup a) (.int i) S = .ok d S := by simp [m_ix, h]
theorem e_ixF (h : L2.atI a i = some d) : m_ix (.fzl a) (.int i) S = .ok d S := by simp [m_ix, lstOf, h]
theorem e_ixL (h0 : S[n]? = some (.lst a)) (h : L2.atI a i = some d) : m_ix (.loc n) (.int i) S = .ok d S := by simp [m_ix, lstOf, h0, h]
theorem e_setL (h0 : S[n]? = some (.lst a)) {k : Nat} (h : ixN a.length i = some k) : m_setL (.loc n) (.int i) x S = .ok () (S.set n (.lst (a.set k x))) := by simp [m_setL, h0, h]
theorem e_app (h0 : S[n]? = some (.lst a)) (h : a.length < sizeLine) : m_append (.loc n) [y] S = .ok .non (S.set n (.lst (a ++ [y]))) := by simp [m_append, h0, h]
theorem e_iaddL (h0 : S[n]? = some (.lst a)) (h : a.length + b.length ≤ sizeLine) : m_iadd (.loc n) (.fzl b) S = .ok (.loc n) (S.set n (.lst (a ++ b))) := by simp [m_iadd, h0, catOf, h]
@[simp] theorem e_iadd : m_iadd (.int i) (.int j) S = .ok (.int (i + j)) S := (rfl)
theorem e_addT (h : a.length + b.length ≤ sizeLine) : m_add (.tup a) (.tup b) S = .ok (.tup (a ++ b)) S := by simp [m_add, h]
theorem e_addF (h : a.length + b.length ≤ sizeLine) : m_add (.fzl a) (.fzl b) S = .ok (.fzl (a ++ b)) S := by simp [m_add, catOf, h]
@[simp] theorem e_tupT : m_tuple [.tup a] S = .ok (.tup a) S := (rfl)
@[simp] theorem e_tupF : m_tuple [.fzl a] S = .ok (.tup a) S := (rfl)
theorem e_tupL (h : S[n]? = some (.lst a)) : m_tuple [.loc n] S = .ok (.tup a) S := by simp [m_tuple, seqOf, lstOf, h]
@[simp] theorem e_listT : m_list [.tup a] S = .ok (.fzl a) S := (rfl)
@[simp] theorem e_listF : m_list [.fzl a] S = .ok (.fzl a) S := (rfl)
@[simp] theorem e_listK : m_list [.kl a] S = .ok (.fzl a) S := (rfl)
theorem e_sumF {ns : List Int} : m_sum [.fzl (ns.map D.int)] S = .ok (.int ns.sum) S := by simp [m_sum, intsL, lstOf, intsOf_map]
theorem e_sumT {ns : List Int} : m_sum [.tup (ns.map D.int)] S = .ok (.int ns.sum) S := by simp [m_sum, intsOf_map]
theorem e_allF {ns : List Bool} : m_all [.fzl (ns.map D.bl)] S = .ok (.bl (ns.all id)) S := by simp [m_all, lstOf, blsOf_map]
theorem e_countF {ns : List Int} : m_count (.fzl (ns.map D.int)) [.int i] S = .ok (.int (ns.count i : Nat)) S := by simp [m_count, intsL, lstOf, intsOf_map]
@[simp] theorem e_isNon : m_is x .non S = (match x with | .glb _ => .bad | x => .ok (.bl (isNon x)) S) := by cases x <;> rfl
@[simp] theorem e_isBl : m_is (.bl p) (.bl q) S = .ok (.bl (decide (p = q))) S := (rfl)
@[simp] theorem e_itT : itAny (.tup a) S = .ok ⟨a, fun _ => true⟩ S := (rfl)
@[simp] theorem e_itF : itAny (.fzl a) S = .ok ⟨a, fun _ => true⟩ S := (rfl)
theorem e_itL (h : S[n]? = some (.lst a)) : itAny (.loc n) S = .ok ⟨a, gdOf n a⟩ S := by simp [itAny, itSeq, h]
theorem e_r1 (h : smallI i) : itR1 [.int i] S = .ok ⟨rangeD 0 i.toNat, fun _ => true⟩ S := by simp [itR1, h]
theorem e_r2 (h : smallI i) (h2 : smallI j) : itR2 [.int i, .int j] S = .ok ⟨rangeD i (j - i).toNat, fun _ => true⟩ S := by simp [itR2, h, h2]
@[simp] theorem e_en : it_enumerate [.tup a] S = .ok ⟨enumD a, fun _ => true⟩ S := (rfl)
/-! the constructs, opened -/
@[simp] theorem o_expr (e : EM) (env : Env) : sExpr e env S = (e env S).bind fun _ S1 => .ok (.nx env) S1 := (rfl)
@[simp] theorem o_ret (e : EM) (env : Env) : sRet e env S = (e env S).bind fun d S1 => .ok (.rt d) S1 := (rfl)
@[simp] theorem o_if (c : TM) (a b : SM) (env : Env) : sIf c a b env S = (c env S).bind fun k S1 => if k = true then a env S1 else b env S1 := (rfl)
@[simp] theorem o_asg (e : EM) (g : TgM) (env : Env) : sAsg e g env S = (e env S).bind fun d S1 => (g d env S1).bind fun env1 S2 => .ok (.nx env1) S2 := (rfl)
@[simp] theorem o_par (is : List Nat) (a : AM) (env : Env) : sPar is a env S = (a env S).bind fun ds S1 => if ds.length = is.length then .ok (.nx (setAll is ds env)) S1 else .bad := (rfl)
theorem o_for (m : IM) (g : TgM) (b : SM) (env : Env) : sFor m g b env S = (m env S).bind fun it S1 => forD g b it.gd it.ds env S1 := (rfl)
theorem o_lc (m : IM) (g : TgM) (t : TM) (e : EM) (vs : List Nat) (env : Env) : mLc m g t e vs env S = (m env S).bind fun it S1 => (lcD g t e it.gd env vs it.ds [] S1).bind fun acc S2 => .ok (.fzl acc) S2 := (rfl)
theorem o_seq (a b : SM) (env : Env) : sSeq a b env S = (a env S).bind fun f S1 => match f with
  | .nx e => b e S1
  | f => .ok f S1 := (rfl)
@[simp] theorem o_op (f : D → D → Sto → R D) (a b : EM) (env : Env) : mOp f a b env S = (a env S).bind fun x S1 => (b env S1).bind fun y S2 => f x y S2 := (rfl)
@[simp] theorem o_un (f : D → Sto → R D) (a : EM) (env : Env) : mUn f a env S = (a env S).bind fun x S1 => f x S1 := (rfl)
@[simp] theorem o_T (a : EM) (env : Env) : mT a env S = (a env S).bind isB := (rfl)
@[simp] theorem o_not (a : TM) (env : Env) : mNot a env S = (a env S).bind fun c S1 => .ok (!c) S1 := (rfl)
@[simp] theorem o_and (a b : TM) (env : Env) : mAnd a b env S = (a env S).bind fun c S1 => if c = true then b env S1 else .ok false S1 := (rfl)
@[simp] theorem o_or (a b : TM) (env : Env) : mOr a b env S = (a env S).bind fun c S1 => if c = true then .ok true S1 else b env S1 := (rfl)
@[simp] theorem o_ifE (c : TM) (a b : EM) (env : Env) : mIfE c a b env S = (c env S).bind fun k S1 => if k = true then a env S1 else b env S1 := (rfl)
@[simp] theorem o_andV (a b : EM) (env : Env) : mAndV a b env S = (a env S).bind fun x S1 => (isB x S1).bind fun c S2 => if c = true then b env S2 else .ok (.bl false) S2 := (rfl)
@[simp] theorem o_orV (a b : EM) (env : Env) : mOrV a b env S = (a env S).bind fun x S1 => (isB x S1).bind fun c S2 => if c = true then .ok (.bl true) S2 else b env S2 := (rfl)
@[simp] theorem o_notV (a : EM) (env : Env) : mNotV a env S = (a env S).bind fun x S1 => (isB x S1).bind fun c S2 => .ok (.bl (!c)) S2 := (rfl)
@[simp] theorem o_chain (f g : D → D → Sto → R D) (a b c : EM) (env : Env) : mChain f g a b c env S = (a env S).bind fun x S1 => (b env S1).bind fun y S2 => (f x y S2).bind fun z S3 => (isB z S3).bind fun k S4 =>
  if k = true then (c env S4).bind fun w S5 => g y w S5 else .ok (.bl false) S4 := (rfl)
@[simp] theorem o_nil (env : Env) : mNil env S = .ok [] S := (rfl)
@[simp] theorem o_cons (a : EM) (r : AM) (env : Env) : mCons a r env S = (a env S).bind fun d S1 => (r env S1).bind fun ds S2 => .ok (d :: ds) S2 := (rfl)
@[simp] theorem o_call (f : List D → Sto → R D) (a : AM) (env : Env) : mCall f a env S = (a env S).bind fun ds S1 => f ds S1 := (rfl)
@[simp] theorem o_fn (n : Nat) (f : List D → Sto → R D) (a : AM) (env : Env) : mFn n f a env S = (a env S).bind fun ds S1 => if ds.length = n then f ds S1 else .bad := (rfl)
@[simp] theorem o_tup (a : AM) (env : Env) : mTup a env S = (a env S).bind fun ds S1 => if ds.length ≤ sizeLine then .ok (.tup ds) S1 else .bad := (rfl)
@[simp] theorem o_lst (a : AM) (env : Env) : mLst a env S = (a env S).bind fun ds S1 => if ds.length ≤ sizeLine then .ok (.fzl ds) S1 else .bad := (rfl)
@[simp] theorem o_lstM (a : AM) (env : Env) : mLstM a env S = (a env S).bind fun ds S1 => if ds.length ≤ sizeLine then newL ds S1 else .bad := (rfl)
@[simp] theorem o_C (env : Env) : mC d env S = .ok d S := (rfl)
@[simp] theorem o_var0 (env : Env) : mVar 0 (some d :: env) S = .ok d S := (rfl)
@[simp] theorem o_varS (e : Option D) (env : Env) : mVar (n + 1) (e :: env) S = mVar n env S := by simp [mVar]
@[simp] theorem o_gN (env : Env) : gN n d env S = .ok (env.set n (some d)) S := (rfl)
@[simp] theorem o_gSub (o i : EM) (f : SetM) (env : Env) : gSubM o i f d env S = (o env S).bind fun x S1 => (i env S1).bind fun j S2 => (f x j d S2).bind fun _ S3 => .ok env S3 := (rfl)
@[simp] theorem o_meth (T : String) (f : D → List D → Sto → R D) (o : EM) (a : AM) (env : Env) : mMeth T f o a env S = (o env S).bind fun x S1 => if tyD S1 T x = true then (a env S1).bind fun ds S2 => f x ds S2 else .bad := (rfl)
@[simp] theorem o_it (f : D → Sto → R Itm) (e : EM) (env : Env) : mIt f e env S = (e env S).bind f := (rfl)
@[simp] theorem o_itA (f : List D → Sto → R Itm) (e : AM) (env : Env) : mItA f e env S = (e env S).bind f := (rfl)
@[simp] theorem o_sl (e : EM) (lo hi : PM) (env : Env) : mSl e lo hi env S = (e env S).bind fun x S1 => (lo env S1).bind fun l S2 => (hi env S2).bind fun u S3 => m_cut x l u S3 := (rfl)
@[simp] theorem o_pN (env : Env) : mpNone env S = .ok none S := (rfl)
@[simp] theorem o_pS (e : EM) (env : Env) : mpSome e env S = (e env S).bind fun d S1 => match d with
  | .int i => .ok (some i) S1
  | _ => .bad := (rfl)
@[simp] theorem o_yes (env : Env) : tmYes env S = .ok true S := (rfl)
@[simp] theorem o_nx (env : Env) : sNx env S = .ok (.nx env) S := (rfl)
theorem o_aug (i : Nat) (e : EM) (f : D → D → Sto → R D) (env : Env) (h : env[i]? = some (some x)) : sAug i e f env S = (e env S).bind fun y S1 => (f x y S1).bind fun z S2 => .ok (.nx (env.set i (some z))) S2 := by unfold sAug; rw [h]
end
@[simp] theorem e_env0 (n : Nat) (ds : List D) : env0 n ds = ds.map some ++ List.replicate (n - ds.length) none := (rfl)
@[simp] theorem e_rep0 {α : Type} (a : α) : List.replicate 0 a = [] := (rfl)
/-- a def from its arguments -/
theorem run_fn {n : Nat} {m : SM} {ds : List D} {S : Sto} {Q : D → Sto → Prop} (h : Run (m (env0 n ds) S) fun f S1 => match f with
    | .rt d => Q d S1
    | .nx _ => Q .non S1
    | _ => False) : Run (fnD n m ds S) Q := by
  unfold fnD runFl
  refine Run.bind (h.mono fun f S1 q => ?_)
  cases f <;> first | exact .ok q | exact q.elim
@[simp] theorem e_runbind {α β : Type} {r : R α} {k : α → Sto → R β} {Q : β → Sto → Prop} : Run (r.bind k) Q = Run r fun a S => Run (k a S) Q := by cases r <;> simp
theorem run_seq {a b : SM} {env : Env} {S : Sto} {Q : Fl → Sto → Prop} (h : Run (a env S) fun f S1 => match f with
    | .nx e => Run (b e S1) Q
    | f => Q f S1) : Run (sSeq a b env S) Q := by
  refine Run.bind (h.mono fun f S1 q => ?_)
  cases f <;> first | exact q | exact .ok q
@[simp] theorem isi_non_tuple {S : Sto} : m_isi [.non, .ty "tuple"] S = .ok (.bl false) S := by simp [m_isi, tyOfD, isiB]
@[simp] theorem isi_non_list {S : Sto} : m_isi [.non, .ty "list"] S = .ok (.bl false) S := by simp [m_isi, tyOfD, isiB]
@[simp] theorem isi_non_bool {S : Sto} : m_isi [.non, .ty "bool"] S = .ok (.bl false) S := by simp [m_isi, tyOfD, isiB]
@[simp] theorem isi_non_int {S : Sto} : m_isi [.non, .ty "int"] S = .ok (.bl false) S := by simp [m_isi, tyOfD, isiB]
@[simp] theorem isi_non_str {S : Sto} : m_isi [.non, .ty "str"] S = .ok (.bl false) S := by simp [m_isi, tyOfD, isiB]
@[simp] theorem isi_non_dict {S : Sto} : m_isi [.non, .ty "dict"] S = .ok (.bl false) S := by simp [m_isi, tyOfD, isiB]
@[simp] theorem isi_bl_tuple {p : Bool} {S : Sto} : m_isi [.bl p, .ty "tuple"] S = .ok (.bl false) S := by simp [m_isi, tyOfD, isiB]
@[simp] theorem isi_bl_list {p : Bool} {S : Sto} : m_isi [.bl p, .ty "list"] S = .ok (.bl false) S := by simp [m_isi, tyOfD, isiB]
@[simp] theorem isi_bl_bool {p : Bool} {S : Sto} : m_isi [.bl p, .ty "bool"] S = .ok (.bl true) S := by simp [m_isi, tyOfD, isiB]
@[simp] theorem isi_bl_int {p : Bool} {S : Sto} : m_isi [.bl p, .ty "int"] S = .ok (.bl true) S := by simp [m_isi, tyOfD, isiB]
@[simp] theorem isi_bl_str {p : Bool} {S : Sto} : m_isi [.bl p, .ty "str"] S = .ok (.bl false) S := by simp [m_isi, tyOfD, isiB]
@[simp] theorem isi_bl_dict {p : Bool} {S : Sto} : m_isi [.bl p, .ty "dict"] S = .ok (.bl false) S := by simp [m_isi, tyOfD, isiB]
@[simp] theorem isi_int_tuple {i : Int} {S : Sto} : m_isi [.int i, .ty "tuple"] S = .ok (.bl false) S := by simp [m_isi, tyOfD, isiB]
@[simp] theorem isi_int_list {i : Int} {S : Sto} : m_isi [.int i, .ty "list"] S = .ok (.bl false) S := by simp [m_isi, tyOfD, isiB]
@[simp] theorem isi_int_bool {i : Int} {S : Sto} : m_isi [.int i, .ty "bool"] S = .ok (.bl false) S := by simp [m_isi, tyOfD, isiB]
@[simp] theorem isi_int_int {i : Int} {S : Sto} : m_isi [.int i, .ty "int"] S = .ok (.bl true) S := by simp [m_isi, tyOfD, isiB]
@[simp] theorem isi_int_str {i : Int} {S : Sto} : m_isi [.int i, .ty "str"] S = .ok (.bl false) S := by simp [m_isi, tyOfD, isiB]
@[simp] theorem isi_int_dict {i : Int} {S : Sto} : m_isi [.int i, .ty "dict"] S = .ok (.bl false) S := by simp [m_isi, tyOfD, isiB]
@[simp] theorem isi_str_tuple {s : Str} {S : Sto} : m_isi [.str s, .ty "tuple"] S = .ok (.bl false) S := by simp [m_isi, tyOfD, isiB]
@[simp] theorem isi_str_list {s : Str} {S : Sto} : m_isi [.str s, .ty "list"] S = .ok (.bl false) S := by simp [m_isi, tyOfD, isiB]
@[simp] theorem isi_str_bool {s : Str} {S : Sto} : m_isi [.str s, .ty "bool"] S = .ok (.bl false) S := by simp [m_isi, tyOfD, isiB]
@[simp] theorem isi_str_int {s : Str} {S : Sto} : m_isi [.str s, .ty "int"] S = .ok (.bl false) S := by simp [m_isi, tyOfD, isiB]
@[simp] theorem isi_str_str {s : Str} {S : Sto} : m_isi [.str s, .ty "str"] S = .ok (.bl true) S := by simp [m_isi, tyOfD, isiB]
@[simp] theorem isi_str_dict {s : Str} {S : Sto} : m_isi [.str s, .ty "dict"] S = .ok (.bl false) S := by simp [m_isi, tyOfD, isiB]
@[simp] theorem isi_tup_tuple {a : List D} {S : Sto} : m_isi [.tup a, .ty "tuple"] S = .ok (.bl true) S := by simp [m_isi, tyOfD, isiB]
@[simp] theorem isi_tup_list {a : List D} {S : Sto} : m_isi [.tup a, .ty "list"] S = .ok (.bl false) S := by simp [m_isi, tyOfD, isiB]
@[simp] theorem isi_tup_bool {a : List D} {S : Sto} : m_isi [.tup a, .ty "bool"] S = .ok (.bl false) S := by simp [m_isi, tyOfD, isiB]
@[simp] theorem isi_tup_int {a : List D} {S : Sto} : m_isi [.tup a, .ty "int"] S = .ok (.bl false) S := by simp [m_isi, tyOfD, isiB]
@[simp] theorem isi_tup_str {a : List D} {S : Sto} : m_isi [.tup a, .ty "str"] S = .ok (.bl false) S := by simp [m_isi, tyOfD, isiB]
@[simp] theorem isi_tup_dict {a : List D} {S : Sto} : m_isi [.tup a, .ty "dict"] S = .ok (.bl false) S := by simp [m_isi, tyOfD, isiB]
@[simp] theorem isi_fzl_tuple {a : List D} {S : Sto} : m_isi [.fzl a, .ty "tuple"] S = .ok (.bl false) S := by simp [m_isi, tyOfD, isiB]
@[simp] theorem isi_fzl_list {a : List D} {S : Sto} : m_isi [.fzl a, .ty "list"] S = .ok (.bl true) S := by simp [m_isi, tyOfD, isiB]
@[simp] theorem isi_fzl_bool {a : List D} {S : Sto} : m_isi [.fzl a, .ty "bool"] S = .ok (.bl false) S := by simp [m_isi, tyOfD, isiB]
@[simp] theorem isi_fzl_int {a : List D} {S : Sto} : m_isi [.fzl a, .ty "int"] S = .ok (.bl false) S := by simp [m_isi, tyOfD, isiB]
@[simp] theorem isi_fzl_str {a : List D} {S : Sto} : m_isi [.fzl a, .ty "str"] S = .ok (.bl false) S := by simp [m_isi, tyOfD, isiB]
@[simp] theorem isi_fzl_dict {a : List D} {S : Sto} : m_isi [.fzl a, .ty "dict"] S = .ok (.bl false) S := by simp [m_isi, tyOfD, isiB]
@[simp] theorem isi_kl_tuple {a : List D} {S : Sto} : m_isi [.kl a, .ty "tuple"] S = .ok (.bl false) S := by simp [m_isi, tyOfD, isiB]
@[simp] theorem isi_kl_list {a : List D} {S : Sto} : m_isi [.kl a, .ty "list"] S = .ok (.bl true) S := by simp [m_isi, tyOfD, isiB]
@[simp] theorem isi_kl_bool {a : List D} {S : Sto} : m_isi [.kl a, .ty "bool"] S = .ok (.bl false) S := by simp [m_isi, tyOfD, isiB]
@[simp] theorem isi_kl_int {a : List D} {S : Sto} : m_isi [.kl a, .ty "int"] S = .ok (.bl false) S := by simp [m_isi, tyOfD, isiB]
@[simp] theorem isi_kl_str {a : List D} {S : Sto} : m_isi [.kl a, .ty "str"] S = .ok (.bl false) S := by simp [m_isi, tyOfD, isiB]
@[simp] theorem isi_kl_dict {a : List D} {S : Sto} : m_isi [.kl a, .ty "dict"] S = .ok (.bl false) S := by simp [m_isi, tyOfD, isiB]
@[simp] theorem e_neBl {p q : Bool} {S : Sto} : m_ne (.bl p) (.bl q) S = .ok (.bl (!(p == q))) S := by cases p <;> cases q <;> rfl
@[simp] theorem e_eqBl {p q : Bool} {S : Sto} : m_eq (.bl p) (.bl q) S = .ok (.bl (p == q)) S := by cases p <;> cases q <;> rfl
theorem pdS_int {i : Int} {S : Sto} : pdS S (.int i) = some (.int i) := (rfl)
@[simp] theorem e_neInt {i j : Int} {S : Sto} : m_ne (.int i) (.int j) S = .ok (.bl (!(i == j))) S := (rfl)
@[simp] theorem e_eqInt {i j : Int} {S : Sto} : m_eq (.int i) (.int j) S = .ok (.bl (i == j)) S := (rfl)
@[simp] theorem e_eqNil {S : Sto} : m_eq (.fzl []) (.fzl []) S = .ok (.bl true) S := (rfl)
@[simp] theorem e_neNil {S : Sto} : m_ne (.fzl []) (.fzl []) S = .ok (.bl false) S := (rfl)
@[simp] theorem sizeLine2 : (2 : Nat) ≤ sizeLine := by decide
@[simp] theorem sizeLine1 : (1 : Nat) ≤ sizeLine := by decide
@[simp] theorem sizeLine3 : (3 : Nat) ≤ sizeLine := by decide
@[simp] theorem sizeLine4 : (4 : Nat) ≤ sizeLine := by decide
theorem run_drop {f : List D → Sto → R D} {ds : List D} {S : Sto} {Q : D → Sto → Prop} (h : Run (f ds S) fun d S' => S.length ≤ S'.length ∧ (S'.take S.length).all (O.cl S.length) = true ∧ ∃ e, frzD S' S.length 6 d = some e ∧ Q e (S'.take S.length)) : Run (dropG f ds S) Q := by
  obtain ⟨d, S', e, h1, h2, e', h3, h4⟩ := h.out
  unfold dropG
  rw [e]
  simp only
  rw [if_pos ⟨h1, h2⟩, h3]
  exact .ok h4
theorem frz_pl (F : Sto) (n k : Nat) {d : D} (h : D.pl d = true) : frzD F n k d = some d := by
  have c := cl_of_pl n d h
  cases k with
  | zero => unfold frzD; rw [if_pos c]
  | succ k => unfold frzD; rw [if_pos c]
theorem opAll_pl {F : Sto} {n k : Nat} : ∀ {ds : List D}, D.pls ds = true → opAll (frzD F n k) ds = some ds
  | [], _ => rfl
  | d :: ds, h => by
    simp [D.pls] at h
    unfold opAll
    rw [frz_pl F n k h.1, opAll_pl h.2]
/-- a list that was made here, of data -/
theorem frz_new {F : Sto} {n m k : Nat} {ds : List D} (hm : n ≤ m) (hF : F[m]? = some (.lst ds)) (h : D.pls ds = true) : frzD F n (k + 1) (.loc m) = some (.fzl ds) := by
  unfold frzD
  rw [if_neg (by simp [D.cl]; omega)]
  simp only
  rw [if_pos hm, hF]
  simp only
  rw [opAll_pl h]
  rfl
theorem lc_map {i : Nat} {e : EM} {env : Env} {vs : List Nat} {S : Sto} (f : D → D) (ds : List D) (hz : ds.length ≤ sizeLine) (h : ∀ d ∈ ds, e ((wipeE env vs).set i (some d)) S = .ok (f d) S) :
    lcD (gN i) tmYes e (fun _ => true) env vs ds [] S = .ok (ds.map f) S := by
  rw [lc_pure (fun d => (wipeE env vs).set i (some d)) (fun _ => true) f ds [] (by simpa using hz) fun d hd => ⟨rfl, rfl, fun _ => h d hd⟩, List.nil_append, List.filter_eq_self.mpr (by simp)]
theorem lc_filter {i : Nat} {t : TM} {e : EM} {env : Env} {vs : List Nat} {S : Sto} (p : D → Bool) (f : D → D) (ds : List D) (hz : ds.length ≤ sizeLine) (h : ∀ d ∈ ds, t ((wipeE env vs).set i (some d)) S = .ok (p d) S) (h2 : ∀ d ∈ ds, p d = true → e ((wipeE env vs).set i (some d)) S = .ok (f d) S) :
    lcD (gN i) t e (fun _ => true) env vs ds [] S = .ok ((ds.filter p).map f) S := by
  rw [lc_pure (fun d => (wipeE env vs).set i (some d)) p f ds [] (by simpa using hz) fun d hd => ⟨rfl, h d hd, fun q => h2 d hd q⟩]
  simp
/-- a value that isinstance can be asked of -/
def D.vd : D → Bool
  | .ty _ => false
  | .glb _ => false
  | .loc _ => false
  | _ => true
def intIn (lo hi : Int) : D → Bool
  | .int i => decide (lo ≤ i) && decide (i ≤ hi)
  | _ => false
def tupIn (lo hi : Int) : D → Bool
  | .tup a => decide (lo ≤ (a.length : Int)) && decide ((a.length : Int) ≤ hi)
  | _ => false
theorem all_map_bl {α : Type} (p : α → Bool) (xs : List α) : (xs.map fun x => D.bl (p x)) = (xs.map p).map D.bl := by rw [List.map_map]; rfl
theorem e_all' {α : Type} (p : α → Bool) (xs : List α) (S : Sto) : m_all [.fzl (xs.map fun x => D.bl (p x))] S = .ok (.bl (xs.all p)) S := by
  rw [all_map_bl, e_allF, List.all_map]
  rfl
theorem opAll_append {α β : Type} {f : α → Option β} : ∀ {xs ys : List α} {as bs : List β}, opAll f xs = some as → opAll f ys = some bs → opAll f (xs ++ ys) = some (as ++ bs)
  | [], ys, as, bs, h, g => by cases h; exact g
  | x :: xs, ys, as, bs, h, g => by
    unfold opAll at h
    cases h1 : f x with
    | none => simp [h1] at h
    | some y =>
      cases h2 : opAll f xs with
      | none => simp [h1, h2] at h
      | some zs =>
        simp [h1, h2] at h
        subst h
        show opAll f (x :: (xs ++ ys)) = _
        unfold opAll
        rw [h1, opAll_append h2 g]
        rfl
theorem e_mulF {a : List D} {j : Int} {S : Sto} (h : -(2 ^ 63) ≤ j ∧ j < 2 ^ 63 ∧ a.length * j.toNat ≤ sizeLine) : m_mul (.fzl a) (.int j) S = .ok (.fzl (List.replicate j.toNat a).flatten) S := by
  unfold m_mul
  simp only [catOf]
  rw [if_pos h]
theorem e_mulT {a : List D} {j : Int} {S : Sto} (h : a ≠ [] ∧ 2 ≤ j ∧ j ≤ 1000 ∧ a.length ≤ 1000) : m_mul (.tup a) (.int j) S = .ok (.tup (List.replicate j.toNat a).flatten) S := by
  unfold m_mul
  simp only
  rw [if_pos h]
theorem toPD_ints (S : Sto) (k : Nat) (ns : List Int) : opAll (toPD S k) (ns.map D.int) = some (ns.map PyData.int) := by
  induction ns with
  | nil => rfl
  | cons n ns ih =>
    rw [List.map_cons, List.map_cons]
    unfold opAll
    rw [ih]
    cases k <;> rfl
theorem shaped_ints (ns : List Int) : SeqAt.shaped (.list (ns.map PyData.int)) = true ∧ SeqAt.shaped (.tuple (ns.map PyData.int)) = true := by
  have h1 : PyData.canLayAll0 (ns.map PyData.int) = true := by
    induction ns with
    | nil => simp [PyData.canLayAll0]
    | cons n ns ih => simp [PyData.canLayAll0, PyData.canLay0, ih]
  have h2 : PyData.depthAll (ns.map PyData.int) = 0 := by
    induction ns with
    | nil => simp [PyData.depthAll]
    | cons n ns ih => simp [PyData.canLayAll0, PyData.canLay0] at h1; simp [PyData.depthAll, PyData.depth, ih h1]
  constructor
  · simp [SeqAt.shaped, PyData.canLay0, PyData.depth, h1, h2]
  · simp [SeqAt.shaped, PyData.canLay0, PyData.depth, h1, h2]
theorem pdS_ints (S : Sto) (ns : List Int) : pdS S (.fzl (ns.map D.int)) = some (.list (ns.map PyData.int)) := by
  have e : toPD S 8 (.fzl (ns.map D.int)) = some (.list (ns.map PyData.int)) := by
    show (opAll (toPD S 7) (ns.map D.int)).map PyData.list = _
    rw [toPD_ints]
    rfl
  unfold pdS
  rw [e]
  simp [(shaped_ints ns).1]
theorem pdS_tup (S : Sto) (ns : List Int) : pdS S (.tup (ns.map D.int)) = some (.tuple (ns.map PyData.int)) := by
  have e : toPD S 8 (.tup (ns.map D.int)) = some (.tuple (ns.map PyData.int)) := by
    show (opAll (toPD S 7) (ns.map D.int)).map PyData.tuple = _
    rw [toPD_ints]
    rfl
  unfold pdS
  rw [e]
  simp [(shaped_ints ns).2]
theorem ones_ints {α : Type} (xs : List α) : (xs.map fun _ => D.int 1) = (xs.map fun _ => (1 : Int)).map D.int := by rw [List.map_map]; rfl
theorem e_neOnes {α : Type} (xs : List α) (S : Sto) : m_ne (.fzl (xs.map fun _ => D.int 1)) (.fzl []) S = .ok (.bl (!xs.isEmpty)) S := by
  rw [ones_ints]
  unfold m_ne
  rw [pdS_ints, show pdS S (.fzl []) = some (.list []) from rfl]
  cases xs <;> rfl
theorem e_eqOnes {α : Type} (xs : List α) (S : Sto) : m_eq (.fzl (xs.map fun _ => D.int 1)) (.fzl []) S = .ok (.bl xs.isEmpty) S := by
  rw [ones_ints]
  unfold m_eq
  rw [pdS_ints, show pdS S (.fzl []) = some (.list []) from rfl]
  cases xs <;> rfl
end ML
set_option maxHeartbeats 4000000
/-! ML, more: t[::-1] of a tuple or a list. -/
namespace ML
open PySem PySem.Spec PyProof.Rows L2 HT
section
variable {prog : Program} {w : World} {A : Around} {E : Value → Shared → Prop} {s : Shared}
theorem applied_rev {sl : Addr} {vl vu vs : Value} {n : Nat} {Q : Int × Int × Nat → Shared → Prop} (hs : s.heap.IsSliceOf sl vl vu vs) (pl : IsPart vl none) (pu : IsPart vu none) (ps : IsPart vs (some (-1)))
    (h : Q ((n : Int) - 1, -1, n) s) : wpAny (model prog w) A (Builtin.Slice.sliceApplied (.ref sl) (pure (n : Int))) Q E s := by
  obtain ⟨os, hos, hcs, hds⟩ := id hs
  unfold Builtin.Slice.sliceApplied Builtin.Slice.sliceFields
  refine wpAny_bind (wpAny_bind (wpAny_field hos hds (x := vl) rfl (wpAny_bind (wpAny_field hos hds (x := vu) rfl (wpAny_bind (wpAny_field hos hds (x := vs) rfl (wpAny_pure ?_)))))))
  refine wpAny_bind (slicePart_ ps ?_)
  show wpAny _ _ (if ((-1 : Int) == 0) = true then _ else _) _ _ s
  rw [if_neg (by decide)]
  refine wpAny_bind (slicePart_ pl (wpAny_bind (slicePart_ pu (wpAny_bind (wpAny_pure ?_)))))
  have ep : Builtin.Slice.slicePlaces ((n : Int) - 1) (-1) (-1) = n := by
    unfold Builtin.Slice.slicePlaces
    have h1 : ¬ ((-1 : Int) > 0) := by decide
    rw [if_neg h1]
    by_cases c : (n : Int) - 1 > -1
    · rw [if_pos c, show (-(-1) : Int) = 1 by decide, Int.ediv_one]
      omega
    · rw [if_neg c]
      omega
  show wpAny _ _ (pure ((n : Int) - 1, (-1 : Int), Builtin.Slice.slicePlaces ((n : Int) - 1) (-1) (-1))) _ _ s
  rw [ep]
  exact wpAny_pure h
theorem pick_rev (xs : Array Value) : ((List.range xs.size).filterMap fun (k : Nat) => xs[((xs.size : Int) - 1 + (k : Int) * -1).toNat]?).toArray = xs.toList.reverse.toArray := by
  congr 1
  rw [← PySem.W.krv_all xs, ← List.filterMap_reverse, ← PySem.W.krv_range, List.filterMap_map]
  congr 1
  funext k
  have : ((xs.size : Int) - 1 + (k : Int) * -1).toNat = xs.size - 1 - k := by omega
  rw [this]
  rfl
theorem getItem_rev {t sl : Addr} {items : Array Value} {vl vu vs : Value} {Q : Value → Shared → Prop} (ht : IsTup s.heap t items) (hs : s.heap.IsSliceOf sl vl vu vs) (pl : IsPart vl none) (pu : IsPart vu none) (ps : IsPart vs (some (-1)))
    (h : Q (.ref s.heap.objs.size) { s with heap := s.heap.push { cls := .type "tuple", data := .seq items.toList.reverse.toArray } }) (hsz : items.size ≤ sizeLine) : wpAny (model prog w) A (getItem (.ref t) (.ref sl)) Q E s := by
  have hok : sizeOk (.seq items.toList.reverse.toArray) := by show items.toList.reverse.toArray.size ≤ sizeLine; rw [List.size_toArray, List.length_reverse, Array.length_toList]; exact hsz
  obtain ⟨os, hos, hcs, hds⟩ := id hs
  have hS : s.TypeIs (.ref sl) "slice" := ⟨os, hos, hcs⟩
  unfold getItem
  try with_reducible refine wpAny_holding ?_
  first | refine wpAny_bind (wpAny_pure ?_) | skip
  refine wpAny_bind (wpAny_sequenceKey ht.typeIs (by decide) (wpAny_bind (wpAny_callSpecial?_slot (name := Str.ofString "__getitem__") ht.typeIs PyProof.Rows.slot_tuple_getitem (wpAny_call_entry PyProof.Rows.slot_tuple_getitem ht.typeIs entry_tuple_getitem ?_ (args_tuple_getitem _ _)))))
  show wpAny _ _ (Builtin.Tuple.tupleItemsOf (.ref t) >>= _) _ _ s
  refine wpAny_bind (tupleItemsOf_ ht (wpAny_bind (wpAny_typeOf hS ?_)))
  rw [if_pos (by decide)]
  refine wpAny_bind (applied_rev hs pl pu ps ?_)
  have hno : ¬ (((items.size : Int) - 1 == 0 && (-1 : Int) == 1 && items.size == items.size) = true) := by
    rw [show ((-1 : Int) == 1) = false by decide, Bool.and_false, Bool.false_and]
    exact Bool.false_ne_true
  show wpAny _ _ (if ((items.size : Int) - 1 == 0 && (-1 : Int) == 1 && items.size == items.size) = true then _ else _) _ _ s
  rw [if_neg hno]
  show wpAny _ _ (Builtin.Tuple.tupleExact ((List.range items.size).filterMap fun (k : Nat) => items[((items.size : Int) - 1 + (k : Int) * -1).toNat]?).toArray >>= _) _ _ s
  rw [pick_rev]
  first
    | exact wpAny_bind (m := Builtin.Tuple.tupleExact _) (wpAny_newObj_type (wpAny_pure ⟨_, rfl, wpAny_pure h⟩) hok)
    | exact wpAny_bind (m := Builtin.Tuple.tupleExact _) (wpAny_newObj_type (wpAny_bind (wpAny_pure (wpAny_pure ⟨_, rfl, wpAny_pure h⟩))) hok)
    | exact wpAny_bind (wpAny_bind (m := Builtin.Tuple.tupleExact _) (wpAny_newObj_type (wpAny_pure (wpAny_pure ⟨_, rfl, wpAny_pure h⟩)) hok))
    | exact wpAny_bind (wpAny_bind (m := Builtin.Tuple.tupleExact _) (wpAny_newObj_type (wpAny_pure ⟨_, rfl, wpAny_pure h⟩) hok))
end
def tRevA (K : PySem.W.Frag) (te : TE) : TE := fun σ H Q => te σ H fun x H1 => ∃ a xs, x = .ref a ∧ ((SqL K H1 a xs ∧ ∀ p, H1 p = none → Q (.ref p) (upd H1 p (.lst xs.reverse))) ∨ (SqT K H1 a xs ∧ ∀ p, H1 p = none → Q (.ref p) (upd H1 p (.tup xs.reverse))))
theorem pe_revA {X : Cx} {e : Expr} {te : TE} {k : Nat} {p1 p2 p3 pos : Pos} (he : PE X e te) : PE X (.Subscript e (.Slice none none (some (.UnaryOp .USub (.Constant (.int 1) k p1) p2)) p3) pos) (tRevA X.K te) := by
  refine ⟨fun pins s σ H Q I h => ?_⟩
  refine Subscript_ (thn (he.run pins s σ H _ I h) fun v s1 ⟨x, H1, I1, r1, q1⟩ => ?_)
  obtain ⟨a, xs, rfl, q1⟩ := q1
  cases r1
  have hst : PO X (some (.UnaryOp .USub (.Constant (.int 1) k p1) p2)) (tPart (tUn (rU fun i => .int (-i)) (tC (.int 1)))) := po_some (pe_un un_neg pe_int)
  refine wpAny_Slice (thn (po_none.run pins s1 σ H1 (fun o H2 => o = none ∧ H2 = H1) I1 ⟨rfl, rfl⟩) fun vl s2 ⟨l, H2, I2, pl, el, e2⟩ => ?_)
  subst el e2
  refine thn (po_none.run pins s2 σ H2 (fun o H3 => o = none ∧ H3 = H2) I2 ⟨rfl, rfl⟩) fun vu s3 ⟨u, H3, I3, pu, eu, e3⟩ => ?_
  subst eu e3
  refine thn (hst.run pins s3 σ H3 (fun o H4 => o = some (-1) ∧ H4 = H3) I3 ⟨1, rfl, -1, rfl, rfl, rfl⟩) fun vs s4 ⟨o, H4, I4, ps, eo, e4⟩ => ?_
  subst eo e4
  have I5 : Inv X pins σ H4 { s4 with heap := s4.heap.push { cls := .type "slice", data := .fields #[vl, vu, vs] } } := I4.kept (t' := s4.toks) fun b ob q => Heap.get?_push_of_some _ q
  show wpAny (model X.prog X.w) X.A (subscriptTail e (.Slice none none (some (.UnaryOp .USub (.Constant (.int 1) k p1) p2)) p3) (.ref a) (.ref s4.heap.objs.size)) (EP X pins σ Q) X.xe { s4 with heap := s4.heap.push { cls := .type "slice", data := .fields #[vl, vu, vs] } }
  rcases q1 with ⟨hx, q⟩ | ⟨hx, q⟩
  · obtain ⟨its, r, ht, hz⟩ := I5.list hx
    have hlen := r.length
    refine tail_any (ops := [.ref a, .ref s4.heap.objs.size]) ht.isList.typeIs (PySem.slot_list_getitem.lookup) ?_ (by with_unfolding_all rfl)
    refine wpAny_getItem_list_slice ht.isList (Heap.IsSliceOf.new _ vl vu vs) pl pu ps (by decide) ?_ (by rw [List.size_toArray]; omega)
    rw [PySem.W.krv_pick]
    refine ⟨.ref _, _, I5.laid (t' := s4.toks) (o := .lst xs.reverse) (fun b ob q => Heap.get?_push_of_some _ q) (Nat.le_refl _) ?_, rfl, q _ (I5.hok.fresh (Nat.le_refl _))⟩
    exact ⟨by rw [List.length_reverse]; exact hz, _, 0, r.reverse, Heap.get?_push_size _ rfl⟩
  · obtain ⟨its, r, ht, hz⟩ := I5.tuple hx
    have hlen := r.length
    refine tail_any (ops := [.ref a, .ref s4.heap.objs.size]) ht.typeIs (PyProof.Rows.slot_tuple_getitem.lookup) ?_ (by with_unfolding_all rfl)
    refine getItem_rev ht (Heap.IsSliceOf.new _ vl vu vs) pl pu ps ?_ (by rw [List.size_toArray]; omega)
    refine ⟨.ref _, _, I5.laid (t' := s4.toks) (o := .tup xs.reverse) (fun b ob q => Heap.get?_push_of_some _ q) (Nat.le_refl _) ?_, rfl, q _ (I5.hok.fresh (Nat.le_refl _))⟩
    exact ⟨by rw [List.length_reverse]; exact hz, _, r.reverse, IsTup.new _ _⟩
def m_rev (x : D) (S : Sto) : R D := match x with
  | .tup a => .ok (.tup a.reverse) S
  | x => match lstOf S x with
    | some a => .ok (.fzl a.reverse) S
    | none => .bad
theorem RVs.rev {K : PySem.W.Frag} {mg : Str → Option Value} {ρ : Mp} {H : Hp} : ∀ {ds : List D} {vs : List V}, RVs K mg ρ H ds vs → RVs K mg ρ H ds.reverse vs.reverse
  | _, _, .nil => .nil
  | _, _, .cons r t => by
    rw [List.reverse_cons, List.reverse_cons]
    exact (RVs.rev t).append (.cons r .nil)
theorem ge_rev {X : Cx} {e : Expr} {me : EM} {k : Nat} {p1 p2 p3 pos : Pos} (he : GE X e me) : GE X (.Subscript e (.Slice none none (some (.UnaryOp .USub (.Constant (.int 1) k p1) p2)) p3) pos) (mUn m_rev me) := ⟨fun pins s σ H Q I h => by
  refine (pe_revA he).run pins s σ H Q I ?_
  obtain ⟨ρ, env, S, rp, re, p⟩ := h
  refine ⟨ρ, env, S, rp, re, Post.bindB p fun x H1 ρ1 S1 d e1 rp1 rv1 p1 => ?_⟩
  unfold m_rev at p1
  split at p1
  · obtain ⟨a, xs, rfl, h1, r1⟩ := tup_at rv1
    exact ⟨a, xs, rfl, .inr ⟨h1.sq, fun q hq => p1 ρ1 _ _ (Ext.new hq) (rp1.new hq) (.tup (TAt.new rp1 hq) (r1.rev.ext (Ext.new hq)))⟩⟩
  · split at p1
    · next a q =>
      obtain ⟨l, xs, rfl, h1, r1⟩ := lst_at rp1 rv1 q
      exact ⟨l, xs, rfl, .inl ⟨h1, fun q hq => p1 ρ1 _ _ (Ext.new hq) (rp1.new hq) (.fzl (FAt.new rp1 hq) (r1.rev.ext (Ext.new hq)))⟩⟩
    · exact p1.elim⟩
@[simp] theorem e_revT {a : List D} {S : Sto} : m_rev (.tup a) S = .ok (.tup a.reverse) S := (rfl)
end ML
namespace ML
open PySem L2
/-! ### dicts whose keys are tuples of ints and texts -/
def key1 : D → Option L2.Key
  | .int i => some (.inl i)
  | .str x => some (.inr x)
  | _ => none
def keyT : D → Option (List L2.Key)
  | .tup ds => opAll key1 ds
  | _ => none
section
variable {κ : Type} [DecidableEq κ]
def valD (kvs : List (κ × D)) (k : κ) : Option D := (kvs.find? fun kv => decide (kv.1 = k)).map (·.2)
def putD (kvs : List (κ × D)) (k : κ) (v : D) : List (κ × D) :=
  if (kvs.any fun kv => decide (kv.1 = k)) = true then kvs.map (fun kv => if kv.1 = k then (kv.1, v) else kv) else kvs ++ [(k, v)]
def dropD (kvs : List (κ × D)) (k : κ) : List (κ × D) := kvs.filter fun kv => decide (kv.1 ≠ k)
def mergeD (kvs more : List (κ × D)) : List (κ × D) := more.foldl (fun acc kv => putD acc kv.1 kv.2) kvs
section
variable {K : PySem.W.Frag} {mg : Str → Option Value} {ρ : Mp} {H : Hp}
/-- a table of data and a table of values, key by key -/
inductive RTab (K : PySem.W.Frag) (mg : Str → Option Value) (ρ : Mp) (H : Hp) : List (κ × D) → List (κ × V) → Prop
  | nil : RTab K mg ρ H [] []
  | cons {k : κ} {d : D} {v : V} {r : List (κ × D)} {t : List (κ × V)} : RV K mg ρ H d v → RTab K mg ρ H r t → RTab K mg ρ H ((k, d) :: r) ((k, v) :: t)
theorem RTab.of : ∀ {kvs : List (κ × D)} {xs : List V}, RVs K mg ρ H (kvs.map (·.2)) xs → RTab K mg ρ H kvs ((kvs.map (·.1)).zip xs)
  | [], _, .nil => .nil
  | (k, d) :: r, _, .cons h t => .cons h (RTab.of t)
theorem RTab.vals : ∀ {kvs : List (κ × D)} {us : List (κ × V)}, RTab K mg ρ H kvs us → ∃ xs, us = (kvs.map (·.1)).zip xs ∧ RVs K mg ρ H (kvs.map (·.2)) xs
  | [], _, .nil => ⟨[], rfl, .nil⟩
  | (k, d) :: r, _, .cons (v := v) h t => by
    obtain ⟨xs, rfl, q⟩ := RTab.vals t
    exact ⟨v :: xs, rfl, .cons h q⟩
theorem RTab.len {kvs : List (κ × D)} {us : List (κ × V)} (h : RTab K mg ρ H kvs us) : kvs.length = us.length := by
  induction h with
  | nil => rfl
  | cons _ _ ih => rw [List.length_cons, List.length_cons, ih]
theorem RTab.keys {kvs : List (κ × D)} {us : List (κ × V)} (h : RTab K mg ρ H kvs us) : kvs.map (·.1) = us.map (·.1) := by
  induction h with
  | nil => rfl
  | cons _ _ ih => rw [List.map_cons, List.map_cons, ih]
theorem RTab.seconds {kvs : List (κ × D)} {us : List (κ × V)} (h : RTab K mg ρ H kvs us) : RVs K mg ρ H (kvs.map (·.2)) (us.map (·.2)) := by
  induction h with
  | nil => exact .nil
  | cons h _ ih => exact .cons h ih
theorem RTab.val {kvs : List (κ × D)} {us : List (κ × V)} (h : RTab K mg ρ H kvs us) (k : κ) : (∀ d, valD kvs k = some d → ∃ v, valV us k = some v ∧ RV K mg ρ H d v) ∧ (valD kvs k = none → valV us k = none) := by
  induction h with
  | nil => exact ⟨fun d e => (nomatch e), fun _ => rfl⟩
  | @cons k' d v r t h q ih =>
    by_cases e : k' = k
    · have e1 : valD ((k', d) :: r) k = some d := by simp [valD, e]
      have e2 : valV ((k', v) :: t) k = some v := valV_pos (p := (k', v)) e
      rw [e1, e2]
      exact ⟨fun d' e' => by cases e'; exact ⟨v, rfl, h⟩, fun z => (nomatch z)⟩
    · have e1 : valD ((k', d) :: r) k = valD r k := by simp [valD, e]
      have e2 : valV ((k', v) :: t) k = valV t k := valV_neg (p := (k', v)) e
      rw [e1, e2]
      exact ih
theorem RTab.isSome {kvs : List (κ × D)} {us : List (κ × V)} (h : RTab K mg ρ H kvs us) (k : κ) : (valV us k).isSome = (valD kvs k).isSome := by
  obtain ⟨h1, h2⟩ := h.val k
  cases q : valD kvs k with
  | none => rw [h2 q]; rfl
  | some d => obtain ⟨v, e, _⟩ := h1 d q; rw [e]; rfl
theorem RTab.any {kvs : List (κ × D)} {us : List (κ × V)} (h : RTab K mg ρ H kvs us) (k : κ) : (us.any fun kv => decide (kv.1 = k)) = kvs.any fun kv => decide (kv.1 = k) := by
  induction h with
  | nil => rfl
  | cons _ _ ih => rw [List.any_cons, List.any_cons, ih]
theorem RTab.append {kvs kvs' : List (κ × D)} {us us' : List (κ × V)} (h : RTab K mg ρ H kvs us) (g : RTab K mg ρ H kvs' us') : RTab K mg ρ H (kvs ++ kvs') (us ++ us') := by
  induction h with
  | nil => exact g
  | cons h _ ih => exact .cons h ih
theorem RTab.put {kvs : List (κ × D)} {us : List (κ × V)} {d : D} {v : V} (h : RTab K mg ρ H kvs us) (k : κ) (r : RV K mg ρ H d v) : RTab K mg ρ H (putD kvs k d) (putK us k v) := by
  unfold putD putK
  rw [h.any k]
  split
  · induction h with
    | nil => exact .nil
    | @cons k' d' v' _ _ h' t ih =>
      rw [List.map_cons, List.map_cons]
      by_cases e : k' = k
      · rw [if_pos e, if_pos e]
        refine .cons r ?_
        clear ih
        induction t with
        | nil => exact .nil
        | @cons k2 d2 v2 _ _ h2 _ ih2 =>
          rw [List.map_cons, List.map_cons]
          by_cases e2 : k2 = k
          · rw [if_pos e2, if_pos e2]; exact .cons r (ih2 (by simp [e]))
          · rw [if_neg e2, if_neg e2]; exact .cons h2 (ih2 (by simp [e]))
      · rw [if_neg e, if_neg e]
        refine .cons h' (ih ?_)
        simp [e] at *
        assumption
  · exact h.append (.cons r .nil)
theorem RTab.ext {ρ' : Mp} {H' : Hp} {kvs : List (κ × D)} {us : List (κ × V)} (h : RTab K mg ρ H kvs us) (e : Ext ρ H ρ' H') : RTab K mg ρ' H' kvs us := by
  induction h with
  | nil => exact .nil
  | cons h _ ih => exact .cons (h.ext e) ih
end
end
section
variable {K : PySem.W.Frag} {mg : Str → Option Value} {ρ : Mp} {H : Hp} {S : Sto}
theorem key1_at {d : D} {v : V} {k : L2.Key} (h : key1 d = some k) (r : RV K mg ρ H d v) : v = kV k := by
  cases r <;> cases h <;> rfl
theorem keys_at : ∀ {ds : List D} {vs : List V} {ks : List L2.Key}, opAll key1 ds = some ks → RVs K mg ρ H ds vs → vs = ks.map kV
  | [], _, _, h, .nil => by cases h; rfl
  | d :: ds, _, ks, h, .cons r t => by
    unfold opAll at h
    cases h1 : key1 d with
    | none => simp [h1] at h
    | some k =>
      cases h2 : opAll key1 ds with
      | none => simp [h1, h2] at h
      | some ks' =>
        simp [h1, h2] at h
        subst h
        rw [List.map_cons, ← key1_at h1 r, ← keys_at h2 t]
theorem keyT_at {d : D} {v : V} {k : List L2.Key} (h : keyT d = some k) (r : RV K mg ρ H d v) : ∃ b, v = .ref b ∧ H b = some (.tup (k.map kV)) ∧ b ∉ ρ := by
  unfold keyT at h
  split at h
  · next ds =>
    obtain ⟨b, xs, rfl, h1, h2⟩ := tup_at r
    have := keys_at h h2
    subst this
    exact ⟨b, rfl, h1.1, h1.2⟩
  · cases h
/-- a dict of the store -/
def dOf (S : Sto) : D → Option (List (List L2.Key × D))
  | .loc n => match S[n]? with
    | some (.dT kvs) => some kvs
    | _ => none
  | _ => none
theorem dOf_at {d : D} {v : V} {kvs : List (List L2.Key × D)} (rp : Rep K mg ρ H S) (h : dOf S d = some kvs) (r : RV K mg ρ H d v) : ∃ n a us, d = .loc n ∧ S[n]? = some (.dT kvs) ∧ ρ.r[n]? = some a ∧ v = .ref a ∧ H a = some (.dT us) ∧ RTab K mg ρ H kvs us := by
  unfold dOf at h
  split at h
  · next n =>
    split at h
    · next kvs' q =>
      cases h
      cases r with
      | loc ha =>
        next a =>
        obtain ⟨u, hu, ro⟩ := rp.obj ha q
        cases ro with
        | dT r1 => exact ⟨n, a, _, rfl, q, ha, rfl, hu, RTab.of r1⟩
    · cases h
  · cases h
end
def m_ixQ (x y : D) (S : Sto) : R D := match dOf S x with
  | some kvs => (match keyT y with
    | some k => (match valD kvs k with
      | some d => .ok d S
      | none => .bad)
    | none => .bad)
  | none => m_ix x y S
def m_inQ (y x : D) (S : Sto) : R D := match dOf S x with
  | some kvs => (match keyT y with
    | some k => .ok (.bl (valD kvs k).isSome) S
    | none => .bad)
  | none => m_in y x S
def m_notinQ (y x : D) (S : Sto) : R D := match dOf S x with
  | some kvs => (match keyT y with
    | some k => .ok (.bl (!(valD kvs k).isSome)) S
    | none => .bad)
  | none => m_notin y x S
def m_setQ (x y d : D) (S : Sto) : R Unit := match x with
  | .loc n => (match S[n]? with
    | some (.dT kvs) => (match keyT y with
      | some k => if kvs.length < sizeLine then .ok () (S.set n (.dT (putD kvs k d))) else .bad
      | none => .bad)
    | _ => m_setL x y d S)
  | x => m_setL x y d S
def m_getQ (x : D) (ds : List D) (S : Sto) : R D := match dOf S x with
  | some kvs => (match ds with
    | [y] => (match keyT y with
      | some k => .ok ((valD kvs k).getD .non) S
      | none => .bad)
    | [y, z] => (match keyT y with
      | some k => .ok ((valD kvs k).getD z) S
      | none => .bad)
    | _ => .bad)
  | none => .bad
section
variable {X : Cx}
theorem gi_ixQ (hu : X.A.units + 1 < cLine) : GIx X m_ixQ := fun value slice pins s σ H x y v u Q I rx ry ⟨ρ, S, dx, dy, rp, hx, hy, p⟩ hs => by
  unfold m_ixQ at p
  split at p
  · next kvs q1 =>
    split at p
    · next k q2 =>
      split at p
      · next d q3 =>
        obtain ⟨n, a, us, rfl, hS, ha, rfl, hH, rt⟩ := dOf_at rp q1 hx
        obtain ⟨b, rfl, hb, _⟩ := keyT_at q2 hy
        obtain ⟨w, hw, rw'⟩ := (rt.val k).1 d q3
        cases rx
        have g : DGet H a (.ref b) (some w) := hw ▸ DGet.t hH hb
        exact PyProof.Rows.tail_any (dict_typeIs I g) PySem.F.slot_dict_getitem.lookup (d_getItem hu I g ry fun w' s3 I3 rw3 => ⟨w, H, I3, rw3, p.ok rp rw'⟩) hs
      · exact p.elim
    · exact p.elim
  · exact gi_ix value slice pins s σ H x y v u Q I rx ry ⟨ρ, S, dx, dy, rp, hx, hy, p⟩ hs
theorem go_inQ (hu : X.A.units + 65 < cLine) : GO X (compareOp .In) m_inQ := fun pins s σ H x y v u Q I rx ry ⟨ρ, S, dx, dy, rp, hx, hy, p⟩ => by
  unfold m_inQ at p
  split at p
  · next kvs q1 =>
    split at p
    · next k q2 =>
      obtain ⟨n, a, us, rfl, hS, ha, rfl, hH, rt⟩ := dOf_at rp q1 hy
      obtain ⟨b, rfl, hb, _⟩ := keyT_at q2 hx
      cases ry
      refine d_in (by omega) I (DGet.t hH hb) rx fun s3 I3 => ⟨.bl _, H, I3, rfl, ?_⟩
      rw [rt.isSome k]
      exact p.ok rp (.bl _)
    · exact p.elim
  · exact go_in hu pins s σ H x y v u Q I rx ry ⟨ρ, S, dx, dy, rp, hx, hy, p⟩
theorem go_notinQ (hu : X.A.units + 65 < cLine) : GO X (compareOp .NotIn) m_notinQ := fun pins s σ H x y v u Q I rx ry ⟨ρ, S, dx, dy, rp, hx, hy, p⟩ => by
  unfold m_notinQ at p
  split at p
  · next kvs q1 =>
    split at p
    · next k q2 =>
      obtain ⟨n, a, us, rfl, hS, ha, rfl, hH, rt⟩ := dOf_at rp q1 hy
      obtain ⟨b, rfl, hb, _⟩ := keyT_at q2 hx
      cases ry
      refine d_notIn (by omega) I (DGet.t hH hb) rx fun s3 I3 => ⟨.bl _, H, I3, rfl, ?_⟩
      rw [rt.isSome k]
      exact p.ok rp (.bl _)
    · exact p.elim
  · exact go_notin hu pins s σ H x y v u Q I rx ry ⟨ρ, S, dx, dy, rp, hx, hy, p⟩
theorem gset_Q (hu : X.A.units + 1 < cLine) : GSet X m_setQ := fun pins s σ H o i v ov iv u Q I ro ri rv ⟨ρ, S, d, j, e, rp, ho, hi, hv, p⟩ => by
  unfold m_setQ at p
  split at p
  · next n =>
    split at p
    · next kvs q1 =>
      split at p
      · next k q2 =>
        split at p
        · next hz =>
          obtain ⟨n', a, us, e1, hS, ha, rfl, hH, rt⟩ := dOf_at (kvs := kvs) rp (by simp only [dOf, q1]) ho
          cases e1
          obtain ⟨b, rfl, hb, _⟩ := keyT_at q2 hi
          obtain ⟨xs, ex, rx⟩ := (rt.put k hv).vals
          refine set_dict hu pins s σ H _ _ _ ov iv u Q I ro ri rv ⟨a, _, rfl, DPut.t hH hb (by rw [← rt.len]; exact hz), ?_⟩
          refine p ρ _ () (Ext.put rp (List.mem_of_getElem? ha)) (rp.put ha ?_) trivial
          rw [ex]
          exact .dT rx
        · exact p.elim
      · exact p.elim
    · exact gset_list pins s σ H o i v ov iv u Q I ro ri rv ⟨ρ, S, _, j, e, rp, ho, hi, hv, p⟩
  · exact gset_list pins s σ H o i v ov iv u Q I ro ri rv ⟨ρ, S, _, j, e, rp, ho, hi, hv, p⟩
theorem gm_getQ (hu : X.A.units + 1 < cLine) : GM X "dict.get" m_getQ := fun pins s σ H x xs v us Q I rx rxs ⟨ρ, S, d, ds, rp, hx, hxs, p⟩ => by
  unfold m_getQ at p
  split at p
  · next kvs q1 =>
    obtain ⟨n, a, ts, rfl, hS, ha, rfl, hH, rt⟩ := dOf_at rp q1 hx
    cases rx
    split at p
    · split at p
      · next k q2 =>
        obtain ⟨y, rfl, r1⟩ := hxs.one
        obtain ⟨u, rfl, ru⟩ := vals1 rxs
        obtain ⟨b, rfl, hb, _⟩ := keyT_at q2 r1
        refine d_get1 hu I (DGet.t hH hb) ru fun w' s3 I3 rw3 => ⟨_, H, I3, rw3, ?_⟩
        cases q3 : valD kvs k with
        | none =>
          rw [q3] at p
          rw [(rt.val k).2 q3]
          exact p.ok rp .non
        | some d =>
          rw [q3] at p
          obtain ⟨w, hw, rw'⟩ := (rt.val k).1 d q3
          rw [hw]
          exact p.ok rp rw'
      · exact p.elim
    · split at p
      · next k q2 =>
        obtain ⟨y, z, rfl, r1, r2⟩ := hxs.two
        obtain ⟨u, u2, rfl, ru, ru2⟩ := vals2 rxs
        obtain ⟨b, rfl, hb, _⟩ := keyT_at q2 r1
        refine d_get2 hu I (DGet.t hH hb) ru ru2 fun w' s3 I3 rw3 => ⟨_, H, I3, rw3, ?_⟩
        cases q3 : valD kvs k with
        | none =>
          rw [q3] at p
          rw [(rt.val k).2 q3]
          exact p.ok rp r2
        | some d =>
          rw [q3] at p
          obtain ⟨w, hw, rw'⟩ := (rt.val k).1 d q3
          rw [hw]
          exact p.ok rp rw'
      · exact p.elim
    · exact p.elim
  · exact p.elim
/-- {} -/
def mDNewT : EM := fun _ S => .ok (.loc S.length) (S ++ [.dT []])
theorem ge_dnewT {pos : Pos} : GE X (.Dict [] [] pos) mDNewT := pe_dnewT.mono' fun σ H Q ⟨ρ, env, S, rp, re, p⟩ => fun a ha =>
  p _ _ _ (Ext.add ha) (rp.add ha (RO.dT (kvs := []) .nil)) (.loc (add_get rp))
end
end ML
namespace ML
open PySem L2
/-! ### zip of two tuples, of two lists -/
def zipD (a b : List D) : List D := (a.zip b).map fun p => .tup [p.1, p.2]
def it_zip (as : List D) (S : Sto) : R Itm := match as with
  | [.tup a, .tup b] => .ok ⟨zipD a b, fun _ => true⟩ S
  | [x, y] => match itSeq x S with
    | .ok i _ => (match itSeq y S with
      | .ok j _ => .ok ⟨zipD i.ds j.ds, fun S => i.gd S && j.gd S⟩ S
      | .bad => .bad)
    | .bad => .bad
  | _ => .bad
theorem zipD_len (a b : List D) : (zipD a b).length = min a.length b.length := by unfold zipD; simp
theorem zipD_get {a b : List D} {i : Nat} {d : D} (h : (zipD a b)[i]? = some d) : ∃ x y, a[i]? = some x ∧ b[i]? = some y ∧ d = .tup [x, y] := by
  unfold zipD at h
  rw [List.getElem?_map] at h
  cases q : (a.zip b)[i]? with
  | none => rw [q] at h; cases h
  | some p =>
    rw [q] at h
    have := List.getElem?_zip_eq_some.mp q
    exact ⟨p.1, p.2, this.1, this.2, (Option.some.inj h).symm⟩
section
variable {K : PySem.W.Frag} {mg : Str → Option Value} {ρ : Mp} {H : Hp}
theorem itOk_zipT {a b : Addr} {ds es : List D} {gd : Sto → Bool} (h : ∀ ρ1 H1 S1, Ext0 ρ H ρ1 H1 → Rep K mg ρ1 H1 S1 → gd S1 = true → ∃ xs ys, SqT K H1 a xs ∧ SqT K H1 b ys ∧ RVs K mg ρ1 H1 ds xs ∧ RVs K mg ρ1 H1 es ys) : ItOk K mg ρ H (RZ.ItzT K a b) ⟨zipD ds es, gd⟩ :=
  itOk_pair (fun ρ1 H1 S1 e rp hg => by
      obtain ⟨xs, ys, h1, h2, r1, r2⟩ := h ρ1 H1 S1 e rp hg
      refine ⟨xs, ys, h1, h2, ?_⟩
      rw [zipD_len, r1.length, r2.length]
      omega) fun ρ1 H1 S1 e rp hg i d hd => by
    obtain ⟨xs, ys, h1, h2, r1, r2⟩ := h ρ1 H1 S1 e rp hg
    obtain ⟨x, y, hx, hy, rfl⟩ := zipD_get hd
    obtain ⟨v, hv, rv⟩ := r1.getD hx
    obtain ⟨w, hw, rw'⟩ := r2.getD hy
    refine ⟨⟨xs, ys, v, w, h1, h2, hv, hw⟩, fun x H2 hy => ?_⟩
    obtain ⟨T, x', y', rfl, hT, rfl, ha1, ha2⟩ := hy
    have e1 := ha1 xs h1
    rw [hv] at e1
    cases e1
    have e2 := ha2 ys h2
    rw [hw] at e2
    cases e2
    exact ⟨T, _, _, rfl, hT, rfl, rfl, .cons rv (.cons rw' .nil)⟩
theorem itOk_zipL {a b : Addr} {ds es : List D} {gd : Sto → Bool} (h : ∀ ρ1 H1 S1, Ext0 ρ H ρ1 H1 → Rep K mg ρ1 H1 S1 → gd S1 = true → ∃ xs ys, SqL K H1 a xs ∧ SqL K H1 b ys ∧ RVs K mg ρ1 H1 ds xs ∧ RVs K mg ρ1 H1 es ys) : ItOk K mg ρ H (Itz K a b) ⟨zipD ds es, gd⟩ :=
  itOk_pair (fun ρ1 H1 S1 e rp hg => by
      obtain ⟨xs, ys, h1, h2, r1, r2⟩ := h ρ1 H1 S1 e rp hg
      refine ⟨xs, ys, h1, h2, ?_⟩
      rw [zipD_len, r1.length, r2.length]
      omega) fun ρ1 H1 S1 e rp hg i d hd => by
    obtain ⟨xs, ys, h1, h2, r1, r2⟩ := h ρ1 H1 S1 e rp hg
    obtain ⟨x, y, hx, hy, rfl⟩ := zipD_get hd
    obtain ⟨v, hv, rv⟩ := r1.getD hx
    obtain ⟨w, hw, rw'⟩ := r2.getD hy
    refine ⟨⟨xs, ys, v, w, h1, h2, hv, hw⟩, fun x H2 hy => ?_⟩
    obtain ⟨T, x', y', rfl, hT, rfl, ha1, ha2⟩ := hy
    have e1 := ha1 xs h1
    rw [hv] at e1
    cases e1
    have e2 := ha2 ys h2
    rw [hw] at e2
    cases e2
    exact ⟨T, _, _, rfl, hT, rfl, rfl, .cons rv (.cons rw' .nil)⟩
end
section
variable {X : Cx} {e e2 : Expr} {as : AM} {pos tpos : Pos} {elts : List Expr} {kk : Nat}
theorem gi_zip {p : Pos} (hg : Gl X "zip") (hm : X.mg "zip" = none) (ha : GA X [e, e2] as) (hs : starEach [e, e2] X.env = (false, eval e X.env) :: starEach [e2] X.env := by rfl) (hpl : (backTo pos (starEach [e2] X.env)).any (·.1) = false := by rfl) :
    GI X (.Tuple elts kk tpos) (.Call (.Name "zip" p) [e, e2] [] pos) (mItA it_zip as) :=
  (RZ.pi_zipA hg hm ha hs hpl).mono' fun σ H Q ⟨ρ, env, S, rp, re, p⟩ =>
    ⟨ρ, env, S, rp, re, Post.bindB p fun vs H1 ρ1 S1 ds e1 rp1 rv1 p1 => by
      unfold it_zip at p1
      split at p1
      · next a b =>
        obtain ⟨v, w, rfl, r1, r2⟩ := rv1.two
        obtain ⟨a', xs, rfl, h1, r3⟩ := tup_at r1
        obtain ⟨b', ys, rfl, h2, r4⟩ := tup_at r2
        exact ⟨a', b', xs, ys, rfl, .inr ⟨h1.sq, h2.sq, Post.ok p1 rp1 (itOk_zipT fun ρ2 H2 S2 e2 _ _ => ⟨xs, ys, (h1.ext e2).sq, (h2.ext e2).sq, r3.ext0 e2, r4.ext0 e2⟩)⟩⟩
      · next x y _ =>
        split at p1
        · next i _ q1 =>
          split at p1
          · next j _ q2 =>
            obtain ⟨v, w, rfl, r1, r2⟩ := rv1.two
            obtain ⟨_, a, xs, rfl, h1, s1⟩ := lst_stays rp1 r1 q1
            obtain ⟨_, b, ys, rfl, h2, s2⟩ := lst_stays rp1 r2 q2
            refine ⟨a, b, xs, ys, rfl, .inl ⟨h1, h2, Post.ok p1 rp1 (itOk_zipL fun ρ2 H2 S2 e2 rp2 hg => ?_)⟩⟩
            rw [Bool.and_eq_true] at hg
            obtain ⟨xs', h3, r3⟩ := s1 ρ2 H2 S2 e2 rp2 hg.1
            obtain ⟨ys', h4, r4⟩ := s2 ρ2 H2 S2 e2 rp2 hg.2
            exact ⟨xs', ys', h3, h4, r3, r4⟩
          · exact p1.elim
        · exact p1.elim
      · exact p1.elim⟩
end
/-! ### dict(..) of a list of pairs -/
def mergeT {κ : Type} [DecidableEq κ] (kvs more : List (κ × V)) : List (κ × V) := more.foldl (fun acc kv => putK acc kv.1 kv.2) kvs
theorem length_mergeT {κ : Type} [DecidableEq κ] : ∀ (more kvs : List (κ × V)), (mergeT kvs more).length ≤ kvs.length + more.length
  | [], kvs => by show kvs.length ≤ kvs.length + 0; omega
  | p :: r, kvs => by
    have h1 := length_mergeT r (putK kvs p.1 p.2)
    have h2 := length_putK kvs p.1 p.2
    show (mergeT (putK kvs p.1 p.2) r).length ≤ _
    rw [List.length_cons]; omega
theorem RTab.merge {κ : Type} [DecidableEq κ] {K : PySem.W.Frag} {mg : Str → Option Value} {ρ : Mp} {H : Hp} {more : List (κ × D)} {ms : List (κ × V)} (h : RTab K mg ρ H more ms) : ∀ {kvs : List (κ × D)} {us : List (κ × V)}, RTab K mg ρ H kvs us → RTab K mg ρ H (mergeD kvs more) (mergeT us ms) := by
  induction h with
  | nil => exact fun g => g
  | cons r _ ih => exact fun g => ih (g.put _ r)
theorem KT.merge {H : Hp} {more : List (List L2.Key × V)} {ps : List (List L2.Key × Addr × Value)} (h : L2.KT H more ps) : ∀ {kvs : List (List L2.Key × V)} {xs : List (List L2.Key × Addr × Value)}, L2.KT H kvs xs → L2.KT H (mergeT kvs more) (PySem.storedAllH xs ps) := by
  induction h with
  | nil => exact fun g => g
  | @cons p q ps qs h t ih =>
    intro kvs xs g
    have g2 := g.put p.1 h.2.1 h.2.2
    rw [show storedH xs p.1 q.2.1 q.2.2 = storedH xs q.1 q.2.1 q.2.2 by rw [h.1]] at g2
    exact ih g2
section
variable {X : Cx}
/-- the parts of the pairs of a list -/
theorem pairsT {pins : List (Addr × Obj)} {σ : L2.St} {H : Hp} {s : Shared} (I : L2.Inv X pins σ H s) : ∀ ts : List (Addr × Addr × List L2.Key × V), (∀ t ∈ ts, H t.1 = some (.tup [.ref t.2.1, t.2.2.2]) ∧ H t.2.1 = some (.tup (t.2.2.1.map kV))) →
    ∃ ps : List (List L2.Key × Addr × Value), L2.KT H (ts.map fun t => (t.2.2.1, t.2.2.2)) ps ∧ ps.length = ts.length ∧ ∀ (j : Nat) (q : List L2.Key × Addr × Value), ps[j]? = some q → ∃ t, ts[j]? = some t ∧ PyProof.Rows.IsTup s.heap t.1 #[.ref q.2.1, q.2.2]
  | [], _ => ⟨[], .nil, rfl, fun j q e => by simp at e⟩
  | t :: ts, h => by
    obtain ⟨ps, r, hl, hp⟩ := pairsT I ts fun u hu => h u (List.mem_cons_of_mem _ hu)
    obtain ⟨h1, h2⟩ := h t (List.mem_cons_self ..)
    obtain ⟨its, rv, ht, _⟩ := I.tuple (.inl (.inl h1))
    obtain ⟨u, y, ei, ru, ry⟩ := vals2 rv
    subst ei
    cases ru
    refine ⟨(t.2.2.1, t.2.1, y) :: ps, .cons ⟨rfl, h2, ry⟩ r, by rw [List.length_cons, List.length_cons, hl], fun j q e => ?_⟩
    cases j with
    | zero =>
      have e' : (t.2.2.1, t.2.1, y) = q := Option.some.inj e
      subst e'
      exact ⟨t, rfl, ht⟩
    | succ j =>
      obtain ⟨t', e1, e2⟩ := hp j q (by simpa using e)
      exact ⟨t', by simpa using e1, e2⟩
theorem kt_keys {H : Hp} {l : List (List L2.Key × V)} {m : List (List L2.Key × Addr × Value)} (q : L2.KT H l m) : ∀ x ∈ m, H x.2.1 = some (.tup (x.1.map kV)) := by
  induction q with
  | nil => intro x hx; exact nomatch hx
  | @cons p q ps qs hq t ih =>
    intro x hx
    rcases List.mem_cons.mp hx with e | hx
    · subst e; rw [← hq.1]; exact hq.2.1
    · exact ih x hx
theorem cr_dictT (hcalm : X.calm = true) (hu : X.A.units + 2 < cLine) : CallR X (.type "dict") (fun vs H Q => ∃ (a : Addr) (ts : List (Addr × Addr × List L2.Key × V)), vs = [.ref a] ∧ SqL X.K H a (ts.map fun t => V.ref t.1) ∧
    (∀ t ∈ ts, H t.1 = some (.tup [.ref t.2.1, t.2.2.2]) ∧ H t.2.1 = some (.tup (t.2.2.1.map kV))) ∧ ∀ p, H p = none → Q (.ref p) (upd H p (.dT (mergeT [] (ts.map fun t => (t.2.2.1, t.2.2.2)))))) := by
  intro pins s σ H xs us Q I r q
  obtain ⟨a, ts, ex, hq, hp, q⟩ := q
  subst ex
  obtain ⟨u, eu, rx⟩ := vals1 r
  subst eu
  cases rx
  obtain ⟨its, rv, pl, hz⟩ := I.list hq
  have ei : its = ts.map fun t => Value.ref t.1 := by
    have := L2.refs_at (ps := ts.map (·.1)) (us := its) (by rw [List.map_map]; exact rv)
    rw [this, List.map_map]
    rfl
  subst ei
  rw [List.length_map] at hz
  obtain ⟨ps, rel, hl, hpr⟩ := pairsT I ts hp
  obtain ⟨o, n, ho, hc, hd, hdat⟩ := pl
  have hks := kt_keys rel
  refine PySem.call_dict_pairsH (knd := tupleKind (mixKind X.prog X.w)) (ps := ps) (Rel := PySem.PairRel (ps.map fun q => (Value.ref q.2.1, q.2.2)))
    (PySem.PairArg.list a ((ts.map fun t => Value.ref t.1).toArray) (fun j => ((ts[j]?).map (·.1)).getD 0) (ps.map fun q => (Value.ref q.2.1, q.2.2))) (I.ok.hd hcalm) ?room ⟨⟨o, _, ho, hc, hd, hdat⟩, ?items⟩ ?have_ ?stay (by rw [List.length_map, hl]; exact hz) fun h' tk hd' hk => ?_
  case room => exact tupleKind_room_in1 (by show X.A.units + 1 + 1 < cLine; omega)
  case items =>
    refine ⟨by simp [hl], fun j k v hj => ?_⟩
    rw [List.getElem?_map] at hj
    cases hq : ps[j]? with
    | none => rw [hq] at hj; cases hj
    | some q =>
      rw [hq] at hj
      cases Option.some.inj hj
      obtain ⟨t, e1, e2⟩ := hpr j q hq
      refine ⟨by simp [e1], .inl ?_⟩
      simp only [e1, Option.map_some, Option.getD_some]
      exact e2
  case have_ =>
    refine ⟨by simp, fun j k v hj => ?_⟩
    have hj : (ps.map fun q => (Value.ref q.2.1, q.2.2))[j]? = some (k, v) := hj
    rw [List.getElem?_map] at hj
    cases hq : ps[j]? with
    | none => rw [hq] at hj; cases hj
    | some q =>
      rw [hq] at hj
      cases Option.some.inj hj
      exact ⟨q.1, q.2.1, rfl, rfl⟩
  case stay =>
    intro h' hk x hx
    have k := key_of I.hok (hks x hx)
    obtain ⟨ok, items, nk, h1, h2, h3, h4⟩ := k
    exact ⟨ok, items, nk, hk _ _ (Nat.ne_of_lt (Heap.lt_size h1)) (fun z => nomatch z) h1, h2, h3, h4⟩
  · have hm : (s.heap.objs.size == sysModules) = false := beq_eq_false_iff_ne.mpr (Nat.ne_of_gt I.big)
    have hlen : (mergeT [] (ts.map fun t => (t.2.2.1, t.2.2.2))).length ≤ sizeLine := by
      refine Nat.le_trans (length_mergeT _ []) ?_
      rw [List.length_nil, Nat.zero_add, List.length_map]
      exact hz
    have hn : H s.heap.objs.size = none := I.hok.fresh (Nat.le_refl _)
    obtain ⟨q', es, ep, hq', h2, h3, h4, _, h5⟩ := hd'
    refine ⟨.ref s.heap.objs.size, upd H s.heap.objs.size (.dT (mergeT [] (ts.map fun t => (t.2.2.1, t.2.2.2)))), I.laid (t' := tk) (fun b ob e => hk b ob (fun z => nomatch z) e) (Nat.le_refl _) ?_, rfl, q _ hn⟩
    refine ⟨hlen, hm, _, (KT.merge rel .nil).keeps fun c ys ec => ?_, q', es, ep, hq', h2, h3, h4, h5⟩
    rw [upd_ne (ne_of_none ec hn)]
    exact ec
end
end ML
namespace ML
open PySem L2
def pairKV : D → Option (List L2.Key × D)
  | .tup [k, v] => (keyT k).map fun k => (k, v)
  | _ => none
def m_dictQ : List D → Sto → R D
  | [x], S => match lstOf S x with
    | some ds => (match opAll pairKV ds with
      | some kvs => .ok (.loc S.length) (S ++ [.dT (mergeD [] kvs)])
      | none => .bad)
    | none => .bad
  | _, _ => .bad
section
variable {K : PySem.W.Frag} {mg : Str → Option Value} {ρ : Mp} {H : Hp}
theorem pairs_at : ∀ {ds : List D} {xs : List V} {kvs : List (List L2.Key × D)}, opAll pairKV ds = some kvs → RVs K mg ρ H ds xs →
    ∃ ts : List (Addr × Addr × List L2.Key × V), xs = ts.map (fun t => V.ref t.1) ∧ (∀ t ∈ ts, H t.1 = some (.tup [.ref t.2.1, t.2.2.2]) ∧ H t.2.1 = some (.tup (t.2.2.1.map kV))) ∧ RTab K mg ρ H kvs (ts.map fun t => (t.2.2.1, t.2.2.2))
  | [], _, kvs, h, .nil => by cases h; exact ⟨[], rfl, fun t ht => (nomatch ht), .nil⟩
  | d :: ds, _, kvs, h, .cons (v := v) r t => by
    unfold opAll at h
    cases h1 : pairKV d with
    | none => simp [h1] at h
    | some kv =>
      cases h2 : opAll pairKV ds with
      | none => simp [h1, h2] at h
      | some kvs' =>
        simp [h1, h2] at h
        subst h
        obtain ⟨ts, rfl, hts, rt⟩ := pairs_at h2 t
        unfold pairKV at h1
        split at h1
        · next k w =>
          cases h3 : keyT k with
          | none => rw [h3] at h1; cases h1
          | some kk =>
            rw [h3] at h1
            cases Option.some.inj h1
            obtain ⟨a, ys, rfl, ha, ry⟩ := tup_at r
            obtain ⟨y1, y2, rfl, r1, r2⟩ := ry.two
            obtain ⟨b, rfl, hb, _⟩ := keyT_at h3 r1
            refine ⟨(a, b, kk, y2) :: ts, rfl, fun t ht => ?_, .cons r2 rt⟩
            rcases List.mem_cons.mp ht with rfl | ht
            · exact ⟨ha.1, hb⟩
            · exact hts t ht
        · cases h1
end
section
variable {X : Cx}
theorem gc_dictQ (hc : X.calm = true) (hu : X.A.units + 2 < cLine) : GC X (.type "dict") m_dictQ := fun pins s σ H xs us Q I r ⟨ρ, S, ds, rp, rx, p⟩ => by
  unfold m_dictQ at p
  split at p
  · obtain ⟨v, rfl, r1⟩ := rx.one
    split at p
    · next es q1 =>
      split at p
      · next kvs q2 =>
        obtain ⟨a, ws, rfl, h1, r2⟩ := lst_at rp r1 q1
        obtain ⟨ts, rfl, hts, rt⟩ := pairs_at q2 r2
        refine cr_dictT hc hu pins s σ H _ us Q I r ⟨a, ts, rfl, h1, hts, fun z hz => ?_⟩
        obtain ⟨ys, ey, ry⟩ := (rt.merge (kvs := []) (us := []) .nil).vals
        rw [ey]
        exact p _ _ _ (Ext.add hz) (rp.add hz (RO.dT ry)) (.loc (add_get rp))
      · exact p.elim
    · exact p.elim
  · exact p.elim
end
/-! ### sorted -/
/-- a before b, or alike -/
def leP (a b : Int × Int) : Bool := decide (a.1 < b.1) || (decide (a.1 = b.1) && decide (a.2 ≤ b.2))
def insB {α : Type} (le : α → α → Bool) (a : α) : List α → List α
  | [] => [a]
  | b :: r => if le a b = true then a :: b :: r else b :: insB le a r
def sortB {α : Type} (le : α → α → Bool) : List α → List α
  | [] => []
  | a :: r => insB le a (sortB le r)
abbrev sortP := sortB leP
def leI (a b : Int) : Bool := decide (a ≤ b)
theorem insB_perm {α : Type} (le : α → α → Bool) (a : α) : ∀ r : List α, (insB le a r).Perm (a :: r)
  | [] => .refl _
  | b :: r => by
    unfold insB
    split
    · exact .refl _
    · exact ((insB_perm le a r).cons b).trans (.swap a b r)
theorem sortB_perm {α : Type} (le : α → α → Bool) : ∀ r : List α, (sortB le r).Perm r
  | [] => .refl _
  | a :: r => (insB_perm le a _).trans ((sortB_perm le r).cons a)
theorem sortB_mem {α : Type} {le : α → α → Bool} {a : α} {r : List α} : a ∈ sortB le r ↔ a ∈ r := (sortB_perm le r).mem_iff
theorem insB_srt {α : Type} {le : α → α → Bool} (tot : ∀ a b, le a b = true ∨ le b a = true) (tr : ∀ a b c, le a b = true → le b c = true → le a c = true) (a : α) : ∀ {r : List α}, r.Pairwise (fun x y => le x y = true) → (insB le a r).Pairwise (fun x y => le x y = true)
  | [], _ => by simp [insB]
  | b :: r, h => by
    obtain ⟨h1, h2⟩ := List.pairwise_cons.mp h
    unfold insB
    split
    · next c =>
      refine List.pairwise_cons.mpr ⟨fun y hy => ?_, h⟩
      rcases List.mem_cons.mp hy with rfl | hy
      · exact c
      · exact tr _ _ _ c (h1 y hy)
    · next c =>
      refine List.pairwise_cons.mpr ⟨fun y hy => ?_, insB_srt tot tr a h2⟩
      rcases List.mem_cons.mp ((insB_perm le a r).mem_iff.mp hy) with rfl | hy
      · exact (tot y b).resolve_left c
      · exact h1 y hy
theorem sortB_srt {α : Type} {le : α → α → Bool} (tot : ∀ a b, le a b = true ∨ le b a = true) (tr : ∀ a b c, le a b = true → le b c = true → le a c = true) : ∀ r : List α, (sortB le r).Pairwise (fun x y => le x y = true)
  | [] => .nil
  | a :: r => insB_srt tot tr a (sortB_srt tot tr r)
theorem perm_uniq {α : Type} {R : α → α → Prop} (anti : ∀ a b, R a b → R b a → a = b) : ∀ {l m : List α}, l.Pairwise R → m.Pairwise R → l.Perm m → l = m
  | [], m, _, _, h => (List.Perm.eq_nil h.symm).symm
  | x :: l, [], _, _, h => absurd h.length_eq (by simp)
  | x :: l, y :: m, hl, hm, h => by
    obtain ⟨hl1, hl2⟩ := List.pairwise_cons.mp hl
    obtain ⟨hm1, hm2⟩ := List.pairwise_cons.mp hm
    have e : x = y := by
      rcases List.mem_cons.mp (h.mem_iff.mp (List.mem_cons_self (a := x) (l := l))) with e | hx
      · exact e
      · rcases List.mem_cons.mp (h.mem_iff.mpr (List.mem_cons_self (a := y) (l := m))) with e | hy
        · exact e.symm
        · exact anti _ _ (hl1 y hy) (hm1 x hx)
    subst e
    rw [perm_uniq anti hl2 hm2 h.cons_inv]
theorem leP_tot (a b : Int × Int) : leP a b = true ∨ leP b a = true := by
  unfold leP
  simp only [Bool.or_eq_true, Bool.and_eq_true, decide_eq_true_eq]
  omega
theorem leP_tr (a b c : Int × Int) (h1 : leP a b = true) (h2 : leP b c = true) : leP a c = true := by
  unfold leP at *
  simp only [Bool.or_eq_true, Bool.and_eq_true, decide_eq_true_eq] at *
  omega
theorem leP_anti (a b : Int × Int) (h1 : leP a b = true) (h2 : leP b a = true) : a = b := by
  unfold leP at *
  simp only [Bool.or_eq_true, Bool.and_eq_true, decide_eq_true_eq] at *
  exact Prod.ext (by omega) (by omega)
theorem sortP_srt (r : List (Int × Int)) : (sortP r).Pairwise (fun x y => leP x y = true) := sortB_srt leP_tot leP_tr r
theorem leP_lex {a b : Int × Int} (h : SrtO.lexB b a = false) : leP a b = true := by
  have := SrtO.lexB_no.mp h
  unfold leP
  simp only [Bool.or_eq_true, Bool.and_eq_true, decide_eq_true_eq]
  omega
def pairI : D → Option (Int × Int)
  | .tup [.int i, .int j] => some (i, j)
  | _ => none
def pairK : List L2.Key → Option (Int × Int)
  | [.inl i, .inl j] => some (i, j)
  | _ => none
def pD (p : Int × Int) : D := .tup [.int p.1, .int p.2]
def m_sortQ : List D → Sto → R D
  | [x], S => match dOf S x with
    | some kvs => (match opAll pairK (kvs.map (·.1)) with
      | some ps => .ok (.fzl ((sortP ps).map pD)) S
      | none => .bad)
    | none => (match lstOf S x with
      | some ds => (match opAll pairI ds with
        | some ps => .ok (.fzl ((sortP ps).map pD)) S
        | none => (match intsOf ds with
          | some ns => .ok (.fzl ((sortB leI ns).map D.int)) S
          | none => .bad))
      | none => .bad)
  | _, _ => .bad
/-- the pair of ints that stands at a reference -/
def kH (H : Hp) : V → Int × Int
  | .ref t => (match H t with
    | some (.tup [.int i, .int j]) => (i, j)
    | _ => (0, 0))
  | _ => (0, 0)
section
variable {X : Cx}
theorem cr_sortedDT (hc : X.calm = true) : CallR X (.builtin "sorted") (fun vs H Q => ∃ (d : Addr) (kvs : List (List L2.Key × V)), vs = [.ref d] ∧ H d = some (.dT kvs) ∧ (∀ p ∈ kvs, ∃ i j, p.1 = [.inl i, .inl j]) ∧
    ∀ bs ys p, IsKeys H kvs bs → SrtO.Srtd (ltP (kH H)) ys → ys.Perm (bs.map V.ref) → H p = none → Q (.ref p) (upd H p (.lst ys))) := by
  intro pins s σ H xs us Q I r q
  obtain ⟨d, kvs, rfl, hd, hpk, q⟩ := q
  obtain ⟨u, rfl, rx⟩ := vals1 r
  cases rx
  obtain ⟨z, hs, ks, pr, o, es, ep, ho, hx, hdt, he, hn⟩ := (show ObjOk X.prog X.w H s.heap d (.dT kvs) from I.hok _ _ hd)
  have l1 : es.size = ks.length := size_of_entries he
  have l2 : kvs.length = ks.length := Paired.length pr
  have hks : ∀ x ∈ ks, ∃ i j, H x.2.1 = some (.tup [.int i, .int j]) := by
    have : ∀ {l : List (List L2.Key × V)} {m : List (List L2.Key × Addr × Value)}, L2.KT H l m → (∀ p ∈ l, ∃ i j, p.1 = [.inl i, .inl j]) → ∀ x ∈ m, ∃ i j, H x.2.1 = some (.tup [.int i, .int j]) := by
      intro l m q
      induction q with
      | nil => intro _ x hx; exact nomatch hx
      | @cons p q ps qs hq t ih =>
        intro hp x hx
        rcases List.mem_cons.mp hx with e | hx
        · subst e
          obtain ⟨i, j, e⟩ := hp p (List.mem_cons_self ..)
          have h2 := hq.2.1
          rw [e] at h2
          exact ⟨i, j, h2⟩
        · exact ih (fun p hp' => hp p (List.mem_cons_of_mem _ hp')) x hx
    exact this pr hpk
  refine Calls.call_function_entry PyProof.Rows.kind_sorted PyProof.Rows.plain_sorted PyProof.Rows.entry_sorted (PyProof.Rows.args_sorted1 _) ?_
  unfold Builtin.«sorted»
  refine wpAny_bind (m := checkCount "sorted" 1 1 _) (wpAny_pure ?_)
  refine wpAny_bind (PySem.W.kdu_collect (A := X.A.in1) (kdl_raw hs hx hdt) (I.ok.hd hc) ho (by omega) fun h' tk acc hk it => ?_)
  have ea : acc.toList = ks.map fun x => Value.ref x.2.1 := by
    have hl : acc.toList.length = ks.length := by rw [Array.length_toList, it.1]; exact l1
    apply List.ext_getElem?
    intro j
    rw [List.getElem?_map]
    cases hj : acc.toList[j]? with
    | none =>
      have h1 := List.getElem?_eq_none_iff.mp hj
      rw [List.getElem?_eq_none (by omega)]
      all_goals rfl
    | some v =>
      obtain ⟨en, hen, hv⟩ := it.2 j v (by rw [← Array.getElem?_toList]; exact hj)
      have qe := entry_at he j
      rw [hen] at qe
      cases hb : ks[j]? with
      | none =>
        rw [hb] at qe
        exact nomatch (show some en = none from qe)
      | some b =>
        rw [hb] at qe
        have e2 : en = entryOfKey (tupleKind (mixKind X.prog X.w)) b := Option.some.inj qe
        rw [hv, e2]
        all_goals rfl
  have hal : acc.toList.length ≤ sizeLine := by rw [ea, List.length_map]; omega
  have I1 : L2.Inv X pins σ H { s with heap := h', toks := tk } := I.kept hk
  refine wpAny_bind (wpAny_newList ?_ hal)
  have hoL : (h'.push (PyProof.Rows.seqObj "list" acc.toList.toArray 0)).get? h'.objs.size = some (PyProof.Rows.seqObj "list" acc.toList.toArray 0) := Heap.get?_push_size _ rfl
  show wpAny _ _ _ _ _ { s with heap := h'.push (PyProof.Rows.seqObj "list" acc.toList.toArray 0), toks := tk }
  have hp : ∀ v ∈ acc.toList, Srt.IsPair (h'.push (PyProof.Rows.seqObj "list" acc.toList.toArray 0)) v (kH H (backV v)).1 (kH H (backV v)).2 := fun v hv => by
    rw [ea] at hv
    obtain ⟨x, hx, rfl⟩ := List.mem_map.mp hv
    obtain ⟨i, j, hh⟩ := hks x hx
    obtain ⟨_, its2, r2, o, ho, hc, n, hd⟩ := I1.hok _ _ hh
    obtain ⟨u1, u2, rfl, ri, rj⟩ := vals2 r2
    obtain ⟨t1, rfl⟩ := ri
    obtain ⟨t2, rfl⟩ := rj
    have e : kH H (backV (Value.ref x.2.1)) = (i, j) := by
      show kH H (.ref x.2.1) = _
      simp only [kH, hh]
    rw [e]
    exact ⟨x.2.1, o, t1, t2, n, rfl, Heap.get?_push_of_some _ ho, hc, hd⟩
  refine wpAny_bind (wpAny_holding (wpAny_call_entry PyProof.Rows.slot_list_sort ⟨_, hoL, rfl⟩ PyProof.Rows.entry_list_sort
    (SrtO.list_sort_ord (s := { s with heap := h'.push (PyProof.Rows.seqObj "list" acc.toList.toArray 0), toks := tk }) (SrtO.swo_lex fun u => kH H (backV u)) hoL hal (fun h2 => SrtO.pairs_sortableO (by omega) hp fun o e => ?_) fun out h1 h2 => ⟨_, rfl, ?_⟩)
    (PyProof.Rows.args_list_sort _)))
  · have e' : some o = some (PyProof.Rows.seqObj "list" acc.toList.toArray 0) := e.symm.trans hoL
    cases e'
    intro c
    exact absurd (Value.type.inj c) (by decide)
  · have h3 : ∀ u ∈ out, ∃ a, u = Value.ref a := fun u hu => by
      have := h2.perm.mem_iff.mp hu
      rw [ea] at this
      obtain ⟨x, _, rfl⟩ := List.mem_map.mp this
      exact ⟨_, rfl⟩
    obtain ⟨e', he'⟩ := PyProof.Rows.sortedHeap_at (vs := acc.toList) (out := out.toArray) hoL
    have hpm : (out.map backV).Perm ((ks.map fun x => x.2.1).map V.ref) := by
      have := h2.perm.map backV
      rw [ea, List.map_map] at this
      rw [List.map_map]
      exact this
    have hlen : (out.map backV).length ≤ sizeLine := by
      rw [hpm.length_eq, List.length_map, List.length_map]
      omega
    refine wpAny_pure ⟨_, rfl, .ref h'.objs.size, upd H h'.objs.size (.lst (out.map backV)), I1.laid (t' := tk) (fun b u e => ?_) (Nat.le_refl _) ⟨hlen, out, e', vals_back h3, he'⟩, rfl,
      q _ _ _ (isKeys_of pr) (SrtO.srtd_map h1) hpm (I1.hok.fresh (Nat.le_refl _))⟩
    have hb : b < h'.objs.size := Heap.lt_size e
    rw [PyProof.Rows.sortedHeap_old (Nat.ne_of_lt hb) (by rw [PyProof.Rows.size_push']; exact Nat.lt_succ_of_lt hb)]
    exact Heap.get?_push_of_some _ e
end
section
variable {K : PySem.W.Frag} {mg : Str → Option Value} {ρ : Mp} {H : Hp} {S : Sto}
theorem Rep.tupOut (rp : Rep K mg ρ H S) {b : Addr} {xs : List V} (h : H b = some (.tup xs)) : b ∉ ρ := by
  intro m
  rcases m with m | m
  · obtain ⟨n, hn, e⟩ := List.getElem_of_mem m
    obtain ⟨u, hu, ro⟩ := rp.at_ n b (S[n]'(rp.len ▸ hn)) (by rw [List.getElem?_eq_getElem hn, e]) (List.getElem?_eq_getElem _)
    rw [h] at hu
    cases hu
    generalize S[n]'(rp.len ▸ hn) = o at ro
    cases ro
  · obtain ⟨⟨ys, q⟩, _⟩ := rp.hd b m
    rw [h] at q
    cases q
/-- references to pairs of ints, told by kH -/
theorem pairs_rv (rp : Rep K mg ρ H S) : ∀ {ys : List V}, (∀ y ∈ ys, ∃ b i j, y = .ref b ∧ H b = some (.tup [.int i, .int j])) → RVs K mg ρ H ((ys.map (kH H)).map pD) ys
  | [], _ => .nil
  | y :: ys, h => by
    refine .cons ?_ (pairs_rv rp fun z hz => h z (List.mem_cons_of_mem _ hz))
    obtain ⟨b, i, j, rfl, hb⟩ := h y (List.mem_cons_self ..)
    have e : kH H (.ref b) = (i, j) := by simp only [kH, hb]
    rw [e]
    exact .tup ⟨hb, rp.tupOut hb⟩ (.cons (.int i) (.cons (.int j) .nil))
theorem sorted_ys {ps : List (Int × Int)} {ys xs : List V} (hs : SrtO.Srtd (ltP (kH H)) ys) (hp : ys.Perm xs) (hx : xs.map (kH H) = ps) : ys.map (kH H) = sortP ps := by
  refine perm_uniq leP_anti (R := fun x y => leP x y = true) ?_ (sortP_srt ps) ?_
  · rw [List.pairwise_map]
    exact hs.imp fun h => leP_lex h
  · rw [← hx]
    exact (hp.map _).trans (sortB_perm leP _).symm
theorem pairI_at : ∀ {ds : List D} {xs : List V} {ps : List (Int × Int)}, opAll pairI ds = some ps → RVs K mg ρ H ds xs → (∀ x ∈ xs, ∃ b i j, x = .ref b ∧ H b = some (.tup [.int i, .int j])) ∧ xs.map (kH H) = ps
  | [], _, ps, h, .nil => by cases h; exact ⟨fun x hx => (nomatch hx), rfl⟩
  | d :: ds, _, ps, h, .cons (v := v) r t => by
    unfold opAll at h
    cases h1 : pairI d with
    | none => simp [h1] at h
    | some p =>
      cases h2 : opAll pairI ds with
      | none => simp [h1, h2] at h
      | some ps' =>
        simp [h1, h2] at h
        subst h
        obtain ⟨g1, g2⟩ := pairI_at h2 t
        unfold pairI at h1
        split at h1
        · next i j =>
          cases h1
          obtain ⟨a, ws, rfl, ha, rw'⟩ := tup_at r
          obtain ⟨w1, w2, rfl, r1, r2⟩ := rw'.two
          cases r1; cases r2
          refine ⟨fun x hx => ?_, ?_⟩
          · rcases List.mem_cons.mp hx with rfl | hx
            · exact ⟨a, i, j, rfl, ha.1⟩
            · exact g1 x hx
          · rw [List.map_cons, g2]
            have e : kH H (.ref a) = (i, j) := by simp only [kH, ha.1]
            rw [e]
        · cases h1
theorem isKeys_pairs : ∀ {us : List (List L2.Key × V)} {bs : List Addr} {ps : List (Int × Int)}, IsKeys H us bs → opAll pairK (us.map (·.1)) = some ps → (∀ x ∈ bs.map V.ref, ∃ b i j, x = .ref b ∧ H b = some (.tup [.int i, .int j])) ∧ (bs.map V.ref).map (kH H) = ps
  | [], _, ps, .nil, h => by cases h; exact ⟨fun x hx => (nomatch hx), rfl⟩
  | u :: us, _, ps, .cons (b := b) r t, h => by
    rw [List.map_cons] at h
    unfold opAll at h
    cases h1 : pairK u.1 with
    | none => simp [h1] at h
    | some p =>
      cases h2 : opAll pairK (us.map (·.1)) with
      | none => simp [h1, h2] at h
      | some ps' =>
        simp [h1, h2] at h
        subst h
        obtain ⟨g1, g2⟩ := isKeys_pairs t h2
        unfold pairK at h1
        split at h1
        · next i j q =>
          cases h1
          rw [q] at r
          have r : H b = some (.tup [.int i, .int j]) := r
          refine ⟨fun x hx => ?_, ?_⟩
          · rcases List.mem_cons.mp hx with rfl | hx
            · exact ⟨b, i, j, rfl, r⟩
            · exact g1 x hx
          · rw [List.map_cons, List.map_cons, g2]
            have e : kH H (.ref b) = (i, j) := by simp only [kH, r]
            rw [e]
        · cases h1
end
section
variable {X : Cx}
theorem pairK_keys : ∀ {l : List (List L2.Key × V)} {ps : List (Int × Int)}, opAll pairK (l.map (·.1)) = some ps → ∀ p ∈ l, ∃ i j, p.1 = [.inl i, .inl j]
  | [], _, _, p, hp => nomatch hp
  | u :: us, ps, h, p, hp => by
    rw [List.map_cons] at h
    unfold opAll at h
    cases h1 : pairK u.1 with
    | none => simp [h1] at h
    | some q =>
      cases h2 : opAll pairK (us.map (·.1)) with
      | none => simp [h1, h2] at h
      | some ps' =>
        rcases List.mem_cons.mp hp with rfl | hp
        · unfold pairK at h1
          split at h1
          · next i j e => exact ⟨i, j, e⟩
          · cases h1
        · exact pairK_keys h2 p hp
theorem gc_sortQ (hc : X.calm = true) : GC X (.builtin "sorted") m_sortQ := fun pins s σ H xs us Q I r ⟨ρ, S, ds, rp, rx, p⟩ => by
  unfold m_sortQ at p
  split at p
  · obtain ⟨v, rfl, r1⟩ := rx.one
    split at p
    · next kvs q1 =>
      split at p
      · next ps q2 =>
        obtain ⟨n, a, ts, rfl, hS, ha, rfl, hH, rt⟩ := dOf_at rp q1 r1
        rw [rt.keys] at q2
        refine cr_sortedDT hc pins s σ H _ us Q I r ⟨a, ts, rfl, hH, pairK_keys q2, fun bs ys z hk hs hp hz => ?_⟩
        obtain ⟨g1, g2⟩ := isKeys_pairs hk q2
        have e := sorted_ys hs hp g2
        refine p ρ _ _ (Ext.new hz) (rp.new hz) ?_
        rw [← e]
        exact .fzl (FAt.new rp hz) ((pairs_rv rp fun y hy => g1 y (hp.mem_iff.mp hy)).ext (Ext.new hz))
      · exact p.elim
    · split at p
      · next es q1 =>
        obtain ⟨a, ws, rfl, h1, r2⟩ := lst_at rp r1 q1
        split at p
        · next ps q2 =>
          obtain ⟨g1, g2⟩ := pairI_at q2 r2
          refine cr_sortedPO pins s σ H _ us Q I r ⟨a, ws, kH H, rfl, h1, fun x hx => ?_, fun ys z hs hb hz => ?_⟩
          · obtain ⟨b, i, j, rfl, hb⟩ := g1 x hx
            refine ⟨b, rfl, ?_⟩
            have e : kH H (.ref b) = (i, j) := by simp only [kH, hb]
            rw [e]
            exact hb
          · have e := sorted_ys hs hb.perm g2
            refine p ρ _ _ (Ext.new hz) (rp.new hz) ?_
            rw [← e]
            exact .fzl (FAt.new rp hz) ((pairs_rv rp fun y hy => g1 y (hb.perm.mem_iff.mp hy)).ext (Ext.new hz))
        · split at p
          · next ns q3 =>
            have e1 := ints_at r2 q3
            subst e1
            refine cr_sortedI pins s σ H _ us Q I r ⟨a, ns, rfl, h1, fun ns' z hp hs hz => ?_⟩
            have e : ns' = sortB leI ns := perm_uniq (R := fun x y : Int => x ≤ y) (fun a b h1 h2 => Int.le_antisymm h1 h2) hs
              ((sortB_srt (le := leI) (fun a b => by simp only [leI, decide_eq_true_eq]; omega) (fun a b c h1 h2 => by simp only [leI, decide_eq_true_eq] at *; omega) ns).imp fun h => of_decide_eq_true h) (hp.trans (sortB_perm leI ns).symm)
            subst e
            refine p ρ _ _ (Ext.new hz) (rp.new hz) (.fzl (FAt.new rp hz) ?_)
            exact ints_rv _
          · exact p.elim
      · exact p.elim
  · exact p.elim
end
end ML
/-! the values of a dict with tuple keys: list(d.values()), max(d.values()), sum(d.values()) -/
namespace ML
open PySem L2 PyProof.Rows
section
variable {prog : Program} {w : World} {A : Around} {E : Value → Shared → Prop} {s : Shared}
theorem meetsVals {d : Addr} {es : Array DictEntry} {ep : Nat} (hd : (d == sysModules) = false) :
    MeetsIn prog w (Builtin.«dict.values» ⟨[.ref d], []⟩) (fun _ R s => DT.Raw s.heap d es ep ∧
      R (.ok (.ret (.ref s.heap.objs.size))) { s with heap := s.heap.push { cls := .type "dict_values", data := .fields #[.ref d] } }) :=
  .of_wp fun A R s ⟨hm, h⟩ => by
    unfold Builtin.«dict.values»
    refine wpAny_bind ?_
    unfold Builtin.Dict.noArgs
    refine wpAny_bind (wpAny_notOrdered_dict hm.typeIs ?_)
    show wpAny _ _ (pure d) _ _ s
    refine wpAny_pure ?_
    show wpAny _ _ (Builtin.Dict.showsAll d >>= _) _ _ s
    unfold Builtin.Dict.showsAll
    rw [if_neg (by rw [hd]; exact Bool.false_ne_true)]
    refine wpAny_bind (wpAny_pure ?_)
    exact wpAny_bind (wpAny_newObj_type (wpAny_pure ⟨_, rfl, h⟩))
theorem callVals {d : Addr} {es : Array DictEntry} {ep : Nat} {Q : Value → Shared → Prop} (hd : (d == sysModules) = false) (hm : DT.Raw s.heap d es ep)
    (h : Q (.ref s.heap.objs.size) { s with heap := s.heap.push { cls := .type "dict_values", data := .fields #[.ref d] } }) : wpAny (model prog w) A (call (.builtin "dict.values") [.ref d]) Q E s :=
  call_meetsIn PySem.F.slot_dict_values hm.typeIs PySem.F.entry_dict_values (PySem.F.args_dict_values_1 _) (meetsVals (es := es) (ep := ep) hd) ⟨hm, h⟩
theorem srcVals {v a : Addr} {ob : Obj} {es : Array DictEntry} {ep : Nat} (hdd : ob.data = .dict es ep) :
    PySem.W.KdlSrc prog w "dict_values" v a es.size (fun i u => ∃ en : DictEntry, es[i]? = some en ∧ u = en.val) (fun h => h.get? v = some (DSub.viewOb "dict_values" a) ∧ h.get? a = some ob) where
  type := fun _ hm => ⟨_, hm.1, rfl⟩
  there := fun _ hm => ⟨Heap.lt_size hm.1, Heap.lt_size hm.2⟩
  keep := fun _ _ hm hk => ⟨hk v (.inl rfl) _ hm.1, hk a (.inr rfl) _ hm.2⟩
  notList := by decide
  notTuple := by decide
  hint := fun _ _ s _ hm hq => PySem.W.kdl_hint_values (s := s) ⟨_, hm.1, rfl⟩ hq
  iter := fun _ s hh hm => ⟨_, _, (fun _ _ hq => DSub.iter_vals hm.1 hm.2 hdd hq), DSub.walksVal hh (Nat.ne_of_lt (Heap.lt_size hm.2)) hdd (fun i e he => ⟨e, he, rfl⟩), ⟨Heap.get?_push_size _ rfl, Heap.get?_push_of_some _ hm.2⟩⟩
end
/-- the view d.values() at p -/
def valsO (p d : Addr) : HO := .ext fun h => h.get? p = some (DSub.viewOb "dict_values" d)
theorem valsO_ok {P : Program} {w : World} {H : Hp} {h : Heap} {p d : Addr} (e : h.get? p = some (DSub.viewOb "dict_values" d)) : ObjOk P w H h p (valsO p d) :=
  ⟨e, ⟨_, e⟩, fun h1 h2 x k => k _ x⟩
section
variable {X : Cx}
theorem mt_valsT : MtR X "dict.values" (fun x xs H Q => ∃ (a : Addr) (kvs : List (List L2.Key × V)), x = .ref a ∧ xs = [] ∧ H a = some (.dT kvs) ∧ ∀ p, H p = none → Q (.ref p) (upd H p (valsO p a))) := by
  intro pins s σ H x xs v us Q I rx rxs h
  obtain ⟨a, kvs, rfl, rfl, ha, q⟩ := h
  cases rx
  cases rxs
  obtain ⟨z, hd, xs', rel, o, es, ep, ho, hx, hdat, _⟩ := dt_of I.hok ha
  refine callVals (es := es) (ep := ep) hd ⟨o, ho, hx, hdat⟩ ?_
  have hf : H s.heap.objs.size = none := I.hok.fresh (Nat.le_refl _)
  exact ⟨.ref s.heap.objs.size, upd H s.heap.objs.size (valsO s.heap.objs.size a), I.laid (t' := s.toks) (fun _ _ e => Heap.get?_push_of_some _ e) (Nat.le_refl _) (valsO_ok (Heap.get?_push_size _ rfl)), rfl, q _ hf⟩
/-- what the entries of a dict hold -/
theorem vals_entries {H : Hp} {kvs : List (List L2.Key × V)} {ks : List (List L2.Key × Addr × Value)} {es : Array DictEntry} {P : Program} {w : World} (pr : Paired (fun (p : List L2.Key × V) (q : List L2.Key × Addr × Value) => p.1 = q.1 ∧ H q.2.1 = some (.tup (p.1.map kV)) ∧ RelV p.2 q.2.2) kvs ks)
    (he : es.toList = ks.map (entryOfKey (tupleKind (mixKind P w)))) : es.size = kvs.length ∧ ∀ (i : Nat) (en : DictEntry), es[i]? = some en → ∃ v, (kvs.map (·.2))[i]? = some v ∧ RelV v en.val := by
  have l1 : es.size = ks.length := size_of_entries he
  have l2 : kvs.length = ks.length := Paired.length pr
  refine ⟨by omega, fun i en hen => ?_⟩
  have qe := entry_at he i
  rw [hen] at qe
  cases hb : ks[i]? with
  | none => rw [hb] at qe; exact nomatch (show some en = none from qe)
  | some b =>
    rw [hb] at qe
    have e2 : en = entryOfKey (tupleKind (mixKind P w)) b := Option.some.inj qe
    obtain ⟨y, h1, h2⟩ := L2.DX.pget pr hb
    refine ⟨y.2, by rw [List.getElem?_map, h1]; rfl, ?_⟩
    rw [e2]
    exact h2.2.2
theorem vals_acc {zs : List V} {es : Array DictEntry} (hl : es.size = zs.length) (hP : ∀ (i : Nat) (en : DictEntry), es[i]? = some en → ∃ v, zs[i]? = some v ∧ RelV v en.val) : ∀ {us : List Value}, us.length = zs.length → (∀ (j : Nat) (u : Value), us[j]? = some u → ∃ en : DictEntry, es[j]? = some en ∧ u = en.val) → Vals zs us := by
  intro us hlen hu
  have : ∀ (n : Nat) (zs : List V) (us : List Value), zs.length = n → us.length = n → (∀ (j : Nat) (u : Value), us[j]? = some u → ∃ v, zs[j]? = some v ∧ RelV v u) → Vals zs us := by
    intro n
    induction n with
    | zero => intro zs us h1 h2 _; rw [List.length_eq_zero_iff.mp h1, List.length_eq_zero_iff.mp h2]; exact .nil
    | succ n ih =>
      intro zs us h1 h2 h
      cases zs with
      | nil => simp at h1
      | cons z zs =>
        cases us with
        | nil => simp at h2
        | cons u us =>
          obtain ⟨v, e, r⟩ := h 0 u rfl
          simp at e
          subst e
          exact .cons r (ih zs us (by simpa using h1) (by simpa using h2) fun j u' e => by simpa using h (j + 1) u' (by simpa using e))
  refine this us.length zs us hlen.symm rfl fun j u e => ?_
  obtain ⟨en, h1, rfl⟩ := hu j u e
  exact hP j en h1
/-- list(d.values()) -/
theorem call_listV (hc : X.calm = true) : CallR X (.type "list") (fun xs H Q => ∃ (p a : Addr) (kvs : List (List L2.Key × V)), xs = [V.ref p] ∧ H p = some (valsO p a) ∧ H a = some (.dT kvs) ∧ ∀ q, H q = none → Q (.ref q) (upd H q (.lst (kvs.map (·.2))))) := by
  intro pins s σ H xs us Q I r h
  obtain ⟨p, a, kvs, rfl, hp, ha, q⟩ := h
  obtain ⟨u, rfl, rx⟩ := r.one
  cases rx
  obtain ⟨z, hs, ks, pr, o, es, ep, ho, hx, hdt, he, hn⟩ := (show ObjOk X.prog X.w H s.heap a (.dT kvs) from I.hok _ _ ha)
  obtain ⟨l1, hP⟩ := vals_entries pr he
  have hv : s.heap.get? p = some (DSub.viewOb "dict_values" a) := (show ObjOk X.prog X.w H s.heap p (valsO p a) from I.hok p _ hp).1
  refine PySem.W.kdl_call (srcVals hdt) (I.ok.hd hc) ⟨hv, ho⟩ (by omega) fun h' tk acc' c' kp e it => ?_
  have rv : Vals (kvs.map (·.2)) acc'.toList := vals_acc (by rw [List.length_map]; exact l1) hP (by rw [Array.length_toList, it.1, List.length_map]; exact l1) fun j u e => it.2 j u (by rw [← Array.getElem?_toList]; exact e)
  have hz : (kvs.map (·.2)).length ≤ sizeLine := by rw [List.length_map]; omega
  refine ⟨.ref s.heap.objs.size, _, I.laid (t' := tk) (o := .lst (kvs.map (·.2))) kp (Nat.le_refl _) ?_, rfl, q _ (I.hok.fresh (Nat.le_refl _))⟩
  exact ⟨hz, acc'.toList, c', rv, by rw [Array.toArray_toList]; exact e⟩
/-- max(d.values()) -/
theorem call_maxV (hc : X.calm = true) : CallR X (.builtin "max") (fun xs H Q => ∃ (p a : Addr) (kvs : List (List L2.Key × V)) (ns : List Int), xs = [V.ref p] ∧ H p = some (valsO p a) ∧ H a = some (.dT kvs) ∧ kvs.map (·.2) = ns.map V.int ∧ 0 < ns.length ∧
    ∀ m, m ∈ ns → (∀ y ∈ ns, y ≤ m) → Q (.int m) H) := by
  intro pins s σ H xs us Q I rx h
  obtain ⟨p, a, kvs, ns, rfl, hp, ha, hns, hne, q⟩ := h
  rw [Vals.ref1 rx]
  obtain ⟨z, hs, ks, pr, o, es, ep, ho, hx, hdt, he, hn⟩ := (show ObjOk X.prog X.w H s.heap a (.dT kvs) from I.hok _ _ ha)
  obtain ⟨l1, hP0⟩ := vals_entries pr he
  have hv : s.heap.get? p = some (DSub.viewOb "dict_values" a) := (show ObjOk X.prog X.w H s.heap p (valsO p a) from I.hok p _ hp).1
  have hkn : kvs.length = ns.length := by
    have e := congrArg List.length hns
    rw [List.length_map, List.length_map] at e
    exact e
  have hsz : es.size = ns.length := l1.trans hkn
  have hP : ∀ (i : Nat) (e : DictEntry), es[i]? = some e → ∃ t, e.val = .int (ns.getD i 0) t := fun i e he => by
    obtain ⟨v, h1, h2⟩ := hP0 i e he
    rw [hns, List.getElem?_map] at h1
    cases q : ns[i]? with
    | none => rw [q] at h1; cases h1
    | some n =>
      rw [q] at h1
      cases Option.some.inj h1
      obtain ⟨t, h2⟩ := h2
      exact ⟨t, by rw [h2, List.getD_eq_getElem?_getD, q]; rfl⟩
  refine call_max_walk ?_
  refine DSub.iter_vals hv ho hdt ?_
  have ha' : a < s.heap.objs.size := Heap.lt_size ho
  refine ⟨s.heap.objs.size, [s.heap.objs.size, a], [s.heap.objs.size], es.size, fun i v => ∃ t, v = .int (ns.getD i 0) t, _, fun i j => decide (ns.getD i 0 > ns.getD j 0), rfl, DSub.walksVal (a := a) (show X.A.in1.handled = none from I.ok.hd hc) (Nat.ne_of_lt ha') hdt hP, ⟨Heap.get?_push_size _ rfl, Heap.get?_push_of_some _ ho⟩, fun b hb => ?_, by omega, CmpOf.ints_gt (fun i => ns.getD i 0) (fun i v z => z), fun v h' tk hv' hk => ?_⟩
  · show b < (s.heap.push _).objs.size
    rw [size_push']
    rcases List.mem_cons.mp hb with z | z
    · rw [z]
      exact Nat.lt_succ_self _
    · rw [List.mem_singleton.mp z]
      exact Nat.lt_succ_of_lt ha'
  · obtain ⟨t, rfl⟩ := hv'
    obtain ⟨m1', m2'⟩ := argBest_gt (fun i => ns.getD i 0) (es.size - 1)
    have m1 : argBest (fun i j => decide (ns.getD i 0 > ns.getD j 0)) (es.size - 1) ≤ es.size - 1 := m1'
    have m2 : ∀ j, j ≤ es.size - 1 → ns.getD j 0 ≤ ns.getD (argBest (fun i j => decide (ns.getD i 0 > ns.getD j 0)) (es.size - 1)) 0 := m2'
    have hk2 : ∀ b o, s.heap.get? b = some o → h'.get? b = some o := fun b o e => hk b o (fun z => by rw [List.mem_singleton.mp z] at e; exact absurd (Heap.lt_size e) (Nat.lt_irrefl _)) (Heap.get?_push_of_some _ e)
    refine ⟨.int _, H, I.kept (t' := tk) hk2, ⟨t, rfl⟩, q _ (PySem.getD_mem (by omega)) fun y hy => ?_⟩
    obtain ⟨j, hj, e⟩ := List.getElem_of_mem hy
    have e2 : ns.getD j 0 = y := by rw [List.getD_eq_getElem?_getD, List.getElem?_eq_getElem hj, e]; rfl
    rw [← e2]
    exact m2 j (by omega)
end
def m_maxV (x : D) (S : Sto) : R D := match dOf S x with
  | some kvs => (match intsOf (kvs.map (·.2)) with
    | some ns => (match lstMax ns with
      | some m => .ok (.int m) S
      | none => .bad)
    | none => .bad)
  | none => .bad
def m_listV (x : D) (S : Sto) : R D := match dOf S x with
  | some kvs => .ok (.fzl (kvs.map (·.2))) S
  | none => .bad
section
variable {X : Cx} {o : Expr} {mo : EM} {apos cpos pos p : Pos}
theorem dict_ty {K : PySem.W.Frag} {mg : Str → Option Value} {ρ : Mp} {H : Hp} {S : Sto} {d : D} {v : V} {kvs : List (List L2.Key × D)} (rp : Rep K mg ρ H S) (h : dOf S d = some kvs) (r : RV K mg ρ H d v) : tyV K "dict" v H := by
  obtain ⟨n, a, us, rfl, hS, ha, rfl, hH, rt⟩ := dOf_at rp h r
  exact .inr (.inr (.inl ⟨rfl, .inr ⟨_, hH⟩⟩))
theorem ge_maxV (hc : X.calm = true) (hg : Gl X "max") (hm : X.mg "max" = none) (ho : GE X o mo)
    (hbase : attributeBase o "values" X.env (eval o X.env) = eval o X.env := by rfl) (hline : (apos.endLine == cpos.line) = true := by rfl)
    (hst : starEach [.Call (.Attribute o "values" apos) [] [] cpos] X.env = (false, eval (.Call (.Attribute o "values" apos) [] [] cpos) X.env) :: starEach [] X.env := by rfl) (hpl : (backTo pos (starEach [] X.env)).any (·.1) = false := by rfl) :
    GE X (.Call (.Name "max" p) [.Call (.Attribute o "values" apos) [] [] cpos] [] pos) (mUn m_maxV mo) :=
  (pe_callB (call_maxV hc) hg hm (by rfl) (pa_cons (pe_bm0 PySem.F.plainAttrs_dict PySem.F.slot_dict_values PySem.F.type_dict_values mt_valsT ho hbase hline) pa_nil hst) (by decide) (by decide) hst hpl).mono' fun σ H Q ⟨ρ, env, S, rp, re, p⟩ =>
    ⟨ρ, env, S, rp, re, Post.bindB p fun v H1 ρ1 S1 d e1 rp1 rv1 p1 => by
      unfold m_maxV at p1
      split at p1
      · next kvs q1 =>
        split at p1
        · next ns q2 =>
          split at p1
          · next m q3 =>
            refine ⟨dict_ty rp1 q1 rv1, ?_⟩
            obtain ⟨n, a, us, rfl, hS, ha, rfl, hH, rt⟩ := dOf_at rp1 q1 rv1
            refine ⟨a, us, rfl, rfl, hH, fun z hz => ⟨z, a, us, ns, rfl, upd_same, by rw [upd_ne (ne_of_none hH hz)]; exact hH, ints_at rt.seconds q2, ?_, fun m' h1 h2 => ?_⟩⟩
            · cases ns with
              | nil => cases q3
              | cons n ns => simp
            · cases ns with
              | nil => cases q3
              | cons n ns =>
                cases q3
                obtain ⟨f1, f2⟩ := fold_max ns n
                have : m' = ns.foldl (fun a b => if a < b then b else a) n := Int.le_antisymm (f1 m' h1) (h2 _ f2)
                rw [this]
                exact p1 _ _ _ (Ext.new hz) (rp1.new hz) (.int _)
          · exact p1.elim
        · exact p1.elim
      · exact p1.elim⟩
theorem ge_listV (hc : X.calm = true) (hg : Gl X "list") (hm : X.mg "list" = none) (ho : GE X o mo)
    (hbase : attributeBase o "values" X.env (eval o X.env) = eval o X.env := by rfl) (hline : (apos.endLine == cpos.line) = true := by rfl)
    (hst : starEach [.Call (.Attribute o "values" apos) [] [] cpos] X.env = (false, eval (.Call (.Attribute o "values" apos) [] [] cpos) X.env) :: starEach [] X.env := by rfl) (hpl : (backTo pos (starEach [] X.env)).any (·.1) = false := by rfl) :
    GE X (.Call (.Name "list" p) [.Call (.Attribute o "values" apos) [] [] cpos] [] pos) (mUn m_listV mo) :=
  (pe_callTy (call_listV hc) hg hm (by rfl) (pa_cons (pe_bm0 PySem.F.plainAttrs_dict PySem.F.slot_dict_values PySem.F.type_dict_values mt_valsT ho hbase hline) pa_nil hst) (by decide) (by decide) hst hpl).mono' fun σ H Q ⟨ρ, env, S, rp, re, p⟩ =>
    ⟨ρ, env, S, rp, re, Post.bindB p fun v H1 ρ1 S1 d e1 rp1 rv1 p1 => by
      unfold m_listV at p1
      split at p1
      · next kvs q1 =>
        refine ⟨dict_ty rp1 q1 rv1, ?_⟩
        obtain ⟨n, a, us, rfl, hS, ha, rfl, hH, rt⟩ := dOf_at rp1 q1 rv1
        refine ⟨a, us, rfl, rfl, hH, fun z hz => ⟨z, a, us, rfl, upd_same, by rw [upd_ne (ne_of_none hH hz)]; exact hH, fun y hy => ?_⟩⟩
        have x1 := Ext.new (ρ := ρ1) (o := valsO z a) hz
        have r1 := rp1.new (o := valsO z a) hz
        exact p1 _ _ _ (x1.trans (Ext.new hy)) (r1.new hy) (.fzl (FAt.new r1 hy) ((rt.seconds.ext x1).ext (Ext.new hy)))
      · exact p1.elim⟩
end
theorem hu1 {A : Around} {k : Nat} (hr : Room k A) : A.units + 1 < cLine := by have := hu65 hr; omega
theorem hu2 {A : Around} {k : Nat} (hr : Room k A) : A.units + 2 < cLine := by have := hu65 hr; omega
end ML
namespace ML
open PySem L2
/-! ### cells, floors -/
abbrev Cell := Int × Int
def ltC (a b : Cell) : Prop := a.1 < b.1 ∨ (a.1 = b.1 ∧ a.2 < b.2)
instance (a b : Cell) : Decidable (ltC a b) := by unfold ltC; infer_instance
theorem ltC_irr (a : Cell) : ¬ ltC a a := by unfold ltC; omega
theorem ltC_tr {a b c : Cell} (h : ltC a b) (g : ltC b c) : ltC a c := by unfold ltC at *; omega
theorem ltC_asymm {a b : Cell} (h : ltC a b) (g : ltC b a) : False := by unfold ltC at *; omega
def sft (s p : Cell) : Cell := (p.1 + s.1, p.2 + s.2)
theorem sft_lt (s : Cell) {a b : Cell} (h : ltC a b) : ltC (sft s a) (sft s b) := by unfold ltC sft at *; simp only; omega
theorem sft_inj {s a b : Cell} (h : sft s a = sft s b) : a = b := by
  unfold sft at h
  have h1 := congrArg Prod.fst h
  have h2 := congrArg Prod.snd h
  simp only at h1 h2
  exact Prod.ext (by omega) (by omega)
theorem sft_sft (s t p : Cell) : sft s (sft t p) = (p.1 + (t.1 + s.1), p.2 + (t.2 + s.2)) := Prod.ext (by simp [sft]; omega) (by simp [sft]; omega)
theorem pw_nodup {f : List Cell} (h : f.Pairwise ltC) : f.Nodup := h.imp fun {a b} q e => by subst e; exact ltC_irr _ q
/-- two strictly ascending lists of the same members are one -/
theorem sorted_ext : ∀ {l m : List Cell}, l.Pairwise ltC → m.Pairwise ltC → (∀ x, x ∈ l ↔ x ∈ m) → l = m
  | [], [], _, _, _ => rfl
  | [], y :: m, _, _, h => absurd ((h y).mpr (List.mem_cons_self ..)) (by simp)
  | x :: l, [], _, _, h => absurd ((h x).mp (List.mem_cons_self ..)) (by simp)
  | x :: l, y :: m, hl, hm, h => by
    obtain ⟨hl1, hl2⟩ := List.pairwise_cons.mp hl
    obtain ⟨hm1, hm2⟩ := List.pairwise_cons.mp hm
    have e : x = y := by
      rcases List.mem_cons.mp ((h x).mp (List.mem_cons_self ..)) with e | hx
      · exact e
      · rcases List.mem_cons.mp ((h y).mpr (List.mem_cons_self ..)) with e | hy
        · exact e.symm
        · exact (ltC_asymm (hl1 y hy) (hm1 x hx)).elim
    subst e
    rw [sorted_ext hl2 hm2 fun z => ⟨fun hz => ?_, fun hz => ?_⟩]
    · rcases List.mem_cons.mp ((h z).mp (List.mem_cons_of_mem _ hz)) with e | hz'
      · subst e; exact (ltC_irr _ (hl1 z hz)).elim
      · exact hz'
    · rcases List.mem_cons.mp ((h z).mpr (List.mem_cons_of_mem _ hz)) with e | hz'
      · subst e; exact (ltC_irr _ (hm1 z hz)).elim
      · exact hz'
structure Flo (f : List Cell) : Prop where
  ne : f ≠ []
  len : f.length ≤ 400
  bd : ∀ p ∈ f, (0 ≤ p.1 ∧ p.1 ≤ 59) ∧ (0 ≤ p.2 ∧ p.2 ≤ 59)
  srt : f.Pairwise ltC
theorem Flo.nodup {f : List Cell} (h : Flo f) : f.Nodup := pw_nodup h.srt
def flD (f : List Cell) : D := .tup (f.map pD)
def clD (f : List Cell) : D := .fzl (f.map pD)
/-! ### cells as data -/
theorem toPD_pD (S : Sto) (k : Nat) (p : Cell) : toPD S (k + 1) (pD p) = some (.tuple [.int p.1, .int p.2]) := by
  show (opAll (toPD S k) [D.int p.1, D.int p.2]).map PyData.tuple = _
  cases k <;> rfl
def pP (p : Cell) : PyData := .tuple [.int p.1, .int p.2]
theorem opAll_pD (S : Sto) (k : Nat) : ∀ f : List Cell, opAll (toPD S (k + 1)) (f.map pD) = some (f.map pP)
  | [] => rfl
  | p :: f => by
    rw [List.map_cons, List.map_cons]
    unfold opAll
    rw [toPD_pD, opAll_pD S k f]
    rfl
theorem lay_pP (f : List Cell) : PyData.canLayAll0 (f.map pP) = true ∧ PyData.depthAll (f.map pP) ≤ 1 := by
  induction f with
  | nil => simp [PyData.canLayAll0, PyData.depthAll]
  | cons p f ih =>
    simp [PyData.canLayAll0, PyData.canLay0, PyData.depthAll, PyData.depth, pP, ih.1]
    have := ih.2
    omega
theorem shp_pP (f : List Cell) : SeqAt.shaped (.list (f.map pP)) = true ∧ SeqAt.shaped (.tuple (f.map pP)) = true := by
  obtain ⟨h1, h2⟩ := lay_pP f
  constructor
  · simp [SeqAt.shaped, PyData.canLay0, PyData.depth, h1]; omega
  · simp [SeqAt.shaped, PyData.canLay0, PyData.depth, h1]; omega
theorem pdS_flD (S : Sto) (f : List Cell) : pdS S (flD f) = some (.tuple (f.map pP)) := by
  have e : toPD S 8 (flD f) = some (.tuple (f.map pP)) := by
    show (opAll (toPD S 7) (f.map pD)).map PyData.tuple = _
    rw [opAll_pD]
    rfl
  unfold pdS
  rw [e]
  simp [(shp_pP f).2]
theorem pdS_clD (S : Sto) (f : List Cell) : pdS S (clD f) = some (.list (f.map pP)) := by
  have e : toPD S 8 (clD f) = some (.list (f.map pP)) := by
    show (opAll (toPD S 7) (f.map pD)).map PyData.list = _
    rw [opAll_pD]
    rfl
  unfold pdS
  rw [e]
  simp [(shp_pP f).1]
theorem pdS_pD (S : Sto) (p : Cell) : pdS S (pD p) = some (pP p) := pdS_tup S [p.1, p.2]
theorem eqv_pP (p q : Cell) : PyData.eqv (pP p) (pP q) = decide (p = q) := by
  simp only [pP, PyData.eqv, PyData.eqvAll]
  by_cases e : p = q
  · subst e; simp
  · have : ¬ (p.1 = q.1 ∧ p.2 = q.2) := fun h => e (Prod.ext h.1 h.2)
    rw [decide_eq_false e]
    by_cases h1 : p.1 = q.1
    · by_cases h2 : p.2 = q.2
      · exact absurd ⟨h1, h2⟩ this
      · simp [h1, h2]
    · simp [h1]
theorem eqvAll_pP : ∀ a b : List Cell, PyData.eqvAll (a.map pP) (b.map pP) = decide (a = b)
  | [], [] => by simp [PyData.eqvAll]
  | [], _ :: _ => by simp [PyData.eqvAll]
  | _ :: _, [] => by simp [PyData.eqvAll]
  | p :: a, q :: b => by
    rw [List.map_cons, List.map_cons, PyData.eqvAll, eqv_pP, eqvAll_pP a b]
    by_cases h1 : p = q <;> by_cases h2 : a = b <;> simp [h1, h2]
theorem eq_clD (S : Sto) (a b : List Cell) : m_eq (clD a) (clD b) S = .ok (.bl (decide (a = b))) S := by
  unfold m_eq
  rw [pdS_clD, pdS_clD]
  simp only [PyData.eqv, eqvAll_pP]
theorem any_pP (c : Cell) (f : List Cell) : ((f.map pP).any fun z => PyData.eqv z (pP c)) = decide (c ∈ f) := by
  induction f with
  | nil => simp
  | cons p f ih =>
    rw [List.map_cons, List.any_cons, ih, eqv_pP]
    by_cases e : p = c
    · subst e; simp
    · have : ¬ c = p := fun z => e z.symm
      simp [e, this]
theorem in_flD (S : Sto) (c : Cell) (f : List Cell) : m_inQ (pD c) (flD f) S = .ok (.bl (decide (c ∈ f))) S := by
  show m_in (pD c) (flD f) S = _
  unfold m_in pds
  rw [pdS_pD, pdS_flD]
  simp only [any_pP]
theorem notin_flD (S : Sto) (c : Cell) (f : List Cell) : m_notinQ (pD c) (flD f) S = .ok (.bl (!decide (c ∈ f))) S := by
  show m_notin (pD c) (flD f) S = _
  unfold m_notin pds
  rw [pdS_pD, pdS_flD]
  simp only [any_pP]
theorem lt_pD (S : Sto) (a b : Cell) : m_lt (pD a) (pD b) S = .ok (.bl (decide (ltC a b))) S := by
  show (R.ok (.bl (HT.lexLt [a.1, a.2] [b.1, b.2])) S : R D) = _
  congr 2
  unfold ltC
  by_cases h1 : a.1 < b.1
  · have h0 : ¬ a.1 = b.1 := by omega
    simp [HT.lexLt, h1, h0]
  · by_cases h2 : a.1 = b.1
    · by_cases h3 : a.2 < b.2
      · have h0 : ¬ a.2 = b.2 := by omega
        simp [HT.lexLt, h2, h3, h0]
      · simp [HT.lexLt, h2, h3]
    · simp [HT.lexLt, h1, h2]
/-! ### how often each of some shifts stands in a list: a dict -/
def keyP (s : Cell) : List L2.Key := [.inl s.1, .inl s.2]
theorem keyP_inj {s t : Cell} (h : keyP s = keyP t) : s = t := by
  simp only [keyP, List.cons.injEq, Sum.inl.injEq, and_true] at h
  exact Prod.ext h.1 h.2
theorem keyT_pD (s : Cell) : keyT (pD s) = some (keyP s) := rfl
/-- the members, each once, by where they come first -/
def ks1 (ks : List Cell) (s : Cell) : List Cell := if s ∈ ks then ks else ks ++ [s]
def keysOf (L : List Cell) : List Cell := L.foldl ks1 []
theorem keysOf_snoc (L : List Cell) (s : Cell) : keysOf (L ++ [s]) = ks1 (keysOf L) s := by unfold keysOf; rw [List.foldl_append]; rfl
theorem mem_ks1 {ks : List Cell} {s x : Cell} : x ∈ ks1 ks s ↔ x ∈ ks ∨ x = s := by
  unfold ks1
  split
  · next h => exact ⟨.inl, fun z => z.elim id fun e => e ▸ h⟩
  · simp
theorem mem_foldks (L : List Cell) : ∀ (ks : List Cell) (x : Cell), x ∈ L.foldl ks1 ks ↔ x ∈ ks ∨ x ∈ L := by
  induction L with
  | nil => intro ks x; simp
  | cons s L ih =>
    intro ks x
    rw [List.foldl_cons, ih, mem_ks1, List.mem_cons]
    exact or_assoc
theorem mem_keysOf {L : List Cell} {x : Cell} : x ∈ keysOf L ↔ x ∈ L := by
  unfold keysOf
  rw [mem_foldks]
  simp
theorem nodup_foldks (L : List Cell) : ∀ ks : List Cell, ks.Nodup → (L.foldl ks1 ks).Nodup := by
  induction L with
  | nil => exact fun _ h => h
  | cons s L ih =>
    intro ks h
    rw [List.foldl_cons]
    refine ih _ ?_
    unfold ks1
    split
    · exact h
    · next n =>
      refine List.nodup_append.mpr ⟨h, by simp, fun a ha b hb e => ?_⟩
      rw [List.mem_singleton] at hb
      subst e hb
      exact n ha
theorem nodup_keysOf (L : List Cell) : (keysOf L).Nodup := nodup_foldks L [] .nil
theorem len_keysOf (L : List Cell) : (keysOf L).length ≤ L.length := by
  have : ∀ (L ks : List Cell), (L.foldl ks1 ks).length ≤ ks.length + L.length := by
    intro L
    induction L with
    | nil => intro ks; simp
    | cons s L ih =>
      intro ks
      rw [List.foldl_cons, List.length_cons]
      have := ih (ks1 ks s)
      have h2 : (ks1 ks s).length ≤ ks.length + 1 := by
        unfold ks1
        split <;> simp
      omega
  have := this L []
  simpa [keysOf] using this
def cntD (L : List Cell) : List (List L2.Key × D) := (keysOf L).map fun s => (keyP s, .int (L.count s : Nat))
theorem find_keys (g : Cell → D) (s : Cell) : ∀ ks : List Cell, valD (ks.map fun k => (keyP k, g k)) (keyP s) = if s ∈ ks then some (g s) else none
  | [] => rfl
  | k :: ks => by
    have ih := find_keys g s ks
    rw [List.map_cons]
    by_cases e : k = s
    · subst e
      simp [valD]
    · have n : ¬ keyP k = keyP s := fun z => e (keyP_inj z)
      have n2 : ¬ s = k := fun z => e z.symm
      have : valD ((keyP k, g k) :: ks.map fun k => (keyP k, g k)) (keyP s) = valD (ks.map fun k => (keyP k, g k)) (keyP s) := by simp [valD, n]
      rw [this, ih]
      simp [n2]
theorem valD_cnt (L : List Cell) (s : Cell) : valD (cntD L) (keyP s) = if s ∈ L then some (.int (L.count s : Nat)) else none := by
  unfold cntD
  rw [find_keys (fun s => .int (L.count s : Nat))]
  by_cases h : s ∈ L
  · rw [if_pos h, if_pos (mem_keysOf.mpr h)]
  · rw [if_neg h, if_neg (fun z => h (mem_keysOf.mp z))]
theorem get_cnt (L : List Cell) (s : Cell) : (valD (cntD L) (keyP s)).getD (.int 0) = .int (L.count s : Nat) := by
  rw [valD_cnt]
  by_cases h : s ∈ L
  · rw [if_pos h]; rfl
  · rw [if_neg h, List.count_eq_zero_of_not_mem h]; rfl
theorem any_keys (g : Cell → D) (s : Cell) (ks : List Cell) : ((ks.map fun k => (keyP k, g k)).any fun kv => decide (kv.1 = keyP s)) = decide (s ∈ ks) := by
  induction ks with
  | nil => rfl
  | cons k ks ih =>
    rw [List.map_cons, List.any_cons, ih]
    by_cases e : k = s
    · subst e; simp
    · have n : ¬ keyP k = keyP s := fun z => e (keyP_inj z)
      have n2 : ¬ s = k := fun z => e z.symm
      simp [n, n2]
theorem put_cnt (L : List Cell) (s : Cell) : putD (cntD L) (keyP s) (.int ((L.count s : Nat) + 1)) = cntD (L ++ [s]) := by
  have ec : ∀ k : Cell, (L ++ [s]).count k = L.count k + if k = s then 1 else 0 := fun k => by
    rw [List.count_append]
    by_cases e : k = s
    · subst e; simp
    · have : ¬ s = k := fun z => e z.symm
      simp [e, this]
  unfold putD cntD
  rw [any_keys (fun s => .int (L.count s : Nat)), keysOf_snoc]
  unfold ks1
  by_cases h : s ∈ keysOf L
  · rw [if_pos (decide_eq_true h), if_pos h, List.map_map]
    refine List.map_congr_left fun k hk => ?_
    show (if keyP k = keyP s then (keyP k, D.int ((L.count s : Nat) + 1)) else (keyP k, D.int (L.count k : Nat))) = (keyP k, D.int ((L ++ [s]).count k : Nat))
    rw [ec]
    by_cases e : k = s
    · subst e; simp
    · have n : ¬ keyP k = keyP s := fun z => e (keyP_inj z)
      simp [n, e]
  · rw [if_neg (by simpa using h), if_neg h, List.map_append]
    have e1 : (keysOf L).map (fun s_1 => (keyP s_1, D.int (L.count s_1 : Nat))) = (keysOf L).map (fun k => (keyP k, D.int ((L ++ [s]).count k : Nat))) := List.map_congr_left fun k hk => by
      have n : ¬ k = s := fun z => h (z ▸ hk)
      rw [ec, if_neg n, Nat.add_zero]
    rw [e1]
    have e2 : (L ++ [s]).count s = L.count s + 1 := by rw [ec, if_pos rfl]
    simp [e2]
/-! ### the shifts from one floor's cells to another one's -/
def dif (p q : Cell) : Cell := (p.1 - q.1, p.2 - q.2)
def difs (a b : List Cell) : List Cell := a.flatMap fun p => b.map fun q => dif p q
theorem difs_len (a b : List Cell) : (difs a b).length = a.length * b.length := by
  unfold difs
  induction a with
  | nil => simp
  | cons p a ih => rw [List.flatMap_cons, List.length_append, ih, List.length_map, List.length_cons, Nat.add_mul]; omega
theorem mem_difs {a b : List Cell} {s : Cell} : s ∈ difs a b ↔ ∃ q ∈ b, sft s q ∈ a := by
  unfold difs
  simp only [List.mem_flatMap, List.mem_map]
  constructor
  · rintro ⟨p, hp, q, hq, rfl⟩
    refine ⟨q, hq, ?_⟩
    have : sft (dif p q) q = p := Prod.ext (by simp [sft, dif] <;> omega) (by simp [sft, dif] <;> omega)
    rw [this]
    exact hp
  · rintro ⟨q, hq, h⟩
    exact ⟨_, h, q, hq, Prod.ext (by simp [sft, dif] <;> omega) (by simp [sft, dif] <;> omega)⟩
theorem count_dif (p s : Cell) (b : List Cell) : (b.map fun q => dif p q).count s = b.countP fun q => decide (sft s q = p) := by
  induction b with
  | nil => rfl
  | cons q b ih =>
    rw [List.map_cons, List.count_cons, List.countP_cons, ih]
    have : (dif p q == s) = decide (sft s q = p) := by
      rw [Bool.eq_iff_iff, beq_iff_eq, decide_eq_true_eq]
      constructor
      · rintro rfl; exact Prod.ext (by simp [sft, dif] <;> omega) (by simp [sft, dif] <;> omega)
      · rintro rfl; exact Prod.ext (by simp [sft, dif] <;> omega) (by simp [sft, dif] <;> omega)
    rw [this]
theorem countP_or {α : Type} {p q : α → Bool} (b : List α) (h : ∀ x ∈ b, p x = true → q x = false) : b.countP (fun x => p x || q x) = b.countP p + b.countP q := by
  induction b with
  | nil => rfl
  | cons x b ih =>
    rw [List.countP_cons, List.countP_cons, List.countP_cons, ih fun y hy => h y (List.mem_cons_of_mem _ hy)]
    have := h x (List.mem_cons_self ..)
    cases hp : p x <;> cases hq : q x <;> simp [hp, hq] at this ⊢ <;> omega
/-- how often a shift comes up: the cells of b that it moves into a -/
theorem count_difs {a b : List Cell} (ha : a.Nodup) (s : Cell) : (difs a b).count s = b.countP fun q => decide (sft s q ∈ a) := by
  induction a with
  | nil =>
    show (0 : Nat) = _
    symm
    rw [List.countP_eq_zero]
    intro q hq
    simp
  | cons p a ih =>
    obtain ⟨h1, h2⟩ := List.nodup_cons.mp ha
    have e1 : (difs (p :: a) b) = (b.map fun q => dif p q) ++ difs a b := by unfold difs; rw [List.flatMap_cons]
    rw [e1, List.count_append, count_dif, ih h2]
    have e2 : (fun q => decide (sft s q ∈ p :: a)) = fun q => decide (sft s q = p) || decide (sft s q ∈ a) := by
      funext q
      rw [Bool.eq_iff_iff]
      simp
    rw [e2, countP_or]
    intro q hq h
    have := of_decide_eq_true h
    rw [this]
    exact decide_eq_false h1
/-- the same, by the cells of a that come of b -/
theorem count_difs' {a b : List Cell} (hb : b.Nodup) (s : Cell) : (difs a b).count s = a.countP fun p => decide (dif p s ∈ b) := by
  induction a with
  | nil => rfl
  | cons p a ih =>
    have e1 : (difs (p :: a) b) = (b.map fun q => dif p q) ++ difs a b := by unfold difs; rw [List.flatMap_cons]
    rw [e1, List.count_append, count_dif, ih, List.countP_cons]
    have e2 : (b.countP fun q => decide (sft s q = p)) = if (decide (dif p s ∈ b)) = true then 1 else 0 := by
      have e3 : (fun q => decide (sft s q = p)) = fun q => q == dif p s := by
        funext q
        rw [Bool.eq_iff_iff, beq_iff_eq, decide_eq_true_eq]
        constructor
        · rintro rfl; exact Prod.ext (by simp [sft, dif] <;> omega) (by simp [sft, dif] <;> omega)
        · rintro rfl; exact Prod.ext (by simp [sft, dif] <;> omega) (by simp [sft, dif] <;> omega)
      rw [e3]
      show b.count (dif p s) = _
      by_cases h : dif p s ∈ b
      · rw [if_pos (decide_eq_true h)]
        exact List.Nodup.count hb |>.trans (if_pos h)
      · rw [if_neg (by simpa using h)]
        exact List.count_eq_zero_of_not_mem h
    rw [e2]
    omega
theorem count_le_b {a b : List Cell} (ha : a.Nodup) (s : Cell) : (difs a b).count s ≤ b.length := by rw [count_difs ha]; exact List.countP_le_length
theorem count_le_a {a b : List Cell} (hb : b.Nodup) (s : Cell) : (difs a b).count s ≤ a.length := by rw [count_difs' hb]; exact List.countP_le_length
theorem count_full {a b : List Cell} (ha : a.Nodup) (s : Cell) : (difs a b).count s = b.length ↔ ∀ q ∈ b, sft s q ∈ a := by
  rw [count_difs ha, List.countP_eq_length]
  simp
/-- all cells of both floors by one shift: then the one is the other, moved -/
theorem both_full {a b : List Cell} (ha : a.Pairwise ltC) (hb : b.Pairwise ltC) {s : Cell} (h1 : (difs a b).count s = b.length) (h2 : (difs a b).count s = a.length) : a = b.map (sft s) := by
  have m1 := (count_full (pw_nodup ha) s).mp h1
  rw [count_difs' (pw_nodup hb), List.countP_eq_length] at h2
  refine sorted_ext ha (List.pairwise_map.mpr (hb.imp fun h => sft_lt s h)) fun x => ⟨fun hx => ?_, fun hx => ?_⟩
  · have := of_decide_eq_true (h2 x hx)
    exact List.mem_map.mpr ⟨_, this, Prod.ext (by simp [sft, dif] <;> omega) (by simp [sft, dif] <;> omega)⟩
  · obtain ⟨q, hq, rfl⟩ := List.mem_map.mp hx
    exact m1 q hq
theorem count_moved {b : List Cell} (hb : b.Nodup) (s : Cell) : (difs (b.map (sft s)) b).count s = b.length := by
  refine (count_full ?_ s).mpr fun q hq => List.mem_map.mpr ⟨q, hq, rfl⟩
  exact List.Pairwise.map _ (fun x y h e => h (sft_inj e)) hb
/-- the sum of all counts -/
theorem sum_counts : ∀ (L : List Cell) {K : List Cell}, K.Nodup → (∀ x ∈ L, x ∈ K) → (K.map fun k => L.count k).sum = L.length
  | [], K, _, _ => by induction K <;> simp_all
  | x :: L, K, hK, h => by
    have ih := sum_counts L hK fun y hy => h y (List.mem_cons_of_mem _ hy)
    have hx := h x (List.mem_cons_self ..)
    have : ∀ K : List Cell, (K.map fun k => (x :: L).count k).sum = (K.map fun k => L.count k).sum + K.count x := by
      intro K
      induction K with
      | nil => rfl
      | cons k K ihK =>
        rw [List.map_cons, List.map_cons, List.sum_cons, List.sum_cons, ihK, List.count_cons, List.count_cons]
        by_cases e : x = k
        · subst e; simp; omega
        · have : ¬ k = x := fun z => e z.symm
          simp [e, this]; omega
    rw [this, ih, List.length_cons, List.Nodup.count hK, if_pos hx]
/-- sorted keys -/
def skeys (L : List Cell) : List Cell := sortP (keysOf L)
theorem mem_skeys {L : List Cell} {x : Cell} : x ∈ skeys L ↔ x ∈ L := by unfold skeys; rw [sortB_mem, mem_keysOf]
theorem sortP_lt {f : List Cell} (h : f.Nodup) : (sortP f).Pairwise ltC := by
  have h1 := sortP_srt f
  have h2 : (sortP f).Nodup := (sortB_perm leP f).nodup_iff.mpr h
  exact (h1.and h2).imp fun {a b} ⟨q, n⟩ => by
    have n' : ¬ (a.1 = b.1 ∧ a.2 = b.2) := fun e => n (Prod.ext e.1 e.2)
    unfold leP at q
    simp only [Bool.or_eq_true, Bool.and_eq_true, decide_eq_true_eq] at q
    unfold ltC
    omega
theorem skeys_srt (L : List Cell) : (skeys L).Pairwise ltC := sortP_lt (nodup_keysOf L)
theorem skeys_len (L : List Cell) : (skeys L).length ≤ L.length := by
  unfold skeys
  rw [(sortB_perm leP _).length_eq]
  exact len_keysOf L
theorem sum_skeys (L : List Cell) : ((skeys L).map fun k => L.count k).sum = L.length :=
  sum_counts L (pw_nodup (skeys_srt L)) fun x hx => mem_skeys.mpr hx
/-- the greatest count -/
def mostOf (L : List Cell) : Nat := (keysOf L).foldl (fun a k => max a (L.count k)) 0
theorem foldmax_ge (g : Cell → Nat) : ∀ (K : List Cell) (a : Nat), a ≤ K.foldl (fun a k => max a (g k)) a ∧ ∀ k ∈ K, g k ≤ K.foldl (fun a k => max a (g k)) a
  | [], a => ⟨Nat.le_refl _, fun k hk => (nomatch hk)⟩
  | x :: K, a => by
    obtain ⟨h1, h2⟩ := foldmax_ge g K (max a (g x))
    rw [List.foldl_cons]
    refine ⟨by omega, fun k hk => ?_⟩
    rcases List.mem_cons.mp hk with e | hk
    · subst e; omega
    · exact h2 k hk
theorem foldmax_mem (g : Cell → Nat) : ∀ (K : List Cell) (a : Nat), K.foldl (fun a k => max a (g k)) a = a ∨ ∃ k ∈ K, g k = K.foldl (fun a k => max a (g k)) a
  | [], a => .inl rfl
  | x :: K, a => by
    rw [List.foldl_cons]
    rcases foldmax_mem g K (max a (g x)) with e | ⟨k, hk, e⟩
    · rw [e]
      by_cases h : a ≤ g x
      · exact .inr ⟨x, List.mem_cons_self .., by omega⟩
      · exact .inl (by omega)
    · exact .inr ⟨k, List.mem_cons_of_mem _ hk, e⟩
theorem count_le_most (L : List Cell) (s : Cell) : L.count s ≤ mostOf L := by
  by_cases h : s ∈ L
  · exact (foldmax_ge (fun k => L.count k) _ 0).2 s (mem_keysOf.mpr h)
  · rw [List.count_eq_zero_of_not_mem h]; exact Nat.zero_le _
theorem most_mem {L : List Cell} (h : L ≠ []) : ∃ s ∈ L, L.count s = mostOf L := by
  obtain ⟨x, hx⟩ := List.exists_mem_of_ne_nil L h
  have h1 : 0 < L.count x := List.count_pos_iff.mpr hx
  have h2 := count_le_most L x
  rcases foldmax_mem (fun k => L.count k) (keysOf L) 0 with e | ⟨k, hk, e⟩
  · have : mostOf L = 0 := e
    omega
  · exact ⟨k, mem_keysOf.mp hk, e⟩
theorem lstMax_cnt {L : List Cell} (h : L ≠ []) : lstMax ((keysOf L).map fun k => ((L.count k : Nat) : Int)) = some ((mostOf L : Nat) : Int) := by
  obtain ⟨x, hx⟩ := List.exists_mem_of_ne_nil L h
  have hk := mem_keysOf.mpr hx
  cases q : (keysOf L).map fun k => ((L.count k : Nat) : Int) with
  | nil => rw [List.map_eq_nil_iff] at q; rw [q] at hk; cases hk
  | cons n ns =>
    obtain ⟨f1, f2⟩ := fold_max ns n
    rw [← q] at f1 f2
    obtain ⟨k, hk, e⟩ := List.mem_map.mp f2
    obtain ⟨s, hs, es⟩ := most_mem h
    have g1 := f1 _ (List.mem_map.mpr ⟨s, mem_keysOf.mpr hs, rfl⟩)
    have g2 := count_le_most L k
    simp only [lstMax]
    rw [← e] at g1 ⊢
    congr 1
    omega
theorem ints_cnt (L : List Cell) : intsOf ((cntD L).map (·.2)) = some ((keysOf L).map fun k => ((L.count k : Nat) : Int)) := by
  have : (cntD L).map (·.2) = ((keysOf L).map fun k => ((L.count k : Nat) : Int)).map D.int := by
    unfold cntD
    rw [List.map_map, List.map_map]
    rfl
  rw [this, intsOf_map]
theorem pairK_keysOf (K : List Cell) (g : Cell → D) : opAll pairK ((K.map fun s => (keyP s, g s)).map (·.1)) = some K := by
  induction K with
  | nil => rfl
  | cons k K ih =>
    rw [List.map_cons, List.map_cons]
    unfold opAll
    rw [ih]
    rfl
/-! ### list comprehensions, once more -/
theorem lc_mapA {α : Type} {tg : TgM} {t : TM} {e : EM} {env : Env} {vs : List Nat} {S : Sto} (f g : α → D) (E : α → Env) (p : α → Bool) : ∀ (xs : List α) (acc : List D), acc.length + xs.length ≤ sizeLine →
    (∀ x ∈ xs, tg (f x) (wipeE env vs) S = .ok (E x) S ∧ t (E x) S = .ok (p x) S ∧ (p x = true → e (E x) S = .ok (g x) S)) →
    lcD tg t e (fun _ => true) env vs (xs.map f) acc S = .ok (acc ++ (xs.filter p).map g) S
  | [], acc, _, _ => by simp [lcD]
  | x :: xs, acc, hz, h => by
    obtain ⟨h1, h2, h3⟩ := h x (List.mem_cons_self ..)
    rw [List.length_cons] at hz
    rw [List.map_cons]
    unfold lcD
    rw [if_pos rfl, h1, bind_ok, h2, bind_ok]
    cases q : p x with
    | true =>
      rw [if_pos rfl, h3 q, bind_ok, if_pos (by omega), lc_mapA f g E p xs (acc ++ [g x]) (by rw [List.length_append]; simp; omega) fun y hy => h y (List.mem_cons_of_mem _ hy), List.filter_cons_of_pos q]
      simp
    | false =>
      rw [if_neg (by decide), lc_mapA f g E p xs acc (by omega) fun y hy => h y (List.mem_cons_of_mem _ hy), List.filter_cons_of_neg (by rw [q]; decide)]
theorem lc_mapG {α : Type} {tg : TgM} {t : TM} {e : EM} {env : Env} {vs : List Nat} {S : Sto} (f g : α → D) (E : α → Env) (p : α → Bool) (xs : List α) (hz : xs.length ≤ sizeLine)
    (h : ∀ x ∈ xs, tg (f x) (wipeE env vs) S = .ok (E x) S ∧ t (E x) S = .ok (p x) S ∧ (p x = true → e (E x) S = .ok (g x) S)) :
    lcD tg t e (fun _ => true) env vs (xs.map f) [] S = .ok ((xs.filter p).map g) S := by
  rw [lc_mapA f g E p xs [] (by simpa using hz) h, List.nil_append]
theorem lc_mapY {α : Type} {tg : TgM} {e : EM} {env : Env} {vs : List Nat} {S : Sto} (f g : α → D) (E : α → Env) (xs : List α) (hz : xs.length ≤ sizeLine)
    (h : ∀ x ∈ xs, tg (f x) (wipeE env vs) S = .ok (E x) S ∧ e (E x) S = .ok (g x) S) :
    lcD tg tmYes e (fun _ => true) env vs (xs.map f) [] S = .ok (xs.map g) S := by
  rw [lc_mapG f g E (fun _ => true) xs hz fun x hx => ⟨(h x hx).1, rfl, fun _ => (h x hx).2⟩, List.filter_eq_self.mpr (by simp)]
theorem sz400 {n : Nat} (h : n ≤ 200000) : n ≤ sizeLine := Nat.le_trans h (by decide)
/-- a pair of names -/
theorem gT_pD (i j : Nat) (p : Cell) (env : Env) (S : Sto) : gT 2 (gsC (gN i) (gsC (gN j) gsN)) (pD p) env S = .ok ((env.set i (some (.int p.1))).set j (some (.int p.2))) S := by
  simp [pD, gT, gsC, gsN]
end ML
/-! sorted of tuples of as many whole numbers from 0 on, any number of them; a dict against {} -/
namespace ML
open PySem L2 PyProof.Rows
def iH (H : Hp) : V → List Int
  | .ref t => (match H t with
    | some (.tup xs) => xs.filterMap fun x => match x with | .int i => some i | _ => none
    | _ => [])
  | _ => []
theorem iH_tup {H : Hp} {t : Addr} {ns : List Int} (h : H t = some (.tup (ns.map V.int))) : iH H (.ref t) = ns := by
  simp only [iH, h]
  rw [List.filterMap_map]
  induction ns with
  | nil => rfl
  | cons n ns ih =>
    rw [List.filterMap_cons]
    simp only [Function.comp]
    congr 1
    clear ih h
    induction ns with
    | nil => rfl
    | cons m ns ih => rw [List.filterMap_cons]; simp only [Function.comp]; congr 1
def cdB : Int := 4096
def rkH (H : Hp) (x : V) : Int := TS.code cdB (iH H x)
def ltR (r : V → Int) (x y : V) : Bool := decide (r x < r y)
theorem swoR {α : Type} (r : α → Int) : SrtO.Swo fun v u => decide (r v < r u) := by
  refine ⟨fun x y h => ?_, fun x y z h1 h2 => ?_⟩
  · have a := of_decide_eq_true h
    exact decide_eq_false (by omega)
  · have a := of_decide_eq_false h1
    have b := of_decide_eq_false h2
    exact decide_eq_false (by omega)
section
variable {prog : Program} {w : World} {A : Around} {E : Value → Shared → Prop} {s : Shared}
theorem tups_sortableO {a : Addr} {vs : List Value} {d : Nat} {r : Value → Int} (hd : 1 ≤ d) (h2 : 2 ≤ vs.length) (x : ∀ v ∈ vs, ∃ ns, TS.TupInts s.heap v ns ∧ ns.length = d ∧ TS.Bd cdB ns ∧ r v = TS.code cdB ns) (ha : ∀ o, s.heap.get? a = some o → o.cls ≠ .type "tuple") :
    SrtO.SortableO prog w A s a vs fun v u => decide (r v < r u) := by
  intro h' keep
  have x' : ∀ v ∈ vs, ∃ ns, TS.TupInts h' v ns ∧ ns.length = d ∧ TS.Bd cdB ns ∧ r v = TS.code cdB ns := fun v hm => by
    obtain ⟨ns, t, e⟩ := x v hm
    exact ⟨ns, t.keeps fun b o e c => keep b o (fun z => by subst z; exact ha o e c) e, e⟩
  obtain ⟨fs, f1, f2, f3⟩ := TS.firsts_of hd vs fun v hv => let ⟨ns, t, l, b, _⟩ := x' v hv; ⟨ns, t, l, b⟩
  refine ⟨_, fun Q E hq => PySem.W.kat_kind (T := .type "int") f1 (by omega) (fun f hm => ?_) (by rfl) hq, ?_⟩
  · obtain ⟨n, t, rfl⟩ := f3 f hm
    exact PySem.W.Looks.of_pure rfl
  · intro p q hm hm'
    obtain ⟨ns, tp, lp, bp, rp⟩ := x' _ hm
    obtain ⟨ms, tq, lq, bq, rq⟩ := x' _ hm'
    show wpAny _ _ _ (fun b s' => s' = _ ∧ b = decide (r p.1 < r q.1)) _ _
    rw [rp, rq]
    obtain ⟨c, xs, e1, ⟨o, ho, hc, n, hdt⟩, i⟩ := tp
    obtain ⟨c', ys, e2, ⟨o', ho', hc', n', hdt'⟩, i'⟩ := tq
    rw [e1, e2]
    have sz : decide (xs.size < ys.size) = false := by
      have l1 := i.length
      have l2 := i'.length
      rw [Array.length_toList] at l1 l2
      exact decide_eq_false (by omega)
    refine PySem.W.kat_lt (s := { s with heap := h' }) ho hdt ho' hdt' ?_
    rw [sz]
    exact TS.lex_ints 0 i i' (by omega) bp bq ⟨rfl, rfl⟩
end
section
variable {X : Cx}
theorem cr_sortedTu : CallR X (.builtin "sorted") (fun vs H Q => ∃ (a : Addr) (L : List (Addr × List Int)) (d : Nat), vs = [V.ref a] ∧ SqL X.K H a (L.map fun p => V.ref p.1) ∧ 1 ≤ d ∧ (∀ p ∈ L, H p.1 = some (.tup (p.2.map V.int)) ∧ p.2.length = d ∧ TS.Bd cdB p.2) ∧
    ∀ ys q, ys.Perm (L.map fun p => V.ref p.1) → ys.Pairwise (fun x y => rkH H x ≤ rkH H y) → H q = none → Q (.ref q) (upd H q (.lst ys))) := by
  intro pins s σ H vs us Q I r h
  obtain ⟨a, L, d, rfl, hs, hd, hL, q⟩ := h
  obtain ⟨its, rv, hl, hz⟩ := I.list hs
  obtain ⟨u, rfl, ru⟩ := vals1 r
  obtain rfl : u = Value.ref a := ru
  obtain ⟨e1, e2⟩ := refs_back rv fun x m => by
    obtain ⟨p, _, e⟩ := List.mem_map.mp m
    exact ⟨p.1, e.symm⟩
  refine SrtO.sorted_ord (ltv := fun v u => decide (rkH H (backV v) < rkH H (backV u))) (swoR _) hl.isList (by rw [← rv.length]; exact hz)
    (fun h2 h₁ a' ha' kk => tups_sortableO (s := { s with heap := h₁ }) hd h2 (fun v hv => ?_) fun o e c => ?_) fun out h1 h2 => ?_
  · obtain ⟨t, rfl⟩ := e2 v hv
    have hm : V.ref t ∈ L.map fun p => V.ref p.1 := by rw [e1]; exact List.mem_map.mpr ⟨_, hv, rfl⟩
    obtain ⟨p, hp, e⟩ := List.mem_map.mp hm
    cases e
    obtain ⟨g1, g2, g3⟩ := hL p hp
    obtain ⟨_, its2, r2, o, ho, hc, n, hdt⟩ := I.hok _ _ g1
    refine ⟨p.2, ⟨p.1, its2.toArray, rfl, ⟨o, (kk _ _ ho).2, hc, n, hdt⟩, by simpa using r2.ints⟩, g2, g3, ?_⟩
    show TS.code cdB (iH H (.ref p.1)) = _
    rw [iH_tup g1]
  · have e' : some o = some (seqObj "list" its.toArray 0) := e.symm.trans ha'
    cases e'
    exact absurd (Value.type.inj c) (by decide)
  · have h3 : ∀ u ∈ out, ∃ a, u = Value.ref a := fun u hu => e2 u (h2.perm.mem_iff.mp hu)
    have hpm : (out.map backV).Perm (L.map fun p => V.ref p.1) := by rw [e1]; exact h2.perm.map backV
    obtain ⟨ep, he'⟩ := sortedAll_at s.heap its out.toArray
    have hlen : (out.map backV).length ≤ sizeLine := by rw [hpm.length_eq]; exact hz
    refine ⟨.ref _, upd H (s.heap.objs.size + 1) (.lst (out.map backV)), I.laid (t' := s.toks) (fun _ _ => sortedAll_old) (Nat.le_succ _) ⟨hlen, out, ep, vals_back h3, he'⟩, rfl, q _ _ hpm ?_ (I.hok.fresh (Nat.le_succ _))⟩
    rw [List.pairwise_map]
    exact h1.imp fun {x y} h => Int.not_lt.mp (of_decide_eq_false h)
end
theorem code_inj : ∀ {ns ms : List Int}, ns.length = ms.length → TS.Bd cdB ns → TS.Bd cdB ms → TS.code cdB ns = TS.code cdB ms → ns = ms
  | [], [], _, _, _, _ => rfl
  | [], _ :: _, h, _, _, _ => by simp at h
  | _ :: _, [], h, _, _, _ => by simp at h
  | d :: r, e :: q, h, h1, h2, hc => by
    have hl : r.length = q.length := by simpa using h
    rcases Int.lt_trichotomy d e with y | y | y
    · have := TS.code_lt hl h1.tail h2.tail y
      omega
    · subst y
      have : TS.code cdB r = TS.code cdB q := by
        simp only [TS.code, hl] at hc
        omega
      rw [code_inj hl h1.tail h2.tail this]
    · have := TS.code_lt hl.symm h2.tail h1.tail y
      omega
theorem perm_uniq' {α : Type} {R : α → α → Prop} : ∀ {l m : List α}, (∀ a ∈ l, ∀ b ∈ l, R a b → R b a → a = b) → l.Pairwise R → m.Pairwise R → l.Perm m → l = m
  | [], m, _, _, _, h => (List.Perm.eq_nil h.symm).symm
  | x :: l, [], _, _, _, h => absurd h.length_eq (by simp)
  | x :: l, y :: m, anti, hl, hm, h => by
    obtain ⟨hl1, hl2⟩ := List.pairwise_cons.mp hl
    obtain ⟨hm1, hm2⟩ := List.pairwise_cons.mp hm
    have e : x = y := by
      rcases List.mem_cons.mp (h.mem_iff.mp (List.mem_cons_self (a := x) (l := l))) with e | hx
      · exact e
      · have hy := h.mem_iff.mpr (List.mem_cons_self (a := y) (l := m))
        rcases List.mem_cons.mp hy with e | hy'
        · exact e.symm
        · exact anti _ (List.mem_cons_self ..) _ hy (hl1 y hy') (hm1 x hx)
    subst e
    rw [perm_uniq' (fun a ha b hb => anti a (List.mem_cons_of_mem _ ha) b (List.mem_cons_of_mem _ hb)) hl2 hm2 h.cons_inv]
def tupI : D → Option (List Int)
  | .tup ds => intsOf ds
  | _ => none
def okTu (d : Nat) (ns : List Int) : Bool := decide (ns.length = d) && ns.all fun n => decide (0 ≤ n) && decide (n < 4096)
def leTu (a b : List Int) : Bool := decide (TS.code cdB a ≤ TS.code cdB b)
def tuD (ns : List Int) : D := .tup (ns.map D.int)
/-- sorted of tuples of as many numbers from 0 to 4095 -/
def m_sortV : List D → Sto → R D
  | [x], S => match lstOf S x with
    | some ds => (match opAll tupI ds with
      | some nss => if (1 ≤ (nss.headD []).length) ∧ nss.all (okTu (nss.headD []).length) = true then .ok (.fzl ((sortB leTu nss).map tuD)) S else .bad
      | none => .bad)
    | none => .bad
  | _, _ => .bad
theorem okTu_iff {d : Nat} {ns : List Int} (h : okTu d ns = true) : ns.length = d ∧ TS.Bd cdB ns := by
  unfold okTu at h
  rw [Bool.and_eq_true, decide_eq_true_eq, List.all_eq_true] at h
  refine ⟨h.1, fun m hm => ?_⟩
  have := h.2 m hm
  rw [Bool.and_eq_true, decide_eq_true_eq, decide_eq_true_eq] at this
  exact this
section
variable {K : PySem.W.Frag} {mg : Str → Option Value} {ρ : Mp} {H : Hp} {S : Sto}
theorem tupI_at : ∀ {ds : List D} {xs : List V} {nss : List (List Int)}, opAll tupI ds = some nss → RVs K mg ρ H ds xs → ∃ L : List (Addr × List Int), xs = L.map (fun p => V.ref p.1) ∧ nss = L.map (·.2) ∧ ∀ p ∈ L, H p.1 = some (.tup (p.2.map V.int))
  | [], _, nss, h, .nil => by cases h; exact ⟨[], rfl, rfl, fun p hp => (nomatch hp)⟩
  | d :: ds, _, nss, h, .cons (v := v) r t => by
    unfold opAll at h
    cases h1 : tupI d with
    | none => simp [h1] at h
    | some ns =>
      cases h2 : opAll tupI ds with
      | none => simp [h1, h2] at h
      | some nss' =>
        simp [h1, h2] at h
        subst h
        obtain ⟨L, rfl, rfl, hL⟩ := tupI_at h2 t
        unfold tupI at h1
        split at h1
        · obtain ⟨a, ys, rfl, ha, ry⟩ := tup_at r
          have := ints_at ry h1
          subst this
          refine ⟨(a, ns) :: L, rfl, rfl, fun p hp => ?_⟩
          rcases List.mem_cons.mp hp with rfl | hp
          · exact ha.1
          · exact hL p hp
        · cases h1
theorem tups_rv (rp : Rep K mg ρ H S) : ∀ {ys : List V}, (∀ y ∈ ys, ∃ (b : Addr) (ns : List Int), y = .ref b ∧ H b = some (.tup (ns.map V.int))) → RVs K mg ρ H ((ys.map (iH H)).map tuD) ys
  | [], _ => .nil
  | y :: ys, h => by
    refine .cons ?_ (tups_rv rp fun z hz => h z (List.mem_cons_of_mem _ hz))
    obtain ⟨b, ns, rfl, hb⟩ := h y (List.mem_cons_self ..)
    rw [iH_tup hb]
    exact .tup ⟨hb, rp.tupOut hb⟩ (ints_rv ns)
end
section
variable {X : Cx}
theorem gc_sortV : GC X (.builtin "sorted") m_sortV := fun pins s σ H xs us Q I r ⟨ρ, S, ds, rp, rx, p⟩ => by
  unfold m_sortV at p
  split at p
  · obtain ⟨v, rfl, r1⟩ := rx.one
    split at p
    · next es q1 =>
      split at p
      · next nss q2 =>
        split at p
        · next c =>
          obtain ⟨a, ws, rfl, h1, r2⟩ := lst_at rp r1 q1
          obtain ⟨L, rfl, rfl, hL⟩ := tupI_at q2 r2
          have ok : ∀ p ∈ L, p.2.length = ((L.map (·.2)).headD []).length ∧ TS.Bd cdB p.2 := fun p hp => okTu_iff (List.all_eq_true.mp c.2 p.2 (List.mem_map.mpr ⟨p, hp, rfl⟩))
          refine cr_sortedTu pins s σ H _ us Q I r ⟨a, L, _, rfl, h1, c.1, fun p hp => ⟨hL p hp, ok p hp⟩, fun ys z hp hs hz => ?_⟩
          have hy : ∀ y ∈ ys, ∃ p ∈ L, y = .ref p.1 := fun y hy => by
            obtain ⟨p, hp', e⟩ := List.mem_map.mp (hp.mem_iff.mp hy)
            exact ⟨p, hp', e.symm⟩
          have hx : (L.map fun p => V.ref p.1).map (iH H) = L.map (·.2) := by
            rw [List.map_map]
            exact List.map_congr_left fun p hp' => iH_tup (hL p hp')
          have hpm : (ys.map (iH H)).Perm (L.map (·.2)) := by rw [← hx]; exact hp.map _
          have e : ys.map (iH H) = sortB leTu (L.map (·.2)) := by
            refine perm_uniq' (R := fun x y => leTu x y = true) (fun u hu v hv h1 h2 => ?_) ?_ (sortB_srt (fun a b => ?_) (fun a b c h1 h2 => ?_) _) (hpm.trans (sortB_perm leTu _).symm)
            · obtain ⟨p1, g1, rfl⟩ := List.mem_map.mp (hpm.mem_iff.mp hu)
              obtain ⟨p2, g2, rfl⟩ := List.mem_map.mp (hpm.mem_iff.mp hv)
              have o1 := ok p1 g1
              have o2 := ok p2 g2
              exact code_inj (o1.1.trans o2.1.symm) o1.2 o2.2 (Int.le_antisymm (of_decide_eq_true h1) (of_decide_eq_true h2))
            · rw [List.pairwise_map]
              exact hs.imp fun h => decide_eq_true h
            · simp only [leTu, decide_eq_true_eq]; omega
            · simp only [leTu, decide_eq_true_eq] at *; omega
          refine p ρ _ _ (Ext.new hz) (rp.new hz) ?_
          rw [← e]
          exact .fzl (FAt.new rp hz) ((tups_rv rp fun y hy' => by
            obtain ⟨p, hp', e⟩ := hy y hy'
            exact ⟨p.1, p.2, e, hL p hp'⟩).ext (Ext.new hz))
        · exact p.elim
      · exact p.elim
    · exact p.elim
  · exact p.elim
end
/-! ### a dict against {} -/
section
variable {prog : Program} {w : World} {A : Around} {E : Value → Shared → Prop} {s : Shared}
theorem ne_sizes {a b : Addr} {oa ob : Obj} {es es' : Array DictEntry} {ep ep' : Nat} {Q : Value → Shared → Prop} (ha : (a == sysModules) = false) (hb : (b == sysModules) = false)
    (hoa : s.heap.get? a = some oa) (xa : oa.ExactDict) (hda : oa.data = .dict es ep) (hob : s.heap.get? b = some ob) (xb : ob.ExactDict) (hdb : ob.data = .dict es' ep') (hne : es.size ≠ es'.size) (hu : A.units < cLine) (h : Q (.bool true) s) :
    wpAny (model prog w) A (compareOp .NotEq (.ref a) (.ref b)) Q E s := by
  have ta : s.TypeIs (.ref a) "dict" := ⟨oa, hoa, xa.1⟩
  have tb : s.TypeIs (.ref b) "dict" := ⟨ob, hob, xb.1⟩
  refine wpAny_richCompare_same_room (op := .NotEq) ta tb PySem.F.slot_dict_ne (wpAny_call_entry PySem.F.slot_dict_ne ta PySem.F.entry_dict_ne ?_ (PySem.F.args_dict_ne_2 _ _)) hu
  refine wpAny_bind (m := Builtin.Dict.dictSlotArgs "__ne__" ⟨[.ref a, .ref b], []⟩) (wpAny_bind (wpAny_notOrdered_dict ta (wpAny_pure ?_)))
  refine wpAny_bind (wpAny_isInstance (T := "dict") tb PySem.F.sub_dict_dict ?_)
  simp only [Bool.not_true, Bool.false_eq_true, if_false]
  refine wpAny_bind (wpAny_pure (wpAny_bind (wpAny_pure ?_)))
  refine wpAny_bind ?_
  unfold Builtin.Dict.samePairs Builtin.Dict.showsAll
  rw [if_neg (fun z : (a == sysModules) = true => by rw [ha] at z; cases z), if_neg (fun z : (b == sysModules) = true => by rw [hb] at z; cases z)]
  refine wpAny_bind (wpAny_pure (wpAny_bind (wpAny_pure ?_)))
  refine wpAny_bind (wpAny_dictEntries hoa hda ?_)
  dsimp only
  refine wpAny_bind (wpAny_dictEntries hob hdb ?_)
  rw [if_pos (by simpa using hne)]
  refine wpAny_bind (wpAny_rule (wpAny_pure ?_))
  exact wpAny_pure ⟨_, rfl, (fun x => nomatch x), h⟩
end
def m_neQ (x y : D) (S : Sto) : R D := match dOf S x, dOf S y with
  | some kvs, some [] => .ok (.bl (!kvs.isEmpty)) S
  | none, _ => m_ne x y S
  | _, _ => .bad
section
variable {X : Cx}
theorem go_neQ (hu : X.A.units + 64 < cLine) : GO X (compareOp .NotEq) m_neQ := fun pins s σ H x y v u Q I rx ry ⟨ρ, S, dx, dy, rp, hx, hy, p⟩ => by
  unfold m_neQ at p
  split at p
  · next kvs q1 q2 =>
    obtain ⟨n, a, us, rfl, hS, ha, rfl, hH, rt⟩ := dOf_at rp q1 hx
    obtain ⟨n', a', us', rfl, hS', ha', rfl, hH', rt'⟩ := dOf_at rp q2 hy
    cases rx
    cases ry
    obtain ⟨z, hs, ks, pr, o, es, ep, ho, hxd, hdt, he, hn⟩ := (show ObjOk X.prog X.w H s.heap a (.dT us) from I.hok _ _ hH)
    obtain ⟨z', hs', ks', pr', o', es', ep', ho', hxd', hdt', he', hn'⟩ := (show ObjOk X.prog X.w H s.heap a' (.dT us') from I.hok _ _ hH')
    have l1 : es.size = kvs.length := by rw [size_of_entries he, ← Paired.length pr, rt.len]
    have l2 : es'.size = 0 := by rw [size_of_entries he', ← Paired.length pr', ← rt'.len]; rfl
    cases kvs with
    | cons k r =>
      refine ne_sizes hs hs' ho hxd hdt ho' hxd' hdt' (by rw [l1, l2]; simp) (by omega) ?_
      exact ⟨.bl true, H, I, rfl, p.ok rp (.bl true)⟩
    | nil =>
      have d1 : s.heap.DictOf (mixKind X.prog X.w) a [] := ⟨o, es, ep, ho, hxd, hdt, fun e hm => absurd hm (by rw [Array.size_eq_zero_iff.mp l1]; simp), by rw [Array.size_eq_zero_iff.mp l1]; exact Pairs.nil, List.nodup_nil⟩
      have d2 : s.heap.DictOf (mixKind X.prog X.w) a' [] := ⟨o', es', ep', ho', hxd', hdt', fun e hm => absurd hm (by rw [Array.size_eq_zero_iff.mp l2]; simp), by rw [Array.size_eq_zero_iff.mp l2]; exact Pairs.nil, List.nodup_nil⟩
      refine PySem.W.keq_ne (knd := mixKind X.prog X.w) (r := true) hs hs' d1 d2 (by omega) (fun _ => .nil) ?_
      exact ⟨.bl false, H, I, rfl, p.ok rp (.bl false)⟩
  · exact go_ne hu pins s σ H x y v u Q I rx ry ⟨ρ, S, dx, dy, rp, hx, hy, p⟩
  · exact p.elim
end
end ML
namespace ML
open PySem L2
/-- plain items -/
def lowD : D → Bool
  | .non => true
  | .bl _ => true
  | .int _ => true
  | .str s => PyData.canLay0 (.str s)
  | _ => false
def low1 : D → Bool
  | .tup a => a.all lowD
  | d => lowD d
def pdOf : D → PyData
  | .bl b => .bool b
  | .int i => .int i
  | .str s => .str s
  | _ => .none
def pdOf1 : D → PyData
  | .tup a => .tuple (a.map pdOf)
  | d => pdOf d
theorem toPD_low (S : Sto) (k : Nat) {d : D} (h : lowD d = true) : toPD S k d = some (pdOf d) := by
  cases d <;> first | (cases k <;> rfl) | cases h
theorem toPD_lows (S : Sto) (k : Nat) : ∀ {ds : List D}, ds.all lowD = true → opAll (toPD S k) ds = some (ds.map pdOf)
  | [], _ => rfl
  | d :: ds, h => by
    simp only [List.all_cons, Bool.and_eq_true] at h
    unfold opAll
    rw [toPD_low S k h.1, toPD_lows S k h.2]
    rfl
theorem toPD_low1 (S : Sto) (k : Nat) {d : D} (h : low1 d = true) : toPD S (k + 1) d = some (pdOf1 d) := by
  cases d <;> first | rfl | (exact toPD_low S _ h) | skip
  next a =>
    show (opAll (toPD S k) a).map PyData.tuple = _
    rw [toPD_lows S k h]
    rfl
theorem toPD_low1s (S : Sto) (k : Nat) : ∀ {ds : List D}, ds.all low1 = true → opAll (toPD S (k + 1)) ds = some (ds.map pdOf1)
  | [], _ => rfl
  | d :: ds, h => by
    simp only [List.all_cons, Bool.and_eq_true] at h
    unfold opAll
    rw [toPD_low1 S k h.1, toPD_low1s S k h.2]
    rfl
theorem low_lay {d : D} (h : lowD d = true) : PyData.canLay0 (pdOf d) = true ∧ PyData.depth (pdOf d) = 0 := by
  cases d with
  | str s => exact ⟨h, by simp [pdOf, PyData.depth]⟩
  | non => exact ⟨by simp [pdOf, PyData.canLay0], by simp [pdOf, PyData.depth]⟩
  | bl b => exact ⟨by simp [pdOf, PyData.canLay0], by simp [pdOf, PyData.depth]⟩
  | int i => exact ⟨by simp [pdOf, PyData.canLay0], by simp [pdOf, PyData.depth]⟩
  | _ => cases h
theorem lows_lay : ∀ {ds : List D}, ds.all lowD = true → PyData.canLayAll0 (ds.map pdOf) = true ∧ PyData.depthAll (ds.map pdOf) = 0
  | [], _ => ⟨by simp [PyData.canLayAll0], by simp [PyData.depthAll]⟩
  | d :: ds, h => by
    simp only [List.all_cons, Bool.and_eq_true] at h
    have h1 := low_lay h.1
    have h2 := lows_lay h.2
    exact ⟨by simp [PyData.canLayAll0, h1.1, h2.1], by simp [PyData.depthAll, h1.2, h2.2]⟩
theorem low1_lay {d : D} (h : low1 d = true) : PyData.canLay0 (pdOf1 d) = true ∧ PyData.depth (pdOf1 d) ≤ 1 := by
  cases d with
  | tup a =>
    have h2 := lows_lay (ds := a) h
    exact ⟨by simp [pdOf1, PyData.canLay0, h2.1], by simp [pdOf1, PyData.depth, h2.2]⟩
  | str s => exact ⟨h, by simp [pdOf1, pdOf, PyData.depth]⟩
  | non => exact ⟨by simp [pdOf1, pdOf, PyData.canLay0], by simp [pdOf1, pdOf, PyData.depth]⟩
  | bl b => exact ⟨by simp [pdOf1, pdOf, PyData.canLay0], by simp [pdOf1, pdOf, PyData.depth]⟩
  | int i => exact ⟨by simp [pdOf1, pdOf, PyData.canLay0], by simp [pdOf1, pdOf, PyData.depth]⟩
  | _ => cases h
theorem low1s_lay : ∀ {ds : List D}, ds.all low1 = true → PyData.canLayAll0 (ds.map pdOf1) = true ∧ PyData.depthAll (ds.map pdOf1) ≤ 1
  | [], _ => ⟨by simp [PyData.canLayAll0], by simp [PyData.depthAll]⟩
  | d :: ds, h => by
    simp only [List.all_cons, Bool.and_eq_true] at h
    have h1 := low1_lay h.1
    have h2 := low1s_lay h.2
    refine ⟨by simp [PyData.canLayAll0, h1.1, h2.1], ?_⟩
    simp only [List.map_cons, PyData.depthAll]
    exact Nat.max_le.mpr ⟨h1.2, h2.2⟩
theorem pdS_low (S : Sto) {ds : List D} (h : ds.all low1 = true) : pdS S (.fzl ds) = some (.list (ds.map pdOf1)) := by
  have e : toPD S 8 (.fzl ds) = some (.list (ds.map pdOf1)) := by
    show (opAll (toPD S 7) ds).map PyData.list = _
    rw [toPD_low1s S 6 h]
    rfl
  have hl := low1s_lay h
  have hs : SeqAt.shaped (.list (ds.map pdOf1)) = true := by
    simp only [SeqAt.shaped, PyData.canLay0, PyData.depth, hl.1, Bool.true_and]
    exact decide_eq_true (Nat.le_trans (Nat.succ_le_succ hl.2) (by decide))
  unfold pdS
  rw [e]
  simp [hs]
theorem ne_low (S : Sto) {ds : List D} (h : ds.all low1 = true) : m_ne (.fzl ds) (.fzl []) S = .ok (.bl (!ds.isEmpty)) S := by
  unfold m_ne
  rw [pdS_low S h, show pdS S (.fzl []) = some (.list []) from rfl]
  cases ds <;> simp [PyData.eqv, PyData.eqvAll]
/-- the values that the law asks about: a tuple of plain items, or something else -/
def okV : D → Bool
  | .tup a => a.all low1
  | d => D.vd d
def notInt : D → Bool
  | .int _ => false
  | _ => true
theorem vd_of_low1 {d : D} (h : low1 d = true) : D.vd d = true := by
  cases d <;> first | rfl | cases h
/-- all that it holds can be asked -/
def vd1 : D → Bool
  | .tup a => a.all D.vd
  | d => D.vd d
theorem vd_of_vd1 {v : D} (h : vd1 v = true) : D.vd v = true := by
  cases v <;> first | rfl | exact h
theorem vd1_of_okV {v : D} (h : okV v = true) : vd1 v = true := by
  cases v with
  | tup a => exact List.all_eq_true.mpr fun d hd => vd_of_low1 (List.all_eq_true.mp h d hd)
  | _ => exact h
end ML
namespace ML
open PySem L2 PyProof.Rows
/-! ### zip of lists and tuples, as many as one likes -/
/-- what one of zip's sources is -/
inductive SK where
  | l | t
def SK.Is : SK → Heap → Addr → Array Value → Prop
  | .l, h, a, xs => h.IsList a xs
  | .t, h, a, xs => h.IsTuple a xs
def SK.It : SK → Heap → Addr → Addr → Nat → Prop
  | .l, h, i, a, n => h.IsListIter i a n
  | .t, h, i, a, n => h.IsTupleIter i a n
theorem SK.Is.step {k : SK} {h h' : Heap} {a : Addr} {xs : Array Value} (p : k.Is h a xs) (e : ∀ o, h.get? a = some o → h'.get? a = some o) : k.Is h' a xs := by
  cases k with
  | l => obtain ⟨o, ho, r⟩ := p; exact ⟨o, e _ ho, r⟩
  | t => obtain ⟨o, ho, r⟩ := p; exact ⟨o, e _ ho, r⟩
theorem SK.It.step {k : SK} {h h' : Heap} {i a : Addr} {n : Nat} (p : k.It h i a n) (e : ∀ o, h.get? i = some o → h'.get? i = some o) : k.It h' i a n := by
  cases k with
  | l => obtain ⟨o, ho, r⟩ := p; exact ⟨o, e _ ho, r⟩
  | t => obtain ⟨o, ho, r⟩ := p; exact ⟨o, e _ ho, r⟩
section
variable {prog : Program} {w : World} {A : Around} {E : Value → Shared → Prop} {s : Shared}
theorem sk_item {k : SK} {it a : Addr} {n : Nat} {xs : Array Value} {x : Value} {Q : Value → Shared → Prop} (hi : k.It s.heap it a n) (ha : k.Is s.heap a xs) (hx : xs[n]? = some x)
    (q : ∀ h', k.It h' it a (n + 1) → Heap.SameBut it s.heap h' → Q x { s with heap := h' }) : wpAny (model prog w) A (Builtin.SmallTypes.nextOf (.ref it)) Q E s := by
  cases k with
  | l => exact wpAny_nextOf_list_item hi ha hx q
  | t => exact RZ.nextOf_tuple_item hi ha hx q
theorem sk_end {k : SK} {it a : Addr} {n : Nat} {xs : Array Value} {Q : Value → Shared → Prop} (hh : A.handled = none) (hi : k.It s.heap it a n) (ha : k.Is s.heap a xs) (hx : xs[n]? = none)
    (q : ∀ h' e, Heap.ExtBut it s.heap h' → (∃ o, h'.get? e = some o ∧ o.cls = .type "StopIteration") → E (.ref e) { s with heap := h' }) : wpAny (model prog w) A (Builtin.SmallTypes.nextOf (.ref it)) Q E s := by
  cases k with
  | l => exact wpAny_nextOf_list_end hh hi ha hx q
  | t => exact RZ.nextOf_tuple_end hh hi ha hx q
end
structure Src where
  k : SK
  i : Addr
  a : Addr
  xs : Array Value
/-- a tuple that zip keeps for itself -/
def Own (h : Heap) (T : Addr) (vs : Array Value) : Prop := h.get? T = some { cls := .type "tuple", data := .seq vs }
structure Apart (z TI TO : Addr) (L : List Src) : Prop where
  TIz : TI ≠ z
  TOz : TO ≠ z
  TT : TI ≠ TO
  i : ∀ s ∈ L, s.i ≠ z ∧ s.i ≠ TI ∧ s.i ≠ TO
  ii : L.Pairwise fun s t => s.i ≠ t.i
  a : ∀ s ∈ L, s.a ≠ z ∧ s.a ≠ TO ∧ ∀ t ∈ L, s.a ≠ t.i
section
variable {prog : Program} {w : World} {A : Around} {E : Value → Shared → Prop} {s : Shared}
def valAt (n : Nat) (q : Src) : Value := (q.xs[n]?).getD .none
/-- where zip stands when j of its sources have been asked -/
structure Zt (z TI TO : Addr) (n : Nat) (L : List Src) (s0 : Shared) (j : Nat) (s' : Shared) : Prop where
  fz : IsZip s'.heap z TI TO .ellipsis
  fo : ∃ vs : Array Value, Own s'.heap TO vs ∧ vs.size = L.length ∧ ∀ i, i < j → vs[i]? = (L.map (valAt n))[i]?
  fq : ∀ (i : Nat) (q : Src), L[i]? = some q → q.k.It s'.heap q.i q.a (if i < j then n + 1 else n) ∧ q.k.Is s'.heap q.a q.xs
  fy : ∀ (i : Nat) (q : Src), L[i]? = some q → i < j → ∃ x, q.xs[n]? = some x
  fs : s'.heap.objs.size = s0.heap.objs.size
  fk : ∀ c o, c ≠ z → c ≠ TO → (∀ q ∈ L, c ≠ q.i) → s0.heap.get? c = some o → s'.heap.get? c = some o
  fr : s' = { s0 with heap := s'.heap }
theorem own_put {h : Heap} {T : Addr} {vs : Array Value} {k : Nat} {x : Value} (hO : Own h T vs) : Own (h.update T (Obj.mapSeq fun a => a.setIfInBounds k x)) T (vs.setIfInBounds k x) := by
  unfold Own
  rw [Heap.get?_update_self _ hO rfl]
  simp [Obj.mapSeq]
theorem zipN_next {z TI TO : Addr} {n : Nat} {L : List Src} {vs : Array Value} {Q : Value → Shared → Prop} (hh : A.handled = none) (D : Apart z TI TO L) (hz : IsZip s.heap z TI TO .none) (hI : Own s.heap TI (L.map fun q => Value.ref q.i).toArray) (hO : Own s.heap TO vs)
    (hvs : vs.size = L.length) (hlen : L.length ≤ 100) (hne : L ≠ []) (hL : ∀ q ∈ L, q.k.It s.heap q.i q.a n ∧ q.k.Is s.heap q.a q.xs)
    (hQ : ∀ h', (∀ q ∈ L, ∃ x, q.xs[n]? = some x) → IsZip h' z TI TO (rawInt s.heap.objs.size) → Own h' TO (L.map (valAt n)).toArray → (∀ q ∈ L, q.k.It h' q.i q.a (n + 1)) → Own h' s.heap.objs.size (L.map (valAt n)).toArray → h'.objs.size = s.heap.objs.size + 1 →
      (∀ c o, c ≠ z → c ≠ TO → (∀ q ∈ L, c ≠ q.i) → s.heap.get? c = some o → h'.get? c = some o) → Q (.ref s.heap.objs.size) { s with heap := h' })
    (hE : ∀ h' e, (∃ q ∈ L, q.xs[n]? = none) → (∀ c o, c ≠ z → c ≠ TO → (∀ q ∈ L, c ≠ q.i) → s.heap.get? c = some o → h'.get? c = some o) → (∃ o, h'.get? e = some o ∧ o.cls = .type "StopIteration") → E (.ref e) { s with heap := h' }) :
    wpAny (model prog w) A (Builtin.«zip.__next__» ⟨[.ref z], []⟩) (fun fin s' => ∃ v, fin = .done (.ret v) ∧ Q v s') E s := by
  show wpAny _ _ (field (.ref z) 2 >>= _) _ _ _
  refine wpAny_bind (wpAny_field hz rfl (x := .bool false) rfl ?_)
  show wpAny _ _ (field (.ref z) 3 >>= _) _ _ _
  refine wpAny_bind (wpAny_field hz rfl (x := .ref TI) rfl ?_)
  refine wpAny_bind (wpAny_seqItems hI rfl ?_)
  have e0 : (L.map fun q => Value.ref q.i).toArray.isEmpty = false := by
    cases L with
    | nil => exact absurd rfl hne
    | cons a r => rfl
  simp only [e0, Bool.false_eq_true, if_false]
  show wpAny _ _ (Builtin.SmallTypes.ownedTupleIsFree (.ref z) >>= _) _ _ _
  refine wpAny_bind ?_
  unfold Builtin.SmallTypes.ownedTupleIsFree
  refine wpAny_bind (wpAny_field hz rfl (x := .none) rfl (wpAny_pure ?_))
  simp only [if_true]
  refine wpAny_bind (wpAny_rule ?_)
  refine wpAny_bind (wpAny_field hz rfl (x := .ref TO) rfl ?_)
  refine wpAny_bind (wpAny_setField_rec hz (by simp) fun h₁ hz₁ sb₁ => ?_)
  replace hz₁ : IsZip h₁ z TI TO .ellipsis := hz₁
  have apq : ∀ q ∈ L, q.i ≠ z ∧ q.i ≠ TI ∧ q.i ≠ TO := D.i
  have Z0 : Zt z TI TO n L s 0 { s with heap := h₁ } := by
    refine ⟨hz₁, ⟨vs, (sb₁.2 _ D.TOz).trans hO, hvs, fun i hi => absurd hi (Nat.not_lt_zero _)⟩, fun i q hq => ?_, fun i q _ hi => absurd hi (Nat.not_lt_zero _), sb₁.1, fun c o c1 _ _ e => (sb₁.2 _ c1).trans e, rfl⟩
    have hm := List.mem_of_getElem? hq
    obtain ⟨a1, a2⟩ := hL q hm
    exact ⟨a1.step fun o e => (sb₁.2 _ (apq q hm).1).trans e, a2.step fun o e => (sb₁.2 _ (D.a q hm).1).trans e⟩
  refine wpAny_bind (wpAny_forIn_list _ (fun rest b s' => ∃ j, rest = ((L.map fun q => Value.ref q.i).zipIdx).drop j ∧ j ≤ L.length ∧ b = (none, ()) ∧ Zt z TI TO n L s j s') _ ?turn ?fin _ _ ⟨0, rfl, Nat.zero_le _, rfl, Z0⟩)
  case turn =>
    rintro x rest b s' ⟨j, hr, hj, rfl, Z⟩
    have hjl : j < L.length := by
      rcases Nat.lt_or_ge j L.length with h | h
      · exact h
      · rw [List.drop_eq_nil_of_le (by simpa using h)] at hr
        cases hr
    have hq : L[j]? = some L[j] := List.getElem?_eq_getElem hjl
    have hqm := List.getElem_mem hjl
    generalize L[j] = q at hq hqm
    have hx : x = (.ref q.i, j) ∧ rest = ((L.map fun q => Value.ref q.i).zipIdx).drop (j + 1) := by
      have hl : j < ((L.map fun q => Value.ref q.i).zipIdx).length := by simpa using hjl
      rw [List.drop_eq_getElem_cons hl] at hr
      have h1 := (List.cons.inj hr).1
      have h2 := (List.cons.inj hr).2
      refine ⟨?_, h2⟩
      rw [h1]
      have e1 : L[j] = q := Option.some.inj ((List.getElem?_eq_getElem hjl).symm.trans hq)
      simp [e1]
    obtain ⟨rfl, rfl⟩ := hx
    obtain ⟨hit, his⟩ := Z.fq j q hq
    rw [if_neg (Nat.lt_irrefl j)] at hit
    obtain ⟨d1, d2, d3⟩ := apq q hqm
    refine wpAny_bind (wpAny_onRaise ?_)
    show wpAny _ _ (Builtin.SmallTypes.nextOf (.ref q.i) >>= _) _ _ _
    obtain ⟨hp, rfl⟩ : ∃ hp, s' = { s with heap := hp } := ⟨_, Z.fr⟩
    have hz1 : IsZip hp z TI TO .ellipsis := Z.fz
    cases hxs : q.xs[n]? with
    | none =>
      refine wpAny_bind (sk_end hh hit his hxs fun h₂ e hs₂ he => ?_)
      obtain ⟨oe, hoe, hce⟩ := he
      have hz₂ : IsZip h₂ z TI TO .ellipsis := hs₂ _ _ d1.symm hz1
      have hez : e ≠ z := fun x => by
        subst x
        rw [hz₂] at hoe
        cases hoe
        simp at hce
      refine wpAny_setField_rec hz₂ (by simp) fun h₃ _ sb₃ => hE h₃ e ⟨q, hqm, hxs⟩ (fun c o c1 c2 c3 x => (sb₃.2 _ c1).trans (hs₂ _ _ (c3 q hqm) (Z.fk c o c1 c2 c3 x))) ⟨oe, (sb₃.2 _ hez).trans hoe, hce⟩
    | some x =>
      refine wpAny_bind (sk_item hit his hxs fun h₂ hit₂ sb₂ => wpAny_pure ?_)
      obtain ⟨ws, hO', hsz, hv⟩ := Z.fo
      have hO₂ : Own h₂ TO ws := (sb₂.2 _ d3.symm).trans hO'
      have hw : ws.size ≤ sizeLine := by rw [hsz]; exact Nat.le_trans hlen (by decide)
      refine wpAny_bind (wpAny_seqItems hO₂ rfl ?_)
      refine wpAny_bind (wpAny_updateSeq hO₂ rfl ?_ hw (by rw [Array.size_setIfInBounds]; exact Nat.le_succ_of_le hw))
      refine wpAny_bind (wpAny_letGo (wpAny_pure ?_))
      have sb₃ : Heap.SameBut TO h₂ (h₂.update TO (Obj.mapSeq fun a => a.setIfInBounds j x)) := Heap.SameBut.update ..
      have hO₃ := own_put (k := j) (x := x) hO₂
      refine ⟨j + 1, rfl, hjl, rfl, ?_⟩
      have go : ∀ c o, c ≠ TO → c ≠ q.i → hp.get? c = some o → (h₂.update TO (Obj.mapSeq fun a => a.setIfInBounds j x)).get? c = some o := fun c o c1 c2 e => (sb₃.2 _ c1).trans ((sb₂.2 _ c2).trans e)
      refine ⟨go _ _ D.TOz.symm d1.symm hz1, ⟨_, hO₃, by rw [Array.size_setIfInBounds]; exact hsz, fun i hi => ?_⟩, fun i p hp' => ?_, fun i p hp' hi => ?_, ?_, fun c o c1 c2 c3 e => go c o c2 (c3 q hqm) (Z.fk c o c1 c2 c3 e), rfl⟩
      · by_cases h : i = j
        · subst h
          rw [Array.getElem?_setIfInBounds_self_of_lt (by omega), List.getElem?_map, hq]
          simp [valAt, hxs]
        · rw [Array.getElem?_setIfInBounds_ne (by omega)]
          exact hv i (by omega)
      · obtain ⟨b1, b2⟩ := Z.fq i p hp'
        have pm := List.mem_of_getElem? hp'
        have ap := D.a p pm
        refine ⟨?_, b2.step fun o e => go _ o ap.2.1 (ap.2.2 q hqm) e⟩
        by_cases h : i = j
        · subst h
          have e : p = q := Option.some.inj (hp'.symm.trans hq)
          subst e
          rw [if_pos (Nat.lt_succ_self i)]
          exact hit₂.step fun o e => (sb₃.2 _ d3).trans e
        · have ne : p.i ≠ q.i := by
            obtain ⟨i1, i2⟩ := List.getElem?_eq_some_iff.mp hp'
            obtain ⟨j1, j2⟩ := List.getElem?_eq_some_iff.mp hq
            rcases Nat.lt_or_ge i j with c | c
            · have := List.pairwise_iff_getElem.mp D.ii i j i1 j1 c
              rwa [i2, j2] at this
            · have := List.pairwise_iff_getElem.mp D.ii j i j1 i1 (by omega)
              rw [i2, j2] at this
              exact this.symm
          have ei : (if i < j + 1 then n + 1 else n) = if i < j then n + 1 else n := by
            by_cases c : i < j
            · rw [if_pos c, if_pos (by omega)]
            · rw [if_neg c, if_neg (by omega)]
          rw [ei]
          exact b1.step fun o e => go _ o (apq p pm).2.2 ne e
      · by_cases h : i = j
        · subst h
          have e : p = q := Option.some.inj (hp'.symm.trans hq)
          subst e
          exact ⟨x, hxs⟩
        · exact Z.fy i p hp' (by omega)
      · rw [sb₃.1, sb₂.1]
        exact Z.fs
  case fin =>
    rintro b s' ⟨j, hr, hj, rfl, Z⟩
    have hjl : j = L.length := by
      rcases Nat.lt_or_ge j L.length with h | h
      · have := congrArg List.length hr
        simp at this
        omega
      · omega
    subst hjl
    obtain ⟨hp, rfl⟩ : ∃ hp, s' = { s with heap := hp } := ⟨_, Z.fr⟩
    obtain ⟨ws, hO', hsz, hv⟩ := Z.fo
    have hz1 : IsZip hp z TI TO .ellipsis := Z.fz
    have hps : hp.objs.size = s.heap.objs.size := Z.fs
    have ews : ws = (L.map (valAt n)).toArray := by
      apply Array.ext_getElem?
      intro i
      by_cases h : i < L.length
      · rw [hv i h]
        simp
      · rw [Array.getElem?_eq_none (by omega), Array.getElem?_eq_none (by simp; omega)]
    subst ews
    refine wpAny_bind (wpAny_seqItems hO' rfl ?_)
    refine wpAny_bind (wpAny_newTuple ?_ (by simp; exact Nat.le_trans hlen (by decide)))
    show wpAny _ _ (Builtin.SmallTypes.ownedTupleHandOut (.ref z) (.ref hp.objs.size) >>= _) _ _ _
    refine wpAny_bind ?_
    unfold Builtin.SmallTypes.ownedTupleHandOut
    have hz₆ : IsZip (hp.push { cls := .type "tuple", data := .seq (L.map (valAt n)).toArray }) z TI TO .ellipsis := Heap.get?_push_of_some _ hz1
    refine wpAny_bind (wpAny_setField_rec hz₆ (by simp) fun h₇ hz₇ hs₇ => ?_)
    replace hz₇ : IsZip h₇ z TI TO (rawInt hp.objs.size) := hz₇
    refine wpAny_setField_rec hz₇ (by simp) fun h₈ hz₈ hs₈ => ?_
    replace hz₈ : IsZip h₈ z TI TO (rawInt hp.objs.size) := hz₈
    have hzlt : z < hp.objs.size := Heap.lt_size hz1
    have up : ∀ c o, c ≠ z → hp.get? c = some o → h₈.get? c = some o := fun c o c1 e => (hs₈.2 _ c1).trans ((hs₇.2 _ c1).trans (Heap.get?_push_of_some _ e))
    have hT₈ : Own h₈ hp.objs.size (L.map (valAt n)).toArray := (hs₈.2 _ (Nat.ne_of_gt hzlt)).trans ((hs₇.2 _ (Nat.ne_of_gt hzlt)).trans (Heap.get?_push_size _ rfl))
    have hz8 : h₈.objs.size = hp.objs.size + 1 := by rw [hs₈.1, hs₇.1, Heap.size_push]
    rw [hps] at hz₈ hT₈ hz8
    refine wpAny_pure ⟨_, rfl, ?_⟩
    show Q (.ref hp.objs.size) _
    rw [hps]
    refine hQ h₈ (fun q hq => ?_) hz₈ (up _ _ D.TOz hO') (fun q hq => ?_) hT₈ hz8 fun c o c1 c2 c3 e => up c o c1 (Z.fk c o c1 c2 c3 e)
    · obtain ⟨i, hi⟩ := List.mem_iff_getElem?.mp hq
      exact Z.fy i q hi (List.getElem?_eq_some_iff.mp hi).1
    · obtain ⟨i, hi⟩ := List.mem_iff_getElem?.mp hq
      have := (Z.fq i q hi).1
      rw [if_pos (List.getElem?_eq_some_iff.mp hi).1] at this
      exact this.step fun o e => up _ o (D.i q hq).1 e
end
/-! ### zip is called -/
def ziv (L : List Src) : List Value := L.map fun q => .ref q.a
def zit (L : List Src) : List Value := L.map fun q => .ref q.i
/-- the sources' iterators are made one behind the other, from b on -/
def Inrow (b : Nat) (L : List Src) : Prop := ∀ (i : Nat) (q : Src), L[i]? = some q → q.i = b + i
section
variable {prog : Program} {w : World} {A : Around} {E : Value → Shared → Prop} {s : Shared}
theorem sk_iter {k : SK} {a : Addr} {xs : Array Value} {Q : Value → Shared → Prop} (ha : k.Is s.heap a xs)
    (q : ∀ o : Obj, (∀ h' : Heap, h'.get? s.heap.objs.size = some o → k.It h' s.heap.objs.size a 0) → o.isFreed = false → Q (.ref s.heap.objs.size) { s with heap := s.heap.push o }) : wpAny (model prog w) A (pyIter (.ref a)) Q E s := by
  cases k with
  | l => exact wpAny_pyIter_list ha (q _ (fun h' e => ⟨_, e, rfl, rfl⟩) rfl)
  | t => exact wpAny_pyIter_tuple ha (q _ (fun h' e => ⟨_, e, rfl, rfl⟩) rfl)
theorem wp_iterAll {L : List Src} {Q : List Value → Shared → Prop} (h1 : ∀ q ∈ L, q.k.Is s.heap q.a q.xs) (h2 : Inrow s.heap.objs.size L)
    (q : ∀ h' : Heap, (∀ q ∈ L, q.k.It h' q.i q.a 0) → h'.objs.size = s.heap.objs.size + L.length → (∀ c o, s.heap.get? c = some o → h'.get? c = some o) → Q (zit L) { s with heap := h' }) : wpAny (model prog w) A (Builtin.SmallTypes.iterAll (ziv L)) Q E s := by
  unfold Builtin.SmallTypes.iterAll
  refine wpAny_bind (wpAny_forIn_list _ (fun rest b s' => ∃ j, rest = (ziv L).drop j ∧ j ≤ L.length ∧ b = ((zit L).take j).toArray ∧ ∃ hp, s' = { s with heap := hp } ∧ hp.objs.size = s.heap.objs.size + j ∧ (∀ (i : Nat) (q : Src), L[i]? = some q → i < j → q.k.It hp q.i q.a 0) ∧ ∀ c o, s.heap.get? c = some o → hp.get? c = some o) _ ?turn ?fin _ _ ⟨0, rfl, Nat.zero_le _, rfl, s.heap, rfl, rfl, fun i q _ hi => absurd hi (Nat.not_lt_zero _), fun _ _ e => e⟩)
  case turn =>
    rintro x rest b s' ⟨j, hr, hj, rfl, hp, rfl, hsz, hit, hk⟩
    have hjl : j < L.length := by
      rcases Nat.lt_or_ge j L.length with h | h
      · exact h
      · rw [List.drop_eq_nil_of_le (by simpa [ziv] using h)] at hr
        cases hr
    have hq : L[j]? = some L[j] := List.getElem?_eq_getElem hjl
    have hqm := List.getElem_mem hjl
    have hl : j < (ziv L).length := by simpa [ziv] using hjl
    rw [List.drop_eq_getElem_cons hl] at hr
    have hx := (List.cons.inj hr).1
    have hr2 := (List.cons.inj hr).2
    have hx2 : x = .ref L[j].a := by rw [hx]; simp [ziv]
    have hzj : (zit L)[j]? = some (.ref L[j].i) := by simp [zit, hq]
    generalize L[j] = q at hq hqm hx2 hzj
    subst hx2 hr2
    refine wpAny_bind (wpAny_holding (sk_iter (k := q.k) (xs := q.xs) ((h1 q hqm).step fun o e => hk _ _ e) fun o ho hfr => wpAny_pure ?_))
    have e1 : q.i = hp.objs.size := by rw [h2 j q hq, hsz]
    refine ⟨j + 1, rfl, hjl, ?_, _, rfl, by rw [Heap.size_push, hsz]; rfl, fun i p hp' hi => ?_, fun c o e => Heap.get?_push_of_some _ (hk c o e)⟩
    · rw [List.take_add_one, hzj, e1]
      simp
    · by_cases h : i = j
      · subst h
        have e : p = q := Option.some.inj (hp'.symm.trans hq)
        subst e
        rw [e1]
        exact ho _ (Heap.get?_push_size _ hfr)
      · exact (hit i p hp' (by omega)).step fun o e => Heap.get?_push_of_some _ e
  case fin =>
    rintro b s' ⟨j, hr, hj, rfl, hp, rfl, hsz, hit, hk⟩
    have hjl : j = L.length := by
      rcases Nat.lt_or_ge j L.length with h | h
      · have := congrArg List.length hr
        simp [ziv] at this
        omega
      · omega
    subst hjl
    refine wpAny_pure ?_
    have : (((zit L).take L.length).toArray).toList = zit L := by
      show (zit L).take L.length = _
      exact List.take_of_length_le (by simp [zit])
    rw [this]
    exact q hp (fun q hq => by
      obtain ⟨i, hi⟩ := List.mem_iff_getElem?.mp hq
      exact hit i q hi (List.getElem?_eq_some_iff.mp hi).1) hsz hk
end
section
variable {prog : Program} {w : World} {A : Around} {E : Value → Shared → Prop} {s : Shared}
theorem wp_zipClass {r : List Value} {Q : Value × List Value → Shared → Prop} (q : Q (.type "zip", r) s) : wpAny (model prog w) A (Builtin.SmallTypes.newClass "zip" ⟨.type "zip" :: r, []⟩) Q E s := by
  have hsub := sub_zip
  unfold Builtin.SmallTypes.newClass
  wp_walk
  exact q
end
theorem zipN_new (L : List Src) (hlen : L.length ≤ 100) : Meets (Builtin.«zip.__new__» ⟨.type "zip" :: ziv L, []⟩) (fun _ R s => (∀ q ∈ L, q.k.Is s.heap q.a q.xs) ∧ Inrow s.heap.objs.size L ∧
    ∀ h', IsZip h' (s.heap.objs.size + L.length + 2) (s.heap.objs.size + L.length) (s.heap.objs.size + L.length + 1) .none → Own h' (s.heap.objs.size + L.length) (zit L).toArray → Own h' (s.heap.objs.size + L.length + 1) ((zit L).map fun _ => Value.none).toArray →
      (∀ q ∈ L, q.k.It h' q.i q.a 0) → h'.objs.size = s.heap.objs.size + L.length + 3 → (∀ c o, s.heap.get? c = some o → h'.get? c = some o) → R (.ok (.ret (.ref (s.heap.objs.size + L.length + 2)))) { s with heap := h' }) :=
  .of_wp fun prog w A R s h => by
    obtain ⟨h1, h2, h3⟩ := h
    have hz : (zit L).length ≤ sizeLine := by
      rw [zit, List.length_map]
      exact Nat.le_trans hlen (by decide)
    unfold Builtin.«zip.__new__»
    refine wpAny_bind (wp_zipClass ?_)
    show wpAny _ _ (Builtin.SmallTypes.iterAll (ziv L) >>= _) _ _ s
    refine wpAny_bind (wp_iterAll h1 h2 fun hp hit hsz hk => ?_)
    refine wpAny_bind (wpAny_newTuple ?_ hz)
    refine wpAny_bind (wpAny_newTuple ?_ (by rw [List.length_map]; exact hz))
    refine wpAny_bind ?_
    show wpAny _ _ (newObj (.type "zip") (.fields #[.none, .bool false, .bool false, .ref hp.objs.size, .ref (hp.push { cls := .type "tuple", data := .seq (zit L).toArray }).objs.size])) _ _ _
    refine wpAny_newObj_type (wpAny_pure ⟨_, rfl, ?_⟩)
    have s1 : (hp.push { cls := .type "tuple", data := .seq (zit L).toArray }).objs.size = s.heap.objs.size + L.length + 1 := by rw [Heap.size_push, hsz]
    have s2 : ((hp.push { cls := .type "tuple", data := .seq (zit L).toArray }).push { cls := .type "tuple", data := .seq ((zit L).map fun _ => Value.none).toArray }).objs.size = s.heap.objs.size + L.length + 2 := by rw [Heap.size_push, s1]
    have g0 := h3 (((hp.push { cls := .type "tuple", data := .seq (zit L).toArray }).push { cls := .type "tuple", data := .seq ((zit L).map fun _ => Value.none).toArray }).push { cls := .type "zip", data := .fields #[.none, .bool false, .bool false, .ref hp.objs.size, .ref (hp.push { cls := .type "tuple", data := .seq (zit L).toArray }).objs.size] })
      (by
        have := Heap.get?_push_size ((hp.push { cls := .type "tuple", data := .seq (zit L).toArray }).push { cls := .type "tuple", data := .seq ((zit L).map fun _ => Value.none).toArray }) (o := { cls := .type "zip", data := .fields #[.none, .bool false, .bool false, .ref hp.objs.size, .ref (hp.push { cls := .type "tuple", data := .seq (zit L).toArray }).objs.size] }) rfl
        rw [s2] at this
        rw [IsZip, this, s1, hsz])
      (by
        rw [← hsz]
        exact Heap.get?_push_of_some _ (Heap.get?_push_of_some _ (Heap.get?_push_size _ rfl)))
      (by
        rw [← s1]
        exact Heap.get?_push_of_some _ (Heap.get?_push_size _ rfl))
      (fun q hq => (hit q hq).step fun o e => Heap.get?_push_of_some _ (Heap.get?_push_of_some _ (Heap.get?_push_of_some _ e)))
      (by rw [Heap.size_push, s2])
      (fun c o e => Heap.get?_push_of_some _ (Heap.get?_push_of_some _ (Heap.get?_push_of_some _ (hk c o e))))
    rw [← s2] at g0
    exact g0
/-! ### zip as what a loop goes through -/
section
variable {prog : Program} {w : World} {A : Around} {E : Value → Shared → Prop} {s : Shared}
theorem pyNext_zipN {z TI TO : Addr} {n : Nat} {L : List Src} {vs : Array Value} {Q : Option Value → Shared → Prop} (hh : A.handled = none) (D : Apart z TI TO L) (hz : IsZip s.heap z TI TO .none) (hI : Own s.heap TI (L.map fun q => Value.ref q.i).toArray) (hO : Own s.heap TO vs)
    (hvs : vs.size = L.length) (hlen : L.length ≤ 100) (hne : L ≠ []) (hL : ∀ q ∈ L, q.k.It s.heap q.i q.a n ∧ q.k.Is s.heap q.a q.xs)
    (hQ : ∀ h', (∀ q ∈ L, ∃ x, q.xs[n]? = some x) → IsZip h' z TI TO (rawInt s.heap.objs.size) → Own h' TO (L.map (valAt n)).toArray → (∀ q ∈ L, q.k.It h' q.i q.a (n + 1)) → Own h' s.heap.objs.size (L.map (valAt n)).toArray → h'.objs.size = s.heap.objs.size + 1 →
      (∀ c o, c ≠ z → c ≠ TO → (∀ q ∈ L, c ≠ q.i) → s.heap.get? c = some o → h'.get? c = some o) → Q (some (.ref s.heap.objs.size)) { s with heap := h' })
    (hE : ∀ h', (∃ q ∈ L, q.xs[n]? = none) → (∀ c o, c ≠ z → c ≠ TO → (∀ q ∈ L, c ≠ q.i) → s.heap.get? c = some o → h'.get? c = some o) → Q none { s with heap := h' }) :
    wpAny (model prog w) A (pyNext (.ref z)) Q E s := by
  have hT : s.TypeIs (.ref z) "zip" := ⟨_, hz, rfl⟩
  unfold pyNext
  refine wpAny_bind (wpAny_attempt (wpAny_callSpecial?_slot (name := Str.ofString "__next__") hT F.slot_zip_next
    (wpAny_call_entry F.slot_zip_next hT F.entry_zip_next (zipN_next hh D hz hI hO hvs hlen hne hL (fun h' a0 a1 a2 a3 a4 a5 a6 => wpAny_pure (hQ h' a0 a1 a2 a3 a4 a5 a6)) fun h' e hx hk he => ?_) (F.args_zip_next_1 _))))
  obtain ⟨o, ho, hc⟩ := he
  refine wpAny_bind (wpAny_isInstance (T := "StopIteration") (b := true) ⟨o, ho, hc⟩ isSubtype_stop ?_)
  exact wpAny_pure (hE _ hx hk)
end
def SqK (K : PySem.W.Frag) : SK → Hp → Addr → List V → Prop
  | .l, H, a, xs => SqL K H a xs
  | .t, H, a, xs => SqT K H a xs
/-- the sources as they stand at each turn, the items in new tuples -/
def ItzN (K : PySem.W.Frag) (M : List (SK × Addr)) : It :=
  ⟨fun i H => ∀ p ∈ M, ∃ (xs : List V) (x : V), SqK K p.1 H p.2 xs ∧ xs[i]? = some x,
    fun i H v H' => ∃ (T : Addr) (vs : List V), v = .ref T ∧ H T = none ∧ H' = upd H T (.tup vs) ∧ vs.length = M.length ∧ ∀ (j : Nat) (p : SK × Addr), M[j]? = some p → ∀ xs, SqK K p.1 H p.2 xs → vs[j]? = xs[i]?,
    fun i H => (∀ p ∈ M, ∃ xs : List V, SqK K p.1 H p.2 xs) ∧ ∃ p ∈ M, ∃ xs : List V, SqK K p.1 H p.2 xs ∧ xs.length ≤ i⟩
section
variable {X : Cx} {pins : List (Addr × Obj)} {σ : L2.St} {H : Hp} {s : Shared}
theorem sk_arr {k : SK} {a : Addr} {xs : List V} (I : L2.Inv X pins σ H s) (h : SqK X.K k H a xs) : ∃ its : Array Value, k.Is s.heap a its ∧ Vals xs its.toList := by
  cases k with
  | l =>
    obtain ⟨its, rv, p, _⟩ := I.list h
    exact ⟨its.toArray, p.isList, by simpa using rv⟩
  | t =>
    obtain ⟨its, rv, p, _⟩ := I.tuple h
    exact ⟨its.toArray, p, by simpa using rv⟩
theorem sk_inj {k : SK} {a : Addr} {xs ys : List V} (I : L2.Inv X pins σ H s) (h : SqK X.K k H a xs) (g : SqK X.K k H a ys) : xs = ys := by
  cases k with
  | l => exact I.list_inj h g
  | t => exact I.tuple_inj h g
/-- a source as the heap tells it -/
def SrcOk (X : Cx) (H : Hp) (s : Shared) (q : Src) : Prop := q.k.Is s.heap q.a q.xs ∧ ∃ xs : List V, SqK X.K q.k H q.a xs ∧ Vals xs q.xs.toList
theorem srcs_of (I : L2.Inv X pins σ H s) : ∀ (M : List (SK × Addr)) (is : List Addr), M.length = is.length → (∀ p ∈ M, ∃ xs : List V, SqK X.K p.1 H p.2 xs) → ∃ L : List Src, L.map (fun q => (q.k, q.a)) = M ∧ L.map (·.i) = is ∧ ∀ q ∈ L, SrcOk X H s q
  | [], [], _, _ => ⟨[], rfl, rfl, fun q h => nomatch h⟩
  | p :: M, b :: is, hl, h => by
    obtain ⟨L, e1, e2, h3⟩ := srcs_of I M is (by simpa using hl) fun q hq => h q (List.mem_cons_of_mem _ hq)
    obtain ⟨xs, hx⟩ := h p (List.mem_cons_self ..)
    obtain ⟨its, h4, h5⟩ := sk_arr I hx
    refine ⟨⟨p.1, b, p.2, its⟩ :: L, by rw [List.map_cons, e1], by rw [List.map_cons, e2], fun q hq => ?_⟩
    rcases List.mem_cons.mp hq with rfl | hq
    · exact ⟨h4, xs, hx, h5⟩
    · exact h3 q hq
theorem vals_of (I : L2.Inv X pins σ H s) (n : Nat) : ∀ L : List Src, (∀ q ∈ L, SrcOk X H s q) → (∀ q ∈ L, ∃ x, q.xs[n]? = some x) → ∃ vs : List V, Vals vs (L.map (valAt n)) ∧ vs.length = L.length ∧ ∀ (j : Nat) (q : Src), L[j]? = some q → ∀ xs, SqK X.K q.k H q.a xs → vs[j]? = xs[n]?
  | [], _, _ => ⟨[], .nil, rfl, fun j q h => by simp at h⟩
  | q :: L, h, g => by
    obtain ⟨vs, h1, h2, h3⟩ := vals_of I n L (fun p hp => h p (List.mem_cons_of_mem _ hp)) fun p hp => g p (List.mem_cons_of_mem _ hp)
    obtain ⟨_, xs, hx, hv⟩ := h q (List.mem_cons_self ..)
    obtain ⟨u, hu⟩ := g q (List.mem_cons_self ..)
    have hul : q.xs.toList[n]? = some u := by simpa using hu
    have hlen := hv.length
    have hn : n < xs.length := by
      have := (List.getElem?_eq_some_iff.mp hul).1
      omega
    have hxn : xs[n]? = some xs[n] := List.getElem?_eq_getElem hn
    obtain ⟨u', hu', ru⟩ := hv.get hxn
    rw [hul] at hu'
    cases hu'
    refine ⟨xs[n] :: vs, .cons (by rw [valAt, hu]; exact ru) h1, by simp [h2], fun j p hp ys hy => ?_⟩
    cases j with
    | zero =>
      have e : q = p := by simpa using hp
      subst e
      rw [sk_inj I hy hx, hxn]
      rfl
    | succ j => exact h3 j p (by simpa using hp) ys hy
structure ApartM (z TI TO : Addr) (M : List (SK × Addr)) (is : List Addr) : Prop where
  TIz : TI ≠ z
  TOz : TO ≠ z
  TT : TI ≠ TO
  i : ∀ b ∈ is, b ≠ z ∧ b ≠ TI ∧ b ≠ TO
  ii : is.Pairwise fun b c => b ≠ c
  a : ∀ p ∈ M, p.2 ≠ z ∧ p.2 ≠ TO ∧ ∀ b ∈ is, p.2 ≠ b
theorem ApartM.of {z TI TO : Addr} {M : List (SK × Addr)} {is : List Addr} {L : List Src} (D : ApartM z TI TO M is) (e1 : L.map (fun q => (q.k, q.a)) = M) (e2 : L.map (·.i) = is) : Apart z TI TO L := by
  subst e1 e2
  refine ⟨D.TIz, D.TOz, D.TT, fun q hq => D.i _ (List.mem_map.mpr ⟨q, hq, rfl⟩), ?_, fun q hq => ?_⟩
  · have := D.ii
    rwa [List.pairwise_map] at this
  · obtain ⟨h1, h2, h3⟩ := D.a _ (List.mem_map.mpr ⟨q, hq, rfl⟩)
    exact ⟨h1, h2, fun t ht => h3 _ (List.mem_map.mpr ⟨t, ht, rfl⟩)⟩
/-- how zip stands at a turn -/
structure Zst (z TI TO : Addr) (M : List (SK × Addr)) (is : List Addr) (i : Nat) (h : Heap) : Prop where
  z : IsZip h z TI TO .none
  I : Own h TI (is.map Value.ref).toArray
  o : ∃ vs : Array Value, Own h TO vs ∧ vs.size = M.length
  q : ∀ (j : Nat) (p : SK × Addr) (b : Addr), M[j]? = some p → is[j]? = some b → p.1.It h b p.2 i
theorem Zst.src {z TI TO : Addr} {M : List (SK × Addr)} {is : List Addr} {i : Nat} {h : Heap} {L : List Src} (Z : Zst z TI TO M is i h) (e1 : L.map (fun q => (q.k, q.a)) = M) (e2 : L.map (·.i) = is) : ∀ q ∈ L, q.k.It h q.i q.a i := fun q hq => by
  obtain ⟨j, hj⟩ := List.mem_iff_getElem?.mp hq
  subst e1 e2
  have := Z.q j (q.k, q.a) q.i (by rw [List.getElem?_map, hj]; rfl) (by rw [List.getElem?_map, hj]; rfl)
  exact this
end
theorem turn_zipN {P : Program} {w : World} {K : PySem.W.Frag} {elts : List Expr} {kk : Nat} {tpos : Pos} {M : List (SK × Addr)} {is : List Addr} {z TI TO : Addr} (D : ApartM z TI TO M is) (hl : M.length = is.length) (hlen : M.length ≤ 100) (hne : M ≠ []) :
    Turn P w K (.Tuple elts kk tpos) (ItzN K M) (z :: TI :: TO :: is) z (fun i h => Zst z TI TO M is i h) where
  mem := by simp
  obj := fun i h Z c hc => by
    rcases List.mem_cons.mp hc with rfl | hc
    · exact ⟨_, Z.z, fun v q => nomatch q⟩
    rcases List.mem_cons.mp hc with rfl | hc
    · exact ⟨_, Z.I, fun v q => nomatch q⟩
    rcases List.mem_cons.mp hc with rfl | hc
    · obtain ⟨vs, hO, _⟩ := Z.o
      exact ⟨_, hO, fun v q => nomatch q⟩
    obtain ⟨j, hj⟩ := List.mem_iff_getElem?.mp hc
    have hjl : j < M.length := by rw [hl]; exact (List.getElem?_eq_some_iff.mp hj).1
    have := Z.q j M[j] c (List.getElem?_eq_getElem hjl) hj
    revert this
    cases M[j].1 with
    | l =>
      rintro ⟨o, e1, _, d1⟩
      exact ⟨o, e1, fun v q => by rw [d1] at q; cases q⟩
    | t =>
      rintro ⟨o, e1, _, d1⟩
      exact ⟨o, e1, fun v q => by rw [d1] at q; cases q⟩
  keep := fun i h h' Z k => by
    obtain ⟨vs, hO, hv⟩ := Z.o
    refine ⟨k z (by simp) _ Z.z, k TI (by simp) _ Z.I, ⟨vs, k TO (by simp) _ hO, hv⟩, fun j p b hp hb => ?_⟩
    have hm := List.mem_of_getElem? hb
    exact (Z.q j p b hp hb).step fun o e => k b (by simp [hm]) o e
  item := by
    intro X hP hw hK hc i pins s σ H E I hf Z hg
    subst hP hw hK
    obtain ⟨L, e1, e2, hs⟩ := srcs_of I M is hl fun p hp => let ⟨xs, x, h, _⟩ := hg p hp; ⟨xs, h⟩
    have ap := D.of e1 e2
    have hlL : L.length = M.length := by rw [← e1, List.length_map]
    obtain ⟨vs0, hO, hv0⟩ := Z.o
    have hI : Own s.heap TI (L.map fun q => Value.ref q.i).toArray := by
      have := Z.I
      rw [← e2, List.map_map] at this
      exact this
    have hit := Z.src e1 e2
    have hzl : z < s.heap.objs.size := Heap.lt_size Z.z
    refine pyNext_zipN (I.ok.hd hc) ap Z.z hI hO (by omega) (by omega) (fun e => hne (by rw [← e1, e]; rfl)) (fun q hq => ⟨hit q hq, (hs q hq).1⟩) (fun h' hx z' TO' it' hT hsz hk => ?_) fun h' hx _ => ?_
    · obtain ⟨vs, rv, hvl, hvx⟩ := vals_of I i L hs hx
      refine ⟨_, rfl, wpAny_letOwnedTupleGo_zip (s := { s with heap := h' }) z' fun h'' z'' sb => ?_⟩
      have hT2 : h''.get? s.heap.objs.size = some { cls := .type "tuple", data := .seq (L.map (valAt i)).toArray } := (sb.2 _ (Nat.ne_of_gt hzl)).trans hT
      have new : ObjOk X.prog X.w (upd H s.heap.objs.size (.tup vs)) h'' s.heap.objs.size (.tup vs) :=
        ⟨by rw [hvl, hlL]; exact Nat.le_trans hlen (by decide), L.map (valAt i), rv, ⟨_, hT2, rfl, _, rfl⟩⟩
      have mi : ∀ q ∈ L, q.i ∈ is := fun q hq => by rw [← e2]; exact List.mem_map.mpr ⟨q, hq, rfl⟩
      have I1 : L2.Inv X pins σ (upd H s.heap.objs.size (.tup vs)) { s with heap := h'' } :=
        I.turnedNew (t' := s.toks) (ch := z :: TI :: TO :: is) (fun c o hb q => (sb.2 c (fun q' => hb (by simp [q']))).trans (hk c o (fun q' => hb (by simp [q'])) (fun q' => hb (by simp [q'])) (fun p hp q' => hb (by simp [q', mi p hp])) q)) hf (Nat.le_refl _) new
      refine ⟨.ref s.heap.objs.size, _, I1, rfl, ⟨_, vs, rfl, I.hok.fresh (Nat.le_refl _), rfl, by rw [hvl, hlL], fun j p hp xs hx => ?_⟩, ⟨z'', ?_, ⟨_, (sb.2 _ D.TOz).trans TO', by simp [hlL]⟩, fun j p b hp hb => ?_⟩, fun c hcm => ?_⟩
      · have hjl : j < L.length := by rw [hlL]; exact (List.getElem?_eq_some_iff.mp hp).1
        have hq : L[j]? = some L[j] := List.getElem?_eq_getElem hjl
        have e : (L[j].k, L[j].a) = p := by
          rw [← e1, List.getElem?_map, hq] at hp
          exact Option.some.inj hp
        subst e
        exact hvx j _ hq xs hx
      · have hTI : ∀ q ∈ L, TI ≠ q.i := fun q hq => (ap.i q hq).2.1.symm
        exact (sb.2 _ D.TIz).trans (hk _ _ D.TIz D.TT hTI Z.I)
      · have hjl : j < L.length := by rw [hlL]; exact (List.getElem?_eq_some_iff.mp hp).1
        have hq : L[j]? = some L[j] := List.getElem?_eq_getElem hjl
        have e : (L[j].k, L[j].a) = p := by
          rw [← e1, List.getElem?_map, hq] at hp
          exact Option.some.inj hp
        have e' : L[j].i = b := by
          rw [← e2, List.getElem?_map, hq] at hb
          exact Option.some.inj hb
        subst e e'
        exact (it' _ (List.getElem_mem hjl)).step fun o q => (sb.2 _ (ap.i _ (List.getElem_mem hjl)).1).trans q
      · have hlt : c < s.heap.objs.size := by
          rcases List.mem_cons.mp hcm with rfl | hcm
          · exact hzl
          rcases List.mem_cons.mp hcm with rfl | hcm
          · exact Heap.lt_size Z.I
          rcases List.mem_cons.mp hcm with rfl | hcm
          · exact Heap.lt_size hO
          rw [← e2] at hcm
          obtain ⟨q, hq, rfl⟩ := List.mem_map.mp hcm
          have := hit q hq
          revert this
          cases q.k with
          | l => rintro ⟨o, e, _⟩; exact Heap.lt_size e
          | t => rintro ⟨o, e, _⟩; exact Heap.lt_size e
        rw [upd_ne (Nat.ne_of_lt hlt)]
        exact (hf c hcm).1
    · exfalso
      obtain ⟨q, hq, hn⟩ := hx
      obtain ⟨_, xs, h1, h2⟩ := hs q hq
      obtain ⟨xs', x, h3, h4⟩ := hg (q.k, q.a) (by rw [← e1]; exact List.mem_map.mpr ⟨q, hq, rfl⟩)
      have := sk_inj I h1 h3
      subst this
      obtain ⟨u, hu, _⟩ := h2.get h4
      have : q.xs[i]? = some u := by simpa using hu
      rw [hn] at this
      cases this
  done := by
    intro X hP hw hK hc i pins s σ H E I hf Z hg
    subst hP hw hK
    obtain ⟨hg1, p, hp, xs, hx, hle⟩ := hg
    obtain ⟨L, e1, e2, hs⟩ := srcs_of I M is hl hg1
    have ap := D.of e1 e2
    have hlL : L.length = M.length := by rw [← e1, List.length_map]
    obtain ⟨vs0, hO, hv0⟩ := Z.o
    have hI : Own s.heap TI (L.map fun q => Value.ref q.i).toArray := by
      have := Z.I
      rw [← e2, List.map_map] at this
      exact this
    have hit := Z.src e1 e2
    have mi : ∀ q ∈ L, q.i ∈ is := fun q hq => by rw [← e2]; exact List.mem_map.mpr ⟨q, hq, rfl⟩
    refine pyNext_zipN (I.ok.hd hc) ap Z.z hI hO (by omega) (by omega) (fun e => hne (by rw [← e1, e]; rfl)) (fun q hq => ⟨hit q hq, (hs q hq).1⟩) (fun h' hx' _ _ _ _ _ _ => ?_) fun h' _ hk => ?_
    · exfalso
      rw [← e1] at hp
      obtain ⟨q, hq, rfl⟩ := List.mem_map.mp hp
      obtain ⟨_, ys, h1, h2⟩ := hs q hq
      have := sk_inj I h1 hx
      subst this
      obtain ⟨u, hu⟩ := hx' q hq
      have h3 : q.xs.toList[i]? = some u := by simpa using hu
      have := (List.getElem?_eq_some_iff.mp h3).1
      have := h2.length
      omega
    · exact ⟨rfl, I.turnedL (t' := s.toks) (ch := z :: TI :: TO :: is) (fun c o hb q => hk c o (fun q' => hb (by simp [q'])) (fun q' => hb (by simp [q'])) (fun p hp q' => hb (by simp [q', mi p hp])) q) hf⟩
  self := fun A i s Q E Z h => wpAny_pyIter_zip Z.z h
/-- a call of zip with these is in order -/
structure ZipCall (us : List Value) : Prop where
  t : checkTypeCall "zip" ⟨us, []⟩ = pure ()
  n : checkBuiltinCall "zip.__new__" ⟨.type "zip" :: us, []⟩ = pure ()
  i : ∀ obj, argsOk "object.__init__" ⟨obj :: us, []⟩
theorem zipCall2 (a b : Value) : ZipCall [a, b] := ⟨F.typeCall_zip_2 a b, F.newCall_zip_2 a b, fun obj => F.args_object_init_3 obj a b⟩
theorem zipCall3 (a b c : Value) : ZipCall [a, b, c] := ⟨by kernel_rfl, by kernel_rfl, fun obj => by
  unfold argsOk
  rw [signature?_of (id := "object.__init__") (n := ['_', '_', 't', 'i', 'n', 'i', '_', '_']) (o := ['t', 'c', 'e', 'j', 'b', 'o']) (by kernel_rfl) F.owner_object]
  kernel_rfl⟩
section
variable {prog : Program} {w : World} {A : Around} {E : Value → Shared → Prop} {s : Shared}
theorem call_zipN {L : List Src} {Q : Value → Shared → Prop} (c : ZipCall (ziv L)) (hlen : L.length ≤ 100) (h1 : ∀ q ∈ L, q.k.Is s.heap q.a q.xs) (h2 : Inrow s.heap.objs.size L)
    (q : ∀ h', IsZip h' (s.heap.objs.size + L.length + 2) (s.heap.objs.size + L.length) (s.heap.objs.size + L.length + 1) .none → Own h' (s.heap.objs.size + L.length) (zit L).toArray → Own h' (s.heap.objs.size + L.length + 1) ((zit L).map fun _ => Value.none).toArray →
      (∀ q ∈ L, q.k.It h' q.i q.a 0) → h'.objs.size = s.heap.objs.size + L.length + 3 → (∀ c o, s.heap.get? c = some o → h'.get? c = some o) → Q (.ref (s.heap.objs.size + L.length + 2)) { s with heap := h' }) :
    wpAny (model prog w) A (call (.type "zip") (ziv L)) Q E s :=
  callType_new F.called_zip (by decide) c.t c.n (fun obj => c.i obj) F.entry_zip_new (zipN_new L hlen) ⟨h1, h2, fun h' a0 a1 a2 a3 a4 a5 => ⟨⟨_, a0, rfl⟩, q h' a0 a1 a2 a3 a4 a5⟩⟩
end
def iZipN (K : PySem.W.Frag) (n : Nat) (ta : TA) : TI := fun σ H R => ta σ H fun vs H1 => ∃ M : List (SK × Addr), vs = M.map (fun p => V.ref p.2) ∧ M.length = n ∧ (∀ p ∈ M, ∃ xs : List V, SqK K p.1 H1 p.2 xs) ∧ R (ItzN K M) H1
theorem refs_are : ∀ {M : List (SK × Addr)} {us : List Value}, Vals (M.map fun p => V.ref p.2) us → us = M.map fun p => .ref p.2
  | [], _, .nil => rfl
  | p :: M, _, .cons r t => by
    cases r
    rw [refs_are t]
    rfl
section
variable {X : Cx}
theorem sk_lt {k : SK} {a : Addr} {xs : Array Value} {h : Heap} (p : k.Is h a xs) : a < h.objs.size := by
  cases k with
  | l => obtain ⟨o, e, _⟩ := p; exact Heap.lt_size e
  | t => obtain ⟨o, e, _⟩ := p; exact Heap.lt_size e
theorem pi_zipN {e : Expr} {es : List Expr} {ta : TA} {p pos tpos : Pos} {elts : List Expr} {kk n : Nat} (hn : 1 ≤ n ∧ n ≤ 100) (hck : ∀ us : List Value, us.length = n → ZipCall us) (hg : Gl X "zip") (hm : X.mg "zip" = none) (ha : PA X (e :: es) ta)
    (hs : starEach (e :: es) X.env = (false, eval e X.env) :: starEach es X.env := by rfl) (hpl : (backTo pos (starEach es X.env)).any (·.1) = false := by rfl) :
    PI X (.Tuple elts kk tpos) (.Call (.Name "zip" p) (e :: es) [] pos) (iZipN X.K n ta) := by
  refine ⟨fun pins s σ H R I h => ?_⟩
  refine Call_ (ld_blt I hg hm boot_zip (callWith_type1 (thn (ha.run pos pins s σ H _ I h) fun us s1 ⟨vs, H1, I1, r1, q1⟩ => ?_) hs hpl))
  obtain ⟨M, rfl, hM, hx, q⟩ := q1
  have eu := refs_are r1
  obtain ⟨L, e1, e2, hL⟩ := srcs_of I1 M ((List.range n).map fun i => s1.heap.objs.size + i) (by simp [hM]) hx
  have hlL : L.length = n := by rw [← hM, ← e1, List.length_map]
  have ez : ziv L = us := by
    rw [eu, ← e1, List.map_map]
    rfl
  have hrow : Inrow s1.heap.objs.size L := fun i p hp => by
    have h1 : (L.map (·.i))[i]? = some p.i := by rw [List.getElem?_map, hp]; rfl
    have hi : i < n := by rw [← hlL]; exact (List.getElem?_eq_some_iff.mp hp).1
    rw [e2, List.getElem?_map, List.getElem?_range hi] at h1
    exact (Option.some.inj h1).symm
  have hul : us.length = n := by rw [← ez, ziv, List.length_map, hlL]
  rw [← ez]
  refine call_zipN (by rw [ez]; exact hck us hul) (by omega) (fun q hq => (hL q hq).1) hrow fun h' hz hI hO hit hsz hk => wpAny_pyIter_zip hz ?_
  rw [hlL] at hz hI hO hsz ⊢
  have I2 : L2.Inv X pins σ H1 { s1 with heap := h' } := I1.kept (t' := s1.toks) hk
  have hMa : ∀ p ∈ M, @LT.lt Nat _ p.2 s1.heap.objs.size := fun p hp => by
    rw [← e1] at hp
    obtain ⟨q, hq, rfl⟩ := List.mem_map.mp hp
    exact sk_lt (hL q hq).1
  have his : ∀ b ∈ (List.range n).map (fun i => s1.heap.objs.size + i), @LE.le Nat _ s1.heap.objs.size b ∧ @LT.lt Nat _ b (s1.heap.objs.size + n) := fun b hb => by
    obtain ⟨i, hi, rfl⟩ := List.mem_map.mp hb
    have := List.mem_range.mp hi
    omega
  have D : ApartM (s1.heap.objs.size + n + 2) (s1.heap.objs.size + n) (s1.heap.objs.size + n + 1) M ((List.range n).map fun i => s1.heap.objs.size + i) := by
    have nl : ∀ {a b : Nat}, a < b → a ≠ b := fun h => Nat.ne_of_lt h
    have ng : ∀ {a b : Nat}, b < a → a ≠ b := fun h => Nat.ne_of_gt h
    refine ⟨nl (by omega), nl (by omega), nl (by omega), fun b hb => ?_, ?_, fun p hp => ?_⟩
    · have := his b hb
      exact ⟨nl (by omega), nl (by omega), nl (by omega)⟩
    · rw [List.pairwise_map]
      exact List.pairwise_lt_range.imp fun {a b} (h : a < b) => nl (by omega)
    · have := hMa p hp
      refine ⟨nl (by omega), nl (by omega), fun b hb => ?_⟩
      have := his b hb
      exact nl (by omega)
  have eI : (zit L).toArray = (((List.range n).map fun i => s1.heap.objs.size + i).map Value.ref).toArray := by
    rw [← e2, List.map_map]
    rfl
  refine ⟨s1.heap.objs.size + n + 2, (s1.heap.objs.size + n + 2) :: (s1.heap.objs.size + n) :: (s1.heap.objs.size + n + 1) :: (List.range n).map (fun i => s1.heap.objs.size + i), _, ItzN X.K M, H1, rfl, I2, turn_zipN D (by simp [hM]) (by omega) (fun e => by rw [e] at hM; simp at hM; omega),
    ⟨hz, by rw [← eI]; exact hI, ⟨_, hO, by simp [zit, hlL, hM]⟩, fun j p b hp hb => ?_⟩, fun c hcm => ?_, q⟩
  · have hjl : j < L.length := by rw [hlL, ← hM]; exact (List.getElem?_eq_some_iff.mp hp).1
    have hq : L[j]? = some L[j] := List.getElem?_eq_getElem hjl
    rw [← e1, List.getElem?_map, hq] at hp
    rw [← e2, List.getElem?_map, hq] at hb
    cases Option.some.inj hp
    cases Option.some.inj hb
    exact hit _ (List.getElem_mem hjl)
  · have hle : s1.heap.objs.size ≤ c := by
      rcases List.mem_cons.mp hcm with rfl | hcm
      · omega
      rcases List.mem_cons.mp hcm with rfl | hcm
      · omega
      rcases List.mem_cons.mp hcm with rfl | hcm
      · omega
      exact (his c hcm).1
    exact I1.fpOk hle (I1.hok.fresh hle)
end
/-! ### zip as a plain function -/
def srcI (S : Sto) (d : D) : Option Itm := match d with
  | .tup a => some ⟨a, fun _ => true⟩
  | d => match itSeq d S with
    | .ok i _ => some i
    | .bad => none
def minLen : List (List D) → Nat
  | [] => 0
  | [l] => l.length
  | l :: r => min l.length (minLen r)
def rowsD (Ls : List (List D)) : List D := (List.range (minLen Ls)).map fun i => .tup (Ls.map fun l => l.getD i .non)
def it_zipN (as : List D) (S : Sto) : R Itm := match opAll (srcI S) as with
  | some is => .ok ⟨rowsD (is.map (·.ds)), fun S => is.all fun j => j.gd S⟩ S
  | none => .bad
theorem minLen_cons (l : List D) {r : List (List D)} (h : r ≠ []) : minLen (l :: r) = min l.length (minLen r) := by
  cases r with
  | nil => exact absurd rfl h
  | cons a r => rfl
theorem minLen_le : ∀ {Ls : List (List D)} {l : List D}, l ∈ Ls → minLen Ls ≤ l.length
  | [x], l, h => by
    rw [List.mem_singleton] at h
    subst h
    exact Nat.le_refl _
  | x :: y :: r, l, h => by
    rw [minLen_cons x (by simp)]
    rcases List.mem_cons.mp h with rfl | h
    · exact Nat.min_le_left _ _
    · exact Nat.le_trans (Nat.min_le_right _ _) (minLen_le h)
theorem minLen_at : ∀ {Ls : List (List D)}, Ls ≠ [] → ∃ l ∈ Ls, l.length = minLen Ls
  | [x], _ => ⟨x, by simp, rfl⟩
  | x :: y :: r, _ => by
    rw [minLen_cons x (by simp)]
    obtain ⟨l, h1, h2⟩ := minLen_at (Ls := y :: r) (by simp)
    rcases Nat.le_total x.length (minLen (y :: r)) with c | c
    · exact ⟨x, by simp, by omega⟩
    · exact ⟨l, List.mem_cons_of_mem _ h1, by omega⟩
section
variable {K : PySem.W.Frag} {mg : Str → Option Value} {ρ : Mp} {H : Hp}
/-- a source stays what it is, as long as its guard says so -/
def Stays (K : PySem.W.Frag) (mg : Str → Option Value) (ρ : Mp) (H : Hp) (it : Itm) (p : SK × Addr) : Prop := ∀ ρ1 H1 S1, Ext0 ρ H ρ1 H1 → Rep K mg ρ1 H1 S1 → it.gd S1 = true → ∃ xs, SqK K p.1 H1 p.2 xs ∧ RVs K mg ρ1 H1 it.ds xs
theorem srcI_at {S : Sto} {d : D} {v : V} {it : Itm} (rp : Rep K mg ρ H S) (r : RV K mg ρ H d v) (h : srcI S d = some it) : ∃ p : SK × Addr, v = .ref p.2 ∧ (∃ xs, SqK K p.1 H p.2 xs) ∧ Stays K mg ρ H it p := by
  unfold srcI at h
  split at h
  · next a =>
    cases h
    obtain ⟨a', xs, rfl, h1, r3⟩ := tup_at r
    exact ⟨(.t, a'), rfl, ⟨xs, h1.sq⟩, fun ρ1 H1 S1 e _ _ => ⟨xs, (h1.ext e).sq, r3.ext0 e⟩⟩
  · split at h
    · next i _ q =>
      cases h
      obtain ⟨_, a, xs, rfl, h1, st⟩ := lst_stays rp r q
      exact ⟨(.l, a), rfl, ⟨xs, h1⟩, st⟩
    · cases h
theorem srcs_at {S : Sto} (rp : Rep K mg ρ H S) : ∀ {as : List D} {vs : List V} {is : List Itm}, opAll (srcI S) as = some is → RVs K mg ρ H as vs →
    ∃ M : List (SK × Addr), vs = M.map (fun p => V.ref p.2) ∧ M.length = is.length ∧ (∀ p ∈ M, ∃ xs, SqK K p.1 H p.2 xs) ∧ ∀ (j : Nat) (it : Itm) (p : SK × Addr), is[j]? = some it → M[j]? = some p → Stays K mg ρ H it p
  | [], _, is, h, .nil => by
    cases h
    exact ⟨[], rfl, rfl, fun p hp => (nomatch hp), fun j it p hj => by simp at hj⟩
  | d :: as, _, is, h, .cons (v := v) r t => by
    unfold opAll at h
    cases h1 : srcI S d with
    | none => simp [h1] at h
    | some i =>
      cases h2 : opAll (srcI S) as with
      | none => simp [h1, h2] at h
      | some is' =>
        simp [h1, h2] at h
        subst h
        obtain ⟨M, rfl, hl, hx, hs⟩ := srcs_at rp h2 t
        obtain ⟨p, rfl, hp, hst⟩ := srcI_at rp r h1
        refine ⟨p :: M, rfl, by simp [hl], fun q hq => ?_, fun j it q hj hq => ?_⟩
        · rcases List.mem_cons.mp hq with rfl | hq
          · exact hp
          · exact hx q hq
        · cases j with
          | zero =>
            cases Option.some.inj hj
            cases Option.some.inj hq
            exact hst
          | succ j => exact hs j it q (by simpa using hj) (by simpa using hq)
theorem itOk_zipN {M : List (SK × Addr)} {is : List Itm} (hl : M.length = is.length) (hne : is ≠ []) (hs : ∀ (j : Nat) (it : Itm) (p : SK × Addr), is[j]? = some it → M[j]? = some p → Stays K mg ρ H it p) :
    ItOk K mg ρ H (ItzN K M) ⟨rowsD (is.map (·.ds)), fun S => is.all fun j => j.gd S⟩ := by
  have find : ∀ {p : SK × Addr}, p ∈ M → ∃ (j : Nat) (it : Itm), is[j]? = some it ∧ M[j]? = some p := fun {p} hp => by
    obtain ⟨j, hj⟩ := List.mem_iff_getElem?.mp hp
    have hjl : j < is.length := by rw [← hl]; exact (List.getElem?_eq_some_iff.mp hj).1
    exact ⟨j, is[j], List.getElem?_eq_getElem hjl, hj⟩
  refine itOk_pair (fun ρ1 H1 S1 e rp hg => ?_) fun ρ1 H1 S1 e rp hg i d hd => ?_
  · have hg' := List.all_eq_true.mp hg
    refine ⟨fun p hp => ?_, ?_⟩
    · obtain ⟨j, it, h1, h2⟩ := find hp
      obtain ⟨xs, h3, _⟩ := hs j it p h1 h2 ρ1 H1 S1 e rp (hg' it (List.mem_of_getElem? h1))
      exact ⟨xs, h3⟩
    · obtain ⟨l, h1, h2⟩ := minLen_at (Ls := is.map (·.ds)) (by simpa using hne)
      obtain ⟨it, h3, rfl⟩ := List.mem_map.mp h1
      obtain ⟨j, hj⟩ := List.mem_iff_getElem?.mp h3
      have hjl : j < M.length := by rw [hl]; exact (List.getElem?_eq_some_iff.mp hj).1
      obtain ⟨xs, h5, h6⟩ := hs j it _ hj (List.getElem?_eq_getElem hjl) ρ1 H1 S1 e rp (hg' it h3)
      refine ⟨_, List.getElem_mem hjl, xs, h5, ?_⟩
      rw [← h6.length, h2]
      simp [rowsD]
  · have hg' := List.all_eq_true.mp hg
    unfold rowsD at hd
    rw [List.getElem?_map] at hd
    have hi : i < minLen (is.map (·.ds)) := by
      rcases Nat.lt_or_ge i (minLen (is.map (·.ds))) with c | c
      · exact c
      · rw [List.getElem?_eq_none (by simpa using c)] at hd
        cases hd
    rw [List.getElem?_range hi] at hd
    cases Option.some.inj hd
    have len : ∀ it ∈ is, i < it.ds.length := fun it hm => Nat.lt_of_lt_of_le hi (minLen_le (List.mem_map.mpr ⟨it, hm, rfl⟩))
    refine ⟨fun p hp => ?_, fun x H2 hy => ?_⟩
    · obtain ⟨j, it, h1, h2⟩ := find hp
      have hm := List.mem_of_getElem? h1
      obtain ⟨xs, h3, h4⟩ := hs j it p h1 h2 ρ1 H1 S1 e rp (hg' it hm)
      obtain ⟨v, hv, _⟩ := h4.getD (List.getElem?_eq_getElem (len it hm))
      exact ⟨xs, v, h3, hv⟩
    · obtain ⟨T, vs, rfl, hT, rfl, hvl, hv⟩ := hy
      refine ⟨T, vs, _, rfl, hT, rfl, rfl, ?_⟩
      rw [List.map_map]
      clear hd
      have all : ∀ (is' : List Itm) (vs' : List V), vs'.length = is'.length → (∀ (j : Nat) (it : Itm) (v : V), is'[j]? = some it → vs'[j]? = some v → RV K mg ρ1 H1 (it.ds.getD i .non) v) → RVs K mg ρ1 H1 (is'.map ((fun l => l.getD i D.non) ∘ fun x => x.ds)) vs' := by
        intro is'
        induction is' with
        | nil =>
          intro vs' hl' _
          cases vs' with
          | nil => exact .nil
          | cons _ _ => simp at hl'
        | cons it is' ih =>
          intro vs' hl' h
          cases vs' with
          | nil => simp at hl'
          | cons v vs' =>
            refine .cons (h 0 it v rfl rfl) (ih vs' (by simpa using hl') fun j it' v' h1 h2 => h (j + 1) it' v' (by simpa using h1) (by simpa using h2))
      refine all is vs (by rw [hvl, hl]) fun j it v h1 h2 => ?_
      have hjl : j < M.length := by rw [hl]; exact (List.getElem?_eq_some_iff.mp h1).1
      have hm := List.mem_of_getElem? h1
      obtain ⟨xs, h3, h4⟩ := hs j it _ h1 (List.getElem?_eq_getElem hjl) ρ1 H1 S1 e rp (hg' it hm)
      obtain ⟨v', hv', rv⟩ := h4.getD (List.getElem?_eq_getElem (len it hm))
      have e2 := hv j _ (List.getElem?_eq_getElem hjl) xs h3
      rw [hv', h2] at e2
      cases e2
      rw [List.getD_eq_getElem?_getD, List.getElem?_eq_getElem (len it hm)]
      exact rv
end
section
variable {X : Cx} {e : Expr} {es : List Expr} {as : AM} {pos tpos : Pos} {elts : List Expr} {kk : Nat}
theorem gi_zipN (n : Nat) (hn : 1 ≤ n ∧ n ≤ 100) (hck : ∀ us : List Value, us.length = n → ZipCall us) {p : Pos} (hg : Gl X "zip") (hm : X.mg "zip" = none) (ha : GA X (e :: es) as) (hs : starEach (e :: es) X.env = (false, eval e X.env) :: starEach es X.env := by rfl) (hpl : (backTo pos (starEach es X.env)).any (·.1) = false := by rfl) :
    GI X (.Tuple elts kk tpos) (.Call (.Name "zip" p) (e :: es) [] pos) (mItA (fun as S => if as.length = n then it_zipN as S else .bad) as) :=
  (pi_zipN hn hck hg hm ha hs hpl).mono' fun σ H Q ⟨ρ, env, S, rp, re, p⟩ =>
    ⟨ρ, env, S, rp, re, Post.bindB p fun vs H1 ρ1 S1 ds e1 rp1 rv1 p1 => by
      split at p1
      · next hd =>
        unfold it_zipN at p1
        split at p1
        · next is q =>
          obtain ⟨M, rfl, hl, hx, hst⟩ := srcs_at rp1 q rv1
          have hlM : M.length = n := by
            have := rv1.length
            rw [List.length_map] at this
            omega
          exact ⟨M, rfl, hlM, hx, Post.ok p1 rp1 (itOk_zipN hl (fun e => by rw [e] at hl; simp at hl; rw [hl] at hlM; simp at hlM; omega) hst)⟩
        · exact p1.elim
      · exact p1.elim⟩
theorem zck2 : ∀ us : List Value, us.length = 2 → ZipCall us
  | [a, b], _ => zipCall2 a b
theorem zck3 : ∀ us : List Value, us.length = 3 → ZipCall us
  | [a, b, c], _ => zipCall3 a b c
def it_zip2 (as : List D) (S : Sto) : R Itm := if as.length = 2 then it_zipN as S else .bad
def it_zip3 (as : List D) (S : Sto) : R Itm := if as.length = 3 then it_zipN as S else .bad
theorem gi_zip2 {p : Pos} (hg : Gl X "zip") (hm : X.mg "zip" = none) (ha : GA X (e :: es) as) (hs : starEach (e :: es) X.env = (false, eval e X.env) :: starEach es X.env := by rfl) (hpl : (backTo pos (starEach es X.env)).any (·.1) = false := by rfl) :
    GI X (.Tuple elts kk tpos) (.Call (.Name "zip" p) (e :: es) [] pos) (mItA it_zip2 as) := gi_zipN 2 (by decide) zck2 hg hm ha hs hpl
theorem gi_zip3 {p : Pos} (hg : Gl X "zip") (hm : X.mg "zip" = none) (ha : GA X (e :: es) as) (hs : starEach (e :: es) X.env = (false, eval e X.env) :: starEach es X.env := by rfl) (hpl : (backTo pos (starEach es X.env)).any (·.1) = false := by rfl) :
    GI X (.Tuple elts kk tpos) (.Call (.Name "zip" p) (e :: es) [] pos) (mItA it_zip3 as) := gi_zipN 3 (by decide) zck3 hg hm ha hs hpl
end
theorem rowsD2 (a b : List D) : rowsD [a, b] = zipD a b := by
  unfold rowsD zipD
  apply List.ext_getElem?
  intro i
  have hm : minLen [a, b] = min a.length b.length := rfl
  rw [List.getElem?_map, List.getElem?_map, hm]
  by_cases h : i < min a.length b.length
  · have h1 : i < a.length := by omega
    have h2 : i < b.length := by omega
    have hz : i < (a.zip b).length := by rw [List.length_zip]; exact h
    rw [List.getElem?_range h, List.getElem?_eq_getElem hz]
    simp [List.getD_eq_getElem?_getD, h1, h2]
  · rw [List.getElem?_eq_none (by simpa using h), List.getElem?_eq_none (by rw [List.length_zip]; omega)]
    rfl
end ML
/-! MLy: an iterator that stands in a name (pairs = zip(..)) and is walked once in the next statement; del of a dict's item. -/
namespace ML
open PySem L2 PyProof.Rows PySem.Spec
/-! ### an iterator as a value -/
structure PV (X : Cx) (tg e : Expr) (wi : TI) : Prop where
  run : ∀ (pins : List (Addr × Obj)) (s : Shared) (σ : L2.St) (H : Hp) (R : It → Hp → Prop), L2.Inv X pins σ H s → wi σ H R → wpAny (model X.prog X.w) X.A (eval e X.env) (PIE X pins σ tg R) X.xe s
theorem PV.mono' {X : Cx} {tg e : Expr} {t t' : TI} (h : PV X tg e t) (m : ∀ σ H Q, t' σ H Q → t σ H Q) : PV X tg e t' := ⟨fun pins s σ H Q I q => h.run pins s σ H Q I (m σ H Q q)⟩
abbrev GV (X : Cx) (tg e : Expr) (m : IM) : Prop := PV X tg e (rdI X.K X.mg m)
section
variable {X : Cx}
theorem pv_zipN {e : Expr} {es : List Expr} {ta : TA} {p pos tpos : Pos} {elts : List Expr} {kk n : Nat} (hn : 1 ≤ n ∧ n ≤ 100) (hck : ∀ us : List Value, us.length = n → ZipCall us) (hg : Gl X "zip") (hm : X.mg "zip" = none) (ha : PA X (e :: es) ta)
    (hs : starEach (e :: es) X.env = (false, eval e X.env) :: starEach es X.env := by rfl) (hpl : (backTo pos (starEach es X.env)).any (·.1) = false := by rfl) :
    PV X (.Tuple elts kk tpos) (.Call (.Name "zip" p) (e :: es) [] pos) (iZipN X.K n ta) := by
  refine ⟨fun pins s σ H R I h => ?_⟩
  refine Call_ (ld_blt I hg hm boot_zip (callWith_type1 (thn (ha.run pos pins s σ H _ I h) fun us s1 ⟨vs, H1, I1, r1, q1⟩ => ?_) hs hpl))
  obtain ⟨M, rfl, hM, hx, q⟩ := q1
  have eu := refs_are r1
  obtain ⟨L, e1, e2, hL⟩ := srcs_of I1 M ((List.range n).map fun i => s1.heap.objs.size + i) (by simp [hM]) hx
  have hlL : L.length = n := by rw [← hM, ← e1, List.length_map]
  have ez : ziv L = us := by
    rw [eu, ← e1, List.map_map]
    rfl
  have hrow : Inrow s1.heap.objs.size L := fun i p hp => by
    have h1 : (L.map (·.i))[i]? = some p.i := by rw [List.getElem?_map, hp]; rfl
    have hi : i < n := by rw [← hlL]; exact (List.getElem?_eq_some_iff.mp hp).1
    rw [e2, List.getElem?_map, List.getElem?_range hi] at h1
    exact (Option.some.inj h1).symm
  have hul : us.length = n := by rw [← ez, ziv, List.length_map, hlL]
  rw [← ez]
  refine call_zipN (by rw [ez]; exact hck us hul) (by omega) (fun q hq => (hL q hq).1) hrow fun h' hz hI hO hit hsz hk => ?_
  rw [hlL] at hz hI hO hsz ⊢
  have I2 : L2.Inv X pins σ H1 { s1 with heap := h' } := I1.kept (t' := s1.toks) hk
  have hMa : ∀ p ∈ M, @LT.lt Nat _ p.2 s1.heap.objs.size := fun p hp => by
    rw [← e1] at hp
    obtain ⟨q, hq, rfl⟩ := List.mem_map.mp hp
    exact sk_lt (hL q hq).1
  have his : ∀ b ∈ (List.range n).map (fun i => s1.heap.objs.size + i), @LE.le Nat _ s1.heap.objs.size b ∧ @LT.lt Nat _ b (s1.heap.objs.size + n) := fun b hb => by
    obtain ⟨i, hi, rfl⟩ := List.mem_map.mp hb
    have := List.mem_range.mp hi
    omega
  have D : ApartM (s1.heap.objs.size + n + 2) (s1.heap.objs.size + n) (s1.heap.objs.size + n + 1) M ((List.range n).map fun i => s1.heap.objs.size + i) := by
    have nl : ∀ {a b : Nat}, a < b → a ≠ b := fun h => Nat.ne_of_lt h
    have ng : ∀ {a b : Nat}, b < a → a ≠ b := fun h => Nat.ne_of_gt h
    refine ⟨nl (by omega), nl (by omega), nl (by omega), fun b hb => ?_, ?_, fun p hp => ?_⟩
    · have := his b hb
      exact ⟨nl (by omega), nl (by omega), nl (by omega)⟩
    · rw [List.pairwise_map]
      exact List.pairwise_lt_range.imp fun {a b} (h : a < b) => nl (by omega)
    · have := hMa p hp
      refine ⟨nl (by omega), nl (by omega), fun b hb => ?_⟩
      have := his b hb
      exact nl (by omega)
  have eI : (zit L).toArray = (((List.range n).map fun i => s1.heap.objs.size + i).map Value.ref).toArray := by
    rw [← e2, List.map_map]
    rfl
  refine ⟨s1.heap.objs.size + n + 2, (s1.heap.objs.size + n + 2) :: (s1.heap.objs.size + n) :: (s1.heap.objs.size + n + 1) :: (List.range n).map (fun i => s1.heap.objs.size + i), _, ItzN X.K M, H1, rfl, I2, turn_zipN D (by simp [hM]) (by omega) (fun e => by rw [e] at hM; simp at hM; omega),
    ⟨hz, by rw [← eI]; exact hI, ⟨_, hO, by simp [zit, hlL, hM]⟩, fun j p b hp hb => ?_⟩, fun c hcm => ?_, q⟩
  · have hjl : j < L.length := by rw [hlL, ← hM]; exact (List.getElem?_eq_some_iff.mp hp).1
    have hq : L[j]? = some L[j] := List.getElem?_eq_getElem hjl
    rw [← e1, List.getElem?_map, hq] at hp
    rw [← e2, List.getElem?_map, hq] at hb
    cases Option.some.inj hp
    cases Option.some.inj hb
    exact hit _ (List.getElem_mem hjl)
  · have hle : s1.heap.objs.size ≤ c := by
      rcases List.mem_cons.mp hcm with rfl | hcm
      · omega
      rcases List.mem_cons.mp hcm with rfl | hcm
      · omega
      rcases List.mem_cons.mp hcm with rfl | hcm
      · omega
      exact (his c hcm).1
    exact I1.fpOk hle (I1.hok.fresh hle)
end
section
variable {X : Cx} {e : Expr} {es : List Expr} {as : AM} {pos tpos : Pos} {elts : List Expr} {kk : Nat}
theorem gv_zipN (n : Nat) (hn : 1 ≤ n ∧ n ≤ 100) (hck : ∀ us : List Value, us.length = n → ZipCall us) {p : Pos} (hg : Gl X "zip") (hm : X.mg "zip" = none) (ha : GA X (e :: es) as) (hs : starEach (e :: es) X.env = (false, eval e X.env) :: starEach es X.env := by rfl) (hpl : (backTo pos (starEach es X.env)).any (·.1) = false := by rfl) :
    GV X (.Tuple elts kk tpos) (.Call (.Name "zip" p) (e :: es) [] pos) (mItA (fun as S => if as.length = n then it_zipN as S else .bad) as) :=
  (pv_zipN hn hck hg hm ha hs hpl).mono' fun σ H Q ⟨ρ, env, S, rp, re, p⟩ =>
    ⟨ρ, env, S, rp, re, Post.bindB p fun vs H1 ρ1 S1 ds e1 rp1 rv1 p1 => by
      split at p1
      · next hd =>
        unfold it_zipN at p1
        split at p1
        · next is q =>
          obtain ⟨M, rfl, hl, hx, hst⟩ := srcs_at rp1 q rv1
          have hlM : M.length = n := by
            have := rv1.length
            rw [List.length_map] at this
            omega
          exact ⟨M, rfl, hlM, hx, Post.ok p1 rp1 (itOk_zipN hl (fun e => by rw [e] at hl; simp at hl; rw [hl] at hlM; simp at hlM; omega) hst)⟩
        · exact p1.elim
      · exact p1.elim⟩
end
open Classical in
/-- the iterator's objects are held, as they are -/
noncomputable def held (B : List Addr) (h0 : Heap) (H : Hp) : Hp := fun b => if b ∈ B then some (.ext fun h => ∃ o, h0.get? b = some o ∧ h.get? b = some o) else H b
theorem held_in {B : List Addr} {h0 : Heap} {H : Hp} {b : Addr} (h : b ∈ B) : held B h0 H b = some (.ext fun h => ∃ o, h0.get? b = some o ∧ h.get? b = some o) := by unfold held; rw [if_pos h]
theorem held_out {B : List Addr} {h0 : Heap} {H : Hp} {b : Addr} (h : b ∉ B) : held B h0 H b = H b := by unfold held; rw [if_neg h]
theorem held_ge {B : List Addr} {h0 : Heap} {H : Hp} (hn : ∀ b ∈ B, H b = none) {b : Addr} {o : HO} (h : H b = some o) : held B h0 H b = some o := by
  rw [held_out fun m => by rw [hn b m] at h; cases h]; exact h
theorem held_own {B : List Addr} {h0 : Heap} {H : Hp} {b : Addr} {o : HO} (hne : ∀ φ, o ≠ .ext φ) (h : held B h0 H b = some o) : H b = some o := by
  by_cases m : b ∈ B
  · rw [held_in m] at h
    exact absurd (Option.some.inj h).symm (hne _)
  · rw [held_out m] at h; exact h
section
variable {X : Cx} {pins : List (Addr × Obj)} {σ : L2.St} {H : Hp} {s : Shared} {B : List Addr}
theorem track (I : L2.Inv X pins σ H s) (hB : ∀ b ∈ B, FpOk X pins H b) (ho : ∀ b ∈ B, ∃ o, s.heap.get? b = some o) : L2.Inv X pins σ (held B s.heap H) s where
  ok := I.ok
  os := I.os
  bare := I.bare
  base := by
    have ge : ∀ {b : Addr} {o : HO}, H b = some o → held B s.heap H b = some o := fun h => held_ge (fun b m => (hB b m).1) h
    refine ⟨I.base.keep, I.base.slot, fun b o e n x => ?_, I.base.there, fun b xs q => ge (I.base.tups b xs q), fun b o u q => ge (I.base.frzs b o u q), fun b ps q => let ⟨m, e⟩ := I.base.tbls b ps q; ⟨m, ge e⟩⟩
    rw [held_out fun m => ?_]
    · exact I.base.free b o e n x
    · rcases (hB b m).2.2.2.1 with z | z
      · exact x z
      · exact absurd (Nat.lt_of_lt_of_le (Heap.lt_size e) z) (Nat.lt_irrefl _)
  loc := I.loc
  cell := I.cell
  free := by rw [held_out fun m => (hB _ m).2.1 rfl]; exact I.free
  freeC := fun x c e => by rw [held_out fun m => (hB _ m).2.2.2.2.1 x c e rfl]; exact I.freeC x c e
  pin := fun p hp => by
    obtain ⟨h1, h2, h3⟩ := I.pin p hp
    exact ⟨h1, by rw [held_out fun m => (hB _ m).2.2.2.2.2 p hp rfl]; exact h2, h3⟩
  hok := fun a o e => by
    by_cases m : a ∈ B
    · rw [held_in m] at e
      cases e
      obtain ⟨o, e⟩ := ho a m
      exact ⟨⟨o, e, e⟩, ⟨o, e⟩, fun h1 h2 ⟨o', q1, q2⟩ k => ⟨o', q1, k _ q2⟩⟩
    · rw [held_out m] at e
      exact (I.hok a o e).stay (fun _ _ _ q => q) (fun b q => held_ge (fun b m => (hB b m).1) q) fun b xs q => held_ge (fun b m => (hB b m).1) q
  len := I.len
theorem untrack {h0 : Heap} (I : L2.Inv X pins σ (held B h0 H) s) (hn : ∀ b ∈ B, H b = none) : L2.Inv X pins σ H s ∧ ∀ b ∈ B, ∀ o, h0.get? b = some o → s.heap.get? b = some o := by
  have out : ∀ {b : Addr}, held B h0 H b = none → H b = none := fun {b} q => by
    by_cases m : b ∈ B
    · exact hn b m
    · rw [held_out m] at q; exact q
  refine ⟨⟨I.ok, I.os, I.bare, ⟨I.base.keep, I.base.slot, fun b o e n x => out (I.base.free b o e n x), I.base.there, fun b xs q => held_own (fun _ z => by cases z) (I.base.tups b xs q), fun b o u q => held_own (fun _ z => by cases z) (I.base.frzs b o u q),
    fun b ps q => let ⟨m, e⟩ := I.base.tbls b ps q; ⟨m, held_own (fun _ z => by cases z) e⟩⟩, I.loc, I.cell, out I.free, fun x c e => out (I.freeC x c e), fun p hp => let ⟨h1, h2, h3⟩ := I.pin p hp; ⟨h1, out h2, h3⟩, fun a o e => ?_, I.len⟩, fun b m o e => ?_⟩
  · exact (I.hok a o (held_ge hn e)).stay (fun _ _ _ q => q) (fun b q => held_own (fun _ z => by cases z) q) fun b xs q => held_own (fun _ z => by cases z) q
  · obtain ⟨⟨o', q1, q2⟩, _⟩ := I.hok b _ (held_in m)
    rw [e] at q1
    cases q1
    exact q2
end
/-- the iterator in a name is walked -/
theorem pi_held {X : Cx} {tg : Expr} {i : Nat} {y : Str} {p : Pos} {J : It} {B : List Addr} {z : Addr} {tn : Nat → Heap → Prop} {h0 : Heap} {H1 : Hp} {pn0 : List (Addr × Obj)} (T : Turn X.prog X.w X.K tg J B z tn) (t0 : tn 0 h0) (hB : ∀ b ∈ B, FpOk X pn0 H1 b) (hN : X.N[i]? = some y) (hv : Vis X.env.scope y) (hd : (y == ("__debug__" : Str)) = false) (hcd : (y == ("__classdict__" : Str)) = false) :
    PI X tg (.Name y p) (fun σ H R => σ[i]? = some (some (V.ref z)) ∧ H = held B h0 H1 ∧ R J H1) := ⟨fun pins s σ H R I ⟨h1, h2, h3⟩ => by
  subst h2
  refine thn ((pe_var (pos := p) hN hv hd hcd).run pins s σ _ (fun v H' => v = V.ref z ∧ H' = held B h0 H1) I ⟨_, h1, rfl, rfl⟩) fun u s1 ⟨x, H', I', r, q1, q2⟩ => ?_
  subst q1
  subst q2
  cases r
  obtain ⟨I2, k⟩ := untrack I' fun b m => (hB b m).1
  have t1 := T.keep 0 h0 s1.heap t0 k
  refine T.self X.A 0 s1 _ _ t1 ⟨z, B, tn, J, H1, rfl, I2, T, t1, fun b m => ?_, h3⟩
  obtain ⟨f1, f2, f3, f4, f5, _⟩ := hB b m
  refine ⟨f1, f2, f3, f4, f5, fun q hq e => ?_⟩
  have := (I'.pin q hq).2.1
  rw [e, held_in m] at this
  cases this⟩
section
variable {X : Cx}
theorem lcJ {K : PySem.W.Frag} {mg : Str → Option Value} {ρ1 : Mp} {H1 : Hp} {S1 : Sto} {env : Env} {J : It} {it : Itm} {g : TgM} {t : TM} {e : EM} {vs : List Nat} {fin : List D → Sto → R D} {σ : L2.St} {Q : VK}
    (hfin : ∀ ρ0 H0 S0 ρ2 H2 S2 xs acc L, Rep K mg ρ0 H0 S0 → H0 L = none → Ext ρ0 H0 ρ2 H2 → Rep K mg ρ2 H2 S2 → L ∈ ρ2.h → H2 L = some (.lst xs) → RVs K mg ρ2 H2 acc xs → Post K mg ρ0 H0 (fin acc S2) (RV K mg) Q → Q (.ref L) H2)
    (rp1 : Rep K mg ρ1 H1 S1) (re1 : REnv K mg ρ1 H1 env σ) (ok : ItOk K mg ρ1 H1 J it) (p1 : Post K mg ρ1 H1 ((lcD g t e it.gd env vs it.ds [] S1).bind fin) (RV K mg) Q) (L : Addr) (hD : H1 L = none) :
    ∃ W : Nat → Nat → Hp → Prop, (∃ m, W 0 m (upd H1 L (.lst []))) ∧ ∀ i m H, W i m H →
      (J.stop i H ∧ Q (.ref L) H) ∨ (J.go i H ∧ ∃ Nx : Hp → Prop, (∀ H', Nx H' → ∃ m', m' < m ∧ W (i + 1) m' H') ∧ ∀ x H', J.yld i H x H' → (rdGW K mg vs g) x (wipe σ vs) H' fun σ2 H2 => wipe σ2 vs = wipe σ vs ∧ (rdT K mg t) σ2 H2 fun b H3 =>
        if b = true then (rdE K mg e) σ2 H3 fun y H4 => ∃ acc, H4 L = some (.lst acc) ∧ acc.length < sizeLine ∧ Nx (upd H4 L (.lst (acc ++ [y]))) else Nx H3) := by
  obtain ⟨x0, rp0⟩ := hide_new (o := []) rp1 hD
  refine ⟨fun i m H' => i ≤ it.ds.length ∧ m = it.ds.length - i ∧ ∃ ρ2 S2 acc xs, Ext ρ1 H1 ρ2 H' ∧ Rep K mg ρ2 H' S2 ∧ L ∈ ρ2.h ∧ H' L = some (.lst xs) ∧ RVs K mg ρ2 H' acc xs ∧ Post K mg ρ1 H1 ((lcD g t e it.gd env vs (it.ds.drop i) acc S2).bind fin) (RV K mg) Q,
    ⟨it.ds.length, Nat.zero_le _, rfl, _, S1, [], [], x0, rp0, List.mem_cons_self .., upd_same, .nil, p1⟩, ?_⟩
  rintro i m H' ⟨hi, hm, ρ2, S2, acc, xs, e2, rp2, hDh, hDo, rvs, p2⟩
  by_cases hl : i < it.ds.length
  · right
    rw [List.drop_eq_getElem_cons hl] at p2
    unfold lcD at p2
    split at p2
    · next hgd =>
      obtain ⟨_, hgo⟩ := ok ρ2 H' S2 e2.toExt0 rp2 hgd
      obtain ⟨go, hy⟩ := hgo i _ (List.getElem?_eq_getElem hl)
      refine ⟨go, fun H3 => i + 1 ≤ it.ds.length ∧ ∃ ρ2 S2 acc xs, Ext ρ1 H1 ρ2 H3 ∧ Rep K mg ρ2 H3 S2 ∧ L ∈ ρ2.h ∧ H3 L = some (.lst xs) ∧ RVs K mg ρ2 H3 acc xs ∧ Post K mg ρ1 H1 ((lcD g t e it.gd env vs (it.ds.drop (i + 1)) acc S2).bind fin) (RV K mg) Q, fun H3 ⟨h3, r⟩ => ⟨it.ds.length - (i + 1), by omega, h3, rfl, r⟩, fun x H3 hx => ?_⟩
      obtain ⟨e3, rp3, rv3⟩ := hy x H3 hx
      have re3 : REnv K mg ρ2 H3 (wipeE env vs) (wipe σ vs) := (((re1.ext e2).ext e3)).wipe vs
      have asc : ∀ (r : R Env) (k : Env → Sto → R (List D)), (r.bind k).bind fin = r.bind fun a S => (k a S).bind fin := fun r k => by cases r <;> rfl
      have ascB : ∀ (r : R Bool) (k : Bool → Sto → R (List D)), (r.bind k).bind fin = r.bind fun a S => (k a S).bind fin := fun r k => by cases r <;> rfl
      have ascD : ∀ (r : R D) (k : D → Sto → R (List D)), (r.bind k).bind fin = r.bind fun a S => (k a S).bind fin := fun r k => by cases r <;> rfl
      rw [asc] at p2
      refine ⟨ρ2, _, S2, _, rp3, re3, rv3, Post.step p2 fun σ4 H4 ρ4 S4 env4 e4 rp4 re4 p4 => ⟨by rw [re4.2]; exact wipe_wipe σ vs, ?_⟩⟩
      rw [ascB] at p4
      refine ⟨ρ4, env4, S4, rp4, re4.1, Post.step p4 fun b H5 ρ5 S5 b' e5 rp5 rb p5 => ?_⟩
      cases rb
      have hD5 := (((e3.trans e4).trans e5).hid L _ hDo hDh)
      cases b with
      | false => exact ⟨hl, ρ5, S5, acc, xs, ((e2.trans e3).trans e4).trans e5, rp5, hD5.2, hD5.1, ((rvs.ext e3).ext e4).ext e5, p5⟩
      | true =>
        have p5' : Post K mg ρ1 H1 (((e env4 S5).bind fun y S3 => if acc.length < sizeLine then lcD g t e it.gd env vs (it.ds.drop (i + 1)) (acc ++ [y]) S3 else .bad).bind fin) (RV K mg) Q := p5
        rw [ascD] at p5'
        refine ⟨ρ5, env4, S5, rp5, re4.1.ext e5, Post.step p5' fun y H6 ρ6 S6 d6 e6 rp6 rv6 p6 => ?_⟩
        have hD6 := e6.hid L _ hD5.1 hD5.2
        refine ⟨xs, hD6.1, ?_⟩
        split at p6
        · next hz =>
          have rvs6 := (((rvs.ext e3).ext e4).ext e5).ext e6
          obtain ⟨x7, rp7⟩ := hide_put (o := xs ++ [y]) rp6 hD6.2
          refine ⟨by rw [← rvs6.length]; exact hz, hl, ρ6, S6, acc ++ [d6], xs ++ [y], ?_, rp7, hD6.2, upd_same, (rvs6.append (.cons rv6 .nil)).ext0 x7, p6⟩
          have ee := ((((e2.trans e3).trans e4).trans e5).trans e6)
          exact ⟨⟨ee.pre, fun a u h q n => ⟨by rw [upd_ne (ne_of_none h hD)]; exact (ee.keep a u h q n).1, (ee.keep a u h q n).2⟩⟩, fun a u h q => ⟨by rw [upd_ne (ne_of_none h hD)]; exact (ee.hid a u h q).1, (ee.hid a u h q).2⟩⟩
        · exact p6.elim
    · exact p2.elim
  · left
    have hd : i = it.ds.length := by omega
    subst hd
    rw [List.drop_of_length_le (Nat.le_refl _)] at p2
    unfold lcD at p2
    split at p2
    · next hgd =>
      obtain ⟨st, _⟩ := ok ρ2 H' S2 e2.toExt0 rp2 hgd
      exact ⟨st, hfin ρ1 H1 S1 ρ2 H' S2 xs acc L rp1 hD e2 rp2 hDh hDo rvs p2⟩
    · exact p2.elim
end
theorem REnv.hole {K : PySem.W.Frag} {mg : Str → Option Value} {ρ : Mp} {H : Hp} {env : Env} {σ : L2.St} {i : Nat} {v : Option V} (h : REnv K mg ρ H env σ) : REnv K mg ρ H (env.set i none) (σ.set i v) :=
  ⟨by rw [List.length_set, List.length_set, h.len], fun j d' q => by
    by_cases hj : i = j
    · subst hj
      by_cases hl : i < env.length
      · rw [List.getElem?_set_self hl] at q
        cases q
      · rw [List.getElem?_eq_none (by simpa using hl)] at q
        cases q
    · rw [List.getElem?_set_ne hj] at q ⊢
      exact h.at_ j d' q⟩
/-- y = iterator; x.append(tuple([.. for tg in y])) -/
def sApp (i j : Nat) (g : TgM) (me : EM) (vs : List Nat) (env : Env) (it : Itm) (S1 : Sto) : R Fl := match env[j]? with
  | some (some d) => if tyD S1 "list" d = true then ((lcD g tmYes me it.gd env vs it.ds [] S1).bind fun ds S2 => .ok (.fzl ds) S2).bind fun L S2 => (m_tuple [L] S2).bind fun y S3 => (m_append d [y] S3).bind fun _ S4 => .ok (.nx env) S4 else .bad
  | _ => .bad
def sHeld (i j : Nat) (mi : IM) (g : TgM) (me : EM) (vs : List Nat) : SM := fun env S => (mi env S).bind fun it S1 => sApp i j g me vs (env.set i none) it S1
theorem gv_zip3 {X : Cx} {e : Expr} {es : List Expr} {as : AM} {pos tpos : Pos} {elts : List Expr} {kk : Nat} {p : Pos} (hg : Gl X "zip") (hm : X.mg "zip" = none) (ha : GA X (e :: es) as) (hs : starEach (e :: es) X.env = (false, eval e X.env) :: starEach es X.env := by rfl) (hpl : (backTo pos (starEach es X.env)).any (·.1) = false := by rfl) :
    GV X (.Tuple elts kk tpos) (.Call (.Name "zip" p) (e :: es) [] pos) (mItA it_zip3 as) := gv_zipN 3 (by decide) zck3 hg hm ha hs hpl
theorem R.assoc {α β γ : Type} (r : R α) (k : α → Sto → R β) (l : β → Sto → R γ) : (r.bind k).bind l = r.bind fun a S => (k a S).bind l := by cases r <;> rfl
section
variable {X : Cx}
set_option maxHeartbeats 4000000 in
theorem gss_held {e elt tg : Expr} {scope : Scope} {own : List (Str × Nat)} {vs : List Nat} {i j : Nat} {y x : Str} {py p2 pt pl pa pc px pe pos pos2 : Pos} {mi : IM} {g : TgM} {me : EM} (hc : X.calm = true) (hN : X.N.Nodup) (hv : GV X tg e mi) (ok : BlkOk X.N X.env.scope scope own ∧ own.map (·.2) = vs)
    (hg : ∀ (s : Shared) (H : Hp) (C : Addr) (cl : List (Str × Addr)) (fp : List Addr), GGW (X.blk s H scope (compEnvC scope cl C X.env) fp) vs tg g)
    (he : ∀ (s : Shared) (H : Hp) (C : Addr) (cl : List (Str × Addr)) (fp : List Addr), GE (X.blk s H scope (compEnvC scope cl C X.env) fp) elt me)
    (hgt : Gl X "tuple") (hmt : X.mg "tuple" = none) (hi : X.N[i]? = some y := by rfl) (hj : X.N[j]? = some x := by rfl) (hij : i ≠ j := by decide)
    (hy : Loc X.env.scope y := by first | exact Or.inl rfl | exact Or.inr rfl) (hyv : Vis X.env.scope y := by first | exact Or.inl rfl | exact Or.inr (Or.inl rfl) | exact Or.inr (Or.inr rfl)) (hxv : Vis X.env.scope x := by first | exact Or.inl rfl | exact Or.inr (Or.inl rfl) | exact Or.inr (Or.inr rfl))
    (hyd : (y == ("__debug__" : Str)) = false := by decide) (hyc : (y == ("__classdict__" : Str)) = false := by decide) (hxd : (x == ("__debug__" : Str)) = false := by decide) (hxc : (x == ("__classdict__" : Str)) = false := by decide)
    (hf : X.fn y = true ∨ X.env.scope.names.lookup y = some .local := by first | exact .inl rfl | exact .inr rfl)
    (hs1 : swapsWith e (some (.Name y py)) pos.line X.env = pure false := by rfl)
    (hs2 : swapsWith (.Call (.Attribute (.Name x px) "append" pa) [.Call (.Name "tuple" pt) [.ListComp elt [⟨tg, .Name y p2, [], 0⟩] scope pl] [] pc] [] pe) none pos2.line X.env = pure false := by rfl)
    (hline : (pa.endLine == pe.line) = true := by rfl)
    (hfew : ((backTo pe (starEach [.Call (.Name "tuple" pt) [.ListComp elt [⟨tg, .Name y p2, [], 0⟩] scope pl] [] pc] X.env)).all (fun x => !x.1) && (backToKw pe (keywordEach [] X.env)).all (fun x => x.1.isSome)
      && decide ([Expr.Call (.Name "tuple" pt) [.ListComp elt [⟨tg, .Name y p2, [], 0⟩] scope pl] [] pc].length + ([] : List Keyword).length + (if ([] : List Keyword).isEmpty then 0 else 1) < 30)) = true := by rfl)
    (hsa : starEach [.ListComp elt [⟨tg, .Name y p2, [], 0⟩] scope pl] X.env = (false, eval (.ListComp elt [⟨tg, .Name y p2, [], 0⟩] scope pl) X.env) :: starEach [] X.env := by rfl)
    (hsb : starEach [.Call (.Name "tuple" pt) [.ListComp elt [⟨tg, .Name y p2, [], 0⟩] scope pl] [] pc] X.env = (false, eval (.Call (.Name "tuple" pt) [.ListComp elt [⟨tg, .Name y p2, [], 0⟩] scope pl] [] pc) X.env) :: starEach [] X.env := by rfl)
    (hpa : (backTo pc (starEach [] X.env)).any (·.1) = false := by rfl) (hpb : (backTo pe (starEach [] X.env)).any (·.1) = false := by rfl)
    (hab : attributeBase (.Name x px) "append" X.env (eval (.Name x px) X.env) = eval (.Name x px) X.env := by rfl) (hfs : ∀ v, foldedSetIterable (.Name y p2) X.env v = pure v := by intro _; rfl) :
    GSs X [.Assign [.Name y py] e pos, .Expr (.Call (.Attribute (.Name x px) "append" pa) [.Call (.Name "tuple" pt) [.ListComp elt [⟨tg, .Name y p2, [], 0⟩] scope pl] [] pc] [] pe) pos2] (sHeld i j mi g me vs) := by
  obtain ⟨ok, rfl⟩ := ok
  refine ⟨fun pins s σ H D I ⟨ρ, env, S, rp, re, p⟩ => ?_⟩
  unfold sHeld at p
  refine wpAny_execs_cons (wpAny_Assign_Name (thn (hv.run pins s σ H (fun J H1 => ∃ ρ1 S1 it, Ext ρ H ρ1 H1 ∧ Rep X.K X.mg ρ1 H1 S1 ∧ ItOk X.K X.mg ρ1 H1 J it ∧ PostS X.K X.mg ρ1 H1 (sApp i j g me (own.map (·.2)) (env.set i none) it S1) D) I
    ⟨ρ, env, S, rp, re, PostS.bindB p fun J H1 ρ1 S1 it e1 rp1 ok1 p1 => ⟨ρ1, S1, it, e1, rp1, ok1, p1⟩⟩) fun v s1 ⟨z, B, tn, J, H1, ev, I1, T, t0, fp, ρ1, S1, it, e1, rp1, ok1, p1⟩ => ?_) hs1)
  subst ev
  have I2 := track I1 fp (fun b m => let ⟨o, e, _⟩ := T.obj 0 _ t0 b m; ⟨o, e⟩)
  refine store_ok I2 hN hi hy (v := .ref z) (by exact rfl) (fun s2 I3 => ?_) hf
  have Q1 := pe_lc (pos := pl) (elt := elt) (ifs := []) (te := rdE X.K X.mg me) (tt := rdT X.K X.mg tmYes) (g := rdGW X.K X.mg (own.map (·.2)) g) hc hN (pi_held T t0 fp hi hyv hyd hyc (p := p2)) ok hg (fun s H C cl fp => gts_nil) he hfs
  have Q2 := pe_callTy (p := pt) (pos := pc) (r := rdC X.K X.mg m_tuple) (gc_tuple (X := X)) hgt hmt PyProof.Rows.boot_tuple (pa_cons Q1 pa_nil hsa) (by decide) (by decide) hsa hpa
  have Q3 := pe_bm PySem.F.plainAttrs_list PySem.F.slot_list_append PySem.F.type_list_append (r := rdM X.K X.mg m_append) (gm_append (X := X)) (pe_var (pos := px) hj hxv hxd hxc) (pa_cons Q2 pa_nil hsb) hab hfew hline hsb hpb
  have P2 := pss_one (ps_expr Q3 hs2)
  refine P2.run pins s2 (σ.set i (some (.ref z))) (held B s1.heap H1) D I3 ?_
  have re1 := (re.ext e1).hole (i := i) (v := some (V.ref z))
  have hl : i < σ.length := by rw [I.len]; exact (List.getElem?_eq_some_iff.mp hi).1
  unfold sApp at p1
  split at p1
  · next d q =>
    obtain ⟨v, h1, h2⟩ := re1.at_ j d q
    have ge : ∀ a o, H1 a = some o → held B s1.heap H1 a = some o := fun a o h => held_ge (fun b m => (fp b m).1) h
    have e2 : Ext ρ1 H1 ρ1 (held B s1.heap H1) := ⟨⟨List.prefix_rfl, fun a o h _ n => ⟨ge a o h, n⟩⟩, fun a o h m => ⟨ge a o h, m⟩⟩
    have rp2 : Rep X.K X.mg ρ1 (held B s1.heap H1) S1 := ⟨rp1.len, rp1.nd, fun n a o a1 a2 => let ⟨u, b1, b2⟩ := rp1.at_ n a o a1 a2; ⟨u, ge _ _ b1, b2.ext e2⟩, fun a m => let ⟨⟨xs, b1⟩, b2⟩ := rp1.hd a m; ⟨⟨xs, ge _ _ b1⟩, b2⟩⟩
    split at p1
    · next ht =>
      refine ⟨v, h1, tyV_at rp2 (h2.ext e2) ht, ⟨by rw [List.getElem?_set_self hl], rfl, fun L hD => ?_⟩⟩
      exact lcJ (fin := fun ds S2 => .ok (.fzl ds) S2) (Q := fun w H3 => rdC X.K X.mg m_tuple [w] H3 fun w2 H4 => rdM X.K X.mg m_append v [w2] H4 fun _ H5 => D.nx (σ.set i (some (V.ref z))) H5) fin_F rp1 re1 ok1 (PostS.bindB p1 fun w H3 ρ3 S3 dw e3 rp3 rv3 p3 =>
        ⟨ρ3, S3, [dw], rp3, .cons rv3 .nil, PostS.bindB p3 fun w2 H4 ρ4 S4 dw2 e4 rp4 rv4 p4 =>
          ⟨ρ4, S4, d, [dw2], rp4, (h2.ext e3).ext e4, .cons rv4 .nil, PostS.bindB p4 fun w3 H5 ρ5 S5 dw3 e5 rp5 rv5 p5 => p5.nx rp5 (((re1.ext e3).ext e4).ext e5)⟩⟩) L hD
    · exact p1.elim
  · exact p1.elim
end
/-! ### an int's truth -/
def isTr : D → Sto → R Bool
  | .bl b, S => .ok b S
  | .int i, S => .ok (i != 0) S
  | _, _ => .bad
def mTt (a : EM) : TM := fun env S => (a env S).bind isTr
theorem o_Tt (a : EM) (env : Env) (S : Sto) : mTt a env S = (a env S).bind isTr := (rfl)
theorem gt_truth {X : Cx} {e : Expr} {ma : EM} (h : GE X e ma) (he : ∀ whole, isTrue e X.env whole = (do let v ← whole; standAt e.pos; holding [v] (truthy v)) := by intro _; rfl) : GT X e (mTt ma) :=
  (pt_truth h he).mono' fun σ H Q ⟨ρ, env, S, rp, re, p⟩ => ⟨ρ, env, S, rp, re, Post.bindB p fun x H1 ρ1 S1 d e1 rp1 rv1 p1 => by
    cases rv1 with
    | bl b => exact ⟨b, rfl, Post.ok p1 rp1 rfl⟩
    | int i => exact ⟨(i != 0), rfl, Post.ok p1 rp1 rfl⟩
    | _ => exact p1.elim⟩
end ML
/-! MLz: del d[k] (a tuple key); sorted of a tuple of pairs; min of four ints. -/
namespace ML
open PySem L2
/-! ### del d[k] -/
theorem RTab.drop {K : PySem.W.Frag} {mg : Str → Option Value} {ρ : Mp} {H : Hp} {κ : Type} [DecidableEq κ] {kvs : List (κ × D)} {us : List (κ × V)} (h : RTab K mg ρ H kvs us) (k : κ) : RTab K mg ρ H (dropD kvs k) (dropK us k) := by
  unfold dropD dropK
  induction h with
  | nil => exact .nil
  | @cons k' d v r t h _ ih =>
    rw [List.filter_cons, List.filter_cons]
    by_cases e : k' = k
    · have c : decide (k' ≠ k) = false := by simp [e]
      rw [c, if_neg (by decide), if_neg (by decide)]
      exact ih
    · have c : decide (k' ≠ k) = true := by simp [e]
      rw [c, if_pos rfl, if_pos rfl]
      exact .cons h ih
def m_delQ (x y : D) (S : Sto) : R Unit := match x with
  | .loc n => (match S[n]? with
    | some (.dT kvs) => (match keyT y with
      | some k => if (valD kvs k).isSome = true then .ok () (S.set n (.dT (dropD kvs k))) else .bad
      | none => .bad)
    | _ => .bad)
  | _ => .bad
def sDel (o i : EM) : SM := fun env S => (o env S).bind fun x S1 => (i env S1).bind fun y S2 => (m_delQ x y S2).bind fun _ S3 => .ok (.nx env) S3
theorem o_del (o i : EM) (env : Env) (S : Sto) : sDel o i env S = (o env S).bind fun x S1 => (i env S1).bind fun y S2 => (m_delQ x y S2).bind fun _ S3 => .ok (.nx env) S3 := (rfl)
section
variable {X : Cx}
theorem d_delItemT {pins : List (Addr × Obj)} {σ : L2.St} {H : Hp} {s : Shared} {a b : Addr} {kvs : List (List L2.Key × V)} {k : List L2.Key} {A : Around} {E : Value → Shared → Prop} {Q : Unit → Shared → Prop} (hu : A.units + 1 < cLine) (I : L2.Inv X pins σ H s) (ha : H a = some (.dT kvs)) (hb : H b = some (.tup (k.map kV)))
    (l : (valV kvs k).isSome = true) (h : ∀ s', L2.Inv X pins σ (upd H a (.dT (dropK kvs k))) s' → Q () s') : wpAny (model X.prog X.w) A (delItem (.ref a) (.ref b)) Q E s := by
  obtain ⟨z, hd, xs, rel, dd⟩ := dt_of I.hok ha
  have hz : xs.length ≤ sizeLine := by rw [← Paired.length rel]; exact z
  have r := rel.val k
  cases hp : atKey xs k with
  | none =>
    rw [hp] at r
    cases ev : valV kvs k with
    | none => rw [ev] at l; cases l
    | some v => rw [ev] at r; exact (show False from r).elim
  | some p =>
    refine PySem.wpAny_delItem_heap (hsz := hz) (tupleKind_room_in1 hu) (key_of I.hok hb) hd dd hp fun h' dd' hs => h _ ?_
    obtain ⟨o, es, ep, hq, h2, h3, h4, _, h5⟩ := dd'
    exact d_write I (by rw [ha]; exact True.intro) hs ⟨o, hq⟩ ⟨Nat.le_trans (dropK_le kvs k) z, hd, _, (DX.KT_drop k rel).keeps (fun c ys ec => (by rw [upd_ne (ne_of ec ha (fun z => nomatch z))]; exact ec)), o, es, ep, hq, h2, h3, h4, h5⟩
theorem gs_del {o i : Expr} {mo mi : EM} {pos tpos : Pos} (hu : X.A.units + 1 < cLine) (ho : GE X o mo) (hi : GE X i mi) : GS X (.Delete [.Subscript o i tpos] pos) (sDel mo mi) := by
  refine ⟨fun pins s σ H D I ⟨ρ, env, S, rp, re, p⟩ => ?_⟩
  unfold sDel at p
  refine wpAny_Delete (wpAny_deleteEach_cons (wpAny_delete_Subscript (thn (ho.run pins s σ H (fun x H1 => ∃ ρ1 S1 d, Ext ρ H ρ1 H1 ∧ Rep X.K X.mg ρ1 H1 S1 ∧ RV X.K X.mg ρ1 H1 d x ∧ PostS X.K X.mg ρ1 H1 ((mi env S1).bind fun y S2 => (m_delQ d y S2).bind fun _ S3 => .ok (.nx env) S3) D) I
    ⟨ρ, env, S, rp, re, PostS.bindB p fun x H1 ρ1 S1 d e1 rp1 rv1 p1 => ⟨ρ1, S1, d, e1, rp1, rv1, p1⟩⟩) fun u s1 ⟨x, H1, I1, rx, ρ1, S1, d, e1, rp1, rv1, p1⟩ =>
    thn (hi.run pins s1 σ H1 (fun y H2 => ∃ ρ2 S2 dy, Ext ρ1 H1 ρ2 H2 ∧ Rep X.K X.mg ρ2 H2 S2 ∧ RV X.K X.mg ρ2 H2 dy y ∧ PostS X.K X.mg ρ2 H2 ((m_delQ d dy S2).bind fun _ S3 => .ok (.nx env) S3) D) I1
      ⟨ρ1, env, S1, rp1, re.ext e1, PostS.bindB p1 fun y H2 ρ2 S2 dy e2 rp2 rv2 p2 => ⟨ρ2, S2, dy, e2, rp2, rv2, p2⟩⟩) fun iv s2 ⟨y, H2, I2, ry, ρ2, S2, dy, e2, rp2, rv2, p2⟩ => ?_)))
  unfold m_delQ at p2
  split at p2
  · next n =>
    split at p2
    · next kvs q1 =>
      split at p2
      · next k q2 =>
        split at p2
        · next hs =>
          obtain ⟨n', a, us, e3, hS, ha, rfl, hH, rt⟩ := dOf_at (kvs := kvs) rp2 (by simp only [dOf, q1]) (rv1.ext e2)
          cases e3
          obtain ⟨b, rfl, hb, _⟩ := keyT_at q2 rv2
          cases rx
          cases ry
          obtain ⟨xs, ex, rxs⟩ := (rt.drop k).vals
          have hi1 : (valV us k).isSome = true := by rw [rt.isSome k]; exact hs
          refine d_delItemT hu I2 hH hb hi1 fun s3 I3 => wpAny_deleteEach_nil ⟨σ, _, I3, ?_⟩
          have e4 := Ext.put (o := .dT (dropK us k)) rp2 (List.mem_of_getElem? ha)
          have rp4 := rp2.put ha (o := .dT (dropD kvs k)) (u := .dT (dropK us k)) (by rw [ex]; exact .dT rxs)
          exact PostS.nx (PostS.ext e4 p2) rp4 (((re.ext e1).ext e2).ext e4)
        · exact p2.elim
      · exact p2.elim
    · exact p2.elim
  · exact p2.elim
end
/-! ### sorted of a tuple of pairs -/
section
open PyProof.Rows
variable {prog : Program} {w : World} {A : Around} {E : Value → Shared → Prop} {s : Shared}
theorem collect_tup {l : Addr} {vs : List Value} {o : Obj} {n : Nat} {Q : List Value → Shared → Prop} (ho : s.heap.get? l = some o) (hc : o.cls = .type "tuple") (hd : o.data = .seq vs.toArray n)
    (h : Q vs { s with heap := (s.heap.push (seqObj "list" #[] 0)).update s.heap.objs.size (Obj.mapSeq (· ++ vs.toArray)) }) (hsz : vs.length ≤ sizeLine) : wpAny (model prog w) A (collect (.ref l)) Q E s := by
  unfold collect
  refine wpAny_bind (wpAny_runValue (codeAny_builtin entry_proto_collect' ?_))
  show wpAny _ _ (do again (.builtin "list.__iadd__" ⟨[← newList [], .ref l], []⟩)) _ _ s
  refine wpAny_bind (wpAny_newList (wpAny_pure ⟨Code.quiet_builtin _ (by decide +kernel), codeAny_builtin entry_list_iadd' ?_⟩))
  show wpAny _ _ (Builtin.List.listExtendWith (.ref s.heap.objs.size) (.ref l) (.ref s.heap.objs.size)) _ _ { s with heap := s.heap.push (seqObj "list" #[] 0) }
  unfold Builtin.List.listExtendWith
  have ho' : (s.heap.push (seqObj "list" #[] 0)).get? l = some o := Heap.get?_push_of_some _ ho
  refine wpAny_bind (wpAny_typeOf (T := "tuple") ⟨o, ho', hc⟩ ?_)
  have ht : (Value.type "tuple" == Value.type "tuple") = true := by rfl
  rw [if_pos (by rw [ht]; simp)]
  refine wpAny_bind (listItems_at ho' hd ?_)
  refine wpAny_bind (listItems_at (xs := #[]) (n := 0) (Heap.get?_push_size _ rfl) rfl ?_)
  rw [if_neg (by simp)]
  refine wpAny_bind (listUpdate_at (xs := #[]) (n := 0) (Heap.get?_push_size _ rfl) rfl ?_ (Nat.zero_le _) (by show (#[] ++ vs.toArray).size ≤ sizeLine + 1; simp only [Array.size_append, List.size_toArray, List.length_nil]; omega))
  refine wpAny_pure ?_
  show wpAny (model prog w) A (do
      let o ← load s.heap.objs.size
      match o.data with
      | .seq xs _ => pure xs.toList
      | _ => unsupported "internal:collect") Q E { s with heap := (s.heap.push (seqObj "list" #[] 0)).update s.heap.objs.size (Obj.mapSeq (· ++ vs.toArray)) }
  refine wpAny_bind (wpAny_load (get?_update_seq (Heap.get?_push_size _ rfl) _) ?_)
  show wpAny _ _ (pure ((#[] : Array Value) ++ vs.toArray).toList) Q E _
  rw [show ((#[] : Array Value) ++ vs.toArray).toList = vs by simp]
  exact wpAny_pure h
theorem sorted_pairsT {l : Addr} {vs : List Value} {k : Value → Int × Int} {o : Obj} {n : Nat} {Q : Value → Shared → Prop} (ho : s.heap.get? l = some o) (hc : o.cls = .type "tuple") (hd : o.data = .seq vs.toArray n) (hz : vs.length ≤ sizeLine) (hp : ∀ v ∈ vs, Srt.IsPair s.heap v (k v).1 (k v).2)
    (h : ∀ (h' : Heap) (d : Addr) (out : List Value), SrtO.Srtd (fun v u => SrtO.lexB (k v) (k u)) out → SrtO.Stb (fun v u => SrtO.lexB (k v) (k u)) out vs → (∀ b o, s.heap.get? b = some o → h'.get? b = some o) → s.heap.objs.size ≤ d → (∃ n, h'.get? d = some (seqObj "list" out.toArray n)) → Q (.ref d) { s with heap := h' }) :
    wpAny (model prog w) A (call (.builtin "sorted") [.ref l]) Q E s := by
  refine Calls.call_function_entry kind_sorted plain_sorted entry_sorted (args_sorted1 _) ?_
  unfold Builtin.«sorted»
  refine wpAny_bind (m := checkCount "sorted" 1 1 _) (wpAny_pure ?_)
  refine wpAny_bind (collect_tup ho hc hd ?_ hz)
  refine wpAny_bind (wpAny_newList ?_ hz)
  have hsz : ((s.heap.push (seqObj "list" #[] 0)).update s.heap.objs.size (Obj.mapSeq (· ++ vs.toArray))).objs.size = s.heap.objs.size + 1 := by
    rw [Heap.size_update, size_push']
  have hoL : (((s.heap.push (seqObj "list" #[] 0)).update s.heap.objs.size (Obj.mapSeq (· ++ vs.toArray))).push (seqObj "list" vs.toArray 0)).get? (s.heap.objs.size + 1) = some (seqObj "list" vs.toArray 0) := by
    rw [← hsz]; exact Heap.get?_push_size _ rfl
  have keep : ∀ b o, s.heap.get? b = some o → b ≠ s.heap.objs.size + 1 ∧ (((s.heap.push (seqObj "list" #[] 0)).update s.heap.objs.size (Obj.mapSeq (· ++ vs.toArray))).push (seqObj "list" vs.toArray 0)).get? b = some o := fun b o q => by
    have hlt : b < s.heap.objs.size := Heap.lt_size q
    refine ⟨Nat.ne_of_lt (Nat.lt_succ_of_lt hlt), Heap.get?_push_of_some _ ?_⟩
    rw [Heap.get?_update_ne _ _ _ _ (Nat.ne_of_lt hlt)]
    exact Heap.get?_push_of_some _ q
  show wpAny _ _ _ _ _ { s with heap := ((s.heap.push (seqObj "list" #[] 0)).update s.heap.objs.size (Obj.mapSeq (· ++ vs.toArray))).push (seqObj "list" vs.toArray 0) }
  rw [hsz]
  refine wpAny_bind (wpAny_holding (wpAny_call_entry slot_list_sort ⟨_, hoL, rfl⟩ entry_list_sort (SrtO.list_sort_ord (SrtO.swo_lex k) hoL hz (fun h2 => ?_) fun out hs hb => ⟨_, rfl, ?_⟩) (args_list_sort _)))
  · refine SrtO.pairs_sortableO (s := { s with heap := _ }) (by omega) (fun v hm => (hp v hm).keeps fun b o e _ => (keep b o e).2) fun o e => ?_
    have e' : some o = some (seqObj "list" vs.toArray 0) := e.symm.trans hoL
    cases e'
    intro c
    exact absurd (Value.type.inj c) (by decide)
  · exact wpAny_pure ⟨_, rfl, h _ _ out hs hb (fun b o e => sortedAll_old e) (Nat.le_succ _) (sortedAll_at s.heap vs out.toArray)⟩
end
def m_sortU : List D → Sto → R D
  | [.tup ds], S => (match opAll pairI ds with
    | some ps => .ok (.fzl ((sortP ps).map pD)) S
    | none => .bad)
  | ds, S => m_sortQ ds S
theorem gc_sortU {X : Cx} (hc : X.calm = true) : GC X (.builtin "sorted") m_sortU := fun pins s σ H xs us Q I r ⟨ρ, S, ds, rp, rx, p⟩ => by
  unfold m_sortU at p
  split at p
  · next es =>
    obtain ⟨v, rfl, r1⟩ := rx.one
    split at p
    · next ps q2 =>
      obtain ⟨a, ws, rfl, t, r2⟩ := tup_at r1
      obtain ⟨g1, g2⟩ := pairI_at q2 r2
      obtain ⟨u, rfl, ru⟩ := vals1 r
      obtain rfl : u = Value.ref a := ru
      obtain ⟨hz, its, rv, o, ho, hcl, n, hdd⟩ := I.hok _ _ t.1
      have hx : ∀ x ∈ ws, ∃ b, x = V.ref b ∧ ∃ i j, H b = some (.tup [.int i, .int j]) := fun x hx => by
        obtain ⟨b, i, j, e, hb⟩ := g1 x hx
        exact ⟨b, e, i, j, hb⟩
      obtain ⟨e1, e2⟩ := refs_back rv fun x m => by
        obtain ⟨b, e, _⟩ := hx x m
        exact ⟨b, e⟩
      refine sorted_pairsT (k := fun u => kH H (backV u)) ho hcl hdd (by rw [← rv.length]; exact hz) (fun v hv => ?_) fun h' d out h1 h2 kp hd hn => ?_
      · obtain ⟨b, rfl⟩ := e2 v hv
        have hm : V.ref b ∈ ws := by rw [e1]; exact List.mem_map.mpr ⟨_, hv, rfl⟩
        obtain ⟨b', e, i, j, hb⟩ := hx _ hm
        cases e
        obtain ⟨_, its2, r3, o2, ho2, hc2, n2, hd2⟩ := I.hok _ _ hb
        obtain ⟨u1, u2, rfl, ri, rj⟩ := vals2 r3
        obtain ⟨t1, rfl⟩ := ri
        obtain ⟨t2, rfl⟩ := rj
        have e : kH H (backV (Value.ref b)) = (i, j) := by
          show kH H (.ref b) = _
          simp only [kH, hb]
        rw [e]
        exact ⟨b, o2, t1, t2, n2, rfl, ho2, hc2, hd2⟩
      · have h3 : ∀ u ∈ out, ∃ a, u = Value.ref a := fun u hu => e2 u (h2.perm.mem_iff.mp hu)
        obtain ⟨n, hn⟩ := hn
        have hb : SrtO.Stb (ltP (kH H)) (out.map backV) ws := by
          rw [e1]
          exact SrtO.Stb.map (ltP_swo (kH H)) backV h2
        have hs : SrtO.Srtd (ltP (kH H)) (out.map backV) := SrtO.srtd_map h1
        have hf := I.hok.fresh hd
        refine ⟨.ref d, upd H d (.lst (out.map backV)), I.laid (t' := s.toks) kp hd ⟨?_, out, n, vals_back h3, hn⟩, rfl, ?_⟩
        · rw [hb.len]
          exact hz
        · have e := sorted_ys hs hb.perm g2
          refine p ρ _ _ (Ext.new hf) (rp.new hf) ?_
          rw [← e]
          exact .fzl (FAt.new rp hf) ((pairs_rv rp fun y hy => g1 y (hb.perm.mem_iff.mp hy)).ext (Ext.new hf))
    · exact p.elim
  · exact gc_sortQ hc pins s σ H xs us Q I r ⟨ρ, S, _, rp, rx, p⟩
/-! ### min of four ints -/
section
open PyProof.Rows
variable {prog : Program} {w : World} {A : Around} {E : Value → Shared → Prop} {s : Shared}
theorem args_min4 (a b c d : Value) : argsOk "min" ⟨[a, b, c, d], []⟩ := by unfold argsOk; kernel_rfl
theorem call_min_four {a b c d : Value} {Q : Value → Shared → Prop}
    (h : wpAny (model prog w) A.in1 (pyIter (.ref s.heap.objs.size)) (fun it s₂ => ∃ I fp wr n P St bt, it = .ref I ∧ Walks prog w A.in1 I fp wr n P St ∧ St 0 s₂.heap ∧ (∀ b ∈ fp, b < s₂.heap.objs.size) ∧ 0 < n ∧ CmpOf prog w A.in1 .Lt P bt ∧
      ∀ v h' tk, P (argBest bt (n - 1)) v → (∀ b o, b ∉ wr → s₂.heap.get? b = some o → h'.get? b = some o) → Q v { s₂ with heap := h', toks := tk }) E
      { s with heap := s.heap.push { cls := .type "tuple", data := .seq #[a, b, c, d] } }) :
    wpAny (model prog w) A (call (.builtin "min") [a, b, c, d]) Q E s := by
  have hname : (toString "min" ++ toString ".loop" : String) = "min.loop" := by decide
  refine call_function_tree F.kind_min F.plain_min F.entry_min (args_min4 _ _ _ _) ?_
  show wpAny _ A.in1 (Builtin.Builtins.bindParams "min" ["key", "default"] 0 ⟨[], []⟩ >>= _) _ _ s
  refine wpAny_bind (wpAny_of_eq (show Builtin.Builtins.bindParams "min" ["key", "default"] 0 ⟨[], []⟩ = pure [none, none] from rfl) ?_)
  show wpAny _ A.in1 (newTuple [a, b, c, d] >>= _) _ _ s
  refine wpAny_bind (wpAny_newObj_type ?_)
  refine wpAny_bind (wpAny_mono h (fun it s₂ h₂ => ?_) fun _ _ e => e)
  obtain ⟨I, fp, wr, n, P, St, bt, rfl, W, hst, hfp, hn, hcmp, hQ⟩ := h₂
  refine wpAny_bind (wpAny_newObj_type ?_)
  have hSf : s₂.heap.objs.size ∉ fp := fun hm => Nat.lt_irrefl _ (hfp _ hm)
  rw [hname]
  refine wpAny_pure ⟨plainId_quiet F.plain_min_loop _, codeAny_min_loop_first W bt hcmp s₂.heap.objs.size hSf hn (W.frame _ _ _ hst fun b _ o e => Heap.get?_push_of_some _ e) (Heap.get?_push_size _ rfl) fun v h' tk hP hk => ?_⟩
  exact hQ v h' tk hP fun b o hbw e => hk b o hbw (Nat.ne_of_lt (Heap.lt_size e)) (Heap.get?_push_of_some _ e)
def lt2 (i j : Int) : Int := if j < i then j else i
theorem min_four_ints {a b c d : Int} {t u x y : Tok} {Q : Value → Shared → Prop} (hh : A.handled = none)
    (h : ∀ h' tk t', (∀ d o, s.heap.get? d = some o → h'.get? d = some o) → Q (.int (lt2 (lt2 (lt2 a b) c) d) t') { s with heap := h', toks := tk }) :
    wpAny (model prog w) A (call (.builtin "min") [.int a t, .int b u, .int c x, .int d y]) Q E s := by
  have hT : (s.heap.push { cls := .type "tuple", data := .seq #[.int a t, .int b u, .int c x, .int d y] }).IsTuple s.heap.objs.size (intItems #[(a, t), (b, u), (c, x), (d, y)]) := ⟨_, Heap.get?_push_size _ rfl, rfl, 0, by simp [intItems]⟩
  refine call_min_four (wpAny_pyIter_tuple hT ?_)
  have hsz : (s.heap.push { cls := .type "tuple", data := .seq #[.int a t, .int b u, .int c x, .int d y] }).objs.size = s.heap.objs.size + 1 := Heap.size_push ..
  refine ⟨_, [_, s.heap.objs.size], [_], _, _, _, _, rfl, Walks.tuple (A := A.in1) hh _ s.heap.objs.size (by rw [hsz]; exact Nat.ne_of_lt (Nat.lt_succ_self _)) (intItems #[(a, t), (b, u), (c, x), (d, y)]),
    ⟨⟨_, Heap.get?_push_size _ rfl, rfl, rfl⟩, hT.push _⟩, fun d hd => ?_, by simp [intItems], CmpOf.ints_lt (numAt #[(a, t), (b, u), (c, x), (d, y)]) (fun _ _ => intItems_at), fun v h' tk hP hk => ?_⟩
  · show d < ((s.heap.push _).push _).objs.size
    rw [Heap.size_push, hsz]
    rcases List.mem_cons.mp hd with rfl | hd
    · rw [hsz]; exact Nat.lt_succ_self _
    · rcases List.mem_cons.mp hd with rfl | hd
      · exact Nat.lt_succ_of_lt (Nat.lt_succ_self _)
      · cases hd
  · have hold : ∀ d o, s.heap.get? d = some o → h'.get? d = some o := fun d o e => by
      refine hk d o (fun hm => ?_) (Heap.get?_push_of_some _ (Heap.get?_push_of_some _ e))
      rcases List.mem_cons.mp hm with e1 | hm
      · have := Heap.lt_size e; rw [e1, hsz] at this; exact Nat.lt_irrefl _ (Nat.lt_of_succ_lt this)
      · cases hm
    have hv : ∃ t', v = Value.int (lt2 (lt2 (lt2 a b) c) d) t' := by
      have hP' : (intItems #[(a, t), (b, u), (c, x), (d, y)])[argBest (fun i j => decide (numAt #[(a, t), (b, u), (c, x), (d, y)] i < numAt #[(a, t), (b, u), (c, x), (d, y)] j)) 3]? = some v := by
        have hsz2 : (intItems #[(a, t), (b, u), (c, x), (d, y)]).size - 1 = 3 := by simp [intItems]
        rw [← hsz2]; exact hP
      unfold lt2
      by_cases h1 : b < a
      · by_cases h2 : c < b
        · by_cases h3 : d < c <;> (simp [argBest, numAt, intItems, h1, h2, h3] at hP'; simp only [h1, h2, h3, if_true, if_false]; exact ⟨_, hP'.symm⟩)
        · by_cases h3 : d < b <;> (simp [argBest, numAt, intItems, h1, h2, h3] at hP'; simp only [h1, h2, h3, if_true, if_false]; exact ⟨_, hP'.symm⟩)
      · by_cases h2 : c < a
        · by_cases h3 : d < c <;> (simp [argBest, numAt, intItems, h1, h2, h3] at hP'; simp only [h1, h2, h3, if_true, if_false]; exact ⟨_, hP'.symm⟩)
        · by_cases h3 : d < a <;> (simp [argBest, numAt, intItems, h1, h2, h3] at hP'; simp only [h1, h2, h3, if_true, if_false]; exact ⟨_, hP'.symm⟩)
    obtain ⟨t', rfl⟩ := hv
    exact h h' tk t' hold
end
def m_min4 : List D → Sto → R D
  | [.int i, .int j, .int k, .int l], S => .ok (.int (lt2 (lt2 (lt2 i j) k) l)) S
  | ds, S => m_min ds S
theorem gc_min4 {X : Cx} (hc : X.calm = true) : GC X (.builtin "min") m_min4 := fun pins s σ H xs us Q I r ⟨ρ, S, ds, rp, rx, p⟩ => by
  unfold m_min4 at p
  split at p
  · cases rx with
    | cons r1 rx => cases rx with
      | cons r2 rx => cases rx with
        | cons r3 rx => cases rx with
          | cons r4 rx =>
            cases rx
            cases r1; cases r2; cases r3; cases r4
            cases r with
            | cons a1 r => cases r with
              | cons a2 r => cases r with
                | cons a3 r => cases r with
                  | cons a4 r =>
                    cases r
                    obtain ⟨t1, rfl⟩ := a1
                    obtain ⟨t2, rfl⟩ := a2
                    obtain ⟨t3, rfl⟩ := a3
                    obtain ⟨t4, rfl⟩ := a4
                    exact min_four_ints (I.ok.hd hc) fun h' tk t' k => ⟨.int _, H, I.kept k, ⟨t', rfl⟩, p.ok rp (.int _)⟩
  · exact gc_min hc pins s σ H xs us Q I r ⟨ρ, S, _, rp, rx, p⟩
end ML
namespace ML
open PySem L2
/-- the state of all draws -/
def CupO (o : O) : Prop := ∃ x y : Int, o = .lst [.int x, .int y] ∧ 0 ≤ x ∧ 0 ≤ y ∧ y < 4294967296
theorem mulR (a : Int) {b : Int} (h : -(2 ^ 64) < b ∧ b < 2 ^ 64) : CMul a b := .inr h
theorem mulL {a : Int} (b : Int) (h : -(2 ^ 64) < a ∧ a < 2 ^ 64) : CMul a b := .inl h
theorem e_pow18 (S : Sto) : m_pow (.int 10) (.int 18) S = .ok (.int (10 ^ 18)) S := rfl
def m__law_cup : SM :=
  (sSeq (sAsg (mCall m_abs (mCons (mOp m_ix (mOp m_add (mCall m_list (mCons (mVar 0) mNil)) (mLst (mCons (mC (.int 0)) mNil))) (mC (.int 0))) mNil)) (gN 1))
  (sRet (mLstM (mCons (mIfE (mT (mOp m_ge (mVar 1) (mOp m_pow (mC (.int 10)) (mC (.int 18))))) (mOp m_fdiv (mVar 1) (mC (.int 43))) (mC (.int 0))) (mCons (mOp m_add (mOp m_mod (mCall m_int (mCons (mOp m_add (mOp m_mul (mVar 1) (mC (.int 881))) (mC (.int 4079))) mNil)) (mC (.int 2059000381))) (mC (.int 557))) mNil)))))
def c__law_cup : List D → Sto → R D := fnD 2 m__law_cup
theorem cup_run (ns : List Int) (S : Sto) (hl : ns.length ≤ 63) : Run (c__law_cup [.kl (ns.map D.int)] S) fun d S' => ∃ o, d = .loc S.length ∧ CupO o ∧ S' = S ++ [o] := by
  have h1 : ∃ n : Int, L2.atI (ns.map D.int ++ [D.int 0]) 0 = some (.int n) := by
    cases ns with
    | nil => exact ⟨0, atI_nat (j := 0) rfl⟩
    | cons n ns => exact ⟨n, atI_nat (j := 0) rfl⟩
  obtain ⟨n, hn⟩ := h1
  have hz : (ns.map D.int).length + [D.int 0].length ≤ sizeLine := by simp [sizeLine]; omega
  have h2 : (2 : Nat) ≤ sizeLine := by decide
  have h3 : (1 : Nat) ≤ sizeLine := by decide
  refine run_fn (run_seq ?_)
  simp [e_addF hz, e_ixF hn, h2, h3, e_pow18]
  have hm : 0 ≤ (if n < 0 then -n else n) := by split <;> omega
  generalize (if n < 0 then -n else n) = m at hm ⊢
  have q : ∀ x : Int, 0 ≤ x → CupO (.lst [.int x, .int ((m * 881 + 4079) % 2059000381 + 557)]) := fun x hx => ⟨x, _, rfl, hx, by omega, by omega⟩
  by_cases c : 1000000000000000000 ≤ m
  · simp [c, e_fdiv, e_mod, e_mul (mulR m (by decide : -(2 ^ 64) < (881 : Int) ∧ (881 : Int) < 2 ^ 64)), newL]
    exact q _ (by omega)
  · simp [c, e_fdiv, e_mod, e_mul (mulR m (by decide : -(2 ^ 64) < (881 : Int) ∧ (881 : Int) < 2 ^ 64)), newL]
    exact q _ (by omega)
def m__law_same (self : List D → Sto → R D) : SM :=
  (sSeq (sIf (mOr (mT (mCall m_isi (mCons (mVar 1) (mCons (mC (.ty "tuple")) mNil)))) (mT (mCall m_isi (mCons (mVar 1) (mCons (mC (.ty "list")) mNil))))) (sSeq (sIf (mOr (mT (mOp m_ne (mCall m_isi (mCons (mVar 0) (mCons (mC (.ty "tuple")) mNil))) (mCall m_isi (mCons (mVar 1) (mCons (mC (.ty "tuple")) mNil))))) (mOr (mT (mOp m_ne (mCall m_isi (mCons (mVar 0) (mCons (mC (.ty "list")) mNil))) (mCall m_isi (mCons (mVar 1) (mCons (mC (.ty "list")) mNil))))) (mT (mOp m_ne (mCall m_len (mCons (mVar 0) mNil)) (mCall m_len (mCons (mVar 1) mNil)))))) (sRet (mC (.bl false))) sNx)
  (sRet (mOp m_eq (mLc (mItA itR1 (mCons (mCall m_len (mCons (mVar 1) mNil)) mNil)) (gN 2) (mNot (mT (mFn 2 self (mCons (mOp m_ix (mVar 0) (mVar 2)) (mCons (mOp m_ix (mVar 1) (mVar 2)) mNil))))) (mC (.int 1)) [2]) (mLst mNil)))) sNx)
  (sSeq (sIf (mT (mOp m_is (mVar 1) (mC .non))) (sRet (mOp m_is (mVar 0) (mC .non))) sNx)
  (sSeq (sIf (mT (mCall m_isi (mCons (mVar 1) (mCons (mC (.ty "bool")) mNil)))) (sRet (mIfE (mT (mVar 1)) (mOp m_is (mVar 0) (mC (.bl true))) (mOp m_is (mVar 0) (mC (.bl false))))) sNx)
  (sSeq (sIf (mT (mCall m_isi (mCons (mVar 1) (mCons (mC (.ty "int")) mNil)))) (sRet (mAndV (mCall m_isi (mCons (mVar 0) (mCons (mC (.ty "int")) mNil))) (mAndV (mNotV (mCall m_isi (mCons (mVar 0) (mCons (mC (.ty "bool")) mNil)))) (mOp m_eq (mCall m_int (mCons (mVar 0) mNil)) (mVar 1))))) sNx)
  (sRet (mAndV (mCall m_isi (mCons (mVar 0) (mCons (mC (.ty "str")) mNil))) (mOp m_eq mBad (mVar 1))))))))
def f__law_same : Nat → List D → Sto → R D
  | 0 => fun _ _ => .bad
  | k + 1 => fnD 3 (m__law_same (f__law_same k))
def c__law_same : List D → Sto → R D := f__law_same 8
/-- data that _law_same can tell alike: no texts, not too deep -/
def okS : Nat → D → Bool
  | _, .non => true
  | _, .bl _ => true
  | _, .int _ => true
  | k + 1, .tup ds => decide (ds.length ≤ 200000) && ds.all (okS k)
  | k + 1, .fzl ds => decide (ds.length ≤ 200000) && ds.all (okS k)
  | _, _ => false
theorem same_lc {k : Nat} {x : D} {ds : List D} {S : Sto} (hx : x = .tup ds ∨ x = .fzl ds) (ih : ∀ d ∈ ds, f__law_same k [d, d] S = .ok (.bl true) S) (hl : ds.length ≤ 200000) :
    lcD (gN 2) (mNot (mT (mFn 2 (f__law_same k) (mCons (mOp m_ix (mVar 0) (mVar 2)) (mCons (mOp m_ix (mVar 1) (mVar 2)) mNil))))) (mC (.int 1)) (fun _ => true) [some x, some x, none] [2] (rangeD 0 ds.length) [] S = .ok [] S := by
  have e := lc_pure (g := gN 2) (t := mNot (mT (mFn 2 (f__law_same k) (mCons (mOp m_ix (mVar 0) (mVar 2)) (mCons (mOp m_ix (mVar 1) (mVar 2)) mNil))))) (e := mC (.int 1)) (env := [some x, some x, none]) (vs := [2]) (S := S)
    (fun d => [some x, some x, some d]) (fun _ => false) (fun _ => .int 1) (rangeD 0 ds.length) [] (by rw [rangeD_len]; simp [sizeLine]; omega) (fun d hd => by
      obtain ⟨i, hi, rfl⟩ := mem_rangeD.mp hd
      have hg : ds[i]? = some ds[i] := List.getElem?_eq_getElem hi
      have ha : L2.atI ds (0 + (i : Nat)) = some ds[i] := by rw [Int.zero_add]; exact atI_nat hg
      have hx' : m_ix x (.int (0 + (i : Nat))) S = .ok ds[i] S := by
        rcases hx with rfl | rfl
        · exact e_ixT ha
        · exact e_ixF ha
      refine ⟨rfl, ?_, fun q => nomatch q⟩
      simp at hx' ⊢
      simp [hx', ih ds[i] (List.getElem_mem hi)])
  rw [e]
  simp
theorem same_flat (k : Nat) (x : D) (S : Sto) (h : x = .non ∨ (∃ b, x = .bl b) ∨ ∃ i, x = .int i) : f__law_same (k + 1) [x, x] S = .ok (.bl true) S := by
  show fnD 3 (m__law_same (f__law_same k)) _ S = _
  rcases h with rfl | ⟨b, rfl⟩ | ⟨i, rfl⟩
  · simp [fnD, m__law_same, runFl, o_seq, isNon]
  · cases b <;> simp [fnD, m__law_same, runFl, o_seq, isNon]
  · simp [fnD, m__law_same, runFl, o_seq, isNon]
theorem same_refl (k : Nat) : ∀ (x : D) (S : Sto), okS k x = true → f__law_same (k + 1) [x, x] S = .ok (.bl true) S := by
  induction k with
  | zero =>
    intro x S h
    cases x with
    | non => exact same_flat 0 _ S (.inl rfl)
    | bl b => exact same_flat 0 _ S (.inr (.inl ⟨b, rfl⟩))
    | int i => exact same_flat 0 _ S (.inr (.inr ⟨i, rfl⟩))
    | _ => exact (Bool.false_ne_true h).elim
  | succ k ih =>
    intro x S h
    cases x with
    | non => exact same_flat _ _ S (.inl rfl)
    | bl b => exact same_flat _ _ S (.inr (.inl ⟨b, rfl⟩))
    | int i => exact same_flat _ _ S (.inr (.inr ⟨i, rfl⟩))
    | tup ds =>
      rw [okS] at h
      simp at h
      have hs : smallI (ds.length : Int) := ⟨by omega, by omega⟩
      have e := same_lc (k := k + 1) (S := S) (.inl rfl) (fun d hd => ih d S (h.2 d hd)) h.1
      show fnD 3 (m__law_same (f__law_same (k + 1))) _ S = _
      simp [fnD, m__law_same, runFl, o_seq, o_lc, e_r1 hs, e]
    | fzl ds =>
      rw [okS] at h
      simp at h
      have hs : smallI (ds.length : Int) := ⟨by omega, by omega⟩
      have e := same_lc (k := k + 1) (S := S) (.inr rfl) (fun d hd => ih d S (h.2 d hd)) h.1
      show fnD 3 (m__law_same (f__law_same (k + 1))) _ S = _
      simp [fnD, m__law_same, runFl, o_seq, o_lc, e_r1 hs, e]
    | _ => exact (Bool.false_ne_true h).elim
theorem same_eq {x : D} (S : Sto) (h : okS 7 x = true) : c__law_same [x, x] S = .ok (.bl true) S := same_refl 7 x S h
def m__law_roll : SM :=
  (sSeq (sIf (mT (mOp m_gt (mOp m_ix (mVar 0) (mC (.int 0))) (mC (.int 0)))) (sSeq (sAsg (mOp m_mod (mCall m_int (mCons (mOp m_ix (mVar 0) (mC (.int 0))) mNil)) (mVar 1)) (gN 2))
  (sSeq (sAsg (mOp m_fdiv (mOp m_ix (mVar 0) (mC (.int 0))) (mVar 1)) (gSubM (mVar 0) (mC (.int 0)) m_setL))
  (sRet (mVar 2)))) sNx)
  (sSeq (sAsg (mOp m_mod (mCall m_int (mCons (mOp m_add (mOp m_mul (mOp m_ix (mVar 0) (mC (.int 1))) (mC (.int 32005))) (mC (.int 5471))) mNil)) (mC (.int 2147483423))) (gSubM (mVar 0) (mC (.int 1)) m_setL))
  (sSeq (sAsg (mOp m_mod (mCall m_int (mCons (mOp m_mul (mOp m_ix (mVar 0) (mC (.int 1))) (mOp m_add (mOp m_ix (mVar 0) (mC (.int 1))) (mC (.int 1301)))) mNil)) (mC (.int 2147483587))) (gN 3))
  (sRet (mOp m_mod (mCall m_int (mCons (mOp m_fdiv (mVar 3) (mC (.int 2069))) mNil)) (mVar 1))))))
def c__law_roll : List D → Sto → R D := fnD 4 m__law_roll
theorem roll_run {n : Nat} {S : Sto} {o : O} {many : Int} (hc : S[n]? = some o) (g : CupO o) (h0 : 0 < many) (h1 : many < 1073741824) :
    Run (c__law_roll [.loc n, .int many] S) fun d S' => ∃ r o', d = .int r ∧ 0 ≤ r ∧ r < many ∧ CupO o' ∧ S' = S.set n o' := by
  obtain ⟨x, y, rfl, hx, hy, hy2⟩ := g
  have i0 : L2.atI [D.int x, D.int y] 0 = some (.int x) := rfl
  have i1 : L2.atI [D.int x, D.int y] 1 = some (.int y) := rfl
  have hn : n < S.length := (List.getElem?_eq_some_iff.mp hc).1
  have j0 : ixN [D.int x, D.int y].length 0 = some 0 := rfl
  have j1 : ixN [D.int x, D.int y].length 1 = some 1 := rfl
  have b1 : 0 ≤ x % many := Int.emod_nonneg _ (by omega)
  have b2 : x % many < many := Int.emod_lt_of_pos _ h0
  refine run_fn (run_seq ?_)
  simp [e_ixL hc i0]
  by_cases c : 0 < x
  · simp [c]
    refine run_seq ?_
    simp [o_seq, e_ixL hc i0, e_mod h0, e_fdiv h0 h1, e_setL hc j0]
    exact ⟨b1, b2, _, ⟨x / many, y, rfl, Int.ediv_nonneg hx (by omega), hy, hy2⟩, rfl⟩
  · simp [c]
    refine run_seq ?_
    have hc2 : ∀ z : Int, (S.set n (.lst [.int x, .int z]))[n]? = some (.lst [.int x, .int z]) := fun z => List.getElem?_set_self hn
    have i2 : ∀ z : Int, L2.atI [D.int x, D.int z] 1 = some (.int z) := fun z => rfl
    simp [o_seq, e_ixL hc i1, e_mul (mulR y (by decide : -(2 ^ 64) < (32005 : Int) ∧ (32005 : Int) < 2 ^ 64)), e_mod, e_setL hc j1]
    generalize hz : (y * 32005 + 5471) % 2147483423 = z
    have hz0 : 0 ≤ z := by omega
    have hz1 : z < 2147483423 := by omega
    simp [e_ixL (hc2 z) (i2 z), e_mul (mulR z (show -(2 ^ 64) < z + 1301 ∧ z + 1301 < 2 ^ 64 by omega)), e_mod h0, e_mod, e_fdiv]
    exact ⟨Int.emod_nonneg _ (by omega), Int.emod_lt_of_pos _ h0, _, ⟨x, z, rfl, hx, hz0, by omega⟩, rfl⟩
def m__law_floor : SM :=
  (sSeq (sAsg (mLst mNil) (gN 4))
  (sSeq (sFor (mItA itR1 (mCons (mVar 1) mNil)) (gN 5) (sAsg (mOp m_add (mVar 4) (mLc (mItA itR1 (mCons (mVar 2) mNil)) (gN 6) (mT (mOp m_lt (mFn 2 c__law_roll (mCons (mVar 0) (mCons (mC (.int 8)) mNil))) (mVar 3))) (mTup (mCons (mVar 5) (mCons (mVar 6) mNil))) [6])) (gN 4)))
  (sRet (mIfE (mT (mOp m_ne (mVar 4) (mLst mNil))) (mCall m_tuple (mCons (mVar 4) mNil)) (mTup (mCons (mTup (mCons (mC (.int 0)) (mCons (mFn 2 c__law_roll (mCons (mVar 0) (mCons (mVar 2) mNil))) mNil))) mNil))))))
def c__law_floor : List D → Sto → R D := fnD 7 m__law_floor
def m_is_tuple_of : SM :=
  (sRet (mAndV (mCall m_isi (mCons (mVar 0) (mCons (mC (.ty "tuple")) mNil))) (mChain m_le m_le (mVar 1) (mCall m_len (mCons (mVar 0) mNil)) (mVar 2))))
def c_is_tuple_of : List D → Sto → R D := fnD 3 m_is_tuple_of
theorem is_tuple_eq (d : D) (lo hi : Int) (S : Sto) (h : D.vd d = true) : c_is_tuple_of [d, .int lo, .int hi] S = .ok (.bl (tupIn lo hi d)) S := by
  unfold c_is_tuple_of fnD m_is_tuple_of
  cases d with
  | tup a =>
    by_cases c : lo ≤ (a.length : Int)
    · simp [runFl, tupIn, c]
    · simp [runFl, tupIn, c]
  | ty _ => cases h
  | glb _ => cases h
  | loc _ => cases h
  | _ => simp [runFl, tupIn]
def m_fits_whole : SM :=
  (sRet (mAndV (mCall m_isi (mCons (mVar 0) (mCons (mC (.ty "int")) mNil))) (mAndV (mNotV (mCall m_isi (mCons (mVar 0) (mCons (mC (.ty "bool")) mNil)))) (mChain m_le m_le (mVar 1) (mVar 0) (mVar 2)))))
def c_fits_whole : List D → Sto → R D := fnD 3 m_fits_whole
theorem fits_whole_eq (d : D) (lo hi : Int) (S : Sto) (h : D.vd d = true) : c_fits_whole [d, .int lo, .int hi] S = .ok (.bl (intIn lo hi d)) S := by
  unfold c_fits_whole fnD m_fits_whole
  cases d with
  | int i =>
    by_cases c : lo ≤ i
    · simp [runFl, intIn, c]
    · simp [runFl, intIn, c]
  | ty _ => cases h
  | glb _ => cases h
  | loc _ => cases h
  | _ => simp [runFl, intIn]
def m_fits_cell : SM :=
  (sRet (mAndV (mFn 3 c_is_tuple_of (mCons (mVar 0) (mCons (mC (.int 2)) (mCons (mC (.int 2)) mNil)))) (mCall m_all (mCons (mLc (mIt itAny (mVar 0)) (gN 1) tmYes (mFn 3 c_fits_whole (mCons (mVar 1) (mCons (mC (.int 0)) (mCons (mOp m_sub (mC (.int 60)) (mC (.int 1))) mNil)))) [1]) mNil))))
def c_fits_cell : List D → Sto → R D := fnD 2 m_fits_cell
def m_fits_floor : SM :=
  (sSeq (sIf (mOr (mNot (mT (mFn 3 c_is_tuple_of (mCons (mVar 0) (mCons (mC (.int 1)) (mCons (mC (.int 400)) mNil)))))) (mNot (mT (mCall m_all (mCons (mLc (mIt itAny (mVar 0)) (gN 3) tmYes (mFn 1 c_fits_cell (mCons (mVar 3) mNil)) [3]) mNil))))) (sRet (mC (.bl false))) sNx)
  (sRet (mCall m_all (mCons (mLc (mItA it_zip (mCons (mVar 0) (mCons (mSl (mVar 0) (mpSome (mC (.int 1))) mpNone) mNil))) (gT 2 (gsC (gN 1) (gsC (gN 2) gsN))) tmYes (mOp m_lt (mVar 1) (mVar 2)) [1, 2]) mNil))))
def c_fits_floor : List D → Sto → R D := fnD 4 m_fits_floor
def m_need_floor : SM :=
  (sIf (mNot (mT (mFn 1 c_fits_floor (mCons (mVar 0) mNil)))) sBad sNx)
def c_need_floor : List D → Sto → R D := fnD 1 m_need_floor
def m_box_in : SM :=
  (sSeq (sPar [1, 2] (mCons (mLc (mIt itAny (mVar 0)) (gT 2 (gsC (gN 3) (gsC (gN 4) gsN))) tmYes (mVar 3) [3, 4]) (mCons (mLc (mIt itAny (mVar 0)) (gT 2 (gsC (gN 3) (gsC (gN 4) gsN))) tmYes (mVar 4) [3, 4]) mNil)))
  (sRet (mTup (mCons (mCall m_min (mCons (mVar 1) mNil)) (mCons (mCall m_min (mCons (mVar 2) mNil)) (mCons (mCall m_max (mCons (mVar 1) mNil)) (mCons (mCall m_max (mCons (mVar 2) mNil)) mNil)))))))
def c_box_in : List D → Sto → R D := fnD 5 m_box_in
def m_box : SM :=
  (sSeq (sExpr (mFn 1 c_need_floor (mCons (mVar 0) mNil)))
  (sRet (mFn 1 c_box_in (mCons (mVar 0) mNil))))
def c_box : List D → Sto → R D := fnD 1 m_box
def m_moved_in : SM :=
  (sRet (mCall m_tuple (mCons (mLc (mIt itAny (mVar 0)) (gT 2 (gsC (gN 3) (gsC (gN 4) gsN))) tmYes (mTup (mCons (mOp m_add (mVar 3) (mVar 1)) (mCons (mOp m_add (mVar 4) (mVar 2)) mNil))) [3, 4]) mNil)))
def c_moved_in : List D → Sto → R D := fnD 5 m_moved_in
def m_moved : SM :=
  (sSeq (sExpr (mFn 1 c_need_floor (mCons (mVar 0) mNil)))
  (sSeq (sAsg (mFn 1 c_box_in (mCons (mVar 0) mNil)) (gT 4 (gsC (gN 3) (gsC (gN 4) (gsC (gN 5) (gsC (gN 6) gsN))))))
  (sSeq (sIf (mOr (mNot (mT (mFn 3 c_fits_whole (mCons (mVar 1) (mCons (mUn m_neg (mVar 3)) (mCons (mOp m_sub (mOp m_sub (mC (.int 60)) (mC (.int 1))) (mVar 5)) mNil)))))) (mNot (mT (mFn 3 c_fits_whole (mCons (mVar 2) (mCons (mUn m_neg (mVar 4)) (mCons (mOp m_sub (mOp m_sub (mC (.int 60)) (mC (.int 1))) (mVar 6)) mNil))))))) sBad sNx)
  (sRet (mFn 3 c_moved_in (mCons (mVar 0) (mCons (mVar 1) (mCons (mVar 2) mNil))))))))
def c_moved : List D → Sto → R D := fnD 7 m_moved
def m_near_in : SM :=
  (sSeq (sAsg (mVar 0) (gT 2 (gsC (gN 1) (gsC (gN 2) gsN))))
  (sRet (mLst (mCons (mTup (mCons (mOp m_sub (mVar 1) (mC (.int 1))) (mCons (mVar 2) mNil))) (mCons (mTup (mCons (mVar 1) (mCons (mOp m_sub (mVar 2) (mC (.int 1))) mNil))) (mCons (mTup (mCons (mVar 1) (mCons (mOp m_add (mVar 2) (mC (.int 1))) mNil))) (mCons (mTup (mCons (mOp m_add (mVar 1) (mC (.int 1))) (mCons (mVar 2) mNil))) mNil)))))))
def c_near_in : List D → Sto → R D := fnD 3 m_near_in
def m_sides_in : SM :=
  (sSeq (sAsg (mCall m_dictQ (mCons (mLc (mIt itAny (mVar 0)) (gN 2) tmYes (mTup (mCons (mVar 2) (mCons (mC (.bl true)) mNil))) [2]) mNil)) (gN 1))
  (sRet (mCall m_sum (mCons (mLc (mIt itAny (mVar 0)) (gN 2) tmYes (mCall m_len (mCons (mLc (mIt itAny (mFn 1 c_near_in (mCons (mVar 2) mNil))) (gN 3) (mT (mOp m_notinQ (mVar 3) (mVar 1))) (mC (.int 1)) [3]) mNil)) [2]) mNil))))
def c_sides_in : List D → Sto → R D := fnD 4 m_sides_in
def m_rim_many : SM :=
  (sSeq (sExpr (mFn 1 c_need_floor (mCons (mVar 0) mNil)))
  (sRet (mFn 1 c_sides_in (mCons (mVar 0) mNil))))
def c_rim_many : List D → Sto → R D := fnD 1 m_rim_many
def m_side_pairs : SM :=
  (sSeq (sExpr (mFn 1 c_need_floor (mCons (mVar 0) mNil)))
  (sRet (mOp m_fdiv (mOp m_sub (mOp m_mul (mC (.int 4)) (mCall m_len (mCons (mVar 0) mNil))) (mFn 1 c_sides_in (mCons (mVar 0) mNil))) (mC (.int 2)))))
def c_side_pairs : List D → Sto → R D := fnD 1 m_side_pairs
def m_blocks_in : SM :=
  (sSeq (sAsg (mCall m_dictQ (mCons (mLc (mIt itAny (mVar 0)) (gN 5) tmYes (mTup (mCons (mVar 5) (mCons (mC (.bl true)) mNil))) [5]) mNil)) (gN 1))
  (sSeq (sAsg (mC (.int 0)) (gN 2))
  (sSeq (sFor (mIt itAny (mVar 0)) (gT 2 (gsC (gN 3) (gsC (gN 4) gsN))) (sIf (mAnd (mT (mOp m_inQ (mTup (mCons (mVar 3) (mCons (mOp m_add (mVar 4) (mC (.int 1))) mNil))) (mVar 1))) (mAnd (mT (mOp m_inQ (mTup (mCons (mOp m_add (mVar 3) (mC (.int 1))) (mCons (mVar 4) mNil))) (mVar 1))) (mT (mOp m_inQ (mTup (mCons (mOp m_add (mVar 3) (mC (.int 1))) (mCons (mOp m_add (mVar 4) (mC (.int 1))) mNil))) (mVar 1))))) (sAsg (mOp m_add (mVar 2) (mC (.int 1))) (gN 2)) sNx))
  (sRet (mVar 2)))))
def c_blocks_in : List D → Sto → R D := fnD 6 m_blocks_in
def m_blocks : SM :=
  (sSeq (sExpr (mFn 1 c_need_floor (mCons (mVar 0) mNil)))
  (sRet (mFn 1 c_blocks_in (mCons (mVar 0) mNil))))
def c_blocks : List D → Sto → R D := fnD 1 m_blocks
def m_parts_in : SM :=
  (sSeq (sPar [2, 3] (mCons (mCall m_dictQ (mCons (mLc (mIt itAny (mVar 0)) (gN 1) tmYes (mTup (mCons (mVar 1) (mCons (mC (.bl true)) mNil))) [1]) mNil)) (mCons (mLstM mNil) mNil)))
  (sSeq (sFor (mIt itAny (mCall m_sortU (mCons (mVar 0) mNil))) (gN 1) (sIf (mT (mOp m_inQ (mVar 1) (mVar 2))) (sSeq (sDel (mVar 2) (mVar 1))
  (sSeq (sPar [4, 5] (mCons (mLstM (mCons (mVar 1) mNil)) (mCons (mLstM (mCons (mVar 1) mNil)) mNil)))
  (sSeq (whileD (mT (mOp m_ne (mVar 5) (mLst mNil))) (sFor (mIt itAny (mFn 1 c_near_in (mCons (mMeth "list" m_pop (mVar 5) mNil) mNil))) (gN 6) (sIf (mT (mOp m_inQ (mVar 6) (mVar 2))) (sSeq (sDel (mVar 2) (mVar 6))
  (sSeq (sExpr (mMeth "list" m_append (mVar 4) (mCons (mVar 6) mNil)))
  (sExpr (mMeth "list" m_append (mVar 5) (mCons (mVar 6) mNil))))) sNx)) 402)
  (sExpr (mMeth "list" m_append (mVar 3) (mCons (mCall m_sortU (mCons (mVar 4) mNil)) mNil)))))) sNx))
  (sRet (mVar 3))))
def c_parts_in : List D → Sto → R D := fnD 7 m_parts_in
def m_parts : SM :=
  (sSeq (sExpr (mFn 1 c_need_floor (mCons (mVar 0) mNil)))
  (sRet (mCall m_tuple (mCons (mLc (mIt itAny (mFn 1 c_parts_in (mCons (mVar 0) mNil))) (gN 1) tmYes (mCall m_tuple (mCons (mVar 1) mNil)) [1]) mNil))))
def c_parts : List D → Sto → R D := fnD 2 m_parts
def m__law_right : SM :=
  (sSeq (sAsg (mOp m_add (mCall m_len (mCons (mLc (mIt itAny (mVar 0)) (gT 2 (gsC (gN 1) (gsC (gN 2) gsN))) (mT (mOp m_in (mTup (mCons (mOp m_add (mVar 1) (mC (.int 1))) (mCons (mVar 2) mNil))) (mVar 0))) (mC (.int 1)) [1, 2]) mNil)) (mCall m_len (mCons (mLc (mIt itAny (mVar 0)) (gT 2 (gsC (gN 1) (gsC (gN 2) gsN))) (mT (mOp m_in (mTup (mCons (mVar 1) (mCons (mOp m_add (mVar 2) (mC (.int 1))) mNil))) (mVar 0))) (mC (.int 1)) [1, 2]) mNil))) (gN 3))
  (sSeq (sAsg (mC (.int 0)) (gN 4))
  (sSeq (sFor (mIt itAny (mVar 0)) (gT 2 (gsC (gN 1) (gsC (gN 2) gsN))) (sSeq (sAsg (mLst (mCons (mTup (mCons (mVar 1) (mCons (mOp m_add (mVar 2) (mC (.int 1))) mNil))) (mCons (mTup (mCons (mOp m_add (mVar 1) (mC (.int 1))) (mCons (mVar 2) mNil))) (mCons (mTup (mCons (mOp m_add (mVar 1) (mC (.int 1))) (mCons (mOp m_add (mVar 2) (mC (.int 1))) mNil))) mNil)))) (gN 5))
  (sAsg (mOp m_add (mVar 4) (mIfE (mT (mOp m_eq (mLc (mIt itAny (mVar 5)) (gN 9) (mT (mOp m_notin (mVar 9) (mVar 0))) (mC (.int 1)) [9]) (mLst mNil))) (mC (.int 1)) (mC (.int 0)))) (gN 4))))
  (sSeq (sPar [6, 7] (mCons (mLc (mIt itAny (mVar 0)) (gT 2 (gsC (gN 1) (gsC (gN 2) gsN))) tmYes (mVar 1) [1, 2]) (mCons (mLc (mIt itAny (mVar 0)) (gT 2 (gsC (gN 1) (gsC (gN 2) gsN))) tmYes (mVar 2) [1, 2]) mNil)))
  (sSeq (sAsg (mLst (mCons (mFn 1 c_rim_many (mCons (mVar 0) mNil)) (mCons (mFn 1 c_side_pairs (mCons (mVar 0) mNil)) (mCons (mFn 1 c_blocks (mCons (mVar 0) mNil)) (mCons (mFn 1 c_box (mCons (mVar 0) mNil)) mNil))))) (gN 8))
  (sSeq (sIf (mNot (mT (mFn 2 c__law_same (mCons (mVar 8) (mCons (mLst (mCons (mOp m_sub (mOp m_mul (mC (.int 4)) (mCall m_len (mCons (mVar 0) mNil))) (mOp m_mul (mC (.int 2)) (mVar 3))) (mCons (mVar 3) (mCons (mVar 4) (mCons (mTup (mCons (mCall m_min (mCons (mVar 6) mNil)) (mCons (mCall m_min (mCons (mVar 7) mNil)) (mCons (mCall m_max (mCons (mVar 6) mNil)) (mCons (mCall m_max (mCons (mVar 7) mNil)) mNil))))) mNil))))) mNil))))) (sRet (mC (.bl false))) sNx)
  (sRet (mAndV (mOp m_lt (mVar 4) (mCall m_len (mCons (mVar 0) mNil))) (mOp m_ge (mVar 3) (mOp m_sub (mCall m_len (mCons (mVar 0) mNil)) (mCall m_len (mCons (mFn 1 c_parts (mCons (mVar 0) mNil)) mNil))))))))))))
def c__law_right : List D → Sto → R D := fnD 10 m__law_right
def m__law_some : SM :=
  (sRet (mOp m_ix (mVar 1) (mFn 2 c__law_roll (mCons (mVar 0) (mCons (mCall m_len (mCons (mVar 1) mNil)) mNil)))))
def c__law_some : List D → Sto → R D := fnD 2 m__law_some
theorem some_run {n : Nat} {S : Sto} {o : O} {ds : List D} {things : D} (hc : S[n]? = some o) (g : CupO o) (ht : things = .fzl ds ∨ things = .tup ds) (h0 : ds ≠ []) (h1 : ds.length < 1073741824) :
    Run (c__law_some [.loc n, things] S) fun d S' => ∃ o', d ∈ ds ∧ CupO o' ∧ S' = S.set n o' := by
  have hl : 0 < ds.length := List.length_pos_iff.mpr h0
  refine run_fn ?_
  have q : ∀ (r : Int) (S' : Sto), 0 ≤ r → r < ds.length → ∃ d, m_ix things (.int r) S' = .ok d S' ∧ d ∈ ds := fun r S' h0 h1 => by
    have hr : r.toNat < ds.length := by omega
    have ha : L2.atI ds r = some ds[r.toNat] := by
      have := atI_nat (xs := ds) (j := r.toNat) (v := ds[r.toNat]) (List.getElem?_eq_getElem hr)
      rwa [Int.toNat_of_nonneg h0] at this
    rcases ht with rfl | rfl
    · exact ⟨_, e_ixF ha, List.getElem_mem hr⟩
    · exact ⟨_, e_ixT ha, List.getElem_mem hr⟩
  have hlen : m_len [things] S = .ok (.int ds.length) S := by rcases ht with rfl | rfl <;> rfl
  simp [m__law_some, hlen]
  refine (roll_run (many := ds.length) hc g (by omega) (by omega)).mono fun d S' ⟨r, o', e, r0, r1, g', e2⟩ => ?_
  subst e e2
  obtain ⟨d, e, hd⟩ := q r (S.set n o') r0 r1
  rw [e]
  exact Run.ok ⟨hd, o', g', rfl⟩
def c__law_grown : List D → Sto → R D := fun _ _ => .bad
def m_law : SM :=
  (sSeq (sAsg (mFn 1 c__law_cup (mCons (mVar 0) mNil)) (gN 1))
  (sSeq (sFor (mItA itR1 (mCons (mC (.int 3)) mNil)) (gN 2) (sSeq (sAsg (mFn 4 c__law_floor (mCons (mVar 1) (mCons (mOp m_add (mC (.int 1)) (mFn 2 c__law_roll (mCons (mVar 1) (mCons (mC (.int 7)) mNil)))) (mCons (mOp m_add (mC (.int 1)) (mFn 2 c__law_roll (mCons (mVar 1) (mCons (mC (.int 7)) mNil)))) (mCons (mFn 2 c__law_some (mCons (mVar 1) (mCons (mLst (mCons (mC (.int 3)) (mCons (mC (.int 5)) (mCons (mC (.int 6)) (mCons (mC (.int 7)) mNil))))) mNil))) mNil))))) (gN 3))
  (sSeq (sIf (mNot (mT (mFn 1 c__law_right (mCons (mVar 3) mNil)))) (sRet (mC (.bl false))) sNx)
  (sSeq (sAsg (mFn 1 c_box (mCons (mVar 3) mNil)) (gT 4 (gsC (gN 4) (gsC (gN 5) (gsC (gN 6) (gsC (gN 7) gsN))))))
  (sSeq (sAsg (mTup (mCons (mOp m_sub (mFn 2 c__law_roll (mCons (mVar 1) (mCons (mOp m_add (mOp m_sub (mC (.int 60)) (mVar 6)) (mVar 4)) mNil))) (mVar 4)) (mCons (mOp m_sub (mFn 2 c__law_roll (mCons (mVar 1) (mCons (mOp m_add (mOp m_sub (mC (.int 60)) (mVar 7)) (mVar 5)) mNil))) (mVar 5)) mNil))) (gT 2 (gsC (gN 8) (gsC (gN 9) gsN))))
  (sSeq (sAsg (mFn 3 c_moved (mCons (mVar 3) (mCons (mVar 8) (mCons (mVar 9) mNil)))) (gN 10))
  (sSeq (sIf (mOr (mNot (mT (mFn 2 c__law_same (mCons (mVar 10) (mCons (mCall m_tuple (mCons (mLc (mIt itAny (mVar 3)) (gT 2 (gsC (gN 11) (gsC (gN 12) gsN))) tmYes (mTup (mCons (mOp m_add (mVar 11) (mVar 8)) (mCons (mOp m_add (mVar 12) (mVar 9)) mNil))) [11, 12]) mNil)) mNil))))) (mNot (mT (mFn 2 c__law_same (mCons (mFn 3 c_moved (mCons (mVar 10) (mCons (mUn m_neg (mVar 8)) (mCons (mUn m_neg (mVar 9)) mNil)))) (mCons (mVar 3) mNil)))))) (sRet (mC (.bl false))) sNx)
  (sSeq (sAsg (mLc (mIt itAny (mTup (mCons (mVar 3) (mCons (mVar 10) mNil)))) (gN 19) tmYes (mLst (mCons (mFn 1 c_rim_many (mCons (mVar 19) mNil)) (mCons (mFn 1 c_side_pairs (mCons (mVar 19) mNil)) (mCons (mFn 1 c_blocks (mCons (mVar 19) mNil)) (mCons (mCall m_len (mCons (mFn 1 c_parts (mCons (mVar 19) mNil)) mNil)) mNil))))) [19]) (gN 13))
  (sIf (mT (mOp m_ne (mOp m_ix (mVar 13) (mC (.int 0))) (mOp m_ix (mVar 13) (mC (.int 1))))) (sRet (mC (.bl false))) sNx)))))))))
  (sSeq (sPar [14, 15] (mCons (mOp m_add (mC (.int 1)) (mFn 2 c__law_roll (mCons (mVar 1) (mCons (mC (.int 5)) mNil)))) (mCons (mLst mNil) mNil)))
  (sSeq (sFor (mItA itR1 (mCons (mOp m_sub (mOp m_mul (mC (.int 4)) (mVar 14)) (mC (.int 1))) mNil)) (gN 11) (sFor (mItA itR1 (mCons (mOp m_sub (mOp m_mul (mC (.int 4)) (mVar 14)) (mC (.int 1))) mNil)) (gN 12) (sSeq (sAsg (mCall m_min4 (mCons (mVar 11) (mCons (mVar 12) (mCons (mOp m_sub (mOp m_sub (mOp m_mul (mC (.int 4)) (mVar 14)) (mC (.int 2))) (mVar 11)) (mCons (mOp m_sub (mOp m_sub (mOp m_mul (mC (.int 4)) (mVar 14)) (mC (.int 2))) (mVar 12)) mNil))))) (gN 16))
  (sAsg (mOp m_add (mVar 15) (mIfE (mT (mOp m_eq (mOp m_mod (mCall m_int (mCons (mVar 16) mNil)) (mC (.int 2))) (mC (.int 0)))) (mLst (mCons (mTup (mCons (mVar 11) (mCons (mVar 12) mNil))) mNil)) (mLst mNil))) (gN 15)))))
  (sSeq (sAsg (mCall m_tuple (mCons (mCall m_sortQ (mCons (mVar 15) mNil)) mNil)) (gN 17))
  (sSeq (sAsg (mCall m_tuple (mCons (mLc (mIt itAny (mVar 17)) (gT 2 (gsC (gN 11) (gsC (gN 12) gsN))) tmYes (mTup (mCons (mOp m_add (mVar 11) (mC (.int 40))) (mCons (mOp m_add (mVar 12) (mC (.int 40))) mNil))) [11, 12]) mNil)) (gN 18))
  (sSeq (sIf (mOr (mT (mOp m_gt (mCall m_len (mCons (mVar 17) mNil)) (mC (.int 400)))) (mT (mOp m_gt (mOp m_ix (mOp m_ix (mVar 18) (mUn m_neg (mC (.int 1)))) (mC (.int 0))) (mC (.int 59))))) (sRet (mFn 1 c__law_right (mCons (mFn 2 c__law_grown (mCons (mVar 1) (mCons (mC (.int 30)) mNil))) mNil))) sNx)
  (sRet (mFn 2 c__law_same (mCons (mLst (mCons (mCall m_len (mCons (mFn 1 c_parts (mCons (mVar 17) mNil)) mNil)) (mCons (mFn 1 c_side_pairs (mCons (mVar 17) mNil)) (mCons (mFn 3 c_moved (mCons (mVar 17) (mCons (mC (.int 40)) (mCons (mC (.int 40)) mNil)))) mNil)))) (mCons (mLst (mCons (mVar 14) (mCons (mCall m_len (mCons (mVar 17) mNil)) (mCons (mVar 18) mNil)))) mNil)))))))))))
def c_law : List D → Sto → R D := fnD 20 m_law
theorem var_ne {i j : Nat} {env : Env} {v : Option D} {S : Sto} (h : j ≠ i) : mVar i (env.set j v) S = mVar i env S := by
  unfold mVar
  rw [List.getElem?_set_ne h]
theorem var_eq {i : Nat} {env : Env} {d : D} {S : Sto} (h : i < env.length) : mVar i (env.set i (some d)) S = .ok d S := by
  unfold mVar
  rw [List.getElem?_set_self h]
abbrev At (env : Env) (i : Nat) (d : D) : Prop := ∀ S : Sto, mVar i env S = .ok d S
def Oth (vs : List Nat) (env env' : Env) : Prop := env'.length = env.length ∧ ∀ i, i ∉ vs → env'[i]? = env[i]?
theorem Oth.refl (vs : List Nat) (env : Env) : Oth vs env env := ⟨rfl, fun _ _ => rfl⟩
theorem Oth.set {vs : List Nat} {env env' : Env} {v : Nat} {x : Option D} (h : Oth vs env env') (hv : v ∈ vs) : Oth vs env (env'.set v x) :=
  ⟨by rw [List.length_set, h.1], fun i hi => by rw [List.getElem?_set_ne (fun e : v = i => hi (by rw [← e]; exact hv)), h.2 i hi]⟩
theorem Oth.trans {vs : List Nat} {a b c : Env} (h : Oth vs a b) (h2 : Oth vs b c) : Oth vs a c := ⟨h2.1.trans h.1, fun i hi => (h2.2 i hi).trans (h.2 i hi)⟩
theorem Oth.at {vs : List Nat} {env env' : Env} {i : Nat} {d : D} (h : Oth vs env env') (hi : i ∉ vs) (g : At env i d) : At env' i d := fun S => by
  have := g S
  unfold mVar at this ⊢
  rw [h.2 i hi]
  exact this
theorem At.ne {env : Env} {i j : Nat} {d : D} {v : Option D} (g : At env i d) (h : j ≠ i) : At (env.set j v) i d := fun S => (var_ne h).trans (g S)
theorem At.eq {env : Env} {i : Nat} {d : D} (h : i < env.length) : At (env.set i (some d)) i d := fun S => var_eq h
theorem lc_mapL {α : Type} {i : Nat} {e : EM} {env : Env} {vs : List Nat} {S : Sto} (f g : α → D) : ∀ (xs : List α) (acc : List D), acc.length + xs.length ≤ sizeLine → (∀ x ∈ xs, e ((wipeE env vs).set i (some (f x))) S = .ok (g x) S) →
    lcD (gN i) tmYes e (fun _ => true) env vs (xs.map f) acc S = .ok (acc ++ xs.map g) S
  | [], acc, _, _ => by simp [lcD]
  | x :: xs, acc, hz, h => by
    rw [List.length_cons] at hz
    rw [List.map_cons]
    unfold lcD
    rw [if_pos rfl, o_gN, bind_ok, o_yes, bind_ok, if_pos rfl, h x (List.mem_cons_self ..), bind_ok, if_pos (by omega), lc_mapL f g xs (acc ++ [g x]) (by rw [List.length_append]; simp; omega) fun y hy => h y (List.mem_cons_of_mem _ hy)]
    simp
theorem lc_mapL' {α : Type} {i : Nat} {e : EM} {env : Env} {vs : List Nat} {S : Sto} (f g : α → D) (xs : List α) (hz : xs.length ≤ sizeLine) (h : ∀ x ∈ xs, e ((wipeE env vs).set i (some (f x))) S = .ok (g x) S) :
    lcD (gN i) tmYes e (fun _ => true) env vs (xs.map f) [] S = .ok (xs.map g) S := by
  rw [lc_mapL f g xs [] (by simpa using hz) h, List.nil_append]
theorem fits_cell_eq {p : Cell} (S : Sto) (h : (0 ≤ p.1 ∧ p.1 ≤ 59) ∧ (0 ≤ p.2 ∧ p.2 ≤ 59)) : c_fits_cell [pD p] S = .ok (.bl true) S := by
  have e1 := is_tuple_eq (pD p) 2 2 S rfl
  have e2 : tupIn 2 2 (pD p) = true := rfl
  rw [e2] at e1
  have f1 := fits_whole_eq (.int p.1) 0 59 S rfl
  have f2 := fits_whole_eq (.int p.2) 0 59 S rfl
  have b1 : intIn 0 59 (.int p.1) = true := by simp [intIn, h.1.1, h.1.2]
  have b2 : intIn 0 59 (.int p.2) = true := by simp [intIn, h.2.1, h.2.2]
  rw [b1] at f1
  rw [b2] at f2
  have e3 := lc_map (i := 1) (e := (mFn 3 c_fits_whole (mCons (mVar 1) (mCons (mC (.int 0)) (mCons (mOp m_sub (mC (.int 60)) (mC (.int 1))) mNil))))) (env := [some (pD p), none]) (vs := [1]) (S := S) (fun _ => .bl true) [.int p.1, .int p.2] sizeLine2 (fun d hd => by
    simp at hd
    rcases hd with rfl | rfl
    · simp [wipeE, f1]
    · simp [wipeE, f2])
  unfold c_fits_cell fnD m_fits_cell
  have e4 : m_all [.fzl [.bl true, .bl true]] S = .ok (.bl true) S := rfl
  have e5 : itAny (pD p) S = .ok ⟨[.int p.1, .int p.2], fun _ => true⟩ S := rfl
  simp only [List.map_cons, List.map_nil] at e3
  simp [runFl, e1, o_lc, e5, e3, e4]
theorem zip_srt : ∀ {f : List Cell}, f.Pairwise ltC → ∀ x ∈ f.zip (f.drop 1), ltC x.1 x.2
  | [], _, x, hx => by simp at hx
  | [a], _, x, hx => by simp at hx
  | a :: b :: r, h, x, hx => by
    obtain ⟨h1, h2⟩ := List.pairwise_cons.mp h
    simp at hx
    rcases hx with rfl | hx
    · exact h1 b (List.mem_cons_self ..)
    · exact zip_srt h2 x (by simpa using hx)
theorem fits_floor_eq {f : List Cell} (S : Sto) (h : Flo f) : c_fits_floor [flD f] S = .ok (.bl true) S := by
  have hl : 0 < f.length := List.length_pos_iff.mpr h.ne
  have hl4 := h.len
  have e1 := is_tuple_eq (flD f) 1 400 S (by simp [D.vd, flD])
  have e2 : tupIn 1 400 (flD f) = true := by simp [tupIn, flD]; omega
  rw [e2] at e1
  have hz : f.length ≤ sizeLine := Nat.le_trans hl4 (by decide)
  have e3 := lc_mapL' (i := 3) (e := (mFn 1 c_fits_cell (mCons (mVar 3) mNil))) (env := [some (flD f), none, none, none]) (vs := [3]) (S := S) pD (fun _ => .bl true) f hz (fun p hp => by
    have e := fits_cell_eq S (h.bd p hp)
    simp [wipeE, e])
  have e4 : m_all [.fzl (f.map fun _ => D.bl true)] S = .ok (.bl true) S := by
    rw [e_all' (fun _ => true)]
    simp
  have e5 : itAny (flD f) S = .ok ⟨f.map pD, fun _ => true⟩ S := rfl
  have e6 : m_cut (flD f) (some 1) none S = .ok (.tup ((f.map pD).drop 1)) S := by
    show R.ok (D.tup (cutL (f.map pD) (some 1) none)) S = _
    have : cutL (f.map pD) (some 1) none = (f.map pD).drop 1 := by
      unfold cutL
      have s1 : HT.sIx (f.map pD).length 0 (some 1) = 1 := by
        simp [HT.sIx]
        omega
      have s2 : HT.sIx (f.map pD).length (f.map pD).length none = (f.map pD).length := by simp [HT.sIx]
      rw [s1, s2, List.take_of_length_le (by simp)]
    rw [this]
  have e7 : it_zip [flD f, .tup ((f.map pD).drop 1)] S = .ok ⟨(f.zip (f.drop 1)).map fun x => .tup [pD x.1, pD x.2], fun _ => true⟩ S := by
    show R.ok (⟨zipD (f.map pD) ((f.map pD).drop 1), fun _ => true⟩ : Itm) S = _
    have : zipD (f.map pD) ((f.map pD).drop 1) = (f.zip (f.drop 1)).map fun x => .tup [pD x.1, pD x.2] := by
      unfold zipD
      rw [← List.map_drop, List.zip_map, List.map_map]
      rfl
    rw [this]
  have e8 := lc_mapY (tg := gT 2 (gsC (gN 1) (gsC (gN 2) gsN))) (e := mOp m_lt (mVar 1) (mVar 2)) (env := [some (flD f), none, none, none]) (vs := [1, 2]) (S := S) (fun x : Cell × Cell => .tup [pD x.1, pD x.2]) (fun _ => .bl true) (fun x => [some (flD f), some (pD x.1), some (pD x.2), none]) (f.zip (f.drop 1)) (by
      rw [List.length_zip]
      exact Nat.le_trans (Nat.min_le_left _ _) hz) (fun x hx => by
    have e := lt_pD S x.1 x.2
    rw [decide_eq_true (zip_srt h.srt x hx)] at e
    simp [wipeE, gT, gsC, gsN, e])
  have e9 : m_all [.fzl ((f.zip (f.drop 1)).map fun _ => D.bl true)] S = .ok (.bl true) S := by
    rw [e_all' (fun _ => true)]
    simp
  unfold c_fits_floor fnD m_fits_floor
  simp [-List.map_drop, -List.drop_one, -List.map_const', runFl, o_seq, o_lc, e1, e5, e3, e4, e6, e7, e8, e9]
theorem need_floor_eq {f : List Cell} (S : Sto) (h : Flo f) : c_need_floor [flD f] S = .ok .non S := by
  unfold c_need_floor fnD m_need_floor
  simp [runFl, fits_floor_eq S h]
theorem moved_in_eq (f : List Cell) (s : Cell) (S : Sto) (hz : f.length ≤ 200000) : c_moved_in [flD f, .int s.1, .int s.2] S = .ok (flD (f.map (sft s))) S := by
  have e1 := lc_mapY (tg := gT 2 (gsC (gN 3) (gsC (gN 4) gsN))) (e := (mTup (mCons (mOp m_add (mVar 3) (mVar 1)) (mCons (mOp m_add (mVar 4) (mVar 2)) mNil)))) (env := [some (flD f), some (.int s.1), some (.int s.2), none, none]) (vs := [3, 4]) (S := S) pD (fun p => pD (sft s p)) (fun p => [some (flD f), some (.int s.1), some (.int s.2), some (.int p.1), some (.int p.2)]) f (sz400 hz) (fun p hp => by
    rw [gT_pD]
    simp [wipeE]
    rfl)
  have e5 : itAny (flD f) S = .ok ⟨f.map pD, fun _ => true⟩ S := rfl
  unfold c_moved_in fnD m_moved_in
  simp [-List.map_map, runFl, o_lc, e5, e1]
  unfold flD
  rw [List.map_map]
  rfl
theorem at_snoc (S : Sto) (x : O) : (S ++ [x])[S.length]? = some x := by simp
theorem dOf_at' {S : Sto} {n : Nat} {kvs : List (List L2.Key × D)} (h : S[n]? = some (.dT kvs)) : dOf S (.loc n) = some kvs := by simp only [dOf, h]
theorem it_clD (f : List Cell) (S : Sto) : itAny (clD f) S = .ok ⟨f.map pD, fun _ => true⟩ S := rfl
theorem it_flD (f : List Cell) (S : Sto) : itAny (flD f) S = .ok ⟨f.map pD, fun _ => true⟩ S := rfl
theorem len_flD (f : List Cell) (S : Sto) : m_len [flD f] S = .ok (.int (f.length : Nat)) S := by simp [flD]
theorem valD_some {κ : Type} [DecidableEq κ] (kvs : List (κ × D)) (k : κ) : (valD kvs k).isSome = kvs.any fun kv => decide (kv.1 = k) := by
  unfold valD
  rw [Option.isSome_map]
  induction kvs with
  | nil => rfl
  | cons p r ih =>
    rw [List.find?_cons, List.any_cons]
    cases decide (p.1 = k) with
    | true => rfl
    | false => rw [Bool.false_or]; exact ih
theorem any_put {κ : Type} [DecidableEq κ] (kvs : List (κ × D)) (k j : κ) (v : D) : ((putD kvs k v).any fun kv => decide (kv.1 = j)) = (decide (k = j) || kvs.any fun kv => decide (kv.1 = j)) := by
  unfold putD
  split
  · next h =>
    rw [List.any_map]
    have : ((fun kv : κ × D => decide (kv.1 = j)) ∘ fun kv => if kv.1 = k then (kv.1, v) else kv) = fun kv => decide (kv.1 = j) := by
      funext kv
      by_cases e : kv.1 = k <;> simp [e]
    rw [this]
    by_cases e : k = j
    · subst e; rw [h]; simp
    · simp [e]
  · rw [List.any_append, Bool.or_comm]
    simp
def setD (a : List Cell) : List (List L2.Key × D) := mergeD [] (a.map fun c => (keyP c, .bl true))
theorem any_merge (c : Cell) : ∀ (a : List Cell) (kvs : List (List L2.Key × D)), ((mergeD kvs (a.map fun c => (keyP c, D.bl true))).any fun kv => decide (kv.1 = keyP c)) = ((kvs.any fun kv => decide (kv.1 = keyP c)) || decide (c ∈ a))
  | [], kvs => by simp [mergeD]
  | p :: a, kvs => by
    show ((mergeD (putD kvs (keyP p) (.bl true)) (a.map fun c => (keyP c, D.bl true))).any fun kv => decide (kv.1 = keyP c)) = _
    rw [any_merge c a, any_put]
    by_cases e : p = c
    · subst e; simp
    · have n : ¬ keyP p = keyP c := fun z => e (keyP_inj z)
      have n2 : ¬ c = p := fun z => e z.symm
      simp [n, n2]
theorem mem_setD (a : List Cell) (c : Cell) : (valD (setD a) (keyP c)).isSome = decide (c ∈ a) := by
  rw [valD_some]
  have := any_merge c a []
  simpa [setD] using this
theorem in_setD {S : Sto} {n : Nat} {a : List Cell} (h : S[n]? = some (.dT (setD a))) (c : Cell) : m_inQ (pD c) (.loc n) S = .ok (.bl (decide (c ∈ a))) S := by
  unfold m_inQ
  simp only [dOf_at' h, keyT_pD, mem_setD]
theorem dict_pairs (a : List Cell) (S : Sto) : m_dictQ [.fzl (a.map fun c => .tup [pD c, .bl true])] S = .ok (.loc S.length) (S ++ [.dT (setD a)]) := by
  have e : opAll pairKV (a.map fun c => D.tup [pD c, .bl true]) = some (a.map fun c => (keyP c, D.bl true)) := by
    induction a with
    | nil => rfl
    | cons p a ih =>
      rw [List.map_cons]
      unfold opAll
      rw [ih]
      rfl
  unfold m_dictQ
  simp only [lstOf, e]
  rfl
theorem set_at' {S : Sto} {n : Nat} {o o' : O} (h : S[n]? = some o) : (S.set n o')[n]? = some o' := by
  rw [List.getElem?_set_self (List.getElem?_eq_some_iff.mp h).1]
theorem ne_clD (f : List Cell) (S : Sto) : m_ne (clD f) (.fzl []) S = .ok (.bl (!decide (f = []))) S := by
  unfold m_ne
  rw [pdS_clD, show pdS S (.fzl []) = some (.list []) from rfl]
  cases f <;> simp [PyData.eqv, PyData.eqvAll]
/-- the cells of a row that are drawn -/
theorem row_run {n wide i : Nat} {share : Int} {S : Sto} {o : O} {env : Env} (hc : S[n]? = some o) (g : CupO o) (hw : wide ≤ 100) (hl : env.length = 7) (a0 : At env 0 (.loc n)) (a3 : At env 3 (.int share)) (a5 : At env 5 (.int (i : Nat))) :
    Run (lcD (gN 6) (mT (mOp m_lt (mFn 2 c__law_roll (mCons (mVar 0) (mCons (mC (.int 8)) mNil))) (mVar 3))) (mTup (mCons (mVar 5) (mCons (mVar 6) mNil))) (fun _ => true) env [6] (rangeD 0 wide) [] S) fun acc S' => ∃ (cs : List Cell) (o' : O), acc = cs.map pD ∧ cs.Pairwise ltC ∧ (∀ p ∈ cs, p.1 = (i : Int) ∧ 0 ≤ p.2 ∧ p.2 < (wide : Int)) ∧ cs.length ≤ wide ∧ CupO o' ∧ S' = S.set n o' := by
  have hrl : (rangeD 0 wide).length = wide := by simp [rangeD]
  refine run_lc (fun j acc S' => ∃ (cs : List Cell) (o' : O), acc = cs.map pD ∧ cs.Pairwise ltC ∧ (∀ p ∈ cs, p.1 = (i : Int) ∧ 0 ≤ p.2 ∧ p.2 < (j : Int)) ∧ cs.length ≤ j ∧ CupO o' ∧ S' = S.set n o') (by rw [hrl]; exact sz400 (by omega)) ⟨[], o, rfl, .nil, fun p hp => (nomatch hp), Nat.le_refl _, g, ?_⟩ ?_ ?_
  · obtain ⟨h1, h2⟩ := List.getElem?_eq_some_iff.mp hc
    rw [← h2]
    exact (List.set_getElem_self h1).symm
  · rintro j d acc S' hd ⟨cs, o', rfl, h1, h2, h3, g', rfl⟩
    obtain ⟨hj, rfl⟩ := rangeD_get hd
    have hj : j < wide := hj
    refine ⟨rfl, ?_⟩
    have w : ∀ v, (wipeE env [6]).set 6 v = env.set 6 v := fun v => by simp [wipeE]
    rw [o_gN, e_run_ok, w]
    have q := roll_run (n := n) (S := S.set n o') (o := o') (many := 8) (set_at' hc) g' (by omega) (by omega)
    simp [var_ne, a0 _, a3 _]
    refine q.mono ?_
    rintro d S2 ⟨r, o2, rfl, r0, r1, g2, rfl⟩
    simp
    by_cases c : r < share
    · simp [c, var_ne, var_eq, hl, a5 _]
      refine ⟨cs ++ [((i : Int), (j : Int))], by simp [pD], ?_, ?_, ?_, o2, g2, rfl⟩
      · refine List.pairwise_append.mpr ⟨h1, by simp, fun a ha b hb => ?_⟩
        rw [List.mem_singleton] at hb
        subst hb
        have := h2 a ha
        unfold ltC
        simp only
        omega
      · intro x y hp
        rcases List.mem_append.mp hp with hp | hp
        · have := h2 _ hp
          simp only at this
          omega
        · rw [List.mem_singleton] at hp
          cases hp
          omega
      · simp; omega
    · simp [c]
      exact ⟨cs, rfl, h1, fun x y hp => by have := h2 _ hp; simp only at this; omega, by omega, o2, g2, rfl⟩
  · rintro acc S' ⟨cs, o', rfl, h1, h2, h3, g', rfl⟩
    rw [hrl] at h2 h3
    exact ⟨rfl, cs, o', rfl, h1, h2, h3, g', rfl⟩
def FInv (n wide : Nat) (share : Int) (S : Sto) (i : Nat) (env : Env) (S' : Sto) : Prop := ∃ (f : List Cell) (o' : O), env.length = 7 ∧ At env 0 (.loc n) ∧ At env 2 (.int (wide : Nat)) ∧ At env 3 (.int share) ∧ At env 4 (clD f) ∧ f.Pairwise ltC ∧ (∀ p ∈ f, (0 ≤ p.1 ∧ p.1 < (i : Int)) ∧ 0 ≤ p.2 ∧ p.2 < (wide : Int)) ∧ f.length ≤ i * wide ∧ CupO o' ∧ S' = S.set n o'
def FOut (n high wide : Nat) (S : Sto) (d : D) (S' : Sto) : Prop := ∃ (f : List Cell) (o' : O), d = flD f ∧ Flo f ∧ (∀ p ∈ f, p.1 < (high : Int) ∧ p.2 < (wide : Int)) ∧ f.length ≤ high * wide ∧ CupO o' ∧ S' = S.set n o'
theorem floor_run {n high wide : Nat} {share : Int} {S : Sto} {o : O} (hc : S[n]? = some o) (g : CupO o) (hh : 1 ≤ high ∧ high ≤ 10) (hw : 1 ≤ wide ∧ wide ≤ 10) :
    Run (c__law_floor [.loc n, .int (high : Nat), .int (wide : Nat), .int share] S) fun d S' => FOut n high wide S d S' := by
  refine run_fn ?_
  unfold m__law_floor
  refine run_seq ?_
  simp
  refine run_seq ?_
  rw [o_for]
  have s1 : smallI (high : Int) := by unfold smallI; omega
  have s2 : smallI (wide : Int) := by unfold smallI; omega
  have hrl : (rangeD 0 high).length = high := by simp [rangeD]
  have hw10 : high * wide ≤ 10 * 10 := Nat.mul_le_mul hh.2 hw.2
  simp [e_r1 s1]
  refine run_for (FInv n wide share S)
    (by
      unfold FInv
      refine ⟨[], o, by simp, fun S => by simp, fun S => by simp, fun S => by simp, fun S => by simp [clD], .nil, fun p hp => (nomatch hp), by simp, g, ?_⟩
      obtain ⟨h1, h2⟩ := List.getElem?_eq_some_iff.mp hc
      rw [← h2]
      exact (List.set_getElem_self h1).symm) ?_ ?_
  · rintro i d env S' hd ⟨f, o', hl, a0, a2, a3, a4, h1, h2, h3, g', rfl⟩
    obtain ⟨hi, rfl⟩ := rangeD_get hd
    have hi : i < high := hi
    refine ⟨rfl, ?_⟩
    rw [o_gN, e_run_ok]
    simp [var_ne, a4 _, o_lc, a2 _, e_r1 s2]
    have q := row_run (n := n) (wide := wide) (i := i) (share := share) (S := S.set n o') (o := o') (env := env.set 5 (some (.int (i : Nat)))) (set_at' hc) g' (by omega) (by simp [hl]) (a0.ne (by decide)) (a3.ne (by decide)) (At.eq (by rw [hl]; decide))
    refine q.mono ?_
    rintro acc S2 ⟨cs, o2, rfl, c1, c2, c3, g2, rfl⟩
    have hlen : f.length + cs.length ≤ (i + 1) * wide := by rw [Nat.add_mul]; omega
    have hlen2 : (i + 1) * wide ≤ high * wide := Nat.mul_le_mul_right _ hi
    have ea : ∀ S, m_add (clD f) (.fzl (cs.map pD)) S = .ok (clD (f ++ cs)) S := fun S => by
      have := e_addF (a := f.map pD) (b := cs.map pD) (S := S) (by rw [List.length_map, List.length_map]; exact sz400 (by omega))
      rw [← List.map_append] at this
      exact this
    simp [ea]
    unfold FInv
    refine ⟨f ++ cs, o2, by simp [hl], fun S => by simp [var_ne, a0 _], fun S => by simp [var_ne, a2 _], fun S => by simp [var_ne, a3 _], fun S => by simp [var_eq, hl], ?_, ?_, by rw [List.length_append]; exact hlen, g2, rfl⟩
    · refine List.pairwise_append.mpr ⟨h1, c1, fun a ha b hb => ?_⟩
      have := h2 a ha
      have := c2 b hb
      unfold ltC
      omega
    · intro p hp
      rcases List.mem_append.mp hp with hp | hp
      · have := h2 _ hp
        omega
      · have := c2 _ hp
        omega
  · rintro env S' ⟨f, o', hl, a0, a2, a3, a4, h1, h2, h3, g', rfl⟩
    rw [hrl] at h2 h3
    refine ⟨rfl, ?_⟩
    simp [a4 _, ne_clD]
    by_cases c : f = []
    · subst c
      simp
      have q := roll_run (n := n) (S := S.set n o') (o := o') (many := (wide : Int)) (set_at' hc) g' (by omega) (by omega)
      simp [a0 _, a2 _]
      refine q.mono ?_
      rintro d S2 ⟨r, o2, rfl, r0, r1, g2, rfl⟩
      simp
      unfold FOut
      refine ⟨[(0, r)], o2, rfl, ⟨by simp, by simp, fun p hp => ?_, by simp⟩, ?_, ?_, g2, rfl⟩
      · rw [List.mem_singleton] at hp
        subst hp
        simp only
        omega
      · intro p hp
        rw [List.mem_singleton] at hp
        subst hp
        simp only
        omega
      · have := Nat.mul_le_mul hh.1 hw.1
        simpa using this
    · have et : ∀ S, m_tuple [clD f] S = .ok (flD f) S := fun S => rfl
      simp [c, et]
      unfold FOut
      refine ⟨f, o', rfl, ⟨c, by omega, fun p hp => ?_, h1⟩, fun p hp => ?_, h3, g', rfl⟩
      · have := h2 p hp
        omega
      · have := h2 _ hp
        omega
def Gd (S : Sto) : Prop := ∃ o, S[0]? = some o ∧ CupO o
structure Gw (S S' : Sto) : Prop where
  gd : Gd S'
  keep : ∀ n x, 0 < n → S[n]? = some x → S'[n]? = some x
theorem Gw.refl {S : Sto} (h : Gd S) : Gw S S := ⟨h, fun _ _ _ h => h⟩
theorem Gw.trans {S S1 S2 : Sto} (h : Gw S S1) (g : Gw S1 S2) : Gw S S2 := ⟨g.gd, fun n x hn hx => g.keep n x hn (h.keep n x hn hx)⟩
theorem Gw.app {S : Sto} (h : Gd S) (T : Sto) : Gw S (S ++ T) := by
  have : ∀ (n : Nat) (x : O), S[n]? = some x → (S ++ T)[n]? = some x := fun n x hx => by
    rw [List.getElem?_append_left (List.getElem?_eq_some_iff.mp hx).1]
    exact hx
  obtain ⟨o, h1, h2⟩ := h
  exact ⟨⟨o, this _ _ h1, h2⟩, fun n x _ hx => this n x hx⟩
theorem Gw.put {S : Sto} {o o' : O} (h : S[0]? = some o) (g : CupO o') : Gw S (S.set 0 o') :=
  ⟨⟨o', set_at' h, g⟩, fun n x hn hx => by rw [List.getElem?_set_ne (by omega)]; exact hx⟩
theorem Gd.pos {S : Sto} (h : Gd S) : 0 < S.length := by
  obtain ⟨o, h1, _⟩ := h
  exact (List.getElem?_eq_some_iff.mp h1).1
theorem rollG {S : Sto} {many : Int} (g : Gd S) (h0 : 0 < many) (h1 : many < 1073741824) : Run (c__law_roll [.loc 0, .int many] S) fun d S' => ∃ r, d = .int r ∧ 0 ≤ r ∧ r < many ∧ Gw S S' := by
  obtain ⟨o, hc, go⟩ := g
  refine (roll_run hc go h0 h1).mono ?_
  rintro d S' ⟨r, o', rfl, r0, r1, g', rfl⟩
  exact ⟨r, rfl, r0, r1, Gw.put hc g'⟩
theorem someG {S : Sto} {ds : List D} {things : D} (g : Gd S) (ht : things = .fzl ds ∨ things = .tup ds) (h0 : ds ≠ []) (h1 : ds.length < 1073741824) : Run (c__law_some [.loc 0, things] S) fun d S' => d ∈ ds ∧ Gw S S' := by
  obtain ⟨o, hc, go⟩ := g
  refine (some_run hc go ht h0 h1).mono ?_
  rintro d S' ⟨o', hd, g', rfl⟩
  exact ⟨hd, Gw.put hc g'⟩
theorem floorG {S : Sto} {high wide : Nat} {share : Int} (g : Gd S) (hh : 1 ≤ high ∧ high ≤ 10) (hw : 1 ≤ wide ∧ wide ≤ 10) :
    Run (c__law_floor [.loc 0, .int (high : Nat), .int (wide : Nat), .int share] S) fun d S' => ∃ f, d = flD f ∧ (Flo f ∧ (∀ p ∈ f, p.1 < (high : Int) ∧ p.2 < (wide : Int)) ∧ f.length ≤ high * wide) ∧ Gw S S' := by
  obtain ⟨o, hc, go⟩ := g
  refine (floor_run hc go hh hw).mono ?_
  rintro d S' ⟨f, o', rfl, h1, h2, h3, g', rfl⟩
  exact ⟨f, rfl, ⟨h1, h2, h3⟩, Gw.put hc g'⟩
def Nx (vs : List Nat) (env : Env) (S : Sto) (Q : Env → Sto → Prop) (f : Fl) (S' : Sto) : Prop := ∃ env', f = .nx env' ∧ Oth vs env env' ∧ Gw S S' ∧ Q env' S'
theorem Nx.mk {vs : List Nat} {env env' : Env} {S S' : Sto} {Q : Env → Sto → Prop} (h : Oth vs env env') (g : Gw S S') (q : Q env' S') : Nx vs env S Q (.nx env') S' := ⟨env', rfl, h, g, q⟩
theorem Oth.one (env : Env) (v : Nat) (x : Option D) : Oth [v] env (env.set v x) := (Oth.refl [v] env).set (by simp)
/-- the next statement -/
theorem run_nx {a b : SM} {vs : List Nat} {env : Env} {S : Sto} {P : Env → Sto → Prop} {Q : Fl → Sto → Prop} (h : Run (a env S) (Nx vs env S P)) (k : ∀ env' S', Oth vs env env' → Gw S S' → P env' S' → Run (b env' S') Q) : Run (sSeq a b env S) Q := by
  refine run_seq (h.mono ?_)
  rintro f S' ⟨env', rfl, o, g, p⟩
  exact k env' S' o g p
theorem nat_of {r : Int} (h : 0 ≤ r) : ∃ n : Nat, r = (n : Int) := ⟨r.toNat, (Int.toNat_of_nonneg h).symm⟩
theorem wipe1 (env : Env) (i : Nat) (x : Option D) : (wipeE env [i]).set i x = env.set i x := by simp [wipeE]
theorem lc_gdA {α : Type} {tg : TgM} {t : TM} {e : EM} {gd : Sto → Bool} {env : Env} {vs : List Nat} {S : Sto} (f g : α → D) (E : α → Env) (p : α → Bool) (hg : gd S = true) : ∀ (xs : List α) (acc : List D), acc.length + xs.length ≤ sizeLine →
    (∀ x ∈ xs, tg (f x) (wipeE env vs) S = .ok (E x) S ∧ t (E x) S = .ok (p x) S ∧ (p x = true → e (E x) S = .ok (g x) S)) →
    lcD tg t e gd env vs (xs.map f) acc S = .ok (acc ++ (xs.filter p).map g) S
  | [], acc, _, _ => by simp [lcD, hg]
  | x :: xs, acc, hz, h => by
    obtain ⟨h1, h2, h3⟩ := h x (List.mem_cons_self ..)
    rw [List.length_cons] at hz
    rw [List.map_cons]
    unfold lcD
    rw [if_pos hg, h1, bind_ok, h2, bind_ok]
    cases q : p x with
    | true =>
      rw [if_pos rfl, h3 q, bind_ok, if_pos (by omega), lc_gdA f g E p hg xs (acc ++ [g x]) (by rw [List.length_append]; simp; omega) fun y hy => h y (List.mem_cons_of_mem _ hy), List.filter_cons_of_pos q]
      simp
    | false =>
      rw [if_neg (by decide), lc_gdA f g E p hg xs acc (by omega) fun y hy => h y (List.mem_cons_of_mem _ hy), List.filter_cons_of_neg (by rw [q]; decide)]
theorem lc_gd {α : Type} {tg : TgM} {t : TM} {e : EM} {gd : Sto → Bool} {env : Env} {vs : List Nat} {S : Sto} (f g : α → D) (E : α → Env) (p : α → Bool) (hg : gd S = true) (xs : List α) (hz : xs.length ≤ sizeLine)
    (h : ∀ x ∈ xs, tg (f x) (wipeE env vs) S = .ok (E x) S ∧ t (E x) S = .ok (p x) S ∧ (p x = true → e (E x) S = .ok (g x) S)) :
    lcD tg t e gd env vs (xs.map f) [] S = .ok ((xs.filter p).map g) S := by
  rw [lc_gdA f g E p hg xs [] (by simpa using hz) h, List.nil_append]
theorem gd_self {S : Sto} {n : Nat} {ds : List D} (h : S[n]? = some (.lst ds)) : gdOf n ds S = true := by
  unfold gdOf
  simp only [h]
  exact D.beqs_self ds
theorem Gw.set_new {S S' : Sto} {n : Nat} {o : O} (h : Gw S S') (g0 : Gd S) (hn : S.length ≤ n) : Gw S (S'.set n o) := by
  have hp := g0.pos
  obtain ⟨c, h1, h2⟩ := h.gd
  refine ⟨⟨c, by rw [List.getElem?_set_ne (by omega)]; exact h1, h2⟩, fun m x hm hx => ?_⟩
  have := (List.getElem?_eq_some_iff.mp hx).1
  rw [List.getElem?_set_ne (by omega)]
  exact h.keep m x hm hx
def Ap (S S' : Sto) : Prop := ∃ T, S' = S ++ T
theorem Ap.refl (S : Sto) : Ap S S := ⟨[], (List.append_nil S).symm⟩
theorem Ap.app {S S' : Sto} (h : Ap S S') (T : Sto) : Ap S (S' ++ T) := let ⟨U, e⟩ := h; ⟨U ++ T, by rw [e, List.append_assoc]⟩
theorem Ap.trans {S S1 S2 : Sto} (h : Ap S S1) (g : Ap S1 S2) : Ap S S2 := let ⟨U, e⟩ := h; let ⟨V, e2⟩ := g; ⟨U ++ V, by rw [e2, e, List.append_assoc]⟩
theorem Ap.gw {S S' : Sto} (h : Ap S S') (g : Gd S) : Gw S S' := let ⟨T, e⟩ := h; e ▸ Gw.app g T
def nearL (p : Cell) : List Cell := [(p.1 - 1, p.2), (p.1, p.2 - 1), (p.1, p.2 + 1), (p.1 + 1, p.2)]
theorem near_in_eq (p : Cell) (S : Sto) : c_near_in [pD p] S = .ok (clD (nearL p)) S := by
  have R : Run (c_near_in [pD p] S) fun d S' => d = clD (nearL p) ∧ S' = S := by
    refine run_fn ?_
    unfold m_near_in
    rw [show env0 3 [pD p] = [some (pD p), none, none] from rfl]
    have v0 : mVar 0 [some (pD p), none, none] S = .ok (pD p) S := rfl
    have v1 : ∀ S, mVar 1 [some (pD p), some (.int p.1), some (.int p.2)] S = .ok (.int p.1) S := fun _ => rfl
    have v2 : ∀ S, mVar 2 [some (pD p), some (.int p.1), some (.int p.2)] S = .ok (.int p.2) S := fun _ => rfl
    have g : gT 2 (gsC (gN 1) (gsC (gN 2) gsN)) (pD p) [some (pD p), none, none] S = .ok [some (pD p), some (.int p.1), some (.int p.2)] S := rfl
    refine run_seq ?_
    simp only [o_asg, v0, e_bind_ok, g, e_run_ok]
    simp only [o_ret, o_lst, o_tup, o_cons, o_nil, o_op, o_C, v1, v2, e_bind_ok, e_sub, e_add, List.length_cons, List.length_nil, Nat.zero_add, Nat.reduceAdd, sizeLine2, sizeLine4, if_true, e_run_ok]
    exact ⟨rfl, trivial⟩
  obtain ⟨d, S', e, rfl, rfl⟩ := R.out
  exact e
theorem sum_cast {α : Type} (g : α → Nat) (F : List α) : ((F.map fun p => ((g p : Nat) : Int))).sum = (((F.map g).sum : Nat) : Int) := by
  induction F with
  | nil => rfl
  | cons x xs ih => simp [ih]
def sidesN (F : List Cell) : Nat := (F.map fun p => ((nearL p).filter fun o => !decide (o ∈ F)).length).sum
theorem sides_in_eq {F : List Cell} (S : Sto) (hz : F.length ≤ 200000) : c_sides_in [flD F] S = .ok (.int (sidesN F : Nat)) (S ++ [.dT (setD F)]) := by
  have e1 := lc_mapL' (i := 2) (e := (mTup (mCons (mVar 2) (mCons (mC (.bl true)) mNil)))) (env := [some (flD F), none, none, none]) (vs := [2]) (S := S) pD (fun p => .tup [pD p, .bl true]) F (sz400 hz) (fun p hp => by simp [wipeE])
  have e2 := dict_pairs F S
  have hS := at_snoc S (O.dT (setD F))
  have e3 := lc_mapL' (i := 2) (e := (mCall m_len (mCons (mLc (mIt itAny (mFn 1 c_near_in (mCons (mVar 2) mNil))) (gN 3) (mT (mOp m_notinQ (mVar 3) (mVar 1))) (mC (.int 1)) [3]) mNil))) (env := [some (flD F), some (.loc S.length), none, none]) (vs := [2]) (S := S ++ [.dT (setD F)]) pD (fun p => .int (((nearL p).filter fun o => !decide (o ∈ F)).length : Nat)) F (sz400 hz) (fun p hp => by
    have e4 := lc_mapG (tg := gN 3) (t := (mT (mOp m_notinQ (mVar 3) (mVar 1)))) (e := mC (.int 1)) (env := [some (flD F), some (.loc S.length), some (pD p), none]) (vs := [3]) (S := S ++ [.dT (setD F)]) pD (fun _ => .int 1) (fun o => [some (flD F), some (.loc S.length), some (pD p), some (pD o)]) (fun o => !decide (o ∈ F)) (nearL p) (sz400 (by simp [nearL])) (fun o ho => by
      refine ⟨rfl, ?_, fun _ => rfl⟩
      have q : m_notinQ (pD o) (.loc S.length) (S ++ [.dT (setD F)]) = .ok (.bl (!decide (o ∈ F))) (S ++ [.dT (setD F)]) := by
        unfold m_notinQ
        rw [dOf_at' hS]
        simp only [keyT_pD, mem_setD]
      have v3 : ∀ S', mVar 3 [some (flD F), some (.loc S.length), some (pD p), some (pD o)] S' = .ok (pD o) S' := fun _ => rfl
      have v1 : ∀ S', mVar 1 [some (flD F), some (D.loc S.length), some (pD p), some (pD o)] S' = .ok (.loc S.length) S' := fun _ => rfl
      simp only [o_T, o_op, v3, v1, e_bind_ok, q, e_isB])
    have v2 : ∀ S', mVar 2 [some (flD F), some (D.loc S.length), some (pD p), none] S' = .ok (pD p) S' := fun _ => rfl
    have n1 := near_in_eq p (S ++ [.dT (setD F)])
    have i1 : itAny (clD (nearL p)) (S ++ [.dT (setD F)]) = .ok ⟨(nearL p).map pD, fun _ => true⟩ (S ++ [.dT (setD F)]) := rfl
    show (mCall m_len (mCons (mLc (mIt itAny (mFn 1 c_near_in (mCons (mVar 2) mNil))) (gN 3) (mT (mOp m_notinQ (mVar 3) (mVar 1))) (mC (.int 1)) [3]) mNil)) [some (flD F), some (D.loc S.length), some (pD p), none] _ = _
    simp only [o_call, o_cons, o_nil, o_lc, o_it, o_fn, v2, e_bind_ok, List.length_cons, List.length_nil, Nat.zero_add, if_true, n1, i1, e4, e_lenF, List.length_map])
  have e5 : m_sum [.fzl (F.map fun p => D.int (((nearL p).filter fun o => !decide (o ∈ F)).length : Nat))] (S ++ [.dT (setD F)]) = .ok (.int (sidesN F : Nat)) (S ++ [.dT (setD F)]) := by
    have : (F.map fun p => D.int (((nearL p).filter fun o => !decide (o ∈ F)).length : Nat)) = (F.map fun p => (((((nearL p).filter fun o => !decide (o ∈ F)).length : Nat)) : Int)).map D.int := by rw [List.map_map]; rfl
    rw [this, e_sumF]
    congr 2
    exact sum_cast _ F
  unfold c_sides_in fnD m_sides_in
  have v0 : ∀ S', mVar 0 [some (flD F), none, none, none] S' = .ok (flD F) S' := fun _ => rfl
  have w0 : ∀ S', mVar 0 [some (flD F), some (.loc S.length), none, none] S' = .ok (flD F) S' := fun _ => rfl
  have i0 : ∀ S', itAny (flD F) S' = .ok ⟨F.map pD, fun _ => true⟩ S' := fun _ => rfl
  rw [show env0 4 [flD F] = [some (flD F), none, none, none] from rfl, o_seq]
  have st : (List.set [some (flD F), none, none, none] 1 (some (D.loc S.length))) = [some (flD F), some (.loc S.length), none, none] := rfl
  simp only [o_asg, o_call, o_cons, o_nil, o_lc, o_it, v0, i0, e_bind_ok, e1, e2, o_gN, st, o_ret, w0, e3, e5, runFl]
theorem notinQ_in (c : Cell) (F : List Cell) (S : Sto) : m_notin (pD c) (flD F) S = .ok (.bl (!decide (c ∈ F))) S := notin_flD S c F
theorem in_in (c : Cell) (F : List Cell) (S : Sto) : m_in (pD c) (flD F) S = .ok (.bl (decide (c ∈ F))) S := in_flD S c F
def blkB (F : List Cell) (p : Cell) : Bool := decide ((p.1, p.2 + 1) ∈ F) && (decide ((p.1 + 1, p.2) ∈ F) && decide ((p.1 + 1, p.2 + 1) ∈ F))
def blkN (F : List Cell) : Nat := (F.filter (blkB F)).length
/-- counting in a for loop -/
theorem count_for {g : TgM} {body : SM} {vs : List Nat} {k : Nat} {xs : List Cell} {env : Env} {S : Sto} (p : Cell → Bool) (hk : k ∈ vs) (a : At env k (.int 0))
    (step : ∀ d env' (y : Nat), Oth vs env env' → At env' k (.int y) → d ∈ xs → Run (g (pD d) env' S) fun env1 S1 => Run (body env1 S1) fun fl S2 => ∃ e2, fl = .nx e2 ∧ S2 = S ∧ Oth vs env e2 ∧ At e2 k (.int ((y + (if p d = true then 1 else 0) : Nat)))) :
    Run (forD g body (fun _ => true) (xs.map pD) env S) fun fl S' => ∃ e2, fl = .nx e2 ∧ S' = S ∧ Oth vs env e2 ∧ At e2 k (.int ((xs.filter p).length : Nat)) := by
  refine run_for (fun i env' S' => S' = S ∧ Oth vs env env' ∧ At env' k (.int (((xs.take i).filter p).length : Nat))) ⟨rfl, Oth.refl _ _, by simpa using a⟩ ?_ ?_
  · rintro i d env' S' hd ⟨rfl, o, b⟩
    refine ⟨rfl, ?_⟩
    have hi : i < xs.length := by
      have := (List.getElem?_eq_some_iff.mp hd).1
      rwa [List.length_map] at this
    rw [List.getElem?_map, List.getElem?_eq_getElem hi] at hd
    cases Option.some.inj hd
    refine (step xs[i] env' _ o b (List.getElem_mem hi)).mono fun env1 S1 h => h.mono ?_
    rintro fl S2 ⟨e2, rfl, rfl, o2, b2⟩
    refine ⟨rfl, o2, ?_⟩
    have e : ((xs.take (i + 1)).filter p).length = ((xs.take i).filter p).length + (if p xs[i] = true then 1 else 0) := by
      rw [List.take_succ_eq_append_getElem hi, List.filter_append, List.length_append]
      congr 1
      by_cases q : p xs[i] = true
      · simp [q]
      · simp [q]
    rw [e]
    exact b2
  · rintro env' S' ⟨rfl, o, b⟩
    refine ⟨rfl, env', rfl, rfl, o, ?_⟩
    rw [List.take_of_length_le (by rw [List.length_map]; exact Nat.le_refl _)] at b
    exact b
theorem blocks_in_eq {F : List Cell} (S : Sto) (hz : F.length ≤ 200000) : c_blocks_in [flD F] S = .ok (.int (blkN F : Nat)) (S ++ [.dT (setD F)]) := by
  have R : Run (c_blocks_in [flD F] S) fun d S' => d = .int (blkN F : Nat) ∧ S' = S ++ [.dT (setD F)] := by
    refine run_fn ?_
    unfold m_blocks_in
    rw [show env0 6 [flD F] = [some (flD F), none, none, none, none, none] from rfl]
    have e1 := lc_mapL' (i := 5) (e := (mTup (mCons (mVar 5) (mCons (mC (.bl true)) mNil)))) (env := [some (flD F), none, none, none, none, none]) (vs := [5]) (S := S) pD (fun p => .tup [pD p, .bl true]) F (sz400 hz) (fun p hp => by simp [wipeE])
    have e2 := dict_pairs F S
    have hS := at_snoc S (O.dT (setD F))
    have v0 : ∀ S', mVar 0 [some (flD F), none, none, none, none, none] S' = .ok (flD F) S' := fun _ => rfl
    have i0 : ∀ S', itAny (flD F) S' = .ok ⟨F.map pD, fun _ => true⟩ S' := fun _ => rfl
    refine run_seq ?_
    simp only [o_asg, o_call, o_cons, o_nil, o_lc, o_it, v0, i0, e_bind_ok, e1, e2, o_gN, e_run_ok]
    refine run_seq ?_
    simp only [o_asg, o_C, e_bind_ok, o_gN, e_run_ok]
    have ha : ∀ env : Env, env = ([some (flD F), none, none, none, none, none].set 1 (some (D.loc S.length))).set 2 (some (D.int 0)) → env.length = 6 ∧ At env 0 (flD F) ∧ At env 1 (.loc S.length) ∧ At env 2 (.int 0) := by
      rintro env rfl
      exact ⟨rfl, fun _ => rfl, fun _ => rfl, fun _ => rfl⟩
    generalize hE : ([some (flD F), none, none, none, none, none].set 1 (some (D.loc S.length))).set 2 (some (D.int 0)) = env
    obtain ⟨hl, a0, a1, a2⟩ := ha env hE.symm
    clear hE ha
    refine run_seq ?_
    rw [o_for]
    simp only [o_it, a0 _, i0, e_bind_ok]
    refine (count_for (vs := [2, 3, 4]) (blkB F) (by simp) a2 ?_).mono ?_
    · intro p env1 y o1 b2 hp
      rw [gT_pD, e_run_ok]
      have o2 : Oth [2, 3, 4] env ((env1.set 3 (some (.int p.1))).set 4 (some (.int p.2))) := (o1.set (by simp)).set (by simp)
      have l1 : env1.length = 6 := o1.1.trans hl
      have b3 : At ((env1.set 3 (some (.int p.1))).set 4 (some (.int p.2))) 3 (.int p.1) := (At.eq (by rw [l1]; decide)).ne (by decide)
      have b4 : At ((env1.set 3 (some (.int p.1))).set 4 (some (.int p.2))) 4 (.int p.2) := At.eq (by rw [List.length_set, l1]; decide)
      have b2 : At ((env1.set 3 (some (.int p.1))).set 4 (some (.int p.2))) 2 (.int y) := (b2.ne (by decide)).ne (by decide)
      generalize ((env1.set 3 (some (.int p.1))).set 4 (some (.int p.2))) = e2 at o2 b3 b4 b2
      have b1 := o2.at (by decide) a1
      have l2 : e2.length = 6 := o2.1.trans hl
      have q : ∀ a b : Int, m_inQ (.tup [.int a, .int b]) (.loc S.length) (S ++ [.dT (setD F)]) = .ok (.bl (decide ((a, b) ∈ F))) (S ++ [.dT (setD F)]) := fun a b => in_setD hS (a, b)
      simp only [o_if, o_and, o_T, o_op, o_tup, o_cons, o_nil, o_C, b1 _, b2 _, b3 _, b4 _, e_bind_ok, e_add, List.length_cons, List.length_nil, Nat.zero_add, Nat.reduceAdd, sizeLine2, if_true, q, e_isB]
      have fin : ∀ k : Bool, k = blkB F p → Run ((if k = true then (sAsg (mOp m_add (mVar 2) (mC (.int 1))) (gN 2)) e2 (S ++ [.dT (setD F)]) else .ok (.nx e2) (S ++ [.dT (setD F)]) : R Fl)) (fun fl S2 => ∃ e3, fl = .nx e3 ∧ S2 = S ++ [.dT (setD F)] ∧ Oth [2, 3, 4] env e3 ∧ At e3 2 (.int ((y + (if blkB F p = true then 1 else 0) : Nat)))) := by
        intro k hk
        subst hk
        cases blkB F p with
        | true =>
          simp only [if_true, o_asg, o_op, o_C, b2 _, e_bind_ok, e_add, o_gN, e_run_ok]
          exact ⟨_, rfl, trivial, o2.set (by simp), At.eq (by rw [l2]; decide)⟩
        | false =>
          simp only [Bool.false_eq_true, if_false, e_run_ok]
          exact ⟨e2, rfl, trivial, o2, b2⟩
      have f := fin _ rfl
      unfold blkB at f
      cases c1 : decide ((p.1, p.2 + 1) ∈ F) with
      | false => simp only [c1, Bool.false_and, Bool.false_eq_true, if_false, e_bind_ok, o_nx] at f ⊢; unfold blkB; simp only [c1, Bool.false_and, Bool.false_eq_true, if_false]; exact f
      | true =>
        cases c2 : decide ((p.1 + 1, p.2) ∈ F) with
        | false => simp only [c1, c2, Bool.true_and, Bool.false_and, Bool.false_eq_true, if_true, if_false, e_bind_ok, o_nx] at f ⊢; unfold blkB; simp only [c1, c2, Bool.true_and, Bool.false_and, Bool.false_eq_true, if_false]; exact f
        | true =>
          simp only [c1, c2, Bool.true_and, if_true, e_bind_ok, o_asg, o_op, o_C, o_nx, b2 _, e_add, o_gN] at f ⊢
          unfold blkB
          simp only [c1, c2, Bool.true_and]
          exact f
    · rintro fl S' ⟨e2, rfl, rfl, o2, b2⟩
      simp only [o_ret, b2 _, e_bind_ok, e_run_ok]
      exact ⟨rfl, trivial⟩
  obtain ⟨d, S', e, rfl, rfl⟩ := R.out
  exact e
theorem rim_many_eq {F : List Cell} (S : Sto) (h : Flo F) : c_rim_many [flD F] S = .ok (.int (sidesN F : Nat)) (S ++ [.dT (setD F)]) := by
  have e1 := need_floor_eq S h
  have e2 := sides_in_eq S (F := F) (by have := h.len; omega)
  unfold c_rim_many fnD m_rim_many
  simp [runFl, o_seq, e1, e2]
theorem blocks_eq {F : List Cell} (S : Sto) (h : Flo F) : c_blocks [flD F] S = .ok (.int (blkN F : Nat)) (S ++ [.dT (setD F)]) := by
  have e1 := need_floor_eq S h
  have e2 := blocks_in_eq S (F := F) (by have := h.len; omega)
  unfold c_blocks fnD m_blocks
  simp [runFl, o_seq, e1, e2]
theorem side_pairs_eq {F : List Cell} (S : Sto) (h : Flo F) : c_side_pairs [flD F] S = .ok (.int ((4 * (F.length : Int) - (sidesN F : Nat)) / 2)) (S ++ [.dT (setD F)]) := by
  have e1 := need_floor_eq S h
  have e2 := sides_in_eq S (F := F) (by have := h.len; omega)
  have e3 := len_flD F S
  have e4 : m_mul (.int 4) (.int (F.length : Nat)) S = .ok (.int (4 * (F.length : Int))) S := e_mul (.inl (by omega))
  have e5 : ∀ (x : Int) S, m_fdiv (.int x) (.int 2) S = .ok (.int (x / 2)) S := fun x S => e_fdiv (by decide) (by decide)
  unfold c_side_pairs fnD m_side_pairs
  simp [runFl, o_seq, e1, e2, e3, e4, e5]
theorem mins2 {ns : List Int} (h : ns ≠ []) : ∃ a b, (∀ S, m_min [.fzl (ns.map D.int)] S = .ok (.int a) S) ∧ (∀ S, m_max [.fzl (ns.map D.int)] S = .ok (.int b) S) ∧ a ∈ ns ∧ b ∈ ns ∧ ∀ n ∈ ns, a ≤ n ∧ n ≤ b := by
  cases ns with
  | nil => exact absurd rfl h
  | cons n ns =>
    obtain ⟨f1, f2⟩ := fold_max ns n
    obtain ⟨g1, g2⟩ := fold_min ns n
    refine ⟨_, _, fun S => ?_, fun S => ?_, g2, f2, fun m hm => ⟨g1 m hm, f1 m hm⟩⟩
    · simp [m_min, intsL, lstOf, intsOf, intsOf_map, lstMin]
    · simp [m_max, intsL, lstOf, intsOf, intsOf_map, lstMax]
def rwD (F : List Cell) : D := .fzl (F.map fun p => D.int p.1)
def coD (F : List Cell) : D := .fzl (F.map fun p => D.int p.2)
/-- the box of a floor: top, left, bottom, right -/
structure Bo (F : List Cell) (a1 a2 b1 b2 : Int) : Prop where
  m1 : ∀ S, m_min [rwD F] S = .ok (.int a1) S
  m2 : ∀ S, m_min [coD F] S = .ok (.int a2) S
  x1 : ∀ S, m_max [rwD F] S = .ok (.int b1) S
  x2 : ∀ S, m_max [coD F] S = .ok (.int b2) S
  r0 : 0 ≤ a1 ∧ a1 ≤ b1 ∧ b1 ≤ 59
  c0 : 0 ≤ a2 ∧ a2 ≤ b2 ∧ b2 ≤ 59
  bd : ∀ p ∈ F, (a1 ≤ p.1 ∧ p.1 ≤ b1) ∧ (a2 ≤ p.2 ∧ p.2 ≤ b2)
theorem bo_of {F : List Cell} (h : Flo F) : ∃ a1 a2 b1 b2, Bo F a1 a2 b1 b2 := by
  have n1 : F.map (·.1) ≠ [] := by simpa using h.ne
  have n2 : F.map (·.2) ≠ [] := by simpa using h.ne
  obtain ⟨a1, b1, m1, x1, i1, j1, k1⟩ := mins2 n1
  obtain ⟨a2, b2, m2, x2, i2, j2, k2⟩ := mins2 n2
  rw [List.map_map] at m1 x1 m2 x2
  obtain ⟨p1, q1, rfl⟩ := List.mem_map.mp i1
  obtain ⟨p2, q2, rfl⟩ := List.mem_map.mp j1
  obtain ⟨p3, q3, rfl⟩ := List.mem_map.mp i2
  obtain ⟨p4, q4, rfl⟩ := List.mem_map.mp j2
  have k1' : ∀ p ∈ F, p1.1 ≤ p.1 ∧ p.1 ≤ p2.1 := fun p hp => k1 _ (List.mem_map.mpr ⟨p, hp, rfl⟩)
  have k2' : ∀ p ∈ F, p3.2 ≤ p.2 ∧ p.2 ≤ p4.2 := fun p hp => k2 _ (List.mem_map.mpr ⟨p, hp, rfl⟩)
  exact ⟨p1.1, p3.2, p2.1, p4.2, m1, m2, x1, x2, ⟨(h.bd _ q1).1.1, (k1' _ q2).1, (h.bd _ q2).1.2⟩, ⟨(h.bd _ q3).2.1, (k2' _ q4).1, (h.bd _ q4).2.2⟩, fun p hp => ⟨k1' p hp, k2' p hp⟩⟩
theorem rows_lc {tg : TgM} {i j : Nat} {F : List Cell} {env : Env} {S : Sto} (hij : i < j) (hj : j < env.length) (hz : F.length ≤ 200000) :
    lcD (gT 2 (gsC (gN i) (gsC (gN j) gsN))) tmYes (mVar i) (fun _ => true) env [i, j] (F.map pD) [] S = .ok (F.map fun p => D.int p.1) S ∧
    lcD (gT 2 (gsC (gN i) (gsC (gN j) gsN))) tmYes (mVar j) (fun _ => true) env [i, j] (F.map pD) [] S = .ok (F.map fun p => D.int p.2) S := by
  have lw : (wipeE env [i, j]).length = env.length := by simp [wipeE]
  constructor
  · exact lc_mapY pD (fun p => .int p.1) (fun p => ((wipeE env [i, j]).set i (some (.int p.1))).set j (some (.int p.2))) F (sz400 hz) fun p hp => ⟨gT_pD .., by rw [var_ne (by omega), var_eq (by omega)]⟩
  · exact lc_mapY pD (fun p => .int p.2) (fun p => ((wipeE env [i, j]).set i (some (.int p.1))).set j (some (.int p.2))) F (sz400 hz) fun p hp => ⟨gT_pD .., by rw [var_eq (by rw [List.length_set]; omega)]⟩
theorem box_in_eq {F : List Cell} {a1 a2 b1 b2 : Int} (S : Sto) (h : Flo F) (B : Bo F a1 a2 b1 b2) : c_box_in [flD F] S = .ok (.tup [.int a1, .int a2, .int b1, .int b2]) S := by
  have hl := h.len
  obtain ⟨e1, e2⟩ := rows_lc (tg := gN 0) (i := 3) (j := 4) (F := F) (env := [some (flD F), none, none, none, none]) (S := S) (by decide) (by simp) (by omega)
  have e5 : itAny (flD F) S = .ok ⟨F.map pD, fun _ => true⟩ S := rfl
  have m1 := B.m1 S
  have m2 := B.m2 S
  have x1 := B.x1 S
  have x2 := B.x2 S
  unfold rwD at m1 x1
  unfold coD at m2 x2
  unfold c_box_in fnD m_box_in
  simp [-List.map_map, runFl, o_seq, o_lc, e5, e1, e2, setAll, m1, m2, x1, x2]
theorem box_eq {F : List Cell} {a1 a2 b1 b2 : Int} (S : Sto) (h : Flo F) (B : Bo F a1 a2 b1 b2) : c_box [flD F] S = .ok (.tup [.int a1, .int a2, .int b1, .int b2]) S := by
  unfold c_box fnD m_box
  simp [runFl, o_seq, need_floor_eq S h, box_in_eq S h B]
theorem moved_flo {F : List Cell} {a1 a2 b1 b2 : Int} {s : Cell} (h : Flo F) (B : Bo F a1 a2 b1 b2) (h1 : -a1 ≤ s.1 ∧ s.1 ≤ 59 - b1) (h2 : -a2 ≤ s.2 ∧ s.2 ≤ 59 - b2) : Flo (F.map (sft s)) := by
  refine ⟨by simpa using h.ne, by simpa using h.len, fun p hp => ?_, List.pairwise_map.mpr (h.srt.imp fun q => sft_lt s q)⟩
  obtain ⟨q, hq, rfl⟩ := List.mem_map.mp hp
  have := B.bd q hq
  simp only [sft]
  omega
theorem moved_eq {F : List Cell} {a1 a2 b1 b2 : Int} {s : Cell} (S : Sto) (h : Flo F) (B : Bo F a1 a2 b1 b2) (h1 : -a1 ≤ s.1 ∧ s.1 ≤ 59 - b1) (h2 : -a2 ≤ s.2 ∧ s.2 ≤ 59 - b2) : c_moved [flD F, .int s.1, .int s.2] S = .ok (flD (F.map (sft s))) S := by
  have hl4 := h.len
  have eb := box_in_eq S h B
  have f1 := fits_whole_eq (.int s.1) (-a1) (59 - b1) S rfl
  have f2 := fits_whole_eq (.int s.2) (-a2) (59 - b2) S rfl
  have g1 : intIn (-a1) (59 - b1) (.int s.1) = true := by simp [intIn]; omega
  have g2 : intIn (-a2) (59 - b2) (.int s.2) = true := by simp [intIn]; omega
  rw [g1] at f1
  rw [g2] at f2
  have em := moved_in_eq F s S (by omega)
  unfold c_moved fnD m_moved
  simp [runFl, o_seq, need_floor_eq S h, eb, gT, gsC, gsN, f1, f2, em]
/-! ### parts, purely -/
structure St3 where
  left : List Cell
  part : List Cell
  line : List Cell
def stp (s : St3) (o : Cell) : St3 := if o ∈ s.left then ⟨s.left.filter (fun c => decide (c ≠ o)), s.part ++ [o], s.line ++ [o]⟩ else s
def turn (s : St3) (p : Cell) : St3 := (nearL p).foldl stp ⟨s.left, s.part, s.line.dropLast⟩
def dfs : Nat → St3 → St3
  | 0, s => s
  | k + 1, s => match s.line.getLast? with
    | none => s
    | some p => dfs k (turn s p)
def one1 (s : List Cell × List (List Cell)) (c : Cell) : List Cell × List (List Cell) :=
  if c ∈ s.1 then (let r := dfs 401 ⟨s.1.filter (fun x => decide (x ≠ c)), [c], [c]⟩; (r.left, s.2 ++ [r.part])) else s
def partsF (F : List Cell) : List (List Cell) := (F.foldl one1 (F, [])).2
/-- the dict of the cells that are left -/
def Lk (kvs : List (List L2.Key × D)) (L : List Cell) : Prop := ∀ c : Cell, (valD kvs (keyP c)).isSome = decide (c ∈ L)
theorem lk_set (F : List Cell) : Lk (setD F) F := fun c => mem_setD F c
theorem any_drop {κ : Type} [DecidableEq κ] (kvs : List (κ × D)) (k j : κ) : ((dropD kvs k).any fun kv => decide (kv.1 = j)) = (decide (j ≠ k) && kvs.any fun kv => decide (kv.1 = j)) := by
  unfold dropD
  induction kvs with
  | nil => simp
  | cons x xs ih =>
    rw [List.filter_cons]
    by_cases e : x.1 = k
    · have c : decide (x.1 ≠ k) = false := by simp [e]
      rw [c, if_neg (by decide), ih, List.any_cons, e]
      by_cases e2 : k = j
      · subst e2; simp
      · simp [e2]
    · have c : decide (x.1 ≠ k) = true := by simp [e]
      rw [c, if_pos rfl, List.any_cons, ih, List.any_cons]
      by_cases e2 : x.1 = j
      · subst e2; simp [e]
      · simp [e2]
theorem Lk.drop {kvs : List (List L2.Key × D)} {L : List Cell} (h : Lk kvs L) (x : Cell) : Lk (dropD kvs (keyP x)) (L.filter fun c => decide (c ≠ x)) := fun c => by
  rw [valD_some, any_drop, ← valD_some, h c]
  have e : decide (keyP c ≠ keyP x) = decide (c ≠ x) := by
    rw [decide_eq_decide]
    exact ⟨fun h e => h (by rw [e]), fun h e => h (keyP_inj e)⟩
  rw [e, ← Bool.decide_and, decide_eq_decide, List.mem_filter, decide_eq_true_eq]
  exact ⟨fun h => ⟨h.2, h.1⟩, fun h => ⟨h.2, h.1⟩⟩
theorem Lk.in_ {S : Sto} {n : Nat} {kvs : List (List L2.Key × D)} {L : List Cell} (h : Lk kvs L) (hS : S[n]? = some (.dT kvs)) (c : Cell) : m_inQ (pD c) (.loc n) S = .ok (.bl (decide (c ∈ L))) S := by
  unfold m_inQ
  rw [dOf_at' hS]
  simp only [keyT_pD, h c]
theorem Lk.del {S : Sto} {n : Nat} {kvs : List (List L2.Key × D)} {L : List Cell} (h : Lk kvs L) (hS : S[n]? = some (.dT kvs)) {c : Cell} (hc : c ∈ L) : m_delQ (.loc n) (pD c) S = .ok () (S.set n (.dT (dropD kvs (keyP c)))) := by
  unfold m_delQ
  simp only [hS, keyT_pD, h c, decide_eq_true hc, if_true]
/-- the store of parts_in: left, found, then part and line -/
structure P4 (S : Sto) (n : Nat) (p q : Nat) (s : St3) (fo : List D) : Prop where
  lft : ∃ kvs, S[n]? = some (.dT kvs) ∧ Lk kvs s.left
  fnd : S[n + 1]? = some (.lst fo)
  prt : S[p]? = some (.lst (s.part.map pD))
  lin : S[q]? = some (.lst (s.line.map pD))
  npq : n + 1 < p ∧ p < q
def sameTo (k : Nat) (S S' : Sto) : Prop := ∀ i, i < k → S'[i]? = S[i]?
theorem sameTo.refl (k : Nat) (S : Sto) : sameTo k S S := fun _ _ => rfl
theorem sameTo.trans {k : Nat} {S S1 S2 : Sto} (h : sameTo k S S1) (g : sameTo k S1 S2) : sameTo k S S2 := fun i hi => (g i hi).trans (h i hi)
theorem sameTo.set {k n : Nat} {S : Sto} {o : O} (h : k ≤ n) : sameTo k S (S.set n o) := fun i hi => List.getElem?_set_ne (by omega)
def mStp : SM := (sIf (mT (mOp m_inQ (mVar 6) (mVar 2))) (sSeq (sDel (mVar 2) (mVar 6))
  (sSeq (sExpr (mMeth "list" m_append (mVar 4) (mCons (mVar 6) mNil)))
  (sExpr (mMeth "list" m_append (mVar 5) (mCons (mVar 6) mNil))))) sNx)
theorem stp_run {env : Env} {S : Sto} {n p q : Nat} {s : St3} {fo : List D} {o : Cell} (P : P4 S n p q s fo) (a2 : At env 2 (.loc n)) (a4 : At env 4 (.loc p)) (a5 : At env 5 (.loc q)) (a6 : At env 6 (pD o)) (hz : s.part.length < 200000 ∧ s.line.length < 200000) :
    Run (mStp env S) fun f S' => f = .nx env ∧ P4 S' n p q (stp s o) fo ∧ sameTo n S S' := by
  unfold mStp
  obtain ⟨kvs, hk, lk⟩ := P.lft
  have hpq := P.npq
  have e1 := lk.in_ hk o
  simp only [o_if, o_T, o_op, a2 _, a6 _, e_bind_ok, e1, e_isB]
  unfold stp
  by_cases c : o ∈ s.left
  · rw [if_pos c, decide_eq_true c, if_pos rfl]
    have e2 := lk.del hk c
    refine run_seq ?_
    simp only [o_del, a2 _, a6 _, e_bind_ok, e2, e_run_ok]
    have h1 : (S.set n (.dT (dropD kvs (keyP o))))[n]? = some (.dT (dropD kvs (keyP o))) := set_at' hk
    have h2 : (S.set n (.dT (dropD kvs (keyP o))))[p]? = some (.lst (s.part.map pD)) := by rw [List.getElem?_set_ne (by omega)]; exact P.prt
    have h3 : (S.set n (.dT (dropD kvs (keyP o))))[q]? = some (.lst (s.line.map pD)) := by rw [List.getElem?_set_ne (by omega)]; exact P.lin
    have h4 : (S.set n (.dT (dropD kvs (keyP o))))[n + 1]? = some (.lst fo) := by rw [List.getElem?_set_ne (by omega)]; exact P.fnd
    have t0 : sameTo n S (S.set n (.dT (dropD kvs (keyP o)))) := sameTo.set (Nat.le_refl _)
    generalize S.set n (.dT (dropD kvs (keyP o))) = S1 at h1 h2 h3 h4 t0
    have ty : tyD S1 "list" (.loc p) = true := by unfold tyD lstOf; simp only [h2]; rfl
    have ea : m_append (.loc p) [pD o] S1 = .ok .non (S1.set p (.lst (s.part.map pD ++ [pD o]))) := e_app h2 (by rw [List.length_map]; exact Nat.lt_of_lt_of_le hz.1 (by decide))
    refine run_seq ?_
    simp only [o_expr, o_meth, o_cons, o_nil, a4 _, a6 _, e_bind_ok, ty, if_true, ea, e_run_ok]
    have k1 : (S1.set p (.lst (s.part.map pD ++ [pD o])))[n]? = some (.dT (dropD kvs (keyP o))) := by rw [List.getElem?_set_ne (by omega)]; exact h1
    have k2 : (S1.set p (.lst (s.part.map pD ++ [pD o])))[p]? = some (.lst (s.part.map pD ++ [pD o])) := set_at' h2
    have k3 : (S1.set p (.lst (s.part.map pD ++ [pD o])))[q]? = some (.lst (s.line.map pD)) := by rw [List.getElem?_set_ne (by omega)]; exact h3
    have k4 : (S1.set p (.lst (s.part.map pD ++ [pD o])))[n + 1]? = some (.lst fo) := by rw [List.getElem?_set_ne (by omega)]; exact h4
    have t1 : sameTo n S (S1.set p (.lst (s.part.map pD ++ [pD o]))) := t0.trans (sameTo.set (by omega))
    generalize S1.set p (.lst (s.part.map pD ++ [pD o])) = S2 at k1 k2 k3 k4 t1
    have ty2 : tyD S2 "list" (.loc q) = true := by unfold tyD lstOf; simp only [k3]; rfl
    have eb : m_append (.loc q) [pD o] S2 = .ok .non (S2.set q (.lst (s.line.map pD ++ [pD o]))) := e_app k3 (by rw [List.length_map]; exact Nat.lt_of_lt_of_le hz.2 (by decide))
    simp only [o_expr, o_meth, o_cons, o_nil, a5 _, a6 _, e_bind_ok, ty2, if_true, eb, e_run_ok]
    refine ⟨trivial, ⟨⟨_, by rw [List.getElem?_set_ne (by omega)]; exact k1, lk.drop o⟩, by rw [List.getElem?_set_ne (by omega)]; exact k4, ?_, ?_, hpq⟩, t1.trans (sameTo.set (by omega))⟩
    · rw [List.getElem?_set_ne (by omega), k2, List.map_append, List.map_singleton]
    · rw [set_at' k3, List.map_append, List.map_singleton]
  · rw [if_neg c, decide_eq_false c, if_neg (by decide)]
    simp only [o_nx, e_run_ok]
    exact ⟨trivial, P, sameTo.refl _ _⟩
theorem pdS_loc (S : Sto) {n : Nat} {f : List Cell} (h : S[n]? = some (.lst (f.map pD))) : pdS S (.loc n) = some (.list (f.map pP)) := by
  have e : toPD S 8 (.loc n) = some (.list (f.map pP)) := by
    unfold toPD
    simp only [h, opAll_pD S 6 f]
    rfl
  unfold pdS
  rw [e]
  simp [(shp_pP f).1]
theorem ne_loc {S : Sto} {n : Nat} {f : List Cell} (h : S[n]? = some (.lst (f.map pD))) : m_ne (.loc n) (.fzl []) S = .ok (.bl (!decide (f = []))) S := by
  unfold m_ne
  rw [pdS_loc S h, show pdS S (.fzl []) = some (.list []) from rfl]
  cases f <;> rfl
theorem stp_len (s : St3) (o : Cell) : (stp s o).left.length + (stp s o).line.length ≤ s.left.length + s.line.length ∧ (stp s o).left.length + (stp s o).part.length ≤ s.left.length + s.part.length := by
  unfold stp
  by_cases c : o ∈ s.left
  · rw [if_pos c]
    have : (s.left.filter fun c => decide (c ≠ o)).length < s.left.length := by
      refine List.length_filter_lt_length_iff_exists.mpr ⟨o, c, by simp⟩
    simp only [List.length_append, List.length_cons, List.length_nil]
    omega
  · rw [if_neg c]
    omega
theorem fold_len : ∀ (os : List Cell) (s : St3), (os.foldl stp s).left.length + (os.foldl stp s).line.length ≤ s.left.length + s.line.length ∧ (os.foldl stp s).left.length + (os.foldl stp s).part.length ≤ s.left.length + s.part.length
  | [], s => ⟨Nat.le_refl _, Nat.le_refl _⟩
  | o :: os, s => by
    have h1 := stp_len s o
    have h2 := fold_len os (stp s o)
    rw [List.foldl_cons]
    omega
theorem turn_len {s : St3} {p : Cell} (h : s.line.getLast? = some p) : (turn s p).left.length + (turn s p).line.length < s.left.length + s.line.length ∧ (turn s p).left.length + (turn s p).part.length ≤ s.left.length + s.part.length := by
  have h2 := fold_len (nearL p) ⟨s.left, s.part, s.line.dropLast⟩
  have h3 : s.line ≠ [] := fun e => by rw [e] at h; cases h
  have h4 : 0 < s.line.length := List.length_pos_iff.mpr h3
  unfold turn
  simp only [List.length_dropLast] at h2
  omega
def mWb : SM := (sFor (mIt itAny (mFn 1 c_near_in (mCons (mMeth "list" m_pop (mVar 5) mNil) mNil))) (gN 6) mStp)
theorem fold_run {n p q : Nat} {fo : List D} {N : Nat} : ∀ (os : List Cell) {env : Env} {S : Sto} {s : St3}, P4 S n p q s fo → env.length = 7 → At env 2 (.loc n) → At env 4 (.loc p) → At env 5 (.loc q) → s.left.length + s.part.length < 200000 → s.left.length + s.line.length < 200000 →
    Run (forD (gN 6) mStp (fun _ => true) (os.map pD) env S) fun f S' => ∃ e2, f = .nx e2 ∧ Oth [6] env e2 ∧ P4 S' n p q (os.foldl stp s) fo ∧ sameTo n S S'
  | [], env, S, s, P, hl, a2, a4, a5, z1, z2 => by
    rw [List.map_nil]
    unfold forD
    rw [if_pos rfl, e_run_ok]
    exact ⟨env, rfl, Oth.refl _ _, P, sameTo.refl _ _⟩
  | o :: os, env, S, s, P, hl, a2, a4, a5, z1, z2 => by
    rw [List.map_cons]
    unfold forD
    rw [if_pos rfl, o_gN, e_bind_ok, e_runbind]
    have o1 : Oth [6] env (env.set 6 (some (pD o))) := Oth.one _ _ _
    have l1 : (env.set 6 (some (pD o))).length = 7 := by rw [List.length_set, hl]
    have b6 : At (env.set 6 (some (pD o))) 6 (pD o) := At.eq (by rw [hl]; decide)
    generalize env.set 6 (some (pD o)) = e1 at o1 l1 b6
    have b2 := o1.at (by decide) a2
    have b4 := o1.at (by decide) a4
    have b5 := o1.at (by decide) a5
    refine (stp_run P b2 b4 b5 b6 (by omega)).mono ?_
    rintro f S1 ⟨rfl, P1, t1⟩
    have sl := stp_len s o
    refine (fold_run (N := N) os P1 l1 b2 b4 b5 (by omega) (by omega)).mono ?_
    rintro f S2 ⟨e2, rfl, o2, P2, t2⟩
    exact ⟨e2, rfl, o1.trans o2, P2, t1.trans t2⟩
theorem wb_run {env : Env} {S : Sto} {n p q : Nat} {s : St3} {fo : List D} {c : Cell} (P : P4 S n p q s fo) (hl : env.length = 7) (a2 : At env 2 (.loc n)) (a4 : At env 4 (.loc p)) (a5 : At env 5 (.loc q)) (hc : s.line.getLast? = some c) (z1 : s.left.length + s.part.length < 200000) (z2 : s.left.length + s.line.length < 200000) :
    Run (mWb env S) fun f S' => ∃ e2, f = .nx e2 ∧ Oth [6] env e2 ∧ P4 S' n p q (turn s c) fo ∧ sameTo n S S' := by
  unfold mWb
  have hpq := P.npq
  obtain ⟨kvs, hk, lk⟩ := P.lft
  have hne : s.line ≠ [] := fun e => by rw [e] at hc; cases hc
  have h4 : 0 < s.line.length := List.length_pos_iff.mpr hne
  have ty : tyD S "list" (.loc q) = true := by unfold tyD lstOf; simp only [P.lin]; rfl
  have ep : m_pop (.loc q) [] S = .ok (pD c) (S.set q (.lst (s.line.dropLast.map pD))) := by
    unfold m_pop
    have h5 : (s.line.map pD)[(s.line.map pD).length - 1]? = some (pD c) := by
      rw [List.length_map, List.getElem?_map]
      rw [List.getLast?_eq_getElem?] at hc
      rw [hc]
      rfl
    simp only [P.lin, h5, List.map_dropLast]
  have en := near_in_eq c (S.set q (.lst (s.line.dropLast.map pD)))
  have ei : ∀ S', itAny (clD (nearL c)) S' = .ok ⟨(nearL c).map pD, fun _ => true⟩ S' := fun _ => rfl
  rw [o_for]
  simp only [o_it, o_fn, o_cons, o_nil, o_meth, a5 _, e_bind_ok, ty, if_true, ep, List.length_cons, List.length_nil, Nat.zero_add, en, ei]
  have P1 : P4 (S.set q (.lst (s.line.dropLast.map pD))) n p q ⟨s.left, s.part, s.line.dropLast⟩ fo :=
    ⟨⟨kvs, by rw [List.getElem?_set_ne (by omega)]; exact hk, lk⟩, by rw [List.getElem?_set_ne (by omega)]; exact P.fnd, by rw [List.getElem?_set_ne (by omega)]; exact P.prt, set_at' P.lin, hpq⟩
  refine (fold_run (N := 0) (nearL c) P1 hl a2 a4 a5 z1 (by simp only [List.length_dropLast]; omega)).mono ?_
  rintro f S2 ⟨e2, rfl, o2, P2, t2⟩
  exact ⟨e2, rfl, o2, P2, (sameTo.set (by omega)).trans t2⟩
def mWc : TM := (mT (mOp m_ne (mVar 5) (mLst mNil)))
theorem dfs_run {n p q : Nat} {fo : List D} : ∀ (k : Nat) {env : Env} {S : Sto} {s : St3}, P4 S n p q s fo → env.length = 7 → At env 2 (.loc n) → At env 4 (.loc p) → At env 5 (.loc q) → s.left.length + s.part.length < 200000 → s.left.length + s.line.length ≤ k → k < 200000 →
    Run (whileD mWc mWb (k + 1) env S) fun f S' => ∃ e2, f = .nx e2 ∧ Oth [6] env e2 ∧ P4 S' n p q (dfs k s) fo ∧ sameTo n S S' ∧ (dfs k s).line = []
  | k, env, S, s, P, hl, a2, a4, a5, z1, z2, z3 => by
    unfold whileD
    have ec := ne_loc P.lin
    have ecc : mWc env S = .ok (!decide (s.line = [])) S := by
      unfold mWc
      simp only [o_T, o_op, o_lst, o_nil, a5 _, e_bind_ok, List.length_nil, Nat.zero_le, if_true, ec, e_isB]
    rw [ecc, e_bind_ok]
    cases hq : s.line.getLast? with
    | none =>
      have hn : s.line = [] := List.getLast?_eq_none_iff.mp hq
      have ed : dfs k s = s := by
        cases k with
        | zero => rfl
        | succ k => unfold dfs; rw [hq]
      rw [decide_eq_true hn, Bool.not_true, if_neg (by decide), e_run_ok, ed]
      exact ⟨env, rfl, Oth.refl _ _, P, sameTo.refl _ _, hn⟩
    | some c =>
      have hn : s.line ≠ [] := fun e => by rw [e] at hq; cases hq
      rw [decide_eq_false hn, Bool.not_false, if_pos rfl, e_runbind]
      have tl := turn_len hq
      refine (wb_run P hl a2 a4 a5 hq z1 (by omega)).mono ?_
      rintro f S1 ⟨e1, rfl, o1, P1, t1⟩
      cases k with
      | zero => omega
      | succ k =>
        have ed : dfs (k + 1) s = dfs k (turn s c) := by
          conv => lhs; unfold dfs
          rw [hq]
        rw [ed]
        refine (dfs_run k P1 (o1.1.trans hl) (o1.at (by decide) a2) (o1.at (by decide) a4) (o1.at (by decide) a5) (by omega) (by omega) (by omega)).mono ?_
        rintro f S2 ⟨e2, rfl, o2, P2, t2, hn2⟩
        exact ⟨e2, rfl, o1.trans o2, P2, t1.trans t2, hn2⟩
theorem pairI_pD : ∀ f : List Cell, opAll pairI (f.map pD) = some f
  | [] => rfl
  | p :: f => by
    rw [List.map_cons]
    unfold opAll
    rw [pairI_pD f]
    rfl
theorem sortP_self {F : List Cell} (h : F.Pairwise ltC) : sortP F = F :=
  sorted_ext (sortP_lt (pw_nodup h)) h fun x => sortB_mem
theorem sortU_fl {F : List Cell} (S : Sto) (h : F.Pairwise ltC) : m_sortU [flD F] S = .ok (clD F) S := by
  have e := pairI_pD F
  unfold m_sortU flD
  simp only [e, sortP_self h]
  rfl
theorem sortU_loc {S : Sto} {n : Nat} {f : List Cell} (h : S[n]? = some (.lst (f.map pD))) : m_sortU [.loc n] S = .ok (clD (sortP f)) S := by
  have e := pairI_pD f
  show m_sortQ [.loc n] S = _
  unfold m_sortQ dOf lstOf
  simp only [h, e]
  rfl
theorem stp_left (s : St3) (o : Cell) : (stp s o).left.length ≤ s.left.length := by
  unfold stp
  by_cases c : o ∈ s.left
  · rw [if_pos c]; exact List.length_filter_le _ _
  · rw [if_neg c]; exact Nat.le_refl _
theorem fold_left : ∀ (os : List Cell) (s : St3), (os.foldl stp s).left.length ≤ s.left.length
  | [], s => Nat.le_refl _
  | o :: os, s => Nat.le_trans (fold_left os (stp s o)) (stp_left s o)
theorem dfs_left : ∀ (k : Nat) (s : St3), (dfs k s).left.length ≤ s.left.length
  | 0, s => Nat.le_refl _
  | k + 1, s => by
    unfold dfs
    split
    · exact Nat.le_refl _
    · next p _ => exact Nat.le_trans (dfs_left k (turn s p)) (fold_left _ _)
theorem one1_left (s : List Cell × List (List Cell)) (c : Cell) : (one1 s c).1.length ≤ s.1.length := by
  unfold one1
  split
  · exact Nat.le_trans (dfs_left _ _) (List.length_filter_le _ _)
  · exact Nat.le_refl _
theorem ap_of_same {S S' : Sto} (h : sameTo S.length S S') (hl : S.length ≤ S'.length) : Ap S S' := by
  refine ⟨S'.drop S.length, ?_⟩
  have : S'.take S.length = S := by
    refine List.ext_getElem? fun i => ?_
    by_cases hi : i < S.length
    · rw [List.getElem?_take_of_lt hi, h i hi]
    · rw [List.getElem?_eq_none (by rw [List.length_take]; omega), List.getElem?_eq_none (by omega)]
  conv => lhs; rw [← List.take_append_drop S.length S']
  rw [this]
def ptD (pt : List Cell) : D := clD (sortP pt)
def mOb : SM := (sIf (mT (mOp m_inQ (mVar 1) (mVar 2))) (sSeq (sDel (mVar 2) (mVar 1))
  (sSeq (sPar [4, 5] (mCons (mLstM (mCons (mVar 1) mNil)) (mCons (mLstM (mCons (mVar 1) mNil)) mNil)))
  (sSeq (whileD mWc mWb 402)
  (sExpr (mMeth "list" m_append (mVar 3) (mCons (mCall m_sortU (mCons (mVar 4) mNil)) mNil)))))) sNx)
/-- the store between two parts -/
structure Q4 (S0 S : Sto) (n : Nat) (s : List Cell × List (List Cell)) : Prop where
  lft : ∃ kvs, S[n]? = some (.dT kvs) ∧ Lk kvs s.1
  fnd : S[n + 1]? = some (.lst (s.2.map ptD))
  same : sameTo n S0 S
theorem ob_run {env : Env} {S0 S : Sto} {n : Nat} {s : List Cell × List (List Cell)} {c : Cell} (P : Q4 S0 S n s) (hl : env.length = 7) (a1 : At env 1 (pD c)) (a2 : At env 2 (.loc n)) (a3 : At env 3 (.loc (n + 1))) (z1 : s.1.length ≤ 400) (z2 : s.2.length < 200000) :
    Run (mOb env S) fun f S' => ∃ e2, f = .nx e2 ∧ Oth [4, 5, 6] env e2 ∧ Q4 S0 S' n (one1 s c) := by
  unfold mOb
  obtain ⟨kvs, hk, lk⟩ := P.lft
  have e1 := lk.in_ hk c
  simp only [o_if, o_T, o_op, a1 _, a2 _, e_bind_ok, e1, e_isB]
  unfold one1
  by_cases hc : c ∈ s.1
  · rw [if_pos hc, decide_eq_true hc, if_pos rfl]
    have e2 := lk.del hk hc
    refine run_seq ?_
    simp only [o_del, a1 _, a2 _, e_bind_ok, e2, e_run_ok]
    have h1 : (S.set n (.dT (dropD kvs (keyP c))))[n]? = some (.dT (dropD kvs (keyP c))) := set_at' hk
    have h4 : (S.set n (.dT (dropD kvs (keyP c))))[n + 1]? = some (.lst (s.2.map ptD)) := by rw [List.getElem?_set_ne (by omega)]; exact P.fnd
    have t0 : sameTo n S0 (S.set n (.dT (dropD kvs (keyP c)))) := P.same.trans (sameTo.set (Nat.le_refl _))
    generalize S.set n (.dT (dropD kvs (keyP c))) = S1 at h1 h4 t0
    have hn1 : n + 1 < S1.length := (List.getElem?_eq_some_iff.mp h4).1
    refine run_seq ?_
    simp only [o_par, o_cons, o_nil, o_lstM, a1 _, e_bind_ok, newL, List.length_cons, List.length_nil, Nat.zero_add, Nat.reduceAdd, sizeLine1, if_true, setAll, e_run_ok]
    have hS2 : (S1 ++ [O.lst [pD c]]).length = S1.length + 1 := by simp
    rw [hS2]
    have o1 : Oth [4, 5, 6] env ((env.set 4 (some (D.loc S1.length))).set 5 (some (D.loc (S1.length + 1)))) := ((Oth.refl _ _).set (by simp)).set (by simp)
    have b4 : At ((env.set 4 (some (D.loc S1.length))).set 5 (some (D.loc (S1.length + 1)))) 4 (.loc S1.length) := (At.eq (by rw [hl]; decide)).ne (by decide)
    have b5 : At ((env.set 4 (some (D.loc S1.length))).set 5 (some (D.loc (S1.length + 1)))) 5 (.loc (S1.length + 1)) := At.eq (by rw [List.length_set, hl]; decide)
    generalize ((env.set 4 (some (D.loc S1.length))).set 5 (some (D.loc (S1.length + 1)))) = e3 at o1 b4 b5
    have P1 : P4 (S1 ++ [O.lst [pD c]] ++ [O.lst [pD c]]) n S1.length (S1.length + 1) ⟨s.1.filter (fun x => decide (x ≠ c)), [c], [c]⟩ (s.2.map ptD) := by
      refine ⟨⟨_, ?_, lk.drop c⟩, ?_, ?_, ?_, hn1, Nat.lt_succ_self _⟩
      · rw [List.append_assoc, List.getElem?_append_left (by omega)]; exact h1
      · rw [List.append_assoc, List.getElem?_append_left hn1]; exact h4
      · rw [List.append_assoc, List.getElem?_append_right (Nat.le_refl _)]; simp
      · rw [← hS2]; exact at_snoc _ _
    have t1 : sameTo n S0 (S1 ++ [O.lst [pD c]] ++ [O.lst [pD c]]) := t0.trans fun i hi => by rw [List.append_assoc, List.getElem?_append_left (by omega)]
    have fl : (s.1.filter fun x => decide (x ≠ c)).length < s.1.length := List.length_filter_lt_length_iff_exists.mpr ⟨c, hc, by simp⟩
    refine run_seq ?_
    refine (dfs_run 401 P1 (o1.1.trans hl) (o1.at (by decide) a2) b4 b5 (by simp only [List.length_cons, List.length_nil]; omega) (by simp only [List.length_cons, List.length_nil]; omega) (by decide)).mono ?_
    rintro f S3 ⟨e4, rfl, o4, P2, t2, _⟩
    have o5 : Oth [4, 5, 6] env e4 := o1.trans ⟨o4.1, fun i hi => o4.2 i fun hm => hi (by simp only [List.mem_cons, List.not_mem_nil, or_false] at hm ⊢; omega)⟩
    have c3 := o5.at (by decide) a3
    have c4 := o4.at (by decide) b4
    have es := sortU_loc P2.prt
    have ty : tyD S3 "list" (.loc (n + 1)) = true := by unfold tyD lstOf; simp only [P2.fnd]; rfl
    have ea : ∀ y, m_append (.loc (n + 1)) [y] S3 = .ok .non (S3.set (n + 1) (.lst (s.2.map ptD ++ [y]))) := fun y => e_app P2.fnd (by rw [List.length_map]; exact Nat.lt_of_lt_of_le z2 (by decide))
    show Run (sExpr _ e4 S3) _
    simp only [o_expr, o_meth, o_cons, o_nil, o_call, c3 _, c4 _, e_bind_ok, ty, if_true, es, ea, e_run_ok]
    obtain ⟨kvs2, k1, k2⟩ := P2.lft
    refine ⟨e4, rfl, o5, ⟨kvs2, by rw [List.getElem?_set_ne (by omega)]; exact k1, k2⟩, ?_, (t1.trans t2).trans (sameTo.set (by omega))⟩
    rw [set_at' P2.fnd, List.map_append, List.map_singleton]
    rfl
  · rw [if_neg hc, decide_eq_false hc, if_neg (by decide)]
    simp only [o_nx, e_run_ok]
    exact ⟨env, rfl, Oth.refl _ _, P⟩
theorem fold_one_len (F : List Cell) : ∀ (xs : List Cell) (s : List Cell × List (List Cell)), (xs.foldl one1 s).1.length ≤ s.1.length ∧ (xs.foldl one1 s).2.length ≤ s.2.length + xs.length
  | [], s => ⟨Nat.le_refl _, Nat.le_refl _⟩
  | x :: xs, s => by
    have h1 := one1_left s x
    have h2 := fold_one_len F xs (one1 s x)
    have h3 : (one1 s x).2.length ≤ s.2.length + 1 := by
      unfold one1
      split
      · simp
      · omega
    rw [List.foldl_cons, List.length_cons]
    omega
theorem parts_in_run {F : List Cell} (S : Sto) (h : Flo F) : Run (c_parts_in [flD F] S) fun d S' => d = .loc (S.length + 1) ∧ S'[S.length + 1]? = some (.lst ((partsF F).map ptD)) ∧ Ap S S' := by
  have hz := h.len
  refine run_fn ?_
  unfold m_parts_in
  rw [show env0 7 [flD F] = [some (flD F), none, none, none, none, none, none] from rfl]
  have e1 := lc_mapL' (i := 1) (e := (mTup (mCons (mVar 1) (mCons (mC (.bl true)) mNil)))) (env := [some (flD F), none, none, none, none, none, none]) (vs := [1]) (S := S) pD (fun p => .tup [pD p, .bl true]) F (sz400 (by omega)) (fun p hp => by simp [wipeE])
  have e2 := dict_pairs F S
  have v0 : ∀ S', mVar 0 [some (flD F), none, none, none, none, none, none] S' = .ok (flD F) S' := fun _ => rfl
  have i0 : ∀ S', itAny (flD F) S' = .ok ⟨F.map pD, fun _ => true⟩ S' := fun _ => rfl
  refine run_seq ?_
  simp only [o_par, o_cons, o_nil, o_call, o_lc, o_it, o_lstM, v0, i0, e_bind_ok, e1, e2, newL, List.length_cons, List.length_nil, Nat.zero_add, Nat.reduceAdd, Nat.zero_le, if_true, setAll, e_run_ok]
  have hS2 : (S ++ [O.dT (setD F)]).length = S.length + 1 := by simp
  rw [hS2]
  have ha : ∀ env : Env, env = ([some (flD F), none, none, none, none, none, none].set 2 (some (D.loc S.length))).set 3 (some (D.loc (S.length + 1))) → env.length = 7 ∧ At env 0 (flD F) ∧ At env 2 (.loc S.length) ∧ At env 3 (.loc (S.length + 1)) := by
    rintro env rfl
    exact ⟨rfl, fun _ => rfl, fun _ => rfl, fun _ => rfl⟩
  generalize hE : ([some (flD F), none, none, none, none, none, none].set 2 (some (D.loc S.length))).set 3 (some (D.loc (S.length + 1))) = env
  obtain ⟨hl, a0, a2, a3⟩ := ha env hE.symm
  clear hE ha
  have P0 : Q4 S (S ++ [O.dT (setD F)] ++ [O.lst []]) S.length (F, []) := by
    refine ⟨⟨setD F, ?_, lk_set F⟩, ?_, fun i hi => ?_⟩
    · rw [List.append_assoc, List.getElem?_append_right (Nat.le_refl _)]; simp
    · rw [← hS2]; exact at_snoc _ _
    · rw [List.append_assoc, List.getElem?_append_left hi]
  have es := sortU_fl (S ++ [O.dT (setD F)] ++ [O.lst []]) h.srt
  have ic : ∀ S', itAny (clD F) S' = .ok ⟨F.map pD, fun _ => true⟩ S' := fun _ => rfl
  refine run_seq ?_
  rw [o_for]
  simp only [o_it, o_call, o_cons, o_nil, a0 _, e_bind_ok, es, ic]
  show Run (forD (gN 1) mOb (fun _ => true) (F.map pD) env _) _
  refine run_for (fun i env' S' => Oth [1, 4, 5, 6] env env' ∧ Q4 S S' S.length ((F.take i).foldl one1 (F, []))) ⟨Oth.refl _ _, P0⟩ ?_ ?_
  · rintro i d env' S' hd ⟨o, P⟩
    refine ⟨rfl, ?_⟩
    have hi : i < F.length := by
      have := (List.getElem?_eq_some_iff.mp hd).1
      rwa [List.length_map] at this
    rw [List.getElem?_map, List.getElem?_eq_getElem hi] at hd
    cases Option.some.inj hd
    rw [o_gN, e_run_ok]
    have o1 : Oth [1, 4, 5, 6] env (env'.set 1 (some (pD F[i]))) := o.set (by simp)
    have b1 : At (env'.set 1 (some (pD F[i]))) 1 (pD F[i]) := At.eq (by rw [o.1, hl]; decide)
    generalize env'.set 1 (some (pD F[i])) = e3 at o1 b1
    have fl := fold_one_len F (F.take i) (F, [])
    have tl : (F.take i).length ≤ F.length := by rw [List.length_take]; omega
    refine (ob_run P (o1.1.trans hl) b1 (o1.at (by decide) a2) (o1.at (by decide) a3) (by simp only at fl; omega) (by simp only [List.length_nil] at fl; omega)).mono ?_
    rintro f S2 ⟨e4, rfl, o4, P2⟩
    refine ⟨o1.trans ⟨o4.1, fun j hj => o4.2 j fun hm => hj (by simp only [List.mem_cons, List.not_mem_nil, or_false] at hm ⊢; omega)⟩, ?_⟩
    rw [List.take_succ_eq_append_getElem hi, List.foldl_append]
    exact P2
  · rintro env' S' ⟨o, P⟩
    refine ⟨rfl, ?_⟩
    rw [List.length_map, List.take_length] at P
    have b3 := o.at (by decide) a3
    simp only [o_ret, b3 _, e_bind_ok, e_run_ok]
    have hf := P.fnd
    exact ⟨trivial, hf, ap_of_same P.same (by have := (List.getElem?_eq_some_iff.mp hf).1; omega)⟩
theorem parts_run {F : List Cell} (S : Sto) (h : Flo F) : Run (c_parts [flD F] S) fun d S' => d = .tup ((partsF F).map fun pt => flD (sortP pt)) ∧ Ap S S' := by
  refine run_fn ?_
  unfold m_parts
  rw [show env0 2 [flD F] = [some (flD F), none] from rfl]
  have e1 := need_floor_eq S h
  have v0 : ∀ S', mVar 0 [some (flD F), none] S' = .ok (flD F) S' := fun _ => rfl
  refine run_seq ?_
  simp only [o_expr, o_fn, o_cons, o_nil, v0, e_bind_ok, List.length_cons, List.length_nil, Nat.zero_add, if_true, e1, e_run_ok, o_ret, o_call, o_lc, o_it, e_runbind]
  refine (parts_in_run S h).mono ?_
  rintro d S' ⟨rfl, hS, ap⟩
  have hl := (fold_one_len F F (F, [])).2
  simp only [List.length_nil, Nat.zero_add] at hl
  have h4 := h.len
  have es := lc_gd (tg := gN 1) (t := tmYes) (e := mCall m_tuple (mCons (mVar 1) mNil)) (env := [some (flD F), none]) (vs := [1]) (S := S') ptD (fun pt => flD (sortP pt)) (fun pt => [some (flD F), some (ptD pt)]) (fun _ => true) (gd_self hS) (partsF F) (sz400 (by unfold partsF; omega)) (fun r hr => ⟨rfl, rfl, fun _ => rfl⟩)
  rw [List.filter_eq_self.mpr (by simp)] at es
  have ei := e_itL hS
  simp only [ei, e_bind_ok, es, e_run_ok, e_tupF]
  exact ⟨trivial, ap⟩
/-! ### counting -/
def cpt (s : Cell) (A B : List Cell) : Nat := A.countP fun q => decide (sft s q ∈ B)
def prN (A : List Cell) : Nat := cpt (1, 0) A A + cpt (0, 1) A A
theorem cpt_neg {F : List Cell} (h : F.Nodup) (s : Cell) : cpt s F F = cpt (-s.1, -s.2) F F := by
  have h1 := count_difs (a := F) (b := F) h s
  have h2 := count_difs' (a := F) (b := F) h s
  unfold cpt
  rw [← h1, h2]
  congr 1
theorem near_sft (p : Cell) : nearL p = [sft (-1, 0) p, sft (0, -1) p, sft (0, 1) p, sft (1, 0) p] := by
  have e1 : sft (-1, 0) p = (p.1 - 1, p.2) := Prod.ext (by show p.1 + -1 = p.1 - 1; omega) (by show p.2 + 0 = p.2; omega)
  have e2 : sft (0, -1) p = (p.1, p.2 - 1) := Prod.ext (by show p.1 + 0 = p.1; omega) (by show p.2 + -1 = p.2 - 1; omega)
  have e3 : sft (0, 1) p = (p.1, p.2 + 1) := Prod.ext (by show p.1 + 0 = p.1; omega) rfl
  have e4 : sft (1, 0) p = (p.1 + 1, p.2) := Prod.ext rfl (by show p.2 + 0 = p.2; omega)
  rw [e1, e2, e3, e4]
  rfl
theorem filt4 (P : Cell → Bool) (p : Cell) : ((nearL p).filter fun o => !P o).length + ((if P (sft (-1, 0) p) = true then 1 else 0) + (if P (sft (0, -1) p) = true then 1 else 0) + (if P (sft (0, 1) p) = true then 1 else 0) + (if P (sft (1, 0) p) = true then 1 else 0)) = 4 := by
  rw [near_sft]
  simp only [List.filter_cons, List.filter_nil]
  cases P (sft (-1, 0) p) <;> cases P (sft (0, -1) p) <;> cases P (sft (0, 1) p) <;> cases P (sft (1, 0) p) <;> rfl
theorem sum_ind (P : Cell → Bool) (F : List Cell) : (F.map fun p => if P p = true then 1 else 0).sum = F.countP P := by
  induction F with
  | nil => rfl
  | cons x xs ih =>
    rw [List.map_cons, List.sum_cons, ih, List.countP_cons]
    omega
theorem sum_add4 (f a b c d : Cell → Nat) (F : List Cell) (h : ∀ p, f p + (a p + b p + c p + d p) = 4) : (F.map f).sum + ((F.map a).sum + (F.map b).sum + (F.map c).sum + (F.map d).sum) = 4 * F.length := by
  induction F with
  | nil => rfl
  | cons x xs ih =>
    simp only [List.map_cons, List.sum_cons, List.length_cons]
    have := h x
    omega
theorem sides_pairs {F : List Cell} (h : F.Nodup) : sidesN F + 2 * prN F = 4 * F.length := by
  have e := sum_add4 _ _ _ _ _ F (fun p => filt4 (fun o => decide (o ∈ F)) p)
  have s1 := sum_ind (fun p => decide (sft (-1, 0) p ∈ F)) F
  have s2 := sum_ind (fun p => decide (sft (0, -1) p ∈ F)) F
  have s3 := sum_ind (fun p => decide (sft (0, 1) p ∈ F)) F
  have s4 := sum_ind (fun p => decide (sft (1, 0) p ∈ F)) F
  rw [s1, s2, s3, s4] at e
  have n1 := cpt_neg h (1, 0)
  have n2 := cpt_neg h (0, 1)
  unfold cpt at n1 n2
  unfold sidesN prN cpt
  simp only [Int.neg_zero] at n1 n2
  omega
theorem blk_lt {F : List Cell} (h : Flo F) : blkN F < F.length := by
  unfold blkN
  have hl : 0 < F.length := List.length_pos_iff.mpr h.ne
  have hz : F[F.length - 1]? = some (F[F.length - 1]'(by omega)) := List.getElem?_eq_getElem (by omega)
  generalize hz' : F[F.length - 1]'(by omega) = z at hz
  have hm : z ∈ F := List.mem_of_getElem? hz
  have top : ∀ x ∈ F, ¬ ltC z x := fun x hx hlt => by
    obtain ⟨i, hi, rfl⟩ := List.getElem_of_mem hx
    rcases Nat.lt_trichotomy i (F.length - 1) with c | c | c
    · have := List.pairwise_iff_getElem.mp h.srt i (F.length - 1) hi (by omega) c
      rw [hz'] at this
      exact ltC_asymm this hlt
    · subst c
      rw [hz'] at hlt
      exact ltC_irr _ hlt
    · omega
  refine List.length_filter_lt_length_iff_exists.mpr ⟨z, hm, fun q => ?_⟩
  unfold blkB at q
  simp only [Bool.and_eq_true, decide_eq_true_eq] at q
  exact top _ q.2.1 (.inl (by simp only; omega))
/-! ### pairs that a new cell brings -/
theorem countP_le_of {α : Type} {p q : α → Bool} : ∀ {l : List α}, (∀ x ∈ l, p x = true → q x = true) → l.countP p ≤ l.countP q
  | [], _ => Nat.le_refl _
  | x :: l, h => by
    have ih := countP_le_of (l := l) fun y hy => h y (List.mem_cons_of_mem _ hy)
    rw [List.countP_cons, List.countP_cons]
    have := h x (List.mem_cons_self ..)
    cases hp : p x with
    | false => simp; omega
    | true => rw [this hp]; simp; omega
theorem countP_lt_of {α : Type} {p q : α → Bool} : ∀ {l : List α}, (∀ x ∈ l, p x = true → q x = true) → (∃ x ∈ l, p x = false ∧ q x = true) → l.countP p + 1 ≤ l.countP q
  | [], _, h => by obtain ⟨x, hx, _⟩ := h; cases hx
  | x :: l, h, h2 => by
    rw [List.countP_cons, List.countP_cons]
    obtain ⟨y, hy, hp, hq⟩ := h2
    rcases List.mem_cons.mp hy with e | hy
    · subst e
      have ih := countP_le_of (l := l) fun z hz => h z (List.mem_cons_of_mem _ hz)
      rw [hp, hq]
      simp
      omega
    · have ih := countP_lt_of (l := l) (fun z hz => h z (List.mem_cons_of_mem _ hz)) ⟨y, hy, hp, hq⟩
      have := h x (List.mem_cons_self ..)
      cases hp : p x with
      | false => simp; omega
      | true => rw [this hp]; simp; omega
theorem cpt_snoc (s : Cell) (A : List Cell) (x : Cell) : cpt s (A ++ [x]) (A ++ [x]) = cpt s A (A ++ [x]) + (if sft s x ∈ A ++ [x] then 1 else 0) := by
  unfold cpt
  rw [List.countP_append, List.countP_cons, List.countP_nil]
  simp
theorem cpt_mono (s : Cell) (A : List Cell) (x : Cell) : cpt s A A ≤ cpt s A (A ++ [x]) := by
  unfold cpt
  refine countP_le_of fun y _ h => ?_
  simp only [decide_eq_true_eq] at h ⊢
  exact List.mem_append.mpr (.inl h)
theorem cpt_new {s : Cell} {A : List Cell} {x y : Cell} (hy : y ∈ A) (hx : x ∉ A) (e : x = sft s y) : cpt s A A + 1 ≤ cpt s A (A ++ [x]) := by
  unfold cpt
  refine countP_lt_of (fun y _ h => ?_) ⟨y, hy, ?_, ?_⟩
  · simp only [decide_eq_true_eq] at h ⊢
    exact List.mem_append.mpr (.inl h)
  · rw [← e]
    simpa using hx
  · rw [← e]
    simp
theorem pr_mono (A : List Cell) (x : Cell) : prN A ≤ prN (A ++ [x]) := by
  unfold prN
  rw [cpt_snoc, cpt_snoc]
  have h1 := cpt_mono (1, 0) A x
  have h2 := cpt_mono (0, 1) A x
  omega
theorem pr_new {A : List Cell} {x y : Cell} (hy : y ∈ A) (hx : x ∉ A) (ha : x ∈ nearL y) : prN A + 1 ≤ prN (A ++ [x]) := by
  unfold prN
  rw [cpt_snoc, cpt_snoc]
  have h1 := cpt_mono (1, 0) A x
  have h2 := cpt_mono (0, 1) A x
  rw [near_sft] at ha
  simp only [List.mem_cons, List.not_mem_nil, or_false] at ha
  rcases ha with e | e | e | e
  · have : sft (1, 0) x = y := by rw [e]; exact Prod.ext (by simp [sft]; omega) (by simp [sft])
    rw [this, if_pos (List.mem_append.mpr (.inl hy))]
    omega
  · have : sft (0, 1) x = y := by rw [e]; exact Prod.ext (by simp [sft]) (by simp [sft]; omega)
    rw [this, if_pos (List.mem_append.mpr (.inl hy))]
    omega
  · have := cpt_new (s := (0, 1)) hy hx e
    omega
  · have := cpt_new (s := (1, 0)) hy hx e
    omega
/-! ### the parts: pairs at least cells less parts -/
structure Dv (B : List Cell) (m : Nat) (s : St3) : Prop where
  nd : (B ++ s.part).Nodup
  dj : ∀ x ∈ B ++ s.part, x ∉ s.left
  ln : ∀ x ∈ s.line, x ∈ s.part
  pr : (B ++ s.part).length ≤ prN (B ++ s.part) + m
/-- what one step keeps: the cells together -/
def Tog (U : Cell → Prop) (B : List Cell) (s : St3) : Prop := ∀ x, U x ↔ x ∈ B ++ s.part ∨ x ∈ s.left
theorem stp_dv {B : List Cell} {m : Nat} {U : Cell → Prop} {s : St3} {c o : Cell} (h : Dv B m s) (t : Tog U B s) (hc : c ∈ s.part) (ho : o ∈ nearL c) : Dv B m (stp s o) ∧ Tog U B (stp s o) ∧ c ∈ (stp s o).part := by
  unfold stp
  by_cases q : o ∈ s.left
  · rw [if_pos q]
    have no : o ∉ B ++ s.part := fun z => h.dj o z q
    have e : B ++ (s.part ++ [o]) = (B ++ s.part) ++ [o] := (List.append_assoc ..).symm
    refine ⟨⟨?_, fun x hx => ?_, fun x hx => ?_, ?_⟩, fun x => ?_, List.mem_append.mpr (.inl hc)⟩
    · show (B ++ (s.part ++ [o])).Nodup
      rw [e]
      exact List.nodup_append.mpr ⟨h.nd, by simp, fun a ha b hb hab => by rw [List.mem_singleton] at hb; subst hb; subst hab; exact no ha⟩
    · show x ∉ s.left.filter _
      have hx : x ∈ B ++ (s.part ++ [o]) := hx
      rw [e] at hx
      rw [List.mem_filter]
      rintro ⟨h1, h2⟩
      rcases List.mem_append.mp hx with hx | hx
      · exact h.dj x hx h1
      · rw [List.mem_singleton] at hx
        simp [hx] at h2
    · have hx : x ∈ s.line ++ [o] := hx
      rcases List.mem_append.mp hx with hx | hx
      · exact List.mem_append.mpr (.inl (h.ln x hx))
      · exact List.mem_append.mpr (.inr hx)
    · show (B ++ (s.part ++ [o])).length ≤ prN (B ++ (s.part ++ [o])) + m
      rw [e, List.length_append]
      have := pr_new (A := B ++ s.part) (List.mem_append.mpr (.inr hc)) no ho
      have := h.pr
      simp only [List.length_cons, List.length_nil]
      omega
    · show U x ↔ x ∈ B ++ (s.part ++ [o]) ∨ x ∈ s.left.filter _
      rw [e, t x, List.mem_append (s := B ++ s.part), List.mem_singleton, List.mem_filter, decide_eq_true_eq]
      by_cases z : x = o
      · subst z
        exact ⟨fun _ => .inl (.inr rfl), fun _ => .inr q⟩
      · exact ⟨fun h => h.elim (fun h => .inl (.inl h)) fun h => .inr ⟨h, z⟩, fun h => h.elim (fun h => h.elim .inl fun h => absurd h z) fun h => .inr h.1⟩
  · rw [if_neg q]
    exact ⟨h, t, hc⟩
theorem fold_dv {B : List Cell} {m : Nat} {U : Cell → Prop} {c : Cell} : ∀ (os : List Cell) {s : St3}, Dv B m s → Tog U B s → c ∈ s.part → (∀ o ∈ os, o ∈ nearL c) → Dv B m (os.foldl stp s) ∧ Tog U B (os.foldl stp s)
  | [], s, h, t, _, _ => ⟨h, t⟩
  | o :: os, s, h, t, hc, ho => by
    obtain ⟨h1, t1, c1⟩ := stp_dv h t hc (ho o (List.mem_cons_self ..))
    exact fold_dv os h1 t1 c1 fun o ho' => ho o (List.mem_cons_of_mem _ ho')
theorem turn_dv {B : List Cell} {m : Nat} {U : Cell → Prop} {s : St3} {c : Cell} (h : Dv B m s) (t : Tog U B s) (hc : s.line.getLast? = some c) : Dv B m (turn s c) ∧ Tog U B (turn s c) := by
  unfold turn
  exact fold_dv (nearL c) (s := ⟨s.left, s.part, s.line.dropLast⟩) ⟨h.nd, h.dj, fun x hx => h.ln x (List.dropLast_subset _ hx), h.pr⟩ t (h.ln c (List.mem_of_getLast? hc)) fun o ho => ho
theorem dfs_dv {B : List Cell} {m : Nat} {U : Cell → Prop} : ∀ (k : Nat) {s : St3}, Dv B m s → Tog U B s → Dv B m (dfs k s) ∧ Tog U B (dfs k s)
  | 0, s, h, t => ⟨h, t⟩
  | k + 1, s, h, t => by
    unfold dfs
    split
    · exact ⟨h, t⟩
    · next p q =>
      obtain ⟨h1, t1⟩ := turn_dv h t q
      exact dfs_dv k h1 t1
/-- between two parts -/
structure Bv (F : List Cell) (s : List Cell × List (List Cell)) : Prop where
  nd : s.2.flatten.Nodup
  dj : ∀ x ∈ s.2.flatten, x ∉ s.1
  pr : s.2.flatten.length ≤ prN s.2.flatten + s.2.length
  tg : ∀ x, x ∈ F ↔ x ∈ s.2.flatten ∨ x ∈ s.1
theorem one1_bv {F : List Cell} {s : List Cell × List (List Cell)} {c : Cell} (h : Bv F s) : Bv F (one1 s c) ∧ c ∉ (one1 s c).1 ∧ ∀ x, x ∉ s.1 → x ∉ (one1 s c).1 := by
  unfold one1
  by_cases q : c ∈ s.1
  · rw [if_pos q]
    have no : c ∉ s.2.flatten := fun z => h.dj c z q
    have d0 : Dv s.2.flatten (s.2.length + 1) ⟨s.1.filter (fun x => decide (x ≠ c)), [c], [c]⟩ := by
      refine ⟨List.nodup_append.mpr ⟨h.nd, by simp, fun a ha b hb hab => by rw [List.mem_singleton] at hb; subst hb; subst hab; exact no ha⟩, fun x hx => ?_, fun x hx => hx, ?_⟩
      · rw [List.mem_filter]
        rintro ⟨h1, h2⟩
        rcases List.mem_append.mp hx with hx | hx
        · exact h.dj x hx h1
        · rw [List.mem_singleton] at hx
          simp [hx] at h2
      · have := pr_mono s.2.flatten c
        have := h.pr
        simp only [List.length_append, List.length_cons, List.length_nil]
        omega
    have t0 : Tog (fun x => x ∈ F) s.2.flatten ⟨s.1.filter (fun x => decide (x ≠ c)), [c], [c]⟩ := fun x => by
      show x ∈ F ↔ x ∈ s.2.flatten ++ [c] ∨ x ∈ s.1.filter _
      rw [h.tg x, List.mem_append, List.mem_singleton, List.mem_filter, decide_eq_true_eq]
      by_cases z : x = c
      · subst z
        exact ⟨fun _ => .inl (.inr rfl), fun _ => .inr q⟩
      · exact ⟨fun h => h.elim (fun h => .inl (.inl h)) fun h => .inr ⟨h, z⟩, fun h => h.elim (fun h => h.elim .inl fun h => absurd h z) fun h => .inr h.1⟩
    obtain ⟨h1, t1⟩ := dfs_dv 401 d0 t0
    have ms : ∀ (k : Nat) (s : St3) (x : Cell), x ∈ s.part → x ∈ (dfs k s).part := by
      have m1 : ∀ (s : St3) (o x : Cell), x ∈ s.part → x ∈ (stp s o).part := fun s o x hx => by
        unfold stp
        split
        · exact List.mem_append.mpr (.inl hx)
        · exact hx
      have m2 : ∀ (os : List Cell) (s : St3) (x : Cell), x ∈ s.part → x ∈ (os.foldl stp s).part := fun os => by
        induction os with
        | nil => intro s x hx; exact hx
        | cons o os ih => intro s x hx; exact ih _ x (m1 s o x hx)
      intro k
      induction k with
      | zero => intro s x hx; exact hx
      | succ k ih =>
        intro s x hx
        unfold dfs
        split
        · exact hx
        · exact ih _ x (m2 _ _ x hx)
    have lf : ∀ (k : Nat) (s : St3) (x : Cell), x ∉ s.left → x ∉ (dfs k s).left := by
      have m1 : ∀ (s : St3) (o x : Cell), x ∉ s.left → x ∉ (stp s o).left := fun s o x hx => by
        unfold stp
        split
        · exact fun z => hx (List.mem_filter.mp z).1
        · exact hx
      have m2 : ∀ (os : List Cell) (s : St3) (x : Cell), x ∉ s.left → x ∉ (os.foldl stp s).left := fun os => by
        induction os with
        | nil => intro s x hx; exact hx
        | cons o os ih => intro s x hx; exact ih _ x (m1 s o x hx)
      intro k
      induction k with
      | zero => intro s x hx; exact hx
      | succ k ih =>
        intro s x hx
        unfold dfs
        split
        · exact hx
        · exact ih _ x (m2 _ _ x hx)
    have ef : ∀ pt : List Cell, (s.2 ++ [pt]).flatten = s.2.flatten ++ pt := fun pt => by simp
    have f1 := lf 401 ⟨s.1.filter (fun x => decide (x ≠ c)), [c], [c]⟩ c (by simp)
    have f2 := fun (x : Cell) (hx : x ∉ s.1) => lf 401 ⟨s.1.filter (fun x => decide (x ≠ c)), [c], [c]⟩ x (fun z => hx (List.mem_filter.mp z).1)
    clear ms lf
    generalize dfs 401 ⟨s.1.filter (fun x => decide (x ≠ c)), [c], [c]⟩ = r at h1 t1 f1 f2
    show Bv F (r.left, s.2 ++ [r.part]) ∧ c ∉ r.left ∧ ∀ x, x ∉ s.1 → x ∉ r.left
    refine ⟨⟨?_, ?_, ?_, ?_⟩, f1, f2⟩
    · show (s.2 ++ [r.part]).flatten.Nodup
      rw [ef]; exact h1.nd
    · show ∀ x ∈ (s.2 ++ [r.part]).flatten, x ∉ r.left
      rw [ef]; exact h1.dj
    · show (s.2 ++ [r.part]).flatten.length ≤ prN (s.2 ++ [r.part]).flatten + (s.2 ++ [r.part]).length
      rw [ef, List.length_append (as := s.2)]; exact h1.pr
    · show ∀ x, x ∈ F ↔ x ∈ (s.2 ++ [r.part]).flatten ∨ x ∈ r.left
      rw [ef]; exact t1
  · rw [if_neg q]
    exact ⟨h, q, fun x hx => hx⟩
theorem fold_bv {F : List Cell} : ∀ (xs : List Cell) {s : List Cell × List (List Cell)}, Bv F s → Bv F (xs.foldl one1 s) ∧ (∀ x, x ∉ s.1 → x ∉ (xs.foldl one1 s).1) ∧ ∀ x ∈ xs, x ∉ (xs.foldl one1 s).1
  | [], s, h => ⟨h, fun _ h => h, fun x hx => by cases hx⟩
  | c :: xs, s, h => by
    obtain ⟨h1, h2, h3⟩ := one1_bv (c := c) h
    obtain ⟨g1, g2, g3⟩ := fold_bv xs h1
    refine ⟨g1, fun x hx => g2 x (h3 x hx), fun x hx => ?_⟩
    rcases List.mem_cons.mp hx with e | hx
    · rw [e]; exact g2 c h2
    · exact g3 x hx
theorem cpt_perm {A B : List Cell} (h : A.Perm B) (s : Cell) : cpt s A A = cpt s B B := by
  unfold cpt
  rw [h.countP_eq]
  congr 1
  funext q
  rw [decide_eq_decide]
  exact h.mem_iff
theorem parts_pairs {F : List Cell} (h : F.Nodup) : F.length ≤ prN F + (partsF F).length := by
  have b0 : Bv F (F, []) := ⟨by simp, fun x hx => by simp at hx, by simp, fun x => by simp⟩
  obtain ⟨g1, _, g3⟩ := fold_bv F b0
  have hp : (F.foldl one1 (F, [])).2.flatten.Perm F := by
    refine (List.perm_ext_iff_of_nodup g1.nd h).mpr fun x => ⟨fun hx => (g1.tg x).mpr (.inl hx), fun hx => ?_⟩
    rcases (g1.tg x).mp hx with z | z
    · exact z
    · exact absurd z (g3 x hx)
  have e := g1.pr
  have e1 : prN (F.foldl one1 (F, [])).2.flatten = prN F := by
    unfold prN
    rw [cpt_perm hp, cpt_perm hp]
  rw [e1, hp.length_eq] at e
  exact e
/-! ### all this of a moved floor -/
theorem sft_mem {s c : Cell} {L : List Cell} : sft s c ∈ L.map (sft s) ↔ c ∈ L := by
  constructor
  · intro h
    obtain ⟨x, hx, e⟩ := List.mem_map.mp h
    rw [← sft_inj e]
    exact hx
  · exact fun h => List.mem_map.mpr ⟨c, h, rfl⟩
theorem near_sh (s p : Cell) : nearL (sft s p) = (nearL p).map (sft s) := by
  have e1 : sft s (p.1 - 1, p.2) = ((sft s p).1 - 1, (sft s p).2) := Prod.ext (by show p.1 - 1 + s.1 = p.1 + s.1 - 1; omega) rfl
  have e2 : sft s (p.1, p.2 - 1) = ((sft s p).1, (sft s p).2 - 1) := Prod.ext rfl (by show p.2 - 1 + s.2 = p.2 + s.2 - 1; omega)
  have e3 : sft s (p.1, p.2 + 1) = ((sft s p).1, (sft s p).2 + 1) := Prod.ext rfl (by show p.2 + 1 + s.2 = p.2 + s.2 + 1; omega)
  have e4 : sft s (p.1 + 1, p.2) = ((sft s p).1 + 1, (sft s p).2) := Prod.ext (by show p.1 + 1 + s.1 = p.1 + s.1 + 1; omega) rfl
  unfold nearL
  rw [List.map_cons, List.map_cons, List.map_cons, List.map_cons, List.map_nil, e1, e2, e3, e4]
def St3.mv (s : Cell) (t : St3) : St3 := ⟨t.left.map (sft s), t.part.map (sft s), t.line.map (sft s)⟩
theorem filter_sh (s c : Cell) (L : List Cell) : (L.map (sft s)).filter (fun x => decide (x ≠ sft s c)) = (L.filter fun x => decide (x ≠ c)).map (sft s) := by
  rw [List.filter_map]
  congr 1
  refine List.filter_congr fun x _ => ?_
  simp only [Function.comp, decide_eq_decide]
  exact ⟨fun h e => h (by rw [e]), fun h e => h (sft_inj e)⟩
theorem stp_mv (s : Cell) (t : St3) (o : Cell) : stp (t.mv s) (sft s o) = (stp t o).mv s := by
  unfold stp
  by_cases q : o ∈ t.left
  · rw [if_pos q, if_pos (show sft s o ∈ (t.mv s).left from sft_mem.mpr q)]
    unfold St3.mv
    simp only [List.map_append, List.map_cons, List.map_nil, filter_sh]
  · rw [if_neg q, if_neg (show ¬ sft s o ∈ (t.mv s).left from fun h => q (sft_mem.mp h))]
theorem fold_mv (s : Cell) : ∀ (os : List Cell) (t : St3), (os.map (sft s)).foldl stp (t.mv s) = (os.foldl stp t).mv s
  | [], t => rfl
  | o :: os, t => by
    rw [List.map_cons, List.foldl_cons, List.foldl_cons, stp_mv, fold_mv s os]
theorem turn_mv (s : Cell) (t : St3) (p : Cell) : turn (t.mv s) (sft s p) = (turn t p).mv s := by
  unfold turn
  rw [near_sh, ← fold_mv]
  congr 1
  unfold St3.mv
  simp only [List.map_dropLast]
theorem dfs_mv (s : Cell) : ∀ (k : Nat) (t : St3), dfs k (t.mv s) = (dfs k t).mv s
  | 0, t => rfl
  | k + 1, t => by
    unfold dfs
    have e : (t.mv s).line.getLast? = t.line.getLast?.map (sft s) := by
      show (t.line.map (sft s)).getLast? = _
      rw [List.getLast?_map]
    rw [e]
    cases t.line.getLast? with
    | none => rfl
    | some p =>
      show dfs k (turn (t.mv s) (sft s p)) = (dfs k (turn t p)).mv s
      rw [turn_mv, dfs_mv s k]
def mv2 (s : Cell) (t : List Cell × List (List Cell)) : List Cell × List (List Cell) := (t.1.map (sft s), t.2.map fun pt => pt.map (sft s))
theorem one1_mv (s : Cell) (t : List Cell × List (List Cell)) (c : Cell) : one1 (mv2 s t) (sft s c) = mv2 s (one1 t c) := by
  unfold one1
  by_cases q : c ∈ t.1
  · rw [if_pos q, if_pos (show sft s c ∈ (mv2 s t).1 from sft_mem.mpr q)]
    have e : (⟨(mv2 s t).1.filter (fun x => decide (x ≠ sft s c)), [sft s c], [sft s c]⟩ : St3) = St3.mv s ⟨t.1.filter (fun x => decide (x ≠ c)), [c], [c]⟩ := by
      unfold St3.mv mv2
      simp only [filter_sh, List.map_cons, List.map_nil]
    rw [e, dfs_mv]
    unfold St3.mv mv2
    simp only [List.map_append, List.map_cons, List.map_nil]
  · rw [if_neg q, if_neg (show ¬ sft s c ∈ (mv2 s t).1 from fun h => q (sft_mem.mp h))]
theorem parts_mv (s : Cell) (F : List Cell) : (partsF (F.map (sft s))).length = (partsF F).length := by
  have key : ∀ (xs : List Cell) (t : List Cell × List (List Cell)), (xs.map (sft s)).foldl one1 (mv2 s t) = mv2 s (xs.foldl one1 t) := by
    intro xs
    induction xs with
    | nil => intro t; rfl
    | cons x xs ih => intro t; rw [List.map_cons, List.foldl_cons, List.foldl_cons, one1_mv, ih]
  have := key F (F, [])
  unfold partsF
  have e : mv2 s (F, []) = (F.map (sft s), []) := rfl
  rw [e] at this
  rw [this]
  unfold mv2
  simp
theorem sides_mv (s : Cell) (F : List Cell) : sidesN (F.map (sft s)) = sidesN F := by
  unfold sidesN
  rw [List.map_map]
  congr 1
  refine List.map_congr_left fun p _ => ?_
  simp only [Function.comp]
  rw [near_sh, List.filter_map, List.length_map]
  congr 1
  refine List.filter_congr fun o _ => ?_
  simp only [Function.comp]
  congr 1
  rw [decide_eq_decide]
  exact sft_mem
theorem blk_mv (s : Cell) (F : List Cell) : blkN (F.map (sft s)) = blkN F := by
  unfold blkN
  rw [List.filter_map, List.length_map]
  congr 1
  refine List.filter_congr fun p _ => ?_
  simp only [Function.comp]
  unfold blkB
  have e1 : ((sft s p).1, (sft s p).2 + 1) = sft s (p.1, p.2 + 1) := Prod.ext rfl (by show p.2 + s.2 + 1 = p.2 + 1 + s.2; omega)
  have e2 : ((sft s p).1 + 1, (sft s p).2) = sft s (p.1 + 1, p.2) := Prod.ext (by show p.1 + s.1 + 1 = p.1 + 1 + s.1; omega) rfl
  have e3 : ((sft s p).1 + 1, (sft s p).2 + 1) = sft s (p.1 + 1, p.2 + 1) := Prod.ext (by show p.1 + s.1 + 1 = p.1 + 1 + s.1; omega) (by show p.2 + s.2 + 1 = p.2 + 1 + s.2; omega)
  rw [e1, e2, e3]
  simp only [sft_mem]
def mR0 : SM := (sAsg (mOp m_add (mCall m_len (mCons (mLc (mIt itAny (mVar 0)) (gT 2 (gsC (gN 1) (gsC (gN 2) gsN))) (mT (mOp m_in (mTup (mCons (mOp m_add (mVar 1) (mC (.int 1))) (mCons (mVar 2) mNil))) (mVar 0))) (mC (.int 1)) [1, 2]) mNil)) (mCall m_len (mCons (mLc (mIt itAny (mVar 0)) (gT 2 (gsC (gN 1) (gsC (gN 2) gsN))) (mT (mOp m_in (mTup (mCons (mVar 1) (mCons (mOp m_add (mVar 2) (mC (.int 1))) mNil))) (mVar 0))) (mC (.int 1)) [1, 2]) mNil))) (gN 3))
def mR1 : SM := (sAsg (mC (.int 0)) (gN 4))
def mR2 : SM := (sFor (mIt itAny (mVar 0)) (gT 2 (gsC (gN 1) (gsC (gN 2) gsN))) (sSeq (sAsg (mLst (mCons (mTup (mCons (mVar 1) (mCons (mOp m_add (mVar 2) (mC (.int 1))) mNil))) (mCons (mTup (mCons (mOp m_add (mVar 1) (mC (.int 1))) (mCons (mVar 2) mNil))) (mCons (mTup (mCons (mOp m_add (mVar 1) (mC (.int 1))) (mCons (mOp m_add (mVar 2) (mC (.int 1))) mNil))) mNil)))) (gN 5))
  (sAsg (mOp m_add (mVar 4) (mIfE (mT (mOp m_eq (mLc (mIt itAny (mVar 5)) (gN 9) (mT (mOp m_notin (mVar 9) (mVar 0))) (mC (.int 1)) [9]) (mLst mNil))) (mC (.int 1)) (mC (.int 0)))) (gN 4))))
def mR3 : SM := (sPar [6, 7] (mCons (mLc (mIt itAny (mVar 0)) (gT 2 (gsC (gN 1) (gsC (gN 2) gsN))) tmYes (mVar 1) [1, 2]) (mCons (mLc (mIt itAny (mVar 0)) (gT 2 (gsC (gN 1) (gsC (gN 2) gsN))) tmYes (mVar 2) [1, 2]) mNil)))
def mR4 : SM := (sAsg (mLst (mCons (mFn 1 c_rim_many (mCons (mVar 0) mNil)) (mCons (mFn 1 c_side_pairs (mCons (mVar 0) mNil)) (mCons (mFn 1 c_blocks (mCons (mVar 0) mNil)) (mCons (mFn 1 c_box (mCons (mVar 0) mNil)) mNil))))) (gN 8))
def mR5 : SM := (sIf (mNot (mT (mFn 2 c__law_same (mCons (mVar 8) (mCons (mLst (mCons (mOp m_sub (mOp m_mul (mC (.int 4)) (mCall m_len (mCons (mVar 0) mNil))) (mOp m_mul (mC (.int 2)) (mVar 3))) (mCons (mVar 3) (mCons (mVar 4) (mCons (mTup (mCons (mCall m_min (mCons (mVar 6) mNil)) (mCons (mCall m_min (mCons (mVar 7) mNil)) (mCons (mCall m_max (mCons (mVar 6) mNil)) (mCons (mCall m_max (mCons (mVar 7) mNil)) mNil))))) mNil))))) mNil))))) (sRet (mC (.bl false))) sNx)
def mR6 : SM := (sRet (mAndV (mOp m_lt (mVar 4) (mCall m_len (mCons (mVar 0) mNil))) (mOp m_ge (mVar 3) (mOp m_sub (mCall m_len (mCons (mVar 0) mNil)) (mCall m_len (mCons (mFn 1 c_parts (mCons (mVar 0) mNil)) mNil))))))
theorem _law_right_chain : m__law_right = (sSeq mR0 (sSeq mR1 (sSeq mR2 (sSeq mR3 (sSeq mR4 (sSeq mR5 mR6)))))) := rfl
theorem cpt_len (F : List Cell) : (F.filter fun p => decide ((p.1 + 1, p.2) ∈ F)).length = cpt (1, 0) F F ∧ (F.filter fun p => decide ((p.1, p.2 + 1) ∈ F)).length = cpt (0, 1) F F := by
  unfold cpt
  rw [List.countP_eq_length_filter, List.countP_eq_length_filter]
  constructor
  · congr 1
    refine List.filter_congr fun p _ => ?_
    have e4 : sft (1, 0) p = (p.1 + 1, p.2) := Prod.ext rfl (by show p.2 + 0 = p.2; omega)
    rw [e4]
  · congr 1
    refine List.filter_congr fun p _ => ?_
    have e3 : sft (0, 1) p = (p.1, p.2 + 1) := Prod.ext (by show p.1 + 0 = p.1; omega) rfl
    rw [e3]
theorem r0_run {F : List Cell} {env : Env} {S : Sto} (hl : env.length = 10) (a0 : At env 0 (flD F)) (hz : F.length ≤ 200000) : mR0 env S = .ok (.nx (env.set 3 (some (.int (prN F : Nat))))) S := by
  unfold mR0
  obtain ⟨c1, c2⟩ := cpt_len F
  have i0 : ∀ S', itAny (flD F) S' = .ok ⟨F.map pD, fun _ => true⟩ S' := fun _ => rfl
  have lw : ∀ a b : D, ((wipeE env [1, 2]).set 1 (some a)).length = 10 := fun a b => by simp [wipeE, hl]
  have at0 : ∀ p : Cell, At (((wipeE env [1, 2]).set 1 (some (.int p.1))).set 2 (some (.int p.2))) 0 (flD F) := fun p => ((((a0.ne (show 2 ≠ 0 by decide)).ne (show 1 ≠ 0 by decide)).ne (show 1 ≠ 0 by decide)).ne (show 2 ≠ 0 by decide))
  have at1 : ∀ p : Cell, At (((wipeE env [1, 2]).set 1 (some (.int p.1))).set 2 (some (.int p.2))) 1 (.int p.1) := fun p => (At.eq (by simp [wipeE, hl])).ne (by decide)
  have at2 : ∀ p : Cell, At (((wipeE env [1, 2]).set 1 (some (.int p.1))).set 2 (some (.int p.2))) 2 (.int p.2) := fun p => At.eq (by simp [wipeE, hl])
  have q : ∀ a b : Int, m_in (.tup [.int a, .int b]) (flD F) S = .ok (.bl (decide ((a, b) ∈ F))) S := fun a b => in_in (a, b) F S
  have e1 := lc_mapG (tg := gT 2 (gsC (gN 1) (gsC (gN 2) gsN))) (t := (mT (mOp m_in (mTup (mCons (mOp m_add (mVar 1) (mC (.int 1))) (mCons (mVar 2) mNil))) (mVar 0)))) (e := mC (.int 1)) (env := env) (vs := [1, 2]) (S := S) pD (fun _ => .int 1) (fun p => ((wipeE env [1, 2]).set 1 (some (.int p.1))).set 2 (some (.int p.2))) (fun p => decide ((p.1 + 1, p.2) ∈ F)) F (sz400 hz) (fun p hp => by
    refine ⟨gT_pD .., ?_, fun _ => rfl⟩
    simp only [o_T, o_op, o_tup, o_cons, o_nil, o_C, at0 p _, at1 p _, at2 p _, e_bind_ok, e_add, List.length_cons, List.length_nil, Nat.zero_add, Nat.reduceAdd, sizeLine2, if_true, q, e_isB])
  have e2 := lc_mapG (tg := gT 2 (gsC (gN 1) (gsC (gN 2) gsN))) (t := (mT (mOp m_in (mTup (mCons (mVar 1) (mCons (mOp m_add (mVar 2) (mC (.int 1))) mNil))) (mVar 0)))) (e := mC (.int 1)) (env := env) (vs := [1, 2]) (S := S) pD (fun _ => .int 1) (fun p => ((wipeE env [1, 2]).set 1 (some (.int p.1))).set 2 (some (.int p.2))) (fun p => decide ((p.1, p.2 + 1) ∈ F)) F (sz400 hz) (fun p hp => by
    refine ⟨gT_pD .., ?_, fun _ => rfl⟩
    simp only [o_T, o_op, o_tup, o_cons, o_nil, o_C, at0 p _, at1 p _, at2 p _, e_bind_ok, e_add, List.length_cons, List.length_nil, Nat.zero_add, Nat.reduceAdd, sizeLine2, if_true, q, e_isB])
  have hs : ((cpt (1, 0) F F : Nat) : Int) + ((cpt (0, 1) F F : Nat) : Int) = ((prN F : Nat) : Int) := by unfold prN; omega
  simp only [o_asg, o_op, o_call, o_cons, o_nil, o_lc, o_it, a0 _, i0, e_bind_ok, e1, e2, e_lenF, List.length_map, c1, c2, e_add, hs, o_gN]
theorem sq_blk (F : List Cell) (p : Cell) : (([(p.1, p.2 + 1), (p.1 + 1, p.2), (p.1 + 1, p.2 + 1)] : List Cell).filter fun o => !decide (o ∈ F)).isEmpty = blkB F p := by
  unfold blkB
  simp only [List.filter_cons, List.filter_nil]
  cases decide ((p.1, p.2 + 1) ∈ F) <;> cases decide ((p.1 + 1, p.2) ∈ F) <;> cases decide ((p.1 + 1, p.2 + 1) ∈ F) <;> rfl
theorem r2_run {F : List Cell} {env : Env} {S : Sto} (hl : env.length = 10) (a0 : At env 0 (flD F)) (a4 : At env 4 (.int 0)) : Run (mR2 env S) fun f S' => ∃ e2, f = .nx e2 ∧ S' = S ∧ Oth [1, 2, 4, 5] env e2 ∧ At e2 4 (.int (blkN F : Nat)) := by
  unfold mR2
  have i0 : ∀ S', itAny (flD F) S' = .ok ⟨F.map pD, fun _ => true⟩ S' := fun _ => rfl
  rw [o_for]
  simp only [o_it, a0 _, i0, e_bind_ok]
  refine (count_for (vs := [1, 2, 4, 5]) (blkB F) (by simp) a4 ?_).mono (fun _ _ h => h)
  intro p env1 y o1 b4 hp
  rw [gT_pD, e_run_ok]
  have l1 : env1.length = 10 := o1.1.trans hl
  have o2 : Oth [1, 2, 4, 5] env ((env1.set 1 (some (.int p.1))).set 2 (some (.int p.2))) := (o1.set (by simp)).set (by simp)
  have b1 : At ((env1.set 1 (some (.int p.1))).set 2 (some (.int p.2))) 1 (.int p.1) := (At.eq (by rw [l1]; decide)).ne (by decide)
  have b2 : At ((env1.set 1 (some (.int p.1))).set 2 (some (.int p.2))) 2 (.int p.2) := At.eq (by rw [List.length_set, l1]; decide)
  have b4 : At ((env1.set 1 (some (.int p.1))).set 2 (some (.int p.2))) 4 (.int y) := (b4.ne (by decide)).ne (by decide)
  generalize ((env1.set 1 (some (.int p.1))).set 2 (some (.int p.2))) = e2 at o2 b1 b2 b4
  have l2 : e2.length = 10 := o2.1.trans hl
  refine run_seq ?_
  simp only [o_asg, o_lst, o_tup, o_cons, o_nil, o_op, o_C, b1 _, b2 _, e_bind_ok, e_add, List.length_cons, List.length_nil, Nat.zero_add, Nat.reduceAdd, sizeLine2, sizeLine3, if_true, o_gN, e_run_ok]
  have o3 : Oth [1, 2, 4, 5] env (e2.set 5 (some (.fzl [.tup [.int p.1, .int (p.2 + 1)], .tup [.int (p.1 + 1), .int p.2], .tup [.int (p.1 + 1), .int (p.2 + 1)]]))) := o2.set (by simp)
  have c5 : At (e2.set 5 (some (.fzl [.tup [.int p.1, .int (p.2 + 1)], .tup [.int (p.1 + 1), .int p.2], .tup [.int (p.1 + 1), .int (p.2 + 1)]]))) 5 (clD [(p.1, p.2 + 1), (p.1 + 1, p.2), (p.1 + 1, p.2 + 1)]) := At.eq (by rw [l2]; decide)
  have c4 : At (e2.set 5 (some (.fzl [.tup [.int p.1, .int (p.2 + 1)], .tup [.int (p.1 + 1), .int p.2], .tup [.int (p.1 + 1), .int (p.2 + 1)]]))) 4 (.int y) := b4.ne (by decide)
  generalize (e2.set 5 (some (.fzl [.tup [.int p.1, .int (p.2 + 1)], .tup [.int (p.1 + 1), .int p.2], .tup [.int (p.1 + 1), .int (p.2 + 1)]]))) = e3 at o3 c5 c4
  have c0 := o3.at (by decide) a0
  have l3 : e3.length = 10 := o3.1.trans hl
  have es := lc_mapG (tg := gN 9) (t := (mT (mOp m_notin (mVar 9) (mVar 0)))) (e := mC (.int 1)) (env := e3) (vs := [9]) (S := S) pD (fun _ => .int 1) (fun o => e3.set 9 (some (pD o))) (fun o => !decide (o ∈ F)) [(p.1, p.2 + 1), (p.1 + 1, p.2), (p.1 + 1, p.2 + 1)] (sz400 (by simp)) (fun o ho => by
    refine ⟨by rw [o_gN, wipe1], ?_, fun _ => rfl⟩
    have w0 : ∀ S, mVar 0 (e3.set 9 (some (pD o))) S = .ok (flD F) S := c0.ne (by decide)
    have w9 : ∀ S, mVar 9 (e3.set 9 (some (pD o))) S = .ok (pD o) S := fun S => var_eq (by rw [l3]; decide)
    simp only [o_T, o_op, w0, w9, e_bind_ok, notinQ_in, e_isB])
  have ic : ∀ (f : List Cell) S', itAny (clD f) S' = .ok ⟨f.map pD, fun _ => true⟩ S' := fun _ _ => rfl
  have eo := e_eqOnes (([(p.1, p.2 + 1), (p.1 + 1, p.2), (p.1 + 1, p.2 + 1)] : List Cell).filter fun o => !decide (o ∈ F)) S
  rw [sq_blk] at eo
  have cut : ∀ S, ((mIfE (mT (mOp m_eq (mLc (mIt itAny (mVar 5)) (gN 9) (mT (mOp m_notin (mVar 9) (mVar 0))) (mC (.int 1)) [9]) (mLst mNil))) (mC (.int 1)) (mC (.int 0))) e3 S) = (mIfE (mT (mOp m_eq (mLc (mIt itAny (mVar 5)) (gN 9) (mT (mOp m_notin (mVar 9) (mVar 0))) (mC (.int 1)) [9]) (mLst mNil))) (mC (.int 1)) (mC (.int 0))) e3 S := fun _ => rfl
  clear cut
  simp only [o_asg, o_op, o_ifE, o_T, o_lc, o_it, o_lst, o_nil, o_C, c4 _, c5 _, ic, e_bind_ok, es, List.length_nil, Nat.zero_le, if_true, eo, e_isB]
  cases blkB F p with
  | true =>
    simp only [if_true, e_bind_ok, e_add, o_gN, e_run_ok]
    exact ⟨_, rfl, trivial, o3.set (by simp), At.eq (by rw [l3]; decide)⟩
  | false =>
    simp only [Bool.false_eq_true, if_false, e_bind_ok, e_add, o_gN, e_run_ok]
    exact ⟨_, rfl, trivial, o3.set (by simp), At.eq (by rw [l3]; decide)⟩
theorem right_run {F : List Cell} (S : Sto) (h : Flo F) : Run (c__law_right [flD F] S) fun d S' => d = .bl true ∧ Ap S S' := by
  have hz := h.len
  obtain ⟨a1, a2, b1, b2, B⟩ := bo_of h
  refine run_fn ?_
  rw [_law_right_chain]
  have ha : ∀ env : Env, env = [some (flD F), none, none, none, none, none, none, none, none, none] → env.length = 10 ∧ At env 0 (flD F) := by
    rintro env rfl
    exact ⟨rfl, fun _ => rfl⟩
  rw [show env0 10 [flD F] = [some (flD F), none, none, none, none, none, none, none, none, none] from rfl]
  generalize hE : [some (flD F), none, none, none, none, none, none, none, none, none] = env
  obtain ⟨hl, c0⟩ := ha env hE.symm
  clear hE ha
  refine run_seq ?_
  rw [r0_run hl c0 (by omega), e_run_ok]
  have o1 : Oth [3, 4] env ((env.set 3 (some (.int (prN F : Nat)))).set 4 (some (.int 0))) := ((Oth.refl _ _).set (by simp)).set (by simp)
  have d3 : At ((env.set 3 (some (.int (prN F : Nat)))).set 4 (some (.int 0))) 3 (.int (prN F : Nat)) := (At.eq (by rw [hl]; decide)).ne (by decide)
  have d4 : At ((env.set 3 (some (.int (prN F : Nat)))).set 4 (some (.int 0))) 4 (.int 0) := At.eq (by rw [List.length_set, hl]; decide)
  refine run_seq ?_
  unfold mR1
  simp only [o_asg, o_C, e_bind_ok, o_gN, e_run_ok]
  generalize ((env.set 3 (some (.int (prN F : Nat)))).set 4 (some (.int 0))) = e1 at o1 d3 d4
  have l1 : e1.length = 10 := o1.1.trans hl
  have d0 := o1.at (by decide) c0
  refine run_seq ?_
  refine (r2_run l1 d0 d4).mono ?_
  rintro f S1 ⟨e2, rfl, rfl, o2, d4⟩
  have l2 : e2.length = 10 := o2.1.trans l1
  have d0 := o2.at (by decide) d0
  have d3 := o2.at (by decide) d3
  show Run (sSeq mR3 _ e2 S1) _
  refine run_seq ?_
  unfold mR3
  have i0 : ∀ S', itAny (flD F) S' = .ok ⟨F.map pD, fun _ => true⟩ S' := fun _ => rfl
  obtain ⟨q1, q2⟩ := rows_lc (tg := gN 0) (i := 1) (j := 2) (F := F) (env := e2) (S := S1) (by decide) (by rw [l2]; decide) (by omega)
  simp only [o_par, o_cons, o_nil, o_lc, o_it, d0 _, i0, e_bind_ok, q1, q2, List.length_cons, List.length_nil, Nat.zero_add, Nat.reduceAdd, if_true, setAll, e_run_ok]
  have o3 : Oth [6, 7] e2 ((e2.set 6 (some (rwD F))).set 7 (some (coD F))) := ((Oth.refl _ _).set (by simp)).set (by simp)
  have d6 : At ((e2.set 6 (some (rwD F))).set 7 (some (coD F))) 6 (rwD F) := (At.eq (by rw [l2]; decide)).ne (by decide)
  have d7 : At ((e2.set 6 (some (rwD F))).set 7 (some (coD F))) 7 (coD F) := At.eq (by rw [List.length_set, l2]; decide)
  show Run (sSeq mR4 _ ((e2.set 6 (some (rwD F))).set 7 (some (coD F))) S1) _
  generalize ((e2.set 6 (some (rwD F))).set 7 (some (coD F))) = e3 at o3 d6 d7
  have l3 : e3.length = 10 := o3.1.trans l2
  have d0 := o3.at (by decide) d0
  have d3 := o3.at (by decide) d3
  have d4 := o3.at (by decide) d4
  have t1 := rim_many_eq S1 h
  have t2 := fun S => side_pairs_eq S h
  have t3 := fun S => blocks_eq S h
  have t4 := fun S => box_eq S h B
  have sp := sides_pairs h.nodup
  have v1 : ((4 * (F.length : Int) - (sidesN F : Nat)) / 2) = ((prN F : Nat) : Int) := by omega
  have v2 : ((sidesN F : Nat) : Int) = 4 * (F.length : Int) - 2 * ((prN F : Nat) : Int) := by omega
  refine run_seq ?_
  unfold mR4
  simp only [o_asg, o_lst, o_cons, o_nil, o_fn, d0 _, e_bind_ok, List.length_cons, List.length_nil, Nat.zero_add, Nat.reduceAdd, if_true, t1, t2, t3, t4, sizeLine4, o_gN, e_run_ok]
  rw [v1, v2]
  have apS : Ap S1 (S1 ++ [O.dT (setD F)] ++ [O.dT (setD F)] ++ [O.dT (setD F)]) := (((Ap.refl _).app _).app _).app _
  generalize S1 ++ [O.dT (setD F)] ++ [O.dT (setD F)] ++ [O.dT (setD F)] = S2 at apS
  generalize hT : (D.fzl [.int (4 * (F.length : Int) - 2 * ((prN F : Nat) : Int)), .int ((prN F : Nat) : Int), .int (blkN F : Nat), .tup [.int a1, .int a2, .int b1, .int b2]]) = told
  have d8 : At (e3.set 8 (some told)) 8 told := At.eq (by rw [l3]; decide)
  have d0 : At (e3.set 8 (some told)) 0 (flD F) := d0.ne (by decide)
  have d3 : At (e3.set 8 (some told)) 3 (.int (prN F : Nat)) := d3.ne (by decide)
  have d4 : At (e3.set 8 (some told)) 4 (.int (blkN F : Nat)) := d4.ne (by decide)
  have d6 : At (e3.set 8 (some told)) 6 (rwD F) := d6.ne (by decide)
  have d7 : At (e3.set 8 (some told)) 7 (coD F) := d7.ne (by decide)
  generalize e3.set 8 (some told) = e4 at d8 d0 d3 d4 d6 d7
  have n1 := len_flD F
  have u1 : ∀ S, m_mul (.int 4) (.int (F.length : Nat)) S = .ok (.int (4 * (F.length : Int))) S := fun S => e_mul (.inl (by omega))
  have u2 : ∀ S, m_mul (.int 2) (.int (prN F : Nat)) S = .ok (.int (2 * ((prN F : Nat) : Int))) S := fun S => e_mul (.inl (by omega))
  have ks : okS 7 told = true := by rw [← hT]; rfl
  have se := same_eq S2 ks
  refine run_seq ?_
  unfold mR5
  simp only [o_if, o_not, o_T, o_fn, o_lst, o_tup, o_call, o_cons, o_nil, o_op, o_C, d0 _, d3 _, d4 _, d6 _, d7 _, d8 _, n1, u1, u2, e_sub, B.m1, B.m2, B.x1, B.x2, e_bind_ok, List.length_cons, List.length_nil, Nat.zero_add, Nat.reduceAdd, sizeLine4, if_true, hT, se, e_isB, Bool.not_true, Bool.false_eq_true, if_false, o_nx, e_run_ok]
  have bl := blk_lt h
  have pp := parts_pairs h.nodup
  have w1 : decide (((blkN F : Nat) : Int) < (F.length : Int)) = true := by simpa using bl
  unfold mR6
  simp only [o_ret, o_andV, o_op, o_call, o_cons, o_nil, o_fn, d0 _, d3 _, d4 _, n1, e_lt, e_bind_ok, w1, e_isB, if_true, List.length_cons, List.length_nil, Nat.zero_add, e_runbind]
  refine (parts_run S2 h).mono ?_
  rintro d S3 ⟨rfl, ap⟩
  have w2 : decide ((F.length : Int) - ((partsF F).length : Nat) ≤ ((prN F : Nat) : Int)) = true := by
    rw [decide_eq_true_eq]
    omega
  simp only [e_run_ok, e_bind_ok, e_lenT, List.length_map, e_sub, e_ge, w2]
  exact ⟨trivial, apS.trans ap⟩
def mA0 : SM := (sAsg (mFn 1 c__law_cup (mCons (mVar 0) mNil)) (gN 1))
def mB1_0 : SM := (sAsg (mFn 4 c__law_floor (mCons (mVar 1) (mCons (mOp m_add (mC (.int 1)) (mFn 2 c__law_roll (mCons (mVar 1) (mCons (mC (.int 7)) mNil)))) (mCons (mOp m_add (mC (.int 1)) (mFn 2 c__law_roll (mCons (mVar 1) (mCons (mC (.int 7)) mNil)))) (mCons (mFn 2 c__law_some (mCons (mVar 1) (mCons (mLst (mCons (mC (.int 3)) (mCons (mC (.int 5)) (mCons (mC (.int 6)) (mCons (mC (.int 7)) mNil))))) mNil))) mNil))))) (gN 3))
def mB1_1 : SM := (sIf (mNot (mT (mFn 1 c__law_right (mCons (mVar 3) mNil)))) (sRet (mC (.bl false))) sNx)
def mB1_2 : SM := (sAsg (mFn 1 c_box (mCons (mVar 3) mNil)) (gT 4 (gsC (gN 4) (gsC (gN 5) (gsC (gN 6) (gsC (gN 7) gsN))))))
def mB1_3 : SM := (sAsg (mTup (mCons (mOp m_sub (mFn 2 c__law_roll (mCons (mVar 1) (mCons (mOp m_add (mOp m_sub (mC (.int 60)) (mVar 6)) (mVar 4)) mNil))) (mVar 4)) (mCons (mOp m_sub (mFn 2 c__law_roll (mCons (mVar 1) (mCons (mOp m_add (mOp m_sub (mC (.int 60)) (mVar 7)) (mVar 5)) mNil))) (mVar 5)) mNil))) (gT 2 (gsC (gN 8) (gsC (gN 9) gsN))))
def mB1_4 : SM := (sAsg (mFn 3 c_moved (mCons (mVar 3) (mCons (mVar 8) (mCons (mVar 9) mNil)))) (gN 10))
def mB1_5 : SM := (sIf (mOr (mNot (mT (mFn 2 c__law_same (mCons (mVar 10) (mCons (mCall m_tuple (mCons (mLc (mIt itAny (mVar 3)) (gT 2 (gsC (gN 11) (gsC (gN 12) gsN))) tmYes (mTup (mCons (mOp m_add (mVar 11) (mVar 8)) (mCons (mOp m_add (mVar 12) (mVar 9)) mNil))) [11, 12]) mNil)) mNil))))) (mNot (mT (mFn 2 c__law_same (mCons (mFn 3 c_moved (mCons (mVar 10) (mCons (mUn m_neg (mVar 8)) (mCons (mUn m_neg (mVar 9)) mNil)))) (mCons (mVar 3) mNil)))))) (sRet (mC (.bl false))) sNx)
def mB1_6 : SM := (sAsg (mLc (mIt itAny (mTup (mCons (mVar 3) (mCons (mVar 10) mNil)))) (gN 19) tmYes (mLst (mCons (mFn 1 c_rim_many (mCons (mVar 19) mNil)) (mCons (mFn 1 c_side_pairs (mCons (mVar 19) mNil)) (mCons (mFn 1 c_blocks (mCons (mVar 19) mNil)) (mCons (mCall m_len (mCons (mFn 1 c_parts (mCons (mVar 19) mNil)) mNil)) mNil))))) [19]) (gN 13))
def mB1_7 : SM := (sIf (mT (mOp m_ne (mOp m_ix (mVar 13) (mC (.int 0))) (mOp m_ix (mVar 13) (mC (.int 1))))) (sRet (mC (.bl false))) sNx)
def mB1 : SM := (sSeq mB1_0 (sSeq mB1_1 (sSeq mB1_2 (sSeq mB1_3 (sSeq mB1_4 (sSeq mB1_5 (sSeq mB1_6 mB1_7)))))))
def mA1 : SM := (sFor (mItA itR1 (mCons (mC (.int 3)) mNil)) (gN 2) mB1)
def mA2 : SM := (sPar [14, 15] (mCons (mOp m_add (mC (.int 1)) (mFn 2 c__law_roll (mCons (mVar 1) (mCons (mC (.int 5)) mNil)))) (mCons (mLst mNil) mNil)))
def mA3 : SM := (sFor (mItA itR1 (mCons (mOp m_sub (mOp m_mul (mC (.int 4)) (mVar 14)) (mC (.int 1))) mNil)) (gN 11) (sFor (mItA itR1 (mCons (mOp m_sub (mOp m_mul (mC (.int 4)) (mVar 14)) (mC (.int 1))) mNil)) (gN 12) (sSeq (sAsg (mCall m_min4 (mCons (mVar 11) (mCons (mVar 12) (mCons (mOp m_sub (mOp m_sub (mOp m_mul (mC (.int 4)) (mVar 14)) (mC (.int 2))) (mVar 11)) (mCons (mOp m_sub (mOp m_sub (mOp m_mul (mC (.int 4)) (mVar 14)) (mC (.int 2))) (mVar 12)) mNil))))) (gN 16))
  (sAsg (mOp m_add (mVar 15) (mIfE (mT (mOp m_eq (mOp m_mod (mCall m_int (mCons (mVar 16) mNil)) (mC (.int 2))) (mC (.int 0)))) (mLst (mCons (mTup (mCons (mVar 11) (mCons (mVar 12) mNil))) mNil)) (mLst mNil))) (gN 15)))))
def mA4 : SM := (sAsg (mCall m_tuple (mCons (mCall m_sortQ (mCons (mVar 15) mNil)) mNil)) (gN 17))
def mA5 : SM := (sAsg (mCall m_tuple (mCons (mLc (mIt itAny (mVar 17)) (gT 2 (gsC (gN 11) (gsC (gN 12) gsN))) tmYes (mTup (mCons (mOp m_add (mVar 11) (mC (.int 40))) (mCons (mOp m_add (mVar 12) (mC (.int 40))) mNil))) [11, 12]) mNil)) (gN 18))
def mA6 : SM := (sIf (mOr (mT (mOp m_gt (mCall m_len (mCons (mVar 17) mNil)) (mC (.int 400)))) (mT (mOp m_gt (mOp m_ix (mOp m_ix (mVar 18) (mUn m_neg (mC (.int 1)))) (mC (.int 0))) (mC (.int 59))))) (sRet (mFn 1 c__law_right (mCons (mFn 2 c__law_grown (mCons (mVar 1) (mCons (mC (.int 30)) mNil))) mNil))) sNx)
def mA7 : SM := (sRet (mFn 2 c__law_same (mCons (mLst (mCons (mCall m_len (mCons (mFn 1 c_parts (mCons (mVar 17) mNil)) mNil)) (mCons (mFn 1 c_side_pairs (mCons (mVar 17) mNil)) (mCons (mFn 3 c_moved (mCons (mVar 17) (mCons (mC (.int 40)) (mCons (mC (.int 40)) mNil)))) mNil)))) (mCons (mLst (mCons (mVar 14) (mCons (mCall m_len (mCons (mVar 17) mNil)) (mCons (mVar 18) mNil)))) mNil))))
theorem law_chain : m_law = (sSeq mA0 (sSeq mA1 (sSeq mA2 (sSeq mA3 (sSeq mA4 (sSeq mA5 (sSeq mA6 mA7))))))) := rfl
theorem okS_pD (k : Nat) (p : Cell) : okS (k + 1) (pD p) = true := by cases k <;> rfl
theorem okS_flD (k : Nat) (f : List Cell) (h : f.length ≤ 200000) : okS (k + 2) (flD f) = true := by
  unfold flD okS
  rw [List.length_map, decide_eq_true h, Bool.true_and, List.all_map]
  exact List.all_eq_true.mpr fun p _ => okS_pD k p
theorem b0 {env : Env} {S : Sto} (hl : env.length = 20) (a1 : At env 1 (.loc 0)) (g : Gd S) : Run (mB1_0 env S) (Nx [3] env S fun env' S' => ∃ f, At env' 3 (flD f) ∧ Flo f) := by
  unfold mB1_0
  simp only [o_asg, o_fn, o_cons, o_nil, o_lst, o_op, o_C, a1 _, e_bind_ok, List.length_cons, List.length_nil, Nat.zero_add, Nat.reduceAdd, if_true, sizeLine4, e_runbind]
  refine (rollG g (by omega) (by omega)).mono ?_
  rintro d S1 ⟨r, rfl, r0, r1, g1⟩
  simp only [e_add, e_run_ok]
  refine (rollG g1.gd (by omega) (by omega)).mono ?_
  rintro d S2 ⟨c, rfl, c0, c1, g2⟩
  simp only [e_add, e_run_ok]
  refine (someG g2.gd (.inl rfl) (by simp) (by simp)).mono ?_
  rintro d S3 ⟨hd, g3⟩
  obtain ⟨s, rfl⟩ : ∃ s : Int, d = .int s := by
    simp at hd
    rcases hd with rfl | rfl | rfl | rfl <;> exact ⟨_, rfl⟩
  obtain ⟨r, rfl⟩ := nat_of r0
  obtain ⟨c, rfl⟩ := nat_of c0
  have er : (1 : Int) + (r : Nat) = ((r + 1 : Nat) : Int) := by omega
  have ec : (1 : Int) + (c : Nat) = ((c + 1 : Nat) : Int) := by omega
  simp only [e_run_ok, er, ec]
  refine (floorG g3.gd (by omega) (by omega)).mono ?_
  rintro d S4 ⟨f, rfl, ⟨hf, _, _⟩, g4⟩
  simp only [o_gN, e_bind_ok, e_run_ok]
  exact Nx.mk (Oth.one _ _ _) (((g1.trans g2).trans g3).trans g4) ⟨f, At.eq (by rw [hl]; decide), hf⟩
theorem b1 {env : Env} {S : Sto} {F : List Cell} (hf : Flo F) (g : Gd S) (a3 : At env 3 (flD F)) : Run (mB1_1 env S) (Nx [] env S fun _ _ => True) := by
  unfold mB1_1
  simp only [o_if, o_not, o_T, o_fn, o_cons, o_nil, a3 _, e_bind_ok, e_runbind]
  refine (right_run S hf).mono ?_
  rintro d S1 ⟨rfl, ap⟩
  simp only [e_isB, e_bind_ok, e_run_ok, Bool.not_true, Bool.false_eq_true, if_false, o_nx]
  exact Nx.mk (Oth.refl _ _) (ap.gw g) trivial
theorem b2 {env : Env} {S : Sto} {F : List Cell} {p q r s : Int} (hl : env.length = 20) (hf : Flo F) (B : Bo F p q r s) (g : Gd S) (a3 : At env 3 (flD F)) :
    Run (mB1_2 env S) (Nx [4, 5, 6, 7] env S fun env' _ => At env' 4 (.int p) ∧ At env' 5 (.int q) ∧ At env' 6 (.int r) ∧ At env' 7 (.int s)) := by
  unfold mB1_2
  have t := box_eq S hf B
  simp only [o_asg, o_fn, o_cons, o_nil, a3 _, t, gT, gsC, gsN, o_gN, List.length_cons, List.length_nil, Nat.zero_add, Nat.reduceAdd, if_true, e_bind_ok, e_run_ok]
  refine Nx.mk (((((Oth.refl _ _).set (by simp)).set (by simp)).set (by simp)).set (by simp)) (Gw.refl g) ⟨?_, ?_, ?_, ?_⟩
  · exact (((At.eq (by rw [hl]; decide)).ne (by decide)).ne (by decide)).ne (by decide)
  · exact ((At.eq (by rw [List.length_set, hl]; decide)).ne (by decide)).ne (by decide)
  · exact (At.eq (by rw [List.length_set, List.length_set, hl]; decide)).ne (by decide)
  · exact At.eq (by rw [List.length_set, List.length_set, List.length_set, hl]; decide)
theorem b3 {env : Env} {S : Sto} {F : List Cell} {p q r s : Int} (hl : env.length = 20) (B : Bo F p q r s) (a1 : At env 1 (.loc 0)) (g : Gd S) (a4 : At env 4 (.int p)) (a5 : At env 5 (.int q)) (a6 : At env 6 (.int r)) (a7 : At env 7 (.int s)) :
    Run (mB1_3 env S) (Nx [8, 9] env S fun env' _ => ∃ v : Cell, (-p ≤ v.1 ∧ v.1 ≤ 59 - r) ∧ (-q ≤ v.2 ∧ v.2 ≤ 59 - s) ∧ At env' 8 (.int v.1) ∧ At env' 9 (.int v.2)) := by
  unfold mB1_3
  have h1 := B.r0
  have h2 := B.c0
  simp only [o_asg, o_tup, o_fn, o_cons, o_nil, o_op, o_C, a1 _, a4 _, a5 _, a6 _, a7 _, e_add, e_sub, e_bind_ok, List.length_cons, List.length_nil, Nat.zero_add, Nat.reduceAdd, if_true, e_runbind]
  refine (rollG g (by omega) (by omega)).mono ?_
  rintro d S1 ⟨x, rfl, x0, x1, g1⟩
  simp only [e_sub, e_run_ok]
  refine (rollG g1.gd (by omega) (by omega)).mono ?_
  rintro d S2 ⟨y, rfl, y0, y1, g2⟩
  simp only [e_sub, e_run_ok, e_bind_ok, sizeLine2, if_true, gT, gsC, gsN, o_gN, List.length_cons, List.length_nil, Nat.zero_add, Nat.reduceAdd]
  exact Nx.mk (((Oth.refl _ _).set (by simp)).set (by simp)) (g1.trans g2) ⟨(x - p, y - q), ⟨by simp only; omega, by simp only; omega⟩, ⟨by simp only; omega, by simp only; omega⟩, (At.eq (by rw [hl]; decide)).ne (by decide), At.eq (by rw [List.length_set, hl]; decide)⟩
theorem b4 {env : Env} {S : Sto} {F : List Cell} {p q r s : Int} {v : Cell} (hl : env.length = 20) (hf : Flo F) (B : Bo F p q r s) (h1 : -p ≤ v.1 ∧ v.1 ≤ 59 - r) (h2 : -q ≤ v.2 ∧ v.2 ≤ 59 - s) (g : Gd S) (a3 : At env 3 (flD F)) (a8 : At env 8 (.int v.1)) (a9 : At env 9 (.int v.2)) :
    Run (mB1_4 env S) (Nx [10] env S fun env' _ => At env' 10 (flD (F.map (sft v)))) := by
  unfold mB1_4
  have t := moved_eq S hf B h1 h2
  simp only [o_asg, o_fn, o_cons, o_nil, a3 _, a8 _, a9 _, t, o_gN, e_bind_ok, e_run_ok, List.length_cons, List.length_nil, Nat.zero_add, Nat.reduceAdd, if_true]
  refine Nx.mk (Oth.one _ _ _) (Gw.refl g) ?_
  exact At.eq (by rw [hl]; decide)
theorem mapBack (F : List Cell) (v : Cell) : (F.map (sft v)).map (sft (-v.1, -v.2)) = F := by
  rw [List.map_map]
  conv => rhs; rw [← List.map_id F]
  refine List.map_congr_left fun c _ => ?_
  exact Prod.ext (by simp [sft]; omega) (by simp [sft]; omega)
theorem bo_att {F : List Cell} {p q r s : Int} (hf : Flo F) (B : Bo F p q r s) : (∃ c ∈ F, c.1 = p) ∧ (∃ c ∈ F, c.2 = q) ∧ (∃ c ∈ F, c.1 = r) ∧ (∃ c ∈ F, c.2 = s) := by
  have n1 : F.map (·.1) ≠ [] := by simpa using hf.ne
  have n2 : F.map (·.2) ≠ [] := by simpa using hf.ne
  obtain ⟨a1, b1, m1, x1, i1, j1, k1⟩ := mins2 n1
  obtain ⟨a2, b2, m2, x2, i2, j2, k2⟩ := mins2 n2
  rw [List.map_map] at m1 x1 m2 x2
  have e1 : R.ok (D.int a1) [] = R.ok (D.int p) [] := (m1 []).symm.trans (B.m1 [])
  have e2 : R.ok (D.int a2) [] = R.ok (D.int q) [] := (m2 []).symm.trans (B.m2 [])
  have e3 : R.ok (D.int b1) [] = R.ok (D.int r) [] := (x1 []).symm.trans (B.x1 [])
  have e4 : R.ok (D.int b2) [] = R.ok (D.int s) [] := (x2 []).symm.trans (B.x2 [])
  simp at e1 e2 e3 e4
  subst e1 e2 e3 e4
  exact ⟨by simpa using i1, by simpa using i2, by simpa using j1, by simpa using j2⟩
/-- moved there, and back -/
theorem back_eq {F : List Cell} {p q r s : Int} {v : Cell} (S : Sto) (hf : Flo F) (B : Bo F p q r s) (h1 : -p ≤ v.1 ∧ v.1 ≤ 59 - r) (h2 : -q ≤ v.2 ∧ v.2 ≤ 59 - s) : c_moved [flD (F.map (sft v)), .int (-v.1), .int (-v.2)] S = .ok (flD F) S := by
  have hm := moved_flo hf B h1 h2
  obtain ⟨p', q', r', s', B'⟩ := bo_of hm
  obtain ⟨⟨c1, k1, e1⟩, ⟨c2, k2, e2⟩, ⟨c3, k3, e3⟩, ⟨c4, k4, e4⟩⟩ := bo_att hm B'
  obtain ⟨d1, m1, rfl⟩ := List.mem_map.mp k1
  obtain ⟨d2, m2, rfl⟩ := List.mem_map.mp k2
  obtain ⟨d3, m3, rfl⟩ := List.mem_map.mp k3
  obtain ⟨d4, m4, rfl⟩ := List.mem_map.mp k4
  have f1 := hf.bd d1 m1
  have f2 := hf.bd d2 m2
  have f3 := hf.bd d3 m3
  have f4 := hf.bd d4 m4
  simp only [sft] at e1 e2 e3 e4
  have t := moved_eq (s := (-v.1, -v.2)) S hm B' (by simp only; omega) (by simp only; omega)
  rwa [mapBack] at t
theorem b5 {env : Env} {S : Sto} {F : List Cell} {p q r s : Int} {v : Cell} (hl : env.length = 20) (hf : Flo F) (B : Bo F p q r s) (h1 : -p ≤ v.1 ∧ v.1 ≤ 59 - r) (h2 : -q ≤ v.2 ∧ v.2 ≤ 59 - s) (g : Gd S) (a3 : At env 3 (flD F)) (a8 : At env 8 (.int v.1)) (a9 : At env 9 (.int v.2)) (a10 : At env 10 (flD (F.map (sft v)))) :
    Run (mB1_5 env S) (Nx [] env S fun env' _ => True) := by
  unfold mB1_5
  have hz := hf.len
  have i0 : ∀ S', itAny (flD F) S' = .ok ⟨F.map pD, fun _ => true⟩ S' := fun _ => rfl
  have e1 := lc_mapY (tg := gT 2 (gsC (gN 11) (gsC (gN 12) gsN))) (e := (mTup (mCons (mOp m_add (mVar 11) (mVar 8)) (mCons (mOp m_add (mVar 12) (mVar 9)) mNil)))) (env := env) (vs := [11, 12]) (S := S) pD (fun c => pD (sft v c)) (fun c => ((wipeE env [11, 12]).set 11 (some (.int c.1))).set 12 (some (.int c.2))) F (sz400 (by omega)) (fun c hc => by
    refine ⟨gT_pD .., ?_⟩
    have o : Oth [11, 12] env (((wipeE env [11, 12]).set 11 (some (.int c.1))).set 12 (some (.int c.2))) := ((by exact ((Oth.refl _ _).set (by simp)).set (by simp) : Oth [11, 12] env (wipeE env [11, 12])).set (by simp)).set (by simp)
    have lw : (wipeE env [11, 12]).length = 20 := by simp [wipeE, hl]
    have w8 := o.at (by decide) a8
    have w9 := o.at (by decide) a9
    have w11 : At (((wipeE env [11, 12]).set 11 (some (.int c.1))).set 12 (some (.int c.2))) 11 (.int c.1) := (At.eq (by rw [lw]; decide)).ne (by decide)
    have w12 : At (((wipeE env [11, 12]).set 11 (some (.int c.1))).set 12 (some (.int c.2))) 12 (.int c.2) := At.eq (by rw [List.length_set, lw]; decide)
    simp only [o_tup, o_cons, o_nil, o_op, w8 _, w9 _, w11 _, w12 _, e_add, e_bind_ok, List.length_cons, List.length_nil, Nat.zero_add, Nat.reduceAdd, if_true, sizeLine2]
    rfl)
  have et : ∀ S, m_tuple [.fzl (F.map fun c => pD (sft v c))] S = .ok (flD (F.map (sft v))) S := fun S => by
    unfold flD
    rw [List.map_map]
    rfl
  have s1 := same_eq S (okS_flD 5 (F.map (sft v)) (by rw [List.length_map]; omega))
  have s2 := same_eq S (okS_flD 5 F (by omega))
  have t := back_eq S hf B h1 h2
  have n1 : ∀ i S, m_neg (.int i) S = .ok (.int (-i)) S := fun i S => rfl
  simp only [o_if, o_or, o_not, o_T, o_un, o_fn, o_call, o_cons, o_nil, o_lc, o_it, a3 _, a8 _, a9 _, a10 _, i0, e1, et, s1, s2, n1, t, e_isB, List.length_cons, List.length_nil, Nat.zero_add, Nat.reduceAdd, if_true,  e_bind_ok, Bool.not_true, Bool.false_eq_true, if_false, o_nx, e_run_ok]
  exact Nx.mk (Oth.refl _ _) (Gw.refl g) trivial
theorem lc_growA {α : Type} {tg : TgM} {e : EM} {env : Env} {vs : List Nat} (I : Sto → Prop) (f g : α → D) (E : α → Env) : ∀ (xs : List α) (acc : List D) (S : Sto), acc.length + xs.length ≤ sizeLine → I S →
    (∀ x ∈ xs, ∀ S, I S → tg (f x) (wipeE env vs) S = .ok (E x) S ∧ Run (e (E x) S) fun d S' => d = g x ∧ I S') →
    Run (lcD tg tmYes e (fun _ => true) env vs (xs.map f) acc S) fun r S' => r = acc ++ xs.map g ∧ I S'
  | [], acc, S, _, hI, _ => by
    simp [lcD]
    exact hI
  | x :: xs, acc, S, hz, hI, h => by
    obtain ⟨h1, h2⟩ := h x (List.mem_cons_self ..) S hI
    rw [List.length_cons] at hz
    rw [List.map_cons]
    unfold lcD
    rw [if_pos rfl, h1, bind_ok, o_yes, bind_ok, if_pos rfl]
    refine Run.bind (h2.mono ?_)
    rintro d S' ⟨rfl, hI'⟩
    rw [if_pos (by omega)]
    refine (lc_growA I f g E xs (acc ++ [g x]) S' (by rw [List.length_append]; simp; omega) hI' fun y hy => h y (List.mem_cons_of_mem _ hy)).mono ?_
    rintro r S2 ⟨rfl, hI2⟩
    exact ⟨by simp, hI2⟩
theorem lc_grow {α : Type} {tg : TgM} {e : EM} {env : Env} {vs : List Nat} (I : Sto → Prop) (f g : α → D) (E : α → Env) (xs : List α) (S : Sto) (hz : xs.length ≤ sizeLine) (hI : I S)
    (h : ∀ x ∈ xs, ∀ S, I S → tg (f x) (wipeE env vs) S = .ok (E x) S ∧ Run (e (E x) S) fun d S' => d = g x ∧ I S') :
    Run (lcD tg tmYes e (fun _ => true) env vs (xs.map f) [] S) fun r S' => r = xs.map g ∧ I S' := lc_growA I f g E xs [] S (by simpa using hz) hI h
def cn4 (F : List Cell) : List Int := [(sidesN F : Nat), (4 * (F.length : Int) - (sidesN F : Nat)) / 2, (blkN F : Nat), ((partsF F).length : Nat)]
theorem cn4_mv (F : List Cell) (v : Cell) : cn4 (F.map (sft v)) = cn4 F := by
  unfold cn4
  rw [sides_mv, blk_mv, parts_mv, List.length_map]
def cnD (F : List Cell) : D := .fzl ((cn4 F).map D.int)
theorem ne_ints (ns : List Int) (S : Sto) : m_ne (.fzl (ns.map D.int)) (.fzl (ns.map D.int)) S = .ok (.bl false) S := by
  unfold m_ne
  rw [pdS_ints]
  have : ∀ l : List Int, PyData.eqvAll (l.map PyData.int) (l.map PyData.int) = true := fun l => by
    induction l with
    | nil => simp [PyData.eqvAll]
    | cons a l ih => simp [PyData.eqvAll, PyData.eqv, ih]
  simp [PyData.eqv, this]
theorem b6 {env : Env} {S : Sto} {F G : List Cell} (hl : env.length = 20) (hf : Flo F) (hg : Flo G) (g : Gd S) (a3 : At env 3 (flD F)) (a10 : At env 10 (flD G)) :
    Run (mB1_6 env S) (Nx [13] env S fun env' _ => At env' 13 (.fzl [cnD F, cnD G])) := by
  unfold mB1_6
  have i0 : ∀ S', itAny (.tup [flD F, flD G]) S' = .ok ⟨[F, G].map flD, fun _ => true⟩ S' := fun _ => rfl
  have r1 := lc_grow (tg := gN 19) (e := (mLst (mCons (mFn 1 c_rim_many (mCons (mVar 19) mNil)) (mCons (mFn 1 c_side_pairs (mCons (mVar 19) mNil)) (mCons (mFn 1 c_blocks (mCons (mVar 19) mNil)) (mCons (mCall m_len (mCons (mFn 1 c_parts (mCons (mVar 19) mNil)) mNil)) mNil))))))
    (env := env) (vs := [19]) (fun S' => Gw S S') flD cnD (fun G => env.set 19 (some (flD G))) [F, G] S (sz400 (by simp)) (Gw.refl g) (fun H hH S1 w => by
    refine ⟨by rw [o_gN, wipe1], ?_⟩
    have hh : Flo H := by
      simp at hH
      rcases hH with rfl | rfl <;> assumption
    have v19 : At (env.set 19 (some (flD H))) 19 (flD H) := At.eq (by rw [hl]; decide)
    have t1 := fun S => rim_many_eq S hh
    have t2 := fun S => side_pairs_eq S hh
    have t3 := fun S => blocks_eq S hh
    simp only [o_lst, o_fn, o_call, o_cons, o_nil, v19 _, t1, t2, t3, e_bind_ok, List.length_cons, List.length_nil, Nat.zero_add, Nat.reduceAdd, if_true, e_runbind]
    refine (parts_run _ hh).mono ?_
    rintro d S2 ⟨rfl, ap⟩
    simp only [e_run_ok, e_bind_ok, e_lenT, List.length_map, List.length_cons, List.length_nil, Nat.zero_add, Nat.reduceAdd, if_true, sizeLine4]
    exact ⟨rfl, w.trans ((((((Ap.refl _).app _).app _).app _).trans ap).gw w.gd)⟩)
  simp only [o_asg, o_lc, o_it, o_tup, o_cons, o_nil, a3 _, a10 _, e_bind_ok, List.length_cons, List.length_nil, Nat.zero_add, Nat.reduceAdd, if_true, sizeLine2, i0, e_runbind]
  refine r1.mono ?_
  rintro r S1 ⟨rfl, w⟩
  simp only [e_run_ok, e_bind_ok, o_gN]
  exact Nx.mk (Oth.one _ _ _) w (by exact At.eq (by rw [hl]; decide))
theorem b7 {env : Env} {S : Sto} {F : List Cell} {v : Cell} (g : Gd S) (a13 : At env 13 (.fzl [cnD F, cnD (F.map (sft v))])) :
    Run (mB1_7 env S) (Nx [] env S fun _ _ => True) := by
  unfold mB1_7
  have x0 : ∀ S, m_ix (.fzl [cnD F, cnD (F.map (sft v))]) (.int 0) S = .ok (cnD F) S := fun S => e_ixF rfl
  have x1 : ∀ S, m_ix (.fzl [cnD F, cnD (F.map (sft v))]) (.int 1) S = .ok (cnD F) S := fun S => by
    rw [show cnD F = cnD (F.map (sft v)) by unfold cnD; rw [cn4_mv]]
    exact e_ixF rfl
  have n1 : m_ne (cnD F) (cnD F) S = .ok (.bl false) S := ne_ints _ S
  simp only [o_if, o_T, o_op, o_C, a13 _, x0, x1, n1, e_isB, e_bind_ok, Bool.false_eq_true, if_false, o_nx, e_run_ok]
  exact Nx.mk (Oth.refl _ _) (Gw.refl g) trivial
theorem round_run {env : Env} {S : Sto} (hl : env.length = 20) (a1 : At env 1 (.loc 0)) (g : Gd S) : Run (mB1 env S) fun fl S' => ∃ env', fl = .nx env' ∧ env'.length = 20 ∧ At env' 1 (.loc 0) ∧ Gd S' := by
  unfold mB1
  refine run_nx (b0 hl a1 g) fun e0 S0 o0 w0 ⟨F, a3, hf⟩ => ?_
  have l0 := o0.1.trans hl
  have c1 := o0.at (by decide) a1
  obtain ⟨p, q, r, s, B⟩ := bo_of hf
  refine run_nx (b1 hf w0.gd a3) fun e1 S1 o1 w1 _ => ?_
  have l1 := o1.1.trans l0
  have c1 := o1.at (by decide) c1
  have a3 := o1.at (by decide) a3
  refine run_nx (b2 l1 hf B w1.gd a3) fun e2 S2 o2 w2 ⟨a4, a5, a6, a7⟩ => ?_
  have l2 := o2.1.trans l1
  have c1 := o2.at (by decide) c1
  have a3 := o2.at (by decide) a3
  refine run_nx (b3 l2 B c1 w2.gd a4 a5 a6 a7) fun e3 S3 o3 w3 ⟨v, h1, h2, a8, a9⟩ => ?_
  have l3 := o3.1.trans l2
  have c1 := o3.at (by decide) c1
  have a3 := o3.at (by decide) a3
  refine run_nx (b4 l3 hf B h1 h2 w3.gd a3 a8 a9) fun e4 S4 o4 w4 a10 => ?_
  have l4 := o4.1.trans l3
  have c1 := o4.at (by decide) c1
  have a3 := o4.at (by decide) a3
  have a8 := o4.at (by decide) a8
  have a9 := o4.at (by decide) a9
  refine run_nx (b5 l4 hf B h1 h2 w4.gd a3 a8 a9 a10) fun e5 S5 o5 w5 _ => ?_
  have l5 := o5.1.trans l4
  have c1 := o5.at (by decide) c1
  have a3 := o5.at (by decide) a3
  have a10 := o5.at (by decide) a10
  refine run_nx (b6 l5 hf (moved_flo hf B h1 h2) w5.gd a3 a10) fun e6 S6 o6 w6 a13 => ?_
  have l6 := o6.1.trans l5
  have c1 := o6.at (by decide) c1
  refine (b7 w6.gd a13).mono ?_
  rintro f S7 ⟨e7, rfl, o7, w7, _⟩
  exact ⟨e7, rfl, o7.1.trans l6, o7.at (by decide) c1, w7.gd⟩
def rowR (n r : Nat) (k : Nat) : List Cell := ((List.range k).filter fun (c : Nat) => (min (min r c) (min (4 * n - 2 - r) (4 * n - 2 - c))) % 2 == 0).map fun (c : Nat) => (((r : Nat) : Int), ((c : Nat) : Int))
def ringR (n : Nat) (k : Nat) : List Cell := (List.range k).flatMap fun r => rowR n r (4 * n - 1)
def ringOk (n : Nat) : Bool := let R := ringR n (4 * n - 1)
  decide (R.length ≤ 400) && (!R.isEmpty) && R.all (fun p => decide (0 ≤ p.1) && decide (p.1 ≤ 18) && decide (0 ≤ p.2) && decide (p.2 ≤ 18)) && decide (R.Pairwise ltC) && (sidesN R == 2 * R.length) && ((partsF R).length == n)
theorem ring_ok (n : Nat) (h : 1 ≤ n ∧ n ≤ 5) : ringOk n = true := by
  have h5 : n = 1 ∨ n = 2 ∨ n = 3 ∨ n = 4 ∨ n = 5 := by omega
  rcases h5 with rfl | rfl | rfl | rfl | rfl <;> decide +kernel
theorem Oth.mono {vs ws : List Nat} {a b : Env} (h : Oth vs a b) (hs : ∀ v ∈ vs, v ∈ ws) : Oth ws a b := ⟨h.1, fun i hi => h.2 i fun hv => hi (hs i hv)⟩
theorem rowR_succ (n r k : Nat) : rowR n r (k + 1) = rowR n r k ++ (if (min (min r k) (min (4 * n - 2 - r) (4 * n - 2 - k))) % 2 == 0 then [(((r : Nat) : Int), ((k : Nat) : Int))] else []) := by
  unfold rowR
  rw [List.range_succ, List.filter_append, List.map_append]
  congr 1
  rw [List.filter_cons, List.filter_nil]
  split <;> rfl
theorem ringR_succ (n k : Nat) : ringR n (k + 1) = ringR n k ++ rowR n k (4 * n - 1) := by
  unfold ringR
  rw [List.range_succ, List.flatMap_append]
  simp
theorem rowR_len (n r k : Nat) : (rowR n r k).length ≤ k := by
  unfold rowR
  rw [List.length_map]
  exact Nat.le_trans (List.length_filter_le ..) (by simp)
theorem ringR_len (n k : Nat) : (ringR n k).length ≤ k * (4 * n - 1) := by
  induction k with
  | zero => simp [ringR]
  | succ k ih =>
    have := rowR_len n k (4 * n - 1)
    rw [ringR_succ, List.length_append, Nat.add_mul k 1, Nat.one_mul]
    exact Nat.add_le_add ih this
def mI1 : SM := (sAsg (mCall m_min4 (mCons (mVar 11) (mCons (mVar 12) (mCons (mOp m_sub (mOp m_sub (mOp m_mul (mC (.int 4)) (mVar 14)) (mC (.int 2))) (mVar 11)) (mCons (mOp m_sub (mOp m_sub (mOp m_mul (mC (.int 4)) (mVar 14)) (mC (.int 2))) (mVar 12)) mNil))))) (gN 16))
def mI2 : SM := (sAsg (mOp m_add (mVar 15) (mIfE (mT (mOp m_eq (mOp m_mod (mCall m_int (mCons (mVar 16) mNil)) (mC (.int 2))) (mC (.int 0)))) (mLst (mCons (mTup (mCons (mVar 11) (mCons (mVar 12) mNil))) mNil)) (mLst mNil))) (gN 15))
def mI3 : SM := (sFor (mItA itR1 (mCons (mOp m_sub (mOp m_mul (mC (.int 4)) (mVar 14)) (mC (.int 1))) mNil)) (gN 12) (sSeq mI1 mI2))
theorem mA3_is : mA3 = (sFor (mItA itR1 (mCons (mOp m_sub (mOp m_mul (mC (.int 4)) (mVar 14)) (mC (.int 1))) mNil)) (gN 11) mI3) := rfl
theorem deep_eq (n r c : Nat) (hr : r < 4 * n - 1) (hc : c < 4 * n - 1) : lt2 (lt2 (lt2 ((r : Nat) : Int) ((c : Nat) : Int)) (4 * (n : Nat) - 2 - ((r : Nat) : Int))) (4 * (n : Nat) - 2 - ((c : Nat) : Int)) = ((min (min r c) (min (4 * n - 2 - r) (4 * n - 2 - c)) : Nat) : Int) := by
  unfold lt2
  split <;> split <;> split <;> omega
theorem cell_run {env : Env} {S : Sto} {n r c : Nat} {base : List Cell} (hn : n ≤ 5) (hr : r < 4 * n - 1) (hc : c < 4 * n - 1) (hl : env.length = 20) (hb : base.length ≤ 1000)
    (a11 : At env 11 (.int (r : Nat))) (a12 : At env 12 (.int (c : Nat))) (a14 : At env 14 (.int (n : Nat))) (a15 : At env 15 (clD base)) :
    Run (sSeq mI1 mI2 env S) fun f S' => ∃ e, f = .nx e ∧ S' = S ∧ Oth [15, 16] env e ∧ At e 15 (clD (base ++ (if (min (min r c) (min (4 * n - 2 - r) (4 * n - 2 - c))) % 2 == 0 then [(((r : Nat) : Int), ((c : Nat) : Int))] else []))) := by
  refine run_seq ?_
  unfold mI1
  have u1 : ∀ S, m_mul (.int 4) (.int (n : Nat)) S = .ok (.int (4 * (n : Nat))) S := fun S => e_mul (.inl (by omega))
  have u2 : ∀ i j k l S, m_min4 [.int i, .int j, .int k, .int l] S = .ok (.int (lt2 (lt2 (lt2 i j) k) l)) S := fun _ _ _ _ _ => rfl
  simp only [o_asg, o_call, o_cons, o_nil, o_op, o_C, a11 _, a12 _, a14 _, u1, u2, e_sub, e_bind_ok, deep_eq n r c hr hc, o_gN, e_run_ok]
  generalize (min (min r c) (min (4 * n - 2 - r) (4 * n - 2 - c))) = m
  have o1 : Oth [15, 16] env (env.set 16 (some (.int (m : Nat)))) := (Oth.refl _ _).set (by simp)
  have b16 : At (env.set 16 (some (.int (m : Nat)))) 16 (.int (m : Nat)) := At.eq (by rw [hl]; decide)
  have b11 : At (env.set 16 (some (.int (m : Nat)))) 11 (.int (r : Nat)) := a11.ne (by decide)
  have b12 : At (env.set 16 (some (.int (m : Nat)))) 12 (.int (c : Nat)) := a12.ne (by decide)
  have b15 : At (env.set 16 (some (.int (m : Nat)))) 15 (clD base) := a15.ne (by decide)
  generalize env.set 16 (some (.int (m : Nat))) = e1 at o1 b16 b11 b12 b15
  have l1 := o1.1.trans hl
  unfold mI2
  have v1 : ∀ S, m_mod (.int (m : Nat)) (.int 2) S = .ok (.int ((m % 2 : Nat))) S := fun S => by
    rw [e_mod (by decide)]
    congr 2
  have v2 : (((m % 2 : Nat) : Int) == 0) = (m % 2 == 0) := by
    cases h : (m % 2 == 0) <;> simp at h ⊢ <;> omega
  simp only [o_asg, o_call, o_cons, o_nil, o_op, o_ifE, o_T, o_lst, o_tup, o_C, b11 _, b12 _, b15 _, b16 _, e_int, v1, e_eqInt, v2, e_isB, e_bind_ok, List.length_cons, List.length_nil, Nat.zero_add, Nat.reduceAdd, if_true, sizeLine2, sizeLine1, Nat.zero_le]
  cases m % 2 == 0 with
  | true =>
    have ea : ∀ S, m_add (clD base) (.fzl [.tup [.int (r : Nat), .int (c : Nat)]]) S = .ok (clD (base ++ [(((r : Nat) : Int), ((c : Nat) : Int))])) S := fun S => by
      unfold clD
      rw [e_addF (sz400 (by rw [List.length_map, List.length_singleton]; omega)), List.map_append]
      rfl
    simp only [if_true, ea, e_bind_ok, o_gN, e_run_ok]
    exact ⟨_, rfl, trivial, o1.set (by simp), At.eq (by rw [l1]; decide)⟩
  | false =>
    have ea : ∀ S, m_add (clD base) (.fzl []) S = .ok (clD (base ++ [])) S := fun S => by
      unfold clD
      rw [e_addF (sz400 (by rw [List.length_map, List.length_nil]; omega)), List.map_append]
      rfl
    simp only [Bool.false_eq_true, if_false, ea, e_bind_ok, o_gN, e_run_ok]
    exact ⟨_, rfl, trivial, o1.set (by simp), At.eq (by rw [l1]; decide)⟩
theorem row_run2 {env : Env} {S : Sto} {n r : Nat} {base : List Cell} (hn : 1 ≤ n ∧ n ≤ 5) (hr : r < 4 * n - 1) (hl : env.length = 20) (hb : base.length ≤ 500)
    (a11 : At env 11 (.int (r : Nat))) (a14 : At env 14 (.int (n : Nat))) (a15 : At env 15 (clD base)) :
    Run (mI3 env S) fun f S' => ∃ e, f = .nx e ∧ S' = S ∧ Oth [12, 15, 16] env e ∧ At e 15 (clD (base ++ rowR n r (4 * n - 1))) := by
  unfold mI3
  have u1 : ∀ S, m_mul (.int 4) (.int (n : Nat)) S = .ok (.int (4 * (n : Nat))) S := fun S => e_mul (.inl (by omega))
  have u3 : (4 * ((n : Nat) : Int) - 1).toNat = 4 * n - 1 := by omega
  have u2 : smallI (4 * ((n : Nat) : Int) - 1) := by unfold smallI; omega
  rw [o_for]
  simp only [o_itA, o_cons, o_nil, o_op, o_C, a14 _, u1, e_sub, e_bind_ok, e_r1 u2, u3]
  refine run_for (fun i e S' => S' = S ∧ Oth [12, 15, 16] env e ∧ At e 15 (clD (base ++ rowR n r i))) ⟨rfl, Oth.refl _ _, by simpa [rowR] using a15⟩ ?_ ?_
  · rintro i d e S' hd ⟨rfl, o, b15⟩
    refine ⟨rfl, ?_⟩
    obtain ⟨hi, rfl⟩ := rangeD_get hd
    rw [o_gN, e_run_ok, Int.zero_add]
    have o1 : Oth [12, 15, 16] env (e.set 12 (some (.int (i : Nat)))) := o.set (by simp)
    have hrl := rowR_len n r i
    refine (cell_run hn.2 hr hi (o1.1.trans hl) (base := base ++ rowR n r i) (by rw [List.length_append]; omega) (o1.at (by decide) a11) (At.eq (by rw [o.1, hl]; decide)) (o1.at (by decide) a14) (b15.ne (by decide))).mono ?_
    rintro f S2 ⟨e2, rfl, rfl, o2, c15⟩
    refine ⟨rfl, o1.trans (o2.mono (by simp)), ?_⟩
    rw [List.append_assoc, ← rowR_succ] at c15
    exact c15
  · rintro e S' ⟨rfl, o, b15⟩
    rw [rangeD_len] at b15
    exact ⟨rfl, _, rfl, rfl, o, b15⟩
theorem rings_run {env : Env} {S : Sto} {n : Nat} (hn : 1 ≤ n ∧ n ≤ 5) (hl : env.length = 20) (a14 : At env 14 (.int (n : Nat))) (a15 : At env 15 (.fzl [])) :
    Run (mA3 env S) fun f S' => ∃ e, f = .nx e ∧ S' = S ∧ Oth [11, 12, 15, 16] env e ∧ At e 15 (clD (ringR n (4 * n - 1))) := by
  rw [mA3_is]
  have u1 : ∀ S, m_mul (.int 4) (.int (n : Nat)) S = .ok (.int (4 * (n : Nat))) S := fun S => e_mul (.inl (by omega))
  have u3 : (4 * ((n : Nat) : Int) - 1).toNat = 4 * n - 1 := by omega
  have u2 : smallI (4 * ((n : Nat) : Int) - 1) := by unfold smallI; omega
  rw [o_for]
  simp only [o_itA, o_cons, o_nil, o_op, o_C, a14 _, u1, e_sub, e_bind_ok, e_r1 u2, u3]
  refine run_for (fun i e S' => S' = S ∧ Oth [11, 12, 15, 16] env e ∧ At e 15 (clD (ringR n i))) ⟨rfl, Oth.refl _ _, by simpa [ringR, clD] using a15⟩ ?_ ?_
  · rintro i d e S' hd ⟨rfl, o, b15⟩
    refine ⟨rfl, ?_⟩
    obtain ⟨hi, rfl⟩ := rangeD_get hd
    rw [o_gN, e_run_ok, Int.zero_add]
    have o1 : Oth [11, 12, 15, 16] env (e.set 11 (some (.int (i : Nat)))) := o.set (by simp)
    have hrl := ringR_len n i
    have hm : i * (4 * n - 1) ≤ 19 * 19 := Nat.mul_le_mul (by omega) (by omega)
    refine (row_run2 hn hi (o1.1.trans hl) (base := ringR n i) (by omega) (At.eq (by rw [o.1, hl]; decide)) (o1.at (by decide) a14) (b15.ne (by decide))).mono ?_
    rintro f S2 ⟨e2, rfl, rfl, o2, c15⟩
    refine ⟨rfl, o1.trans (o2.mono (by simp)), ?_⟩
    rw [← ringR_succ] at c15
    exact c15
  · rintro e S' ⟨rfl, o, b15⟩
    rw [rangeD_len] at b15
    exact ⟨rfl, _, rfl, rfl, o, b15⟩
theorem atI_last {α : Type} {xs : List α} (h : xs ≠ []) : L2.atI xs (-1) = some (xs.getLast h) := by
  have hp := List.length_pos_iff.mpr h
  have e : ixN xs.length (-1) = some (xs.length - 1) := by
    unfold ixN
    simp
    omega
  unfold L2.atI
  rw [e, Option.bind_some, List.getLast_eq_getElem, List.getElem?_eq_getElem]
theorem tail_run {env : Env} {S : Sto} (hl : env.length = 20) (a1 : At env 1 (.loc 0)) (gd : Gd S) : Run ((sSeq mA2 (sSeq mA3 (sSeq mA4 (sSeq mA5 (sSeq mA6 mA7))))) env S) fun f S' => f = .rt (.bl true) := by
  refine run_seq ?_
  unfold mA2
  simp only [o_par, o_cons, o_nil, o_op, o_C, o_fn, o_lst, a1 _, e_bind_ok, List.length_cons, List.length_nil, Nat.zero_add, Nat.reduceAdd, if_true, e_runbind]
  refine (rollG gd (by omega) (by omega)).mono ?_
  rintro d S1 ⟨r, rfl, r0, r1, g1⟩
  obtain ⟨n, hn⟩ := nat_of (show 0 ≤ 1 + r by omega)
  have hn1 : 1 ≤ n ∧ n ≤ 5 := by omega
  simp only [e_add, e_run_ok, hn, e_bind_ok, List.length_cons, List.length_nil, Nat.zero_add, Nat.reduceAdd, Nat.zero_le, if_true, setAll]
  have q14 : At ((env.set 14 (some (.int (n : Nat)))).set 15 (some (.fzl []))) 14 (.int (n : Nat)) := (At.eq (by rw [hl]; decide)).ne (by decide)
  have q15 : At ((env.set 14 (some (.int (n : Nat)))).set 15 (some (.fzl []))) 15 (.fzl []) := At.eq (by rw [List.length_set, hl]; decide)
  have l1 : ((env.set 14 (some (.int (n : Nat)))).set 15 (some (.fzl []))).length = 20 := by rw [List.length_set, List.length_set, hl]
  generalize ((env.set 14 (some (.int (n : Nat)))).set 15 (some (.fzl []))) = e1 at q14 q15 l1
  have gd := g1.gd
  refine run_seq ?_
  refine (rings_run hn1 l1 q14 q15).mono ?_
  rintro f S2 ⟨e2, rfl, rfl, o2, q15⟩
  have q14 := o2.at (by decide) q14
  have l2 := o2.1.trans l1
  have hk := ring_ok n hn1
  unfold ringOk at hk
  generalize ringR n (4 * n - 1) = F at q15 hk
  simp only [Bool.and_eq_true, decide_eq_true_eq, List.all_eq_true, beq_iff_eq, Bool.not_eq_true', List.isEmpty_eq_false_iff] at hk
  obtain ⟨⟨⟨⟨⟨k1, k2⟩, k3⟩, k4⟩, k5⟩, k6⟩ := hk
  have hf : Flo F := ⟨k2, k1, fun p hp => by have := k3 p hp; omega, k4⟩
  have es : ∀ S, m_sortQ [clD F] S = .ok (clD F) S := fun S => by
    have e := pairI_pD F
    unfold m_sortQ dOf lstOf clD
    simp only [e, sortP_self k4]
  have et : ∀ (f : List Cell) S, m_tuple [clD f] S = .ok (flD f) S := fun f S => rfl
  refine run_seq ?_
  unfold mA4
  simp only [o_asg, o_call, o_cons, o_nil, q15 _, es, et, o_gN, e_bind_ok, e_run_ok]
  have l3 : (e2.set 17 (some (flD F))).length = 20 := by rw [List.length_set, l2]
  have p14 : At (e2.set 17 (some (flD F))) 14 (.int (n : Nat)) := q14.ne (by decide)
  have p17 : At (e2.set 17 (some (flD F))) 17 (flD F) := At.eq (by rw [l2]; decide)
  generalize e2.set 17 (some (flD F)) = e3 at l3 p14 p17
  have i0 : ∀ S', itAny (flD F) S' = .ok ⟨F.map pD, fun _ => true⟩ S' := fun _ => rfl
  have e1 := lc_mapY (tg := gT 2 (gsC (gN 11) (gsC (gN 12) gsN))) (e := (mTup (mCons (mOp m_add (mVar 11) (mC (.int 40))) (mCons (mOp m_add (mVar 12) (mC (.int 40))) mNil)))) (env := e3) (vs := [11, 12]) (S := S2) pD (fun c => pD (sft (40, 40) c)) (fun c => ((wipeE e3 [11, 12]).set 11 (some (.int c.1))).set 12 (some (.int c.2))) F (sz400 (by omega)) (fun c hc => by
    refine ⟨gT_pD .., ?_⟩
    have lw : (wipeE e3 [11, 12]).length = 20 := by simp [wipeE, l3]
    have w11 : At (((wipeE e3 [11, 12]).set 11 (some (.int c.1))).set 12 (some (.int c.2))) 11 (.int c.1) := (At.eq (by rw [lw]; decide)).ne (by decide)
    have w12 : At (((wipeE e3 [11, 12]).set 11 (some (.int c.1))).set 12 (some (.int c.2))) 12 (.int c.2) := At.eq (by rw [List.length_set, lw]; decide)
    simp only [o_tup, o_cons, o_nil, o_op, o_C, w11 _, w12 _, e_add, e_bind_ok, List.length_cons, List.length_nil, Nat.zero_add, Nat.reduceAdd, if_true, sizeLine2]
    rfl)
  have et2 : ∀ S, m_tuple [.fzl (F.map fun c => pD (sft (40, 40) c))] S = .ok (flD (F.map (sft (40, 40)))) S := fun S => by
    unfold flD
    rw [List.map_map]
    rfl
  refine run_seq ?_
  unfold mA5
  simp only [o_asg, o_call, o_cons, o_nil, o_lc, o_it, p17 _, i0, e1, et2, o_gN, e_bind_ok, e_run_ok]
  have l4 : (e3.set 18 (some (flD (F.map (sft (40, 40)))))).length = 20 := by rw [List.length_set, l3]
  have n14 : At (e3.set 18 (some (flD (F.map (sft (40, 40)))))) 14 (.int (n : Nat)) := p14.ne (by decide)
  have n17 : At (e3.set 18 (some (flD (F.map (sft (40, 40)))))) 17 (flD F) := p17.ne (by decide)
  have n18 : At (e3.set 18 (some (flD (F.map (sft (40, 40)))))) 18 (flD (F.map (sft (40, 40)))) := At.eq (by rw [l3]; decide)
  generalize e3.set 18 (some (flD (F.map (sft (40, 40))))) = e4 at l4 n14 n17 n18
  have hne : (F.map (sft (40, 40))).map pD ≠ [] := by simpa using k2
  have x1 : ∃ c ∈ F, ∀ S, m_ix (flD (F.map (sft (40, 40)))) (.int (-1)) S = .ok (pD (sft (40, 40) c)) S := by
    obtain ⟨c', hc', ec⟩ := List.mem_map.mp (List.getLast_mem hne)
    obtain ⟨c, hc, rfl⟩ := List.mem_map.mp hc'
    exact ⟨c, hc, fun S => e_ixT (by rw [atI_last hne, ec])⟩
  obtain ⟨c, hc, x1⟩ := x1
  have x2 : ∀ S, m_ix (pD (sft (40, 40) c)) (.int 0) S = .ok (.int (c.1 + 40)) S := fun S => rfl
  have hcb := k3 c hc
  have y1 : decide ((400 : Int) < (F.length : Nat)) = false := by simp; omega
  have y2 : decide ((59 : Int) < c.1 + 40) = false := by simp; omega
  have nl := len_flD F
  refine run_seq ?_
  unfold mA6
  simp only [o_if, o_or, o_T, o_op, o_un, o_call, o_cons, o_nil, o_C, n17 _, n18 _, nl, e_neg, x1, x2, e_gt, y1, y2, e_isB, e_bind_ok, Bool.false_eq_true, if_false, o_nx, e_run_ok]
  obtain ⟨p, q, r', s, B⟩ := bo_of hf
  obtain ⟨⟨d1, m1, rfl⟩, ⟨d2, m2, rfl⟩, ⟨d3, m3, rfl⟩, ⟨d4, m4, rfl⟩⟩ := bo_att hf B
  have z1 := k3 d1 m1
  have z2 := k3 d2 m2
  have z3 := k3 d3 m3
  have z4 := k3 d4 m4
  have t1 := fun S => side_pairs_eq S hf
  have t2 := fun S => moved_eq (s := (40, 40)) S hf B (by simp only; omega) (by simp only; omega)
  have v1 : (4 * (F.length : Int) - (sidesN F : Nat)) / 2 = (F.length : Nat) := by omega
  unfold mA7
  simp only [o_ret, o_fn, o_lst, o_call, o_cons, o_nil, o_C, n14 _, n17 _, n18 _, nl, t1, v1, e_bind_ok, List.length_cons, List.length_nil, Nat.zero_add, Nat.reduceAdd, if_true, e_runbind]
  refine (parts_run _ hf).mono ?_
  rintro d S3 ⟨rfl, ap⟩
  have ks : okS 7 (.fzl [.int (n : Nat), .int (F.length : Nat), flD (F.map (sft (40, 40)))]) = true := by
    have := okS_flD 4 (F.map (sft (40, 40))) (by rw [List.length_map]; omega)
    simp [okS, this]
  have se := fun S => same_eq S ks
  simp only [e_run_ok, e_bind_ok, e_lenT, List.length_map, k6, t2, se, sizeLine3, List.length_cons, List.length_nil, Nat.zero_add, Nat.reduceAdd, if_true]
theorem law_run (ns : List Int) (hl : ns.length ≤ 63) : Run (c_law [.kl (ns.map D.int)] []) fun d S' => d = .bl true := by
  unfold c_law
  refine run_fn ?_
  rw [law_chain]
  refine run_seq ?_
  have q0 := cup_run ns [] hl
  unfold mA0
  simp
  refine q0.mono ?_
  rintro d S ⟨o, rfl, g, rfl⟩
  refine run_seq ?_
  unfold mA1
  rw [o_for]
  have s6 : smallI 3 := by decide
  simp [e_r1 s6]
  refine run_for (fun i env' S' => env'.length = 20 ∧ At env' 1 (.loc 0) ∧ Gd S') ⟨by simp, fun S => by simp, o, rfl, g⟩ ?_ ?_
  · rintro i d env' S' hd ⟨l, a1, gd⟩
    refine ⟨rfl, ?_⟩
    rw [o_gN, e_run_ok]
    refine (round_run (by rw [List.length_set, l]) (a1.ne (by decide)) gd).mono ?_
    rintro f S2 ⟨env2, rfl, l2, a2, gd2⟩
    exact ⟨l2, a2, gd2⟩
  · rintro env' S' ⟨l, a1, gd⟩
    refine ⟨rfl, ?_⟩
    refine (tail_run l a1 gd).mono ?_
    rintro f S2 rfl
    rfl
theorem law_true (ns : List Int) (hl : ns.length ≤ 63) : ∃ S', c_law [.kl (ns.map D.int)] [] = .ok (.bl true) S' := by
  obtain ⟨d, S', e, rfl⟩ := (law_run ns hl).out
  exact ⟨S', e⟩
end ML
namespace ML
open PySem L2
abbrev topS (i : Nat) : Stmt := PySem.Challenge.pw_cellhall_k01_whole_counts_boxes_and_move.main.body.getD i (.Pass ⟨0, 0, 0, 0⟩)
structure TB (mg : Str → Option Value) : Prop where
  b_abs : mg "abs" = none
  b_all : mg "all" = none
  b_bool : mg "bool" = none
  b_dict : mg "dict" = none
  b_int : mg "int" = none
  b_isinstance : mg "isinstance" = none
  b_len : mg "len" = none
  b_list : mg "list" = none
  b_max : mg "max" = none
  b_min : mg "min" = none
  b_range : mg "range" = none
  b_sorted : mg "sorted" = none
  b_str : mg "str" = none
  b_sum : mg "sum" = none
  b_tuple : mg "tuple" = none
  b_zip : mg "zip" = none
  k_CELLS : ∃ t, mg "CELLS" = some (.int 400 t)
  k_SIDE : ∃ t, mg "SIDE" = some (.int 60 t)
-- _law_cup
abbrev s__law_cup : Stmt := topS 25
def N__law_cup : List Str := ["script", "cell"]
theorem sc__law_cup : FnScope N__law_cup ["script"] (defScope s__law_cup) := ⟨rfl, rfl, rfl, by decide +kernel, rfl, by decide +kernel, by decide +kernel⟩
theorem okc__law_cup {P : Program} {w : World} {K : PySem.W.Frag} {mg : Str → Option Value} {base : Heap} (T : TB mg)  (F : Dn K mg "_law_cup" s__law_cup ["script"]) : Cal P w K mg base 1 "_law_cup" ["script"] c__law_cup :=
  (fn_ML F sc__law_cup (fun f cdv A outer s H E hr =>
  have nd := sc__law_cup.nd
  (gss_cons (gs_set (i := 1) nd (ge_callB gc_abs (by rfl) T.b_abs PyProof.Rows.boot_abs (ga_cons (ge_ix gi_ix (ge_op go_add (ge_callTy gc_list (by rfl) T.b_list PyProof.Rows.boot_list (ga_cons (ge_var (i := 0)) ga_nil)) (ge_lst (ga_cons ge_int ga_nil))) ge_int) ga_nil))) (gss_one (gs_ret (ge_lstM (ga_cons (ge_if (gt_cmp go_ge (ge_var (i := 1)) (ge_op go_pow ge_int ge_int)) (ge_op go_fdiv (ge_var (i := 1)) ge_int) ge_int) (ga_cons (ge_op go_add (ge_op go_mod (ge_callTy gc_int (by rfl) T.b_int PyProof.Rows.boot_int (ga_cons (ge_op go_add (ge_op go_mul (ge_var (i := 1)) ge_int) ge_int) ga_nil)) ge_int) ge_int) ga_nil))))))))
-- _law_same
abbrev s__law_same : Stmt := topS 28
def N__law_same : List Str := ["told", "due", "at"]
theorem sc__law_same : FnScope N__law_same ["told", "due"] (defScope s__law_same) := ⟨rfl, rfl, rfl, by decide +kernel, rfl, by decide +kernel, by decide +kernel⟩
def sc1__law_same : Scope := scp [(".0", .local), ("at", .local), ("_law_same", .globalImplicit), ("due", .free), ("told", .free)] []
theorem ok__law_same {P : Program} {w : World} {K : PySem.W.Frag} {mg : Str → Option Value} {base : Heap} (T : TB mg)  (F : Dn K mg "_law_same" s__law_same ["told", "due"]) : ∀ k, Cal P w K mg base (0 + k) "_law_same" ["told", "due"] (f__law_same k)
  | 0 => (Cal.none F).mono (Nat.zero_le _)
  | k + 1 => fn_ML F sc__law_same (fun f cdv A outer s H E hr =>
  have nd := sc__law_same.nd
  have ih := ok__law_same T  F k
  (gss_cons (gs_if (gt_w (gw_or (gt_val (ge_callB gc_isi (by rfl) T.b_isinstance PyProof.Rows.boot_isinstance (ga_cons (ge_var (i := 1)) (ga_cons (ge_ty (by rfl) T.b_tuple PyProof.Rows.boot_tuple) ga_nil)))) (gw_or1 (gt_val (ge_callB gc_isi (by rfl) T.b_isinstance PyProof.Rows.boot_isinstance (ga_cons (ge_var (i := 1)) (ga_cons (ge_ty (by rfl) T.b_list PyProof.Rows.boot_list) ga_nil))))))) (gss_cons (gs_if (gt_w (gw_or (gt_cmp (go_ne hr.units) (ge_callB gc_isi (by rfl) T.b_isinstance PyProof.Rows.boot_isinstance (ga_cons (ge_var (i := 0)) (ga_cons (ge_ty (by rfl) T.b_tuple PyProof.Rows.boot_tuple) ga_nil))) (ge_callB gc_isi (by rfl) T.b_isinstance PyProof.Rows.boot_isinstance (ga_cons (ge_var (i := 1)) (ga_cons (ge_ty (by rfl) T.b_tuple PyProof.Rows.boot_tuple) ga_nil)))) (gw_or (gt_cmp (go_ne hr.units) (ge_callB gc_isi (by rfl) T.b_isinstance PyProof.Rows.boot_isinstance (ga_cons (ge_var (i := 0)) (ga_cons (ge_ty (by rfl) T.b_list PyProof.Rows.boot_list) ga_nil))) (ge_callB gc_isi (by rfl) T.b_isinstance PyProof.Rows.boot_isinstance (ga_cons (ge_var (i := 1)) (ga_cons (ge_ty (by rfl) T.b_list PyProof.Rows.boot_list) ga_nil)))) (gw_or1 (gt_cmp (go_ne hr.units) (ge_callB gc_len (by rfl) T.b_len PySem.boot_len (ga_cons (ge_var (i := 0)) ga_nil)) (ge_callB gc_len (by rfl) T.b_len PySem.boot_len (ga_cons (ge_var (i := 1)) ga_nil))))))) (gss_one (gs_ret ge_bl)) gss_nil) (gss_one (gs_ret (ge_cmp (go_eq hr.units) (ge_lc (by rfl) nd (gi_range1 (by rfl) T.b_range (ga_cons (ge_callB gc_len (by rfl) T.b_len PySem.boot_len (ga_cons (ge_var (i := 1)) ga_nil)) ga_nil)) ⟨blkOk_by (N := N__law_same) (sc := (defScope s__law_same)) (scope := sc1__law_same) (own := [("at", 2)]) (by decide +kernel), rfl⟩ (fun _ _ _ _ _ => (gw_name nd (i := 2) (vs := [2]))) (fun _ _ _ _ _ => (gts_one (gt_not (gt_val (ge_call ih hr (ga_cons (ge_ix gi_ix (ge_var (i := 0)) (ge_var (i := 2))) (ga_cons (ge_ix gi_ix (ge_var (i := 1)) (ge_var (i := 2))) ga_nil)) (hj := Nat.le_refl _)))))) (fun _ _ _ _ _ => ge_int)) (ge_lst ga_nil))))) gss_nil) (gss_cons (gs_if (gt_cmp go_is (ge_var (i := 1)) ge_non) (gss_one (gs_ret (ge_cmp go_is (ge_var (i := 0)) ge_non))) gss_nil) (gss_cons (gs_if (gt_val (ge_callB gc_isi (by rfl) T.b_isinstance PyProof.Rows.boot_isinstance (ga_cons (ge_var (i := 1)) (ga_cons (ge_ty (by rfl) T.b_bool PyProof.Rows.boot_bool) ga_nil)))) (gss_one (gs_ret (ge_if (gt_val (ge_var (i := 1))) (ge_cmp go_is (ge_var (i := 0)) ge_bl) (ge_cmp go_is (ge_var (i := 0)) ge_bl)))) gss_nil) (gss_cons (gs_if (gt_val (ge_callB gc_isi (by rfl) T.b_isinstance PyProof.Rows.boot_isinstance (ga_cons (ge_var (i := 1)) (ga_cons (ge_ty (by rfl) T.b_int PyProof.Rows.boot_int) ga_nil)))) (gss_one (gs_ret (ge_and (ge_callB gc_isi (by rfl) T.b_isinstance PyProof.Rows.boot_isinstance (ga_cons (ge_var (i := 0)) (ga_cons (ge_ty (by rfl) T.b_int PyProof.Rows.boot_int) ga_nil))) (ge_and (ge_not (ge_callB gc_isi (by rfl) T.b_isinstance PyProof.Rows.boot_isinstance (ga_cons (ge_var (i := 0)) (ga_cons (ge_ty (by rfl) T.b_bool PyProof.Rows.boot_bool) ga_nil)))) (ge_one (ge_cmp (go_eq hr.units) (ge_callTy gc_int (by rfl) T.b_int PyProof.Rows.boot_int (ga_cons (ge_var (i := 0)) ga_nil)) (ge_var (i := 1)))))))) gss_nil) (gss_one (gs_ret (ge_and (ge_callB gc_isi (by rfl) T.b_isinstance PyProof.Rows.boot_isinstance (ga_cons (ge_var (i := 0)) (ga_cons (ge_ty (by rfl) T.b_str PyProof.Rows.boot_str) ga_nil))) (ge_one (ge_cmp (go_eq hr.units) ge_never (ge_var (i := 1))))))))))))
theorem okc__law_same {P : Program} {w : World} {K : PySem.W.Frag} {mg : Str → Option Value} {base : Heap} (T : TB mg)  (F : Dn K mg "_law_same" s__law_same ["told", "due"]) : Cal P w K mg base 8 "_law_same" ["told", "due"] c__law_same := (ok__law_same T  F 8)
-- _law_roll
abbrev s__law_roll : Stmt := topS 26
def N__law_roll : List Str := ["cup", "many", "found", "deep"]
theorem sc__law_roll : FnScope N__law_roll ["cup", "many"] (defScope s__law_roll) := ⟨rfl, rfl, rfl, by decide +kernel, rfl, by decide +kernel, by decide +kernel⟩
theorem okc__law_roll {P : Program} {w : World} {K : PySem.W.Frag} {mg : Str → Option Value} {base : Heap} (T : TB mg)  (F : Dn K mg "_law_roll" s__law_roll ["cup", "many"]) : Cal P w K mg base 1 "_law_roll" ["cup", "many"] c__law_roll :=
  (fn_ML F sc__law_roll (fun f cdv A outer s H E hr =>
  have nd := sc__law_roll.nd
  (gss_cons (gs_if (gt_cmp go_gt (ge_ix gi_ix (ge_var (i := 0)) ge_int) ge_int) (gss_cons (gs_set (i := 2) nd (ge_op go_mod (ge_callTy gc_int (by rfl) T.b_int PyProof.Rows.boot_int (ga_cons (ge_ix gi_ix (ge_var (i := 0)) ge_int) ga_nil)) (ge_var (i := 1)))) (gss_cons (gs_asg (ge_op go_fdiv (ge_ix gi_ix (ge_var (i := 0)) ge_int) (ge_var (i := 1))) (gg_sub (ge_var (i := 0)) ge_int gset_list)) (gss_one (gs_ret (ge_var (i := 2)))))) gss_nil) (gss_cons (gs_asg (ge_op go_mod (ge_callTy gc_int (by rfl) T.b_int PyProof.Rows.boot_int (ga_cons (ge_op go_add (ge_op go_mul (ge_ix gi_ix (ge_var (i := 0)) ge_int) ge_int) ge_int) ga_nil)) ge_int) (gg_sub (ge_var (i := 0)) ge_int gset_list)) (gss_cons (gs_set (i := 3) nd (ge_op go_mod (ge_callTy gc_int (by rfl) T.b_int PyProof.Rows.boot_int (ga_cons (ge_op go_mul (ge_ix gi_ix (ge_var (i := 0)) ge_int) (ge_op go_add (ge_ix gi_ix (ge_var (i := 0)) ge_int) ge_int)) ga_nil)) ge_int)) (gss_one (gs_ret (ge_op go_mod (ge_callTy gc_int (by rfl) T.b_int PyProof.Rows.boot_int (ga_cons (ge_op go_fdiv (ge_var (i := 3)) ge_int) ga_nil)) (ge_var (i := 1))))))))))
-- _law_floor
abbrev s__law_floor : Stmt := topS 29
def N__law_floor : List Str := ["cup", "high", "wide", "share", "found", "row", "column"]
theorem sc__law_floor : FnScope N__law_floor ["cup", "high", "wide", "share"] (defScope s__law_floor) := ⟨rfl, rfl, rfl, by decide +kernel, rfl, by decide +kernel, by decide +kernel⟩
def sc1__law_floor : Scope := scp [(".0", .local), ("column", .local), ("_law_roll", .globalImplicit), ("cup", .free), ("row", .free), ("share", .free)] []
theorem okc__law_floor {P : Program} {w : World} {K : PySem.W.Frag} {mg : Str → Option Value} {base : Heap} (T : TB mg) (c__law_roll : Cal P w K mg base 1 "_law_roll" ["cup", "many"] c__law_roll) (F : Dn K mg "_law_floor" s__law_floor ["cup", "high", "wide", "share"]) : Cal P w K mg base 2 "_law_floor" ["cup", "high", "wide", "share"] c__law_floor :=
  (fn_ML F sc__law_floor (fun f cdv A outer s H E hr =>
  have nd := sc__law_floor.nd
  (gss_cons (gs_set (i := 4) nd (ge_lst ga_nil)) (gss_cons (gs_for PySem.PassesOwn.never (by rfl) (gi_range1 (by rfl) T.b_range (ga_cons (ge_var (i := 1)) ga_nil)) (gg_name nd (i := 5)) (gss_one (gs_set (i := 4) nd (ge_op go_add (ge_var (i := 4)) (ge_lc (by rfl) nd (gi_range1 (by rfl) T.b_range (ga_cons (ge_var (i := 2)) ga_nil)) ⟨blkOk_by (N := N__law_floor) (sc := (defScope s__law_floor)) (scope := sc1__law_floor) (own := [("column", 6)]) (by decide +kernel), rfl⟩ (fun _ _ _ _ _ => (gw_name nd (i := 6) (vs := [6]))) (fun _ _ _ _ _ => (gts_one (gt_cmp (go_lt hr.units0) (ge_call c__law_roll hr (ga_cons (ge_var (i := 0)) (ga_cons ge_int ga_nil))) (ge_var (i := 3))))) (fun _ _ _ _ _ => (ge_tup (ga_cons (ge_var (i := 5)) (ga_cons (ge_var (i := 6)) ga_nil))))))))) (gss_one (gs_ret (ge_if (gt_cmp (go_ne hr.units) (ge_var (i := 4)) (ge_lst ga_nil)) (ge_callTy gc_tuple (by rfl) T.b_tuple PyProof.Rows.boot_tuple (ga_cons (ge_var (i := 4)) ga_nil)) (ge_tup (ga_cons (ge_tup (ga_cons ge_int (ga_cons (ge_call c__law_roll hr (ga_cons (ge_var (i := 0)) (ga_cons (ge_var (i := 2)) ga_nil))) ga_nil))) ga_nil)))))))))
-- is_tuple_of
abbrev s_is_tuple_of : Stmt := topS 8
def N_is_tuple_of : List Str := ["value", "least", "most"]
theorem sc_is_tuple_of : FnScope N_is_tuple_of ["value", "least", "most"] (defScope s_is_tuple_of) := ⟨rfl, rfl, rfl, by decide +kernel, rfl, by decide +kernel, by decide +kernel⟩
theorem okc_is_tuple_of {P : Program} {w : World} {K : PySem.W.Frag} {mg : Str → Option Value} {base : Heap} (T : TB mg)  (F : Dn K mg "is_tuple_of" s_is_tuple_of ["value", "least", "most"]) : Cal P w K mg base 1 "is_tuple_of" ["value", "least", "most"] c_is_tuple_of :=
  (fn_ML F sc_is_tuple_of (fun f cdv A outer s H E hr =>
  have nd := sc_is_tuple_of.nd
  (gss_one (gs_ret (ge_and (ge_callB gc_isi (by rfl) T.b_isinstance PyProof.Rows.boot_isinstance (ga_cons (ge_var (i := 0)) (ga_cons (ge_ty (by rfl) T.b_tuple PyProof.Rows.boot_tuple) ga_nil))) (ge_one (ge_chain go_le go_le (ge_var (i := 1)) (ge_callB gc_len (by rfl) T.b_len PySem.boot_len (ga_cons (ge_var (i := 0)) ga_nil)) (ge_var (i := 2)))))))))
-- fits_whole
abbrev s_fits_whole : Stmt := topS 7
def N_fits_whole : List Str := ["value", "low", "high"]
theorem sc_fits_whole : FnScope N_fits_whole ["value", "low", "high"] (defScope s_fits_whole) := ⟨rfl, rfl, rfl, by decide +kernel, rfl, by decide +kernel, by decide +kernel⟩
theorem okc_fits_whole {P : Program} {w : World} {K : PySem.W.Frag} {mg : Str → Option Value} {base : Heap} (T : TB mg)  (F : Dn K mg "fits_whole" s_fits_whole ["value", "low", "high"]) : Cal P w K mg base 1 "fits_whole" ["value", "low", "high"] c_fits_whole :=
  (fn_ML F sc_fits_whole (fun f cdv A outer s H E hr =>
  have nd := sc_fits_whole.nd
  (gss_one (gs_ret (ge_and (ge_callB gc_isi (by rfl) T.b_isinstance PyProof.Rows.boot_isinstance (ga_cons (ge_var (i := 0)) (ga_cons (ge_ty (by rfl) T.b_int PyProof.Rows.boot_int) ga_nil))) (ge_and (ge_not (ge_callB gc_isi (by rfl) T.b_isinstance PyProof.Rows.boot_isinstance (ga_cons (ge_var (i := 0)) (ga_cons (ge_ty (by rfl) T.b_bool PyProof.Rows.boot_bool) ga_nil)))) (ge_one (ge_chain go_le go_le (ge_var (i := 1)) (ge_var (i := 0)) (ge_var (i := 2))))))))))
-- fits_cell
abbrev s_fits_cell : Stmt := topS 9
def N_fits_cell : List Str := ["value", "place"]
theorem sc_fits_cell : FnScope N_fits_cell ["value"] (defScope s_fits_cell) := ⟨rfl, rfl, rfl, by decide +kernel, rfl, by decide +kernel, by decide +kernel⟩
def sc1_fits_cell : Scope := scp [(".0", .local), ("place", .local), ("fits_whole", .globalImplicit), ("SIDE", .globalImplicit)] []
theorem okc_fits_cell {P : Program} {w : World} {K : PySem.W.Frag} {mg : Str → Option Value} {base : Heap} (T : TB mg) (c_is_tuple_of : Cal P w K mg base 1 "is_tuple_of" ["value", "least", "most"] c_is_tuple_of) (c_fits_whole : Cal P w K mg base 1 "fits_whole" ["value", "low", "high"] c_fits_whole) (F : Dn K mg "fits_cell" s_fits_cell ["value"]) : Cal P w K mg base 2 "fits_cell" ["value"] c_fits_cell :=
  (fn_ML F sc_fits_cell (fun f cdv A outer s H E hr =>
  have nd := sc_fits_cell.nd
  (gss_one (gs_ret (ge_and (ge_call c_is_tuple_of hr (ga_cons (ge_var (i := 0)) (ga_cons ge_int (ga_cons ge_int ga_nil)))) (ge_one (ge_callB (gc_all (by rfl)) (by rfl) T.b_all PyProof.Rows.boot_all (ga_cons (ge_lc (by rfl) nd (gi_any (ge_var (i := 0))) ⟨blkOk_by (N := N_fits_cell) (sc := (defScope s_fits_cell)) (scope := sc1_fits_cell) (own := [("place", 1)]) (by decide +kernel), rfl⟩ (fun _ _ _ _ _ => (gw_name nd (i := 1) (vs := [1]))) (fun _ _ _ _ _ => gts_nil) (fun _ _ _ _ _ => (ge_call c_fits_whole hr (ga_cons (ge_var (i := 1)) (ga_cons ge_int (ga_cons (ge_op go_sub (ge_globI (by rfl) T.k_SIDE) ge_int) ga_nil)))))) ga_nil))))))))
-- fits_floor
abbrev s_fits_floor : Stmt := topS 10
def N_fits_floor : List Str := ["value", "one", "other", "cell"]
theorem sc_fits_floor : FnScope N_fits_floor ["value"] (defScope s_fits_floor) := ⟨rfl, rfl, rfl, by decide +kernel, rfl, by decide +kernel, by decide +kernel⟩
def sc1_fits_floor : Scope := scp [(".0", .local), ("one", .local), ("other", .local)] []
def sc2_fits_floor : Scope := scp [(".0", .local), ("cell", .local), ("fits_cell", .globalImplicit)] []
theorem okc_fits_floor {P : Program} {w : World} {K : PySem.W.Frag} {mg : Str → Option Value} {base : Heap} (T : TB mg) (c_is_tuple_of : Cal P w K mg base 1 "is_tuple_of" ["value", "least", "most"] c_is_tuple_of) (c_fits_cell : Cal P w K mg base 2 "fits_cell" ["value"] c_fits_cell) (F : Dn K mg "fits_floor" s_fits_floor ["value"]) : Cal P w K mg base 3 "fits_floor" ["value"] c_fits_floor :=
  (fn_ML F sc_fits_floor (fun f cdv A outer s H E hr =>
  have nd := sc_fits_floor.nd
  (gss_cons (gs_if (gt_w (gw_or (gt_not (gt_val (ge_call c_is_tuple_of hr (ga_cons (ge_var (i := 0)) (ga_cons ge_int (ga_cons (ge_globI (by rfl) T.k_CELLS) ga_nil)))))) (gw_or1 (gt_not (gt_val (ge_callB (gc_all (by rfl)) (by rfl) T.b_all PyProof.Rows.boot_all (ga_cons (ge_lc (by rfl) nd (gi_any (ge_var (i := 0))) ⟨blkOk_by (N := N_fits_floor) (sc := (defScope s_fits_floor)) (scope := sc2_fits_floor) (own := [("cell", 3)]) (by decide +kernel), rfl⟩ (fun _ _ _ _ _ => (gw_name nd (i := 3) (vs := [3]))) (fun _ _ _ _ _ => gts_nil) (fun _ _ _ _ _ => (ge_call c_fits_cell hr (ga_cons (ge_var (i := 3)) ga_nil)))) ga_nil))))))) (gss_one (gs_ret ge_bl)) gss_nil) (gss_one (gs_ret (ge_callB (gc_all (by rfl)) (by rfl) T.b_all PyProof.Rows.boot_all (ga_cons (ge_lc (by rfl) nd (gi_zip (by rfl) T.b_zip (ga_cons (ge_var (i := 0)) (ga_cons (ge_slice (ge_var (i := 0)) (gp_some ge_int) gp_none) ga_nil))) ⟨blkOk_by (N := N_fits_floor) (sc := (defScope s_fits_floor)) (scope := sc1_fits_floor) (own := [("one", 1), ("other", 2)]) (by decide +kernel), rfl⟩ (fun _ _ _ _ _ => (gw_tup (by rfl) (gws_cons (gw_name nd (i := 1) (vs := [1, 2])) (gws_cons (gw_name nd (i := 2) (vs := [1, 2])) gws_nil)))) (fun _ _ _ _ _ => gts_nil) (fun _ _ _ _ _ => (ge_cmp (go_lt hr.units0) (ge_var (i := 1)) (ge_var (i := 2))))) ga_nil)))))))
-- need_floor
abbrev s_need_floor : Stmt := topS 17
def N_need_floor : List Str := ["floor"]
theorem sc_need_floor : FnScope N_need_floor ["floor"] (defScope s_need_floor) := ⟨rfl, rfl, rfl, by decide +kernel, rfl, by decide +kernel, by decide +kernel⟩
theorem okc_need_floor {P : Program} {w : World} {K : PySem.W.Frag} {mg : Str → Option Value} {base : Heap} (T : TB mg) (c_fits_floor : Cal P w K mg base 3 "fits_floor" ["value"] c_fits_floor) (F : Dn K mg "need_floor" s_need_floor ["floor"]) : Cal P w K mg base 4 "need_floor" ["floor"] c_need_floor :=
  (fn_ML F sc_need_floor (fun f cdv A outer s H E hr =>
  have nd := sc_need_floor.nd
  (gss_one (gs_if (gt_not (gt_val (ge_call c_fits_floor hr (ga_cons (ge_var (i := 0)) ga_nil)))) gss_never gss_nil))))
-- box_in
abbrev s_box_in : Stmt := topS 13
def N_box_in : List Str := ["cells", "rows", "columns", "row", "column"]
theorem sc_box_in : FnScope N_box_in ["cells"] (defScope s_box_in) := ⟨rfl, rfl, rfl, by decide +kernel, rfl, by decide +kernel, by decide +kernel⟩
def sc1_box_in : Scope := scp [(".0", .local), ("row", .local), ("column", .local)] []
def sc2_box_in : Scope := scp [(".0", .local), ("row", .local), ("column", .local)] []
theorem okc_box_in {P : Program} {w : World} {K : PySem.W.Frag} {mg : Str → Option Value} {base : Heap} (T : TB mg)  (F : Dn K mg "box_in" s_box_in ["cells"]) : Cal P w K mg base 1 "box_in" ["cells"] c_box_in :=
  (fn_ML F sc_box_in (fun f cdv A outer s H E hr =>
  have nd := sc_box_in.nd
  (gss_cons (gs_par (i := 1) (j := 2) (by rfl) nd (ga_cons (ge_lc (by rfl) nd (gi_any (ge_var (i := 0))) ⟨blkOk_by (N := N_box_in) (sc := (defScope s_box_in)) (scope := sc2_box_in) (own := [("row", 3), ("column", 4)]) (by decide +kernel), rfl⟩ (fun _ _ _ _ _ => (gw_tup (by rfl) (gws_cons (gw_name nd (i := 3) (vs := [3, 4])) (gws_cons (gw_name nd (i := 4) (vs := [3, 4])) gws_nil)))) (fun _ _ _ _ _ => gts_nil) (fun _ _ _ _ _ => (ge_var (i := 3)))) (ga_cons (ge_lc (by rfl) nd (gi_any (ge_var (i := 0))) ⟨blkOk_by (N := N_box_in) (sc := (defScope s_box_in)) (scope := sc1_box_in) (own := [("row", 3), ("column", 4)]) (by decide +kernel), rfl⟩ (fun _ _ _ _ _ => (gw_tup (by rfl) (gws_cons (gw_name nd (i := 3) (vs := [3, 4])) (gws_cons (gw_name nd (i := 4) (vs := [3, 4])) gws_nil)))) (fun _ _ _ _ _ => gts_nil) (fun _ _ _ _ _ => (ge_var (i := 4)))) ga_nil))) (gss_one (gs_ret (ge_tup (ga_cons (ge_callB (gc_min (by rfl)) (by rfl) T.b_min PyProof.Rows.boot_min (ga_cons (ge_var (i := 1)) ga_nil)) (ga_cons (ge_callB (gc_min (by rfl)) (by rfl) T.b_min PyProof.Rows.boot_min (ga_cons (ge_var (i := 2)) ga_nil)) (ga_cons (ge_callB (gc_max (by rfl)) (by rfl) T.b_max PyProof.Rows.boot_max (ga_cons (ge_var (i := 1)) ga_nil)) (ga_cons (ge_callB (gc_max (by rfl)) (by rfl) T.b_max PyProof.Rows.boot_max (ga_cons (ge_var (i := 2)) ga_nil)) ga_nil))))))))))
-- box
abbrev s_box : Stmt := topS 22
def N_box : List Str := ["floor"]
theorem sc_box : FnScope N_box ["floor"] (defScope s_box) := ⟨rfl, rfl, rfl, by decide +kernel, rfl, by decide +kernel, by decide +kernel⟩
theorem okc_box {P : Program} {w : World} {K : PySem.W.Frag} {mg : Str → Option Value} {base : Heap} (T : TB mg) (c_need_floor : Cal P w K mg base 4 "need_floor" ["floor"] c_need_floor) (c_box_in : Cal P w K mg base 1 "box_in" ["cells"] c_box_in) (F : Dn K mg "box" s_box ["floor"]) : Cal P w K mg base 5 "box" ["floor"] c_box :=
  (fn_ML F sc_box (fun f cdv A outer s H E hr =>
  have nd := sc_box.nd
  (gss_cons (gs_expr (ge_call c_need_floor hr (ga_cons (ge_var (i := 0)) ga_nil))) (gss_one (gs_ret (ge_call c_box_in hr (ga_cons (ge_var (i := 0)) ga_nil)))))))
-- moved_in
abbrev s_moved_in : Stmt := topS 14
def N_moved_in : List Str := ["cells", "down", "right", "row", "column"]
theorem sc_moved_in : FnScope N_moved_in ["cells", "down", "right"] (defScope s_moved_in) := ⟨rfl, rfl, rfl, by decide +kernel, rfl, by decide +kernel, by decide +kernel⟩
def sc1_moved_in : Scope := scp [(".0", .local), ("row", .local), ("column", .local), ("down", .free), ("right", .free)] []
theorem okc_moved_in {P : Program} {w : World} {K : PySem.W.Frag} {mg : Str → Option Value} {base : Heap} (T : TB mg)  (F : Dn K mg "moved_in" s_moved_in ["cells", "down", "right"]) : Cal P w K mg base 1 "moved_in" ["cells", "down", "right"] c_moved_in :=
  (fn_ML F sc_moved_in (fun f cdv A outer s H E hr =>
  have nd := sc_moved_in.nd
  (gss_one (gs_ret (ge_callTy gc_tuple (by rfl) T.b_tuple PyProof.Rows.boot_tuple (ga_cons (ge_lc (by rfl) nd (gi_any (ge_var (i := 0))) ⟨blkOk_by (N := N_moved_in) (sc := (defScope s_moved_in)) (scope := sc1_moved_in) (own := [("row", 3), ("column", 4)]) (by decide +kernel), rfl⟩ (fun _ _ _ _ _ => (gw_tup (by rfl) (gws_cons (gw_name nd (i := 3) (vs := [3, 4])) (gws_cons (gw_name nd (i := 4) (vs := [3, 4])) gws_nil)))) (fun _ _ _ _ _ => gts_nil) (fun _ _ _ _ _ => (ge_tup (ga_cons (ge_op go_add (ge_var (i := 3)) (ge_var (i := 1))) (ga_cons (ge_op go_add (ge_var (i := 4)) (ge_var (i := 2))) ga_nil))))) ga_nil))))))
-- moved
abbrev s_moved : Stmt := topS 23
def N_moved : List Str := ["floor", "down", "right", "top", "left", "bottom", "last"]
theorem sc_moved : FnScope N_moved ["floor", "down", "right"] (defScope s_moved) := ⟨rfl, rfl, rfl, by decide +kernel, rfl, by decide +kernel, by decide +kernel⟩
theorem okc_moved {P : Program} {w : World} {K : PySem.W.Frag} {mg : Str → Option Value} {base : Heap} (T : TB mg) (c_need_floor : Cal P w K mg base 4 "need_floor" ["floor"] c_need_floor) (c_box_in : Cal P w K mg base 1 "box_in" ["cells"] c_box_in) (c_moved_in : Cal P w K mg base 1 "moved_in" ["cells", "down", "right"] c_moved_in) (c_fits_whole : Cal P w K mg base 1 "fits_whole" ["value", "low", "high"] c_fits_whole) (F : Dn K mg "moved" s_moved ["floor", "down", "right"]) : Cal P w K mg base 5 "moved" ["floor", "down", "right"] c_moved :=
  (fn_ML F sc_moved (fun f cdv A outer s H E hr =>
  have nd := sc_moved.nd
  (gss_cons (gs_expr (ge_call c_need_floor hr (ga_cons (ge_var (i := 0)) ga_nil))) (gss_cons (gs_asg (ge_call c_box_in hr (ga_cons (ge_var (i := 0)) ga_nil)) (gg_tup (by rfl) (ggs_cons (gg_name nd (i := 3)) (ggs_cons (gg_name nd (i := 4)) (ggs_cons (gg_name nd (i := 5)) (ggs_cons (gg_name nd (i := 6)) ggs_nil)))))) (gss_cons (gs_if (gt_w (gw_or (gt_not (gt_val (ge_call c_fits_whole hr (ga_cons (ge_var (i := 1)) (ga_cons (ge_un gu_neg (ge_var (i := 3))) (ga_cons (ge_op go_sub (ge_op go_sub (ge_globI (by rfl) T.k_SIDE) ge_int) (ge_var (i := 5))) ga_nil)))))) (gw_or1 (gt_not (gt_val (ge_call c_fits_whole hr (ga_cons (ge_var (i := 2)) (ga_cons (ge_un gu_neg (ge_var (i := 4))) (ga_cons (ge_op go_sub (ge_op go_sub (ge_globI (by rfl) T.k_SIDE) ge_int) (ge_var (i := 6))) ga_nil))))))))) gss_never gss_nil) (gss_one (gs_ret (ge_call c_moved_in hr (ga_cons (ge_var (i := 0)) (ga_cons (ge_var (i := 1)) (ga_cons (ge_var (i := 2)) ga_nil)))))))))))
-- near_in
abbrev s_near_in : Stmt := topS 11
def N_near_in : List Str := ["cell", "row", "column"]
theorem sc_near_in : FnScope N_near_in ["cell"] (defScope s_near_in) := ⟨rfl, rfl, rfl, by decide +kernel, rfl, by decide +kernel, by decide +kernel⟩
theorem okc_near_in {P : Program} {w : World} {K : PySem.W.Frag} {mg : Str → Option Value} {base : Heap} (T : TB mg)  (F : Dn K mg "near_in" s_near_in ["cell"]) : Cal P w K mg base 1 "near_in" ["cell"] c_near_in :=
  (fn_ML F sc_near_in (fun f cdv A outer s H E hr =>
  have nd := sc_near_in.nd
  (gss_cons (gs_asg (ge_var (i := 0)) (gg_tup (by rfl) (ggs_cons (gg_name nd (i := 1)) (ggs_cons (gg_name nd (i := 2)) ggs_nil)))) (gss_one (gs_ret (ge_lst (ga_cons (ge_tup (ga_cons (ge_op go_sub (ge_var (i := 1)) ge_int) (ga_cons (ge_var (i := 2)) ga_nil))) (ga_cons (ge_tup (ga_cons (ge_var (i := 1)) (ga_cons (ge_op go_sub (ge_var (i := 2)) ge_int) ga_nil))) (ga_cons (ge_tup (ga_cons (ge_var (i := 1)) (ga_cons (ge_op go_add (ge_var (i := 2)) ge_int) ga_nil))) (ga_cons (ge_tup (ga_cons (ge_op go_add (ge_var (i := 1)) ge_int) (ga_cons (ge_var (i := 2)) ga_nil))) ga_nil))))))))))
-- sides_in
abbrev s_sides_in : Stmt := topS 15
def N_sides_in : List Str := ["cells", "inner", "cell", "other"]
theorem sc_sides_in : FnScope N_sides_in ["cells"] (defScope s_sides_in) := ⟨rfl, rfl, rfl, by decide +kernel, rfl, by decide +kernel, by decide +kernel⟩
def sc1_sides_in : Scope := scp [(".0", .local), ("cell", .local), ("len", .globalImplicit), ("near_in", .globalImplicit), ("inner", .free)] []
def sc1_sides_inr : Scope := scp [(".0", .local), ("cell", .local), ("len", .globalImplicit), ("near_in", .globalImplicit), ("inner", .cell)] []
def sc2_sides_in : Scope := scp [(".0", .local), ("other", .local), ("inner", .free)] []
def sc3_sides_in : Scope := scp [(".0", .local), ("cell", .local)] []
theorem okc_sides_in {P : Program} {w : World} {K : PySem.W.Frag} {mg : Str → Option Value} {base : Heap} (T : TB mg) (c_near_in : Cal P w K mg base 1 "near_in" ["cell"] c_near_in) (F : Dn K mg "sides_in" s_sides_in ["cells"]) : Cal P w K mg base 2 "sides_in" ["cells"] c_sides_in :=
  (fn_ML F sc_sides_in (fun f cdv A outer s H E hr =>
  have nd := sc_sides_in.nd
  (gss_cons (gs_set (i := 1) nd (ge_callTy (gc_dictQ (by rfl) (hu2 hr)) (by rfl) T.b_dict PyProof.Rows.boot_dict (ga_cons (ge_lc (by rfl) nd (gi_any (ge_var (i := 0))) ⟨blkOk_by (N := N_sides_in) (sc := (defScope s_sides_in)) (scope := sc3_sides_in) (own := [("cell", 2)]) (by decide +kernel), rfl⟩ (fun _ _ _ _ _ => (gw_name nd (i := 2) (vs := [2]))) (fun _ _ _ _ _ => gts_nil) (fun _ _ _ _ _ => (ge_tup (ga_cons (ge_var (i := 2)) (ga_cons ge_bl ga_nil))))) ga_nil))) (gss_one (gs_ret (ge_callB (gc_sum (by rfl)) (by rfl) T.b_sum PyProof.Rows.boot_sum (ga_cons (ge_lc (by rfl) nd (gi_any (ge_var (i := 0))) ⟨blkOk_by (N := N_sides_in) (sc := (defScope s_sides_in)) (scope := sc1_sides_in) (own := [("cell", 2)]) (by decide +kernel), rfl⟩ (fun _ _ _ _ _ => (gw_name nd (i := 2) (vs := [2]))) (fun _ _ _ _ _ => gts_nil) (fun _ _ _ _ _ => (ge_callB gc_len (by rfl) T.b_len PySem.boot_len (ga_cons (ge_lc (by rfl) nd (gi_any (ge_call c_near_in hr (ga_cons (ge_var (i := 2)) ga_nil))) ⟨blkOk_by (N := N_sides_in) (sc := sc1_sides_inr) (scope := sc2_sides_in) (own := [("other", 3)]) (by decide +kernel), rfl⟩ (fun _ _ _ _ _ => (gw_name nd (i := 3) (vs := [3]))) (fun _ _ _ _ _ => (gts_one (gt_cmp (go_notinQ (hu65 hr)) (ge_var (i := 3)) (ge_var (i := 1))))) (fun _ _ _ _ _ => ge_int)) ga_nil)))) ga_nil)))))))
-- rim_many
abbrev s_rim_many : Stmt := topS 19
def N_rim_many : List Str := ["floor"]
theorem sc_rim_many : FnScope N_rim_many ["floor"] (defScope s_rim_many) := ⟨rfl, rfl, rfl, by decide +kernel, rfl, by decide +kernel, by decide +kernel⟩
theorem okc_rim_many {P : Program} {w : World} {K : PySem.W.Frag} {mg : Str → Option Value} {base : Heap} (T : TB mg) (c_need_floor : Cal P w K mg base 4 "need_floor" ["floor"] c_need_floor) (c_sides_in : Cal P w K mg base 2 "sides_in" ["cells"] c_sides_in) (F : Dn K mg "rim_many" s_rim_many ["floor"]) : Cal P w K mg base 5 "rim_many" ["floor"] c_rim_many :=
  (fn_ML F sc_rim_many (fun f cdv A outer s H E hr =>
  have nd := sc_rim_many.nd
  (gss_cons (gs_expr (ge_call c_need_floor hr (ga_cons (ge_var (i := 0)) ga_nil))) (gss_one (gs_ret (ge_call c_sides_in hr (ga_cons (ge_var (i := 0)) ga_nil)))))))
-- side_pairs
abbrev s_side_pairs : Stmt := topS 20
def N_side_pairs : List Str := ["floor"]
theorem sc_side_pairs : FnScope N_side_pairs ["floor"] (defScope s_side_pairs) := ⟨rfl, rfl, rfl, by decide +kernel, rfl, by decide +kernel, by decide +kernel⟩
theorem okc_side_pairs {P : Program} {w : World} {K : PySem.W.Frag} {mg : Str → Option Value} {base : Heap} (T : TB mg) (c_need_floor : Cal P w K mg base 4 "need_floor" ["floor"] c_need_floor) (c_sides_in : Cal P w K mg base 2 "sides_in" ["cells"] c_sides_in) (F : Dn K mg "side_pairs" s_side_pairs ["floor"]) : Cal P w K mg base 5 "side_pairs" ["floor"] c_side_pairs :=
  (fn_ML F sc_side_pairs (fun f cdv A outer s H E hr =>
  have nd := sc_side_pairs.nd
  (gss_cons (gs_expr (ge_call c_need_floor hr (ga_cons (ge_var (i := 0)) ga_nil))) (gss_one (gs_ret (ge_op go_fdiv (ge_op go_sub (ge_op go_mul ge_int (ge_callB gc_len (by rfl) T.b_len PySem.boot_len (ga_cons (ge_var (i := 0)) ga_nil))) (ge_call c_sides_in hr (ga_cons (ge_var (i := 0)) ga_nil))) ge_int))))))
-- blocks_in
abbrev s_blocks_in : Stmt := topS 16
def N_blocks_in : List Str := ["cells", "inner", "found", "row", "column", "cell"]
theorem sc_blocks_in : FnScope N_blocks_in ["cells"] (defScope s_blocks_in) := ⟨rfl, rfl, rfl, by decide +kernel, rfl, by decide +kernel, by decide +kernel⟩
def sc1_blocks_in : Scope := scp [(".0", .local), ("cell", .local)] []
theorem okc_blocks_in {P : Program} {w : World} {K : PySem.W.Frag} {mg : Str → Option Value} {base : Heap} (T : TB mg)  (F : Dn K mg "blocks_in" s_blocks_in ["cells"]) : Cal P w K mg base 1 "blocks_in" ["cells"] c_blocks_in :=
  (fn_ML F sc_blocks_in (fun f cdv A outer s H E hr =>
  have nd := sc_blocks_in.nd
  (gss_cons (gs_set (i := 1) nd (ge_callTy (gc_dictQ (by rfl) (hu2 hr)) (by rfl) T.b_dict PyProof.Rows.boot_dict (ga_cons (ge_lc (by rfl) nd (gi_any (ge_var (i := 0))) ⟨blkOk_by (N := N_blocks_in) (sc := (defScope s_blocks_in)) (scope := sc1_blocks_in) (own := [("cell", 5)]) (by decide +kernel), rfl⟩ (fun _ _ _ _ _ => (gw_name nd (i := 5) (vs := [5]))) (fun _ _ _ _ _ => gts_nil) (fun _ _ _ _ _ => (ge_tup (ga_cons (ge_var (i := 5)) (ga_cons ge_bl ga_nil))))) ga_nil))) (gss_cons (gs_set (i := 2) nd ge_int) (gss_cons (gs_for PySem.PassesOwn.never (by rfl) (gi_any (ge_var (i := 0))) (gg_tup (by rfl) (ggs_cons (gg_name nd (i := 3)) (ggs_cons (gg_name nd (i := 4)) ggs_nil))) (gss_one (gs_if (gt_w (gw_and (gt_cmp (go_inQ (hu65 hr)) (ge_tup (ga_cons (ge_var (i := 3)) (ga_cons (ge_op go_add (ge_var (i := 4)) ge_int) ga_nil))) (ge_var (i := 1))) (gw_and (gt_cmp (go_inQ (hu65 hr)) (ge_tup (ga_cons (ge_op go_add (ge_var (i := 3)) ge_int) (ga_cons (ge_var (i := 4)) ga_nil))) (ge_var (i := 1))) (gw_and1 (gt_cmp (go_inQ (hu65 hr)) (ge_tup (ga_cons (ge_op go_add (ge_var (i := 3)) ge_int) (ga_cons (ge_op go_add (ge_var (i := 4)) ge_int) ga_nil))) (ge_var (i := 1))))))) (gss_one (gs_set (i := 2) nd (ge_op go_add (ge_var (i := 2)) ge_int))) gss_nil))) (gss_one (gs_ret (ge_var (i := 2)))))))))
-- blocks
abbrev s_blocks : Stmt := topS 21
def N_blocks : List Str := ["floor"]
theorem sc_blocks : FnScope N_blocks ["floor"] (defScope s_blocks) := ⟨rfl, rfl, rfl, by decide +kernel, rfl, by decide +kernel, by decide +kernel⟩
theorem okc_blocks {P : Program} {w : World} {K : PySem.W.Frag} {mg : Str → Option Value} {base : Heap} (T : TB mg) (c_need_floor : Cal P w K mg base 4 "need_floor" ["floor"] c_need_floor) (c_blocks_in : Cal P w K mg base 1 "blocks_in" ["cells"] c_blocks_in) (F : Dn K mg "blocks" s_blocks ["floor"]) : Cal P w K mg base 5 "blocks" ["floor"] c_blocks :=
  (fn_ML F sc_blocks (fun f cdv A outer s H E hr =>
  have nd := sc_blocks.nd
  (gss_cons (gs_expr (ge_call c_need_floor hr (ga_cons (ge_var (i := 0)) ga_nil))) (gss_one (gs_ret (ge_call c_blocks_in hr (ga_cons (ge_var (i := 0)) ga_nil)))))))
-- parts_in
abbrev s_parts_in : Stmt := topS 12
def N_parts_in : List Str := ["cells", "cell", "left", "found", "part", "line", "other"]
theorem sc_parts_in : FnScope N_parts_in ["cells"] (defScope s_parts_in) := ⟨rfl, rfl, rfl, by decide +kernel, rfl, by decide +kernel, by decide +kernel⟩
def sc1_parts_in : Scope := scp [(".0", .local), ("cell", .local)] []
theorem okc_parts_in {P : Program} {w : World} {K : PySem.W.Frag} {mg : Str → Option Value} {base : Heap} (T : TB mg) (c_near_in : Cal P w K mg base 1 "near_in" ["cell"] c_near_in) (F : Dn K mg "parts_in" s_parts_in ["cells"]) : Cal P w K mg base 2 "parts_in" ["cells"] c_parts_in :=
  (fn_ML F sc_parts_in (fun f cdv A outer s H E hr =>
  have nd := sc_parts_in.nd
  (gss_cons (gs_par (i := 2) (j := 3) (by rfl) nd (ga_cons (ge_callTy (gc_dictQ (by rfl) (hu2 hr)) (by rfl) T.b_dict PyProof.Rows.boot_dict (ga_cons (ge_lc (by rfl) nd (gi_any (ge_var (i := 0))) ⟨blkOk_by (N := N_parts_in) (sc := (defScope s_parts_in)) (scope := sc1_parts_in) (own := [("cell", 1)]) (by decide +kernel), rfl⟩ (fun _ _ _ _ _ => (gw_name nd (i := 1) (vs := [1]))) (fun _ _ _ _ _ => gts_nil) (fun _ _ _ _ _ => (ge_tup (ga_cons (ge_var (i := 1)) (ga_cons ge_bl ga_nil))))) ga_nil)) (ga_cons (ge_lstM ga_nil) ga_nil))) (gss_cons (gs_for PySem.PassesOwn.never (by rfl) (gi_any (ge_callB (gc_sortU (by rfl)) (by rfl) T.b_sorted PyProof.Rows.boot_sorted (ga_cons (ge_var (i := 0)) ga_nil))) (gg_name nd (i := 1)) (gss_one (gs_if (gt_cmp (go_inQ (hu65 hr)) (ge_var (i := 1)) (ge_var (i := 2))) (gss_cons (gs_del (hu1 hr) (ge_var (i := 2)) (ge_var (i := 1))) (gss_cons (gs_par (i := 4) (j := 5) (by rfl) nd (ga_cons (ge_lstM (ga_cons (ge_var (i := 1)) ga_nil)) (ga_cons (ge_lstM (ga_cons (ge_var (i := 1)) ga_nil)) ga_nil))) (gss_cons (gs_while 402 PySem.PassesOwn.never (gt_cmp (go_ne hr.units) (ge_var (i := 5)) (ge_lst ga_nil)) (gss_one (gs_for PySem.PassesOwn.never (by rfl) (gi_any (ge_call c_near_in hr (ga_cons (ge_bm0 PySem.F.plainAttrs_list PySem.F.slot_list_pop PySem.F.type_list_pop gm_pop (ge_var (i := 5))) ga_nil))) (gg_name nd (i := 6)) (gss_one (gs_if (gt_cmp (go_inQ (hu65 hr)) (ge_var (i := 6)) (ge_var (i := 2))) (gss_cons (gs_del (hu1 hr) (ge_var (i := 2)) (ge_var (i := 6))) (gss_cons (gs_expr (ge_bm PySem.F.plainAttrs_list PySem.F.slot_list_append PySem.F.type_list_append gm_append (ge_var (i := 4)) (ga_cons (ge_var (i := 6)) ga_nil))) (gss_one (gs_expr (ge_bm PySem.F.plainAttrs_list PySem.F.slot_list_append PySem.F.type_list_append gm_append (ge_var (i := 5)) (ga_cons (ge_var (i := 6)) ga_nil)))))) gss_nil))))) (gss_one (gs_expr (ge_bm PySem.F.plainAttrs_list PySem.F.slot_list_append PySem.F.type_list_append gm_append (ge_var (i := 3)) (ga_cons (ge_callB (gc_sortU (by rfl)) (by rfl) T.b_sorted PyProof.Rows.boot_sorted (ga_cons (ge_var (i := 4)) ga_nil)) ga_nil))))))) gss_nil))) (gss_one (gs_ret (ge_var (i := 3))))))))
-- parts
abbrev s_parts : Stmt := topS 18
def N_parts : List Str := ["floor", "part"]
theorem sc_parts : FnScope N_parts ["floor"] (defScope s_parts) := ⟨rfl, rfl, rfl, by decide +kernel, rfl, by decide +kernel, by decide +kernel⟩
def sc1_parts : Scope := scp [(".0", .local), ("part", .local), ("tuple", .globalImplicit)] []
theorem okc_parts {P : Program} {w : World} {K : PySem.W.Frag} {mg : Str → Option Value} {base : Heap} (T : TB mg) (c_need_floor : Cal P w K mg base 4 "need_floor" ["floor"] c_need_floor) (c_parts_in : Cal P w K mg base 2 "parts_in" ["cells"] c_parts_in) (F : Dn K mg "parts" s_parts ["floor"]) : Cal P w K mg base 5 "parts" ["floor"] c_parts :=
  (fn_ML F sc_parts (fun f cdv A outer s H E hr =>
  have nd := sc_parts.nd
  (gss_cons (gs_expr (ge_call c_need_floor hr (ga_cons (ge_var (i := 0)) ga_nil))) (gss_one (gs_ret (ge_callTy gc_tuple (by rfl) T.b_tuple PyProof.Rows.boot_tuple (ga_cons (ge_lc (by rfl) nd (gi_any (ge_call c_parts_in hr (ga_cons (ge_var (i := 0)) ga_nil))) ⟨blkOk_by (N := N_parts) (sc := (defScope s_parts)) (scope := sc1_parts) (own := [("part", 1)]) (by decide +kernel), rfl⟩ (fun _ _ _ _ _ => (gw_name nd (i := 1) (vs := [1]))) (fun _ _ _ _ _ => gts_nil) (fun _ _ _ _ _ => (ge_callTy gc_tuple (by rfl) T.b_tuple PyProof.Rows.boot_tuple (ga_cons (ge_var (i := 1)) ga_nil)))) ga_nil)))))))
-- _law_right
abbrev s__law_right : Stmt := topS 32
def N__law_right : List Str := ["floor", "row", "column", "pairs", "whole", "square", "rows", "columns", "told", "other"]
theorem sc__law_right : FnScope N__law_right ["floor"] (defScope s__law_right) := ⟨rfl, rfl, rfl, by decide +kernel, rfl, by decide +kernel, by decide +kernel⟩
def sc1__law_right : Scope := scp [(".0", .local), ("row", .local), ("column", .local)] []
def sc2__law_right : Scope := scp [(".0", .local), ("row", .local), ("column", .local)] []
def sc3__law_right : Scope := scp [(".0", .local), ("other", .local), ("floor", .free)] []
def sc4__law_right : Scope := scp [(".0", .local), ("row", .local), ("column", .local), ("floor", .free)] []
def sc5__law_right : Scope := scp [(".0", .local), ("row", .local), ("column", .local), ("floor", .free)] []
theorem okc__law_right {P : Program} {w : World} {K : PySem.W.Frag} {mg : Str → Option Value} {base : Heap} (T : TB mg) (c_rim_many : Cal P w K mg base 5 "rim_many" ["floor"] c_rim_many) (c_side_pairs : Cal P w K mg base 5 "side_pairs" ["floor"] c_side_pairs) (c_blocks : Cal P w K mg base 5 "blocks" ["floor"] c_blocks) (c_box : Cal P w K mg base 5 "box" ["floor"] c_box) (c__law_same : Cal P w K mg base 8 "_law_same" ["told", "due"] c__law_same) (c_parts : Cal P w K mg base 5 "parts" ["floor"] c_parts) (F : Dn K mg "_law_right" s__law_right ["floor"]) : Cal P w K mg base 9 "_law_right" ["floor"] c__law_right :=
  (fn_ML F sc__law_right (fun f cdv A outer s H E hr =>
  have nd := sc__law_right.nd
  (gss_cons (gs_set (i := 3) nd (ge_op go_add (ge_callB gc_len (by rfl) T.b_len PySem.boot_len (ga_cons (ge_lc (by rfl) nd (gi_any (ge_var (i := 0))) ⟨blkOk_by (N := N__law_right) (sc := (defScope s__law_right)) (scope := sc4__law_right) (own := [("row", 1), ("column", 2)]) (by decide +kernel), rfl⟩ (fun _ _ _ _ _ => (gw_tup (by rfl) (gws_cons (gw_name nd (i := 1) (vs := [1, 2])) (gws_cons (gw_name nd (i := 2) (vs := [1, 2])) gws_nil)))) (fun _ _ _ _ _ => (gts_one (gt_cmp (go_in (hu65 hr)) (ge_tup (ga_cons (ge_op go_add (ge_var (i := 1)) ge_int) (ga_cons (ge_var (i := 2)) ga_nil))) (ge_var (i := 0))))) (fun _ _ _ _ _ => ge_int)) ga_nil)) (ge_callB gc_len (by rfl) T.b_len PySem.boot_len (ga_cons (ge_lc (by rfl) nd (gi_any (ge_var (i := 0))) ⟨blkOk_by (N := N__law_right) (sc := (defScope s__law_right)) (scope := sc5__law_right) (own := [("row", 1), ("column", 2)]) (by decide +kernel), rfl⟩ (fun _ _ _ _ _ => (gw_tup (by rfl) (gws_cons (gw_name nd (i := 1) (vs := [1, 2])) (gws_cons (gw_name nd (i := 2) (vs := [1, 2])) gws_nil)))) (fun _ _ _ _ _ => (gts_one (gt_cmp (go_in (hu65 hr)) (ge_tup (ga_cons (ge_var (i := 1)) (ga_cons (ge_op go_add (ge_var (i := 2)) ge_int) ga_nil))) (ge_var (i := 0))))) (fun _ _ _ _ _ => ge_int)) ga_nil)))) (gss_cons (gs_set (i := 4) nd ge_int) (gss_cons (gs_for PySem.PassesOwn.never (by rfl) (gi_any (ge_var (i := 0))) (gg_tup (by rfl) (ggs_cons (gg_name nd (i := 1)) (ggs_cons (gg_name nd (i := 2)) ggs_nil))) (gss_cons (gs_set (i := 5) nd (ge_lst (ga_cons (ge_tup (ga_cons (ge_var (i := 1)) (ga_cons (ge_op go_add (ge_var (i := 2)) ge_int) ga_nil))) (ga_cons (ge_tup (ga_cons (ge_op go_add (ge_var (i := 1)) ge_int) (ga_cons (ge_var (i := 2)) ga_nil))) (ga_cons (ge_tup (ga_cons (ge_op go_add (ge_var (i := 1)) ge_int) (ga_cons (ge_op go_add (ge_var (i := 2)) ge_int) ga_nil))) ga_nil))))) (gss_one (gs_set (i := 4) nd (ge_op go_add (ge_var (i := 4)) (ge_if (gt_cmp (go_eq hr.units) (ge_lc (by rfl) nd (gi_any (ge_var (i := 5))) ⟨blkOk_by (N := N__law_right) (sc := (defScope s__law_right)) (scope := sc3__law_right) (own := [("other", 9)]) (by decide +kernel), rfl⟩ (fun _ _ _ _ _ => (gw_name nd (i := 9) (vs := [9]))) (fun _ _ _ _ _ => (gts_one (gt_cmp (go_notin (hu65 hr)) (ge_var (i := 9)) (ge_var (i := 0))))) (fun _ _ _ _ _ => ge_int)) (ge_lst ga_nil)) ge_int ge_int)))))) (gss_cons (gs_par (i := 6) (j := 7) (by rfl) nd (ga_cons (ge_lc (by rfl) nd (gi_any (ge_var (i := 0))) ⟨blkOk_by (N := N__law_right) (sc := (defScope s__law_right)) (scope := sc2__law_right) (own := [("row", 1), ("column", 2)]) (by decide +kernel), rfl⟩ (fun _ _ _ _ _ => (gw_tup (by rfl) (gws_cons (gw_name nd (i := 1) (vs := [1, 2])) (gws_cons (gw_name nd (i := 2) (vs := [1, 2])) gws_nil)))) (fun _ _ _ _ _ => gts_nil) (fun _ _ _ _ _ => (ge_var (i := 1)))) (ga_cons (ge_lc (by rfl) nd (gi_any (ge_var (i := 0))) ⟨blkOk_by (N := N__law_right) (sc := (defScope s__law_right)) (scope := sc1__law_right) (own := [("row", 1), ("column", 2)]) (by decide +kernel), rfl⟩ (fun _ _ _ _ _ => (gw_tup (by rfl) (gws_cons (gw_name nd (i := 1) (vs := [1, 2])) (gws_cons (gw_name nd (i := 2) (vs := [1, 2])) gws_nil)))) (fun _ _ _ _ _ => gts_nil) (fun _ _ _ _ _ => (ge_var (i := 2)))) ga_nil))) (gss_cons (gs_set (i := 8) nd (ge_lst (ga_cons (ge_call c_rim_many hr (ga_cons (ge_var (i := 0)) ga_nil)) (ga_cons (ge_call c_side_pairs hr (ga_cons (ge_var (i := 0)) ga_nil)) (ga_cons (ge_call c_blocks hr (ga_cons (ge_var (i := 0)) ga_nil)) (ga_cons (ge_call c_box hr (ga_cons (ge_var (i := 0)) ga_nil)) ga_nil)))))) (gss_cons (gs_if (gt_not (gt_val (ge_call c__law_same hr (ga_cons (ge_var (i := 8)) (ga_cons (ge_lst (ga_cons (ge_op go_sub (ge_op go_mul ge_int (ge_callB gc_len (by rfl) T.b_len PySem.boot_len (ga_cons (ge_var (i := 0)) ga_nil))) (ge_op go_mul ge_int (ge_var (i := 3)))) (ga_cons (ge_var (i := 3)) (ga_cons (ge_var (i := 4)) (ga_cons (ge_tup (ga_cons (ge_callB (gc_min (by rfl)) (by rfl) T.b_min PyProof.Rows.boot_min (ga_cons (ge_var (i := 6)) ga_nil)) (ga_cons (ge_callB (gc_min (by rfl)) (by rfl) T.b_min PyProof.Rows.boot_min (ga_cons (ge_var (i := 7)) ga_nil)) (ga_cons (ge_callB (gc_max (by rfl)) (by rfl) T.b_max PyProof.Rows.boot_max (ga_cons (ge_var (i := 6)) ga_nil)) (ga_cons (ge_callB (gc_max (by rfl)) (by rfl) T.b_max PyProof.Rows.boot_max (ga_cons (ge_var (i := 7)) ga_nil)) ga_nil))))) ga_nil))))) ga_nil))))) (gss_one (gs_ret ge_bl)) gss_nil) (gss_one (gs_ret (ge_and (ge_cmp (go_lt hr.units0) (ge_var (i := 4)) (ge_callB gc_len (by rfl) T.b_len PySem.boot_len (ga_cons (ge_var (i := 0)) ga_nil))) (ge_one (ge_cmp go_ge (ge_var (i := 3)) (ge_op go_sub (ge_callB gc_len (by rfl) T.b_len PySem.boot_len (ga_cons (ge_var (i := 0)) ga_nil)) (ge_callB gc_len (by rfl) T.b_len PySem.boot_len (ga_cons (ge_call c_parts hr (ga_cons (ge_var (i := 0)) ga_nil)) ga_nil))))))))))))))))
-- _law_some
abbrev s__law_some : Stmt := topS 27
def N__law_some : List Str := ["cup", "things"]
theorem sc__law_some : FnScope N__law_some ["cup", "things"] (defScope s__law_some) := ⟨rfl, rfl, rfl, by decide +kernel, rfl, by decide +kernel, by decide +kernel⟩
theorem okc__law_some {P : Program} {w : World} {K : PySem.W.Frag} {mg : Str → Option Value} {base : Heap} (T : TB mg) (c__law_roll : Cal P w K mg base 1 "_law_roll" ["cup", "many"] c__law_roll) (F : Dn K mg "_law_some" s__law_some ["cup", "things"]) : Cal P w K mg base 2 "_law_some" ["cup", "things"] c__law_some :=
  (fn_ML F sc__law_some (fun f cdv A outer s H E hr =>
  have nd := sc__law_some.nd
  (gss_one (gs_ret (ge_ix gi_ix (ge_var (i := 1)) (ge_call c__law_roll hr (ga_cons (ge_var (i := 0)) (ga_cons (ge_callB gc_len (by rfl) T.b_len PySem.boot_len (ga_cons (ge_var (i := 1)) ga_nil)) ga_nil))))))))
-- _law_grown
abbrev s__law_grown : Stmt := topS 31
theorem okc__law_grown {P : Program} {w : World} {K : PySem.W.Frag} {mg : Str → Option Value} {base : Heap} (T : TB mg) (F : Dn K mg "_law_grown" s__law_grown ["cup", "many"]) : Cal P w K mg base 0 "_law_grown" ["cup", "many"] c__law_grown := Cal.none F
-- law
abbrev s_law : Stmt := topS 33
def N_law : List Str := ["script", "cup", "turn", "floor", "top", "left", "bottom", "right", "down", "far", "other", "row", "column", "counts", "many", "rings", "deep", "ringed", "whole", "one"]
theorem sc_law : FnScope N_law ["script"] (defScope s_law) := ⟨rfl, rfl, rfl, by decide +kernel, rfl, by decide +kernel, by decide +kernel⟩
def sc1_law : Scope := scp [(".0", .local), ("row", .local), ("column", .local)] []
def sc2_law : Scope := scp [(".0", .local), ("one", .local), ("rim_many", .globalImplicit), ("side_pairs", .globalImplicit), ("blocks", .globalImplicit), ("len", .globalImplicit), ("parts", .globalImplicit)] []
def sc3_law : Scope := scp [(".0", .local), ("row", .local), ("column", .local), ("down", .free), ("far", .free)] []
theorem okc_law {P : Program} {w : World} {K : PySem.W.Frag} {mg : Str → Option Value} {base : Heap} {a : Addr} {fd : FuncData} (T : TB mg) (c__law_cup : Cal P w K mg base 1 "_law_cup" ["script"] c__law_cup) (c__law_same : Cal P w K mg base 8 "_law_same" ["told", "due"] c__law_same) (c__law_floor : Cal P w K mg base 2 "_law_floor" ["cup", "high", "wide", "share"] c__law_floor) (c_box : Cal P w K mg base 5 "box" ["floor"] c_box) (c_moved : Cal P w K mg base 5 "moved" ["floor", "down", "right"] c_moved) (c__law_right : Cal P w K mg base 9 "_law_right" ["floor"] c__law_right) (c__law_some : Cal P w K mg base 2 "_law_some" ["cup", "things"] c__law_some) (c__law_roll : Cal P w K mg base 1 "_law_roll" ["cup", "many"] c__law_roll) (c__law_grown : Cal P w K mg base 0 "_law_grown" ["cup", "many"] c__law_grown) (c_side_pairs : Cal P w K mg base 5 "side_pairs" ["floor"] c_side_pairs) (c_rim_many : Cal P w K mg base 5 "rim_many" ["floor"] c_rim_many) (c_blocks : Cal P w K mg base 5 "blocks" ["floor"] c_blocks) (c_parts : Cal P w K mg base 5 "parts" ["floor"] c_parts) (F : Fun K "law" "law" s_law a fd) : FnOk P w K mg base CX0 10 a fd ["script"] (spM K mg 1 c_law) :=
  fnok_ML F sc_law (fun f cdv A outer s H E hr =>
  have nd := sc_law.nd
  (gss_cons (gs_set (i := 1) nd (ge_call c__law_cup hr (ga_cons (ge_var (i := 0)) ga_nil))) (gss_cons (gs_for PySem.PassesOwn.never (by rfl) (gi_range1 (by rfl) T.b_range (ga_cons ge_int ga_nil)) (gg_name nd (i := 2)) (gss_cons (gs_set (i := 3) nd (ge_call c__law_floor hr (ga_cons (ge_var (i := 1)) (ga_cons (ge_op go_add ge_int (ge_call c__law_roll hr (ga_cons (ge_var (i := 1)) (ga_cons ge_int ga_nil)))) (ga_cons (ge_op go_add ge_int (ge_call c__law_roll hr (ga_cons (ge_var (i := 1)) (ga_cons ge_int ga_nil)))) (ga_cons (ge_call c__law_some hr (ga_cons (ge_var (i := 1)) (ga_cons (ge_lst (ga_cons ge_int (ga_cons ge_int (ga_cons ge_int (ga_cons ge_int ga_nil))))) ga_nil))) ga_nil)))))) (gss_cons (gs_if (gt_not (gt_val (ge_call c__law_right hr (ga_cons (ge_var (i := 3)) ga_nil)))) (gss_one (gs_ret ge_bl)) gss_nil) (gss_cons (gs_asg (ge_call c_box hr (ga_cons (ge_var (i := 3)) ga_nil)) (gg_tup (by rfl) (ggs_cons (gg_name nd (i := 4)) (ggs_cons (gg_name nd (i := 5)) (ggs_cons (gg_name nd (i := 6)) (ggs_cons (gg_name nd (i := 7)) ggs_nil)))))) (gss_cons (gs_asg (ge_tup (ga_cons (ge_op go_sub (ge_call c__law_roll hr (ga_cons (ge_var (i := 1)) (ga_cons (ge_op go_add (ge_op go_sub ge_int (ge_var (i := 6))) (ge_var (i := 4))) ga_nil))) (ge_var (i := 4))) (ga_cons (ge_op go_sub (ge_call c__law_roll hr (ga_cons (ge_var (i := 1)) (ga_cons (ge_op go_add (ge_op go_sub ge_int (ge_var (i := 7))) (ge_var (i := 5))) ga_nil))) (ge_var (i := 5))) ga_nil))) (gg_tup (by rfl) (ggs_cons (gg_name nd (i := 8)) (ggs_cons (gg_name nd (i := 9)) ggs_nil)))) (gss_cons (gs_set (i := 10) nd (ge_call c_moved hr (ga_cons (ge_var (i := 3)) (ga_cons (ge_var (i := 8)) (ga_cons (ge_var (i := 9)) ga_nil))))) (gss_cons (gs_if (gt_w (gw_or (gt_not (gt_val (ge_call c__law_same hr (ga_cons (ge_var (i := 10)) (ga_cons (ge_callTy gc_tuple (by rfl) T.b_tuple PyProof.Rows.boot_tuple (ga_cons (ge_lc (by rfl) nd (gi_any (ge_var (i := 3))) ⟨blkOk_by (N := N_law) (sc := (defScope s_law)) (scope := sc3_law) (own := [("row", 11), ("column", 12)]) (by decide +kernel), rfl⟩ (fun _ _ _ _ _ => (gw_tup (by rfl) (gws_cons (gw_name nd (i := 11) (vs := [11, 12])) (gws_cons (gw_name nd (i := 12) (vs := [11, 12])) gws_nil)))) (fun _ _ _ _ _ => gts_nil) (fun _ _ _ _ _ => (ge_tup (ga_cons (ge_op go_add (ge_var (i := 11)) (ge_var (i := 8))) (ga_cons (ge_op go_add (ge_var (i := 12)) (ge_var (i := 9))) ga_nil))))) ga_nil)) ga_nil))))) (gw_or1 (gt_not (gt_val (ge_call c__law_same hr (ga_cons (ge_call c_moved hr (ga_cons (ge_var (i := 10)) (ga_cons (ge_un gu_neg (ge_var (i := 8))) (ga_cons (ge_un gu_neg (ge_var (i := 9))) ga_nil)))) (ga_cons (ge_var (i := 3)) ga_nil)))))))) (gss_one (gs_ret ge_bl)) gss_nil) (gss_cons (gs_setLc (i := 13) (by rfl) nd (gi_any (ge_tup (ga_cons (ge_var (i := 3)) (ga_cons (ge_var (i := 10)) ga_nil)))) ⟨blkOk_by (N := N_law) (sc := (defScope s_law)) (scope := sc2_law) (own := [("one", 19)]) (by decide +kernel), rfl⟩ (fun _ _ _ _ _ => (gw_name nd (i := 19) (vs := [19]))) (fun _ _ _ _ _ => gts_nil) (fun _ _ _ _ _ => (ge_lst (ga_cons (ge_call c_rim_many hr (ga_cons (ge_var (i := 19)) ga_nil)) (ga_cons (ge_call c_side_pairs hr (ga_cons (ge_var (i := 19)) ga_nil)) (ga_cons (ge_call c_blocks hr (ga_cons (ge_var (i := 19)) ga_nil)) (ga_cons (ge_callB gc_len (by rfl) T.b_len PySem.boot_len (ga_cons (ge_call c_parts hr (ga_cons (ge_var (i := 19)) ga_nil)) ga_nil)) ga_nil))))))) (gss_one (gs_if (gt_cmp (go_ne hr.units) (ge_ix gi_ix (ge_var (i := 13)) ge_int) (ge_ix gi_ix (ge_var (i := 13)) ge_int)) (gss_one (gs_ret ge_bl)) gss_nil)))))))))) (gss_cons (gs_par (i := 14) (j := 15) (by rfl) nd (ga_cons (ge_op go_add ge_int (ge_call c__law_roll hr (ga_cons (ge_var (i := 1)) (ga_cons ge_int ga_nil)))) (ga_cons (ge_lst ga_nil) ga_nil))) (gss_cons (gs_for PySem.PassesOwn.never (by rfl) (gi_range1 (by rfl) T.b_range (ga_cons (ge_op go_sub (ge_op go_mul ge_int (ge_var (i := 14))) ge_int) ga_nil)) (gg_name nd (i := 11)) (gss_one (gs_for PySem.PassesOwn.never (by rfl) (gi_range1 (by rfl) T.b_range (ga_cons (ge_op go_sub (ge_op go_mul ge_int (ge_var (i := 14))) ge_int) ga_nil)) (gg_name nd (i := 12)) (gss_cons (gs_set (i := 16) nd (ge_callB (gc_min4 (by rfl)) (by rfl) T.b_min PyProof.Rows.boot_min (ga_cons (ge_var (i := 11)) (ga_cons (ge_var (i := 12)) (ga_cons (ge_op go_sub (ge_op go_sub (ge_op go_mul ge_int (ge_var (i := 14))) ge_int) (ge_var (i := 11))) (ga_cons (ge_op go_sub (ge_op go_sub (ge_op go_mul ge_int (ge_var (i := 14))) ge_int) (ge_var (i := 12))) ga_nil)))))) (gss_one (gs_set (i := 15) nd (ge_op go_add (ge_var (i := 15)) (ge_if (gt_cmp (go_eq hr.units) (ge_op go_mod (ge_callTy gc_int (by rfl) T.b_int PyProof.Rows.boot_int (ga_cons (ge_var (i := 16)) ga_nil)) ge_int) ge_int) (ge_lst (ga_cons (ge_tup (ga_cons (ge_var (i := 11)) (ga_cons (ge_var (i := 12)) ga_nil))) ga_nil)) (ge_lst ga_nil))))))))) (gss_cons (gs_set (i := 17) nd (ge_callTy gc_tuple (by rfl) T.b_tuple PyProof.Rows.boot_tuple (ga_cons (ge_callB (gc_sortQ (by rfl)) (by rfl) T.b_sorted PyProof.Rows.boot_sorted (ga_cons (ge_var (i := 15)) ga_nil)) ga_nil))) (gss_cons (gs_set (i := 18) nd (ge_callTy gc_tuple (by rfl) T.b_tuple PyProof.Rows.boot_tuple (ga_cons (ge_lc (by rfl) nd (gi_any (ge_var (i := 17))) ⟨blkOk_by (N := N_law) (sc := (defScope s_law)) (scope := sc1_law) (own := [("row", 11), ("column", 12)]) (by decide +kernel), rfl⟩ (fun _ _ _ _ _ => (gw_tup (by rfl) (gws_cons (gw_name nd (i := 11) (vs := [11, 12])) (gws_cons (gw_name nd (i := 12) (vs := [11, 12])) gws_nil)))) (fun _ _ _ _ _ => gts_nil) (fun _ _ _ _ _ => (ge_tup (ga_cons (ge_op go_add (ge_var (i := 11)) ge_int) (ga_cons (ge_op go_add (ge_var (i := 12)) ge_int) ga_nil))))) ga_nil))) (gss_cons (gs_if (gt_w (gw_or (gt_cmp go_gt (ge_callB gc_len (by rfl) T.b_len PySem.boot_len (ga_cons (ge_var (i := 17)) ga_nil)) ge_int) (gw_or1 (gt_cmp go_gt (ge_ix gi_ix (ge_ix gi_ix (ge_var (i := 18)) (ge_un gu_neg ge_int)) ge_int) ge_int)))) (gss_one (gs_ret (ge_call c__law_right hr (ga_cons (ge_call c__law_grown hr (ga_cons (ge_var (i := 1)) (ga_cons ge_int ga_nil))) ga_nil)))) gss_nil) (gss_one (gs_ret (ge_call c__law_same hr (ga_cons (ge_lst (ga_cons (ge_callB gc_len (by rfl) T.b_len PySem.boot_len (ga_cons (ge_call c_parts hr (ga_cons (ge_var (i := 17)) ga_nil)) ga_nil)) (ga_cons (ge_call c_side_pairs hr (ga_cons (ge_var (i := 17)) ga_nil)) (ga_cons (ge_call c_moved hr (ga_cons (ge_var (i := 17)) (ga_cons ge_int (ga_cons ge_int ga_nil)))) ga_nil)))) (ga_cons (ge_lst (ga_cons (ge_var (i := 14)) (ga_cons (ge_callB gc_len (by rfl) T.b_len PySem.boot_len (ga_cons (ge_var (i := 17)) ga_nil)) (ga_cons (ge_var (i := 18)) ga_nil)))) ga_nil)))))))))))))
end ML
namespace ML
open PySem L2
theorem all_mk {l : PySem.W.OpenLaw} {w : World} {K : PySem.W.Frag} {h : Heap} {mg : Str → Option Value} {fa : Addr} (X : K.In h) (G : h.Ns mainGlobals mg) (hfa : mg "law" = some (.ref fa))
    {od0 an0 : Option Addr} {sl0 : Array (Option Value)} {f0 : Addr} {oc0 kV0 dc0 pm0 cd0 ct0 : Value}
    {od1 an1 : Option Addr} {sl1 : Array (Option Value)} {f1 : Addr} {oc1 kV1 dc1 pm1 cd1 ct1 : Value}
    {od2 an2 : Option Addr} {sl2 : Array (Option Value)} {f2 : Addr} {oc2 kV2 dc2 pm2 cd2 ct2 : Value}
    {od3 an3 : Option Addr} {sl3 : Array (Option Value)} {f3 : Addr} {oc3 kV3 dc3 pm3 cd3 ct3 : Value}
    {od4 an4 : Option Addr} {sl4 : Array (Option Value)} {f4 : Addr} {oc4 kV4 dc4 pm4 cd4 ct4 : Value}
    {od5 an5 : Option Addr} {sl5 : Array (Option Value)} {f5 : Addr} {oc5 kV5 dc5 pm5 cd5 ct5 : Value}
    {od6 an6 : Option Addr} {sl6 : Array (Option Value)} {f6 : Addr} {oc6 kV6 dc6 pm6 cd6 ct6 : Value}
    {od7 an7 : Option Addr} {sl7 : Array (Option Value)} {f7 : Addr} {oc7 kV7 dc7 pm7 cd7 ct7 : Value}
    {od8 an8 : Option Addr} {sl8 : Array (Option Value)} {f8 : Addr} {oc8 kV8 dc8 pm8 cd8 ct8 : Value}
    {od9 an9 : Option Addr} {sl9 : Array (Option Value)} {f9 : Addr} {oc9 kV9 dc9 pm9 cd9 ct9 : Value}
    {od10 an10 : Option Addr} {sl10 : Array (Option Value)} {f10 : Addr} {oc10 kV10 dc10 pm10 cd10 ct10 : Value}
    {od11 an11 : Option Addr} {sl11 : Array (Option Value)} {f11 : Addr} {oc11 kV11 dc11 pm11 cd11 ct11 : Value}
    {od12 an12 : Option Addr} {sl12 : Array (Option Value)} {f12 : Addr} {oc12 kV12 dc12 pm12 cd12 ct12 : Value}
    {od13 an13 : Option Addr} {sl13 : Array (Option Value)} {f13 : Addr} {oc13 kV13 dc13 pm13 cd13 ct13 : Value}
    {od14 an14 : Option Addr} {sl14 : Array (Option Value)} {f14 : Addr} {oc14 kV14 dc14 pm14 cd14 ct14 : Value}
    {od15 an15 : Option Addr} {sl15 : Array (Option Value)} {f15 : Addr} {oc15 kV15 dc15 pm15 cd15 ct15 : Value}
    {od16 an16 : Option Addr} {sl16 : Array (Option Value)} {f16 : Addr} {oc16 kV16 dc16 pm16 cd16 ct16 : Value}
    {od17 an17 : Option Addr} {sl17 : Array (Option Value)} {f17 : Addr} {oc17 kV17 dc17 pm17 cd17 ct17 : Value}
    {od18 an18 : Option Addr} {sl18 : Array (Option Value)} {f18 : Addr} {oc18 kV18 dc18 pm18 cd18 ct18 : Value}
    {od19 an19 : Option Addr} {sl19 : Array (Option Value)} {f19 : Addr} {oc19 kV19 dc19 pm19 cd19 ct19 : Value}
    {od20 an20 : Option Addr} {sl20 : Array (Option Value)} {f20 : Addr} {oc20 kV20 dc20 pm20 cd20 ct20 : Value}
    {od21 an21 : Option Addr} {sl21 : Array (Option Value)} {f21 : Addr} {oc21 kV21 dc21 pm21 cd21 ct21 : Value}
    {od22 an22 : Option Addr} {sl22 : Array (Option Value)} {f22 : Addr} {oc22 kV22 dc22 pm22 cd22 ct22 : Value}
    {od23 an23 : Option Addr} {sl23 : Array (Option Value)} {f23 : Addr} {oc23 kV23 dc23 pm23 cd23 ct23 : Value}
    {od24 an24 : Option Addr} {sl24 : Array (Option Value)} {f24 : Addr} {oc24 kV24 dc24 pm24 cd24 ct24 : Value}
    (a0 : PySem.W.nsIn K mainGlobals "_law_cup" = some (some (.ref f0))) (l0 : K.lookup f0 = some ⟨oc0, od0, .func (PySem.W.fnOf "_law_cup" "_law_cup" (defArgs s__law_cup) (defBody s__law_cup) (defScope s__law_cup) .none kV0 dc0 pm0 an0 cd0 ct0), sl0⟩) (e0 : PySem.W.codeIn K cd0 "_law_cup" = true) (k0 : PySem.W.keepIn K (.ref f0) = true)
    (a1 : PySem.W.nsIn K mainGlobals "_law_same" = some (some (.ref f1))) (l1 : K.lookup f1 = some ⟨oc1, od1, .func (PySem.W.fnOf "_law_same" "_law_same" (defArgs s__law_same) (defBody s__law_same) (defScope s__law_same) .none kV1 dc1 pm1 an1 cd1 ct1), sl1⟩) (e1 : PySem.W.codeIn K cd1 "_law_same" = true) (k1 : PySem.W.keepIn K (.ref f1) = true)
    (a2 : PySem.W.nsIn K mainGlobals "_law_roll" = some (some (.ref f2))) (l2 : K.lookup f2 = some ⟨oc2, od2, .func (PySem.W.fnOf "_law_roll" "_law_roll" (defArgs s__law_roll) (defBody s__law_roll) (defScope s__law_roll) .none kV2 dc2 pm2 an2 cd2 ct2), sl2⟩) (e2 : PySem.W.codeIn K cd2 "_law_roll" = true) (k2 : PySem.W.keepIn K (.ref f2) = true)
    (a3 : PySem.W.nsIn K mainGlobals "_law_floor" = some (some (.ref f3))) (l3 : K.lookup f3 = some ⟨oc3, od3, .func (PySem.W.fnOf "_law_floor" "_law_floor" (defArgs s__law_floor) (defBody s__law_floor) (defScope s__law_floor) .none kV3 dc3 pm3 an3 cd3 ct3), sl3⟩) (e3 : PySem.W.codeIn K cd3 "_law_floor" = true) (k3 : PySem.W.keepIn K (.ref f3) = true)
    (a4 : PySem.W.nsIn K mainGlobals "is_tuple_of" = some (some (.ref f4))) (l4 : K.lookup f4 = some ⟨oc4, od4, .func (PySem.W.fnOf "is_tuple_of" "is_tuple_of" (defArgs s_is_tuple_of) (defBody s_is_tuple_of) (defScope s_is_tuple_of) .none kV4 dc4 pm4 an4 cd4 ct4), sl4⟩) (e4 : PySem.W.codeIn K cd4 "is_tuple_of" = true) (k4 : PySem.W.keepIn K (.ref f4) = true)
    (a5 : PySem.W.nsIn K mainGlobals "fits_whole" = some (some (.ref f5))) (l5 : K.lookup f5 = some ⟨oc5, od5, .func (PySem.W.fnOf "fits_whole" "fits_whole" (defArgs s_fits_whole) (defBody s_fits_whole) (defScope s_fits_whole) .none kV5 dc5 pm5 an5 cd5 ct5), sl5⟩) (e5 : PySem.W.codeIn K cd5 "fits_whole" = true) (k5 : PySem.W.keepIn K (.ref f5) = true)
    (a6 : PySem.W.nsIn K mainGlobals "fits_cell" = some (some (.ref f6))) (l6 : K.lookup f6 = some ⟨oc6, od6, .func (PySem.W.fnOf "fits_cell" "fits_cell" (defArgs s_fits_cell) (defBody s_fits_cell) (defScope s_fits_cell) .none kV6 dc6 pm6 an6 cd6 ct6), sl6⟩) (e6 : PySem.W.codeIn K cd6 "fits_cell" = true) (k6 : PySem.W.keepIn K (.ref f6) = true)
    (a7 : PySem.W.nsIn K mainGlobals "fits_floor" = some (some (.ref f7))) (l7 : K.lookup f7 = some ⟨oc7, od7, .func (PySem.W.fnOf "fits_floor" "fits_floor" (defArgs s_fits_floor) (defBody s_fits_floor) (defScope s_fits_floor) .none kV7 dc7 pm7 an7 cd7 ct7), sl7⟩) (e7 : PySem.W.codeIn K cd7 "fits_floor" = true) (k7 : PySem.W.keepIn K (.ref f7) = true)
    (a8 : PySem.W.nsIn K mainGlobals "need_floor" = some (some (.ref f8))) (l8 : K.lookup f8 = some ⟨oc8, od8, .func (PySem.W.fnOf "need_floor" "need_floor" (defArgs s_need_floor) (defBody s_need_floor) (defScope s_need_floor) .none kV8 dc8 pm8 an8 cd8 ct8), sl8⟩) (e8 : PySem.W.codeIn K cd8 "need_floor" = true) (k8 : PySem.W.keepIn K (.ref f8) = true)
    (a9 : PySem.W.nsIn K mainGlobals "box_in" = some (some (.ref f9))) (l9 : K.lookup f9 = some ⟨oc9, od9, .func (PySem.W.fnOf "box_in" "box_in" (defArgs s_box_in) (defBody s_box_in) (defScope s_box_in) .none kV9 dc9 pm9 an9 cd9 ct9), sl9⟩) (e9 : PySem.W.codeIn K cd9 "box_in" = true) (k9 : PySem.W.keepIn K (.ref f9) = true)
    (a10 : PySem.W.nsIn K mainGlobals "box" = some (some (.ref f10))) (l10 : K.lookup f10 = some ⟨oc10, od10, .func (PySem.W.fnOf "box" "box" (defArgs s_box) (defBody s_box) (defScope s_box) .none kV10 dc10 pm10 an10 cd10 ct10), sl10⟩) (e10 : PySem.W.codeIn K cd10 "box" = true) (k10 : PySem.W.keepIn K (.ref f10) = true)
    (a11 : PySem.W.nsIn K mainGlobals "moved_in" = some (some (.ref f11))) (l11 : K.lookup f11 = some ⟨oc11, od11, .func (PySem.W.fnOf "moved_in" "moved_in" (defArgs s_moved_in) (defBody s_moved_in) (defScope s_moved_in) .none kV11 dc11 pm11 an11 cd11 ct11), sl11⟩) (e11 : PySem.W.codeIn K cd11 "moved_in" = true) (k11 : PySem.W.keepIn K (.ref f11) = true)
    (a12 : PySem.W.nsIn K mainGlobals "moved" = some (some (.ref f12))) (l12 : K.lookup f12 = some ⟨oc12, od12, .func (PySem.W.fnOf "moved" "moved" (defArgs s_moved) (defBody s_moved) (defScope s_moved) .none kV12 dc12 pm12 an12 cd12 ct12), sl12⟩) (e12 : PySem.W.codeIn K cd12 "moved" = true) (k12 : PySem.W.keepIn K (.ref f12) = true)
    (a13 : PySem.W.nsIn K mainGlobals "near_in" = some (some (.ref f13))) (l13 : K.lookup f13 = some ⟨oc13, od13, .func (PySem.W.fnOf "near_in" "near_in" (defArgs s_near_in) (defBody s_near_in) (defScope s_near_in) .none kV13 dc13 pm13 an13 cd13 ct13), sl13⟩) (e13 : PySem.W.codeIn K cd13 "near_in" = true) (k13 : PySem.W.keepIn K (.ref f13) = true)
    (a14 : PySem.W.nsIn K mainGlobals "sides_in" = some (some (.ref f14))) (l14 : K.lookup f14 = some ⟨oc14, od14, .func (PySem.W.fnOf "sides_in" "sides_in" (defArgs s_sides_in) (defBody s_sides_in) (defScope s_sides_in) .none kV14 dc14 pm14 an14 cd14 ct14), sl14⟩) (e14 : PySem.W.codeIn K cd14 "sides_in" = true) (k14 : PySem.W.keepIn K (.ref f14) = true)
    (a15 : PySem.W.nsIn K mainGlobals "rim_many" = some (some (.ref f15))) (l15 : K.lookup f15 = some ⟨oc15, od15, .func (PySem.W.fnOf "rim_many" "rim_many" (defArgs s_rim_many) (defBody s_rim_many) (defScope s_rim_many) .none kV15 dc15 pm15 an15 cd15 ct15), sl15⟩) (e15 : PySem.W.codeIn K cd15 "rim_many" = true) (k15 : PySem.W.keepIn K (.ref f15) = true)
    (a16 : PySem.W.nsIn K mainGlobals "side_pairs" = some (some (.ref f16))) (l16 : K.lookup f16 = some ⟨oc16, od16, .func (PySem.W.fnOf "side_pairs" "side_pairs" (defArgs s_side_pairs) (defBody s_side_pairs) (defScope s_side_pairs) .none kV16 dc16 pm16 an16 cd16 ct16), sl16⟩) (e16 : PySem.W.codeIn K cd16 "side_pairs" = true) (k16 : PySem.W.keepIn K (.ref f16) = true)
    (a17 : PySem.W.nsIn K mainGlobals "blocks_in" = some (some (.ref f17))) (l17 : K.lookup f17 = some ⟨oc17, od17, .func (PySem.W.fnOf "blocks_in" "blocks_in" (defArgs s_blocks_in) (defBody s_blocks_in) (defScope s_blocks_in) .none kV17 dc17 pm17 an17 cd17 ct17), sl17⟩) (e17 : PySem.W.codeIn K cd17 "blocks_in" = true) (k17 : PySem.W.keepIn K (.ref f17) = true)
    (a18 : PySem.W.nsIn K mainGlobals "blocks" = some (some (.ref f18))) (l18 : K.lookup f18 = some ⟨oc18, od18, .func (PySem.W.fnOf "blocks" "blocks" (defArgs s_blocks) (defBody s_blocks) (defScope s_blocks) .none kV18 dc18 pm18 an18 cd18 ct18), sl18⟩) (e18 : PySem.W.codeIn K cd18 "blocks" = true) (k18 : PySem.W.keepIn K (.ref f18) = true)
    (a19 : PySem.W.nsIn K mainGlobals "parts_in" = some (some (.ref f19))) (l19 : K.lookup f19 = some ⟨oc19, od19, .func (PySem.W.fnOf "parts_in" "parts_in" (defArgs s_parts_in) (defBody s_parts_in) (defScope s_parts_in) .none kV19 dc19 pm19 an19 cd19 ct19), sl19⟩) (e19 : PySem.W.codeIn K cd19 "parts_in" = true) (k19 : PySem.W.keepIn K (.ref f19) = true)
    (a20 : PySem.W.nsIn K mainGlobals "parts" = some (some (.ref f20))) (l20 : K.lookup f20 = some ⟨oc20, od20, .func (PySem.W.fnOf "parts" "parts" (defArgs s_parts) (defBody s_parts) (defScope s_parts) .none kV20 dc20 pm20 an20 cd20 ct20), sl20⟩) (e20 : PySem.W.codeIn K cd20 "parts" = true) (k20 : PySem.W.keepIn K (.ref f20) = true)
    (a21 : PySem.W.nsIn K mainGlobals "_law_right" = some (some (.ref f21))) (l21 : K.lookup f21 = some ⟨oc21, od21, .func (PySem.W.fnOf "_law_right" "_law_right" (defArgs s__law_right) (defBody s__law_right) (defScope s__law_right) .none kV21 dc21 pm21 an21 cd21 ct21), sl21⟩) (e21 : PySem.W.codeIn K cd21 "_law_right" = true) (k21 : PySem.W.keepIn K (.ref f21) = true)
    (a22 : PySem.W.nsIn K mainGlobals "_law_some" = some (some (.ref f22))) (l22 : K.lookup f22 = some ⟨oc22, od22, .func (PySem.W.fnOf "_law_some" "_law_some" (defArgs s__law_some) (defBody s__law_some) (defScope s__law_some) .none kV22 dc22 pm22 an22 cd22 ct22), sl22⟩) (e22 : PySem.W.codeIn K cd22 "_law_some" = true) (k22 : PySem.W.keepIn K (.ref f22) = true)
    (a23 : PySem.W.nsIn K mainGlobals "_law_grown" = some (some (.ref f23))) (l23 : K.lookup f23 = some ⟨oc23, od23, .func (PySem.W.fnOf "_law_grown" "_law_grown" (defArgs s__law_grown) (defBody s__law_grown) (defScope s__law_grown) .none kV23 dc23 pm23 an23 cd23 ct23), sl23⟩) (e23 : PySem.W.codeIn K cd23 "_law_grown" = true) (k23 : PySem.W.keepIn K (.ref f23) = true)
    (a24 : PySem.W.nsIn K mainGlobals "law" = some (some (.ref f24))) (l24 : K.lookup f24 = some ⟨oc24, od24, .func (PySem.W.fnOf "law" "law" (defArgs s_law) (defBody s_law) (defScope s_law) .none kV24 dc24 pm24 an24 cd24 ct24), sl24⟩) (e24 : PySem.W.codeIn K cd24 "law" = true) (k24 : PySem.W.keepIn K (.ref f24) = true)
    (z_abs : PySem.W.nsIn K mainGlobals "abs" = some none) (z_all : PySem.W.nsIn K mainGlobals "all" = some none) (z_bool : PySem.W.nsIn K mainGlobals "bool" = some none) (z_dict : PySem.W.nsIn K mainGlobals "dict" = some none) (z_int : PySem.W.nsIn K mainGlobals "int" = some none) (z_isinstance : PySem.W.nsIn K mainGlobals "isinstance" = some none) (z_len : PySem.W.nsIn K mainGlobals "len" = some none) (z_list : PySem.W.nsIn K mainGlobals "list" = some none) (z_max : PySem.W.nsIn K mainGlobals "max" = some none) (z_min : PySem.W.nsIn K mainGlobals "min" = some none) (z_range : PySem.W.nsIn K mainGlobals "range" = some none) (z_sorted : PySem.W.nsIn K mainGlobals "sorted" = some none) (z_str : PySem.W.nsIn K mainGlobals "str" = some none) (z_sum : PySem.W.nsIn K mainGlobals "sum" = some none) (z_tuple : PySem.W.nsIn K mainGlobals "tuple" = some none) (z_zip : PySem.W.nsIn K mainGlobals "zip" = some none)
    {ty_CELLS : Tok} (y_CELLS : PySem.W.nsIn K mainGlobals "CELLS" = some (some (.int 400 ty_CELLS)))
    {ty_SIDE : Tok} (y_SIDE : PySem.W.nsIn K mainGlobals "SIDE" = some (some (.int 60 ty_SIDE)))
    : ∃ fd : FuncData, (∀ (s : Shared) (v : Value), BindsTo s fd ⟨[v], []⟩ [("script", v)]) ∧ ∀ base : Heap, K.In base → base.Ns mainGlobals mg → FnOk l.prog w K mg base CX0 10 fa fd ["script"] (spLaw K) := by
  have e := hfa.symm.trans (PySem.W.mg_of X G a24)
  cases e
  have T : TB mg := ⟨PySem.W.mg_none_of X G z_abs, PySem.W.mg_none_of X G z_all, PySem.W.mg_none_of X G z_bool, PySem.W.mg_none_of X G z_dict, PySem.W.mg_none_of X G z_int, PySem.W.mg_none_of X G z_isinstance, PySem.W.mg_none_of X G z_len, PySem.W.mg_none_of X G z_list, PySem.W.mg_none_of X G z_max, PySem.W.mg_none_of X G z_min, PySem.W.mg_none_of X G z_range, PySem.W.mg_none_of X G z_sorted, PySem.W.mg_none_of X G z_str, PySem.W.mg_none_of X G z_sum, PySem.W.mg_none_of X G z_tuple, PySem.W.mg_none_of X G z_zip, ⟨_, PySem.W.mg_of X G y_CELLS⟩, ⟨_, PySem.W.mg_of X G y_SIDE⟩⟩
  have Fl := fun_mk (st := s_law) l24 e24 k24
  have D0 : Dn K mg "_law_cup" s__law_cup ["script"] := ⟨_, _, PySem.W.mg_of X G a0, fun_mk (st := s__law_cup) l0 e0 k0, (fun_mk (st := s__law_cup) l0 e0 k0).binds (ps := ["script"]) fun _ _ _ _ _ _ us hl => match us, hl with | [_], _ => rfl⟩
  have D1 : Dn K mg "_law_same" s__law_same ["told", "due"] := ⟨_, _, PySem.W.mg_of X G a1, fun_mk (st := s__law_same) l1 e1 k1, (fun_mk (st := s__law_same) l1 e1 k1).binds (ps := ["told", "due"]) fun _ _ _ _ _ _ us hl => match us, hl with | [_, _], _ => rfl⟩
  have D2 : Dn K mg "_law_roll" s__law_roll ["cup", "many"] := ⟨_, _, PySem.W.mg_of X G a2, fun_mk (st := s__law_roll) l2 e2 k2, (fun_mk (st := s__law_roll) l2 e2 k2).binds (ps := ["cup", "many"]) fun _ _ _ _ _ _ us hl => match us, hl with | [_, _], _ => rfl⟩
  have D3 : Dn K mg "_law_floor" s__law_floor ["cup", "high", "wide", "share"] := ⟨_, _, PySem.W.mg_of X G a3, fun_mk (st := s__law_floor) l3 e3 k3, (fun_mk (st := s__law_floor) l3 e3 k3).binds (ps := ["cup", "high", "wide", "share"]) fun _ _ _ _ _ _ us hl => match us, hl with | [_, _, _, _], _ => rfl⟩
  have D4 : Dn K mg "is_tuple_of" s_is_tuple_of ["value", "least", "most"] := ⟨_, _, PySem.W.mg_of X G a4, fun_mk (st := s_is_tuple_of) l4 e4 k4, (fun_mk (st := s_is_tuple_of) l4 e4 k4).binds (ps := ["value", "least", "most"]) fun _ _ _ _ _ _ us hl => match us, hl with | [_, _, _], _ => rfl⟩
  have D5 : Dn K mg "fits_whole" s_fits_whole ["value", "low", "high"] := ⟨_, _, PySem.W.mg_of X G a5, fun_mk (st := s_fits_whole) l5 e5 k5, (fun_mk (st := s_fits_whole) l5 e5 k5).binds (ps := ["value", "low", "high"]) fun _ _ _ _ _ _ us hl => match us, hl with | [_, _, _], _ => rfl⟩
  have D6 : Dn K mg "fits_cell" s_fits_cell ["value"] := ⟨_, _, PySem.W.mg_of X G a6, fun_mk (st := s_fits_cell) l6 e6 k6, (fun_mk (st := s_fits_cell) l6 e6 k6).binds (ps := ["value"]) fun _ _ _ _ _ _ us hl => match us, hl with | [_], _ => rfl⟩
  have D7 : Dn K mg "fits_floor" s_fits_floor ["value"] := ⟨_, _, PySem.W.mg_of X G a7, fun_mk (st := s_fits_floor) l7 e7 k7, (fun_mk (st := s_fits_floor) l7 e7 k7).binds (ps := ["value"]) fun _ _ _ _ _ _ us hl => match us, hl with | [_], _ => rfl⟩
  have D8 : Dn K mg "need_floor" s_need_floor ["floor"] := ⟨_, _, PySem.W.mg_of X G a8, fun_mk (st := s_need_floor) l8 e8 k8, (fun_mk (st := s_need_floor) l8 e8 k8).binds (ps := ["floor"]) fun _ _ _ _ _ _ us hl => match us, hl with | [_], _ => rfl⟩
  have D9 : Dn K mg "box_in" s_box_in ["cells"] := ⟨_, _, PySem.W.mg_of X G a9, fun_mk (st := s_box_in) l9 e9 k9, (fun_mk (st := s_box_in) l9 e9 k9).binds (ps := ["cells"]) fun _ _ _ _ _ _ us hl => match us, hl with | [_], _ => rfl⟩
  have D10 : Dn K mg "box" s_box ["floor"] := ⟨_, _, PySem.W.mg_of X G a10, fun_mk (st := s_box) l10 e10 k10, (fun_mk (st := s_box) l10 e10 k10).binds (ps := ["floor"]) fun _ _ _ _ _ _ us hl => match us, hl with | [_], _ => rfl⟩
  have D11 : Dn K mg "moved_in" s_moved_in ["cells", "down", "right"] := ⟨_, _, PySem.W.mg_of X G a11, fun_mk (st := s_moved_in) l11 e11 k11, (fun_mk (st := s_moved_in) l11 e11 k11).binds (ps := ["cells", "down", "right"]) fun _ _ _ _ _ _ us hl => match us, hl with | [_, _, _], _ => rfl⟩
  have D12 : Dn K mg "moved" s_moved ["floor", "down", "right"] := ⟨_, _, PySem.W.mg_of X G a12, fun_mk (st := s_moved) l12 e12 k12, (fun_mk (st := s_moved) l12 e12 k12).binds (ps := ["floor", "down", "right"]) fun _ _ _ _ _ _ us hl => match us, hl with | [_, _, _], _ => rfl⟩
  have D13 : Dn K mg "near_in" s_near_in ["cell"] := ⟨_, _, PySem.W.mg_of X G a13, fun_mk (st := s_near_in) l13 e13 k13, (fun_mk (st := s_near_in) l13 e13 k13).binds (ps := ["cell"]) fun _ _ _ _ _ _ us hl => match us, hl with | [_], _ => rfl⟩
  have D14 : Dn K mg "sides_in" s_sides_in ["cells"] := ⟨_, _, PySem.W.mg_of X G a14, fun_mk (st := s_sides_in) l14 e14 k14, (fun_mk (st := s_sides_in) l14 e14 k14).binds (ps := ["cells"]) fun _ _ _ _ _ _ us hl => match us, hl with | [_], _ => rfl⟩
  have D15 : Dn K mg "rim_many" s_rim_many ["floor"] := ⟨_, _, PySem.W.mg_of X G a15, fun_mk (st := s_rim_many) l15 e15 k15, (fun_mk (st := s_rim_many) l15 e15 k15).binds (ps := ["floor"]) fun _ _ _ _ _ _ us hl => match us, hl with | [_], _ => rfl⟩
  have D16 : Dn K mg "side_pairs" s_side_pairs ["floor"] := ⟨_, _, PySem.W.mg_of X G a16, fun_mk (st := s_side_pairs) l16 e16 k16, (fun_mk (st := s_side_pairs) l16 e16 k16).binds (ps := ["floor"]) fun _ _ _ _ _ _ us hl => match us, hl with | [_], _ => rfl⟩
  have D17 : Dn K mg "blocks_in" s_blocks_in ["cells"] := ⟨_, _, PySem.W.mg_of X G a17, fun_mk (st := s_blocks_in) l17 e17 k17, (fun_mk (st := s_blocks_in) l17 e17 k17).binds (ps := ["cells"]) fun _ _ _ _ _ _ us hl => match us, hl with | [_], _ => rfl⟩
  have D18 : Dn K mg "blocks" s_blocks ["floor"] := ⟨_, _, PySem.W.mg_of X G a18, fun_mk (st := s_blocks) l18 e18 k18, (fun_mk (st := s_blocks) l18 e18 k18).binds (ps := ["floor"]) fun _ _ _ _ _ _ us hl => match us, hl with | [_], _ => rfl⟩
  have D19 : Dn K mg "parts_in" s_parts_in ["cells"] := ⟨_, _, PySem.W.mg_of X G a19, fun_mk (st := s_parts_in) l19 e19 k19, (fun_mk (st := s_parts_in) l19 e19 k19).binds (ps := ["cells"]) fun _ _ _ _ _ _ us hl => match us, hl with | [_], _ => rfl⟩
  have D20 : Dn K mg "parts" s_parts ["floor"] := ⟨_, _, PySem.W.mg_of X G a20, fun_mk (st := s_parts) l20 e20 k20, (fun_mk (st := s_parts) l20 e20 k20).binds (ps := ["floor"]) fun _ _ _ _ _ _ us hl => match us, hl with | [_], _ => rfl⟩
  have D21 : Dn K mg "_law_right" s__law_right ["floor"] := ⟨_, _, PySem.W.mg_of X G a21, fun_mk (st := s__law_right) l21 e21 k21, (fun_mk (st := s__law_right) l21 e21 k21).binds (ps := ["floor"]) fun _ _ _ _ _ _ us hl => match us, hl with | [_], _ => rfl⟩
  have D22 : Dn K mg "_law_some" s__law_some ["cup", "things"] := ⟨_, _, PySem.W.mg_of X G a22, fun_mk (st := s__law_some) l22 e22 k22, (fun_mk (st := s__law_some) l22 e22 k22).binds (ps := ["cup", "things"]) fun _ _ _ _ _ _ us hl => match us, hl with | [_, _], _ => rfl⟩
  have D23 : Dn K mg "_law_grown" s__law_grown ["cup", "many"] := ⟨_, _, PySem.W.mg_of X G a23, fun_mk (st := s__law_grown) l23 e23 k23, (fun_mk (st := s__law_grown) l23 e23 k23).binds (ps := ["cup", "many"]) fun _ _ _ _ _ _ us hl => match us, hl with | [_, _], _ => rfl⟩
  refine ⟨PySem.W.fnOf "law" "law" (defArgs s_law) (defBody s_law) (defScope s_law) .none kV24 dc24 pm24 an24 cd24 ct24, fun s v => .of_eq rfl, fun base _ _ => ?_⟩
  have c__law_cup := okc__law_cup (P := l.prog) (w := w) (base := base) T  D0
  have c__law_same := okc__law_same (P := l.prog) (w := w) (base := base) T  D1
  have c__law_roll := okc__law_roll (P := l.prog) (w := w) (base := base) T  D2
  have c__law_floor := okc__law_floor (P := l.prog) (w := w) (base := base) T c__law_roll D3
  have c_is_tuple_of := okc_is_tuple_of (P := l.prog) (w := w) (base := base) T  D4
  have c_fits_whole := okc_fits_whole (P := l.prog) (w := w) (base := base) T  D5
  have c_fits_cell := okc_fits_cell (P := l.prog) (w := w) (base := base) T c_is_tuple_of c_fits_whole D6
  have c_fits_floor := okc_fits_floor (P := l.prog) (w := w) (base := base) T c_is_tuple_of c_fits_cell D7
  have c_need_floor := okc_need_floor (P := l.prog) (w := w) (base := base) T c_fits_floor D8
  have c_box_in := okc_box_in (P := l.prog) (w := w) (base := base) T  D9
  have c_box := okc_box (P := l.prog) (w := w) (base := base) T c_need_floor c_box_in D10
  have c_moved_in := okc_moved_in (P := l.prog) (w := w) (base := base) T  D11
  have c_moved := okc_moved (P := l.prog) (w := w) (base := base) T c_need_floor c_box_in c_moved_in c_fits_whole D12
  have c_near_in := okc_near_in (P := l.prog) (w := w) (base := base) T  D13
  have c_sides_in := okc_sides_in (P := l.prog) (w := w) (base := base) T c_near_in D14
  have c_rim_many := okc_rim_many (P := l.prog) (w := w) (base := base) T c_need_floor c_sides_in D15
  have c_side_pairs := okc_side_pairs (P := l.prog) (w := w) (base := base) T c_need_floor c_sides_in D16
  have c_blocks_in := okc_blocks_in (P := l.prog) (w := w) (base := base) T  D17
  have c_blocks := okc_blocks (P := l.prog) (w := w) (base := base) T c_need_floor c_blocks_in D18
  have c_parts_in := okc_parts_in (P := l.prog) (w := w) (base := base) T c_near_in D19
  have c_parts := okc_parts (P := l.prog) (w := w) (base := base) T c_need_floor c_parts_in D20
  have c__law_right := okc__law_right (P := l.prog) (w := w) (base := base) T c_rim_many c_side_pairs c_blocks c_box c__law_same c_parts D21
  have c__law_some := okc__law_some (P := l.prog) (w := w) (base := base) T c__law_roll D22
  have c__law_grown := okc__law_grown (P := l.prog) (w := w) (base := base) T  D23
  have c_law := okc_law (P := l.prog) (w := w) (base := base) T c__law_cup c__law_same c__law_floor c_box c_moved c__law_right c__law_some c__law_roll c__law_grown c_side_pairs c_rim_many c_blocks c_parts Fl
  exact law_ok c_law law_true
theorem walk {l : PySem.W.OpenLaw} {q : Program} {loose : List Str} {XP : (Str → Option Value) → Heap → Prop} {YP : World → Heap → Prop} {d : DefRec} {K : Params → PySem.W.Frag} (hn : l.most = some 63) (hdf : d.params.defaults = [])
    (hY : ∀ (w : World) (h : Heap), YP w h → (K w.params).In h)
    (F : ∀ (w : World) (mg : Str → Option Value) (fa : Addr) (h : Heap), (K w.params).In h → h.Ns mainGlobals mg → mg d.name = some (.ref fa) →
      ∃ fd : FuncData, (∀ (s : Shared) (u : Value), BindsTo s fd ⟨[u], []⟩ [("script", u)]) ∧ ∀ base : Heap, (K w.params).In base → base.Ns mainGlobals mg → FnOk l.prog w (K w.params) mg base CX0 10 fa fd ["script"] (spLaw (K w.params))) :
    PySem.W.WalkO q loose XP YP l.row.toRowW d [] (fun f vs => PySem.call f vs) :=
  L2.walk_of (n := 63) (k := 10) (x := "script") (CX := fun _ => CX0) (sp := fun w => spLaw (K w.params)) hn (by decide) hdf ⟨rfl, by decide, by decide⟩ hY F (fun _ _ a ns hl _ hS => ⟨a, ns, rfl, hS, hl, fun _ => rfl⟩) fun _ _ _ _ _ z => z
end ML
open PySem PySem.W PyProof.Rows
set_option maxRecDepth 100000 in
set_option maxHeartbeats 0 in
theorem PySem.Challenge.cw_cellhall_k01_whole_counts_boxes_and_move_holds : PySem.Challenge.rw_cellhall_k01_whole_counts_boxes_and_move.Holds := by
  w_on; o_law; k_head; (case hw => w_witness2)
  k_fill
  refine ML.walk (l := PySem.Challenge.rw_cellhall_k01_whole_counts_boxes_and_move) rfl rfl (fun w h Y => PySem.W.kIn_of Y) ?F
  case F =>
    intro w mg fa h KX G hmg
    refine' ML.all_mk KX G hmg ?a0 ?l0 ?e0 ?k0 ?a1 ?l1 ?e1 ?k1 ?a2 ?l2 ?e2 ?k2 ?a3 ?l3 ?e3 ?k3 ?a4 ?l4 ?e4 ?k4 ?a5 ?l5 ?e5 ?k5 ?a6 ?l6 ?e6 ?k6 ?a7 ?l7 ?e7 ?k7 ?a8 ?l8 ?e8 ?k8 ?a9 ?l9 ?e9 ?k9 ?a10 ?l10 ?e10 ?k10 ?a11 ?l11 ?e11 ?k11 ?a12 ?l12 ?e12 ?k12 ?a13 ?l13 ?e13 ?k13 ?a14 ?l14 ?e14 ?k14 ?a15 ?l15 ?e15 ?k15 ?a16 ?l16 ?e16 ?k16 ?a17 ?l17 ?e17 ?k17 ?a18 ?l18 ?e18 ?k18 ?a19 ?l19 ?e19 ?k19 ?a20 ?l20 ?e20 ?k20 ?a21 ?l21 ?e21 ?k21 ?a22 ?l22 ?e22 ?k22 ?a23 ?l23 ?e23 ?k23 ?a24 ?l24 ?e24 ?k24 ?z_abs ?z_all ?z_bool ?z_dict ?z_int ?z_isinstance ?z_len ?z_list ?z_max ?z_min ?z_range ?z_sorted ?z_str ?z_sum ?z_tuple ?z_zip ?y_CELLS ?y_SIDE
    (case a0 => k_is); (case l0 => k_is); (case e0 => k_is); (case k0 => k_is)
    (case a1 => k_is); (case l1 => k_is); (case e1 => k_is); (case k1 => k_is)
    (case a2 => k_is); (case l2 => k_is); (case e2 => k_is); (case k2 => k_is)
    (case a3 => k_is); (case l3 => k_is); (case e3 => k_is); (case k3 => k_is)
    (case a4 => k_is); (case l4 => k_is); (case e4 => k_is); (case k4 => k_is)
    (case a5 => k_is); (case l5 => k_is); (case e5 => k_is); (case k5 => k_is)
    (case a6 => k_is); (case l6 => k_is); (case e6 => k_is); (case k6 => k_is)
    (case a7 => k_is); (case l7 => k_is); (case e7 => k_is); (case k7 => k_is)
    (case a8 => k_is); (case l8 => k_is); (case e8 => k_is); (case k8 => k_is)
    (case a9 => k_is); (case l9 => k_is); (case e9 => k_is); (case k9 => k_is)
    (case a10 => k_is); (case l10 => k_is); (case e10 => k_is); (case k10 => k_is)
    (case a11 => k_is); (case l11 => k_is); (case e11 => k_is); (case k11 => k_is)
    (case a12 => k_is); (case l12 => k_is); (case e12 => k_is); (case k12 => k_is)
    (case a13 => k_is); (case l13 => k_is); (case e13 => k_is); (case k13 => k_is)
    (case a14 => k_is); (case l14 => k_is); (case e14 => k_is); (case k14 => k_is)
    (case a15 => k_is); (case l15 => k_is); (case e15 => k_is); (case k15 => k_is)
    (case a16 => k_is); (case l16 => k_is); (case e16 => k_is); (case k16 => k_is)
    (case a17 => k_is); (case l17 => k_is); (case e17 => k_is); (case k17 => k_is)
    (case a18 => k_is); (case l18 => k_is); (case e18 => k_is); (case k18 => k_is)
    (case a19 => k_is); (case l19 => k_is); (case e19 => k_is); (case k19 => k_is)
    (case a20 => k_is); (case l20 => k_is); (case e20 => k_is); (case k20 => k_is)
    (case a21 => k_is); (case l21 => k_is); (case e21 => k_is); (case k21 => k_is)
    (case a22 => k_is); (case l22 => k_is); (case e22 => k_is); (case k22 => k_is)
    (case a23 => k_is); (case l23 => k_is); (case e23 => k_is); (case k23 => k_is)
    (case a24 => k_is); (case l24 => k_is); (case e24 => k_is); (case k24 => k_is)
    (case z_abs => k_is)
    (case z_all => k_is)
    (case z_bool => k_is)
    (case z_dict => k_is)
    (case z_int => k_is)
    (case z_isinstance => k_is)
    (case z_len => k_is)
    (case z_list => k_is)
    (case z_max => k_is)
    (case z_min => k_is)
    (case z_range => k_is)
    (case z_sorted => k_is)
    (case z_str => k_is)
    (case z_sum => k_is)
    (case z_tuple => k_is)
    (case z_zip => k_is)
    (case y_CELLS => k_is)
    (case y_SIDE => k_is)
#print axioms PySem.Challenge.cw_cellhall_k01_whole_counts_boxes_and_move_holds
