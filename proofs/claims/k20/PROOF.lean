import PyProof.Rows.All
import Wide.All
import OpenK.AllK
import Wide.FinOn
import HandS.ForMost
import HandS.IsInst
import HandS.TupAny
import HandS.TupMul
import HandS.Deep
import HandS.TupLe
import HandS.SetFor
import HandS.Style
import KE.KTupSum
import KE.GoesMore
import KE.KRevSl
import PySem.Challenge.RW_cellhall_k20_whole_grids_and_classes
set_option Elab.async false
set_option linter.all false
set_option autoImplicit false
set_option maxRecDepth 100000
/-! ML: Python's constructs as plain Lean functions over data and a store of lists and dicts; each rule of the hand layer once more, so. -/
namespace ML
open PySem L2
/-- a value as plain data: tuples and lists that nobody changes (kl: locked ones) are trees, changed things stand in the store -/
inductive D where
  | non | bl (b : Bool) | int (i : Int) | str (x : Str) | ty (n : String) | glb (x : Str)
  | tup (ds : List D) | fzl (ds : List D) | kl (ds : List D) | loc (n : Nat)
/-- a changed thing -/
inductive O where
  | lst (ds : List D) | dK (kvs : List (Key × D)) | dT (kvs : List (List Key × D))
abbrev Sto := List O
/-- how a step ends -/
inductive R (α : Type) where
  | ok (a : α) (s : Sto)
  | bad
def R.bind {α β : Type} : R α → (α → Sto → R β) → R β
  | .ok a s, k => k a s
  | .bad, _ => .bad
/-- where the store's objects stand (r), and what is being made just now (h) -/
structure Mp where
  r : List Addr
  h : List Addr
instance : Membership Addr Mp := ⟨fun ρ a => a ∈ ρ.r ∨ a ∈ ρ.h⟩
section
variable (K : PySem.W.Frag) (mg : Str → Option Value)
/-- a tuple, a list at a, that nobody changes -/
def TAt (ρ : Mp) (H : Hp) (a : Addr) (xs : List V) : Prop := (Rd H a (.tup xs) ∧ a ∉ ρ) ∨ SqT K (fun _ => none) a xs
def FAt (ρ : Mp) (H : Hp) (a : Addr) (xs : List V) : Prop := H a = some (.lst xs) ∧ a ∉ ρ
def LAt (ρ : Mp) (H : Hp) (a : Addr) (xs : List V) : Prop := (Rd H a (.lst xs) ∧ a ∉ ρ) ∨ SqL K (fun _ => none) a xs
mutual
inductive RV (ρ : Mp) (H : Hp) : D → V → Prop
  | non : RV ρ H .non .non
  | bl (b : Bool) : RV ρ H (.bl b) (.bl b)
  | int (i : Int) : RV ρ H (.int i) (.int i)
  | str (x : Str) : RV ρ H (.str x) (.str x)
  | ty (n : String) : RV ρ H (.ty n) (.ty n)
  | glb {x : Str} {v : V} {u : Value} : mg x = some u → RelV v u → RV ρ H (.glb x) v
  | tup {ds : List D} {a : Addr} {xs : List V} : TAt K ρ H a xs → RVs ρ H ds xs → RV ρ H (.tup ds) (.ref a)
  | fzl {ds : List D} {a : Addr} {xs : List V} : FAt ρ H a xs → RVs ρ H ds xs → RV ρ H (.fzl ds) (.ref a)
  | kl {ds : List D} {a : Addr} {xs : List V} : LAt K ρ H a xs → RVs ρ H ds xs → RV ρ H (.kl ds) (.ref a)
  | loc {n : Nat} {a : Addr} : ρ.r[n]? = some a → RV ρ H (.loc n) (.ref a)
inductive RVs (ρ : Mp) (H : Hp) : List D → List V → Prop
  | nil : RVs ρ H [] []
  | cons {d : D} {ds : List D} {v : V} {vs : List V} : RV ρ H d v → RVs ρ H ds vs → RVs ρ H (d :: ds) (v :: vs)
end
/-- what stands in the store stands so in the heap -/
inductive RO (ρ : Mp) (H : Hp) : O → HO → Prop
  | lst {ds : List D} {xs : List V} : RVs K mg ρ H ds xs → RO ρ H (.lst ds) (.lst xs)
  | dK {kvs : List (Key × D)} {xs : List V} : RVs K mg ρ H (kvs.map (·.2)) xs → RO ρ H (.dK kvs) (.dK ((kvs.map (·.1)).zip xs))
  | dT {kvs : List (List Key × D)} {xs : List V} : RVs K mg ρ H (kvs.map (·.2)) xs → RO ρ H (.dT kvs) (.dT ((kvs.map (·.1)).zip xs))
structure Rep (ρ : Mp) (H : Hp) (S : Sto) : Prop where
  len : ρ.r.length = S.length
  nd : ρ.r.Nodup
  at_ : ∀ (n : Nat) (a : Addr) (o : O), ρ.r[n]? = some a → S[n]? = some o → ∃ u, H a = some u ∧ RO K mg ρ H o u
  hd : ∀ a ∈ ρ.h, (∃ o, H a = some o) ∧ a ∉ ρ.r
end
def noTbl : HO → Prop
  | .tbl _ => False
  | _ => True
/-- the heap grew: what is tracked and not in the store is as it was -/
structure Ext0 (ρ : Mp) (H : Hp) (ρ' : Mp) (H' : Hp) : Prop where
  pre : ρ.r <+: ρ'.r
  keep : ∀ a o, H a = some o → noTbl o → a ∉ ρ → H' a = some o ∧ a ∉ ρ'
structure Ext (ρ : Mp) (H : Hp) (ρ' : Mp) (H' : Hp) : Prop extends Ext0 ρ H ρ' H' where
  hid : ∀ a o, H a = some o → a ∈ ρ.h → H' a = some o ∧ a ∈ ρ'.h
theorem Ext.refl (ρ : Mp) (H : Hp) : Ext ρ H ρ H := ⟨⟨List.prefix_rfl, fun _ _ h _ n => ⟨h, n⟩⟩, fun _ _ h m => ⟨h, m⟩⟩
theorem Ext0.trans {ρ ρ1 ρ2 : Mp} {H H1 H2 : Hp} (a : Ext0 ρ H ρ1 H1) (b : Ext0 ρ1 H1 ρ2 H2) : Ext0 ρ H ρ2 H2 :=
  ⟨a.pre.trans b.pre, fun x o h t n => let ⟨h1, n1⟩ := a.keep x o h t n; b.keep x o h1 t n1⟩
theorem Ext.trans {ρ ρ1 ρ2 : Mp} {H H1 H2 : Hp} (a : Ext ρ H ρ1 H1) (b : Ext ρ1 H1 ρ2 H2) : Ext ρ H ρ2 H2 :=
  ⟨a.toExt0.trans b.toExt0, fun x o h m => let ⟨h1, m1⟩ := a.hid x o h m; b.hid x o h1 m1⟩
section
variable {K : PySem.W.Frag} {mg : Str → Option Value} {ρ ρ' : Mp} {H H' : Hp}
theorem TAt.sq {a : Addr} {xs : List V} (h : TAt K ρ H a xs) : SqT K H a xs := by
  rcases h with h | h
  · exact .inl h.1
  · rcases h with (h | ⟨o, h⟩) | h
    · cases h
    · cases h
    · exact .inr h
theorem LAt.sq {a : Addr} {xs : List V} (h : LAt K ρ H a xs) : SqL K H a xs := by
  rcases h with h | h
  · exact .inl h.1
  · rcases h with (h | ⟨o, h⟩) | h
    · cases h
    · cases h
    · exact .inr h
theorem TAt.ext {a : Addr} {xs : List V} (e : Ext0 ρ H ρ' H') (h : TAt K ρ H a xs) : TAt K ρ' H' a xs := by
  rcases h with ⟨h | ⟨o, h⟩, n⟩ | h
  · obtain ⟨h1, n1⟩ := e.keep a _ h trivial n
    exact .inl ⟨.inl h1, n1⟩
  · obtain ⟨h1, n1⟩ := e.keep a _ h trivial n
    exact .inl ⟨.inr ⟨o, h1⟩, n1⟩
  · exact .inr h
theorem LAt.ext {a : Addr} {xs : List V} (e : Ext0 ρ H ρ' H') (h : LAt K ρ H a xs) : LAt K ρ' H' a xs := by
  rcases h with ⟨h | ⟨o, h⟩, n⟩ | h
  · obtain ⟨h1, n1⟩ := e.keep a _ h trivial n
    exact .inl ⟨.inl h1, n1⟩
  · obtain ⟨h1, n1⟩ := e.keep a _ h trivial n
    exact .inl ⟨.inr ⟨o, h1⟩, n1⟩
  · exact .inr h
theorem FAt.ext {a : Addr} {xs : List V} (e : Ext0 ρ H ρ' H') (h : FAt ρ H a xs) : FAt ρ' H' a xs := e.keep a _ h.1 trivial h.2
theorem pre_get {α : Type} {l l' : List α} {n : Nat} {a : α} (p : l <+: l') (h : l[n]? = some a) : l'[n]? = some a := by
  obtain ⟨t, rfl⟩ := p
  rw [List.getElem?_append_left (List.getElem?_eq_some_iff.mp h).1]
  exact h
mutual
theorem RV.ext0 (e : Ext0 ρ H ρ' H') : ∀ {d : D} {v : V}, RV K mg ρ H d v → RV K mg ρ' H' d v
  | _, _, .non => .non
  | _, _, .bl b => .bl b
  | _, _, .int i => .int i
  | _, _, .str x => .str x
  | _, _, .ty n => .ty n
  | _, _, .glb h r => .glb h r
  | _, _, .tup t r => .tup (t.ext e) (RVs.ext0 e r)
  | _, _, .fzl t r => .fzl (t.ext e) (RVs.ext0 e r)
  | _, _, .kl t r => .kl (t.ext e) (RVs.ext0 e r)
  | _, _, .loc h => .loc (pre_get e.pre h)
theorem RVs.ext0 (e : Ext0 ρ H ρ' H') : ∀ {ds : List D} {vs : List V}, RVs K mg ρ H ds vs → RVs K mg ρ' H' ds vs
  | _, _, .nil => .nil
  | _, _, .cons r t => .cons (RV.ext0 e r) (RVs.ext0 e t)
end
theorem RV.ext {d : D} {v : V} (r : RV K mg ρ H d v) (e : Ext ρ H ρ' H') : RV K mg ρ' H' d v := RV.ext0 e.toExt0 r
theorem RVs.ext {ds : List D} {vs : List V} (r : RVs K mg ρ H ds vs) (e : Ext ρ H ρ' H') : RVs K mg ρ' H' ds vs := RVs.ext0 e.toExt0 r
theorem RO.ext0 {o : O} {u : HO} (e : Ext0 ρ H ρ' H') (h : RO K mg ρ H o u) : RO K mg ρ' H' o u := by
  cases h with
  | lst r => exact .lst (r.ext0 e)
  | dK r => exact .dK (r.ext0 e)
  | dT r => exact .dT (r.ext0 e)
theorem RO.ext {o : O} {u : HO} (h : RO K mg ρ H o u) (e : Ext ρ H ρ' H') : RO K mg ρ' H' o u := h.ext0 e.toExt0
theorem RVs.length {ds : List D} {vs : List V} (h : RVs K mg ρ H ds vs) : ds.length = vs.length := by
  induction ds generalizing vs with
  | nil => cases h; rfl
  | cons d ds ih => cases h with | cons r t => rw [List.length_cons, List.length_cons, ih t]
theorem RVs.get {ds : List D} {vs : List V} (h : RVs K mg ρ H ds vs) : ∀ {i : Nat} {v : V}, vs[i]? = some v → ∃ d, ds[i]? = some d ∧ RV K mg ρ H d v := by
  induction ds generalizing vs with
  | nil => cases h; intro i v e; simp at e
  | cons d ds ih =>
    cases h with
    | cons r t =>
      intro i v e
      cases i with
      | zero => simp at e; subst e; exact ⟨d, rfl, r⟩
      | succ i => exact ih t (by simpa using e)
theorem RVs.getD {ds : List D} {vs : List V} (h : RVs K mg ρ H ds vs) : ∀ {i : Nat} {d : D}, ds[i]? = some d → ∃ v, vs[i]? = some v ∧ RV K mg ρ H d v := by
  induction ds generalizing vs with
  | nil => intro i d e; simp at e
  | cons d ds ih =>
    cases h with
    | cons r t =>
      intro i v e
      cases i with
      | zero => simp at e; subst e; exact ⟨_, rfl, r⟩
      | succ i => exact ih t (by simpa using e)
theorem RVs.append {ds es : List D} {vs ws : List V} (h : RVs K mg ρ H ds vs) (g : RVs K mg ρ H es ws) : RVs K mg ρ H (ds ++ es) (vs ++ ws) := by
  induction ds generalizing vs with
  | nil => cases h; exact g
  | cons d ds ih => cases h with | cons r t => exact .cons r (ih t)
theorem RVs.take {ds : List D} {vs : List V} (h : RVs K mg ρ H ds vs) : ∀ n : Nat, RVs K mg ρ H (ds.take n) (vs.take n) := by
  induction ds generalizing vs with
  | nil => cases h; intro n; simp; exact .nil
  | cons d ds ih =>
    cases h with
    | cons r t =>
      intro n
      cases n with
      | zero => exact .nil
      | succ n => exact .cons r (ih t n)
theorem RVs.drop {ds : List D} {vs : List V} (h : RVs K mg ρ H ds vs) : ∀ n : Nat, RVs K mg ρ H (ds.drop n) (vs.drop n) := by
  induction ds generalizing vs with
  | nil => cases h; intro n; simp; exact .nil
  | cons d ds ih =>
    cases h with
    | cons r t =>
      intro n
      cases n with
      | zero => exact .cons r t
      | succ n => exact ih t n
theorem RVs.set {ds : List D} {vs : List V} {d : D} {v : V} (h : RVs K mg ρ H ds vs) (r : RV K mg ρ H d v) : ∀ i : Nat, RVs K mg ρ H (ds.set i d) (vs.set i v) := by
  induction ds generalizing vs with
  | nil => cases h; intro i; simp; exact .nil
  | cons d' ds ih =>
    cases h with
    | cons r' t =>
      intro i
      cases i with
      | zero => exact .cons r t
      | succ i => exact .cons r' (ih t i)
theorem RVs.reverse {ds : List D} {vs : List V} (h : RVs K mg ρ H ds vs) : RVs K mg ρ H ds.reverse vs.reverse := by
  induction ds generalizing vs with
  | nil => cases h; exact .nil
  | cons d ds ih =>
    cases h with
    | cons r t =>
      rw [List.reverse_cons, List.reverse_cons]
      exact (ih t).append (.cons r .nil)
theorem RVs.rep {ds : List D} {vs : List V} (h : RVs K mg ρ H ds vs) : ∀ k : Nat, RVs K mg ρ H (List.replicate k ds).flatten (List.replicate k vs).flatten
  | 0 => .nil
  | k + 1 => by
    rw [List.replicate_succ, List.replicate_succ, List.flatten_cons, List.flatten_cons]
    exact h.append (RVs.rep h k)
/-- a new object that the store does not hold -/
theorem Rep.freshR {S : Sto} (r : Rep K mg ρ H S) {p : Addr} (hp : H p = none) : p ∉ ρ.r := by
  intro h
  obtain ⟨n, hn, e⟩ := List.getElem_of_mem h
  obtain ⟨u, hu, _⟩ := r.at_ n p (S[n]'(r.len ▸ hn)) (by rw [List.getElem?_eq_getElem hn, e]) (List.getElem?_eq_getElem _)
  rw [hp] at hu
  cases hu
theorem Rep.fresh {S : Sto} (r : Rep K mg ρ H S) {p : Addr} (hp : H p = none) : p ∉ ρ := by
  intro h
  rcases h with h | h
  · exact r.freshR hp h
  · obtain ⟨⟨o, q⟩, _⟩ := r.hd p h
    rw [hp] at q
    cases q
theorem Ext.new {p : Addr} {o : HO} (hp : H p = none) : Ext ρ H ρ (upd H p o) :=
  ⟨⟨List.prefix_rfl, fun a u h _ n => ⟨by rw [upd_ne (ne_of_none h hp)]; exact h, n⟩⟩, fun a u h m => ⟨by rw [upd_ne (ne_of_none h hp)]; exact h, m⟩⟩
theorem Rep.new {S : Sto} (r : Rep K mg ρ H S) {p : Addr} {o : HO} (hp : H p = none) : Rep K mg ρ (upd H p o) S :=
  ⟨r.len, r.nd, fun n a o' h1 h2 => by
    obtain ⟨u, hu, hr⟩ := r.at_ n a o' h1 h2
    exact ⟨u, by rw [upd_ne (ne_of_none hu hp)]; exact hu, hr.ext (Ext.new hp)⟩,
   fun a m => by
    obtain ⟨⟨o', q⟩, n⟩ := r.hd a m
    exact ⟨⟨o', by rw [upd_ne (ne_of_none q hp)]; exact q⟩, n⟩⟩
theorem TAt.new {S : Sto} (r : Rep K mg ρ H S) {p : Addr} {xs : List V} (hp : H p = none) : TAt K ρ (upd H p (.tup xs)) p xs := .inl ⟨.inl upd_same, r.fresh hp⟩
theorem FAt.new {S : Sto} (r : Rep K mg ρ H S) {p : Addr} {xs : List V} (hp : H p = none) : FAt ρ (upd H p (.lst xs)) p xs := ⟨upd_same, r.fresh hp⟩
/-- a new object in the store -/
def Mp.add (ρ : Mp) (p : Addr) : Mp := ⟨ρ.r ++ [p], ρ.h⟩
theorem Ext.add {p : Addr} {o : HO} (hp : H p = none) : Ext ρ H (ρ.add p) (upd H p o) :=
  ⟨⟨List.prefix_append _ _, fun a u h _ n => ⟨by rw [upd_ne (ne_of_none h hp)]; exact h, by
    intro m
    rcases m with m | m
    · rcases List.mem_append.mp m with m | m
      · exact n (.inl m)
      · rw [List.mem_singleton] at m
        exact ne_of_none h hp m
    · exact n (.inr m)⟩⟩, fun a u h m => ⟨by rw [upd_ne (ne_of_none h hp)]; exact h, m⟩⟩
theorem Rep.add {S : Sto} (r : Rep K mg ρ H S) {p : Addr} {o : O} {u : HO} (hp : H p = none) (h : RO K mg ρ H o u) : Rep K mg (ρ.add p) (upd H p u) (S ++ [o]) :=
  ⟨by show (ρ.r ++ [p]).length = _; rw [List.length_append, List.length_append, r.len]; rfl,
   List.nodup_append.mpr ⟨r.nd, by simp, fun a ha b hb => by rw [List.mem_singleton] at hb; subst hb; intro e; subst e; exact r.freshR hp ha⟩,
   fun n a o' h1 h2 => by
    have h1 : (ρ.r ++ [p])[n]? = some a := h1
    by_cases hn : n < ρ.r.length
    · rw [List.getElem?_append_left hn] at h1
      rw [List.getElem?_append_left (r.len ▸ hn)] at h2
      obtain ⟨u', hu, hr⟩ := r.at_ n a o' h1 h2
      exact ⟨u', by rw [upd_ne (ne_of_none hu hp)]; exact hu, hr.ext (Ext.add hp)⟩
    · have hn' : n = ρ.r.length := by
        have := (List.getElem?_eq_some_iff.mp h1).1
        rw [List.length_append] at this
        simp at this
        omega
      subst hn'
      rw [List.getElem?_append_right (Nat.le_refl _), Nat.sub_self] at h1
      rw [r.len, List.getElem?_append_right (Nat.le_refl _), Nat.sub_self] at h2
      cases h1
      cases h2
      exact ⟨u, upd_same, h.ext (Ext.add hp)⟩,
   fun a m => by
    obtain ⟨⟨o', q⟩, n⟩ := r.hd a m
    refine ⟨⟨o', by rw [upd_ne (ne_of_none q hp)]; exact q⟩, fun z => ?_⟩
    rcases List.mem_append.mp z with z | z
    · exact n z
    · rw [List.mem_singleton] at z
      exact ne_of_none q hp z⟩
theorem add_get {p : Addr} {S : Sto} (r : Rep K mg ρ H S) : (ρ.add p).r[S.length]? = some p := by
  show (ρ.r ++ [p])[S.length]? = some p
  rw [← r.len, List.getElem?_append_right (Nat.le_refl _), Nat.sub_self]
  rfl
/-- an object of the store changes -/
theorem Ext.put {S : Sto} (r : Rep K mg ρ H S) {a : Addr} {o : HO} (h : a ∈ ρ.r) : Ext ρ H ρ (upd H a o) :=
  ⟨⟨List.prefix_rfl, fun b u hb _ n => ⟨by rw [upd_ne (fun e => n (by rw [e]; exact .inl h))]; exact hb, n⟩⟩, fun b u hb m => ⟨by rw [upd_ne (fun e => (r.hd b m).2 (by rw [e]; exact h))]; exact hb, m⟩⟩
theorem Rep.put {S : Sto} (r : Rep K mg ρ H S) {n : Nat} {a : Addr} {o : O} {u : HO} (ha : ρ.r[n]? = some a) (h : RO K mg ρ H o u) : Rep K mg ρ (upd H a u) (S.set n o) :=
  have ma : a ∈ ρ.r := List.mem_of_getElem? ha
  ⟨by rw [List.length_set]; exact r.len, r.nd, fun m b o' h1 h2 => by
    by_cases hm : m = n
    · subst hm
      rw [ha] at h1
      cases h1
      have hl := (List.getElem?_eq_some_iff.mp ha).1
      rw [List.getElem?_set_self (r.len ▸ hl)] at h2
      cases h2
      exact ⟨u, upd_same, h.ext (Ext.put r ma)⟩
    · rw [List.getElem?_set_ne (fun e => hm e.symm)] at h2
      obtain ⟨u', hu, hr⟩ := r.at_ m b o' h1 h2
      have hb : b ≠ a := by
        intro e
        subst e
        obtain ⟨l1, e1⟩ := List.getElem?_eq_some_iff.mp h1
        obtain ⟨l2, e2⟩ := List.getElem?_eq_some_iff.mp ha
        exact hm ((List.getElem_inj r.nd).mp (e1.trans e2.symm))
      exact ⟨u', by rw [upd_ne hb]; exact hu, hr.ext (Ext.put r ma)⟩,
   fun b m => by
    obtain ⟨⟨o', q⟩, n⟩ := r.hd b m
    exact ⟨⟨o', by rw [upd_ne (fun e => n (by rw [e]; exact ma))]; exact q⟩, n⟩⟩
/-! what stands last is forgotten -/
mutual
def D.cl (n : Nat) : D → Bool
  | .tup ds => D.cls n ds
  | .fzl ds => D.cls n ds
  | .kl ds => D.cls n ds
  | .loc m => decide (m < n)
  | _ => true
def D.cls (n : Nat) : List D → Bool
  | [] => true
  | d :: ds => D.cl n d && D.cls n ds
end
def O.cl (n : Nat) : O → Bool
  | .lst ds => D.cls n ds
  | .dK kvs => D.cls n (kvs.map (·.2))
  | .dT kvs => D.cls n (kvs.map (·.2))
theorem sub_mp {ρ σ : Mp} (p : ρ.r <+: σ.r) (hh : ρ.h = σ.h) {a : Addr} (m : a ∈ ρ) : a ∈ σ := m.imp (fun m => p.subset m) (fun m => hh ▸ m)
mutual
theorem RV.cut {σ : Mp} (p : ρ.r <+: σ.r) (hh : ρ.h = σ.h) : ∀ {d : D} {v : V}, D.cl ρ.r.length d = true → RV K mg σ H d v → RV K mg ρ H d v
  | _, _, _, .non => .non
  | _, _, _, .bl b => .bl b
  | _, _, _, .int i => .int i
  | _, _, _, .str x => .str x
  | _, _, _, .ty n => .ty n
  | _, _, _, .glb h r => .glb h r
  | _, _, c, .tup t r => .tup (t.imp (fun ⟨h, n⟩ => ⟨h, fun m => n (sub_mp p hh m)⟩) id) (RVs.cut p hh (by simpa [D.cl] using c) r)
  | _, _, c, .fzl t r => .fzl ⟨t.1, fun m => t.2 (sub_mp p hh m)⟩ (RVs.cut p hh (by simpa [D.cl] using c) r)
  | _, _, c, .kl t r => .kl (t.imp (fun ⟨h, n⟩ => ⟨h, fun m => n (sub_mp p hh m)⟩) id) (RVs.cut p hh (by simpa [D.cl] using c) r)
  | _, _, c, .loc h => .loc (by
    obtain ⟨t, e⟩ := p
    rw [← e, List.getElem?_append_left (by simpa [D.cl] using c)] at h
    exact h)
theorem RVs.cut {σ : Mp} (p : ρ.r <+: σ.r) (hh : ρ.h = σ.h) : ∀ {ds : List D} {vs : List V}, D.cls ρ.r.length ds = true → RVs K mg σ H ds vs → RVs K mg ρ H ds vs
  | _, _, _, .nil => .nil
  | _, _, c, .cons r t => by
    simp only [D.cls, Bool.and_eq_true] at c
    exact .cons (RV.cut p hh c.1 r) (RVs.cut p hh c.2 t)
end
theorem RO.cut {σ : Mp} {o : O} {u : HO} (p : ρ.r <+: σ.r) (hh : ρ.h = σ.h) (c : O.cl ρ.r.length o = true) (h : RO K mg σ H o u) : RO K mg ρ H o u := by
  cases h with
  | lst r => exact .lst (r.cut p hh c)
  | dK r => exact .dK (r.cut p hh c)
  | dT r => exact .dT (r.cut p hh c)
theorem Rep.cut {σ : Mp} {S T : Sto} (r : Rep K mg σ H (S ++ T)) (p : ρ.r <+: σ.r) (hh : ρ.h = σ.h) (hl : ρ.r.length = S.length) (c : S.all (O.cl S.length) = true) : Rep K mg ρ H S := by
  have q := p
  obtain ⟨t, e⟩ := p
  have nd := r.nd
  rw [← e] at nd
  refine ⟨hl, (List.nodup_append.mp nd).1, fun n a o h1 h2 => ?_, fun a m => ?_⟩
  · obtain ⟨u, hu, hr⟩ := r.at_ n a o (pre_get q h1) (by rw [List.getElem?_append_left (List.getElem?_eq_some_iff.mp h2).1]; exact h2)
    exact ⟨u, hu, hr.cut q hh (by rw [hl]; exact List.all_eq_true.mp c o (List.mem_of_getElem? h2))⟩
  · obtain ⟨h1, n⟩ := r.hd a (hh ▸ m)
    exact ⟨h1, fun z => n (q.subset z)⟩
theorem Ext.cut {σ : Mp} {ρ0 : Mp} {H0 : Hp} (e : Ext ρ0 H0 σ H) (p : ρ.r <+: σ.r) (hh : ρ.h = σ.h) (q : ρ0.r <+: ρ.r) : Ext ρ0 H0 ρ H :=
  ⟨⟨q, fun a o h t n => ⟨(e.keep a o h t n).1, fun m => (e.keep a o h t n).2 (sub_mp p hh m)⟩⟩, fun a o h m => ⟨(e.hid a o h m).1, hh ▸ (e.hid a o h m).2⟩⟩
/-! ### what a step promises -/
section
variable {α β γ δ : Type}
/-- whatever comes of r, told by rel, is wanted -/
def Post (K : PySem.W.Frag) (mg : Str → Option Value) (ρ : Mp) (H : Hp) (r : R α) (rel : Mp → Hp → α → β → Prop) (Q : β → Hp → Prop) : Prop :=
  match r with
  | .ok a S' => ∀ ρ' H' b, Ext ρ H ρ' H' → Rep K mg ρ' H' S' → rel ρ' H' a b → Q b H'
  | .bad => False
theorem Post.imp {r : R α} {rel : Mp → Hp → α → β → Prop} {Q Q' : β → Hp → Prop} (p : Post K mg ρ H r rel Q) (h : ∀ b H', Q b H' → Q' b H') : Post K mg ρ H r rel Q' := by
  cases r with
  | ok a S => exact fun ρ' H' b e rp rl => h b H' (p ρ' H' b e rp rl)
  | bad => exact p
theorem Post.ext {r : R α} {rel : Mp → Hp → α → β → Prop} {Q : β → Hp → Prop} (e : Ext ρ H ρ' H') (p : Post K mg ρ H r rel Q) : Post K mg ρ' H' r rel Q := by
  cases r with
  | ok a S => exact fun ρ1 H1 b e1 rp rl => p ρ1 H1 b (e.trans e1) rp rl
  | bad => exact p
/-- step by step -/
theorem Post.bind {r : R α} {k : α → Sto → R γ} {rel : Mp → Hp → α → β → Prop} {rel' : Mp → Hp → γ → δ → Prop} {Q : δ → Hp → Prop} (p : Post K mg ρ H (r.bind k) rel' Q) :
    Post K mg ρ H r rel (fun b H1 => ∃ ρ1 S1 a, Ext ρ H ρ1 H1 ∧ Rep K mg ρ1 H1 S1 ∧ rel ρ1 H1 a b ∧ Post K mg ρ1 H1 (k a S1) rel' Q) := by
  cases r with
  | ok a S => exact fun ρ' H' b e rp rl => ⟨ρ', S, a, e, rp, rl, Post.ext e p⟩
  | bad => exact p
theorem Post.bindB {r : R α} {k : α → Sto → R γ} {rel : Mp → Hp → α → β → Prop} {rel' : Mp → Hp → γ → δ → Prop} {Q : δ → Hp → Prop} {Q' : β → Hp → Prop} (p : Post K mg ρ H (r.bind k) rel' Q)
    (h : ∀ b H1 ρ1 S1 a, Ext ρ H ρ1 H1 → Rep K mg ρ1 H1 S1 → rel ρ1 H1 a b → Post K mg ρ1 H1 (k a S1) rel' Q → Q' b H1) : Post K mg ρ H r rel Q' :=
  p.bind.imp fun b H1 ⟨ρ1, S1, a, e, rp, rl, q⟩ => h b H1 ρ1 S1 a e rp rl q
theorem Post.ok {a : α} {S : Sto} {rel : Mp → Hp → α → β → Prop} {Q : β → Hp → Prop} {b : β} (p : Post K mg ρ H (.ok a S) rel Q) (rp : Rep K mg ρ H S) (rl : rel ρ H a b) : Q b H :=
  p ρ H b (Ext.refl ρ H) rp rl
end
end
/-! ### a def's names -/
abbrev Env := List (Option D)
structure REnv (K : PySem.W.Frag) (mg : Str → Option Value) (ρ : Mp) (H : Hp) (env : Env) (σ : St) : Prop where
  len : env.length = σ.length
  at_ : ∀ (i : Nat) (d : D), env[i]? = some (some d) → ∃ v, σ[i]? = some (some v) ∧ RV K mg ρ H d v
section
variable {K : PySem.W.Frag} {mg : Str → Option Value} {ρ ρ' : Mp} {H H' : Hp} {env : Env} {σ : St}
theorem REnv.ext (e : Ext ρ H ρ' H') (h : REnv K mg ρ H env σ) : REnv K mg ρ' H' env σ :=
  ⟨h.len, fun i d q => let ⟨v, h1, h2⟩ := h.at_ i d q; ⟨v, h1, h2.ext e⟩⟩
theorem REnv.set {i : Nat} {d : D} {v : V} (h : REnv K mg ρ H env σ) (r : RV K mg ρ H d v) : REnv K mg ρ H (env.set i (some d)) (σ.set i (some v)) :=
  ⟨by rw [List.length_set, List.length_set, h.len], fun j d' q => by
    by_cases hj : i = j
    · subst hj
      by_cases hl : i < env.length
      · rw [List.getElem?_set_self hl] at q
        cases q
        exact ⟨v, by rw [List.getElem?_set_self (h.len ▸ hl)], r⟩
      · rw [List.getElem?_eq_none (by simpa using hl)] at q
        cases q
    · rw [List.getElem?_set_ne hj] at q ⊢
      exact h.at_ j d' q⟩
def wipeE (env : Env) : List Nat → Env
  | [] => env
  | v :: vs => (wipeE env vs).set v none
theorem REnv.wipe (h : REnv K mg ρ H env σ) : ∀ vs : List Nat, REnv K mg ρ H (wipeE env vs) (wipe σ vs)
  | [] => h
  | v :: vs => by
    have ih := REnv.wipe h vs
    refine ⟨by show ((wipeE env vs).set v none).length = ((L2.wipe σ vs).set v none).length; rw [List.length_set, List.length_set, ih.len], fun j d' q => ?_⟩
    have q' : ((wipeE env vs).set v none)[j]? = some (some d') := q
    by_cases hj : v = j
    · subst hj
      by_cases hl : v < (wipeE env vs).length
      · rw [List.getElem?_set_self hl] at q'
        cases q'
      · rw [List.getElem?_eq_none (by simpa using hl)] at q'
        cases q'
    · rw [List.getElem?_set_ne hj] at q'
      obtain ⟨v', h1, h2⟩ := ih.at_ j d' q'
      exact ⟨v', by show ((L2.wipe σ vs).set v none)[j]? = _; rw [List.getElem?_set_ne hj]; exact h1, h2⟩
end
end ML
namespace ML
open PySem L2
/-! ### readings made of plain functions -/
abbrev EM := Env → Sto → R D
abbrev TM := Env → Sto → R Bool
abbrev AM := Env → Sto → R (List D)
section
variable (K : PySem.W.Frag) (mg : Str → Option Value)
def relB (_ : Mp) (_ : Hp) (a b : Bool) : Prop := a = b
def rdE (m : EM) : TE := fun σ H Q => ∃ ρ env S, Rep K mg ρ H S ∧ REnv K mg ρ H env σ ∧ Post K mg ρ H (m env S) (RV K mg) Q
def rdT (m : TM) : TT := fun σ H Q => ∃ ρ env S, Rep K mg ρ H S ∧ REnv K mg ρ H env σ ∧ Post K mg ρ H (m env S) relB Q
def rdA (m : AM) : TA := fun σ H Q => ∃ ρ env S, Rep K mg ρ H S ∧ REnv K mg ρ H env σ ∧ Post K mg ρ H (m env S) (RVs K mg) Q
/-- an operator by values -/
def rdO (f : D → D → Sto → R D) : R2 := fun x y H Q => ∃ ρ S dx dy, Rep K mg ρ H S ∧ RV K mg ρ H dx x ∧ RV K mg ρ H dy y ∧ Post K mg ρ H (f dx dy S) (RV K mg) Q
def rdU (f : D → Sto → R D) : V → Hp → VK → Prop := fun x H Q => ∃ ρ S dx, Rep K mg ρ H S ∧ RV K mg ρ H dx x ∧ Post K mg ρ H (f dx S) (RV K mg) Q
def rdC (f : List D → Sto → R D) : List V → Hp → VK → Prop := fun xs H Q => ∃ ρ S ds, Rep K mg ρ H S ∧ RVs K mg ρ H ds xs ∧ Post K mg ρ H (f ds S) (RV K mg) Q
def rdM (f : D → List D → Sto → R D) : V → List V → Hp → VK → Prop := fun x xs H Q => ∃ ρ S dx ds, Rep K mg ρ H S ∧ RV K mg ρ H dx x ∧ RVs K mg ρ H ds xs ∧ Post K mg ρ H (f dx ds S) (RV K mg) Q
end
theorem _root_.L2.PE.mono' {X : Cx} {e : Expr} {t t' : TE} (h : PE X e t) (m : ∀ σ H Q, t' σ H Q → t σ H Q) : PE X e t' := ⟨fun pins s σ H Q I q => h.run pins s σ H Q I (m σ H Q q)⟩
theorem _root_.L2.PT.mono' {X : Cx} {e : Expr} {t t' : TT} (h : PT X e t) (m : ∀ σ H Q, t' σ H Q → t σ H Q) : PT X e t' := ⟨fun pins s σ H Q I q => h.run pins s σ H Q I (m σ H Q q)⟩
theorem _root_.L2.PW.mono' {X : Cx} {e : Expr} {t t' : TT} (h : PW X e t) (m : ∀ σ H Q, t' σ H Q → t σ H Q) : PW X e t' := ⟨fun w pins s σ H Q I q => h.run w pins s σ H Q I (m σ H Q q)⟩
theorem _root_.L2.PA.mono' {X : Cx} {e : List Expr} {t t' : TA} (h : PA X e t) (m : ∀ σ H Q, t' σ H Q → t σ H Q) : PA X e t' := ⟨fun w pins s σ H Q I q => h.run w pins s σ H Q I (m σ H Q q)⟩
theorem _root_.L2.OpR.mono' {X : Cx} {f : Value → Value → Sem Value} {r r' : R2} (h : OpR X f r) (m : ∀ x y H Q, r' x y H Q → r x y H Q) : OpR X f r' := fun pins s σ H x y v u Q I rx ry q => h pins s σ H x y v u Q I rx ry (m x y H Q q)
abbrev GE (X : Cx) (e : Expr) (m : EM) : Prop := PE X e (rdE X.K X.mg m)
abbrev GT (X : Cx) (e : Expr) (m : TM) : Prop := PT X e (rdT X.K X.mg m)
abbrev GW (X : Cx) (e : Expr) (m : TM) : Prop := PW X e (rdT X.K X.mg m)
abbrev GA (X : Cx) (es : List Expr) (m : AM) : Prop := PA X es (rdA X.K X.mg m)
abbrev GO (X : Cx) (f : Value → Value → Sem Value) (m : D → D → Sto → R D) : Prop := OpR X f (rdO X.K X.mg m)
abbrev GIx (X : Cx) (m : D → D → Sto → R D) : Prop := IxR X (rdO X.K X.mg m)
abbrev GU (X : Cx) (f : Value → Sem Value) (m : D → Sto → R D) : Prop := UnR X f (rdU X.K X.mg m)
abbrev GC (X : Cx) (f : Value) (m : List D → Sto → R D) : Prop := CallR X f (rdC X.K X.mg m)
/-! ### the plain functions of the constructs -/
def mVar (i : Nat) : EM := fun env S => match env[i]? with
  | some (some d) => .ok d S
  | _ => .bad
def mC (d : D) : EM := fun _ S => .ok d S
def mOp (f : D → D → Sto → R D) (a b : EM) : EM := fun env S => (a env S).bind fun x S1 => (b env S1).bind fun y S2 => f x y S2
def mUn (f : D → Sto → R D) (a : EM) : EM := fun env S => (a env S).bind fun x S1 => f x S1
def isB : D → Sto → R Bool
  | .bl b, S => .ok b S
  | _, _ => .bad
def mT (a : EM) : TM := fun env S => (a env S).bind isB
def mAnd (a b : TM) : TM := fun env S => (a env S).bind fun c S1 => if c = true then b env S1 else .ok false S1
def mOr (a b : TM) : TM := fun env S => (a env S).bind fun c S1 => if c = true then .ok true S1 else b env S1
def mNot (a : TM) : TM := fun env S => (a env S).bind fun c S1 => .ok (!c) S1
def mIfE (c : TM) (a b : EM) : EM := fun env S => (c env S).bind fun k S1 => if k = true then a env S1 else b env S1
def mAndV (a b : EM) : EM := fun env S => (a env S).bind fun x S1 => (isB x S1).bind fun c S2 => if c = true then b env S2 else .ok (.bl false) S2
def mOrV (a b : EM) : EM := fun env S => (a env S).bind fun x S1 => (isB x S1).bind fun c S2 => if c = true then .ok (.bl true) S2 else b env S2
def mNotV (a : EM) : EM := fun env S => (a env S).bind fun x S1 => (isB x S1).bind fun c S2 => .ok (.bl (!c)) S2
def mChain (f g : D → D → Sto → R D) (a b c : EM) : EM := fun env S => (a env S).bind fun x S1 => (b env S1).bind fun y S2 => (f x y S2).bind fun z S3 => (isB z S3).bind fun k S4 =>
  if k = true then (c env S4).bind fun w S5 => g y w S5 else .ok (.bl false) S4
def mNil : AM := fun _ S => .ok [] S
def mCons (a : EM) (r : AM) : AM := fun env S => (a env S).bind fun d S1 => (r env S1).bind fun ds S2 => .ok (d :: ds) S2
def mCall (f : List D → Sto → R D) (a : AM) : EM := fun env S => (a env S).bind fun ds S1 => f ds S1
def mTup (a : AM) : EM := fun env S => (a env S).bind fun ds S1 => if ds.length ≤ sizeLine then .ok (.tup ds) S1 else .bad
/-- a list display: one that nobody changes; one that is changed -/
def mLst (a : AM) : EM := fun env S => (a env S).bind fun ds S1 => if ds.length ≤ sizeLine then .ok (.fzl ds) S1 else .bad
def newL (ds : List D) (S : Sto) : R D := .ok (.loc S.length) (S ++ [.lst ds])
def mLstM (a : AM) : EM := fun env S => (a env S).bind fun ds S1 => if ds.length ≤ sizeLine then newL ds S1 else .bad
section
variable {X : Cx} {a b c e : Expr} {es rest : List Expr} {ma mb mc : EM} {ta tb : TM} {as : AM} {pos : Pos}
theorem post_B {K : PySem.W.Frag} {mg : Str → Option Value} {ρ : Mp} {H : Hp} {α β : Type} {d : D} {v : V} {S : Sto} {k : Bool → Sto → R α} {rel : Mp → Hp → α → β → Prop} {Q : β → Hp → Prop} (r : RV K mg ρ H d v) (p : Post K mg ρ H ((isB d S).bind k) rel Q) :
    ∃ c, v = .bl c ∧ Post K mg ρ H (k c S) rel Q := by
  cases r with
  | bl b => exact ⟨b, rfl, p⟩
  | _ => exact p.elim
theorem ge_var {i : Nat} {x : Str} {pos : Pos} (hN : X.N[i]? = some x := by rfl) (hv : Vis X.env.scope x := by first | exact Or.inl rfl | exact Or.inr (Or.inl rfl) | exact Or.inr (Or.inr rfl)) (hd : (x == ("__debug__" : Str)) = false := by decide)
    (hcd : (x == ("__classdict__" : Str)) = false := by decide) : GE X (.Name x pos) (mVar i) :=
  (pe_var hN hv hd hcd).mono' fun σ H Q ⟨ρ, env, S, rp, re, p⟩ => by
    unfold mVar at p
    split at p
    · next d q =>
      obtain ⟨v, h1, h2⟩ := re.at_ i d q
      exact ⟨v, h1, p.ok rp h2⟩
    · exact p.elim
theorem ge_int {i : Int} {j : Nat} : GE X (.Constant (.int i) j pos) (mC (.int i)) := pe_int.mono' fun σ H Q ⟨ρ, env, S, rp, re, p⟩ => Post.ok p rp (.int i)
theorem ge_bl {b : Bool} {j : Nat} : GE X (.Constant (.bool b) j pos) (mC (.bl b)) := pe_bl.mono' fun σ H Q ⟨ρ, env, S, rp, re, p⟩ => Post.ok p rp (.bl b)
theorem ge_non {j : Nat} : GE X (.Constant .none j pos) (mC .non) := pe_non.mono' fun σ H Q ⟨ρ, env, S, rp, re, p⟩ => Post.ok p rp .non
theorem ge_str {x : Str} {j : Nat} : GE X (.Constant (.str x) j pos) (mC (.str x)) := pe_str.mono' fun σ H Q ⟨ρ, env, S, rp, re, p⟩ => Post.ok p rp (.str x)
/-- a module's name that holds an int, a text .. -/
theorem ge_globI {x : Str} {i : Int} {pos : Pos} (hg : Gl X x) (hm : ∃ t, X.mg x = some (.int i t)) (hd : (x == ("__debug__" : Str)) = false := by decide) : GE X (.Name x pos) (mC (.int i)) := by
  obtain ⟨t, hm⟩ := hm
  exact (pe_glob hg hm (v := .int i) ⟨t, rfl⟩ hd).mono' fun σ H Q ⟨ρ, env, S, rp, re, p⟩ => Post.ok p rp (.int i)
theorem ge_glob {x : Str} {u : Value} {v : V} {pos : Pos} (hg : Gl X x) (hm : X.mg x = some u) (r : RelV v u) (hd : (x == ("__debug__" : Str)) = false := by decide) : GE X (.Name x pos) (mC (.glb x)) :=
  (pe_glob hg hm r hd).mono' fun σ H Q ⟨ρ, env, S, rp, re, p⟩ => Post.ok p rp (.glb hm r)
theorem ge_ty {x : Str} {n : String} {pos : Pos} (hg : Gl X x) (hm : X.mg x = none) (hv : bootBuiltins x = some (.type n)) (hn : x ≠ "__name__" := by decide) (hd : (x == ("__debug__" : Str)) = false := by decide) : GE X (.Name x pos) (mC (.ty n)) :=
  (pe_bltn (v := .ty n) hg hm hv rfl hn hd).mono' fun σ H Q ⟨ρ, env, S, rp, re, p⟩ => Post.ok p rp (.ty n)
/-- two readings, then a third by their values -/
theorem rd2 {K : PySem.W.Frag} {mg : Str → Option Value} {f : D → D → Sto → R D} {σ : St} {H : Hp} {Q : VK} (h : rdE K mg (mOp f ma mb) σ H Q) : tOp (rdO K mg f) (rdE K mg ma) (rdE K mg mb) σ H Q := by
  obtain ⟨ρ, env, S, rp, re, p⟩ := h
  refine ⟨ρ, env, S, rp, re, Post.bindB p fun x H1 ρ1 S1 d e1 rp1 rv1 p1 => ?_⟩
  refine ⟨ρ1, env, S1, rp1, re.ext e1, Post.bindB p1 fun y H2 ρ2 S2 d2 e2 rp2 rv2 p2 => ?_⟩
  exact ⟨ρ2, S2, d, d2, rp2, rv1.ext e2, rv2, p2⟩
theorem ge_op {op : Operator} {f : D → D → Sto → R D} (ho : GO X (binaryOp op) f) (ha : GE X a ma) (hb : GE X b mb) : GE X (.BinOp a op b pos) (mOp f ma mb) := (pe_op ho ha hb).mono' fun _ _ _ h => rd2 h
theorem ge_cmp {op : CmpOp} {f : D → D → Sto → R D} (ho : GO X (compareOp op) f) (ha : GE X a ma) (hb : GE X b mb) (hm : behindInMarks op b = false := by first | exact nomark _ | rfl) : GE X (.Compare a [op] [b] pos) (mOp f ma mb) := (pe_cmpR ho ha hb hm).mono' fun _ _ _ h => rd2 h
theorem ge_ix {f : D → D → Sto → R D} (ho : GIx X f) (ha : GE X a ma) (hb : GE X b mb) (hs : PlainIx b := by intro _ _; rfl) : GE X (.Subscript a b pos) (mOp f ma mb) := (pe_ix ho ha hb hs).mono' fun _ _ _ h => rd2 h
theorem ge_un {op : UnaryOp} {f : D → Sto → R D} (ho : GU X (unaryOp op) f) (ha : GE X a ma) : GE X (.UnaryOp op a pos) (mUn f ma) :=
  (pe_un ho ha).mono' fun σ H Q ⟨ρ, env, S, rp, re, p⟩ => ⟨ρ, env, S, rp, re, Post.bindB p fun x H1 ρ1 S1 d e1 rp1 rv1 p1 => ⟨ρ1, S1, d, rp1, rv1, p1⟩⟩
/-- tests -/
theorem rdT1 {K : PySem.W.Frag} {mg : Str → Option Value} {σ : St} {H : Hp} {Q : Bool → Hp → Prop} (h : rdT K mg (mT ma) σ H Q) : tTest (rdE K mg ma) σ H Q := by
  obtain ⟨ρ, env, S, rp, re, p⟩ := h
  refine ⟨ρ, env, S, rp, re, Post.bindB p fun x H1 ρ1 S1 d e1 rp1 rv1 p1 => ?_⟩
  cases rv1 with
  | bl b => exact ⟨b, rfl, Post.ok p1 rp1 rfl⟩
  | _ => exact p1.elim
theorem gt_cmp {op : CmpOp} {f : D → D → Sto → R D} (ho : GO X (compareOp op) f) (ha : GE X a ma) (hb : GE X b mb) (hm : behindInMarks op b = false := by first | exact nomark _ | rfl) : GT X (.Compare a [op] [b] pos) (mT (mOp f ma mb)) :=
  (pt_cmpR ho ha hb hm).mono' fun σ H Q h => by
    have q : tTest (rdE X.K X.mg (mOp f ma mb)) σ H Q := rdT1 h
    exact rd2 q
theorem gt_val (h : GE X e ma) (he : ∀ whole, isTrue e X.env whole = (do let v ← whole; standAt e.pos; holding [v] (truthy v)) := by intro _; rfl) : GT X e (mT ma) :=
  (pt_val h he).mono' fun σ H Q h => by
    obtain ⟨ρ, env, S, rp, re, p⟩ := h
    refine ⟨ρ, env, S, rp, re, Post.bindB p fun x H1 ρ1 S1 d e1 rp1 rv1 p1 => ?_⟩
    cases rv1 with
    | bl b => exact ⟨b, rfl, Post.ok p1 rp1 rfl⟩
    | _ => exact p1.elim
theorem gw_and1 (ha : GT X a ta) : GW X (.BoolOp .And [a] pos) ta := pw_and1 ha
theorem gw_or1 (ha : GT X a ta) : GW X (.BoolOp .Or [a] pos) ta := pw_or1 ha
theorem gw_and (ha : GT X a ta) (hb : GW X (.BoolOp .And (b :: rest) pos) tb) : GW X (.BoolOp .And (a :: b :: rest) pos) (mAnd ta tb) :=
  (pw_and ha hb).mono' fun σ H Q ⟨ρ, env, S, rp, re, p⟩ => ⟨ρ, env, S, rp, re, Post.bindB p fun k H1 ρ1 S1 k' e1 rp1 rv1 p1 => by
    cases rv1
    cases k with
    | true => exact ⟨ρ1, env, S1, rp1, re.ext e1, p1⟩
    | false => exact Post.ok (a := false) p1 rp1 rfl⟩
theorem gw_or (ha : GT X a ta) (hb : GW X (.BoolOp .Or (b :: rest) pos) tb) : GW X (.BoolOp .Or (a :: b :: rest) pos) (mOr ta tb) :=
  (pw_or ha hb).mono' fun σ H Q ⟨ρ, env, S, rp, re, p⟩ => ⟨ρ, env, S, rp, re, Post.bindB p fun k H1 ρ1 S1 k' e1 rp1 rv1 p1 => by
    cases rv1
    cases k with
    | false => exact ⟨ρ1, env, S1, rp1, re.ext e1, p1⟩
    | true => exact Post.ok (a := true) p1 rp1 rfl⟩
theorem gt_w (h : GW X e ta) : GT X e ta := h.pt
theorem gt_not (ha : GT X a ta) : GT X (.UnaryOp .Not a pos) (mNot ta) :=
  (pt_not ha).mono' fun σ H Q ⟨ρ, env, S, rp, re, p⟩ => ⟨ρ, env, S, rp, re, Post.bindB p fun k H1 ρ1 S1 k' e1 rp1 rv1 p1 => by
    cases rv1
    exact Post.ok (a := !k) p1 rp1 rfl⟩
theorem ge_if (hc : GT X c ta) (ha : GE X a ma) (hb : GE X b mb) : GE X (.IfExp c a b pos) (mIfE ta ma mb) :=
  (pe_ifExp hc ha hb).mono' fun σ H Q ⟨ρ, env, S, rp, re, p⟩ => ⟨ρ, env, S, rp, re, Post.bindB p fun k H1 ρ1 S1 k' e1 rp1 rv1 p1 => by
    cases rv1
    cases k with
    | true => exact ⟨ρ1, env, S1, rp1, re.ext e1, p1⟩
    | false => exact ⟨ρ1, env, S1, rp1, re.ext e1, p1⟩⟩
theorem ge_one {op : BoolOp} (h : GE X a ma) : GE X (.BoolOp op [a] pos) ma := pe_one h
theorem ge_and (ha : GE X a ma) (hb : GE X (.BoolOp .And (b :: rest) pos) mb) : GE X (.BoolOp .And (a :: b :: rest) pos) (mAndV ma mb) :=
  (pe_and ha hb).mono' fun σ H Q ⟨ρ, env, S, rp, re, p⟩ => ⟨ρ, env, S, rp, re, Post.bindB p fun v H1 ρ1 S1 d e1 rp1 rv1 p1 => by
    obtain ⟨c, rfl, p2⟩ := post_B rv1 p1
    refine ⟨c, rfl, ?_⟩
    cases c with
    | true => exact ⟨ρ1, env, S1, rp1, re.ext e1, p2⟩
    | false => exact Post.ok (a := D.bl false) p2 rp1 (RV.bl false)⟩
theorem ge_or (ha : GE X a ma) (hb : GE X (.BoolOp .Or (b :: rest) pos) mb) : GE X (.BoolOp .Or (a :: b :: rest) pos) (mOrV ma mb) :=
  (pe_or ha hb).mono' fun σ H Q ⟨ρ, env, S, rp, re, p⟩ => ⟨ρ, env, S, rp, re, Post.bindB p fun v H1 ρ1 S1 d e1 rp1 rv1 p1 => by
    obtain ⟨c, rfl, p2⟩ := post_B rv1 p1
    refine ⟨c, rfl, ?_⟩
    cases c with
    | false => exact ⟨ρ1, env, S1, rp1, re.ext e1, p2⟩
    | true => exact Post.ok (a := D.bl true) p2 rp1 (RV.bl true)⟩
theorem ge_not (ha : GE X a ma) : GE X (.UnaryOp .Not a pos) (mNotV ma) :=
  (pe_not ha).mono' fun σ H Q ⟨ρ, env, S, rp, re, p⟩ => ⟨ρ, env, S, rp, re, Post.bindB p fun v H1 ρ1 S1 d e1 rp1 rv1 p1 => by
    obtain ⟨c, rfl, p2⟩ := post_B rv1 p1
    exact ⟨c, rfl, Post.ok (a := D.bl (!c)) p2 rp1 (RV.bl (!c))⟩⟩
theorem rdChain {K : PySem.W.Frag} {mg : Str → Option Value} {f g : D → D → Sto → R D} {σ : St} {H : Hp} {Q : VK} (h : rdE K mg (mChain f g ma mb mc) σ H Q) : tChain (rdO K mg f) (rdO K mg g) (rdE K mg ma) (rdE K mg mb) (rdE K mg mc) σ H Q := by
  obtain ⟨ρ, env, S, rp, re, p⟩ := h
  refine ⟨ρ, env, S, rp, re, Post.bindB p fun x H1 ρ1 S1 d e1 rp1 rv1 p1 => ?_⟩
  refine ⟨ρ1, env, S1, rp1, re.ext e1, Post.bindB p1 fun y H2 ρ2 S2 d2 e2 rp2 rv2 p2 => ?_⟩
  refine ⟨ρ2, S2, d, d2, rp2, rv1.ext e2, rv2, Post.bindB p2 fun z H3 ρ3 S3 d3 e3 rp3 rv3 p3 => ?_⟩
  obtain ⟨c, rfl, p4⟩ := post_B rv3 p3
  refine ⟨c, rfl, ?_⟩
  cases c with
  | false => exact Post.ok (a := D.bl false) p4 rp3 (RV.bl false)
  | true =>
    refine ⟨ρ3, env, S3, rp3, ((re.ext e1).ext e2).ext e3, Post.bindB p4 fun w H4 ρ4 S4 d4 e4 rp4 rv4 p5 => ?_⟩
    exact ⟨ρ4, S4, d2, d4, rp4, (rv2.ext e3).ext e4, rv4, p5⟩
theorem ge_chain {op op' : CmpOp} {f g : D → D → Sto → R D} (ho : GO X (compareOp op) f) (ho' : GO X (compareOp op') g) (ha : GE X a ma) (hb : GE X b mb) (hc : GE X c mc)
    (hm : lastMarks [op, op'] [b, c] = false := by with_unfolding_all rfl) : GE X (.Compare a [op, op'] [b, c] pos) (mChain f g ma mb mc) := (pe_chain ho ho' ha hb hc hm).mono' fun _ _ _ h => rdChain h
theorem gt_chain {op op' : CmpOp} {f g : D → D → Sto → R D} (ho : GO X (compareOp op) f) (ho' : GO X (compareOp op') g) (ha : GE X a ma) (hb : GE X b mb) (hc : GE X c mc)
    (hm : lastMarks [op, op'] [b, c] = false := by with_unfolding_all rfl) : GT X (.Compare a [op, op'] [b, c] pos) (mT (mChain f g ma mb mc)) :=
  (pt_chain ho ho' ha hb hc hm).mono' fun σ H Q h => by
    have q : tTest (rdE X.K X.mg (mChain f g ma mb mc)) σ H Q := rdT1 h
    exact rdChain q
theorem ga_nil : GA X [] mNil := pa_nil.mono' fun σ H Q ⟨ρ, env, S, rp, re, p⟩ => Post.ok p rp .nil
theorem ga_cons (ha : GE X e ma) (hr : GA X es as) (hs : starEach (e :: es) X.env = (false, eval e X.env) :: starEach es X.env := by rfl) : GA X (e :: es) (mCons ma as) :=
  (pa_cons ha hr hs).mono' fun σ H Q ⟨ρ, env, S, rp, re, p⟩ => ⟨ρ, env, S, rp, re, Post.bindB p fun v H1 ρ1 S1 d e1 rp1 rv1 p1 =>
    ⟨ρ1, env, S1, rp1, re.ext e1, Post.bindB p1 fun vs H2 ρ2 S2 ds e2 rp2 rv2 p2 => Post.ok p2 rp2 (.cons (rv1.ext e2) rv2)⟩⟩
theorem ge_tup {k : Nat} (h : GA X es as) : GE X (.Tuple es k pos) (mTup as) :=
  (pe_tup h).mono' fun σ H Q ⟨ρ, env, S, rp, re, p⟩ => ⟨ρ, env, S, rp, re, Post.bindB p fun vs H1 ρ1 S1 ds e1 rp1 rv1 p1 => by
    split at p1
    · next hz => exact ⟨by rw [← rv1.length]; exact hz, fun q hq => p1 ρ1 _ _ (Ext.new hq) (rp1.new hq) (.tup (TAt.new rp1 hq) (rv1.ext (Ext.new hq)))⟩
    · exact p1.elim⟩
theorem ge_lst (h : GA X es as) : GE X (.List es pos) (mLst as) :=
  (pe_lst h).mono' fun σ H Q ⟨ρ, env, S, rp, re, p⟩ => ⟨ρ, env, S, rp, re, Post.bindB p fun vs H1 ρ1 S1 ds e1 rp1 rv1 p1 => by
    split at p1
    · next hz => exact ⟨by rw [← rv1.length]; exact hz, fun q hq => p1 ρ1 _ _ (Ext.new hq) (rp1.new hq) (.fzl (FAt.new rp1 hq) (rv1.ext (Ext.new hq)))⟩
    · exact p1.elim⟩
theorem post_newL {K : PySem.W.Frag} {mg : Str → Option Value} {ρ : Mp} {H : Hp} {S : Sto} {ds : List D} {vs : List V} {Q : VK} (rp : Rep K mg ρ H S) (rv : RVs K mg ρ H ds vs) (p : Post K mg ρ H (newL ds S) (RV K mg) Q) : ∀ q, H q = none → Q (.ref q) (upd H q (.lst vs)) :=
  fun q hq => p (ρ.add q) _ _ (Ext.add hq) (rp.add hq (.lst rv)) (.loc (add_get rp))
theorem ge_lstM (h : GA X es as) : GE X (.List es pos) (mLstM as) :=
  (pe_lst h).mono' fun σ H Q ⟨ρ, env, S, rp, re, p⟩ => ⟨ρ, env, S, rp, re, Post.bindB p fun vs H1 ρ1 S1 ds e1 rp1 rv1 p1 => by
    split at p1
    · next hz => exact ⟨by rw [← rv1.length]; exact hz, post_newL rp1 rv1 p1⟩
    · exact p1.elim⟩
/-- calls of built-ins -/
theorem rdC1 {K : PySem.W.Frag} {mg : Str → Option Value} {f : List D → Sto → R D} {σ : St} {H : Hp} {Q : VK} (h : rdE K mg (mCall f as) σ H Q) : tCB (rdC K mg f) (rdA K mg as) σ H Q := by
  obtain ⟨ρ, env, S, rp, re, p⟩ := h
  exact ⟨ρ, env, S, rp, re, Post.bindB p fun xs H1 ρ1 S1 ds e1 rp1 rv1 p1 => ⟨ρ1, S1, ds, rp1, rv1, p1⟩⟩
theorem ge_callB {x : Str} {id : String} {p : Pos} {f : List D → Sto → R D} (hc : GC X (.builtin id) f) (hg : Gl X x) (hm : X.mg x = none) (hv : bootBuiltins x = some (.builtin id)) (ha : GA X (e :: es) as) (hn : x ≠ "__name__" := by decide) (hdb : (x == ("__debug__" : Str)) = false := by decide)
    (he : starEach (e :: es) X.env = (false, eval e X.env) :: starEach es X.env := by rfl) (hpl : (backTo pos (starEach es X.env)).any (·.1) = false := by rfl) : GE X (.Call (.Name x p) (e :: es) [] pos) (mCall f as) :=
  (pe_callB hc hg hm hv ha hn hdb he hpl).mono' fun _ _ _ h => rdC1 h
theorem ge_callTy {x : Str} {T : String} {p : Pos} {f : List D → Sto → R D} (hc : GC X (.type T) f) (hg : Gl X x) (hm : X.mg x = none) (hv : bootBuiltins x = some (.type T)) (ha : GA X (e :: es) as) (hn : x ≠ "__name__" := by decide) (hdb : (x == ("__debug__" : Str)) = false := by decide)
    (he : starEach (e :: es) X.env = (false, eval e X.env) :: starEach es X.env := by rfl) (hpl : (backTo pos (starEach es X.env)).any (·.1) = false := by rfl) : GE X (.Call (.Name x p) (e :: es) [] pos) (mCall f as) :=
  (pe_callTy hc hg hm hv ha hn hdb he hpl).mono' fun _ _ _ h => rdC1 h
end
end ML
namespace ML
open PySem L2
/-! ### what a value is, by the store -/
def lstOf (S : Sto) : D → Option (List D)
  | .fzl ds => some ds
  | .kl ds => some ds
  | .loc n => match S[n]? with
    | some (.lst ds) => some ds
    | _ => none
  | _ => none
def catOf (S : Sto) : D → Option (List D)
  | .fzl ds => some ds
  | .loc n => match S[n]? with
    | some (.lst ds) => some ds
    | _ => none
  | _ => none
section
variable {K : PySem.W.Frag} {mg : Str → Option Value} {ρ : Mp} {H : Hp} {S : Sto} {d : D} {v : V} {ds : List D}
theorem Rep.obj {n : Nat} {a : Addr} {o : O} (rp : Rep K mg ρ H S) (ha : ρ.r[n]? = some a) (ho : S[n]? = some o) : ∃ u, H a = some u ∧ RO K mg ρ H o u := rp.at_ n a o ha ho
theorem cat_at (rp : Rep K mg ρ H S) (r : RV K mg ρ H d v) (h : catOf S d = some ds) : ∃ a xs, v = .ref a ∧ H a = some (.lst xs) ∧ RVs K mg ρ H ds xs := by
  cases r with
  | fzl t r => cases h; exact ⟨_, _, rfl, t.1, r⟩
  | loc ha =>
    next n a =>
    unfold catOf at h
    cases q : S[n]? with
    | none => simp [q] at h
    | some o =>
      cases o with
      | lst es =>
        simp [q] at h
        subst h
        obtain ⟨u, hu, ro⟩ := rp.obj ha q
        cases ro with
        | lst r => exact ⟨_, _, rfl, hu, r⟩
      | dK _ => simp [q] at h
      | dT _ => simp [q] at h
  | _ => cases h
theorem lst_at (rp : Rep K mg ρ H S) (r : RV K mg ρ H d v) (h : lstOf S d = some ds) : ∃ a xs, v = .ref a ∧ SqL K H a xs ∧ RVs K mg ρ H ds xs := by
  cases d with
  | kl es =>
    cases h
    cases r with
    | kl t r => exact ⟨_, _, rfl, t.sq, r⟩
  | fzl es =>
    obtain ⟨a, xs, e, h1, h2⟩ := cat_at (ds := ds) rp r h
    exact ⟨a, xs, e, .of h1, h2⟩
  | loc n =>
    obtain ⟨a, xs, e, h1, h2⟩ := cat_at (ds := ds) rp r h
    exact ⟨a, xs, e, .of h1, h2⟩
  | _ => cases h
theorem tup_at (r : RV K mg ρ H (.tup ds) v) : ∃ a xs, v = .ref a ∧ TAt K ρ H a xs ∧ RVs K mg ρ H ds xs := by
  cases r with
  | tup t r => exact ⟨_, _, rfl, t, r⟩
/-- None, bools, ints, texts, lists, tuples as data -/
def opAll {α β : Type} (f : α → Option β) : List α → Option (List β)
  | [] => some []
  | x :: xs => match f x, opAll f xs with
    | some y, some ys => some (y :: ys)
    | _, _ => none
def toPD (S : Sto) : Nat → D → Option PyData
  | _, .non => some .none
  | _, .bl b => some (.bool b)
  | _, .int i => some (.int i)
  | _, .str x => some (.str x)
  | k + 1, .tup ds => (opAll (toPD S k) ds).map .tuple
  | k + 1, .fzl ds => (opAll (toPD S k) ds).map .list
  | k + 1, .kl ds => (opAll (toPD S k) ds).map .list
  | k + 1, .loc n => match S[n]? with
    | some (.lst ds) => (opAll (toPD S k) ds).map .list
    | _ => none
  | _, _ => none
theorem dpAll_of {f : D → Option PyData} (hf : ∀ d v p, RV K mg ρ H d v → f d = some p → Dp K H v p) : ∀ {ds : List D} {vs : List V} {ps : List PyData}, RVs K mg ρ H ds vs → opAll f ds = some ps → DpAll K H vs ps
  | _, _, _, .nil, h => by cases h; exact .nil
  | d :: ds, _, ps, .cons r t, h => by
    unfold opAll at h
    cases h1 : f d with
    | none => simp [h1] at h
    | some y =>
      cases h2 : opAll f ds with
      | none => simp [h1, h2] at h
      | some ys =>
        simp [h1, h2] at h
        subst h
        exact .cons (hf _ _ _ r h1) (dpAll_of hf t h2)
theorem dp_of (rp : Rep K mg ρ H S) : ∀ (k : Nat) (d : D) (v : V) (p : PyData), RV K mg ρ H d v → toPD S k d = some p → Dp K H v p := by
  intro k
  induction k with
  | zero =>
    intro d v p r h
    cases r with
    | non => simp [toPD] at h; subst h; exact .non
    | bl b => simp [toPD] at h; subst h; exact .bl b
    | int i => simp [toPD] at h; subst h; exact .int i
    | str x => simp [toPD] at h; subst h; exact .str x
    | _ => simp [toPD] at h
  | succ k ih =>
    intro d v p r h
    cases r with
    | non => simp [toPD] at h; subst h; exact .non
    | bl b => simp [toPD] at h; subst h; exact .bl b
    | int i => simp [toPD] at h; subst h; exact .int i
    | str x => simp [toPD] at h; subst h; exact .str x
    | ty n => simp [toPD] at h
    | glb _ _ => simp [toPD] at h
    | tup t r =>
      simp [toPD] at h
      obtain ⟨ps, h1, rfl⟩ := h
      exact .tup t.sq (dpAll_of ih r h1)
    | fzl t r =>
      simp [toPD] at h
      obtain ⟨ps, h1, rfl⟩ := h
      exact .lst (.of t.1) (dpAll_of ih r h1)
    | kl t r =>
      simp [toPD] at h
      obtain ⟨ps, h1, rfl⟩ := h
      exact .lst t.sq (dpAll_of ih r h1)
    | loc ha =>
      next n a =>
      cases q : S[n]? with
      | none => simp [toPD, q] at h
      | some o =>
        cases o with
        | lst es =>
          simp [toPD, q] at h
          obtain ⟨ps, h1, rfl⟩ := h
          obtain ⟨u, hu, ro⟩ := rp.obj ha q
          cases ro with
          | lst r => exact .lst (.of hu) (dpAll_of ih r h1)
        | dK _ => simp [toPD, q] at h
        | dT _ => simp [toPD, q] at h
end
/-! ### operators -/
def pdS (S : Sto) (d : D) : Option PyData := match toPD S 8 d with
  | some p => if SeqAt.shaped p = true then some p else none
  | none => none
theorem pd_at {K : PySem.W.Frag} {mg : Str → Option Value} {ρ : Mp} {H : Hp} {S : Sto} {d : D} {v : V} {p : PyData} (rp : Rep K mg ρ H S) (r : RV K mg ρ H d v) (h : pdS S d = some p) : Dp K H v p ∧ SeqAt.shaped p = true := by
  unfold pdS at h
  cases q : toPD S 8 d with
  | none => simp [q] at h
  | some z =>
    simp [q] at h
    obtain ⟨h1, rfl⟩ := h
    exact ⟨dp_of rp 8 d v z r q, h1⟩
def intsOf : List D → Option (List Int)
  | [] => some []
  | .int i :: ds => (intsOf ds).map (i :: ·)
  | _ :: _ => none
def blsOf : List D → Option (List Bool)
  | [] => some []
  | .bl i :: ds => (blsOf ds).map (i :: ·)
  | _ :: _ => none
theorem ints_at {K : PySem.W.Frag} {mg : Str → Option Value} {ρ : Mp} {H : Hp} : ∀ {ds : List D} {vs : List V} {ns : List Int}, RVs K mg ρ H ds vs → intsOf ds = some ns → vs = ns.map V.int
  | _, _, _, .nil, h => by cases h; rfl
  | _, _, ns, .cons (d := d) r t, h => by
    cases r with
    | int i =>
      simp [intsOf] at h
      obtain ⟨ms, h1, rfl⟩ := h
      rw [ints_at t h1]
      rfl
    | _ => simp [intsOf] at h
theorem bls_at {K : PySem.W.Frag} {mg : Str → Option Value} {ρ : Mp} {H : Hp} : ∀ {ds : List D} {vs : List V} {ns : List Bool}, RVs K mg ρ H ds vs → blsOf ds = some ns → vs = ns.map V.bl
  | _, _, _, .nil, h => by cases h; rfl
  | _, _, ns, .cons (d := d) r t, h => by
    cases r with
    | bl i =>
      simp [blsOf] at h
      obtain ⟨ms, h1, rfl⟩ := h
      rw [bls_at t h1]
      rfl
    | _ => simp [blsOf] at h
def m_add : D → D → Sto → R D
  | .int i, .int j, S => .ok (.int (i + j)) S
  | .str a, .str b, S => if a.length + b.length ≤ sizeLine then .ok (.str (a ++ b)) S else .bad
  | .tup a, .tup b, S => if a.length + b.length ≤ sizeLine then .ok (.tup (a ++ b)) S else .bad
  | x, y, S => match catOf S x, catOf S y with
    | some a, some b => if a.length + b.length ≤ sizeLine then .ok (.fzl (a ++ b)) S else .bad
    | _, _ => .bad
def m_sub : D → D → Sto → R D
  | .int i, .int j, S => .ok (.int (i - j)) S
  | _, _, _ => .bad
instance (i j : Int) : Decidable (CMul i j) := by unfold CMul; infer_instance
def m_mul : D → D → Sto → R D
  | .int i, .int j, S => if CMul i j then .ok (.int (i * j)) S else .bad
  | .tup a, .int k, S => if a ≠ [] ∧ 2 ≤ k ∧ k ≤ 1000 ∧ a.length ≤ 1000 then .ok (.tup (List.replicate k.toNat a).flatten) S else .bad
  | x, .int k, S => match catOf S x with
    | some a => if -(2 ^ 63) ≤ k ∧ k < 2 ^ 63 ∧ a.length * k.toNat ≤ sizeLine then .ok (.fzl (List.replicate k.toNat a).flatten) S else .bad
    | none => .bad
  | _, _, _ => .bad
def m_fdiv : D → D → Sto → R D
  | .int i, .int j, S => if j ≠ 0 ∧ j.natAbs < 1073741824 then .ok (.int (i.fdiv j)) S else .bad
  | _, _, _ => .bad
def m_mod : D → D → Sto → R D
  | .int i, .int j, S => if j ≠ 0 then .ok (.int (i.fmod j)) S else .bad
  | _, _, _ => .bad
def m_pow : D → D → Sto → R D
  | .int i, .int j, S => if 0 ≤ j ∧ j ≤ 1000000 ∧ i.natAbs < 2 ^ 64 then .ok (.int (i ^ j.toNat)) S else .bad
  | _, _, _ => .bad
def m_eq (x y : D) (S : Sto) : R D := match pdS S x, pdS S y with
  | some d, some e => .ok (.bl (PyData.eqv d e)) S
  | _, _ => .bad
def m_ne (x y : D) (S : Sto) : R D := match pdS S x, pdS S y with
  | some d, some e => .ok (.bl (!PyData.eqv d e)) S
  | _, _ => .bad
def m_cmpI (f : Int → Int → Bool) : D → D → Sto → R D
  | .int i, .int j, S => .ok (.bl (f i j)) S
  | _, _, _ => .bad
abbrev m_gt : D → D → Sto → R D := m_cmpI fun i j => decide (j < i)
abbrev m_ge : D → D → Sto → R D := m_cmpI fun i j => decide (j ≤ i)
abbrev m_le : D → D → Sto → R D := m_cmpI fun i j => decide (i ≤ j)
def m_lt : D → D → Sto → R D
  | .int i, .int j, S => .ok (.bl (decide (i < j))) S
  | .tup a, .tup b, S => match intsOf a, intsOf b with
    | some ns, some ms => .ok (.bl (HT.lexLt ns ms)) S
    | _, _ => .bad
  | _, _, _ => .bad
def pds (S : Sto) (d : D) : Option (Bool × List PyData) := match pdS S d with
    | some (.list ds) => some (false, ds)
    | some (.tuple ds) => some (true, ds)
    | _ => none
def m_in (x y : D) (S : Sto) : R D := match pdS S x, pds S y with
  | some d, some (_, ds) => .ok (.bl (ds.any fun z => PyData.eqv z d)) S
  | _, _ => .bad
def m_notin (x y : D) (S : Sto) : R D := match pdS S x, pds S y with
  | some d, some (_, ds) => .ok (.bl (!ds.any fun z => PyData.eqv z d)) S
  | _, _ => .bad
def isNon : D → Bool
  | .non => true
  | _ => false
def m_is : D → D → Sto → R D
  | .bl a, .bl b, S => .ok (.bl (decide (a = b))) S
  | .glb _, .non, _ => .bad
  | x, .non, S => .ok (.bl (isNon x)) S
  | _, _, _ => .bad
def m_isnot : D → D → Sto → R D
  | .bl a, .bl b, S => .ok (.bl (!decide (a = b))) S
  | .glb _, .non, _ => .bad
  | x, .non, S => .ok (.bl (!isNon x)) S
  | _, _, _ => .bad
def m_ix : D → D → Sto → R D
  | .tup a, .int i, S => match atI a i with
    | some d => .ok d S
    | none => .bad
  | .str z, .int i, S => if z.length ≤ sizeLine then (match atI z.cps.toList i with
    | some c => .ok (.str ⟨#[c]⟩) S
    | none => .bad) else .bad
  | x, .int i, S => match lstOf S x with
    | some a => (match atI a i with
      | some d => .ok d S
      | none => .bad)
    | none => .bad
  | _, _, _ => .bad
section
variable {X : Cx}
theorem RVs.atI {K : PySem.W.Frag} {mg : Str → Option Value} {ρ : Mp} {H : Hp} {ds : List D} {vs : List V} {d : D} {i : Int} (r : RVs K mg ρ H ds vs) (h : L2.atI ds i = some d) : ∃ v, L2.atI vs i = some v ∧ RV K mg ρ H d v := by
  unfold L2.atI at h ⊢
  rw [← r.length]
  cases q : ixN ds.length i with
  | none => simp [q] at h
  | some j => simp only [q, Option.bind_some] at h ⊢; exact r.getD h
theorem go_addL : GO X (binaryOp .Add) (fun x y S => match catOf S x, catOf S y with
    | some a, some b => if a.length + b.length ≤ sizeLine then .ok (.fzl (a ++ b)) S else .bad
    | _, _ => .bad) := op_cat.mono' fun x y H Q ⟨ρ, S, dx, dy, rp, rx, ry, p⟩ => by
  cases q1 : catOf S dx with
  | none => simp [q1] at p; exact p.elim
  | some a =>
    cases q2 : catOf S dy with
    | none => simp [q1, q2] at p; exact p.elim
    | some b =>
      simp only [q1, q2] at p
      split at p
      · next hz =>
        obtain ⟨l, xs, rfl, h1, r1⟩ := cat_at rp rx q1
        obtain ⟨m, ys, rfl, h2, r2⟩ := cat_at rp ry q2
        exact ⟨l, m, xs, ys, rfl, rfl, h1, h2, by rw [← r1.length, ← r2.length]; exact hz, fun z hz => p ρ _ _ (Ext.new hz) (rp.new hz) (.fzl (FAt.new rp hz) ((r1.append r2).ext (Ext.new hz)))⟩
      · exact p.elim
theorem go_add : GO X (binaryOp .Add) m_add := fun pins s σ H x y v u Q I rx ry ⟨ρ, S, dx, dy, rp, hx, hy, p⟩ => by
  unfold m_add at p
  split at p
  · cases hx; cases hy
    exact op_add pins s σ H _ _ v u Q I rx ry ⟨_, _, rfl, rfl, p.ok rp (.int _)⟩
  · cases hx; cases hy
    split at p
    · next hz => exact op_add_str pins s σ H _ _ v u Q I rx ry ⟨_, _, rfl, rfl, hz, p.ok rp (.str _)⟩
    · exact p.elim
  · obtain ⟨l, xs, rfl, h1, r1⟩ := tup_at hx
    obtain ⟨m, ys, rfl, h2, r2⟩ := tup_at hy
    split at p
    · next hz =>
      refine op_catA pins s σ H _ _ v u Q I rx ry ⟨l, m, xs, ys, rfl, rfl, h1.sq, h2.sq, by rw [← r1.length, ← r2.length]; exact hz, fun e => ?_, fun _ e => ?_, fun _ _ z hz => p ρ _ _ (Ext.new hz) (rp.new hz) (.tup (TAt.new rp hz) ((r1.append r2).ext (Ext.new hz)))⟩
      · subst e
        cases r1
        exact p.ok rp (.tup h2 r2)
      · subst e
        cases r2
        rw [List.append_nil] at p
        exact p.ok rp (.tup h1 r1)
    · exact p.elim
  · exact go_addL pins s σ H x y v u Q I rx ry ⟨ρ, S, _, _, rp, hx, hy, p⟩
theorem go_sub : GO X (binaryOp .Sub) m_sub := fun pins s σ H x y v u Q I rx ry ⟨ρ, S, dx, dy, rp, hx, hy, p⟩ => by
  unfold m_sub at p
  split at p
  · cases hx; cases hy
    exact op_sub pins s σ H _ _ v u Q I rx ry ⟨_, _, rfl, rfl, p.ok rp (.int _)⟩
  · exact p.elim
theorem go_mul : GO X (binaryOp .Mult) m_mul := fun pins s σ H x y v u Q I rx ry ⟨ρ, S, dx, dy, rp, hx, hy, p⟩ => by
  unfold m_mul at p
  split at p
  · cases hx; cases hy
    split at p
    · next hz => exact op_mul pins s σ H _ _ v u Q I rx ry ⟨_, _, rfl, rfl, hz, p.ok rp (.int _)⟩
    · exact p.elim
  · cases hy
    obtain ⟨l, xs, rfl, h1, r1⟩ := tup_at hx
    split at p
    · next hz =>
      obtain ⟨z1, z2, z3, z4⟩ := hz
      refine op_repT pins s σ H _ _ v u Q I rx ry ⟨l, _, xs, rfl, rfl, h1.sq, fun e => z1 (by subst e; cases r1; rfl), z2, z3, by rw [← r1.length]; exact z4, fun z hz => p ρ _ _ (Ext.new hz) (rp.new hz) (.tup (TAt.new rp hz) ((r1.rep _).ext (Ext.new hz)))⟩
    · exact p.elim
  · cases hy
    split at p
    · next a q =>
      obtain ⟨l, xs, rfl, h1, r1⟩ := cat_at rp hx q
      split at p
      · next hz =>
        obtain ⟨z1, z2, z3⟩ := hz
        refine op_rep pins s σ H _ _ v u Q I rx ry ⟨l, _, xs, rfl, rfl, h1, z1, z2, by rw [← r1.length]; exact z3, fun z hz => p ρ _ _ (Ext.new hz) (rp.new hz) (.fzl (FAt.new rp hz) ((r1.rep _).ext (Ext.new hz)))⟩
      · exact p.elim
    · exact p.elim
  · exact p.elim
theorem go_fdiv : GO X (binaryOp .FloorDiv) m_fdiv := fun pins s σ H x y v u Q I rx ry ⟨ρ, S, dx, dy, rp, hx, hy, p⟩ => by
  unfold m_fdiv at p
  split at p
  · cases hx; cases hy
    split at p
    · next hz => exact op_fdivN pins s σ H _ _ v u Q I rx ry ⟨_, _, rfl, rfl, hz, p.ok rp (.int _)⟩
    · exact p.elim
  · exact p.elim
theorem go_mod : GO X (binaryOp .Mod) m_mod := fun pins s σ H x y v u Q I rx ry ⟨ρ, S, dx, dy, rp, hx, hy, p⟩ => by
  unfold m_mod at p
  split at p
  · cases hx; cases hy
    split at p
    · next hz => exact op_modN pins s σ H _ _ v u Q I rx ry ⟨_, _, rfl, rfl, hz, p.ok rp (.int _)⟩
    · exact p.elim
  · exact p.elim
theorem go_pow : GO X (binaryOp .Pow) m_pow := fun pins s σ H x y v u Q I rx ry ⟨ρ, S, dx, dy, rp, hx, hy, p⟩ => by
  unfold m_pow at p
  split at p
  · cases hx; cases hy
    split at p
    · next hz => exact op_pow pins s σ H _ _ v u Q I rx ry ⟨_, _, rfl, rfl, hz, p.ok rp (.int _)⟩
    · exact p.elim
  · exact p.elim
theorem go_eq (hu : X.A.units + 64 < cLine) : GO X (compareOp .Eq) m_eq := (op_eqD hu).mono' fun x y H Q ⟨ρ, S, dx, dy, rp, rx, ry, p⟩ => by
  unfold m_eq at p
  split at p
  · next d e q1 q2 =>
    obtain ⟨a1, a2⟩ := pd_at rp rx q1
    obtain ⟨b1, b2⟩ := pd_at rp ry q2
    exact ⟨d, e, a1, b1, a2, b2, p.ok rp (.bl _)⟩
  · exact p.elim
theorem go_ne (hu : X.A.units + 64 < cLine) : GO X (compareOp .NotEq) m_ne := (op_neD hu).mono' fun x y H Q ⟨ρ, S, dx, dy, rp, rx, ry, p⟩ => by
  unfold m_ne at p
  split at p
  · next d e q1 q2 =>
    obtain ⟨a1, a2⟩ := pd_at rp rx q1
    obtain ⟨b1, b2⟩ := pd_at rp ry q2
    exact ⟨d, e, a1, b1, a2, b2, p.ok rp (.bl _)⟩
  · exact p.elim
theorem go_cmpI {op : CmpOp} {f : Int → Int → Bool} (ho : OpR X (compareOp op) (rI0 fun i j => .bl (f i j))) : GO X (compareOp op) (m_cmpI f) := fun pins s σ H x y v u Q I rx ry ⟨ρ, S, dx, dy, rp, hx, hy, p⟩ => by
  unfold m_cmpI at p
  split at p
  · cases hx; cases hy
    exact ho pins s σ H _ _ v u Q I rx ry ⟨_, _, rfl, rfl, p.ok rp (.bl _)⟩
  · exact p.elim
theorem go_gt : GO X (compareOp .Gt) m_gt := go_cmpI op_gt
theorem go_ge : GO X (compareOp .GtE) m_ge := go_cmpI op_ge
theorem go_le : GO X (compareOp .LtE) m_le := go_cmpI op_le
theorem go_lt (hu : X.A.units < cLine) : GO X (compareOp .Lt) m_lt := fun pins s σ H x y v u Q I rx ry ⟨ρ, S, dx, dy, rp, hx, hy, p⟩ => by
  unfold m_lt at p
  split at p
  · cases hx; cases hy
    exact op_lt pins s σ H _ _ v u Q I rx ry ⟨_, _, rfl, rfl, p.ok rp (.bl _)⟩
  · split at p
    · next ns ms q1 q2 =>
      obtain ⟨l, xs, rfl, h1, r1⟩ := tup_at hx
      obtain ⟨m, ys, rfl, h2, r2⟩ := tup_at hy
      have e1 := ints_at r1 q1
      have e2 := ints_at r2 q2
      subst e1 e2
      exact op_ltT hu pins s σ H _ _ v u Q I rx ry ⟨l, m, ns, ms, rfl, rfl, h1.sq, h2.sq, p.ok rp (.bl _)⟩
    · exact p.elim
  · exact p.elim
theorem pds_at {K : PySem.W.Frag} {mg : Str → Option Value} {ρ : Mp} {H : Hp} {S : Sto} {d : D} {v : V} {b : Bool} {ps : List PyData} (rp : Rep K mg ρ H S) (r : RV K mg ρ H d v) (h : pds S d = some (b, ps)) :
    (b = false ∧ Dp K H v (.list ps) ∧ SeqAt.shaped (.list ps) = true) ∨ (b = true ∧ Dp K H v (.tuple ps) ∧ SeqAt.shaped (.tuple ps) = true) := by
  unfold pds at h
  split at h
  · next ds q =>
    cases h
    exact .inl ⟨rfl, pd_at rp r q⟩
  · next ds q =>
    cases h
    exact .inr ⟨rfl, pd_at rp r q⟩
  · cases h
theorem go_in (hu : X.A.units + 65 < cLine) : GO X (compareOp .In) m_in := fun pins s σ H x y v u Q I rx ry ⟨ρ, S, dx, dy, rp, hx, hy, p⟩ => by
  unfold m_in at p
  split at p
  · next d k ds q1 q2 =>
    obtain ⟨hd, sd⟩ := pd_at rp hx q1
    have hq := p.ok rp (.bl _)
    rcases pds_at rp hy q2 with ⟨_, he, se⟩ | ⟨_, he, se⟩
    · exact op_inD hu pins s σ H x y v u Q I rx ry ⟨d, ds, hd, he, sd, se, hq⟩
    · obtain ⟨as, r1⟩ := Dp.reads I d x v hd rx
      obtain ⟨bs, r2⟩ := Dp.reads I (.tuple ds) y u he ry
      exact SeqAt.in_tuple_reads r2 r1 (SeqAt.canLay_of_shaped se) (SeqAt.canLay_of_shaped sd) (PyProof.Rows.room_in_shaped sd hu) ⟨.bl _, H, I, rfl, hq⟩
  · exact p.elim
theorem go_notin (hu : X.A.units + 65 < cLine) : GO X (compareOp .NotIn) m_notin := fun pins s σ H x y v u Q I rx ry ⟨ρ, S, dx, dy, rp, hx, hy, p⟩ => by
  unfold m_notin at p
  split at p
  · next d k ds q1 q2 =>
    obtain ⟨hd, sd⟩ := pd_at rp hx q1
    have hq := p.ok rp (.bl _)
    rcases pds_at rp hy q2 with ⟨_, he, se⟩ | ⟨_, he, se⟩
    · exact op_notInD hu pins s σ H x y v u Q I rx ry ⟨d, ds, hd, he, sd, se, hq⟩
    · obtain ⟨as, r1⟩ := Dp.reads I d x v hd rx
      obtain ⟨bs, r2⟩ := Dp.reads I (.tuple ds) y u he ry
      exact SeqAt.notIn_tuple_reads r2 r1 (SeqAt.canLay_of_shaped se) (SeqAt.canLay_of_shaped sd) (PyProof.Rows.room_in_shaped sd hu) ⟨.bl _, H, I, rfl, hq⟩
  · exact p.elim
theorem isNon_at {K : PySem.W.Frag} {mg : Str → Option Value} {ρ : Mp} {H : Hp} {d : D} {v : V} (r : RV K mg ρ H d v) (hg : ∀ x, d ≠ .glb x) : decide (v = .non) = isNon d := by
  cases r with
  | glb _ _ => exact absurd rfl (hg _)
  | _ => rfl
theorem go_is : GO X (compareOp .Is) m_is := fun pins s σ H x y v u Q I rx ry ⟨ρ, S, dx, dy, rp, hx, hy, p⟩ => by
  unfold m_is at p
  split at p
  · cases hx; cases hy
    exact op_is_bl pins s σ H _ _ v u Q I rx ry ⟨_, _, rfl, rfl, p.ok rp (.bl _)⟩
  · exact p.elim
  · next hg =>
    cases hy
    refine op_isN pins s σ H _ _ v u Q I rx ry ⟨rfl, ?_⟩
    rw [isNon_at hx hg]
    exact p.ok rp (.bl _)
  · exact p.elim
theorem go_isnot : GO X (compareOp .IsNot) m_isnot := fun pins s σ H x y v u Q I rx ry ⟨ρ, S, dx, dy, rp, hx, hy, p⟩ => by
  unfold m_isnot at p
  split at p
  · cases hx; cases hy
    exact op_isnot_bl pins s σ H _ _ v u Q I rx ry ⟨_, _, rfl, rfl, p.ok rp (.bl _)⟩
  · exact p.elim
  · next hg =>
    cases hy
    refine op_notN pins s σ H _ _ v u Q I rx ry ⟨rfl, ?_⟩
    rw [isNon_at hx hg]
    exact p.ok rp (.bl _)
  · exact p.elim
theorem gi_ix : GIx X m_ix := fun value slice pins s σ H x y v u Q I rx ry ⟨ρ, S, dx, dy, rp, hx, hy, p⟩ hs => by
  unfold m_ix at p
  split at p
  · cases hy
    obtain ⟨l, xs, rfl, h1, r1⟩ := tup_at hx
    split at p
    · next d q =>
      obtain ⟨w, hw, rw'⟩ := r1.atI q
      exact ix_tup value slice pins s σ H _ _ v u Q I rx ry ⟨l, xs, _, w, rfl, rfl, h1.sq, hw, p.ok rp rw'⟩ hs
    · exact p.elim
  · cases hx; cases hy
    split at p
    · next hz =>
      split at p
      · next c q => exact ix_str value slice pins s σ H _ _ v u Q I rx ry ⟨_, _, c, rfl, rfl, hz, q, p.ok rp (.str _)⟩ hs
      · exact p.elim
    · exact p.elim
  · cases hy
    split at p
    · next a q1 =>
      obtain ⟨l, xs, rfl, h1, r1⟩ := lst_at rp hx q1
      split at p
      · next d q =>
        obtain ⟨w, hw, rw'⟩ := r1.atI q
        exact ix_list value slice pins s σ H _ _ v u Q I rx ry ⟨l, xs, _, w, rfl, rfl, h1, hw, p.ok rp rw'⟩ hs
      · exact p.elim
    · exact p.elim
  · exact p.elim
def m_neg : D → Sto → R D
  | .int i, S => .ok (.int (-i)) S
  | _, _ => .bad
theorem gu_neg : GU X (unaryOp .USub) m_neg := fun pins s σ H x v Q I rx ⟨ρ, S, dx, rp, hx, p⟩ => by
  unfold m_neg at p
  split at p
  · cases hx
    exact un_neg pins s σ H _ v Q I rx ⟨_, rfl, p.ok rp (.int _)⟩
  · exact p.elim
end
end ML
namespace ML
open PySem L2
/-! ### built-in calls -/
def m_len : List D → Sto → R D
  | [.str z], S => if z.length ≤ sizeLine then .ok (.int z.length) S else .bad
  | [.tup a], S => .ok (.int a.length) S
  | [x], S => match lstOf S x with
    | some a => .ok (.int a.length) S
    | none => .bad
  | _, _ => .bad
def m_abs : List D → Sto → R D
  | [.int i], S => .ok (.int (if i < 0 then -i else i)) S
  | _, _ => .bad
def m_int : List D → Sto → R D
  | [.int i], S => .ok (.int i) S
  | [.bl k], S => .ok (.int (if k = true then 1 else 0)) S
  | _, _ => .bad
/-- str(text) is asked of texts alone -/
def lstMax : List Int → Option Int
  | [] => none
  | n :: ns => some (ns.foldl (fun a b => if a < b then b else a) n)
def lstMin : List Int → Option Int
  | [] => none
  | n :: ns => some (ns.foldl (fun a b => if b < a then b else a) n)
def intsL (S : Sto) (x : D) : Option (List Int) := (lstOf S x).bind intsOf
def m_max : List D → Sto → R D
  | [.int i, .int j], S => .ok (.int (if j > i then j else i)) S
  | [x], S => match (intsL S x).bind lstMax with
    | some m => .ok (.int m) S
    | none => .bad
  | _, _ => .bad
def m_min : List D → Sto → R D
  | [.int i, .int j], S => .ok (.int (if j < i then j else i)) S
  | [x], S => match (intsL S x).bind lstMin with
    | some m => .ok (.int m) S
    | none => .bad
  | _, _ => .bad
def m_sum : List D → Sto → R D
  | [.tup a], S => match intsOf a with
    | some ns => .ok (.int ns.sum) S
    | none => .bad
  | [x], S => match intsL S x with
    | some ns => .ok (.int ns.sum) S
    | none => .bad
  | _, _ => .bad
def m_all : List D → Sto → R D
  | [x], S => match (lstOf S x).bind blsOf with
    | some bs => .ok (.bl (bs.all id)) S
    | none => .bad
  | _, _ => .bad
def m_any : List D → Sto → R D
  | [x], S => match (lstOf S x).bind blsOf with
    | some bs => .ok (.bl (bs.any id)) S
    | none => .bad
  | _, _ => .bad
def seqOf (S : Sto) : D → Option (List D)
  | .tup a => some a
  | x => lstOf S x
def m_list : List D → Sto → R D
  | [x], S => match seqOf S x with
    | some a => .ok (.fzl a) S
    | none => .bad
  | _, _ => .bad
def m_listM : List D → Sto → R D
  | [x], S => match seqOf S x with
    | some a => newL a S
    | none => .bad
  | _, _ => .bad
def m_tuple : List D → Sto → R D
  | [x], S => match seqOf S x with
    | some a => .ok (.tup a) S
    | none => .bad
  | _, _ => .bad
/-- isinstance(x, T), T a built-in class: the class of x -/
def tyLoc : Option O → Option String
  | some (.lst _) => some "list"
  | some (.dK _) => some "dict"
  | some (.dT _) => some "dict"
  | none => none
def tyOfD (S : Sto) : D → Option String
  | .non => some "NoneType"
  | .bl _ => some "bool"
  | .int _ => some "int"
  | .str _ => some "str"
  | .tup _ => some "tuple"
  | .fzl _ => some "list"
  | .kl _ => some "list"
  | .loc n => tyLoc S[n]?
  | _ => none
/-- as kitB answers, for the classes that are asked -/
def isiB (a b : String) : Option Bool :=
  if a = b then some true
  else if a = "bool" ∧ b = "int" then some true
  else if (a = "NoneType" ∨ a = "bool" ∨ a = "int" ∨ a = "str" ∨ a = "tuple" ∨ a = "list" ∨ a = "dict") ∧ (b = "bool" ∨ b = "int" ∨ b = "str" ∨ b = "tuple" ∨ b = "list" ∨ b = "dict") then some false
  else none
def m_isi : List D → Sto → R D
  | [x, .ty n], S => match tyOfD S x with
    | some t => (match isiB t n with
      | some b => .ok (.bl b) S
      | none => .bad)
    | none => .bad
  | _, _ => .bad
section
variable {X : Cx}
section
variable {K : PySem.W.Frag} {mg : Str → Option Value} {ρ : Mp} {H : Hp} {S : Sto}
theorem RVs.one {d : D} {vs : List V} (r : RVs K mg ρ H [d] vs) : ∃ v, vs = [v] ∧ RV K mg ρ H d v := by
  cases r with | cons r t => cases t; exact ⟨_, rfl, r⟩
theorem RVs.two {d e : D} {vs : List V} (r : RVs K mg ρ H [d, e] vs) : ∃ v w, vs = [v, w] ∧ RV K mg ρ H d v ∧ RV K mg ρ H e w := by
  cases r with | cons r t => cases t with | cons r' t => cases t; exact ⟨_, _, rfl, r, r'⟩
theorem ints_of {d : D} {v : V} {ns : List Int} (rp : Rep K mg ρ H S) (r : RV K mg ρ H d v) (h : intsL S d = some ns) : ∃ a, v = .ref a ∧ SqL K H a (ns.map V.int) := by
  unfold intsL at h
  cases q : lstOf S d with
  | none => simp [q] at h
  | some ds =>
    simp only [q, Option.bind_some] at h
    obtain ⟨a, xs, e, h1, r1⟩ := lst_at rp r q
    rw [ints_at r1 h] at h1
    exact ⟨a, e, h1⟩
end
theorem gc_len : GC X (.builtin "len") m_len := fun pins s σ H xs us Q I r ⟨ρ, S, ds, rp, rx, p⟩ => by
  unfold m_len at p
  split at p
  · obtain ⟨v, rfl, r1⟩ := rx.one
    cases r1
    split at p
    · next hz => exact call_len pins s σ H _ us Q I r ⟨_, _, rfl, ⟨hz, rfl⟩, p.ok rp (.int _)⟩
    · exact p.elim
  · obtain ⟨v, rfl, r1⟩ := rx.one
    obtain ⟨a, ys, rfl, h1, r2⟩ := tup_at r1
    exact call_len_seq pins s σ H _ us Q I r ⟨a, ys, rfl, .inr h1.sq, by rw [← r2.length]; exact p.ok rp (.int _)⟩
  · obtain ⟨v, rfl, r1⟩ := rx.one
    split at p
    · next a q =>
      obtain ⟨l, ys, rfl, h1, r2⟩ := lst_at rp r1 q
      exact call_len_seq pins s σ H _ us Q I r ⟨l, ys, rfl, .inl h1, by rw [← r2.length]; exact p.ok rp (.int _)⟩
    · exact p.elim
  · exact p.elim
theorem gc_abs : GC X (.builtin "abs") m_abs := fun pins s σ H xs us Q I r ⟨ρ, S, ds, rp, rx, p⟩ => by
  unfold m_abs at p
  split at p
  · obtain ⟨v, rfl, r1⟩ := rx.one
    cases r1
    exact call_abs pins s σ H _ us Q I r ⟨_, rfl, p.ok rp (.int _)⟩
  · exact p.elim
theorem gc_int : GC X (.type "int") m_int := fun pins s σ H xs us Q I r ⟨ρ, S, ds, rp, rx, p⟩ => by
  unfold m_int at p
  split at p
  · obtain ⟨v, rfl, r1⟩ := rx.one
    cases r1
    exact call_int1 pins s σ H _ us Q I r (.inl ⟨_, rfl, p.ok rp (.int _)⟩)
  · obtain ⟨v, rfl, r1⟩ := rx.one
    cases r1
    exact call_int1 pins s σ H _ us Q I r (.inr ⟨_, rfl, p.ok rp (.int _)⟩)
  · exact p.elim
theorem fold_max : ∀ (ns : List Int) (n : Int), (∀ y ∈ n :: ns, y ≤ ns.foldl (fun a b => if a < b then b else a) n) ∧ ns.foldl (fun a b => if a < b then b else a) n ∈ n :: ns
  | [], n => by simp
  | m :: ns, n => by
    have ih := fold_max ns (if n < m then m else n)
    obtain ⟨h1, h2⟩ := ih
    refine ⟨fun y hy => ?_, ?_⟩
    · have h3 := h1 (if n < m then m else n) (List.mem_cons_self ..)
      simp only [List.foldl_cons]
      rcases List.mem_cons.mp hy with rfl | hy
      · split at h3 <;> rename_i c <;> simp only [c, if_true, if_false] at h3 ⊢ <;> omega
      · rcases List.mem_cons.mp hy with rfl | hy
        · split at h3 <;> rename_i c <;> simp only [c, if_true, if_false] at h3 ⊢ <;> omega
        · exact h1 y (List.mem_cons_of_mem _ hy)
    · simp only [List.foldl_cons]
      rcases List.mem_cons.mp h2 with e | h2
      · rw [e]
        split
        · simp
        · simp
      · exact List.mem_cons_of_mem _ (List.mem_cons_of_mem _ h2)
theorem fold_min : ∀ (ns : List Int) (n : Int), (∀ y ∈ n :: ns, ns.foldl (fun a b => if b < a then b else a) n ≤ y) ∧ ns.foldl (fun a b => if b < a then b else a) n ∈ n :: ns
  | [], n => by simp
  | m :: ns, n => by
    have ih := fold_min ns (if m < n then m else n)
    obtain ⟨h1, h2⟩ := ih
    refine ⟨fun y hy => ?_, ?_⟩
    · have h3 := h1 (if m < n then m else n) (List.mem_cons_self ..)
      simp only [List.foldl_cons]
      rcases List.mem_cons.mp hy with rfl | hy
      · split at h3 <;> rename_i c <;> simp only [c, if_true, if_false] at h3 ⊢ <;> omega
      · rcases List.mem_cons.mp hy with rfl | hy
        · split at h3 <;> rename_i c <;> simp only [c, if_true, if_false] at h3 ⊢ <;> omega
        · exact h1 y (List.mem_cons_of_mem _ hy)
    · simp only [List.foldl_cons]
      rcases List.mem_cons.mp h2 with e | h2
      · rw [e]
        split
        · simp
        · simp
      · exact List.mem_cons_of_mem _ (List.mem_cons_of_mem _ h2)
theorem gc_max (hc : X.calm = true) : GC X (.builtin "max") m_max := fun pins s σ H xs us Q I r ⟨ρ, S, ds, rp, rx, p⟩ => by
  unfold m_max at p
  split at p
  · obtain ⟨v, w, rfl, r1, r2⟩ := rx.two
    cases r1; cases r2
    exact call_max2 hc pins s σ H _ us Q I r ⟨_, _, rfl, p.ok rp (.int _)⟩
  · obtain ⟨v, rfl, r1⟩ := rx.one
    split at p
    · next m q =>
      obtain ⟨ns, q1, q⟩ := Option.bind_eq_some_iff.mp q
      · obtain ⟨a, rfl, h1⟩ := ints_of rp r1 q1
        cases ns with
        | nil => cases q
        | cons n ns =>
          cases q
          obtain ⟨f1, f2⟩ := fold_max ns n
          refine cr_max hc pins s σ H _ us Q I r ⟨a, _, rfl, h1, Nat.succ_pos _, fun m' hm hall => ?_⟩
          have e : m' = ns.foldl (fun a b => if a < b then b else a) n := Int.le_antisymm (f1 m' hm) (hall _ f2)
          rw [e]
          exact p.ok rp (.int _)
    · exact p.elim
  · exact p.elim
theorem gc_min (hc : X.calm = true) : GC X (.builtin "min") m_min := fun pins s σ H xs us Q I r ⟨ρ, S, ds, rp, rx, p⟩ => by
  unfold m_min at p
  split at p
  · obtain ⟨v, w, rfl, r1, r2⟩ := rx.two
    cases r1; cases r2
    exact call_min2 hc pins s σ H _ us Q I r ⟨_, _, rfl, p.ok rp (.int _)⟩
  · obtain ⟨v, rfl, r1⟩ := rx.one
    split at p
    · next m q =>
      obtain ⟨ns, q1, q⟩ := Option.bind_eq_some_iff.mp q
      · obtain ⟨a, rfl, h1⟩ := ints_of rp r1 q1
        cases ns with
        | nil => cases q
        | cons n ns =>
          cases q
          obtain ⟨f1, f2⟩ := fold_min ns n
          refine cr_min hc pins s σ H _ us Q I r ⟨a, _, rfl, h1, Nat.succ_pos _, fun m' hm hall => ?_⟩
          have e : m' = ns.foldl (fun a b => if b < a then b else a) n := Int.le_antisymm (hall _ f2) (f1 m' hm)
          rw [e]
          exact p.ok rp (.int _)
    · exact p.elim
  · exact p.elim
theorem gc_sum (hc : X.calm = true) : GC X (.builtin "sum") m_sum := fun pins s σ H xs us Q I r ⟨ρ, S, ds, rp, rx, p⟩ => by
  unfold m_sum at p
  split at p
  · obtain ⟨v, rfl, r1⟩ := rx.one
    obtain ⟨a, ys, rfl, h1, r2⟩ := tup_at r1
    split at p
    · next ns q =>
      have e := ints_at r2 q
      subst e
      obtain ⟨its, rv, hl, _⟩ := I.tuple h1.sq
      have hi : PyProof.Rows.IntsAre its ns := rv.ints
      obtain ⟨ys, e⟩ := hi.allInts.items
      have hn : PySem.numsOf (PySem.intItems ys).toList = ns := by rw [← e]; exact hi.numsOf
      rw [PySem.nums_intItems] at hn
      rw [Vals.ref1 r]
      obtain ⟨ob, ho, hcl, n, hd⟩ := hl
      refine PySem.W.ktm_sumG (I.ok.hd hc) (xs := ys) ⟨ob, ho, hcl, n, by rw [hd, e]⟩ fun h' tk t' hk => ⟨.int _, H, I.kept hk, ⟨_, rfl⟩, ?_⟩
      rw [PySem.preSum_eq, List.take_of_length_le (by simp), hn]
      exact p.ok rp (.int _)
    · exact p.elim
  · obtain ⟨v, rfl, r1⟩ := rx.one
    split at p
    · next ns q =>
      obtain ⟨a, rfl, h1⟩ := ints_of rp r1 q
      exact cr_sum hc pins s σ H _ us Q I r ⟨a, ns, rfl, h1, p.ok rp (.int _)⟩
    · exact p.elim
  · exact p.elim
theorem gc_all (hc : X.calm = true) : GC X (.builtin "all") m_all := fun pins s σ H xs us Q I r ⟨ρ, S, ds, rp, rx, p⟩ => by
  unfold m_all at p
  split at p
  · obtain ⟨v, rfl, r1⟩ := rx.one
    split at p
    · next bs q =>
      obtain ⟨es, q1, q⟩ := Option.bind_eq_some_iff.mp q
      · obtain ⟨a, ys, rfl, h1, r2⟩ := lst_at rp r1 q1
        rw [bls_at r2 q] at h1
        exact cr_all hc pins s σ H _ us Q I r ⟨a, bs, rfl, h1, p.ok rp (.bl _)⟩
    · exact p.elim
  · exact p.elim
theorem gc_any (hc : X.calm = true) : GC X (.builtin "any") m_any := fun pins s σ H xs us Q I r ⟨ρ, S, ds, rp, rx, p⟩ => by
  unfold m_any at p
  split at p
  · obtain ⟨v, rfl, r1⟩ := rx.one
    split at p
    · next bs q =>
      obtain ⟨es, q1, q⟩ := Option.bind_eq_some_iff.mp q
      · obtain ⟨a, ys, rfl, h1, r2⟩ := lst_at rp r1 q1
        rw [bls_at r2 q] at h1
        exact cr_any hc pins s σ H _ us Q I r ⟨a, bs, rfl, h1, p.ok rp (.bl _)⟩
    · exact p.elim
  · exact p.elim
theorem seq_at {K : PySem.W.Frag} {mg : Str → Option Value} {ρ : Mp} {H : Hp} {S : Sto} {d : D} {v : V} {ds : List D} (rp : Rep K mg ρ H S) (r : RV K mg ρ H d v) (h : seqOf S d = some ds) :
    ∃ a xs, v = .ref a ∧ (SqL K H a xs ∨ (SqT K H a xs ∧ TAt K ρ H a xs)) ∧ RVs K mg ρ H ds xs := by
  unfold seqOf at h
  split at h
  · cases h
    obtain ⟨a, xs, e, h1, r1⟩ := tup_at r
    exact ⟨a, xs, e, .inr ⟨h1.sq, h1⟩, r1⟩
  · obtain ⟨a, xs, e, h1, r1⟩ := lst_at rp r h
    exact ⟨a, xs, e, .inl h1, r1⟩
theorem gc_list : GC X (.type "list") m_list := fun pins s σ H xs us Q I r ⟨ρ, S, ds, rp, rx, p⟩ => by
  unfold m_list at p
  split at p
  · obtain ⟨v, rfl, r1⟩ := rx.one
    split at p
    · next a q =>
      obtain ⟨l, ys, rfl, h1, r2⟩ := seq_at rp r1 q
      exact call_list_of pins s σ H _ us Q I r ⟨l, ys, rfl, h1.imp id (·.1), fun z hz => p ρ _ _ (Ext.new hz) (rp.new hz) (.fzl (FAt.new rp hz) (r2.ext (Ext.new hz)))⟩
    · exact p.elim
  · exact p.elim
theorem gc_listM : GC X (.type "list") m_listM := fun pins s σ H xs us Q I r ⟨ρ, S, ds, rp, rx, p⟩ => by
  unfold m_listM at p
  split at p
  · obtain ⟨v, rfl, r1⟩ := rx.one
    split at p
    · next a q =>
      obtain ⟨l, ys, rfl, h1, r2⟩ := seq_at rp r1 q
      exact call_list_of pins s σ H _ us Q I r ⟨l, ys, rfl, h1.imp id (·.1), post_newL rp r2 p⟩
    · exact p.elim
  · exact p.elim
theorem gc_tuple : GC X (.type "tuple") m_tuple := fun pins s σ H xs us Q I r ⟨ρ, S, ds, rp, rx, p⟩ => by
  unfold m_tuple at p
  split at p
  · obtain ⟨v, rfl, r1⟩ := rx.one
    split at p
    · next a q =>
      obtain ⟨l, ys, rfl, h1, r2⟩ := seq_at rp r1 q
      refine call_tuple_of pins s σ H _ us Q I r ⟨l, ys, rfl, ?_⟩
      rcases h1 with h1 | ⟨h1, h2⟩
      · exact .inl ⟨h1, fun z hz => p ρ _ _ (Ext.new hz) (rp.new hz) (.tup (TAt.new rp hz) (r2.ext (Ext.new hz)))⟩
      · exact .inr ⟨h1, p.ok rp (.tup h2 r2)⟩
    · exact p.elim
  · exact p.elim
end
end ML
namespace ML
open PySem L2
/-! ### isinstance -/
theorem kitB_of {a b : String} {r : Bool} (h : isiB a b = some r) : kitB a b = some r := by
  unfold isiB at h
  split at h
  · next e =>
    cases h
    subst e
    unfold kitB
    rw [if_pos (beq_self_eq_true _)]
  · split at h
    · next e =>
      cases h
      rw [e.1, e.2]
      decide +kernel
    · split at h
      · next n1 n2 e =>
        cases h
        obtain ⟨ha, hb⟩ := e
        rcases ha with ha | ha | ha | ha | ha | ha | ha <;> rcases hb with hb | hb | hb | hb | hb | hb <;> subst ha <;> subst hb <;>
          first | exact absurd rfl n1 | exact absurd ⟨rfl, rfl⟩ n2 | decide +kernel
      · cases h
theorem sqL_ty {K : PySem.W.Frag} {H : Hp} {a : Addr} {xs : List V} (h : SqL K H a xs) : TyX K H (.ref a) (.type "list") := by
  rcases h with (h | ⟨o, h⟩) | ⟨o, its, n, h, hc, _⟩
  · exact .base (.lst h)
  · exact .base (.frz h)
  · exact .kList h hc
theorem sqT_ty {K : PySem.W.Frag} {H : Hp} {a : Addr} {xs : List V} (h : SqT K H a xs) : TyX K H (.ref a) (.type "tuple") := by
  rcases h with (h | ⟨o, h⟩) | ⟨o, its, n, h, hc, _⟩
  · exact .base (.tup h)
  · exact .fTuple h
  · exact .kTuple h hc
section
variable {K : PySem.W.Frag} {mg : Str → Option Value} {ρ : Mp} {H : Hp} {S : Sto}
theorem ty_at {d : D} {v : V} {t : String} (rp : Rep K mg ρ H S) (r : RV K mg ρ H d v) (h : tyOfD S d = some t) : TyX K H v (.type t) := by
  cases r with
  | non => cases h; exact .base .non
  | bl b => cases h; exact .base (.bl b)
  | int i => cases h; exact .base (.int i)
  | str x => cases h; exact .base (.str x)
  | ty n => cases h
  | glb _ _ => cases h
  | tup q _ => cases h; exact sqT_ty q.sq
  | fzl q _ => cases h; exact .base (.lst q.1)
  | kl q _ => cases h; exact sqL_ty q.sq
  | loc ha =>
    next n a =>
    have h' : tyLoc S[n]? = some t := h
    cases q : S[n]? with
    | none => rw [q] at h'; cases h'
    | some o =>
      rw [q] at h'
      obtain ⟨u, hu, ro⟩ := rp.obj ha q
      cases ro <;> cases h'
      · exact .base (.lst hu)
      · exact .base (.dK hu)
      · exact .base (.dT hu)
end
section
variable {X : Cx}
theorem gc_isi : GC X (.builtin "isinstance") m_isi := fun pins s σ H xs us Q I r ⟨ρ, S, ds, rp, rx, p⟩ => by
  unfold m_isi at p
  split at p
  · obtain ⟨v, w, rfl, r1, r2⟩ := rx.two
    cases r2
    split at p
    · next t q1 =>
      split at p
      · next b q2 => exact call_isi pins s σ H _ us Q I r ⟨v, _, _, _, b, rfl, .ty _, ty_at rp r1 q1, kit_ty (kitB_of q2), p.ok rp (.bl _)⟩
      · exact p.elim
    · exact p.elim
  · exact p.elim
/-! ### methods of built-in types -/
def tyD (S : Sto) (T : String) (x : D) : Bool := (T == "list" && (lstOf S x).isSome) || (T == "str" && (tyOfD S x == some "str")) || (T == "dict" && (tyOfD S x == some "dict"))
def mMeth (T : String) (f : D → List D → Sto → R D) (o : EM) (a : AM) : EM := fun env S => (o env S).bind fun x S1 => if tyD S1 T x = true then (a env S1).bind fun ds S2 => f x ds S2 else .bad
theorem tyV_at {K : PySem.W.Frag} {mg : Str → Option Value} {ρ : Mp} {H : Hp} {S : Sto} {T : String} {d : D} {v : V} (rp : Rep K mg ρ H S) (r : RV K mg ρ H d v) (h : tyD S T d = true) : tyV K T v H := by
  unfold tyD at h
  simp only [Bool.or_eq_true, Bool.and_eq_true, beq_iff_eq] at h
  rcases h with (⟨rfl, h⟩ | ⟨rfl, h⟩) | ⟨rfl, h⟩
  · obtain ⟨ds, q⟩ := Option.isSome_iff_exists.mp h
    obtain ⟨a, xs, rfl, h1, _⟩ := lst_at rp r q
    exact .inl ⟨rfl, xs, h1⟩
  · cases r with
    | str x => rfl
    | loc _ =>
      next n a _ =>
      have h' : tyLoc S[n]? = some "str" := h
      cases q : S[n]? with
      | none => rw [q] at h'; cases h'
      | some o => rw [q] at h'; cases o <;> simp [tyLoc] at h'
    | _ => simp [tyOfD] at h
  · cases r with
    | loc ha =>
      next n a =>
      have h' : tyLoc S[n]? = some "dict" := h
      cases q : S[n]? with
      | none => rw [q] at h'; cases h'
      | some o =>
        rw [q] at h'
        obtain ⟨u, hu, ro⟩ := rp.obj ha q
        cases ro with
        | lst _ => simp [tyLoc] at h'
        | dK _ => exact .inr (.inr (.inl ⟨rfl, .inl ⟨_, hu⟩⟩))
        | dT _ => exact .inr (.inr (.inl ⟨rfl, .inr ⟨_, hu⟩⟩))
    | _ => simp [tyOfD] at h
abbrev GM (X : Cx) (id : String) (f : D → List D → Sto → R D) : Prop := MtR X id (rdM X.K X.mg f)
theorem rdBM {as : AM} {mo : EM} {K : PySem.W.Frag} {mg : Str → Option Value} {T : String} {f : D → List D → Sto → R D} {σ : St} {H : Hp} {Q : VK} (h : rdE K mg (mMeth T f mo as) σ H Q) : tBM K T (rdM K mg f) (rdE K mg mo) (rdA K mg as) σ H Q := by
  obtain ⟨ρ, env, S, rp, re, p⟩ := h
  refine ⟨ρ, env, S, rp, re, Post.bindB p fun x H1 ρ1 S1 d e1 rp1 rv1 p1 => ?_⟩
  split at p1
  · next ht => exact ⟨tyV_at rp1 rv1 ht, ρ1, env, S1, rp1, re.ext e1, Post.bindB p1 fun xs H2 ρ2 S2 ds e2 rp2 rv2 p2 => ⟨ρ2, S2, d, ds, rp2, rv1.ext e2, rv2, p2⟩⟩
  · exact p1.elim
theorem ge_bm {T : String} {name : Str} {id : String} {o e : Expr} {es : List Expr} {apos cpos : Pos} {f : D → List D → Sto → R D} {mo : EM} {as : AM} (pa : PySem.PlainAttrs T) (slot : PySem.Slot T name id) (hty : typeOf (.builtin id) = pure (.type "method_descriptor")) (hm : GM X id f) (ho : GE X o mo) (ha : GA X (e :: es) as)
    (hbase : attributeBase o name X.env (eval o X.env) = eval o X.env := by rfl)
    (hfew : ((backTo cpos (starEach (e :: es) X.env)).all (fun x => !x.1) && (backToKw cpos (keywordEach [] X.env)).all (fun x => x.1.isSome)
      && decide ((e :: es).length + ([] : List Keyword).length + (if ([] : List Keyword).isEmpty then 0 else 1) < 30)) = true := by rfl)
    (hline : (apos.endLine == cpos.line) = true := by rfl) (hs : starEach (e :: es) X.env = (false, eval e X.env) :: starEach es X.env := by rfl) (hplain : (backTo cpos (starEach es X.env)).any (·.1) = false := by rfl) : GE X (.Call (.Attribute o name apos) (e :: es) [] cpos) (mMeth T f mo as) :=
  (pe_bm pa slot hty hm ho ha hbase hfew hline hs hplain).mono' fun _ _ _ h => rdBM h
theorem ge_bm0 {T : String} {name : Str} {id : String} {o : Expr} {apos cpos : Pos} {f : D → List D → Sto → R D} {mo : EM} (pa : PySem.PlainAttrs T) (slot : PySem.Slot T name id) (hty : typeOf (.builtin id) = pure (.type "method_descriptor")) (hm : GM X id f) (ho : GE X o mo)
    (hbase : attributeBase o name X.env (eval o X.env) = eval o X.env := by rfl) (hline : (apos.endLine == cpos.line) = true := by rfl) : GE X (.Call (.Attribute o name apos) [] [] cpos) (mMeth T f mo mNil) :=
  (pe_bm0 pa slot hty hm ho hbase hline).mono' fun σ H Q h => by
    obtain ⟨ρ, env, S, rp, re, p⟩ := h
    refine ⟨ρ, env, S, rp, re, Post.bindB p fun x H1 ρ1 S1 d e1 rp1 rv1 p1 => ?_⟩
    split at p1
    · next ht => exact ⟨tyV_at rp1 rv1 ht, ρ1, S1, d, [], rp1, rv1, .nil, p1⟩
    · exact p1.elim
def m_append : D → List D → Sto → R D
  | .loc n, [y], S => match S[n]? with
    | some (.lst ds) => if ds.length < sizeLine then .ok .non (S.set n (.lst (ds ++ [y]))) else .bad
    | _ => .bad
  | _, _, _ => .bad
def m_pop : D → List D → Sto → R D
  | .loc n, [], S => match S[n]? with
    | some (.lst ds) => (match ds[ds.length - 1]? with
      | some y => .ok y (S.set n (.lst ds.dropLast))
      | none => .bad)
    | _ => .bad
  | _, _, _ => .bad
def m_count : D → List D → Sto → R D
  | x, [.int k], S => match intsL S x with
    | some ns => .ok (.int (ns.count k : Nat)) S
    | none => .bad
  | _, _, _ => .bad
def m_index : D → List D → Sto → R D
  | x, [y], S => match pds S x, pdS S y with
    | some (false, ds), some d => (match ds.findIdx? (fun z => PyData.eqv z d) with
      | some j => .ok (.int (j : Nat)) S
      | none => .bad)
    | _, _ => .bad
  | _, _, _ => .bad
theorem gm_append : GM X "list.append" m_append := fun pins s σ H x xs v us Q I rx rxs ⟨ρ, S, d, ds, rp, hx, hxs, p⟩ => by
  unfold m_append at p
  split at p
  · obtain ⟨w, rfl, r1⟩ := hxs.one
    split at p
    · next es q =>
      split at p
      · next hz =>
        cases hx with
        | loc ha =>
          obtain ⟨u, hu, ro⟩ := rp.obj ha q
          cases ro with
          | lst r2 => exact mt_append pins s σ H _ _ v us Q I rx rxs ⟨_, _, w, rfl, rfl, hu, by rw [← r2.length]; exact hz, p ρ _ _ (Ext.put rp (List.mem_of_getElem? ha)) (rp.put ha (.lst (r2.append (.cons r1 .nil)))) .non⟩
      · exact p.elim
    · exact p.elim
  · exact p.elim
theorem RVs.dropLast {K : PySem.W.Frag} {mg : Str → Option Value} {ρ : Mp} {H : Hp} {ds : List D} {vs : List V} (r : RVs K mg ρ H ds vs) : RVs K mg ρ H ds.dropLast vs.dropLast := by
  rw [List.dropLast_eq_take, List.dropLast_eq_take, r.length]
  exact r.take _
theorem gm_pop : GM X "list.pop" m_pop := fun pins s σ H x xs v us Q I rx rxs ⟨ρ, S, d, ds, rp, hx, hxs, p⟩ => by
  unfold m_pop at p
  split at p
  · cases hxs
    split at p
    · next es q =>
      split at p
      · next y hy =>
        cases hx with
        | loc ha =>
          obtain ⟨u, hu, ro⟩ := rp.obj ha q
          cases ro with
          | lst r2 =>
            obtain ⟨w, hw, r3⟩ := r2.getD hy
            rw [r2.length] at hw
            exact mt_pop pins s σ H _ _ v us Q I rx rxs ⟨_, _, w, rfl, rfl, hu, hw, p ρ _ _ (Ext.put rp (List.mem_of_getElem? ha)) (rp.put ha (.lst r2.dropLast)) (r3.ext (Ext.put rp (List.mem_of_getElem? ha)))⟩
      · exact p.elim
    · exact p.elim
  · exact p.elim
theorem gm_count : GM X "list.count" m_count := fun pins s σ H x xs v us Q I rx rxs ⟨ρ, S, d, ds, rp, hx, hxs, p⟩ => by
  unfold m_count at p
  split at p
  · obtain ⟨w, rfl, r1⟩ := hxs.one
    cases r1
    split at p
    · next ns q =>
      obtain ⟨a, rfl, h1⟩ := ints_of rp hx q
      exact mt_lcount pins s σ H _ _ v us Q I rx rxs ⟨a, ns, _, rfl, rfl, h1, p.ok rp (.int _)⟩
    · exact p.elim
  · exact p.elim
theorem gm_index (hu : X.A.units + 65 < cLine) : GM X "list.index" m_index := fun pins s σ H x xs v us Q I rx rxs ⟨ρ, S, d, ds, rp, hx, hxs, p⟩ => by
  unfold m_index at p
  split at p
  · obtain ⟨w, rfl, r1⟩ := hxs.one
    split at p
    · next ps d' q1 q2 =>
      split at p
      · next j hj =>
        obtain ⟨hj1, hj2, hj3⟩ := List.findIdx?_eq_some_iff_getElem.mp hj
        rcases pds_at rp hx q1 with ⟨_, he, se⟩ | ⟨c, _⟩
        · obtain ⟨hd, sd⟩ := pd_at rp r1 q2
          have hx' : ∃ a, x = .ref a := by cases he; exact ⟨_, rfl⟩
          obtain ⟨a, rfl⟩ := hx'
          exact mt_indexD hu pins s σ H _ _ v us Q I rx rxs ⟨a, w, d', ps, j, ps[j], rfl, rfl, he, hd, se, sd, List.getElem?_eq_getElem hj1, hj2, fun m z hm hz => by
            obtain ⟨hm1, rfl⟩ := List.getElem?_eq_some_iff.mp hz
            exact Bool.eq_false_iff.mpr (by simpa using hj3 m hm), p.ok rp (.int _)⟩
        · cases c
      · exact p.elim
    · exact p.elim
  · exact p.elim
end
end ML
namespace ML
open PySem L2
/-! ### statements -/
inductive Fl where
  | nx (e : Env) | rt (d : D) | bk (e : Env) | ct (e : Env)
abbrev SM := Env → Sto → R Fl
def PostS (K : PySem.W.Frag) (mg : Str → Option Value) (ρ : Mp) (H : Hp) (r : R Fl) (D : Ends) : Prop :=
  match r with
  | .ok (.nx e) S' => ∀ ρ' H' σ', Ext ρ H ρ' H' → Rep K mg ρ' H' S' → REnv K mg ρ' H' e σ' → D.nx σ' H'
  | .ok (.bk e) S' => ∀ ρ' H' σ', Ext ρ H ρ' H' → Rep K mg ρ' H' S' → REnv K mg ρ' H' e σ' → D.bk σ' H'
  | .ok (.ct e) S' => ∀ ρ' H' σ', Ext ρ H ρ' H' → Rep K mg ρ' H' S' → REnv K mg ρ' H' e σ' → D.ct σ' H'
  | .ok (.rt d) S' => ∀ ρ' H' v, Ext ρ H ρ' H' → Rep K mg ρ' H' S' → RV K mg ρ' H' d v → D.rt v H'
  | .bad => False
def rdS (K : PySem.W.Frag) (mg : Str → Option Value) (m : SM) : TS := fun D σ H => ∃ ρ env S, Rep K mg ρ H S ∧ REnv K mg ρ H env σ ∧ PostS K mg ρ H (m env S) D
section
variable {K : PySem.W.Frag} {mg : Str → Option Value} {ρ ρ' : Mp} {H H' : Hp}
theorem PostS.ext {r : R Fl} {D : Ends} (e : Ext ρ H ρ' H') (p : PostS K mg ρ H r D) : PostS K mg ρ' H' r D := by
  cases r with
  | bad => exact p
  | ok f S => cases f with
    | nx env => exact fun ρ1 H1 σ1 e1 => p ρ1 H1 σ1 (e.trans e1)
    | bk env => exact fun ρ1 H1 σ1 e1 => p ρ1 H1 σ1 (e.trans e1)
    | ct env => exact fun ρ1 H1 σ1 e1 => p ρ1 H1 σ1 (e.trans e1)
    | rt d => exact fun ρ1 H1 σ1 e1 => p ρ1 H1 σ1 (e.trans e1)
theorem PostS.bindB {α β : Type} {r : R α} {k : α → Sto → R Fl} {rel : Mp → Hp → α → β → Prop} {D : Ends} {Q' : β → Hp → Prop} (p : PostS K mg ρ H (r.bind k) D)
    (h : ∀ b H1 ρ1 S1 a, Ext ρ H ρ1 H1 → Rep K mg ρ1 H1 S1 → rel ρ1 H1 a b → PostS K mg ρ1 H1 (k a S1) D → Q' b H1) : Post K mg ρ H r rel Q' := by
  cases r with
  | bad => exact p.elim
  | ok a S => exact fun ρ1 H1 b e rp rl => h b H1 ρ1 S a e rp rl (PostS.ext e p)
theorem PostS.nx {env : Env} {S : Sto} {D : Ends} {σ : St} (p : PostS K mg ρ H (.ok (.nx env) S) D) (rp : Rep K mg ρ H S) (re : REnv K mg ρ H env σ) : D.nx σ H := p ρ H σ (Ext.refl ρ H) rp re
theorem PostS.rt {d : D} {S : Sto} {D : Ends} {v : V} (p : PostS K mg ρ H (.ok (.rt d) S) D) (rp : Rep K mg ρ H S) (re : RV K mg ρ H d v) : D.rt v H := p ρ H v (Ext.refl ρ H) rp re
end
/-- a target: what comes of the names -/
abbrev TgM := D → Env → Sto → R Env
def relE (K : PySem.W.Frag) (mg : Str → Option Value) (ρ : Mp) (H : Hp) (env : Env) (σ : St) : Prop := REnv K mg ρ H env σ
def rdG (K : PySem.W.Frag) (mg : Str → Option Value) (g : TgM) : TG := fun v σ H Q => ∃ ρ env S d, Rep K mg ρ H S ∧ REnv K mg ρ H env σ ∧ RV K mg ρ H d v ∧ Post K mg ρ H (g d env S) (relE K mg) Q
abbrev TgsM := List D → Env → Sto → R Env
def rdGs (K : PySem.W.Frag) (mg : Str → Option Value) (g : TgsM) : TGs := fun vs σ H Q => ∃ ρ env S ds, Rep K mg ρ H S ∧ REnv K mg ρ H env σ ∧ RVs K mg ρ H ds vs ∧ Post K mg ρ H (g ds env S) (relE K mg) Q
theorem _root_.L2.PS.mono' {X : Cx} {e : Stmt} {t t' : TS} (h : PS X e t) (m : ∀ D σ H, t' D σ H → t D σ H) : PS X e t' := ⟨fun pins s σ H D I q => h.run pins s σ H D I (m D σ H q)⟩
theorem _root_.L2.PSs.mono' {X : Cx} {e : List Stmt} {t t' : TS} (h : PSs X e t) (m : ∀ D σ H, t' D σ H → t D σ H) : PSs X e t' := ⟨fun pins s σ H D I q => h.run pins s σ H D I (m D σ H q)⟩
theorem _root_.L2.PG.mono' {X : Cx} {e : Expr} {t t' : TG} (h : PG X e t) (m : ∀ v σ H Q, t' v σ H Q → t v σ H Q) : PG X e t' := ⟨fun pins s σ H v u Q I r q => h.run pins s σ H v u Q I r (m v σ H Q q)⟩
theorem _root_.L2.PGs.mono' {X : Cx} {e : List Expr} {t t' : TGs} (h : PGs X e t) (m : ∀ v σ H Q, t' v σ H Q → t v σ H Q) : PGs X e t' := ⟨fun pins s σ H v u Q I r q => h.run pins s σ H v u Q I r (m v σ H Q q)⟩
abbrev GS (X : Cx) (st : Stmt) (m : SM) : Prop := PS X st (rdS X.K X.mg m)
abbrev GSs (X : Cx) (st : List Stmt) (m : SM) : Prop := PSs X st (rdS X.K X.mg m)
abbrev GG (X : Cx) (tg : Expr) (g : TgM) : Prop := PG X tg (rdG X.K X.mg g)
abbrev GGs (X : Cx) (tg : List Expr) (g : TgsM) : Prop := PGs X tg (rdGs X.K X.mg g)
def sNx : SM := fun env S => .ok (.nx env) S
def sBk : SM := fun env S => .ok (.bk env) S
def sCt : SM := fun env S => .ok (.ct env) S
def sBad : SM := fun _ _ => .bad
def sSeq (a b : SM) : SM := fun env S => (a env S).bind fun f S1 => match f with
  | .nx e => b e S1
  | f => .ok f S1
def sExpr (e : EM) : SM := fun env S => (e env S).bind fun _ S1 => .ok (.nx env) S1
def sRet (e : EM) : SM := fun env S => (e env S).bind fun d S1 => .ok (.rt d) S1
def sRetN : SM := fun _ S => .ok (.rt .non) S
def sIf (c : TM) (a b : SM) : SM := fun env S => (c env S).bind fun k S1 => if k = true then a env S1 else b env S1
def sAsg (e : EM) (g : TgM) : SM := fun env S => (e env S).bind fun d S1 => (g d env S1).bind fun env1 S2 => .ok (.nx env1) S2
def gN (i : Nat) : TgM := fun d env S => .ok (env.set i (some d)) S
def gsN : TgsM
  | [], env, S => .ok env S
  | _, _, _ => .bad
def gsC (g : TgM) (r : TgsM) : TgsM
  | d :: ds, env, S => (g d env S).bind fun env1 S1 => r ds env1 S1
  | _, _, _ => .bad
def gT (n : Nat) (g : TgsM) : TgM
  | .tup ds, env, S => if ds.length = n then g ds env S else .bad
  | _, _, _ => .bad
/-- names side by side, what they get side by side -/
def setAll : List Nat → List D → Env → Env
  | i :: is, d :: ds, env => setAll is ds (env.set i (some d))
  | _, _, env => env
def sPar (is : List Nat) (a : AM) : SM := fun env S => (a env S).bind fun ds S1 => if ds.length = is.length then .ok (.nx (setAll is ds env)) S1 else .bad
/-- o[i] = e, by what the store does -/
abbrev SetM := D → D → D → Sto → R Unit
def rdSet (K : PySem.W.Frag) (mg : Str → Option Value) (f : SetM) : TSet := fun o i v H Q => ∃ ρ S d j e, Rep K mg ρ H S ∧ RV K mg ρ H d o ∧ RV K mg ρ H j i ∧ RV K mg ρ H e v ∧ Post K mg ρ H (f d j e S) (fun _ _ _ (_ : Unit) => True) (fun _ H' => Q H')
abbrev GSet (X : Cx) (f : SetM) : Prop := PSet X (rdSet X.K X.mg f)
def gSubM (o i : EM) (f : SetM) : TgM := fun d env S => (o env S).bind fun x S1 => (i env S1).bind fun j S2 => (f x j d S2).bind fun _ S3 => .ok env S3
def m_setL : SetM
  | .loc n, .int k, v, S => match S[n]? with
    | some (.lst ds) => (match ixN ds.length k with
      | some j => .ok () (S.set n (.lst (ds.set j v)))
      | none => .bad)
    | _ => .bad
  | _, _, _, _ => .bad
/-- x op= e -/
def sAug (i : Nat) (e : EM) (f : D → D → Sto → R D) : SM := fun env S => match env[i]? with
  | some (some x) => (e env S).bind fun y S1 => (f x y S1).bind fun z S2 => .ok (.nx (env.set i (some z))) S2
  | _ => .bad
section
variable {X : Cx} {st : Stmt} {rest : List Stmt} {m m1 m2 : SM} {e : Expr} {es : List Expr} {me : EM} {as : AM} {pos : Pos} {tc : TM}
theorem gss_nil : GSs X [] sNx := pss_nil.mono' fun D σ H ⟨ρ, env, S, rp, re, p⟩ => p.nx rp re
theorem gss_cons (h1 : GS X st m1) (h2 : GSs X rest m2) : GSs X (st :: rest) (sSeq m1 m2) := (pss_cons h1 h2).mono' fun D σ H ⟨ρ, env, S, rp, re, p⟩ => by
  refine ⟨ρ, env, S, rp, re, ?_⟩
  unfold sSeq at p
  cases q : m1 env S with
  | bad => rw [q] at p; exact p
  | ok f S1 =>
    rw [q] at p
    cases f with
    | nx e => exact fun ρ1 H1 σ1 e1 rp1 re1 => ⟨ρ1, e, S1, rp1, re1, PostS.ext e1 p⟩
    | bk e => exact p
    | ct e => exact p
    | rt d => exact p
theorem gss_one (h1 : GS X st m1) : GSs X [st] m1 := pss_one h1
theorem gs_pass : GS X (.Pass pos) sNx := ps_pass.mono' fun D σ H ⟨ρ, env, S, rp, re, p⟩ => p.nx rp re
theorem gs_break : GS X (.Break pos) sBk := ps_break.mono' fun D σ H ⟨ρ, env, S, rp, re, p⟩ => p ρ H σ (Ext.refl ρ H) rp re
theorem gs_continue : GS X (.Continue pos) sCt := ps_continue.mono' fun D σ H ⟨ρ, env, S, rp, re, p⟩ => p ρ H σ (Ext.refl ρ H) rp re
theorem gs_never : GS X st sBad := ps_never.mono' fun D σ H ⟨ρ, env, S, rp, re, p⟩ => p
theorem gss_never {sts : List Stmt} : GSs X sts sBad := pss_never.mono' fun D σ H ⟨ρ, env, S, rp, re, p⟩ => p
theorem gs_expr (he : GE X e me) (hs : swapsWith e none pos.line X.env = pure false := by rfl) : GS X (.Expr e pos) (sExpr me) := (ps_expr he hs).mono' fun D σ H ⟨ρ, env, S, rp, re, p⟩ =>
  ⟨ρ, env, S, rp, re, PostS.bindB p fun v H1 ρ1 S1 d e1 rp1 rv1 p1 => p1.nx rp1 (re.ext e1)⟩
theorem gs_ret (he : GE X e me) : GS X (.Return (some e) pos) (sRet me) := (ps_ret he).mono' fun D σ H ⟨ρ, env, S, rp, re, p⟩ =>
  ⟨ρ, env, S, rp, re, PostS.bindB p fun v H1 ρ1 S1 d e1 rp1 rv1 p1 => p1.rt rp1 rv1⟩
theorem gs_retN : GS X (.Return none pos) sRetN := ps_retN.mono' fun D σ H ⟨ρ, env, S, rp, re, p⟩ => p.rt rp .non
theorem gs_if {c : Expr} {a b : List Stmt} (hc : GT X c tc) (ha : GSs X a m1) (hb : GSs X b m2) : GS X (.If c a b pos) (sIf tc m1 m2) := (ps_if hc ha hb).mono' fun D σ H ⟨ρ, env, S, rp, re, p⟩ =>
  ⟨ρ, env, S, rp, re, PostS.bindB p fun v H1 ρ1 S1 d e1 rp1 rv1 p1 => by
    cases rv1
    cases v with
    | true => exact ⟨ρ1, env, S1, rp1, re.ext e1, p1⟩
    | false => exact ⟨ρ1, env, S1, rp1, re.ext e1, p1⟩⟩
/-- targets -/
theorem gg_name {i : Nat} {x : Str} (hN : X.N.Nodup) (hi : X.N[i]? = some x := by rfl) (hx : Loc X.env.scope x := by first | exact Or.inl rfl | exact Or.inr rfl) (hf : X.fn x = true ∨ X.env.scope.names.lookup x = some .local := by first | exact .inl rfl | exact .inr rfl | assumption) : GG X (.Name x pos) (gN i) :=
  (pg_name hN hi hx hf).mono' fun v σ H Q ⟨ρ, env, S, d, rp, re, rv, p⟩ => Post.ok p rp (re.set rv)
theorem ggs_nil : GGs X [] gsN := pgs_nil.mono' fun vs σ H Q ⟨ρ, env, S, ds, rp, re, rv, p⟩ => by
  cases rv with
  | nil => exact ⟨rfl, Post.ok p rp re⟩
  | cons _ _ => exact p.elim
theorem ggs_cons {tg : Expr} {tgs : List Expr} {g : TgM} {gs : TgsM} (h1 : GG X tg g) (h2 : GGs X tgs gs)
    (hs : (assignEach (tg :: tgs) X.env).map (·.2) = assign tg X.env :: (assignEach tgs X.env).map (·.2) := by rfl) : GGs X (tg :: tgs) (gsC g gs) := (pgs_cons h1 h2 hs).mono' fun vs σ H Q ⟨ρ, env, S, ds, rp, re, rv, p⟩ => by
  cases rv with
  | nil => exact p.elim
  | cons r t => exact ⟨_, _, rfl, ρ, env, S, _, rp, re, r, Post.bindB p fun σ1 H1 ρ1 S1 env1 e1 rp1 re1 p1 => ⟨ρ1, env1, S1, _, rp1, re1, t.ext e1, p1⟩⟩
theorem gg_tup {tgs : List Expr} {k : Nat} {gs : TgsM} {n : Nat} (hc : X.calm = true) (h : GGs X tgs gs)
    (hn : (assignEach tgs X.env).length = n := by rfl) (hst : (assignEach tgs X.env).findIdx? (·.1) = none := by rfl) : GG X (.Tuple tgs k pos) (gT n gs) := (pg_tup hc h hn hst).mono' fun v σ H Q ⟨ρ, env, S, d, rp, re, rv, p⟩ => by
  unfold gT at p
  split at p
  · obtain ⟨a, xs, rfl, h1, r1⟩ := tup_at rv
    split at p
    · next hz => exact ⟨a, xs, rfl, h1.sq, by rw [← r1.length]; exact hz, ρ, env, S, _, rp, re, r1, p⟩
    · exact p.elim
  · exact p.elim
theorem gg_sub {o i : Expr} {mo mi : EM} {f : SetM} (ho : GE X o mo) (hi : GE X i mi) (hs : GSet X f)
    (ha : ∀ v, assign (.Subscript o i pos) X.env v = (do
      let ov ← holding [v] (eval o X.env)
      let iv ← holding [v, ov] (eval i X.env)
      standAt pos
      holding [v, ov, iv] (setItem ov iv v)
      release [v, ov, iv] []) := by intro _; rfl) : GG X (.Subscript o i pos) (gSubM mo mi f) := (pg_sub ho hi hs ha).mono' fun v σ H Q ⟨ρ, env, S, d, rp, re, rv, p⟩ =>
  ⟨ρ, env, S, rp, re, Post.bindB p fun x H1 ρ1 S1 d1 e1 rp1 rv1 p1 => ⟨ρ1, env, S1, rp1, re.ext e1, Post.bindB p1 fun y H2 ρ2 S2 d2 e2 rp2 rv2 p2 =>
    ⟨ρ2, S2, d1, d2, d, rp2, rv1.ext e2, rv2, (rv.ext e1).ext e2, Post.bindB p2 fun _ H3 ρ3 S3 _ e3 rp3 _ p3 => Post.ok p3 rp3 (((re.ext e1).ext e2).ext e3)⟩⟩⟩
theorem gset_list : GSet X m_setL := fun pins s σ H o i v ov iv u Q I ro ri rv ⟨ρ, S, d, j, e, rp, ho, hi, hv, p⟩ => by
  unfold m_setL at p
  split at p
  · cases hi
    split at p
    · next ds q =>
      split at p
      · next j hj =>
        cases ho with
        | loc ha =>
          obtain ⟨w, hw, rr⟩ := rp.obj ha q
          cases rr with
          | lst r2 => exact set_list pins s σ H _ _ _ ov iv u Q I ro ri rv ⟨_, _, _, j, rfl, rfl, hw, by rw [← r2.length]; exact hj, p ρ _ () (Ext.put rp (List.mem_of_getElem? ha)) (rp.put ha (.lst (r2.set hv j))) trivial⟩
      · exact p.elim
    · exact p.elim
  · exact p.elim
/-- assignments -/
theorem gs_asg {tg : Expr} {g : TgM} (he : GE X e me) (hg : GG X tg g) (hs : swapsWithSole [tg] e pos.line X.env = pure false := by rfl) (hw : swappedStores [tg] e X.env = pure none := by rfl)
    (h1 : (assignEach [tg] X.env).map (·.2) = [assign tg X.env] := by rfl) : GS X (.Assign [tg] e pos) (sAsg me g) := (ps_asg he hg hs hw h1).mono' fun D σ H ⟨ρ, env, S, rp, re, p⟩ =>
  ⟨ρ, env, S, rp, re, PostS.bindB p fun v H1 ρ1 S1 d e1 rp1 rv1 p1 => ⟨ρ1, env, S1, d, rp1, re.ext e1, rv1, PostS.bindB p1 fun σ2 H2 ρ2 S2 env2 e2 rp2 re2 p2 => p2.nx rp2 re2⟩⟩
theorem gs_set {i : Nat} {x : Str} {pos' : Pos} (hN : X.N.Nodup) (he : GE X e me) (hi : X.N[i]? = some x := by rfl) (hx : Loc X.env.scope x := by first | exact Or.inl rfl | exact Or.inr rfl) (hs : swapsWith e (some (.Name x pos')) pos.line X.env = pure false := by rfl) (hf : X.fn x = true ∨ X.env.scope.names.lookup x = some .local := by first | exact .inl rfl | exact .inr rfl | assumption) :
    GS X (.Assign [.Name x pos'] e pos) (sAsg me (gN i)) := (ps_set hN hi hx he hs hf).mono' fun D σ H ⟨ρ, env, S, rp, re, p⟩ =>
  ⟨ρ, env, S, rp, re, PostS.bindB p fun v H1 ρ1 S1 d e1 rp1 rv1 p1 => PostS.nx p1 rp1 ((re.ext e1).set rv1)⟩
theorem gs_par {i j : Nat} {x y : Str} {a b : Expr} {px py pt : Pos} {kt k2 : Nat} {pt2 : Pos} (hc : X.calm = true) (hN : X.N.Nodup) (ha : GA X [a, b] as) (hi : X.N[i]? = some x := by rfl) (hj : X.N[j]? = some y := by rfl) (hij : i ≠ j := by decide)
    (hx : X.env.scope.names.lookup x = some .local := by rfl) (hy : X.env.scope.names.lookup y = some .local := by rfl)
    (hw : swappedStores [.Tuple [.Name x px, .Name y py] kt pt] (.Tuple [a, b] k2 pt2) X.env = pure (some [x, y]) := by rfl)
    (hs : swapsWithSole [.Tuple [.Name x px, .Name y py] kt pt] (.Tuple [a, b] k2 pt2) pos.line X.env = pure false := by rfl) :
    GS X (.Assign [.Tuple [.Name x px, .Name y py] kt pt] (.Tuple [a, b] k2 pt2) pos) (sPar [i, j] as) := (ps_par hc hN hi hj hij hx hy ha hw hs).mono' fun D σ H ⟨ρ, env, S, rp, re, p⟩ =>
  ⟨ρ, env, S, rp, re, PostS.bindB p fun vs H1 ρ1 S1 ds e1 rp1 rv1 p1 => by
    split at p1
    · next hl =>
      match ds, hl, rv1, p1 with
      | [d1, d2], _, rv1, p1 =>
        obtain ⟨v, w, rfl, r1, r2⟩ := rv1.two
        exact ⟨v, w, rfl, PostS.nx p1 rp1 (((re.ext e1).set r1).set r2)⟩
    · exact p1.elim⟩
theorem gs_par3 {i j l : Nat} {x y z : Str} {a b c : Expr} {px py pz pt : Pos} {kt k2 : Nat} {pt2 : Pos} (hc : X.calm = true) (hN : X.N.Nodup) (ha : GA X [a, b, c] as) (hi : X.N[i]? = some x := by rfl) (hj : X.N[j]? = some y := by rfl) (hl : X.N[l]? = some z := by rfl) (hij : i ≠ j := by decide) (hil : i ≠ l := by decide) (hjl : j ≠ l := by decide)
    (hx : X.env.scope.names.lookup x = some .local := by rfl) (hy : X.env.scope.names.lookup y = some .local := by rfl) (hz : X.env.scope.names.lookup z = some .local := by rfl)
    (hw : swappedStores [.Tuple [.Name x px, .Name y py, .Name z pz] kt pt] (.Tuple [a, b, c] k2 pt2) X.env = pure (some [x, y, z]) := by rfl)
    (hs : swapsWithSole [.Tuple [.Name x px, .Name y py, .Name z pz] kt pt] (.Tuple [a, b, c] k2 pt2) pos.line X.env = pure false := by rfl) :
    GS X (.Assign [.Tuple [.Name x px, .Name y py, .Name z pz] kt pt] (.Tuple [a, b, c] k2 pt2) pos) (sPar [i, j, l] as) := (ps_par3 hc hN hi hj hl hij hil hjl hx hy hz ha hw hs).mono' fun D σ H ⟨ρ, env, S, rp, re, p⟩ =>
  ⟨ρ, env, S, rp, re, PostS.bindB p fun vs H1 ρ1 S1 ds e1 rp1 rv1 p1 => by
    split at p1
    · next hl =>
      match ds, hl, rv1, p1 with
      | [d1, d2, d3], _, rv1, p1 =>
        cases rv1 with
        | cons r1 t =>
          obtain ⟨v, w, rfl, r2, r3⟩ := t.two
          exact ⟨_, v, w, rfl, PostS.nx p1 rp1 ((((re.ext e1).set r1).set r2).set r3)⟩
    · exact p1.elim⟩
theorem pip_of {op : Operator} {f : D → D → Sto → R D} (h : GO X (inplaceOp op) f) : PIp X op (rdO X.K X.mg f) := fun pins s σ H x y v u Q I rx ry q => h pins s σ H x y v u Q I rx ry q
theorem gs_aug {i : Nat} {x : Str} {op : Operator} {f : D → D → Sto → R D} {pos' : Pos} (hN : X.N.Nodup) (he : GE X e me) (ho : GO X (inplaceOp op) f) (hi : X.N[i]? = some x := by rfl) (hx : Loc X.env.scope x := by first | exact Or.inl rfl | exact Or.inr rfl) (hf : X.fn x = true ∨ X.env.scope.names.lookup x = some .local := by first | exact .inl rfl | exact .inr rfl | assumption) :
    GS X (.AugAssign (.Name x pos') op e pos) (sAug i me f) := (ps_aug hN hi hx he (pip_of ho) hf).mono' fun D σ H ⟨ρ, env, S, rp, re, p⟩ => by
  unfold sAug at p
  split at p
  · next d q =>
    obtain ⟨v, h1, h2⟩ := re.at_ i d q
    exact ⟨v, h1, ρ, env, S, rp, re, PostS.bindB p fun w H1 ρ1 S1 d1 e1 rp1 rv1 p1 => ⟨ρ1, S1, d, d1, rp1, h2.ext e1, rv1, PostS.bindB p1 fun z H2 ρ2 S2 d2 e2 rp2 rv2 p2 => PostS.nx p2 rp2 (((re.ext e1).ext e2).set rv2)⟩⟩
  · exact p.elim
end
end ML
namespace ML
open PySem L2
/-! ### what is walked -/
/-- the items, and what must stay as it is while they are walked -/
structure Itm where
  ds : List D
  gd : Sto → Bool
def ItOk (K : PySem.W.Frag) (mg : Str → Option Value) (ρ : Mp) (H : Hp) (J : It) (it : Itm) : Prop :=
  ∀ ρ1 H1 S1, Ext0 ρ H ρ1 H1 → Rep K mg ρ1 H1 S1 → it.gd S1 = true →
    (J.stop it.ds.length H1) ∧ ∀ i d, it.ds[i]? = some d → J.go i H1 ∧ ∀ x H2, J.yld i H1 x H2 → Ext ρ1 H1 ρ1 H2 ∧ Rep K mg ρ1 H2 S1 ∧ RV K mg ρ1 H2 d x
abbrev IM := Env → Sto → R Itm
def rdI (K : PySem.W.Frag) (mg : Str → Option Value) (m : IM) : TI := fun σ H Q => ∃ ρ env S, Rep K mg ρ H S ∧ REnv K mg ρ H env σ ∧ Post K mg ρ H (m env S) (fun ρ' H' it J => ItOk K mg ρ' H' J it) Q
abbrev GI (X : Cx) (tg iter : Expr) (m : IM) : Prop := PI X tg iter (rdI X.K X.mg m)
theorem _root_.L2.PI.mono' {X : Cx} {tg e : Expr} {t t' : TI} (h : PI X tg e t) (m : ∀ σ H Q, t' σ H Q → t σ H Q) : PI X tg e t' := ⟨fun pins s σ H Q I q => h.run pins s σ H Q I (m σ H Q q)⟩
mutual
def D.beq : D → D → Bool
  | .non, .non => true
  | .bl a, .bl b => a == b
  | .int a, .int b => a == b
  | .str a, .str b => a == b
  | .ty a, .ty b => a == b
  | .glb a, .glb b => a == b
  | .tup a, .tup b => D.beqs a b
  | .fzl a, .fzl b => D.beqs a b
  | .kl a, .kl b => D.beqs a b
  | .loc a, .loc b => a == b
  | _, _ => false
def D.beqs : List D → List D → Bool
  | [], [] => true
  | a :: as, b :: bs => D.beq a b && D.beqs as bs
  | _, _ => false
end
mutual
theorem D.eq_of : ∀ {a b : D}, D.beq a b = true → a = b
  | .non, b, h => by cases b <;> simp [D.beq] at h ⊢
  | .bl a, b, h => by cases b <;> simp [D.beq] at h ⊢; exact h
  | .int a, b, h => by cases b <;> simp [D.beq] at h ⊢; exact h
  | .str a, b, h => by cases b <;> simp [D.beq] at h ⊢; exact h
  | .ty a, b, h => by cases b <;> simp [D.beq] at h ⊢; exact h
  | .glb a, b, h => by cases b <;> simp [D.beq] at h ⊢; exact h
  | .loc a, b, h => by cases b <;> simp [D.beq] at h ⊢; exact h
  | .tup a, b, h => by cases b <;> simp [D.beq] at h ⊢; exact D.eqs_of h
  | .fzl a, b, h => by cases b <;> simp [D.beq] at h ⊢; exact D.eqs_of h
  | .kl a, b, h => by cases b <;> simp [D.beq] at h ⊢; exact D.eqs_of h
theorem D.eqs_of : ∀ {a b : List D}, D.beqs a b = true → a = b
  | [], b, h => by cases b <;> simp [D.beqs] at h ⊢
  | a :: as, b, h => by
    cases b with
    | nil => simp [D.beqs] at h
    | cons b bs =>
      simp [D.beqs] at h
      rw [D.eq_of h.1, D.eqs_of h.2]
end
mutual
theorem D.beq_self : ∀ a : D, D.beq a a = true
  | .non => rfl
  | .bl a => by simp [D.beq]
  | .int a => by simp [D.beq]
  | .str a => by simp [D.beq]
  | .ty a => by simp [D.beq]
  | .glb a => by simp [D.beq]
  | .loc a => by simp [D.beq]
  | .tup a => by simp [D.beq, D.beqs_self a]
  | .fzl a => by simp [D.beq, D.beqs_self a]
  | .kl a => by simp [D.beq, D.beqs_self a]
theorem D.beqs_self : ∀ a : List D, D.beqs a a = true
  | [] => rfl
  | a :: as => by simp [D.beqs, D.beq_self a, D.beqs_self as]
end
def gdOf (n : Nat) (ds : List D) (S : Sto) : Bool := match S[n]? with
  | some (.lst es) => D.beqs es ds
  | _ => false
/-- the items of a list or a tuple -/
def itSeq (d : D) (S : Sto) : R Itm := match d with
  | .fzl ds => .ok ⟨ds, fun _ => true⟩ S
  | .kl ds => .ok ⟨ds, fun _ => true⟩ S
  | .loc n => match S[n]? with
    | some (.lst ds) => .ok ⟨ds, gdOf n ds⟩ S
    | _ => .bad
  | _ => .bad
def itTup (d : D) (S : Sto) : R Itm := match d with
  | .tup ds => .ok ⟨ds, fun _ => true⟩ S
  | _ => .bad
def rangeD (lo : Int) (n : Nat) : List D := (List.range n).map fun i => .int (lo + (i : Nat))
def smallI (i : Int) : Prop := -(2 ^ 62) ≤ i ∧ i < 2 ^ 62
instance (i : Int) : Decidable (smallI i) := by unfold smallI; infer_instance
def itR1 (ds : List D) (S : Sto) : R Itm := match ds with
  | [.int j] => if smallI j then .ok ⟨rangeD 0 j.toNat, fun _ => true⟩ S else .bad
  | _ => .bad
def itR2 (ds : List D) (S : Sto) : R Itm := match ds with
  | [.int i, .int j] => if smallI i ∧ smallI j then .ok ⟨rangeD i (j - i).toNat, fun _ => true⟩ S else .bad
  | _ => .bad
def mIt (f : D → Sto → R Itm) (e : EM) : IM := fun env S => (e env S).bind f
def mItA (f : List D → Sto → R Itm) (a : AM) : IM := fun env S => (a env S).bind f
section
variable {X : Cx} {tg e : Expr} {me : EM} {as : AM} {pos : Pos}
section
variable {K : PySem.W.Frag} {mg : Str → Option Value} {ρ : Mp} {H : Hp} {S : Sto}
theorem itOk_list {a : Addr} {ds : List D} {gd : Sto → Bool} (h : ∀ ρ1 H1 S1, Ext0 ρ H ρ1 H1 → Rep K mg ρ1 H1 S1 → gd S1 = true → ∃ xs, SqL K H1 a xs ∧ RVs K mg ρ1 H1 ds xs) : ItOk K mg ρ H (Itl K a) ⟨ds, gd⟩ := fun ρ1 H1 S1 e rp hg => by
  obtain ⟨xs, h1, r⟩ := h ρ1 H1 S1 e rp hg
  refine ⟨⟨xs, h1, by rw [← r.length]; exact Nat.le_refl _⟩, fun i d hd => ?_⟩
  obtain ⟨v, hv, rv⟩ := r.getD hd
  refine ⟨⟨xs, v, h1, hv⟩, fun x H2 hy => ?_⟩
  obtain ⟨rfl, hall⟩ := hy
  have := hall xs h1
  rw [hv] at this
  cases this
  exact ⟨Ext.refl _ _, rp, rv⟩
theorem itOk_tup {a : Addr} {ds : List D} {gd : Sto → Bool} (h : ∀ ρ1 H1 S1, Ext0 ρ H ρ1 H1 → Rep K mg ρ1 H1 S1 → gd S1 = true → ∃ xs, SqT K H1 a xs ∧ RVs K mg ρ1 H1 ds xs) : ItOk K mg ρ H (Itt K a) ⟨ds, gd⟩ := fun ρ1 H1 S1 e rp hg => by
  obtain ⟨xs, h1, r⟩ := h ρ1 H1 S1 e rp hg
  refine ⟨⟨xs, h1, by rw [← r.length]; exact Nat.le_refl _⟩, fun i d hd => ?_⟩
  obtain ⟨v, hv, rv⟩ := r.getD hd
  refine ⟨⟨xs, v, h1, hv⟩, fun x H2 hy => ?_⟩
  obtain ⟨rfl, hall⟩ := hy
  have := hall xs h1
  rw [hv] at this
  cases this
  exact ⟨Ext.refl _ _, rp, rv⟩
theorem itOk_range {lo : Int} {n : Nat} {gd : Sto → Bool} : ItOk K mg ρ H (Itr lo n) ⟨rangeD lo n, gd⟩ := fun ρ1 H1 S1 e rp hg => by
  have hl : (rangeD lo n).length = n := by unfold rangeD; simp
  refine ⟨by show n ≤ (rangeD lo n).length; rw [hl]; exact Nat.le_refl _, fun i d hd => ?_⟩
  have hi : i < n := by rw [← hl]; exact (List.getElem?_eq_some_iff.mp hd).1
  have e : d = .int (lo + (i : Nat)) := by
    have : (rangeD lo n)[i]? = some (.int (lo + (i : Nat))) := by unfold rangeD; simp [hi]
    rw [hd] at this
    exact Option.some.inj this
  subst e
  refine ⟨hi, fun x H2 hy => ?_⟩
  obtain ⟨rfl, rfl⟩ := hy
  exact ⟨Ext.refl _ _, rp, .int _⟩
theorem lst_it {d : D} {v : V} {it : Itm} {S' : Sto} (rp : Rep K mg ρ H S) (r : RV K mg ρ H d v) (h : itSeq d S = .ok it S') : S' = S ∧ ∃ a, v = .ref a ∧ (∃ xs, SqL K H a xs) ∧ ItOk K mg ρ H (Itl K a) it := by
  unfold itSeq at h
  split at h
  · cases h
    cases r with
    | fzl t r => exact ⟨rfl, _, rfl, ⟨_, .of t.1⟩, itOk_list fun ρ1 H1 S1 e _ _ => ⟨_, .of (t.ext e).1, r.ext0 e⟩⟩
  · cases h
    cases r with
    | kl t r => exact ⟨rfl, _, rfl, ⟨_, t.sq⟩, itOk_list fun ρ1 H1 S1 e _ _ => ⟨_, (t.ext e).sq, r.ext0 e⟩⟩
  · split at h
    · next ds q =>
      cases h
      cases r with
      | loc ha =>
        obtain ⟨u, hu, ro⟩ := rp.obj ha q
        cases ro with
        | lst r =>
          refine ⟨rfl, _, rfl, ⟨_, .of hu⟩, itOk_list fun ρ1 H1 S1 e rp1 hg => ?_⟩
          unfold gdOf at hg
          split at hg
          · next es q1 =>
            have e1 := D.eqs_of hg
            subst e1
            obtain ⟨u, hu, ro⟩ := rp1.obj (pre_get e.pre ha) q1
            cases ro with
            | lst r => exact ⟨_, .of hu, r⟩
          · cases hg
    · cases h
  · cases h
theorem tup_it {d : D} {v : V} {it : Itm} {S' : Sto} (r : RV K mg ρ H d v) (h : itTup d S = .ok it S') : S' = S ∧ ∃ a, v = .ref a ∧ (∃ xs, SqT K H a xs) ∧ ItOk K mg ρ H (Itt K a) it := by
  unfold itTup at h
  split at h
  · cases h
    obtain ⟨a, xs, rfl, h1, r1⟩ := tup_at r
    exact ⟨rfl, a, rfl, ⟨xs, h1.sq⟩, itOk_tup fun ρ1 H1 S1 e _ _ => ⟨xs, (h1.ext e).sq, r1.ext0 e⟩⟩
  · cases h
theorem Post.bindI {α β : Type} {r : R α} {f : α → Sto → R Itm} {rel : Mp → Hp → α → β → Prop} {Q : It → Hp → Prop} {Q' : β → Hp → Prop} (p : Post K mg ρ H (r.bind f) (fun ρ' H' it J => ItOk K mg ρ' H' J it) Q)
    (h : ∀ b H1 ρ1 S1 a it S2, Ext ρ H ρ1 H1 → Rep K mg ρ1 H1 S1 → rel ρ1 H1 a b → f a S1 = .ok it S2 → (S2 = S1 → ∀ J, ItOk K mg ρ1 H1 J it → Q J H1) → Q' b H1) : Post K mg ρ H r rel Q' :=
  Post.bindB p fun b H1 ρ1 S1 a e rp rl p1 => by
    cases q : f a S1 with
    | bad => rw [q] at p1; exact p1.elim
    | ok it S2 =>
      rw [q] at p1
      exact h b H1 ρ1 S1 a it S2 e rp rl q fun e2 J ok => by
        subst e2
        exact Post.ok p1 rp ok
end
theorem gi_list (he : GE X e me) : GI X tg e (mIt itSeq me) := (pi_list he).mono' fun σ H Q ⟨ρ, env, S, rp, re, p⟩ =>
  ⟨ρ, env, S, rp, re, Post.bindI p fun v H1 ρ1 S1 d it S2 e1 rp1 rv1 q k => by
    obtain ⟨e2, a, rfl, h1, ok⟩ := lst_it rp1 rv1 q
    exact ⟨a, rfl, h1, k e2 _ ok⟩⟩
theorem gi_tup (he : GE X e me) : GI X tg e (mIt itTup me) := (pi_tup he).mono' fun σ H Q ⟨ρ, env, S, rp, re, p⟩ =>
  ⟨ρ, env, S, rp, re, Post.bindI p fun v H1 ρ1 S1 d it S2 e1 rp1 rv1 q k => by
    obtain ⟨e2, a, rfl, h1, ok⟩ := tup_it rv1 q
    exact ⟨a, rfl, h1, k e2 _ ok⟩⟩
/-- a list or a tuple -/
def itAny (d : D) (S : Sto) : R Itm := match d with
  | .tup ds => .ok ⟨ds, fun _ => true⟩ S
  | d => itSeq d S
def isTup : D → Bool
  | .tup _ => true
  | _ => false
theorem gi_any (he : GE X e me) : GI X tg e (mIt itAny me) := ⟨fun pins s σ H Q I h => by
  obtain ⟨ρ, env, S, rp, re, p⟩ := h
  cases q : me env S with
  | bad => unfold mIt at p; rw [q] at p; exact p.elim
  | ok d S1 =>
    by_cases hd : isTup d = true
    · refine (gi_tup (tg := tg) he).run pins s σ H Q I ⟨ρ, env, S, rp, re, ?_⟩
      unfold mIt at p ⊢
      rw [q] at p ⊢
      cases d <;> simp [isTup] at hd
      exact p
    · refine (gi_list (tg := tg) he).run pins s σ H Q I ⟨ρ, env, S, rp, re, ?_⟩
      unfold mIt at p ⊢
      rw [q] at p ⊢
      cases d <;> simp [isTup] at hd <;> exact p⟩
theorem gi_range1 {p : Pos} (hg : Gl X "range") (hm : X.mg "range" = none) (ha : GA X [e] as) (hs : starEach [e] X.env = [(false, eval e X.env)] := by rfl) : GI X tg (.Call (.Name "range" p) [e] [] pos) (mItA itR1 as) := (pi_range1 hg hm ha hs).mono' fun σ H Q ⟨ρ, env, S, rp, re, p⟩ =>
  ⟨ρ, env, S, rp, re, Post.bindI p fun vs H1 ρ1 S1 ds it S2 e1 rp1 rv1 q k => by
    unfold itR1 at q
    split at q
    · obtain ⟨v, rfl, r1⟩ := rv1.one
      cases r1
      split at q
      · next hz => cases q; exact ⟨_, rfl, hz.1, hz.2, k rfl _ itOk_range⟩
      · cases q
    · cases q⟩
theorem gi_range2 {p : Pos} {e2 : Expr} (hg : Gl X "range") (hm : X.mg "range" = none) (ha : GA X [e, e2] as) (hs : starEach [e, e2] X.env = [(false, eval e X.env), (false, eval e2 X.env)] := by rfl) (hs2 : starEach [e2] X.env = [(false, eval e2 X.env)] := by rfl) : GI X tg (.Call (.Name "range" p) [e, e2] [] pos) (mItA itR2 as) := (pi_range2 hg hm ha hs hs2).mono' fun σ H Q ⟨ρ, env, S, rp, re, p⟩ =>
  ⟨ρ, env, S, rp, re, Post.bindI p fun vs H1 ρ1 S1 ds it S2 e1 rp1 rv1 q k => by
    unfold itR2 at q
    split at q
    · obtain ⟨v, w, rfl, r1, r2⟩ := rv1.two
      cases r1; cases r2
      split at q
      · next hz => cases q; exact ⟨_, _, rfl, ⟨hz.1.1, hz.1.2, hz.2.1, hz.2.2⟩, k rfl _ itOk_range⟩
      · cases q
    · cases q⟩
end
/-! ### for, while -/
def forD (g : TgM) (body : SM) (gd : Sto → Bool) : List D → SM
  | [], env, S => if gd S = true then .ok (.nx env) S else .bad
  | d :: ds, env, S => if gd S = true then (g d env S).bind fun env1 S1 => (body env1 S1).bind fun f S2 => match f with
    | .nx e => forD g body gd ds e S2
    | .ct e => forD g body gd ds e S2
    | .bk e => .ok (.nx e) S2
    | .rt r => .ok (.rt r) S2
    else .bad
def sFor (m : IM) (g : TgM) (body : SM) : SM := fun env S => (m env S).bind fun it S1 => forD g body it.gd it.ds env S1
def whileD (c : TM) (body : SM) : Nat → SM
  | 0, _, _ => .bad
  | k + 1, env, S => (c env S).bind fun b S1 => if b = true then (body env S1).bind fun f S2 => match f with
    | .nx e => whileD c body k e S2
    | .ct e => whileD c body k e S2
    | .bk e => .ok (.nx e) S2
    | .rt r => .ok (.rt r) S2
    else .ok (.nx env) S1
section
variable {X : Cx} {tg e : Expr} {me : EM} {as : AM} {pos : Pos}
theorem Post.mem {K : PySem.W.Frag} {mg : Str → Option Value} {ρ : Mp} {H : Hp} {α β γ : Type} {r : R α} {f : α → Sto → R γ} {rel : Mp → Hp → α → β → Prop} {D : Ends} {k : γ → Sto → R Fl} {Q' : β → Hp → Prop} (p : PostS K mg ρ H ((r.bind f).bind k) D)
    (h : ∀ b H1 ρ1 S1 a, Ext ρ H ρ1 H1 → Rep K mg ρ1 H1 S1 → rel ρ1 H1 a b → PostS K mg ρ1 H1 ((f a S1).bind k) D → Q' b H1) : Post K mg ρ H r rel Q' := by
  cases r with
  | bad => exact p.elim
  | ok a S => exact fun ρ1 H1 b e rp rl => h b H1 ρ1 S a e rp rl (PostS.ext e p)
/-- behind a turn's body: the next turn -/
theorem turnS {K : PySem.W.Frag} {mg : Str → Option Value} {ρ : Mp} {H : Hp} {r : R Fl} {nxt : SM} {D : Ends} {N : St → Hp → Prop}
    (p : PostS K mg ρ H (r.bind fun f S2 => match f with
      | .nx e => nxt e S2
      | .ct e => nxt e S2
      | .bk e => .ok (.nx e) S2
      | .rt r => .ok (.rt r) S2) D)
    (h : ∀ ρ1 H1 σ1 e S1, Ext ρ H ρ1 H1 → Rep K mg ρ1 H1 S1 → REnv K mg ρ1 H1 e σ1 → PostS K mg ρ1 H1 (nxt e S1) D → N σ1 H1) :
    PostS K mg ρ H r { D with nx := N, ct := N, bk := D.nx } := by
  cases r with
  | bad => exact p
  | ok f S =>
    cases f with
    | nx env => exact fun ρ1 H1 σ1 e1 rp re => h ρ1 H1 σ1 env S e1 rp re (PostS.ext e1 p)
    | ct env => exact fun ρ1 H1 σ1 e1 rp re => h ρ1 H1 σ1 env S e1 rp re (PostS.ext e1 p)
    | bk env => exact p
    | rt d => exact p
theorem gs_for {iter : Expr} {body : List Stmt} {mi : IM} {g : TgM} {mb : SM} (hp : PySem.PassesOwn (model X.prog X.w) X.A X.env X.xe) (hc : X.calm = true) (hi : GI X tg iter mi) (hg : GG X tg g) (hb : GSs X body mb)
    (hs : ∀ x, foldedSetIterable iter X.env x = pure x := by intro _; rfl) : GS X (.For tg iter body [] pos) (sFor mi g mb) := (ps_for hp hc hi hg hb hs).mono' fun D σ H ⟨ρ, env, S, rp, re, p⟩ => by
  refine ⟨ρ, env, S, rp, re, PostS.bindB p fun J H1 ρ1 S1 it e1 rp1 ok p1 => ?_⟩
  refine ⟨fun i m σ' H' => i ≤ it.ds.length ∧ m = it.ds.length - i ∧ ∃ ρ2 env2 S2, Ext ρ1 H1 ρ2 H' ∧ Rep X.K X.mg ρ2 H' S2 ∧ REnv X.K X.mg ρ2 H' env2 σ' ∧ PostS X.K X.mg ρ2 H' (forD g mb it.gd (it.ds.drop i) env2 S2) D,
    ⟨it.ds.length, Nat.zero_le _, rfl, ρ1, env, S1, Ext.refl _ _, rp1, re.ext e1, p1⟩, ?_⟩
  rintro i m σ' H' ⟨hi, hm, ρ2, env2, S2, e2, rp2, re2, p2⟩
  by_cases hl : i < it.ds.length
  · right
    rw [List.drop_eq_getElem_cons hl] at p2
    unfold forD at p2
    split at p2
    · next hgd =>
      obtain ⟨_, hgo⟩ := ok ρ2 H' S2 e2.toExt0 rp2 hgd
      obtain ⟨go, hy⟩ := hgo i _ (List.getElem?_eq_getElem hl)
      refine ⟨go, fun σ3 H3 => i + 1 ≤ it.ds.length ∧ ∃ ρ3 env3 S3, Ext ρ1 H1 ρ3 H3 ∧ Rep X.K X.mg ρ3 H3 S3 ∧ REnv X.K X.mg ρ3 H3 env3 σ3 ∧ PostS X.K X.mg ρ3 H3 (forD g mb it.gd (it.ds.drop (i + 1)) env3 S3) D, ?_, ?_⟩
      · rintro σ3 H3 ⟨hi3, r⟩
        exact ⟨it.ds.length - (i + 1), by omega, hi3, rfl, r⟩
      · intro x H3 hx
        obtain ⟨e3, rp3, rv3⟩ := hy x H3 hx
        refine ⟨ρ2, env2, S2, _, rp3, re2.ext e3, rv3, PostS.bindB (PostS.ext e3 p2) fun σ4 H4 ρ4 S4 env4 e4 rp4 re4 p4 => ?_⟩
        exact ⟨ρ4, env4, S4, rp4, re4, turnS p4 fun ρ5 H5 σ5 env5 S5 e5 rp5 re5 p5 => ⟨hl, ρ5, env5, S5, ((e2.trans e3).trans e4).trans e5, rp5, re5, p5⟩⟩
    · exact p2.elim
  · left
    have hd : i = it.ds.length := by omega
    subst hd
    rw [List.drop_of_length_le (Nat.le_refl _)] at p2
    unfold forD at p2
    split at p2
    · next hgd =>
      obtain ⟨st, _⟩ := ok ρ2 H' S2 e2.toExt0 rp2 hgd
      exact ⟨st, p2.nx rp2 re2⟩
    · exact p2.elim
theorem gs_while {c : Expr} {body : List Stmt} {tc : TM} {mb : SM} (k : Nat) (hp : PySem.PassesOwn (model X.prog X.w) X.A X.env X.xe) (hc : GT X c tc) (hb : GSs X body mb) : GS X (.While c body [] pos) (whileD tc mb k) := (ps_while hp hc hb).mono' fun D σ H ⟨ρ, env, S, rp, re, p⟩ => by
  refine ⟨fun m σ' H' => ∃ ρ2 env2 S2, Rep X.K X.mg ρ2 H' S2 ∧ REnv X.K X.mg ρ2 H' env2 σ' ∧ PostS X.K X.mg ρ2 H' (whileD tc mb m env2 S2) D, ⟨k, ρ, env, S, rp, re, p⟩, ?_⟩
  rintro m σ' H' ⟨ρ2, env2, S2, rp2, re2, p2⟩
  cases m with
  | zero => exact p2.elim
  | succ m =>
    unfold whileD at p2
    refine ⟨ρ2, env2, S2, rp2, re2, PostS.bindB p2 fun b H3 ρ3 S3 b' e3 rp3 rb p3 => ?_⟩
    cases rb
    cases b with
    | false => exact PostS.nx p3 rp3 (re2.ext e3)
    | true =>
      refine ⟨fun σ4 H4 => ∃ ρ4 env4 S4, Rep X.K X.mg ρ4 H4 S4 ∧ REnv X.K X.mg ρ4 H4 env4 σ4 ∧ PostS X.K X.mg ρ4 H4 (whileD tc mb m env4 S4) D, fun σ4 H4 r => ⟨m, Nat.lt_succ_self m, r⟩, ρ3, env2, S3, rp3, re2.ext e3, turnS p3 fun ρ5 H5 σ5 env5 S5 e5 rp5 re5 p5 => ⟨ρ5, env5, S5, rp5, re5, p5⟩⟩
end
end ML
namespace ML
open PySem L2
/-! ### list comprehensions -/
theorem wipe_set (σ : St) (i : Nat) (x : Option V) : ∀ vs : List Nat, wipe (σ.set i x) vs = if i ∈ vs then wipe σ vs else (wipe σ vs).set i x
  | [] => by simp [wipe]
  | v :: vs => by
    show (wipe (σ.set i x) vs).set v none = if i ∈ v :: vs then (wipe σ vs).set v none else ((wipe σ vs).set v none).set i x
    rw [wipe_set σ i x vs]
    by_cases h : i ∈ vs
    · rw [if_pos h, if_pos (List.mem_cons_of_mem _ h)]
    · rw [if_neg h]
      by_cases e : i = v
      · subst e
        rw [if_pos (List.mem_cons_self ..), List.set_set]
      · rw [if_neg (by simp [e, h]), List.set_comm _ _ e]
theorem wipe_wipe (σ : St) : ∀ vs : List Nat, wipe (wipe σ vs) vs = wipe σ vs
  | [] => rfl
  | v :: vs => by
    show (wipe ((wipe σ vs).set v none) vs).set v none = (wipe σ vs).set v none
    rw [wipe_set, wipe_wipe σ vs]
    split
    · rfl
    · rw [List.set_set]
def relW (K : PySem.W.Frag) (mg : Str → Option Value) (vs : List Nat) (σ0 : St) (ρ : Mp) (H : Hp) (env : Env) (σ : St) : Prop := REnv K mg ρ H env σ ∧ wipe σ vs = wipe σ0 vs
def rdGW (K : PySem.W.Frag) (mg : Str → Option Value) (vs : List Nat) (g : TgM) : TG := fun v σ H Q => ∃ ρ env S d, Rep K mg ρ H S ∧ REnv K mg ρ H env σ ∧ RV K mg ρ H d v ∧ Post K mg ρ H (g d env S) (relW K mg vs σ) Q
def rdGsW (K : PySem.W.Frag) (mg : Str → Option Value) (vs : List Nat) (g : TgsM) : TGs := fun v σ H Q => ∃ ρ env S d, Rep K mg ρ H S ∧ REnv K mg ρ H env σ ∧ RVs K mg ρ H d v ∧ Post K mg ρ H (g d env S) (relW K mg vs σ) Q
abbrev GGW (X : Cx) (vs : List Nat) (tg : Expr) (g : TgM) : Prop := PG X tg (rdGW X.K X.mg vs g)
abbrev GGsW (X : Cx) (vs : List Nat) (tg : List Expr) (g : TgsM) : Prop := PGs X tg (rdGsW X.K X.mg vs g)
section
variable {X : Cx} {pos : Pos} {vs : List Nat}
theorem gw_name {i : Nat} {x : Str} (hN : X.N.Nodup) (hv : i ∈ vs := by decide) (hi : X.N[i]? = some x := by rfl) (hx : Loc X.env.scope x := by first | exact Or.inl rfl | exact Or.inr rfl) (hf : X.fn x = true ∨ X.env.scope.names.lookup x = some .local := by first | exact .inl rfl | exact .inr rfl | assumption) : GGW X vs (.Name x pos) (gN i) :=
  (pg_name hN hi hx hf).mono' fun v σ H Q ⟨ρ, env, S, d, rp, re, rv, p⟩ => Post.ok p rp ⟨re.set rv, by rw [wipe_set, if_pos hv]⟩
theorem gws_nil : GGsW X vs [] gsN := pgs_nil.mono' fun us σ H Q ⟨ρ, env, S, ds, rp, re, rv, p⟩ => by
  cases rv with
  | nil => exact ⟨rfl, Post.ok p rp ⟨re, rfl⟩⟩
  | cons _ _ => exact p.elim
theorem gws_cons {tg : Expr} {tgs : List Expr} {g : TgM} {gs : TgsM} (h1 : GGW X vs tg g) (h2 : GGsW X vs tgs gs)
    (hs : (assignEach (tg :: tgs) X.env).map (·.2) = assign tg X.env :: (assignEach tgs X.env).map (·.2) := by rfl) : GGsW X vs (tg :: tgs) (gsC g gs) := (pgs_cons h1 h2 hs).mono' fun us σ H Q ⟨ρ, env, S, ds, rp, re, rv, p⟩ => by
  cases rv with
  | nil => exact p.elim
  | cons r t =>
    refine ⟨_, _, rfl, ρ, env, S, _, rp, re, r, Post.bindB p fun σ1 H1 ρ1 S1 env1 e1 rp1 re1 p1 => ⟨ρ1, env1, S1, _, rp1, re1.1, t.ext e1, ?_⟩⟩
    have hrel : relW X.K X.mg vs σ = relW X.K X.mg vs σ1 := by
      funext ρ H env σ'
      unfold relW
      rw [re1.2]
    rw [← hrel]
    exact p1
theorem gw_tup {tgs : List Expr} {k : Nat} {gs : TgsM} {n : Nat} (hc : X.calm = true) (h : GGsW X vs tgs gs)
    (hn : (assignEach tgs X.env).length = n := by rfl) (hst : (assignEach tgs X.env).findIdx? (·.1) = none := by rfl) : GGW X vs (.Tuple tgs k pos) (gT n gs) := (pg_tup hc h hn hst).mono' fun v σ H Q ⟨ρ, env, S, d, rp, re, rv, p⟩ => by
  unfold gT at p
  split at p
  · obtain ⟨a, xs, rfl, h1, r1⟩ := tup_at rv
    split at p
    · next hz => exact ⟨a, xs, rfl, h1.sq, by rw [← r1.length]; exact hz, ρ, env, S, _, rp, re, r1, p⟩
    · exact p.elim
  · exact p.elim
end
def tmYes : TM := fun _ S => .ok true S
abbrev GTs (X : Cx) (ifs : List Expr) (m : TM) : Prop := PTs X ifs (rdT X.K X.mg m)
section
variable {X : Cx}
theorem gts_nil : GTs X [] tmYes := ⟨fun pins s σ H Q I ⟨ρ, env, S, rp, re, p⟩ => pts_nil.run pins s σ H Q I (Post.ok (a := true) p rp rfl)⟩
theorem gts_one {c : Expr} {t : TM} (h : GT X c t) : GTs X [c] t := pts_one h
end
def lcD (g : TgM) (t : TM) (e : EM) (gd : Sto → Bool) (env : Env) (vs : List Nat) : List D → List D → Sto → R (List D)
  | [], acc, S => if gd S = true then .ok acc S else .bad
  | d :: ds, acc, S => if gd S = true then (g d (wipeE env vs) S).bind fun env1 S1 => (t env1 S1).bind fun b S2 =>
      if b = true then (e env1 S2).bind fun y S3 => if acc.length < sizeLine then lcD g t e gd env vs ds (acc ++ [y]) S3 else .bad else lcD g t e gd env vs ds acc S2
    else .bad
def mLc (m : IM) (g : TgM) (t : TM) (e : EM) (vs : List Nat) : EM := fun env S => (m env S).bind fun it S1 => (lcD g t e it.gd env vs it.ds [] S1).bind fun acc S2 => .ok (.fzl acc) S2
def mLcM (m : IM) (g : TgM) (t : TM) (e : EM) (vs : List Nat) : EM := fun env S => (m env S).bind fun it S1 => (lcD g t e it.gd env vs it.ds [] S1).bind newL
section
variable {K : PySem.W.Frag} {mg : Str → Option Value} {ρ ρ1 ρ2 : Mp} {H H1 H2 : Hp}
theorem Post.step {α β γ δ : Type} {r : R α} {k : α → Sto → R γ} {rel : Mp → Hp → α → β → Prop} {rel' : Mp → Hp → γ → δ → Prop} {Q : δ → Hp → Prop} {Q' : β → Hp → Prop} (p : Post K mg ρ H (r.bind k) rel' Q)
    (h : ∀ b H2 ρ2 S2 a, Ext ρ1 H1 ρ2 H2 → Rep K mg ρ2 H2 S2 → rel ρ2 H2 a b → Post K mg ρ H (k a S2) rel' Q → Q' b H2) : Post K mg ρ1 H1 r rel Q' := by
  cases r with
  | bad => exact p.elim
  | ok a S => exact fun ρ2 H2 b e rp rl => h b H2 ρ2 S a e rp rl p
/-- L, a list that is being made -/
theorem hide_new {S : Sto} {L : Addr} {o : HO} (rp : Rep K mg ρ H S) (hD : H L = none) : Ext ρ H ⟨ρ.r, L :: ρ.h⟩ (upd H L o) ∧ Rep K mg ⟨ρ.r, L :: ρ.h⟩ (upd H L o) S := by
  have nin : ∀ a u, H a = some u → a ∉ ρ → a ∉ (⟨ρ.r, L :: ρ.h⟩ : Mp) := fun a u h n m => by
    rcases m with m | m
    · exact n (.inl m)
    · rcases List.mem_cons.mp m with m | m
      · subst m; rw [hD] at h; cases h
      · exact n (.inr m)
  have e0 : Ext ρ H ⟨ρ.r, L :: ρ.h⟩ (upd H L o) := ⟨⟨List.prefix_rfl, fun a u h _ n => ⟨by rw [upd_ne (ne_of_none h hD)]; exact h, nin a u h n⟩⟩, fun a u h m => ⟨by rw [upd_ne (ne_of_none h hD)]; exact h, List.mem_cons_of_mem _ m⟩⟩
  refine ⟨e0, rp.len, rp.nd, fun n a o' h1 h2 => ?_, fun a m => ?_⟩
  · obtain ⟨u, hu, ro⟩ := rp.at_ n a o' h1 h2
    exact ⟨u, by rw [upd_ne (ne_of_none hu hD)]; exact hu, ro.ext e0⟩
  · rcases List.mem_cons.mp m with m | m
    · subst m
      exact ⟨⟨o, upd_same⟩, rp.freshR hD⟩
    · obtain ⟨⟨u, hu⟩, n⟩ := rp.hd a m
      exact ⟨⟨u, by rw [upd_ne (ne_of_none hu hD)]; exact hu⟩, n⟩
theorem hide_put {S : Sto} {L : Addr} {o : HO} (rp : Rep K mg ρ H S) (hD : L ∈ ρ.h) : Ext0 ρ H ρ (upd H L o) ∧ Rep K mg ρ (upd H L o) S := by
  have e0 : Ext0 ρ H ρ (upd H L o) := ⟨List.prefix_rfl, fun a u h _ n => ⟨by rw [upd_ne (fun e => n (by rw [e]; exact .inr hD))]; exact h, n⟩⟩
  refine ⟨e0, rp.len, rp.nd, fun n a o' h1 h2 => ?_, fun a m => ?_⟩
  · obtain ⟨u, hu, ro⟩ := rp.at_ n a o' h1 h2
    exact ⟨u, by rw [upd_ne (fun e => (rp.hd L hD).2 (by rw [← e]; exact List.mem_of_getElem? h1))]; exact hu, ro.ext0 e0⟩
  · obtain ⟨⟨u, hu⟩, n⟩ := rp.hd a m
    by_cases e : a = L
    · subst e; exact ⟨⟨o, upd_same⟩, n⟩
    · exact ⟨⟨u, by rw [upd_ne e]; exact hu⟩, n⟩
/-- it is made: nothing hides it any more -/
theorem hide_end {S : Sto} {L : Addr} (e : Ext ρ H ρ2 H2) (rp0 : Rep K mg ρ H S) {S2 : Sto} (rp : Rep K mg ρ2 H2 S2) : Ext ρ H ⟨ρ2.r, ρ.h⟩ H2 ∧ Ext0 ρ2 H2 ⟨ρ2.r, ρ.h⟩ H2 ∧ Rep K mg ⟨ρ2.r, ρ.h⟩ H2 S2 := by
  have sub : ∀ a, a ∈ ρ.h → a ∈ ρ2.h := fun a m => by
    obtain ⟨⟨u, hu⟩, _⟩ := rp0.hd a m
    exact (e.hid a u hu m).2
  have sub2 : ∀ a, a ∈ (⟨ρ2.r, ρ.h⟩ : Mp) → a ∈ ρ2 := fun a m => m.imp id (sub a)
  have e0 : Ext0 ρ2 H2 ⟨ρ2.r, ρ.h⟩ H2 := ⟨List.prefix_rfl, fun a u h _ n => ⟨h, fun m => n (sub2 a m)⟩⟩
  refine ⟨⟨⟨e.pre, fun a u h t n => ⟨(e.keep a u h t n).1, fun m => (e.keep a u h t n).2 (sub2 a m)⟩⟩, fun a u h m => ⟨(e.hid a u h m).1, m⟩⟩, e0, rp.len, rp.nd, fun n a o' h1 h2 => ?_, fun a m => rp.hd a (sub a m)⟩
  obtain ⟨u, hu, ro⟩ := rp.at_ n a o' h1 h2
  exact ⟨u, hu, ro.ext0 e0⟩
end
section
variable {X : Cx}
theorem rdLc {K : PySem.W.Frag} {mg : Str → Option Value} {mi : IM} {g : TgM} {t : TM} {e : EM} {vs : List Nat} {fin : List D → Sto → R D} {σ : St} {H : Hp} {Q : VK}
    (hfin : ∀ ρ0 H0 S0 ρ2 H2 S2 xs acc L, Rep K mg ρ0 H0 S0 → H0 L = none → Ext ρ0 H0 ρ2 H2 → Rep K mg ρ2 H2 S2 → L ∈ ρ2.h → H2 L = some (.lst xs) → RVs K mg ρ2 H2 acc xs → Post K mg ρ0 H0 (fin acc S2) (RV K mg) Q → Q (.ref L) H2)
    (h : rdE K mg (fun env S => (mi env S).bind fun it S1 => (lcD g t e it.gd env vs it.ds [] S1).bind fin) σ H Q) : tLc (rdI K mg mi) (rdGW K mg vs g) (rdT K mg t) (rdE K mg e) vs σ H Q := by
  obtain ⟨ρ, env, S, rp, re, p⟩ := h
  refine ⟨ρ, env, S, rp, re, Post.bindB p fun J H1 ρ1 S1 it e1 rp1 ok p1 => fun L hD => ?_⟩
  obtain ⟨x0, rp0⟩ := hide_new (o := .lst []) rp1 hD
  have re1 := re.ext e1
  refine ⟨fun i m H' => i ≤ it.ds.length ∧ m = it.ds.length - i ∧ ∃ ρ2 S2 acc xs, Ext ρ1 H1 ρ2 H' ∧ Rep K mg ρ2 H' S2 ∧ L ∈ ρ2.h ∧ H' L = some (.lst xs) ∧ RVs K mg ρ2 H' acc xs ∧ Post K mg ρ1 H1 ((lcD g t e it.gd env vs (it.ds.drop i) acc S2).bind fin) (RV K mg) Q,
    ⟨it.ds.length, Nat.zero_le _, rfl, _, S1, [], [], x0, rp0, List.mem_cons_self .., upd_same, .nil, p1⟩, ?_⟩
  rintro i m H' ⟨hi, hm, ρ2, S2, acc, xs, e2, rp2, hDh, hDo, rvs, p2⟩
  by_cases hl : i < it.ds.length
  · right
    rw [List.drop_eq_getElem_cons hl] at p2
    unfold lcD at p2
    split at p2
    · next hgd =>
      obtain ⟨_, hgo⟩ := ok ρ2 H' S2 e2.toExt0 rp2 hgd
      obtain ⟨go, hy⟩ := hgo i _ (List.getElem?_eq_getElem hl)
      refine ⟨go, fun H3 => i + 1 ≤ it.ds.length ∧ ∃ ρ2 S2 acc xs, Ext ρ1 H1 ρ2 H3 ∧ Rep K mg ρ2 H3 S2 ∧ L ∈ ρ2.h ∧ H3 L = some (.lst xs) ∧ RVs K mg ρ2 H3 acc xs ∧ Post K mg ρ1 H1 ((lcD g t e it.gd env vs (it.ds.drop (i + 1)) acc S2).bind fin) (RV K mg) Q, fun H3 ⟨h3, r⟩ => ⟨it.ds.length - (i + 1), by omega, h3, rfl, r⟩, fun x H3 hx => ?_⟩
      obtain ⟨e3, rp3, rv3⟩ := hy x H3 hx
      have re3 : REnv K mg ρ2 H3 (wipeE env vs) (wipe σ vs) := (((re1.ext e2).ext e3)).wipe vs
      have asc : ∀ (r : R Env) (k : Env → Sto → R (List D)), (r.bind k).bind fin = r.bind fun a S => (k a S).bind fin := fun r k => by cases r <;> rfl
      have ascB : ∀ (r : R Bool) (k : Bool → Sto → R (List D)), (r.bind k).bind fin = r.bind fun a S => (k a S).bind fin := fun r k => by cases r <;> rfl
      have ascD : ∀ (r : R D) (k : D → Sto → R (List D)), (r.bind k).bind fin = r.bind fun a S => (k a S).bind fin := fun r k => by cases r <;> rfl
      rw [asc] at p2
      refine ⟨ρ2, _, S2, _, rp3, re3, rv3, Post.step p2 fun σ4 H4 ρ4 S4 env4 e4 rp4 re4 p4 => ⟨by rw [re4.2]; exact wipe_wipe σ vs, ?_⟩⟩
      rw [ascB] at p4
      refine ⟨ρ4, env4, S4, rp4, re4.1, Post.step p4 fun b H5 ρ5 S5 b' e5 rp5 rb p5 => ?_⟩
      cases rb
      have hD5 := (((e3.trans e4).trans e5).hid L _ hDo hDh)
      cases b with
      | false => exact ⟨hl, ρ5, S5, acc, xs, ((e2.trans e3).trans e4).trans e5, rp5, hD5.2, hD5.1, ((rvs.ext e3).ext e4).ext e5, p5⟩
      | true =>
        have p5' : Post K mg ρ1 H1 (((e env4 S5).bind fun y S3 => if acc.length < sizeLine then lcD g t e it.gd env vs (it.ds.drop (i + 1)) (acc ++ [y]) S3 else .bad).bind fin) (RV K mg) Q := p5
        rw [ascD] at p5'
        refine ⟨ρ5, env4, S5, rp5, re4.1.ext e5, Post.step p5' fun y H6 ρ6 S6 d6 e6 rp6 rv6 p6 => ?_⟩
        have hD6 := e6.hid L _ hD5.1 hD5.2
        refine ⟨xs, hD6.1, ?_⟩
        split at p6
        · next hz =>
          have rvs6 := (((rvs.ext e3).ext e4).ext e5).ext e6
          obtain ⟨x7, rp7⟩ := hide_put (o := .lst (xs ++ [y])) rp6 hD6.2
          refine ⟨by rw [← rvs6.length]; exact hz, hl, ρ6, S6, acc ++ [d6], xs ++ [y], ?_, rp7, hD6.2, upd_same, (rvs6.append (.cons rv6 .nil)).ext0 x7, p6⟩
          have ee := ((((e2.trans e3).trans e4).trans e5).trans e6)
          exact ⟨⟨ee.pre, fun a u h q n => ⟨by rw [upd_ne (ne_of_none h hD)]; exact (ee.keep a u h q n).1, (ee.keep a u h q n).2⟩⟩, fun a u h q => ⟨by rw [upd_ne (ne_of_none h hD)]; exact (ee.hid a u h q).1, (ee.hid a u h q).2⟩⟩
        · exact p6.elim
    · exact p2.elim
  · left
    have hd : i = it.ds.length := by omega
    subst hd
    rw [List.drop_of_length_le (Nat.le_refl _)] at p2
    unfold lcD at p2
    split at p2
    · next hgd =>
      obtain ⟨st, _⟩ := ok ρ2 H' S2 e2.toExt0 rp2 hgd
      exact ⟨st, hfin ρ1 H1 S1 ρ2 H' S2 xs acc L rp1 hD e2 rp2 hDh hDo rvs p2⟩
    · exact p2.elim
theorem fin_F {K : PySem.W.Frag} {mg : Str → Option Value} {Q : VK} : ∀ ρ0 H0 S0 ρ2 H2 S2 (xs : List V) (acc : List D) (L : Addr), Rep K mg ρ0 H0 S0 → H0 L = none → Ext ρ0 H0 ρ2 H2 → Rep K mg ρ2 H2 S2 → L ∈ ρ2.h → H2 L = some (.lst xs) → RVs K mg ρ2 H2 acc xs → Post K mg ρ0 H0 (.ok (.fzl acc) S2) (RV K mg) Q → Q (.ref L) H2 :=
  fun ρ0 H0 S0 ρ2 H2 S2 xs acc L rp0 hL e rp hh hL2 rv p => by
    obtain ⟨e1, e2, rp3⟩ := hide_end (L := L) e rp0 rp
    refine p _ _ _ e1 rp3 (.fzl ⟨hL2, fun m => ?_⟩ (rv.ext0 e2))
    rcases m with m | m
    · exact (rp.hd L hh).2 m
    · obtain ⟨⟨u, hu⟩, _⟩ := rp0.hd L m
      rw [hL] at hu
      cases hu
theorem fin_M {K : PySem.W.Frag} {mg : Str → Option Value} {Q : VK} : ∀ ρ0 H0 S0 ρ2 H2 S2 (xs : List V) (acc : List D) (L : Addr), Rep K mg ρ0 H0 S0 → H0 L = none → Ext ρ0 H0 ρ2 H2 → Rep K mg ρ2 H2 S2 → L ∈ ρ2.h → H2 L = some (.lst xs) → RVs K mg ρ2 H2 acc xs → Post K mg ρ0 H0 (newL acc S2) (RV K mg) Q → Q (.ref L) H2 :=
  fun ρ0 H0 S0 ρ2 H2 S2 xs acc L rp0 hL e rp hh hL2 rv p => by
    obtain ⟨e1, e2, rp3⟩ := hide_end (L := L) e rp0 rp
    have nL : L ∉ ρ0 := fun m => by
      exact rp0.fresh hL m
    have nr : L ∉ ρ2.r := (rp.hd L hh).2
    have sub : ∀ a, a ∈ ρ0.h → a ∈ ρ2.h := fun a m => by
      obtain ⟨⟨u, hu⟩, _⟩ := rp0.hd a m
      exact (e.hid a u hu m).2
    have e3 : Ext0 ρ2 H2 ⟨ρ2.r ++ [L], ρ0.h⟩ H2 := ⟨List.prefix_append _ _, fun a u h _ n => ⟨h, fun m => by
      rcases m with m | m
      · rcases List.mem_append.mp m with m | m
        · exact n (.inl m)
        · rw [List.mem_singleton] at m; subst m; exact n (.inr hh)
      · exact n (.inr (sub a m))⟩⟩
    refine p ⟨ρ2.r ++ [L], ρ0.h⟩ _ _ ⟨⟨e.pre.trans (List.prefix_append _ _), fun a u h t n => ⟨(e.keep a u h t n).1, fun m => ?_⟩⟩, fun a u h m => ⟨(e.hid a u h m).1, m⟩⟩ ⟨by show (ρ2.r ++ [L]).length = _; rw [List.length_append, List.length_append, rp.len]; rfl, List.nodup_append.mpr ⟨rp.nd, by simp, fun a ha b hb => by rw [List.mem_singleton] at hb; subst hb; intro q; subst q; exact nr ha⟩, fun n a o' h1 h2 => ?_, fun a m => ?_⟩ (.loc ?_)
    · rcases m with m | m
      · rcases List.mem_append.mp m with m | m
        · exact (e.keep a u h t n).2 (.inl m)
        · rw [List.mem_singleton] at m; exact ne_of_none h hL m
      · exact n (.inr m)
    · have h1 : (ρ2.r ++ [L])[n]? = some a := h1
      by_cases hn : n < ρ2.r.length
      · rw [List.getElem?_append_left hn] at h1
        rw [List.getElem?_append_left (rp.len ▸ hn)] at h2
        obtain ⟨u', hu, hr⟩ := rp.at_ n a o' h1 h2
        exact ⟨u', hu, hr.ext0 e3⟩
      · have hn' : n = ρ2.r.length := by
          have := (List.getElem?_eq_some_iff.mp h1).1
          rw [List.length_append] at this
          simp at this
          omega
        subst hn'
        rw [List.getElem?_append_right (Nat.le_refl _), Nat.sub_self] at h1
        rw [rp.len, List.getElem?_append_right (Nat.le_refl _), Nat.sub_self] at h2
        cases h1
        cases h2
        exact ⟨_, hL2, .lst (rv.ext0 e3)⟩
    · obtain ⟨q, n⟩ := rp.hd a (sub a m)
      refine ⟨q, fun z => ?_⟩
      rcases List.mem_append.mp z with z | z
      · exact n z
      · rw [List.mem_singleton] at z; subst z; exact nL (.inr m)
    · show (ρ2.r ++ [L])[S2.length]? = some L
      rw [← rp.len, List.getElem?_append_right (Nat.le_refl _), Nat.sub_self]
      rfl
variable {elt tg iter : Expr} {ifs : List Expr} {scope : Scope} {own : List (Str × Nat)} {vs : List Nat} {pos : Pos} {mi : IM} {g : TgM} {tt : TM} {me : EM}
theorem ge_lc (hc : X.calm = true) (hN : X.N.Nodup) (hi : GI X tg iter mi) (ok : BlkOk X.N X.env.scope scope own ∧ own.map (·.2) = vs)
    (hg : ∀ (s : Shared) (H : Hp) (C : Addr) (cl : List (Str × Addr)) (fp : List Addr), GGW (X.blk s H scope (compEnvC scope cl C X.env) fp) vs tg g) (ht : ∀ (s : Shared) (H : Hp) (C : Addr) (cl : List (Str × Addr)) (fp : List Addr), GTs (X.blk s H scope (compEnvC scope cl C X.env) fp) ifs tt)
    (he : ∀ (s : Shared) (H : Hp) (C : Addr) (cl : List (Str × Addr)) (fp : List Addr), GE (X.blk s H scope (compEnvC scope cl C X.env) fp) elt me) (hs : ∀ x, foldedSetIterable iter X.env x = pure x := by intro _; rfl) :
    GE X (.ListComp elt [⟨tg, iter, ifs, 0⟩] scope pos) (mLc mi g tt me vs) := by
  obtain ⟨ok, rfl⟩ := ok
  exact (pe_lc hc hN hi ok hg ht he hs).mono' fun _ _ _ h => rdLc fin_F h
theorem ge_lcM (hc : X.calm = true) (hN : X.N.Nodup) (hi : GI X tg iter mi) (ok : BlkOk X.N X.env.scope scope own ∧ own.map (·.2) = vs)
    (hg : ∀ (s : Shared) (H : Hp) (C : Addr) (cl : List (Str × Addr)) (fp : List Addr), GGW (X.blk s H scope (compEnvC scope cl C X.env) fp) vs tg g) (ht : ∀ (s : Shared) (H : Hp) (C : Addr) (cl : List (Str × Addr)) (fp : List Addr), GTs (X.blk s H scope (compEnvC scope cl C X.env) fp) ifs tt)
    (he : ∀ (s : Shared) (H : Hp) (C : Addr) (cl : List (Str × Addr)) (fp : List Addr), GE (X.blk s H scope (compEnvC scope cl C X.env) fp) elt me) (hs : ∀ x, foldedSetIterable iter X.env x = pure x := by intro _; rfl) :
    GE X (.ListComp elt [⟨tg, iter, ifs, 0⟩] scope pos) (mLcM mi g tt me vs) := by
  obtain ⟨ok, rfl⟩ := ok
  exact (pe_lc hc hN hi ok hg ht he hs).mono' fun _ _ _ h => rdLc fin_M h
theorem gs_setLcG {f : EM} {i : Nat} {y : Str} {py spos : Pos} (hc : X.calm = true) (hN : X.N.Nodup) (hy : X.N[i]? = some y) (hyl : X.env.scope.names.lookup y = some .local)
    (hsw : swapsWith (.ListComp elt [⟨tg, iter, ifs, 0⟩] scope pos) (some (.Name y py)) spos.line X.env = pure true) (hi : GI X tg iter mi) (ok : BlkOk X.N X.env.scope scope own ∧ own.map (·.2) = vs)
    (hg : ∀ (s : Shared) (H : Hp) (C : Addr) (cl : List (Str × Addr)) (fp : List Addr), GGW (X.blk s H scope (compEnvC scope cl C X.env) fp) vs tg g) (ht : ∀ (s : Shared) (H : Hp) (C : Addr) (cl : List (Str × Addr)) (fp : List Addr), GTs (X.blk s H scope (compEnvC scope cl C X.env) fp) ifs tt)
    (he : ∀ (s : Shared) (H : Hp) (C : Addr) (cl : List (Str × Addr)) (fp : List Addr), GE (X.blk s H scope (compEnvC scope cl C X.env) fp) elt me)
    (hf : ∀ σ H Q, rdE X.K X.mg f σ H Q → tLc (rdI X.K X.mg mi) (rdGW X.K X.mg vs g) (rdT X.K X.mg tt) (rdE X.K X.mg me) vs σ H Q) (hs : ∀ x, foldedSetIterable iter X.env x = pure x := by intro _; rfl) :
    GS X (.Assign [.Name y py] (.ListComp elt [⟨tg, iter, ifs, 0⟩] scope pos) spos) (sAsg f (gN i)) := by
  obtain ⟨ok, rfl⟩ := ok
  exact (ps_setLc hc hN hy hyl hsw hi ok hg ht he hs).mono' fun D σ H ⟨ρ, env, S, rp, re, p⟩ =>
    hf σ H _ ⟨ρ, env, S, rp, re, PostS.bindB p fun v H1 ρ1 S1 d e1 rp1 rv1 p1 => PostS.nx p1 rp1 ((re.ext e1).set rv1)⟩
theorem gs_setLc {i : Nat} {y : Str} {py spos : Pos} (hc : X.calm = true) (hN : X.N.Nodup) (hi : GI X tg iter mi) (ok : BlkOk X.N X.env.scope scope own ∧ own.map (·.2) = vs)
    (hg : ∀ (s : Shared) (H : Hp) (C : Addr) (cl : List (Str × Addr)) (fp : List Addr), GGW (X.blk s H scope (compEnvC scope cl C X.env) fp) vs tg g) (ht : ∀ (s : Shared) (H : Hp) (C : Addr) (cl : List (Str × Addr)) (fp : List Addr), GTs (X.blk s H scope (compEnvC scope cl C X.env) fp) ifs tt)
    (he : ∀ (s : Shared) (H : Hp) (C : Addr) (cl : List (Str × Addr)) (fp : List Addr), GE (X.blk s H scope (compEnvC scope cl C X.env) fp) elt me) (hsw : swapsWith (.ListComp elt [⟨tg, iter, ifs, 0⟩] scope pos) (some (.Name y py)) spos.line X.env = pure true := by exact sw_true rfl rfl rfl (by decide +kernel)) (hy : X.N[i]? = some y := by rfl) (hyl : X.env.scope.names.lookup y = some .local := by rfl) (hs : ∀ x, foldedSetIterable iter X.env x = pure x := by intro _; rfl) :
    GS X (.Assign [.Name y py] (.ListComp elt [⟨tg, iter, ifs, 0⟩] scope pos) spos) (sAsg (mLc mi g tt me vs) (gN i)) := gs_setLcG hc hN hy hyl hsw hi ok hg ht he (fun _ _ _ h => rdLc fin_F h) hs
theorem gs_setLcM {i : Nat} {y : Str} {py spos : Pos} (hc : X.calm = true) (hN : X.N.Nodup) (hi : GI X tg iter mi) (ok : BlkOk X.N X.env.scope scope own ∧ own.map (·.2) = vs)
    (hg : ∀ (s : Shared) (H : Hp) (C : Addr) (cl : List (Str × Addr)) (fp : List Addr), GGW (X.blk s H scope (compEnvC scope cl C X.env) fp) vs tg g) (ht : ∀ (s : Shared) (H : Hp) (C : Addr) (cl : List (Str × Addr)) (fp : List Addr), GTs (X.blk s H scope (compEnvC scope cl C X.env) fp) ifs tt)
    (he : ∀ (s : Shared) (H : Hp) (C : Addr) (cl : List (Str × Addr)) (fp : List Addr), GE (X.blk s H scope (compEnvC scope cl C X.env) fp) elt me) (hsw : swapsWith (.ListComp elt [⟨tg, iter, ifs, 0⟩] scope pos) (some (.Name y py)) spos.line X.env = pure true := by exact sw_true rfl rfl rfl (by decide +kernel)) (hy : X.N[i]? = some y := by rfl) (hyl : X.env.scope.names.lookup y = some .local := by rfl) (hs : ∀ x, foldedSetIterable iter X.env x = pure x := by intro _; rfl) :
    GS X (.Assign [.Name y py] (.ListComp elt [⟨tg, iter, ifs, 0⟩] scope pos) spos) (sAsg (mLcM mi g tt me vs) (gN i)) := gs_setLcG hc hN hy hyl hsw hi ok hg ht he (fun _ _ _ h => rdLc fin_M h) hs
end
end ML
namespace ML
open PySem L2
/-! ### defs and their calls -/
def spM (K : PySem.W.Frag) (mg : Str → Option Value) (n : Nat) (f : List D → Sto → R D) : Sp := fun vs H Q _ => ∃ ρ S ds, Rep K mg ρ H S ∧ RVs K mg ρ H ds vs ∧ ds.length = n ∧ Post K mg ρ H (f ds S) (RV K mg) Q
/-- the def that stands under a name keeps what f says, by at most so many calls one in another -/
def Cal (P : Program) (w : World) (K : PySem.W.Frag) (mg : Str → Option Value) (base : Heap) (k : Nat) (x : Str) (ps : List Str) (f : List D → Sto → R D) : Prop :=
  ∃ a fd, mg x = some (.ref a) ∧ PySem.W.keepIn K (.ref a) = true ∧ Binds K fd ps [] ∧ FnOk P w K mg base CX0 k a fd ps (spM K mg ps.length f)
/-- where a def of the text stands -/
def Dn (K : PySem.W.Frag) (mg : Str → Option Value) (x : Str) (st : Stmt) (ps : List Str) : Prop :=
  ∃ a fd, mg x = some (.ref a) ∧ Fun K x x st a fd ∧ Binds K fd ps []
def mFn (n : Nat) (f : List D → Sto → R D) (as : AM) : EM := fun env S => (as env S).bind fun ds S1 => if ds.length = n then f ds S1 else .bad
/-- the body run from the arguments -/
def runFl (r : R Fl) : R D := r.bind fun f S => match f with
  | .rt d => .ok d S
  | .nx _ => .ok .non S
  | _ => .bad
def env0 (n : Nat) (ds : List D) : Env := ds.map some ++ List.replicate (n - ds.length) none
def fnD (n : Nat) (m : SM) (ds : List D) (S : Sto) : R D := runFl (m (env0 n ds) S)
section
variable {P : Program} {w : World} {K : PySem.W.Frag} {mg : Str → Option Value} {base : Heap}
theorem env_start {ρ : Mp} {H : Hp} {N : List Str} {ds : List D} {vs : List V} (r : RVs K mg ρ H ds vs) : REnv K mg ρ H (env0 N.length ds) (L2.start N vs) := by
  refine ⟨by unfold env0 L2.start; simp [r.length], fun i d h => ?_⟩
  unfold env0 at h
  unfold L2.start
  by_cases hi : i < ds.length
  · rw [List.getElem?_append_left (by simpa using hi), List.getElem?_map] at h
    rw [List.getElem?_append_left (by rw [List.length_map, ← r.length]; exact hi), List.getElem?_map]
    cases q : ds[i]? with
    | none => rw [q] at h; cases h
    | some d' =>
      rw [q] at h
      cases h
      obtain ⟨v, hv, rv⟩ := r.getD q
      exact ⟨v, by rw [hv]; rfl, rv⟩
  · rw [List.getElem?_append_right (by simpa using hi), List.getElem?_replicate] at h
    split at h <;> simp at h
theorem fnok_ML {a : Addr} {fd : FuncData} {x : Str} {st : Stmt} {N ps : List Str} {k : Nat} {m : SM} (F : Fun K x x st a fd) (Sc : FnScope N ps (defScope st))
    (body : ∀ (f : Addr) (cdv : Value) (A : Around) (outer : List PySem.Env) (s : Shared) (H : Hp) (E : XK), Room k (A.deeper (PyProof.Rows.envOfC x (defScope st) s.heap.objs.size f cdv)) →
      GSs (cxOf CX0 P w K mg base N x (defScope st) f cdv A outer s H E).nox (defBody st) m) : FnOk P w K mg base CX0 (k + 1) a fd ps (spM K mg ps.length (fnD N.length m)) := by
  refine F.ok Sc (fun vs H Q E ⟨ρ, S, ds, rp, rv, hl, p⟩ => by rw [← rv.length]; exact hl) fun cdv A outer s H vs Q E hr ⟨ρ, S, ds, rp, rv, hl, p⟩ => ?_
  refine ⟨_, body a cdv A outer s H E hr, ρ, env0 N.length ds, S, rp, env_start rv, ?_⟩
  unfold fnD runFl at p
  show PostS K mg ρ H (m (env0 N.length ds) S) _
  cases q : m (env0 N.length ds) S with
  | bad => rw [q] at p; exact p
  | ok f S1 =>
    rw [q] at p
    cases f with
    | nx e => exact fun ρ1 H1 σ1 e1 rp1 _ => p ρ1 H1 .non e1 rp1 .non
    | rt d => exact p
    | bk e => exact p.elim
    | ct e => exact p.elim
theorem fn_ML {x : Str} {st : Stmt} {N ps : List Str} {k : Nat} {m : SM} (F : Dn K mg x st ps) (Sc : FnScope N ps (defScope st))
    (body : ∀ (f : Addr) (cdv : Value) (A : Around) (outer : List PySem.Env) (s : Shared) (H : Hp) (E : XK), Room k (A.deeper (PyProof.Rows.envOfC x (defScope st) s.heap.objs.size f cdv)) →
      GSs (cxOf CX0 P w K mg base N x (defScope st) f cdv A outer s H E).nox (defBody st) m) : Cal P w K mg base (k + 1) x ps (fnD N.length m) := by
  obtain ⟨a, fd, h1, F, b⟩ := F
  exact ⟨a, fd, h1, F.kp, b, fnok_ML F Sc body⟩
theorem Cal.mono {j k : Nat} {x : Str} {ps : List Str} {f : List D → Sto → R D} (c : Cal P w K mg base j x ps f) (h : j ≤ k) : Cal P w K mg base k x ps f :=
  let ⟨a, fd, h1, h2, h3, h4⟩ := c
  ⟨a, fd, h1, h2, h3, h4.mono h⟩
theorem cl_loc {ρ : Mp} {n : Nat} {a : Addr} (h : ρ.r[n]? = some a) : D.cl ρ.r.length (.loc n) = true := by
  simp only [D.cl, decide_eq_true_eq]
  exact (List.getElem?_eq_some_iff.mp h).1
mutual
theorem RV.clo {ρ : Mp} {H : Hp} : ∀ {d : D} {v : V}, RV K mg ρ H d v → D.cl ρ.r.length d = true
  | _, _, .non => rfl
  | _, _, .bl b => rfl
  | _, _, .int i => rfl
  | _, _, .str x => rfl
  | _, _, .ty n => rfl
  | _, _, .glb h r => rfl
  | _, _, .tup t r => by simpa [D.cl] using RVs.clo r
  | _, _, .fzl t r => by simpa [D.cl] using RVs.clo r
  | _, _, .kl t r => by simpa [D.cl] using RVs.clo r
  | _, _, .loc h => cl_loc h
theorem RVs.clo {ρ : Mp} {H : Hp} : ∀ {d : List D} {v : List V}, RVs K mg ρ H d v → D.cls ρ.r.length d = true
  | _, _, .nil => rfl
  | _, _, .cons r t => by simp [D.cls, RV.clo r, RVs.clo t]
end
theorem Rep.clo {ρ : Mp} {H : Hp} {S : Sto} (rp : Rep K mg ρ H S) : S.all (O.cl S.length) = true := by
  refine List.all_eq_true.mpr fun o ho => ?_
  obtain ⟨n, hn, e⟩ := List.getElem_of_mem ho
  have hr : n < ρ.r.length := rp.len ▸ hn
  obtain ⟨u, _, ro⟩ := rp.at_ n (ρ.r[n]'hr) o (List.getElem?_eq_getElem hr) (by rw [List.getElem?_eq_getElem hn, e])
  rw [← rp.len]
  cases ro with
  | lst r => exact r.clo
  | dK r => exact r.clo
  | dT r => exact r.clo
/-! d0 as it stands in the store, its new lists now held for such that nobody changes: d -/
mutual
inductive Frz (F : Sto) (n : Nat) : D → D → Prop
  | old {d : D} : D.cl n d = true → Frz F n d d
  | tup {ds es : List D} : Frzs F n ds es → Frz F n (.tup ds) (.tup es)
  | fzl {ds es : List D} : Frzs F n ds es → Frz F n (.fzl ds) (.fzl es)
  | loc {m : Nat} {ds es : List D} : n ≤ m → F[m]? = some (.lst ds) → Frzs F n ds es → Frz F n (.loc m) (.fzl es)
inductive Frzs (F : Sto) (n : Nat) : List D → List D → Prop
  | nil : Frzs F n [] []
  | cons {d e : D} {ds es : List D} : Frz F n d e → Frzs F n ds es → Frzs F n (d :: ds) (e :: es)
end
section
variable {ρ : Mp} {H : Hp} {F : Sto} {n : Nat}
theorem cut_mem {a : Addr} (m : a ∈ (⟨ρ.r.take n, ρ.h⟩ : Mp)) : a ∈ ρ := m.imp (fun m => List.mem_of_mem_take m) id
mutual
theorem Frz.rv (rp : Rep K mg ρ H F) (hn : n ≤ ρ.r.length) : ∀ {d e : D} {v : V}, Frz F n d e → RV K mg ρ H d v → RV K mg ⟨ρ.r.take n, ρ.h⟩ H e v
  | _, _, _, .old c, r => RV.cut (ρ := ⟨ρ.r.take n, ρ.h⟩) (List.take_prefix _ _) rfl (by show D.cl (ρ.r.take n).length _ = true; rw [List.length_take, Nat.min_eq_left hn]; exact c) r
  | _, _, _, .tup f, .tup t r => .tup (t.imp (fun ⟨h, x⟩ => ⟨h, fun m => x (cut_mem m)⟩) id) (Frzs.rv rp hn f r)
  | _, _, _, .fzl f, .fzl t r => .fzl ⟨t.1, fun m => t.2 (cut_mem m)⟩ (Frzs.rv rp hn f r)
  | _, _, _, .loc hm hF f, .loc ha => by
    obtain ⟨u, hu, ro⟩ := rp.obj ha hF
    cases ro with
    | lst r =>
      refine .fzl ⟨hu, fun m => ?_⟩ (Frzs.rv rp hn f r)
      rcases m with m | m
      · obtain ⟨i, hi, e⟩ := List.getElem_of_mem m
        have hi' : i < n := by
          have := hi
          rw [List.length_take] at this
          omega
        rw [List.getElem_take] at e
        obtain ⟨hl, e2⟩ := List.getElem?_eq_some_iff.mp ha
        have := (List.getElem_inj rp.nd).mp (e.trans e2.symm)
        omega
      · exact (rp.hd _ m).2 (List.mem_of_getElem? ha)
theorem Frzs.rv (rp : Rep K mg ρ H F) (hn : n ≤ ρ.r.length) : ∀ {d e : List D} {v : List V}, Frzs F n d e → RVs K mg ρ H d v → RVs K mg ⟨ρ.r.take n, ρ.h⟩ H e v
  | _, _, _, .nil, .nil => .nil
  | _, _, _, .cons f fs, .cons r t => .cons (Frz.rv rp hn f r) (Frzs.rv rp hn fs t)
end
end
/-- a plainer function in its place: it may forget what was laid behind in the store -/
def Fits (n : Nat) (f g : List D → Sto → R D) : Prop := ∀ ds S, ds.length = n → ∀ d S', g ds S = .ok d S' → ∃ d0 T, f ds S = .ok d0 (S' ++ T) ∧ ((d0 = d ∧ T = []) ∨ (D.cls S.length ds = true → S.all (O.cl S.length) = true → S'.length = S.length ∧ Frz (S' ++ T) S.length d0 d ∧ S'.all (O.cl S.length) = true))
theorem Cal.fit {k : Nat} {x : Str} {ps : List Str} {f g : List D → Sto → R D} (c : Cal P w K mg base k x ps f) (h : Fits ps.length f g) : Cal P w K mg base k x ps g := by
  obtain ⟨a, fd, h1, h2, h3, h4⟩ := c
  refine ⟨a, fd, h1, h2, h3, h4.imp fun vs H Q E ⟨ρ, S, ds, rp, rv, hl, p⟩ => ?_⟩
  refine ⟨ρ, S, ds, rp, rv, hl, ?_⟩
  cases q : g ds S with
  | bad => rw [q] at p; exact p.elim
  | ok d S' =>
    rw [q] at p
    obtain ⟨d0, T, e, hT⟩ := h ds S hl d S' q
    rw [e]
    rcases hT with ⟨rfl, rfl⟩ | hT
    · rw [List.append_nil]
      exact p
    · intro ρ1 H1 v e1 rp1 rv1
      obtain ⟨hlen, hd, hS⟩ := hT (by rw [← rp.len]; exact rv.clo) rp.clo
      have hl1 : ρ.r.length = S'.length := by rw [hlen]; exact rp.len
      have hpre : ρ.r <+: ρ1.r := e1.pre
      have hlen1 : ρ.r.length ≤ ρ1.r.length := hpre.length_le
      have et : ρ1.r.take S.length = ρ.r := by
        obtain ⟨t, ht⟩ := hpre
        rw [← ht, ← rp.len, List.take_left]
      have e2 : Ext ρ H ⟨ρ.r, ρ1.h⟩ H1 := by
        refine e1.cut (ρ := ⟨ρ.r, ρ1.h⟩) hpre rfl List.prefix_rfl
      have rv2 := hd.rv rp1 (by rw [← rp.len]; exact hlen1) rv1
      rw [et] at rv2
      exact p ⟨ρ.r, ρ1.h⟩ H1 v e2 (rp1.cut (ρ := ⟨ρ.r, ρ1.h⟩) hpre rfl hl1 (by rw [hlen]; exact hS)) rv2
/-- d as it stands in F, what stands from place n on held for such that nobody changes -/
def frzD (F : Sto) (n : Nat) : Nat → D → Option D
  | 0, d => if D.cl n d = true then some d else none
  | k + 1, d => if D.cl n d = true then some d else match d with
    | .tup ds => (opAll (frzD F n k) ds).map .tup
    | .fzl ds => (opAll (frzD F n k) ds).map .fzl
    | .loc m => if n ≤ m then (match F[m]? with
      | some (.lst ds) => (opAll (frzD F n k) ds).map .fzl
      | _ => none) else none
    | _ => none
theorem frzs_of {F : Sto} {n : Nat} {f : D → Option D} (hf : ∀ d e, f d = some e → Frz F n d e) : ∀ {ds es : List D}, opAll f ds = some es → Frzs F n ds es
  | [], es, h => by cases h; exact .nil
  | d :: ds, es, h => by
    unfold opAll at h
    cases h1 : f d with
    | none => simp [h1] at h
    | some y =>
      cases h2 : opAll f ds with
      | none => simp [h1, h2] at h
      | some ys =>
        simp [h1, h2] at h
        subst h
        exact .cons (hf _ _ h1) (frzs_of hf h2)
theorem frz_of {F : Sto} {n : Nat} : ∀ (k : Nat) (d e : D), frzD F n k d = some e → Frz F n d e := by
  intro k
  induction k with
  | zero =>
    intro d e h
    unfold frzD at h
    split at h
    · next c => cases h; exact .old c
    · cases h
  | succ k ih =>
    intro d e h
    unfold frzD at h
    split at h
    · next c => cases h; exact .old c
    · split at h
      · obtain ⟨es, h1, rfl⟩ := Option.map_eq_some_iff.mp h
        exact .tup (frzs_of ih h1)
      · obtain ⟨es, h1, rfl⟩ := Option.map_eq_some_iff.mp h
        exact .fzl (frzs_of ih h1)
      · split at h
        · next hm =>
          split at h
          · next ds q =>
            obtain ⟨es, h1, rfl⟩ := Option.map_eq_some_iff.mp h
            exact .loc hm q (frzs_of ih h1)
          · cases h
        · cases h
      · cases h
/-- what a def lays behind is forgotten -/
def dropG (f : List D → Sto → R D) : List D → Sto → R D := fun ds S => match f ds S with
  | .ok d S' => if S.length ≤ S'.length ∧ (S'.take S.length).all (O.cl S.length) = true then (match frzD S' S.length 6 d with
    | some e => .ok e (S'.take S.length)
    | none => .bad) else .bad
  | .bad => .bad
theorem fits_drop (n : Nat) (f : List D → Sto → R D) : Fits n f (dropG f) := fun ds S hl d S' h => by
  unfold dropG at h
  cases q : f ds S with
  | bad => rw [q] at h; cases h
  | ok d0 S1 =>
    rw [q] at h
    simp only at h
    split at h
    · next c =>
      split at h
      · next e he =>
        cases h
        refine ⟨d0, S1.drop S.length, by rw [List.take_append_drop], .inr fun _ _ => ⟨by rw [List.length_take, Nat.min_eq_left c.1], ?_, c.2⟩⟩
        rw [List.take_append_drop]
        exact frz_of 6 d0 _ he
      · cases h
    · cases h
/-- a def that calls itself, by the number of calls -/
theorem Cal.none {x : Str} {ps : List Str} {st : Stmt} (F : Dn K mg x st ps) : Cal P w K mg base 0 x ps (fun _ _ => .bad) := by
  obtain ⟨a, fd, h1, F, b⟩ := F
  exact ⟨a, fd, h1, F.kp, b, ⟨fun vs H Q E ⟨ρ, S, ds, rp, rv, hl, p⟩ => p.elim, fun A outer s H args us vs Q E _ _ _ _ ⟨ρ, S, ds, rp, rv, hl, p⟩ => p.elim⟩⟩
end
section
variable {X : Cx} {x : Str} {p pos : Pos} {e : Expr} {es : List Expr} {as : AM} {ps : List Str} {f : List D → Sto → R D} {j k : Nat}
theorem ge_call {n : Nat} (c : Cal X.prog X.w X.K X.mg X.base j x ps f) (hr : Room k X.A) (ha : GA X (e :: es) as) (hn : ps.length = n := by rfl) (hj : j ≤ k := by decide) (hg : Gl X x := by rfl) (hdb : (x == ("__debug__" : Str)) = false := by decide)
    (he : starEach (e :: es) X.env = (false, eval e X.env) :: starEach es X.env := by rfl) (hpl : (backTo pos (starEach es X.env)).any (·.1) = false := by rfl) : GE X (.Call (.Name x p) (e :: es) [] pos) (mFn n f as) := by
  subst hn
  obtain ⟨a, fd, h1, h2, h3, h4⟩ := c
  refine (pe_call (h4.mono hj) hr hg h1 h2 h3 .nil pass0 ha hdb he hpl).mono' fun σ H Q ⟨ρ, env, S, rp, re, p⟩ => ?_
  refine ⟨ρ, env, S, rp, re, Post.bindB p fun vs H1 ρ1 S1 ds e1 rp1 rv1 p1 => ?_⟩
  split at p1
  · next hl => rw [List.append_nil]; exact ⟨ρ1, S1, ds, rp1, rv1, hl, p1⟩
  · exact p1.elim
end
/-! ### the end -/
theorem ints_rv {K : PySem.W.Frag} {mg : Str → Option Value} {ρ : Mp} {H : Hp} : ∀ ns : List Int, RVs K mg ρ H (ns.map D.int) (ns.map V.int)
  | [] => .nil
  | n :: ns => .cons (.int n) (ints_rv ns)
theorem kl_ints {K : PySem.W.Frag} {mg : Str → Option Value} {H : Hp} {a : Addr} {ns : List Int} (h : SqL K H a (ns.map V.int)) : RV K mg ⟨[], []⟩ H (.kl (ns.map D.int)) (.ref a) := by
  refine .kl (xs := ns.map V.int) ?_ (ints_rv ns)
  rcases h with h | h
  · exact .inl ⟨h, fun m => m.elim (fun m => nomatch m) (fun m => nomatch m)⟩
  · exact .inr (.inr h)
/-- what law promises -/
def spLaw (K : PySem.W.Frag) : Sp := fun vs H Q _ => ∃ (a : Addr) (ns : List Int), vs = [.ref a] ∧ SqL K H a (ns.map V.int) ∧ ns.length ≤ 63 ∧ ∀ H', Q (.bl true) H'
theorem law_ok {P : Program} {w : World} {K : PySem.W.Frag} {mg : Str → Option Value} {base : Heap} {k : Nat} {a : Addr} {fd : FuncData} {ps : List Str} {f : List D → Sto → R D} (h : FnOk P w K mg base CX0 k a fd ps (spM K mg 1 f))
    (hf : ∀ ns : List Int, ns.length ≤ 63 → ∃ S', f [.kl (ns.map D.int)] [] = .ok (.bl true) S') : FnOk P w K mg base CX0 k a fd ps (spLaw K) :=
  h.imp fun vs H Q E ⟨a, ns, e, hS, hl, q⟩ => by
    subst e
    obtain ⟨S', e⟩ := hf ns hl
    refine ⟨⟨[], []⟩, [], [.kl (ns.map D.int)], ⟨rfl, List.nodup_nil, fun n a o h => by simp at h, fun a m => by cases m⟩, .cons (kl_ints hS) .nil, rfl, ?_⟩
    rw [e]
    intro ρ' H' v _ _ rv
    cases rv
    exact q H'
end ML
/-! enumerate of a tuple -/
namespace PySem
open Sem (wp)
open AutoSeq1 (wpAny_loadPart')
theorem meets_enumerate_newTu (l : Addr) (items : Array Value) (n : Nat) (dct : Option Addr) (sl : Array (Option Value)) :
    Meets (Builtin.«enumerate.__new__» ⟨[.type "enumerate", .ref l], []⟩) (fun _ R s => s.heap.get? l = some { cls := .type "tuple", dict := dct, data := .seq items n, slots := sl } ∧
      R (.ok (.ret (.ref (s.heap.push { cls := .type "tuple_iterator", data := .fields #[.ref l, .int 0 0] }).objs.size)))
        { s with heap := (s.heap.push { cls := .type "tuple_iterator", data := .fields #[.ref l, .int 0 0] }).push { cls := .type "enumerate", data := .fields #[.none, .bool false, .ref s.heap.objs.size, rawInt 0, .none, .none] } }) :=
  .of_wp fun prog w A R s h => by
    obtain ⟨hp, g, d, tk, os⟩ := s; obtain ⟨hl, h⟩ := h
    have hsub := sub_enumerate
    have hL : Heap.IsTuple (Shared.heap ⟨hp, g, d, tk, os⟩) l items := ⟨_, hl, rfl, n, rfl⟩
    wp_walk using wpAny_loadPart' hl
    refine wpAny_stack_any fun st => wpAny_pure ?_
    split
    · rename_i c _ _ _ _ _
      cases (c == Value.type "enumerate")
      · wp_walk using wpAny_loadPart' hl, wpAny_pyIter_tuple hL
        exact ⟨_, rfl, h⟩
      · wp_walk using wpAny_loadPart' hl, wpAny_pyIter_tuple hL
        exact ⟨_, rfl, h⟩
    · wp_walk using wpAny_loadPart' hl, wpAny_pyIter_tuple hL
      exact ⟨_, rfl, h⟩
section
variable {prog : Program} {w : World} {A : Around} {E : Value → Shared → Prop} {s : Shared}
theorem call_enumerate_tu {l : Addr} {items : Array Value} {Q : Value → Shared → Prop} (hL : s.heap.IsTuple l items)
    (h : ∀ h', IsEnum h' (s.heap.objs.size + 1) s.heap.objs.size 0 .none → h'.IsTupleIter s.heap.objs.size l 0 → h'.objs.size = s.heap.objs.size + 2 →
      (∀ b o, s.heap.get? b = some o → h'.get? b = some o) → Q (.ref (s.heap.objs.size + 1)) { s with heap := h' }) :
    wpAny (model prog w) A (call (.type "enumerate") [.ref l]) Q E s := by
  obtain ⟨⟨c, dct, dt, sl⟩, hl, hc, n, hd⟩ := hL
  replace hc : c = .type "tuple" := hc
  replace hd : dt = .seq items n := hd
  subst hc hd
  refine callType_new F.called_enumerate (by decide) (F.typeCall_enumerate_1 _) (F.newCall_enumerate_1 _) (fun obj => F.args_object_init_2 obj _) F.entry_enumerate_new
    (meets_enumerate_newTu l items n dct sl) ⟨hl, ?_⟩
  have hz : (s.heap.push { cls := .type "tuple_iterator", data := .fields #[.ref l, .int 0 0] }).objs.size = s.heap.objs.size + 1 := Heap.size_push ..
  show _ ∧ _
  rw [hz]
  have he : IsEnum ((s.heap.push { cls := .type "tuple_iterator", data := .fields #[.ref l, .int 0 0] }).push
      { cls := .type "enumerate", data := .fields #[.none, .bool false, .ref s.heap.objs.size, rawInt 0, .none, .none] }) (s.heap.objs.size + 1) s.heap.objs.size 0 .none := by
    have := Heap.get?_push_size (s.heap.push { cls := .type "tuple_iterator", data := .fields #[.ref l, .int 0 0] })
      (o := { cls := .type "enumerate", data := .fields #[.none, .bool false, .ref s.heap.objs.size, rawInt 0, .none, .none] }) rfl
    rw [hz] at this; exact this
  refine ⟨⟨_, he, rfl⟩, h _ he ⟨_, Heap.get?_push_of_some _ (Heap.get?_push_size _ rfl), rfl, rfl⟩ (by rw [Heap.size_push, hz]) fun b o x => Heap.get?_push_of_some _ (Heap.get?_push_of_some _ x)⟩
end
end PySem
namespace L2
open PySem PySem.Spec PyProof.Rows
def IteT (K : PySem.W.Frag) (a : Addr) : It :=
  ⟨fun i H => ∃ (xs : List V) (x : V), SqT K H a xs ∧ xs[i]? = some x, fun i H v H' => ∃ T x, v = .ref T ∧ H T = none ∧ H' = upd H T (.tup [.int (i : Nat), x]) ∧ ∀ xs, SqT K H a xs → xs[i]? = some x, fun i H => ∃ xs : List V, SqT K H a xs ∧ xs.length = i⟩
theorem turn_enumT {P : Program} {w : World} {K : PySem.W.Frag} {elts : List Expr} {kk : Nat} {tpos : Pos} (a e it : Addr) :
    Turn P w K (.Tuple elts kk tpos) (IteT K a) [e, it] e (fun i h => (∃ old, IsEnum h e it ((i : Nat) : Int) old) ∧ h.IsTupleIter it a i ∧ e ≠ it ∧ a ≠ it ∧ a ≠ e) where
  mem := by simp
  obj := fun i h st b hb => by
    obtain ⟨⟨old, he⟩, ⟨o, ho, hc, hd⟩, _⟩ := st
    have e' : b = e ∨ b = it := by simpa using hb
    rcases e' with z | z
    · rw [z]; exact ⟨_, he, fun v q => nomatch q⟩
    · rw [z]; exact ⟨o, ho, fun v q => by rw [hd] at q; cases q⟩
  keep := fun i h h' st k => let ⟨⟨old, he⟩, hi, hne⟩ := st; ⟨⟨old, k e (by simp) _ he⟩, hi.at fun o q => k it (by simp) o q, hne⟩
  item := by
    intro X hP hw hK hc i pins s σ H E I hf st hg
    subst hP hw hK
    obtain ⟨⟨old, he⟩, hit, hne, hai, hae⟩ := st
    obtain ⟨xs, x, hq, hx⟩ := hg
    obtain ⟨its, rv, p, hz⟩ := I.tuple hq
    obtain ⟨u, hu, ru⟩ := rv.get hx
    have hel : e < s.heap.objs.size := Heap.lt_size he
    have hil : it < s.heap.objs.size := by obtain ⟨_, q, _⟩ := hit; exact Heap.lt_size q
    have hlt : i < its.toArray.size := by
      have := (List.getElem?_eq_some_iff.mp hu).1
      simpa using this
    refine wpAny_pyNext_enum_itemD (Draws.tuple (prog := X.prog) (w := X.w) (A := X.A.in1) (I.ok.hd hc) it a hai its.toArray) he ⟨hit, p⟩ hlt hne (by simp [hne, Ne.symm hae]) fun x' h' tk hx' ho hst' hT hsz hk => ?_
    have ex : x' = u := by
      have : its.toArray[i]? = some u := by simpa using hu
      rw [this] at hx'
      exact (Option.some.inj hx').symm
    subst ex
    refine ⟨_, rfl, wpAny_letOwnedTupleGo_enum (s := { s with heap := h', toks := tk + 1 }) ho fun h'' he' sb => ?_⟩
    have hT2 : h''.get? s.heap.objs.size = some { cls := .type "tuple", data := .seq #[.int i tk, x'] } := (sb.2 _ (Nat.ne_of_gt hel)).trans hT
    have new : ObjOk X.prog X.w (upd H s.heap.objs.size (.tup [.int (i : Nat), x])) h'' s.heap.objs.size (.tup [.int (i : Nat), x]) :=
      ⟨by show 2 ≤ sizeLine; decide, [.int i tk, x'], .cons ⟨_, rfl⟩ (.cons ru .nil), ⟨_, hT2, rfl, _, rfl⟩⟩
    have I1 : Inv X pins σ (upd H s.heap.objs.size (.tup [.int (i : Nat), x])) { s with heap := h'', toks := tk + 1 } :=
      I.turnedNew (ch := [e, it]) (fun b ob hb q => (sb.2 b (fun z => hb (by simp [z]))).trans (hk b ob (fun z => hb (by simp [z])) (fun z => hb (by simp [z])) q)) hf (Nat.le_refl _) new
    refine ⟨.ref s.heap.objs.size, _, I1, rfl, ⟨_, x, rfl, I.hok.fresh (Nat.le_refl _), rfl, fun ys hy => by rw [I.tuple_inj hy hq]; exact hx⟩, ⟨⟨x', ?_⟩, hst'.1.at fun o q => (sb.2 it (Ne.symm hne)).trans q, hne, hai, hae⟩, fun b hb => ?_⟩
    · have e1 : ((i + 1 : Nat) : Int) = (i : Int) + 1 := by omega
      rw [e1]; exact he'
    · have hb' : b < s.heap.objs.size := by
        have e' : b = e ∨ b = it := by simpa using hb
        rcases e' with z | z
        · rw [z]; exact hel
        · rw [z]; exact hil
      rw [upd_ne (Nat.ne_of_lt hb')]
      exact (hf b hb).1
  done := by
    intro X hP hw hK hc i pins s σ H E I hf st hg
    subst hP hw hK
    obtain ⟨⟨old, he⟩, hit, hne, hai, hae⟩ := st
    obtain ⟨xs, hq, hx⟩ := hg
    obtain ⟨its, rv, p, hz⟩ := I.tuple hq
    obtain ⟨f0, f1, f2, f3, f4, f5⟩ := hf it (by simp)
    have hl := rv.length
    have D := Draws.tuple (prog := X.prog) (w := X.w) (A := X.A.in1) (I.ok.hd hc) it a hai its.toArray
    have e1 : i = its.toArray.size := by simp; omega
    refine wpAny_pyNext_enum_endD D he ⟨by rw [← e1]; exact hit, p⟩ fun h' eb => ⟨rfl, I.turned (t' := s.toks) (fun b o hb q => eb b o hb q) f0 f1 f3 f4 f5⟩
  self := fun A i s Q E st h => let ⟨⟨_, he⟩, _⟩ := st; wpAny_pyIter_enum he h
def iEnumT (K : PySem.W.Frag) (ta : TA) : TI := fun σ H R => ta σ H fun vs H1 => ∃ a xs, vs = [.ref a] ∧ SqT K H1 a xs ∧ R (IteT K a) H1
theorem pi_enumT {X : Cx} {e : Expr} {ta : TA} {p pos tpos : Pos} {elts : List Expr} {kk : Nat} (hg : Gl X "enumerate") (hm : X.mg "enumerate" = none) (ha : PA X [e] ta) (hs : starEach [e] X.env = [(false, eval e X.env)] := by rfl) :
    PI X (.Tuple elts kk tpos) (.Call (.Name "enumerate" p) [e] [] pos) (iEnumT X.K ta) := by
  refine ⟨fun pins s σ H R I h => ?_⟩
  refine Call_ (ld_blt I hg hm boot_enumerate (PyProof.Rows.callWith_type1 (thn (ha.run pos pins s σ H _ I h) fun us s1 ⟨vs, H1, I1, r1, q1⟩ => ?_) hs rfl))
  obtain ⟨a, xs, ex, hq, q⟩ := q1
  subst ex
  cases r1 with
  | cons r rr =>
    cases rr
    cases r
    obtain ⟨its, rv, p', hz⟩ := I1.tuple hq
    have hal : a < s1.heap.objs.size := p'.lt
    refine call_enumerate_tu p' fun h' he hit hsz hk => wpAny_pyIter_enum he ?_
    have I2 : Inv X pins σ H1 { s1 with heap := h' } := I1.kept (t' := s1.toks) hk
    refine ⟨s1.heap.objs.size + 1, [s1.heap.objs.size + 1, s1.heap.objs.size], _, _, H1, rfl, I2, turn_enumT a (s1.heap.objs.size + 1) s1.heap.objs.size, ⟨⟨.none, he⟩, hit, Nat.succ_ne_self _, Nat.ne_of_lt hal, Nat.ne_of_lt (Nat.lt_succ_of_lt hal)⟩, fun b hb => ?_, q⟩
    have e' : b = s1.heap.objs.size + 1 ∨ b = s1.heap.objs.size := by simpa using hb
    have hle : s1.heap.objs.size ≤ b := by
      rcases e' with z | z
      · rw [z]; exact Nat.le_add_right _ _
      · rw [z]; exact Nat.le_refl _
    exact I1.fpOk hle (I1.hok.fresh hle)
end L2
namespace ML
open PySem L2
def enumD (ds : List D) : List D := ds.mapIdx fun i d => .tup [.int (i : Nat), d]
/-- enumerate: of a tuple, of a list -/
def it_enumerate (as : List D) (S : Sto) : R Itm := match as with
  | [.tup ds] => .ok ⟨enumD ds, fun _ => true⟩ S
  | [d] => match itSeq d S with
    | .ok it S1 => .ok ⟨enumD it.ds, it.gd⟩ S1
    | .bad => .bad
  | _ => .bad
section
variable {K : PySem.W.Frag} {mg : Str → Option Value} {ρ : Mp} {H : Hp}
theorem enumD_len (ds : List D) : (enumD ds).length = ds.length := by unfold enumD; simp
theorem enumD_get {ds : List D} {i : Nat} {d : D} (h : (enumD ds)[i]? = some d) : ∃ e, ds[i]? = some e ∧ d = .tup [.int (i : Nat), e] := by
  unfold enumD at h
  rw [List.getElem?_mapIdx] at h
  cases q : ds[i]? with
  | none => rw [q] at h; cases h
  | some e => rw [q] at h; exact ⟨e, rfl, (Option.some.inj h).symm⟩
theorem itOk_pair {J : It} {ds : List D} {gd : Sto → Bool}
    (hst : ∀ ρ1 H1 S1, Ext0 ρ H ρ1 H1 → Rep K mg ρ1 H1 S1 → gd S1 = true → J.stop ds.length H1)
    (hgo : ∀ ρ1 H1 S1, Ext0 ρ H ρ1 H1 → Rep K mg ρ1 H1 S1 → gd S1 = true → ∀ i d, ds[i]? = some d → J.go i H1 ∧ ∀ x H2, J.yld i H1 x H2 → ∃ T vs es, x = .ref T ∧ H1 T = none ∧ H2 = upd H1 T (.tup vs) ∧ d = .tup es ∧ RVs K mg ρ1 H1 es vs) : ItOk K mg ρ H J ⟨ds, gd⟩ := fun ρ1 H1 S1 e rp hg =>
  ⟨hst ρ1 H1 S1 e rp hg, fun i d hd => by
    obtain ⟨h1, h2⟩ := hgo ρ1 H1 S1 e rp hg i d hd
    refine ⟨h1, fun x H2 hy => ?_⟩
    obtain ⟨T, vs, es, rfl, hT, rfl, rfl, rv⟩ := h2 x H2 hy
    exact ⟨Ext.new hT, rp.new hT, .tup (TAt.new rp hT) (rv.ext (Ext.new hT))⟩⟩
theorem itOk_enumT {a : Addr} {ds : List D} {gd : Sto → Bool} (h : ∀ ρ1 H1 S1, Ext0 ρ H ρ1 H1 → Rep K mg ρ1 H1 S1 → gd S1 = true → ∃ xs, SqT K H1 a xs ∧ RVs K mg ρ1 H1 ds xs) : ItOk K mg ρ H (IteT K a) ⟨enumD ds, gd⟩ :=
  itOk_pair (fun ρ1 H1 S1 e rp hg => let ⟨xs, h1, r⟩ := h ρ1 H1 S1 e rp hg; ⟨xs, h1, by rw [enumD_len, r.length]⟩) fun ρ1 H1 S1 e rp hg i d hd => by
    obtain ⟨xs, h1, r⟩ := h ρ1 H1 S1 e rp hg
    obtain ⟨d', hd', rfl⟩ := enumD_get hd
    obtain ⟨v, hv, rv⟩ := r.getD hd'
    refine ⟨⟨xs, v, h1, hv⟩, fun x H2 hy => ?_⟩
    obtain ⟨T, x', rfl, hT, rfl, hall⟩ := hy
    have := hall xs h1
    rw [hv] at this
    cases this
    exact ⟨T, _, _, rfl, hT, rfl, rfl, .cons (.int _) (.cons rv .nil)⟩
theorem itOk_enumL {a : Addr} {ds : List D} {gd : Sto → Bool} (h : ∀ ρ1 H1 S1, Ext0 ρ H ρ1 H1 → Rep K mg ρ1 H1 S1 → gd S1 = true → ∃ xs, SqL K H1 a xs ∧ RVs K mg ρ1 H1 ds xs) : ItOk K mg ρ H (Ite K a) ⟨enumD ds, gd⟩ :=
  itOk_pair (fun ρ1 H1 S1 e rp hg => let ⟨xs, h1, r⟩ := h ρ1 H1 S1 e rp hg; ⟨xs, h1, by rw [enumD_len, r.length]; exact Nat.le_refl _⟩) fun ρ1 H1 S1 e rp hg i d hd => by
    obtain ⟨xs, h1, r⟩ := h ρ1 H1 S1 e rp hg
    obtain ⟨d', hd', rfl⟩ := enumD_get hd
    obtain ⟨v, hv, rv⟩ := r.getD hd'
    refine ⟨⟨xs, v, h1, hv⟩, fun x H2 hy => ?_⟩
    obtain ⟨T, x', rfl, hT, rfl, hall⟩ := hy
    have := hall xs h1
    rw [hv] at this
    cases this
    exact ⟨T, _, _, rfl, hT, rfl, rfl, .cons (.int _) (.cons rv .nil)⟩
end
section
variable {X : Cx} {e : Expr} {as : AM} {pos tpos : Pos} {elts : List Expr} {kk : Nat}
/-- what is walked in one of two ways -/
theorem gi_or {tg iter : Expr} {m : IM} {t t' : TI} (h : PI X tg iter t) (h' : PI X tg iter t') (hm : ∀ σ H Q, rdI X.K X.mg m σ H Q → t σ H Q ∨ t' σ H Q) : GI X tg iter m := ⟨fun pins s σ H Q I q => by
  rcases hm σ H Q q with q | q
  · exact h.run pins s σ H Q I q
  · exact h'.run pins s σ H Q I q⟩
/-- the lists' items as they are walked -/
theorem lst_stays {K : PySem.W.Frag} {mg : Str → Option Value} {ρ : Mp} {H : Hp} {S S' : Sto} {d : D} {v : V} {it : Itm} (rp : Rep K mg ρ H S) (r : RV K mg ρ H d v) (h : itSeq d S = .ok it S') :
    S' = S ∧ ∃ a xs, v = .ref a ∧ SqL K H a xs ∧ ∀ ρ1 H1 S1, Ext0 ρ H ρ1 H1 → Rep K mg ρ1 H1 S1 → it.gd S1 = true → ∃ xs, SqL K H1 a xs ∧ RVs K mg ρ1 H1 it.ds xs := by
  unfold itSeq at h
  split at h
  · cases h
    cases r with
    | fzl t r => exact ⟨rfl, _, _, rfl, .of t.1, fun ρ1 H1 S1 e _ _ => ⟨_, .of (t.ext e).1, r.ext0 e⟩⟩
  · cases h
    cases r with
    | kl t r => exact ⟨rfl, _, _, rfl, t.sq, fun ρ1 H1 S1 e _ _ => ⟨_, (t.ext e).sq, r.ext0 e⟩⟩
  · split at h
    · next ds q =>
      cases h
      cases r with
      | loc ha =>
        obtain ⟨u, hu, ro⟩ := rp.obj ha q
        cases ro with
        | lst r =>
          refine ⟨rfl, _, _, rfl, .of hu, fun ρ1 H1 S1 e rp1 hg => ?_⟩
          have hg : gdOf _ ds S1 = true := hg
          unfold gdOf at hg
          split at hg
          · next es q1 =>
            have e1 := D.eqs_of hg
            subst e1
            obtain ⟨u, hu, ro⟩ := rp1.obj (pre_get e.pre ha) q1
            cases ro with
            | lst r => exact ⟨_, .of hu, r⟩
          · cases hg
    · cases h
  · cases h
theorem gi_enumerate {p : Pos} (hg : Gl X "enumerate") (hm : X.mg "enumerate" = none) (ha : GA X [e] as) (hs : starEach [e] X.env = [(false, eval e X.env)] := by rfl) : GI X (.Tuple elts kk tpos) (.Call (.Name "enumerate" p) [e] [] pos) (mItA it_enumerate as) :=
  gi_or (pi_enumT hg hm ha hs) (pi_enum hg hm ha hs) fun σ H Q ⟨ρ, env, S, rp, re, p⟩ => by
    cases q0 : as env S with
    | bad => unfold mItA at p; rw [q0] at p; exact p.elim
    | ok ds0 S0 =>
      have p1 : Post X.K X.mg ρ H (it_enumerate ds0 S0) (fun ρ' H' it J => ItOk X.K X.mg ρ' H' J it) Q := by unfold mItA at p; rw [q0] at p; exact p
      unfold it_enumerate at p1
      split at p1
      · left
        next ds =>
        refine ⟨ρ, env, S, rp, re, ?_⟩
        rw [q0]
        intro ρ1 H1 vs e1 rp1 rv1
        obtain ⟨v, rfl, r1⟩ := rv1.one
        obtain ⟨a, xs, rfl, h1, r2⟩ := tup_at r1
        exact ⟨a, xs, rfl, h1.sq, Post.ok (Post.ext e1 p1) rp1 (itOk_enumT fun ρ2 H2 S2 e2 _ _ => ⟨xs, (h1.ext e2).sq, r2.ext0 e2⟩)⟩
      · right
        next d _ =>
        refine ⟨ρ, env, S, rp, re, ?_⟩
        rw [q0]
        intro ρ1 H1 vs e1 rp1 rv1
        obtain ⟨v, rfl, r1⟩ := rv1.one
        cases q2 : itSeq d S0 with
        | bad => rw [q2] at p1; exact p1.elim
        | ok it S2 =>
          rw [q2] at p1
          obtain ⟨rfl, a, xs, rfl, h1, hst⟩ := lst_stays rp1 r1 q2
          exact ⟨a, xs, rfl, h1, Post.ok (Post.ext e1 p1) rp1 (itOk_enumL hst)⟩
      · exact p1.elim
end
/-! ### slices, x += e, what is never evaluated, and small words -/
def mBad : EM := fun _ _ => .bad
abbrev PM := Env → Sto → R (Option Int)
def rdP (K : PySem.W.Frag) (mg : Str → Option Value) (m : PM) : TO := fun σ H Q => ∃ ρ env S, Rep K mg ρ H S ∧ REnv K mg ρ H env σ ∧ Post K mg ρ H (m env S) (fun _ _ a b => a = b) Q
abbrev GP (X : Cx) (e : Option Expr) (m : PM) : Prop := PO X e (rdP X.K X.mg m)
def mpNone : PM := fun _ S => .ok none S
def mpSome (e : EM) : PM := fun env S => (e env S).bind fun d S1 => match d with
  | .int i => .ok (some i) S1
  | _ => .bad
def cutL {α : Type} (xs : List α) (lo hi : Option Int) : List α := (xs.drop (HT.sIx xs.length 0 lo)).take (HT.sIx xs.length xs.length hi - HT.sIx xs.length 0 lo)
def m_cut (x : D) (lo hi : Option Int) (S : Sto) : R D := match x with
  | .tup a => .ok (.tup (cutL a lo hi)) S
  | x => match lstOf S x with
    | some a => .ok (.fzl (cutL a lo hi)) S
    | none => .bad
def mSl (e : EM) (lo hi : PM) : EM := fun env S => (e env S).bind fun x S1 => (lo env S1).bind fun l S2 => (hi env S2).bind fun u S3 => m_cut x l u S3
def m_iadd : D → D → Sto → R D
  | .int i, .int j, S => .ok (.int (i + j)) S
  | .loc n, y, S => match S[n]?, catOf S y with
    | some (.lst a), some b => if a.length + b.length ≤ sizeLine then .ok (.loc n) (S.set n (.lst (a ++ b))) else .bad
    | _, _ => .bad
  | _, _, _ => .bad
section
variable {X : Cx} {e : Expr} {me : EM} {pos p2 : Pos}
theorem ge_never : GE X e mBad := ⟨fun pins s σ H Q I ⟨ρ, env, S, rp, re, p⟩ => p.elim⟩
theorem gp_none : GP X none mpNone := ⟨fun pins s σ H Q I ⟨ρ, env, S, rp, re, p⟩ => po_none.run pins s σ H Q I (Post.ok p rp rfl)⟩
theorem gp_some (h : GE X e me) : GP X (some e) (mpSome me) := ⟨fun pins s σ H Q I ⟨ρ, env, S, rp, re, p⟩ => (po_some h).run pins s σ H Q I ⟨ρ, env, S, rp, re, Post.bindB p fun v H1 ρ1 S1 d e1 rp1 rv1 p1 => by
  cases rv1 with
  | int i => exact ⟨i, rfl, Post.ok p1 rp1 rfl⟩
  | _ => exact p1.elim⟩⟩
theorem RVs.cutL {K : PySem.W.Frag} {mg : Str → Option Value} {ρ : Mp} {H : Hp} {ds : List D} {vs : List V} (r : RVs K mg ρ H ds vs) (lo hi : Option Int) : RVs K mg ρ H (ML.cutL ds lo hi) (cutV vs lo hi) := by
  unfold ML.cutL cutV
  rw [r.length]
  exact (r.drop _).take _
theorem cut_whole {α : Type} {xs : List α} {lo hi : Option Int} (h : HT.sIx xs.length 0 lo = 0 ∧ HT.sIx xs.length xs.length hi = xs.length) : cutL xs lo hi = xs := by
  unfold cutL
  rw [h.1, h.2]
  simp
theorem ge_slice {lo hi : Option Expr} {ml mh : PM} (he : GE X e me) (hl : GP X lo ml) (hu : GP X hi mh) : GE X (.Subscript e (.Slice lo hi none p2) pos) (mSl me ml mh) := ⟨fun pins s σ H Q I h => by
  refine (pe_slice (SlR.or sl_tupA sl_list) he hl hu).run pins s σ H Q I ?_
  obtain ⟨ρ, env, S, rp, re, p⟩ := h
  refine ⟨ρ, env, S, rp, re, Post.bindB p fun x H1 ρ1 S1 d e1 rp1 rv1 p1 => ?_⟩
  refine ⟨ρ1, env, S1, rp1, re.ext e1, Post.bindB p1 fun l H2 ρ2 S2 l' e2 rp2 rl p2 => ?_⟩
  refine ⟨ρ2, env, S2, rp2, (re.ext e1).ext e2, Post.bindB p2 fun u H3 ρ3 S3 u' e3 rp3 ru p3 => ?_⟩
  subst rl ru
  have rv3 := (rv1.ext e2).ext e3
  unfold m_cut at p3
  split at p3
  · obtain ⟨a, xs, rfl, h1, r1⟩ := tup_at rv3
    refine .inl ⟨a, xs, rfl, h1.sq, fun w => ?_, fun _ q hq => p3 ρ3 _ _ (Ext.new hq) (rp3.new hq) (.tup (TAt.new rp3 hq) ((r1.cutL _ _).ext (Ext.new hq)))⟩
    rw [← r1.length] at w
    rw [cut_whole w] at p3
    exact p3.ok rp3 (.tup h1 r1)
  · split at p3
    · next a q =>
      obtain ⟨l, xs, rfl, h1, r1⟩ := lst_at rp3 rv3 q
      exact .inr ⟨l, xs, rfl, h1, fun q hq => p3 ρ3 _ _ (Ext.new hq) (rp3.new hq) (.fzl (FAt.new rp3 hq) ((r1.cutL _ _).ext (Ext.new hq)))⟩
    · exact p3.elim⟩
theorem go_iadd : GO X (inplaceOp .Add) m_iadd := fun pins s σ H x y v u Q I rx ry ⟨ρ, S, dx, dy, rp, hx, hy, p⟩ => by
  unfold m_iadd at p
  split at p
  · cases hx; cases hy
    exact iop_add pins s σ H _ _ v u Q I rx ry ⟨_, _, rfl, rfl, p.ok rp (.int _)⟩
  · split at p
    · next a b q1 q2 =>
      split at p
      · next hz =>
        obtain ⟨m, ys, rfl, h2, r2⟩ := cat_at rp hy q2
        cases hx with
        | loc ha =>
          obtain ⟨w, hw, ro⟩ := rp.obj ha q1
          cases ro with
          | lst r1 => exact iop_ext pins s σ H _ _ v u Q I rx ry ⟨_, m, _, ys, rfl, rfl, hw, h2, by rw [← r1.length, ← r2.length]; exact hz, p ρ _ _ (Ext.put rp (List.mem_of_getElem? ha)) (rp.put ha (.lst (r1.append r2))) (.loc ha)⟩
      · exact p.elim
    · exact p.elim
  · exact p.elim
end
theorem hu65 {A : Around} {k : Nat} (hr : Room k A) : A.units + 65 < cLine := by
  have := hr.un
  omega
def scp (l : List (String × NameKind)) (m : List (String × String)) : Scope := { kind := .function, names := l.map fun p => (Str.ofString p.1, p.2), isGenerator := false, isCoroutine := false, more := m.map fun p => (Str.ofString p.1, Const.str (Str.ofString p.2)) }
end ML
/-! Plain reasoning about what the plain functions give. -/
namespace ML
open PySem L2
theorem bind_ok {α β : Type} (a : α) (S : Sto) (k : α → Sto → R β) : (R.ok a S).bind k = k a S := rfl
theorem bind_bad {α β : Type} (k : α → Sto → R β) : (R.bad : R α).bind k = .bad := rfl
theorem bind_assoc {α β γ : Type} (r : R α) (k : α → Sto → R β) (k' : β → Sto → R γ) : (r.bind k).bind k' = r.bind fun a S => (k a S).bind k' := by cases r <;> rfl
@[irreducible] def Run {α : Type} (r : R α) (Q : α → Sto → Prop) : Prop := match r with
  | .ok a S => Q a S
  | .bad => False
section
variable {α β : Type}
@[simp] theorem e_run_ok (a : α) (S : Sto) (Q : α → Sto → Prop) : Run (R.ok a S) Q = Q a S := by unfold Run; rfl
@[simp] theorem e_run_bad (Q : α → Sto → Prop) : Run (R.bad : R α) Q = False := by unfold Run; rfl
theorem Run.ok {a : α} {S : Sto} {Q : α → Sto → Prop} (h : Q a S) : Run (R.ok a S) Q := by rw [e_run_ok]; exact h
theorem Run.bind {r : R α} {k : α → Sto → R β} {Q : β → Sto → Prop} (h : Run r fun a S => Run (k a S) Q) : Run (r.bind k) Q := by
  cases r with
  | ok a S => rw [e_run_ok] at h; exact h
  | bad => rw [e_run_bad] at h; exact h.elim
theorem Run.mono {r : R α} {Q Q' : α → Sto → Prop} (h : Run r Q) (m : ∀ a S, Q a S → Q' a S) : Run r Q' := by
  cases r with
  | ok a S => rw [e_run_ok] at h ⊢; exact m a S h
  | bad => rw [e_run_bad] at h; exact h.elim
theorem Run.eq {r : R α} {a : α} {S : Sto} {Q : α → Sto → Prop} (e : r = .ok a S) (h : Q a S) : Run r Q := by rw [e, e_run_ok]; exact h
theorem Run.out {r : R α} {Q : α → Sto → Prop} (h : Run r Q) : ∃ a S, r = .ok a S ∧ Q a S := by
  cases r with
  | ok a S => rw [e_run_ok] at h; exact ⟨a, S, rfl, h⟩
  | bad => rw [e_run_bad] at h; exact h.elim
end
/-- a comprehension, by an invariant -/
theorem run_lcAux {g : TgM} {t : TM} {e : EM} {gd : Sto → Bool} {env : Env} {vs : List Nat} {ds : List D} {Q : List D → Sto → Prop} (I : Nat → List D → Sto → Prop) (hn : ds.length ≤ sizeLine)
    (step : ∀ i d acc S, ds[i]? = some d → I i acc S → gd S = true ∧ Run (g d (wipeE env vs) S) fun env1 S1 => Run (t env1 S1) fun b S2 => if b = true then Run (e env1 S2) fun y S3 => I (i + 1) (acc ++ [y]) S3 else I (i + 1) acc S2)
    (fin : ∀ acc S, I ds.length acc S → gd S = true ∧ Q acc S) : ∀ (k i : Nat) (acc : List D) (S : Sto), i + k = ds.length → acc.length ≤ i → I i acc S → Run (lcD g t e gd env vs (ds.drop i) acc S) Q := by
  intro k
  induction k with
  | zero =>
    intro i acc S hi _ h
    have e : i = ds.length := by omega
    subst e
    rw [List.drop_of_length_le (Nat.le_refl _)]
    obtain ⟨h1, h2⟩ := fin acc S h
    unfold lcD
    rw [if_pos h1]
    exact .ok h2
  | succ k ih =>
    intro i acc S hi hl h
    have hlt : i < ds.length := by omega
    rw [List.drop_eq_getElem_cons hlt]
    obtain ⟨h1, h2⟩ := step i _ acc S (List.getElem?_eq_getElem hlt) h
    unfold lcD
    rw [if_pos h1]
    refine Run.bind (h2.mono fun env1 S1 h3 => Run.bind (h3.mono fun b S2 h4 => ?_))
    cases b with
    | true =>
      have h5 : Run (e env1 S2) fun y S3 => I (i + 1) (acc ++ [y]) S3 := h4
      refine Run.bind (h5.mono fun y S3 h6 => ?_)
      rw [if_pos (show acc.length < sizeLine by omega)]
      exact ih (i + 1) _ _ (by omega) (by rw [List.length_append]; simp; omega) h6
    | false => exact ih (i + 1) acc S2 (by omega) (by omega) h4
theorem run_lc {g : TgM} {t : TM} {e : EM} {gd : Sto → Bool} {env : Env} {vs : List Nat} {ds : List D} {S : Sto} {Q : List D → Sto → Prop} (I : Nat → List D → Sto → Prop) (hn : ds.length ≤ sizeLine) (h0 : I 0 [] S)
    (step : ∀ i d acc S, ds[i]? = some d → I i acc S → gd S = true ∧ Run (g d (wipeE env vs) S) fun env1 S1 => Run (t env1 S1) fun b S2 => if b = true then Run (e env1 S2) fun y S3 => I (i + 1) (acc ++ [y]) S3 else I (i + 1) acc S2)
    (fin : ∀ acc S, I ds.length acc S → gd S = true ∧ Q acc S) : Run (lcD g t e gd env vs ds [] S) Q := by
  have := run_lcAux I hn step fin ds.length 0 [] S (by omega) (Nat.le_refl _) h0
  rwa [List.drop_zero] at this
/-- a comprehension that changes nothing -/
theorem lc_pure {g : TgM} {t : TM} {e : EM} {env : Env} {vs : List Nat} {S : Sto} (E : D → Env) (p : D → Bool) (f : D → D) : ∀ (ds acc : List D), acc.length + ds.length ≤ sizeLine →
    (∀ d, d ∈ ds → g d (wipeE env vs) S = .ok (E d) S ∧ t (E d) S = .ok (p d) S ∧ (p d = true → e (E d) S = .ok (f d) S)) →
    lcD g t e (fun _ => true) env vs ds acc S = .ok (acc ++ (ds.filter p).map f) S
  | [], acc, _, _ => by simp [lcD]
  | d :: ds, acc, hz, h => by
    obtain ⟨h1, h2, h3⟩ := h d (List.mem_cons_self ..)
    rw [List.length_cons] at hz
    unfold lcD
    rw [if_pos rfl, h1, bind_ok, h2, bind_ok]
    cases q : p d with
    | true =>
      rw [if_pos rfl, h3 q, bind_ok, if_pos (by omega), lc_pure E p f ds (acc ++ [f d]) (by rw [List.length_append]; simp; omega) fun x hx => h x (List.mem_cons_of_mem _ hx)]
      simp [q]
    | false =>
      rw [if_neg Bool.false_ne_true, lc_pure E p f ds acc (by omega) fun x hx => h x (List.mem_cons_of_mem _ hx)]
      simp [q]
/-- a for loop, by an invariant -/
theorem run_forAux {g : TgM} {body : SM} {gd : Sto → Bool} {ds : List D} {Q : Fl → Sto → Prop} (I : Nat → Env → Sto → Prop)
    (step : ∀ i d env S, ds[i]? = some d → I i env S → gd S = true ∧ Run (g d env S) fun env1 S1 => Run (body env1 S1) fun f S2 => match f with
      | .nx e => I (i + 1) e S2
      | .ct e => I (i + 1) e S2
      | .bk e => Q (.nx e) S2
      | .rt r => Q (.rt r) S2)
    (fin : ∀ env S, I ds.length env S → gd S = true ∧ Q (.nx env) S) : ∀ (k i : Nat) (env : Env) (S : Sto), i + k = ds.length → I i env S → Run (forD g body gd (ds.drop i) env S) Q := by
  intro k
  induction k with
  | zero =>
    intro i env S hi h
    have e : i = ds.length := by omega
    subst e
    rw [List.drop_of_length_le (Nat.le_refl _)]
    obtain ⟨h1, h2⟩ := fin env S h
    unfold forD
    rw [if_pos h1]
    exact .ok h2
  | succ k ih =>
    intro i env S hi h
    have hlt : i < ds.length := by omega
    rw [List.drop_eq_getElem_cons hlt]
    obtain ⟨h1, h2⟩ := step i _ env S (List.getElem?_eq_getElem hlt) h
    unfold forD
    rw [if_pos h1]
    refine Run.bind (h2.mono fun env1 S1 h3 => Run.bind (h3.mono fun f S2 h4 => ?_))
    cases f with
    | nx e => exact ih (i + 1) _ _ (by omega) h4
    | ct e => exact ih (i + 1) _ _ (by omega) h4
    | bk e => exact .ok h4
    | rt r => exact .ok h4
theorem run_for {g : TgM} {body : SM} {gd : Sto → Bool} {ds : List D} {env : Env} {S : Sto} {Q : Fl → Sto → Prop} (I : Nat → Env → Sto → Prop) (h0 : I 0 env S)
    (step : ∀ i d env S, ds[i]? = some d → I i env S → gd S = true ∧ Run (g d env S) fun env1 S1 => Run (body env1 S1) fun f S2 => match f with
      | .nx e => I (i + 1) e S2
      | .ct e => I (i + 1) e S2
      | .bk e => Q (.nx e) S2
      | .rt r => Q (.rt r) S2)
    (fin : ∀ env S, I ds.length env S → gd S = true ∧ Q (.nx env) S) : Run (forD g body gd ds env S) Q := by
  have := run_forAux I step fin ds.length 0 env S (by omega) h0
  rwa [List.drop_zero] at this
/-! ### small facts -/
theorem rangeD_len (lo : Int) (n : Nat) : (rangeD lo n).length = n := by unfold rangeD; simp
theorem rangeD_get {lo : Int} {n i : Nat} {d : D} (h : (rangeD lo n)[i]? = some d) : i < n ∧ d = .int (lo + (i : Nat)) := by
  have hi : i < n := by
    have := (List.getElem?_eq_some_iff.mp h).1
    rwa [rangeD_len] at this
  refine ⟨hi, ?_⟩
  have : (rangeD lo n)[i]? = some (.int (lo + (i : Nat))) := by unfold rangeD; simp [hi]
  rw [h] at this
  exact Option.some.inj this
theorem mem_rangeD {lo : Int} {n : Nat} {d : D} : d ∈ rangeD lo n ↔ ∃ i : Nat, i < n ∧ d = .int (lo + (i : Nat)) := by
  unfold rangeD
  simp only [List.mem_map, List.mem_range]
  exact ⟨fun ⟨i, h, e⟩ => ⟨i, h, e.symm⟩, fun ⟨i, h, e⟩ => ⟨i, h, e.symm⟩⟩
theorem intsOf_map (ns : List Int) : intsOf (ns.map D.int) = some ns := by
  induction ns with
  | nil => rfl
  | cons n ns ih => simp [intsOf, ih]
theorem blsOf_map (ns : List Bool) : blsOf (ns.map D.bl) = some ns := by
  induction ns with
  | nil => rfl
  | cons n ns ih => simp [blsOf, ih]
/-! no place of the store in it -/
mutual
def D.pl : D → Bool
  | .tup ds => D.pls ds
  | .fzl ds => D.pls ds
  | .kl ds => D.pls ds
  | .loc _ => false
  | _ => true
def D.pls : List D → Bool
  | [] => true
  | d :: ds => D.pl d && D.pls ds
end
mutual
theorem cl_of_pl (n : Nat) : ∀ d : D, D.pl d = true → D.cl n d = true
  | .non, _ => rfl
  | .bl _, _ => rfl
  | .int _, _ => rfl
  | .str _, _ => rfl
  | .ty _, _ => rfl
  | .glb _, _ => rfl
  | .tup ds, h => by simpa [D.cl] using cls_of_pls n ds (by simpa [D.pl] using h)
  | .fzl ds, h => by simpa [D.cl] using cls_of_pls n ds (by simpa [D.pl] using h)
  | .kl ds, h => by simpa [D.cl] using cls_of_pls n ds (by simpa [D.pl] using h)
  | .loc _, h => by simp [D.pl] at h
theorem cls_of_pls (n : Nat) : ∀ ds : List D, D.pls ds = true → D.cls n ds = true
  | [], _ => rfl
  | d :: ds, h => by
    simp [D.pls] at h
    simp [D.cls, cl_of_pl n d h.1, cls_of_pls n ds h.2]
end
theorem pls_iff {ds : List D} : D.pls ds = true ↔ ∀ d ∈ ds, D.pl d = true := by
  induction ds with
  | nil => simp [D.pls]
  | cons d ds ih => simp [D.pls, ih]
end ML
namespace ML
open PySem L2
/-! ### the operators on what is known -/
section
variable {S : Sto} {i j : Int} {a b : List D} {x y d : D} {n k : Nat} {p q : Bool} {s t : Str}
@[simp] theorem e_bind_ok {α β : Type} (a : α) (S : Sto) (k : α → Sto → R β) : (R.ok a S).bind k = k a S := (rfl)
@[simp] theorem e_bind_bad {α β : Type} (k : α → Sto → R β) : (R.bad : R α).bind k = .bad := (rfl)
@[simp] theorem e_add : m_add (.int i) (.int j) S = .ok (.int (i + j)) S := (rfl)
@[simp] theorem e_sub : m_sub (.int i) (.int j) S = .ok (.int (i - j)) S := (rfl)
theorem e_mul (h : CMul i j) : m_mul (.int i) (.int j) S = .ok (.int (i * j)) S := by
  show (if CMul i j then _ else _) = _
  rw [if_pos h]
theorem e_fdiv (h : 0 < j) (h2 : j < 1073741824) : m_fdiv (.int i) (.int j) S = .ok (.int (i / j)) S := by
  show (if j ≠ 0 ∧ j.natAbs < 1073741824 then _ else _) = _
  rw [if_pos ⟨by omega, by omega⟩, Int.fdiv_eq_ediv_of_nonneg _ (Int.le_of_lt h)]
theorem e_mod (h : 0 < j) : m_mod (.int i) (.int j) S = .ok (.int (i % j)) S := by
  show (if j ≠ 0 then _ else _) = _
  rw [if_pos (by omega), Int.fmod_eq_emod_of_nonneg _ (Int.le_of_lt h)]
@[simp] theorem e_gt : m_gt (.int i) (.int j) S = .ok (.bl (decide (j < i))) S := (rfl)
@[simp] theorem e_ge : m_ge (.int i) (.int j) S = .ok (.bl (decide (j ≤ i))) S := (rfl)
@[simp] theorem e_le : m_le (.int i) (.int j) S = .ok (.bl (decide (i ≤ j))) S := (rfl)
@[simp] theorem e_lt : m_lt (.int i) (.int j) S = .ok (.bl (decide (i < j))) S := (rfl)
@[simp] theorem e_isB : isB (.bl p) S = .ok p S := (rfl)
@[simp] theorem e_neg : m_neg (.int i) S = .ok (.int (-i)) S := (rfl)
@[simp] theorem e_int : m_int [.int i] S = .ok (.int i) S := (rfl)
@[simp] theorem e_abs : m_abs [.int i] S = .ok (.int (if i < 0 then -i else i)) S := (rfl)
@[simp] theorem e_lenT : m_len [.tup a] S = .ok (.int a.length) S := (rfl)
@[simp] theorem e_lenF : m_len [.fzl a] S = .ok (.int a.length) S := (rfl)
theorem e_lenL (h : S[n]? = some (.lst a)) : m_len [.loc n] S = .ok (.int a.length) S := by simp [m_len, lstOf, h]
theorem e_ixT (h : L2.atI a i = some d) : m_ix (.tup a) (.int i) S = .ok d S := by simp [m_ix, h]
theorem e_ixF (h : L2.atI a i = some d) : m_ix (.fzl a) (.int i) S = .ok d S := by simp [m_ix, lstOf, h]
theorem e_ixL (h0 : S[n]? = some (.lst a)) (h : L2.atI a i = some d) : m_ix (.loc n) (.int i) S = .ok d S := by simp [m_ix, lstOf, h0, h]
theorem e_setL (h0 : S[n]? = some (.lst a)) {k : Nat} (h : ixN a.length i = some k) : m_setL (.loc n) (.int i) x S = .ok () (S.set n (.lst (a.set k x))) := by simp [m_setL, h0, h]
theorem e_app (h0 : S[n]? = some (.lst a)) (h : a.length < sizeLine) : m_append (.loc n) [y] S = .ok .non (S.set n (.lst (a ++ [y]))) := by simp [m_append, h0, h]
theorem e_iaddL (h0 : S[n]? = some (.lst a)) (h : a.length + b.length ≤ sizeLine) : m_iadd (.loc n) (.fzl b) S = .ok (.loc n) (S.set n (.lst (a ++ b))) := by simp [m_iadd, h0, catOf, h]
@[simp] theorem e_iadd : m_iadd (.int i) (.int j) S = .ok (.int (i + j)) S := (rfl)
theorem e_addT (h : a.length + b.length ≤ sizeLine) : m_add (.tup a) (.tup b) S = .ok (.tup (a ++ b)) S := by simp [m_add, h]
theorem e_addF (h : a.length + b.length ≤ sizeLine) : m_add (.fzl a) (.fzl b) S = .ok (.fzl (a ++ b)) S := by simp [m_add, catOf, h]
@[simp] theorem e_tupT : m_tuple [.tup a] S = .ok (.tup a) S := (rfl)
@[simp] theorem e_tupF : m_tuple [.fzl a] S = .ok (.tup a) S := (rfl)
theorem e_tupL (h : S[n]? = some (.lst a)) : m_tuple [.loc n] S = .ok (.tup a) S := by simp [m_tuple, seqOf, lstOf, h]
@[simp] theorem e_listT : m_list [.tup a] S = .ok (.fzl a) S := (rfl)
@[simp] theorem e_listF : m_list [.fzl a] S = .ok (.fzl a) S := (rfl)
@[simp] theorem e_listK : m_list [.kl a] S = .ok (.fzl a) S := (rfl)
theorem e_sumF {ns : List Int} : m_sum [.fzl (ns.map D.int)] S = .ok (.int ns.sum) S := by simp [m_sum, intsL, lstOf, intsOf_map]
theorem e_sumT {ns : List Int} : m_sum [.tup (ns.map D.int)] S = .ok (.int ns.sum) S := by simp [m_sum, intsOf_map]
theorem e_allF {ns : List Bool} : m_all [.fzl (ns.map D.bl)] S = .ok (.bl (ns.all id)) S := by simp [m_all, lstOf, blsOf_map]
theorem e_countF {ns : List Int} : m_count (.fzl (ns.map D.int)) [.int i] S = .ok (.int (ns.count i : Nat)) S := by simp [m_count, intsL, lstOf, intsOf_map]
@[simp] theorem e_isNon : m_is x .non S = (match x with | .glb _ => .bad | x => .ok (.bl (isNon x)) S) := by cases x <;> rfl
@[simp] theorem e_isBl : m_is (.bl p) (.bl q) S = .ok (.bl (decide (p = q))) S := (rfl)
@[simp] theorem e_itT : itAny (.tup a) S = .ok ⟨a, fun _ => true⟩ S := (rfl)
@[simp] theorem e_itF : itAny (.fzl a) S = .ok ⟨a, fun _ => true⟩ S := (rfl)
theorem e_itL (h : S[n]? = some (.lst a)) : itAny (.loc n) S = .ok ⟨a, gdOf n a⟩ S := by simp [itAny, itSeq, h]
theorem e_r1 (h : smallI i) : itR1 [.int i] S = .ok ⟨rangeD 0 i.toNat, fun _ => true⟩ S := by simp [itR1, h]
theorem e_r2 (h : smallI i) (h2 : smallI j) : itR2 [.int i, .int j] S = .ok ⟨rangeD i (j - i).toNat, fun _ => true⟩ S := by simp [itR2, h, h2]
@[simp] theorem e_en : it_enumerate [.tup a] S = .ok ⟨enumD a, fun _ => true⟩ S := (rfl)
/-! the constructs, opened -/
@[simp] theorem o_expr (e : EM) (env : Env) : sExpr e env S = (e env S).bind fun _ S1 => .ok (.nx env) S1 := (rfl)
@[simp] theorem o_ret (e : EM) (env : Env) : sRet e env S = (e env S).bind fun d S1 => .ok (.rt d) S1 := (rfl)
@[simp] theorem o_if (c : TM) (a b : SM) (env : Env) : sIf c a b env S = (c env S).bind fun k S1 => if k = true then a env S1 else b env S1 := (rfl)
@[simp] theorem o_asg (e : EM) (g : TgM) (env : Env) : sAsg e g env S = (e env S).bind fun d S1 => (g d env S1).bind fun env1 S2 => .ok (.nx env1) S2 := (rfl)
@[simp] theorem o_par (is : List Nat) (a : AM) (env : Env) : sPar is a env S = (a env S).bind fun ds S1 => if ds.length = is.length then .ok (.nx (setAll is ds env)) S1 else .bad := (rfl)
theorem o_for (m : IM) (g : TgM) (b : SM) (env : Env) : sFor m g b env S = (m env S).bind fun it S1 => forD g b it.gd it.ds env S1 := (rfl)
theorem o_lc (m : IM) (g : TgM) (t : TM) (e : EM) (vs : List Nat) (env : Env) : mLc m g t e vs env S = (m env S).bind fun it S1 => (lcD g t e it.gd env vs it.ds [] S1).bind fun acc S2 => .ok (.fzl acc) S2 := (rfl)
theorem o_seq (a b : SM) (env : Env) : sSeq a b env S = (a env S).bind fun f S1 => match f with
  | .nx e => b e S1
  | f => .ok f S1 := (rfl)
@[simp] theorem o_op (f : D → D → Sto → R D) (a b : EM) (env : Env) : mOp f a b env S = (a env S).bind fun x S1 => (b env S1).bind fun y S2 => f x y S2 := (rfl)
@[simp] theorem o_un (f : D → Sto → R D) (a : EM) (env : Env) : mUn f a env S = (a env S).bind fun x S1 => f x S1 := (rfl)
@[simp] theorem o_T (a : EM) (env : Env) : mT a env S = (a env S).bind isB := (rfl)
@[simp] theorem o_not (a : TM) (env : Env) : mNot a env S = (a env S).bind fun c S1 => .ok (!c) S1 := (rfl)
@[simp] theorem o_and (a b : TM) (env : Env) : mAnd a b env S = (a env S).bind fun c S1 => if c = true then b env S1 else .ok false S1 := (rfl)
@[simp] theorem o_or (a b : TM) (env : Env) : mOr a b env S = (a env S).bind fun c S1 => if c = true then .ok true S1 else b env S1 := (rfl)
@[simp] theorem o_ifE (c : TM) (a b : EM) (env : Env) : mIfE c a b env S = (c env S).bind fun k S1 => if k = true then a env S1 else b env S1 := (rfl)
@[simp] theorem o_andV (a b : EM) (env : Env) : mAndV a b env S = (a env S).bind fun x S1 => (isB x S1).bind fun c S2 => if c = true then b env S2 else .ok (.bl false) S2 := (rfl)
@[simp] theorem o_orV (a b : EM) (env : Env) : mOrV a b env S = (a env S).bind fun x S1 => (isB x S1).bind fun c S2 => if c = true then .ok (.bl true) S2 else b env S2 := (rfl)
@[simp] theorem o_notV (a : EM) (env : Env) : mNotV a env S = (a env S).bind fun x S1 => (isB x S1).bind fun c S2 => .ok (.bl (!c)) S2 := (rfl)
@[simp] theorem o_chain (f g : D → D → Sto → R D) (a b c : EM) (env : Env) : mChain f g a b c env S = (a env S).bind fun x S1 => (b env S1).bind fun y S2 => (f x y S2).bind fun z S3 => (isB z S3).bind fun k S4 =>
  if k = true then (c env S4).bind fun w S5 => g y w S5 else .ok (.bl false) S4 := (rfl)
@[simp] theorem o_nil (env : Env) : mNil env S = .ok [] S := (rfl)
@[simp] theorem o_cons (a : EM) (r : AM) (env : Env) : mCons a r env S = (a env S).bind fun d S1 => (r env S1).bind fun ds S2 => .ok (d :: ds) S2 := (rfl)
@[simp] theorem o_call (f : List D → Sto → R D) (a : AM) (env : Env) : mCall f a env S = (a env S).bind fun ds S1 => f ds S1 := (rfl)
@[simp] theorem o_fn (n : Nat) (f : List D → Sto → R D) (a : AM) (env : Env) : mFn n f a env S = (a env S).bind fun ds S1 => if ds.length = n then f ds S1 else .bad := (rfl)
@[simp] theorem o_tup (a : AM) (env : Env) : mTup a env S = (a env S).bind fun ds S1 => if ds.length ≤ sizeLine then .ok (.tup ds) S1 else .bad := (rfl)
@[simp] theorem o_lst (a : AM) (env : Env) : mLst a env S = (a env S).bind fun ds S1 => if ds.length ≤ sizeLine then .ok (.fzl ds) S1 else .bad := (rfl)
@[simp] theorem o_lstM (a : AM) (env : Env) : mLstM a env S = (a env S).bind fun ds S1 => if ds.length ≤ sizeLine then newL ds S1 else .bad := (rfl)
@[simp] theorem o_C (env : Env) : mC d env S = .ok d S := (rfl)
@[simp] theorem o_var0 (env : Env) : mVar 0 (some d :: env) S = .ok d S := (rfl)
@[simp] theorem o_varS (e : Option D) (env : Env) : mVar (n + 1) (e :: env) S = mVar n env S := by simp [mVar]
@[simp] theorem o_gN (env : Env) : gN n d env S = .ok (env.set n (some d)) S := (rfl)
@[simp] theorem o_gSub (o i : EM) (f : SetM) (env : Env) : gSubM o i f d env S = (o env S).bind fun x S1 => (i env S1).bind fun j S2 => (f x j d S2).bind fun _ S3 => .ok env S3 := (rfl)
@[simp] theorem o_meth (T : String) (f : D → List D → Sto → R D) (o : EM) (a : AM) (env : Env) : mMeth T f o a env S = (o env S).bind fun x S1 => if tyD S1 T x = true then (a env S1).bind fun ds S2 => f x ds S2 else .bad := (rfl)
@[simp] theorem o_it (f : D → Sto → R Itm) (e : EM) (env : Env) : mIt f e env S = (e env S).bind f := (rfl)
@[simp] theorem o_itA (f : List D → Sto → R Itm) (e : AM) (env : Env) : mItA f e env S = (e env S).bind f := (rfl)
@[simp] theorem o_sl (e : EM) (lo hi : PM) (env : Env) : mSl e lo hi env S = (e env S).bind fun x S1 => (lo env S1).bind fun l S2 => (hi env S2).bind fun u S3 => m_cut x l u S3 := (rfl)
@[simp] theorem o_pN (env : Env) : mpNone env S = .ok none S := (rfl)
@[simp] theorem o_pS (e : EM) (env : Env) : mpSome e env S = (e env S).bind fun d S1 => match d with
  | .int i => .ok (some i) S1
  | _ => .bad := (rfl)
@[simp] theorem o_yes (env : Env) : tmYes env S = .ok true S := (rfl)
@[simp] theorem o_nx (env : Env) : sNx env S = .ok (.nx env) S := (rfl)
theorem o_aug (i : Nat) (e : EM) (f : D → D → Sto → R D) (env : Env) (h : env[i]? = some (some x)) : sAug i e f env S = (e env S).bind fun y S1 => (f x y S1).bind fun z S2 => .ok (.nx (env.set i (some z))) S2 := by unfold sAug; rw [h]
end
@[simp] theorem e_env0 (n : Nat) (ds : List D) : env0 n ds = ds.map some ++ List.replicate (n - ds.length) none := (rfl)
@[simp] theorem e_rep0 {α : Type} (a : α) : List.replicate 0 a = [] := (rfl)
/-- a def from its arguments -/
theorem run_fn {n : Nat} {m : SM} {ds : List D} {S : Sto} {Q : D → Sto → Prop} (h : Run (m (env0 n ds) S) fun f S1 => match f with
    | .rt d => Q d S1
    | .nx _ => Q .non S1
    | _ => False) : Run (fnD n m ds S) Q := by
  unfold fnD runFl
  refine Run.bind (h.mono fun f S1 q => ?_)
  cases f <;> first | exact .ok q | exact q.elim
@[simp] theorem e_runbind {α β : Type} {r : R α} {k : α → Sto → R β} {Q : β → Sto → Prop} : Run (r.bind k) Q = Run r fun a S => Run (k a S) Q := by cases r <;> simp
theorem run_seq {a b : SM} {env : Env} {S : Sto} {Q : Fl → Sto → Prop} (h : Run (a env S) fun f S1 => match f with
    | .nx e => Run (b e S1) Q
    | f => Q f S1) : Run (sSeq a b env S) Q := by
  refine Run.bind (h.mono fun f S1 q => ?_)
  cases f <;> first | exact q | exact .ok q
@[simp] theorem isi_non_tuple {S : Sto} : m_isi [.non, .ty "tuple"] S = .ok (.bl false) S := by simp [m_isi, tyOfD, isiB]
@[simp] theorem isi_non_list {S : Sto} : m_isi [.non, .ty "list"] S = .ok (.bl false) S := by simp [m_isi, tyOfD, isiB]
@[simp] theorem isi_non_bool {S : Sto} : m_isi [.non, .ty "bool"] S = .ok (.bl false) S := by simp [m_isi, tyOfD, isiB]
@[simp] theorem isi_non_int {S : Sto} : m_isi [.non, .ty "int"] S = .ok (.bl false) S := by simp [m_isi, tyOfD, isiB]
@[simp] theorem isi_non_str {S : Sto} : m_isi [.non, .ty "str"] S = .ok (.bl false) S := by simp [m_isi, tyOfD, isiB]
@[simp] theorem isi_non_dict {S : Sto} : m_isi [.non, .ty "dict"] S = .ok (.bl false) S := by simp [m_isi, tyOfD, isiB]
@[simp] theorem isi_bl_tuple {p : Bool} {S : Sto} : m_isi [.bl p, .ty "tuple"] S = .ok (.bl false) S := by simp [m_isi, tyOfD, isiB]
@[simp] theorem isi_bl_list {p : Bool} {S : Sto} : m_isi [.bl p, .ty "list"] S = .ok (.bl false) S := by simp [m_isi, tyOfD, isiB]
@[simp] theorem isi_bl_bool {p : Bool} {S : Sto} : m_isi [.bl p, .ty "bool"] S = .ok (.bl true) S := by simp [m_isi, tyOfD, isiB]
@[simp] theorem isi_bl_int {p : Bool} {S : Sto} : m_isi [.bl p, .ty "int"] S = .ok (.bl true) S := by simp [m_isi, tyOfD, isiB]
@[simp] theorem isi_bl_str {p : Bool} {S : Sto} : m_isi [.bl p, .ty "str"] S = .ok (.bl false) S := by simp [m_isi, tyOfD, isiB]
@[simp] theorem isi_bl_dict {p : Bool} {S : Sto} : m_isi [.bl p, .ty "dict"] S = .ok (.bl false) S := by simp [m_isi, tyOfD, isiB]
@[simp] theorem isi_int_tuple {i : Int} {S : Sto} : m_isi [.int i, .ty "tuple"] S = .ok (.bl false) S := by simp [m_isi, tyOfD, isiB]
@[simp] theorem isi_int_list {i : Int} {S : Sto} : m_isi [.int i, .ty "list"] S = .ok (.bl false) S := by simp [m_isi, tyOfD, isiB]
@[simp] theorem isi_int_bool {i : Int} {S : Sto} : m_isi [.int i, .ty "bool"] S = .ok (.bl false) S := by simp [m_isi, tyOfD, isiB]
@[simp] theorem isi_int_int {i : Int} {S : Sto} : m_isi [.int i, .ty "int"] S = .ok (.bl true) S := by simp [m_isi, tyOfD, isiB]
@[simp] theorem isi_int_str {i : Int} {S : Sto} : m_isi [.int i, .ty "str"] S = .ok (.bl false) S := by simp [m_isi, tyOfD, isiB]
@[simp] theorem isi_int_dict {i : Int} {S : Sto} : m_isi [.int i, .ty "dict"] S = .ok (.bl false) S := by simp [m_isi, tyOfD, isiB]
@[simp] theorem isi_str_tuple {s : Str} {S : Sto} : m_isi [.str s, .ty "tuple"] S = .ok (.bl false) S := by simp [m_isi, tyOfD, isiB]
@[simp] theorem isi_str_list {s : Str} {S : Sto} : m_isi [.str s, .ty "list"] S = .ok (.bl false) S := by simp [m_isi, tyOfD, isiB]
@[simp] theorem isi_str_bool {s : Str} {S : Sto} : m_isi [.str s, .ty "bool"] S = .ok (.bl false) S := by simp [m_isi, tyOfD, isiB]
@[simp] theorem isi_str_int {s : Str} {S : Sto} : m_isi [.str s, .ty "int"] S = .ok (.bl false) S := by simp [m_isi, tyOfD, isiB]
@[simp] theorem isi_str_str {s : Str} {S : Sto} : m_isi [.str s, .ty "str"] S = .ok (.bl true) S := by simp [m_isi, tyOfD, isiB]
@[simp] theorem isi_str_dict {s : Str} {S : Sto} : m_isi [.str s, .ty "dict"] S = .ok (.bl false) S := by simp [m_isi, tyOfD, isiB]
@[simp] theorem isi_tup_tuple {a : List D} {S : Sto} : m_isi [.tup a, .ty "tuple"] S = .ok (.bl true) S := by simp [m_isi, tyOfD, isiB]
@[simp] theorem isi_tup_list {a : List D} {S : Sto} : m_isi [.tup a, .ty "list"] S = .ok (.bl false) S := by simp [m_isi, tyOfD, isiB]
@[simp] theorem isi_tup_bool {a : List D} {S : Sto} : m_isi [.tup a, .ty "bool"] S = .ok (.bl false) S := by simp [m_isi, tyOfD, isiB]
@[simp] theorem isi_tup_int {a : List D} {S : Sto} : m_isi [.tup a, .ty "int"] S = .ok (.bl false) S := by simp [m_isi, tyOfD, isiB]
@[simp] theorem isi_tup_str {a : List D} {S : Sto} : m_isi [.tup a, .ty "str"] S = .ok (.bl false) S := by simp [m_isi, tyOfD, isiB]
@[simp] theorem isi_tup_dict {a : List D} {S : Sto} : m_isi [.tup a, .ty "dict"] S = .ok (.bl false) S := by simp [m_isi, tyOfD, isiB]
@[simp] theorem isi_fzl_tuple {a : List D} {S : Sto} : m_isi [.fzl a, .ty "tuple"] S = .ok (.bl false) S := by simp [m_isi, tyOfD, isiB]
@[simp] theorem isi_fzl_list {a : List D} {S : Sto} : m_isi [.fzl a, .ty "list"] S = .ok (.bl true) S := by simp [m_isi, tyOfD, isiB]
@[simp] theorem isi_fzl_bool {a : List D} {S : Sto} : m_isi [.fzl a, .ty "bool"] S = .ok (.bl false) S := by simp [m_isi, tyOfD, isiB]
@[simp] theorem isi_fzl_int {a : List D} {S : Sto} : m_isi [.fzl a, .ty "int"] S = .ok (.bl false) S := by simp [m_isi, tyOfD, isiB]
@[simp] theorem isi_fzl_str {a : List D} {S : Sto} : m_isi [.fzl a, .ty "str"] S = .ok (.bl false) S := by simp [m_isi, tyOfD, isiB]
@[simp] theorem isi_fzl_dict {a : List D} {S : Sto} : m_isi [.fzl a, .ty "dict"] S = .ok (.bl false) S := by simp [m_isi, tyOfD, isiB]
@[simp] theorem isi_kl_tuple {a : List D} {S : Sto} : m_isi [.kl a, .ty "tuple"] S = .ok (.bl false) S := by simp [m_isi, tyOfD, isiB]
@[simp] theorem isi_kl_list {a : List D} {S : Sto} : m_isi [.kl a, .ty "list"] S = .ok (.bl true) S := by simp [m_isi, tyOfD, isiB]
@[simp] theorem isi_kl_bool {a : List D} {S : Sto} : m_isi [.kl a, .ty "bool"] S = .ok (.bl false) S := by simp [m_isi, tyOfD, isiB]
@[simp] theorem isi_kl_int {a : List D} {S : Sto} : m_isi [.kl a, .ty "int"] S = .ok (.bl false) S := by simp [m_isi, tyOfD, isiB]
@[simp] theorem isi_kl_str {a : List D} {S : Sto} : m_isi [.kl a, .ty "str"] S = .ok (.bl false) S := by simp [m_isi, tyOfD, isiB]
@[simp] theorem isi_kl_dict {a : List D} {S : Sto} : m_isi [.kl a, .ty "dict"] S = .ok (.bl false) S := by simp [m_isi, tyOfD, isiB]
@[simp] theorem e_neBl {p q : Bool} {S : Sto} : m_ne (.bl p) (.bl q) S = .ok (.bl (!(p == q))) S := by cases p <;> cases q <;> rfl
@[simp] theorem e_eqBl {p q : Bool} {S : Sto} : m_eq (.bl p) (.bl q) S = .ok (.bl (p == q)) S := by cases p <;> cases q <;> rfl
theorem pdS_int {i : Int} {S : Sto} : pdS S (.int i) = some (.int i) := (rfl)
@[simp] theorem e_neInt {i j : Int} {S : Sto} : m_ne (.int i) (.int j) S = .ok (.bl (!(i == j))) S := (rfl)
@[simp] theorem e_eqInt {i j : Int} {S : Sto} : m_eq (.int i) (.int j) S = .ok (.bl (i == j)) S := (rfl)
@[simp] theorem e_eqNil {S : Sto} : m_eq (.fzl []) (.fzl []) S = .ok (.bl true) S := (rfl)
@[simp] theorem e_neNil {S : Sto} : m_ne (.fzl []) (.fzl []) S = .ok (.bl false) S := (rfl)
@[simp] theorem sizeLine2 : (2 : Nat) ≤ sizeLine := by decide
@[simp] theorem sizeLine1 : (1 : Nat) ≤ sizeLine := by decide
@[simp] theorem sizeLine3 : (3 : Nat) ≤ sizeLine := by decide
@[simp] theorem sizeLine4 : (4 : Nat) ≤ sizeLine := by decide
theorem run_drop {f : List D → Sto → R D} {ds : List D} {S : Sto} {Q : D → Sto → Prop} (h : Run (f ds S) fun d S' => S.length ≤ S'.length ∧ (S'.take S.length).all (O.cl S.length) = true ∧ ∃ e, frzD S' S.length 6 d = some e ∧ Q e (S'.take S.length)) : Run (dropG f ds S) Q := by
  obtain ⟨d, S', e, h1, h2, e', h3, h4⟩ := h.out
  unfold dropG
  rw [e]
  simp only
  rw [if_pos ⟨h1, h2⟩, h3]
  exact .ok h4
theorem frz_pl (F : Sto) (n k : Nat) {d : D} (h : D.pl d = true) : frzD F n k d = some d := by
  have c := cl_of_pl n d h
  cases k with
  | zero => unfold frzD; rw [if_pos c]
  | succ k => unfold frzD; rw [if_pos c]
theorem opAll_pl {F : Sto} {n k : Nat} : ∀ {ds : List D}, D.pls ds = true → opAll (frzD F n k) ds = some ds
  | [], _ => rfl
  | d :: ds, h => by
    simp [D.pls] at h
    unfold opAll
    rw [frz_pl F n k h.1, opAll_pl h.2]
/-- a list that was made here, of data -/
theorem frz_new {F : Sto} {n m k : Nat} {ds : List D} (hm : n ≤ m) (hF : F[m]? = some (.lst ds)) (h : D.pls ds = true) : frzD F n (k + 1) (.loc m) = some (.fzl ds) := by
  unfold frzD
  rw [if_neg (by simp [D.cl]; omega)]
  simp only
  rw [if_pos hm, hF]
  simp only
  rw [opAll_pl h]
  rfl
theorem lc_map {i : Nat} {e : EM} {env : Env} {vs : List Nat} {S : Sto} (f : D → D) (ds : List D) (hz : ds.length ≤ sizeLine) (h : ∀ d ∈ ds, e ((wipeE env vs).set i (some d)) S = .ok (f d) S) :
    lcD (gN i) tmYes e (fun _ => true) env vs ds [] S = .ok (ds.map f) S := by
  rw [lc_pure (fun d => (wipeE env vs).set i (some d)) (fun _ => true) f ds [] (by simpa using hz) fun d hd => ⟨rfl, rfl, fun _ => h d hd⟩, List.nil_append, List.filter_eq_self.mpr (by simp)]
theorem lc_filter {i : Nat} {t : TM} {e : EM} {env : Env} {vs : List Nat} {S : Sto} (p : D → Bool) (f : D → D) (ds : List D) (hz : ds.length ≤ sizeLine) (h : ∀ d ∈ ds, t ((wipeE env vs).set i (some d)) S = .ok (p d) S) (h2 : ∀ d ∈ ds, p d = true → e ((wipeE env vs).set i (some d)) S = .ok (f d) S) :
    lcD (gN i) t e (fun _ => true) env vs ds [] S = .ok ((ds.filter p).map f) S := by
  rw [lc_pure (fun d => (wipeE env vs).set i (some d)) p f ds [] (by simpa using hz) fun d hd => ⟨rfl, h d hd, fun q => h2 d hd q⟩]
  simp
/-- a value that isinstance can be asked of -/
def D.vd : D → Bool
  | .ty _ => false
  | .glb _ => false
  | .loc _ => false
  | _ => true
def intIn (lo hi : Int) : D → Bool
  | .int i => decide (lo ≤ i) && decide (i ≤ hi)
  | _ => false
def tupIn (lo hi : Int) : D → Bool
  | .tup a => decide (lo ≤ (a.length : Int)) && decide ((a.length : Int) ≤ hi)
  | _ => false
theorem all_map_bl {α : Type} (p : α → Bool) (xs : List α) : (xs.map fun x => D.bl (p x)) = (xs.map p).map D.bl := by rw [List.map_map]; rfl
theorem e_all' {α : Type} (p : α → Bool) (xs : List α) (S : Sto) : m_all [.fzl (xs.map fun x => D.bl (p x))] S = .ok (.bl (xs.all p)) S := by
  rw [all_map_bl, e_allF, List.all_map]
  rfl
theorem opAll_append {α β : Type} {f : α → Option β} : ∀ {xs ys : List α} {as bs : List β}, opAll f xs = some as → opAll f ys = some bs → opAll f (xs ++ ys) = some (as ++ bs)
  | [], ys, as, bs, h, g => by cases h; exact g
  | x :: xs, ys, as, bs, h, g => by
    unfold opAll at h
    cases h1 : f x with
    | none => simp [h1] at h
    | some y =>
      cases h2 : opAll f xs with
      | none => simp [h1, h2] at h
      | some zs =>
        simp [h1, h2] at h
        subst h
        show opAll f (x :: (xs ++ ys)) = _
        unfold opAll
        rw [h1, opAll_append h2 g]
        rfl
theorem e_mulF {a : List D} {j : Int} {S : Sto} (h : -(2 ^ 63) ≤ j ∧ j < 2 ^ 63 ∧ a.length * j.toNat ≤ sizeLine) : m_mul (.fzl a) (.int j) S = .ok (.fzl (List.replicate j.toNat a).flatten) S := by
  unfold m_mul
  simp only [catOf]
  rw [if_pos h]
theorem e_mulT {a : List D} {j : Int} {S : Sto} (h : a ≠ [] ∧ 2 ≤ j ∧ j ≤ 1000 ∧ a.length ≤ 1000) : m_mul (.tup a) (.int j) S = .ok (.tup (List.replicate j.toNat a).flatten) S := by
  unfold m_mul
  simp only
  rw [if_pos h]
theorem toPD_ints (S : Sto) (k : Nat) (ns : List Int) : opAll (toPD S k) (ns.map D.int) = some (ns.map PyData.int) := by
  induction ns with
  | nil => rfl
  | cons n ns ih =>
    rw [List.map_cons, List.map_cons]
    unfold opAll
    rw [ih]
    cases k <;> rfl
theorem shaped_ints (ns : List Int) : SeqAt.shaped (.list (ns.map PyData.int)) = true ∧ SeqAt.shaped (.tuple (ns.map PyData.int)) = true := by
  have h1 : PyData.canLayAll0 (ns.map PyData.int) = true := by
    induction ns with
    | nil => simp [PyData.canLayAll0]
    | cons n ns ih => simp [PyData.canLayAll0, PyData.canLay0, ih]
  have h2 : PyData.depthAll (ns.map PyData.int) = 0 := by
    induction ns with
    | nil => simp [PyData.depthAll]
    | cons n ns ih => simp [PyData.canLayAll0, PyData.canLay0] at h1; simp [PyData.depthAll, PyData.depth, ih h1]
  constructor
  · simp [SeqAt.shaped, PyData.canLay0, PyData.depth, h1, h2]
  · simp [SeqAt.shaped, PyData.canLay0, PyData.depth, h1, h2]
theorem pdS_ints (S : Sto) (ns : List Int) : pdS S (.fzl (ns.map D.int)) = some (.list (ns.map PyData.int)) := by
  have e : toPD S 8 (.fzl (ns.map D.int)) = some (.list (ns.map PyData.int)) := by
    show (opAll (toPD S 7) (ns.map D.int)).map PyData.list = _
    rw [toPD_ints]
    rfl
  unfold pdS
  rw [e]
  simp [(shaped_ints ns).1]
theorem pdS_tup (S : Sto) (ns : List Int) : pdS S (.tup (ns.map D.int)) = some (.tuple (ns.map PyData.int)) := by
  have e : toPD S 8 (.tup (ns.map D.int)) = some (.tuple (ns.map PyData.int)) := by
    show (opAll (toPD S 7) (ns.map D.int)).map PyData.tuple = _
    rw [toPD_ints]
    rfl
  unfold pdS
  rw [e]
  simp [(shaped_ints ns).2]
theorem ones_ints {α : Type} (xs : List α) : (xs.map fun _ => D.int 1) = (xs.map fun _ => (1 : Int)).map D.int := by rw [List.map_map]; rfl
theorem e_neOnes {α : Type} (xs : List α) (S : Sto) : m_ne (.fzl (xs.map fun _ => D.int 1)) (.fzl []) S = .ok (.bl (!xs.isEmpty)) S := by
  rw [ones_ints]
  unfold m_ne
  rw [pdS_ints, show pdS S (.fzl []) = some (.list []) from rfl]
  cases xs <;> rfl
theorem e_eqOnes {α : Type} (xs : List α) (S : Sto) : m_eq (.fzl (xs.map fun _ => D.int 1)) (.fzl []) S = .ok (.bl xs.isEmpty) S := by
  rw [ones_ints]
  unfold m_eq
  rw [pdS_ints, show pdS S (.fzl []) = some (.list []) from rfl]
  cases xs <;> rfl
end ML
set_option maxHeartbeats 4000000
/-! ML, more: t[::-1] of a tuple or a list. -/
namespace ML
open PySem PySem.Spec PyProof.Rows L2 HT
section
variable {prog : Program} {w : World} {A : Around} {E : Value → Shared → Prop} {s : Shared}
theorem applied_rev {sl : Addr} {vl vu vs : Value} {n : Nat} {Q : Int × Int × Nat → Shared → Prop} (hs : s.heap.IsSliceOf sl vl vu vs) (pl : IsPart vl none) (pu : IsPart vu none) (ps : IsPart vs (some (-1)))
    (h : Q ((n : Int) - 1, -1, n) s) : wpAny (model prog w) A (Builtin.Slice.sliceApplied (.ref sl) (pure (n : Int))) Q E s := by
  obtain ⟨os, hos, hcs, hds⟩ := id hs
  unfold Builtin.Slice.sliceApplied Builtin.Slice.sliceFields
  refine wpAny_bind (wpAny_bind (wpAny_field hos hds (x := vl) rfl (wpAny_bind (wpAny_field hos hds (x := vu) rfl (wpAny_bind (wpAny_field hos hds (x := vs) rfl (wpAny_pure ?_)))))))
  refine wpAny_bind (slicePart_ ps ?_)
  show wpAny _ _ (if ((-1 : Int) == 0) = true then _ else _) _ _ s
  rw [if_neg (by decide)]
  refine wpAny_bind (slicePart_ pl (wpAny_bind (slicePart_ pu (wpAny_bind (wpAny_pure ?_)))))
  have ep : Builtin.Slice.slicePlaces ((n : Int) - 1) (-1) (-1) = n := by
    unfold Builtin.Slice.slicePlaces
    have h1 : ¬ ((-1 : Int) > 0) := by decide
    rw [if_neg h1]
    by_cases c : (n : Int) - 1 > -1
    · rw [if_pos c, show (-(-1) : Int) = 1 by decide, Int.ediv_one]
      omega
    · rw [if_neg c]
      omega
  show wpAny _ _ (pure ((n : Int) - 1, (-1 : Int), Builtin.Slice.slicePlaces ((n : Int) - 1) (-1) (-1))) _ _ s
  rw [ep]
  exact wpAny_pure h
theorem pick_rev (xs : Array Value) : ((List.range xs.size).filterMap fun (k : Nat) => xs[((xs.size : Int) - 1 + (k : Int) * -1).toNat]?).toArray = xs.toList.reverse.toArray := by
  congr 1
  rw [← PySem.W.krv_all xs, ← List.filterMap_reverse, ← PySem.W.krv_range, List.filterMap_map]
  congr 1
  funext k
  have : ((xs.size : Int) - 1 + (k : Int) * -1).toNat = xs.size - 1 - k := by omega
  rw [this]
  rfl
theorem getItem_rev {t sl : Addr} {items : Array Value} {vl vu vs : Value} {Q : Value → Shared → Prop} (ht : IsTup s.heap t items) (hs : s.heap.IsSliceOf sl vl vu vs) (pl : IsPart vl none) (pu : IsPart vu none) (ps : IsPart vs (some (-1)))
    (h : Q (.ref s.heap.objs.size) { s with heap := s.heap.push { cls := .type "tuple", data := .seq items.toList.reverse.toArray } }) (hsz : items.size ≤ sizeLine) : wpAny (model prog w) A (getItem (.ref t) (.ref sl)) Q E s := by
  have hok : sizeOk (.seq items.toList.reverse.toArray) := by show items.toList.reverse.toArray.size ≤ sizeLine; rw [List.size_toArray, List.length_reverse, Array.length_toList]; exact hsz
  obtain ⟨os, hos, hcs, hds⟩ := id hs
  have hS : s.TypeIs (.ref sl) "slice" := ⟨os, hos, hcs⟩
  unfold getItem
  try with_reducible refine wpAny_holding ?_
  first | refine wpAny_bind (wpAny_pure ?_) | skip
  refine wpAny_bind (wpAny_sequenceKey ht.typeIs (by decide) (wpAny_bind (wpAny_callSpecial?_slot (name := Str.ofString "__getitem__") ht.typeIs PyProof.Rows.slot_tuple_getitem (wpAny_call_entry PyProof.Rows.slot_tuple_getitem ht.typeIs entry_tuple_getitem ?_ (args_tuple_getitem _ _)))))
  show wpAny _ _ (Builtin.Tuple.tupleItemsOf (.ref t) >>= _) _ _ s
  refine wpAny_bind (tupleItemsOf_ ht (wpAny_bind (wpAny_typeOf hS ?_)))
  rw [if_pos (by decide)]
  refine wpAny_bind (applied_rev hs pl pu ps ?_)
  have hno : ¬ (((items.size : Int) - 1 == 0 && (-1 : Int) == 1 && items.size == items.size) = true) := by
    rw [show ((-1 : Int) == 1) = false by decide, Bool.and_false, Bool.false_and]
    exact Bool.false_ne_true
  show wpAny _ _ (if ((items.size : Int) - 1 == 0 && (-1 : Int) == 1 && items.size == items.size) = true then _ else _) _ _ s
  rw [if_neg hno]
  show wpAny _ _ (Builtin.Tuple.tupleExact ((List.range items.size).filterMap fun (k : Nat) => items[((items.size : Int) - 1 + (k : Int) * -1).toNat]?).toArray >>= _) _ _ s
  rw [pick_rev]
  first
    | exact wpAny_bind (m := Builtin.Tuple.tupleExact _) (wpAny_newObj_type (wpAny_pure ⟨_, rfl, wpAny_pure h⟩) hok)
    | exact wpAny_bind (m := Builtin.Tuple.tupleExact _) (wpAny_newObj_type (wpAny_bind (wpAny_pure (wpAny_pure ⟨_, rfl, wpAny_pure h⟩))) hok)
    | exact wpAny_bind (wpAny_bind (m := Builtin.Tuple.tupleExact _) (wpAny_newObj_type (wpAny_pure (wpAny_pure ⟨_, rfl, wpAny_pure h⟩)) hok))
    | exact wpAny_bind (wpAny_bind (m := Builtin.Tuple.tupleExact _) (wpAny_newObj_type (wpAny_pure ⟨_, rfl, wpAny_pure h⟩) hok))
end
def tRevA (K : PySem.W.Frag) (te : TE) : TE := fun σ H Q => te σ H fun x H1 => ∃ a xs, x = .ref a ∧ ((SqL K H1 a xs ∧ ∀ p, H1 p = none → Q (.ref p) (upd H1 p (.lst xs.reverse))) ∨ (SqT K H1 a xs ∧ ∀ p, H1 p = none → Q (.ref p) (upd H1 p (.tup xs.reverse))))
theorem pe_revA {X : Cx} {e : Expr} {te : TE} {k : Nat} {p1 p2 p3 pos : Pos} (he : PE X e te) : PE X (.Subscript e (.Slice none none (some (.UnaryOp .USub (.Constant (.int 1) k p1) p2)) p3) pos) (tRevA X.K te) := by
  refine ⟨fun pins s σ H Q I h => ?_⟩
  refine Subscript_ (thn (he.run pins s σ H _ I h) fun v s1 ⟨x, H1, I1, r1, q1⟩ => ?_)
  obtain ⟨a, xs, rfl, q1⟩ := q1
  cases r1
  have hst : PO X (some (.UnaryOp .USub (.Constant (.int 1) k p1) p2)) (tPart (tUn (rU fun i => .int (-i)) (tC (.int 1)))) := po_some (pe_un un_neg pe_int)
  refine wpAny_Slice (thn (po_none.run pins s1 σ H1 (fun o H2 => o = none ∧ H2 = H1) I1 ⟨rfl, rfl⟩) fun vl s2 ⟨l, H2, I2, pl, el, e2⟩ => ?_)
  subst el e2
  refine thn (po_none.run pins s2 σ H2 (fun o H3 => o = none ∧ H3 = H2) I2 ⟨rfl, rfl⟩) fun vu s3 ⟨u, H3, I3, pu, eu, e3⟩ => ?_
  subst eu e3
  refine thn (hst.run pins s3 σ H3 (fun o H4 => o = some (-1) ∧ H4 = H3) I3 ⟨1, rfl, -1, rfl, rfl, rfl⟩) fun vs s4 ⟨o, H4, I4, ps, eo, e4⟩ => ?_
  subst eo e4
  have I5 : Inv X pins σ H4 { s4 with heap := s4.heap.push { cls := .type "slice", data := .fields #[vl, vu, vs] } } := I4.kept (t' := s4.toks) fun b ob q => Heap.get?_push_of_some _ q
  show wpAny (model X.prog X.w) X.A (subscriptTail e (.Slice none none (some (.UnaryOp .USub (.Constant (.int 1) k p1) p2)) p3) (.ref a) (.ref s4.heap.objs.size)) (EP X pins σ Q) X.xe { s4 with heap := s4.heap.push { cls := .type "slice", data := .fields #[vl, vu, vs] } }
  rcases q1 with ⟨hx, q⟩ | ⟨hx, q⟩
  · obtain ⟨its, r, ht, hz⟩ := I5.list hx
    have hlen := r.length
    refine tail_any (ops := [.ref a, .ref s4.heap.objs.size]) ht.isList.typeIs (PySem.slot_list_getitem.lookup) ?_ (by with_unfolding_all rfl)
    refine wpAny_getItem_list_slice ht.isList (Heap.IsSliceOf.new _ vl vu vs) pl pu ps (by decide) ?_ (by rw [List.size_toArray]; omega)
    rw [PySem.W.krv_pick]
    refine ⟨.ref _, _, I5.laid (t' := s4.toks) (o := .lst xs.reverse) (fun b ob q => Heap.get?_push_of_some _ q) (Nat.le_refl _) ?_, rfl, q _ (I5.hok.fresh (Nat.le_refl _))⟩
    exact ⟨by rw [List.length_reverse]; exact hz, _, 0, r.reverse, Heap.get?_push_size _ rfl⟩
  · obtain ⟨its, r, ht, hz⟩ := I5.tuple hx
    have hlen := r.length
    refine tail_any (ops := [.ref a, .ref s4.heap.objs.size]) ht.typeIs (PyProof.Rows.slot_tuple_getitem.lookup) ?_ (by with_unfolding_all rfl)
    refine getItem_rev ht (Heap.IsSliceOf.new _ vl vu vs) pl pu ps ?_ (by rw [List.size_toArray]; omega)
    refine ⟨.ref _, _, I5.laid (t' := s4.toks) (o := .tup xs.reverse) (fun b ob q => Heap.get?_push_of_some _ q) (Nat.le_refl _) ?_, rfl, q _ (I5.hok.fresh (Nat.le_refl _))⟩
    exact ⟨by rw [List.length_reverse]; exact hz, _, r.reverse, IsTup.new _ _⟩
def m_rev (x : D) (S : Sto) : R D := match x with
  | .tup a => .ok (.tup a.reverse) S
  | x => match lstOf S x with
    | some a => .ok (.fzl a.reverse) S
    | none => .bad
theorem RVs.rev {K : PySem.W.Frag} {mg : Str → Option Value} {ρ : Mp} {H : Hp} : ∀ {ds : List D} {vs : List V}, RVs K mg ρ H ds vs → RVs K mg ρ H ds.reverse vs.reverse
  | _, _, .nil => .nil
  | _, _, .cons r t => by
    rw [List.reverse_cons, List.reverse_cons]
    exact (RVs.rev t).append (.cons r .nil)
theorem ge_rev {X : Cx} {e : Expr} {me : EM} {k : Nat} {p1 p2 p3 pos : Pos} (he : GE X e me) : GE X (.Subscript e (.Slice none none (some (.UnaryOp .USub (.Constant (.int 1) k p1) p2)) p3) pos) (mUn m_rev me) := ⟨fun pins s σ H Q I h => by
  refine (pe_revA he).run pins s σ H Q I ?_
  obtain ⟨ρ, env, S, rp, re, p⟩ := h
  refine ⟨ρ, env, S, rp, re, Post.bindB p fun x H1 ρ1 S1 d e1 rp1 rv1 p1 => ?_⟩
  unfold m_rev at p1
  split at p1
  · obtain ⟨a, xs, rfl, h1, r1⟩ := tup_at rv1
    exact ⟨a, xs, rfl, .inr ⟨h1.sq, fun q hq => p1 ρ1 _ _ (Ext.new hq) (rp1.new hq) (.tup (TAt.new rp1 hq) (r1.rev.ext (Ext.new hq)))⟩⟩
  · split at p1
    · next a q =>
      obtain ⟨l, xs, rfl, h1, r1⟩ := lst_at rp1 rv1 q
      exact ⟨l, xs, rfl, .inl ⟨h1, fun q hq => p1 ρ1 _ _ (Ext.new hq) (rp1.new hq) (.fzl (FAt.new rp1 hq) (r1.rev.ext (Ext.new hq)))⟩⟩
    · exact p1.elim⟩
@[simp] theorem e_revT {a : List D} {S : Sto} : m_rev (.tup a) S = .ok (.tup a.reverse) S := (rfl)
end ML
namespace ML
open PySem L2
/-- the state of all draws -/
def CupO (o : O) : Prop := ∃ x y : Int, o = .lst [.int x, .int y] ∧ 0 ≤ x ∧ 0 ≤ y ∧ y < 4294967296
theorem mulR (a : Int) {b : Int} (h : -(2 ^ 64) < b ∧ b < 2 ^ 64) : CMul a b := .inr h
theorem mulL {a : Int} (b : Int) (h : -(2 ^ 64) < a ∧ a < 2 ^ 64) : CMul a b := .inl h
theorem e_pow18 (S : Sto) : m_pow (.int 10) (.int 18) S = .ok (.int (10 ^ 18)) S := rfl
def m__law_cup : SM :=
  (sSeq (sAsg (mCall m_abs (mCons (mOp m_ix (mOp m_add (mCall m_list (mCons (mVar 0) mNil)) (mLst (mCons (mC (.int 0)) mNil))) (mC (.int 0))) mNil)) (gN 1))
  (sRet (mLstM (mCons (mIfE (mT (mOp m_ge (mVar 1) (mOp m_pow (mC (.int 10)) (mC (.int 18))))) (mOp m_fdiv (mVar 1) (mC (.int 1291))) (mC (.int 0))) (mCons (mOp m_add (mOp m_mod (mCall m_int (mCons (mOp m_add (mOp m_mul (mVar 1) (mC (.int 1439))) (mC (.int 9473))) mNil)) (mC (.int 2077514153))) (mC (.int 1011))) mNil)))))
def c__law_cup : List D → Sto → R D := fnD 2 m__law_cup
theorem cup_run (ns : List Int) (S : Sto) (hl : ns.length ≤ 63) : Run (c__law_cup [.kl (ns.map D.int)] S) fun d S' => ∃ o, d = .loc S.length ∧ CupO o ∧ S' = S ++ [o] := by
  have h1 : ∃ n : Int, L2.atI (ns.map D.int ++ [D.int 0]) 0 = some (.int n) := by
    cases ns with
    | nil => exact ⟨0, atI_nat (j := 0) rfl⟩
    | cons n ns => exact ⟨n, atI_nat (j := 0) rfl⟩
  obtain ⟨n, hn⟩ := h1
  have hz : (ns.map D.int).length + [D.int 0].length ≤ sizeLine := by simp [sizeLine]; omega
  have h2 : (2 : Nat) ≤ sizeLine := by decide
  have h3 : (1 : Nat) ≤ sizeLine := by decide
  refine run_fn (run_seq ?_)
  simp [e_addF hz, e_ixF hn, h2, h3, e_pow18]
  have hm : 0 ≤ (if n < 0 then -n else n) := by split <;> omega
  generalize (if n < 0 then -n else n) = m at hm ⊢
  have q : ∀ x : Int, 0 ≤ x → CupO (.lst [.int x, .int ((m * 1439 + 9473) % 2077514153 + 1011)]) := fun x hx => ⟨x, _, rfl, hx, by omega, by omega⟩
  by_cases c : 1000000000000000000 ≤ m
  · simp [c, e_fdiv, e_mod, e_mul (mulR m (by decide : -(2 ^ 64) < (1439 : Int) ∧ (1439 : Int) < 2 ^ 64)), newL]
    exact q _ (by omega)
  · simp [c, e_fdiv, e_mod, e_mul (mulR m (by decide : -(2 ^ 64) < (1439 : Int) ∧ (1439 : Int) < 2 ^ 64)), newL]
    exact q _ (by omega)
def m__law_roll : SM :=
  (sSeq (sIf (mT (mOp m_gt (mOp m_ix (mVar 0) (mC (.int 0))) (mC (.int 0)))) (sSeq (sAsg (mOp m_mod (mCall m_int (mCons (mOp m_ix (mVar 0) (mC (.int 0))) mNil)) (mVar 1)) (gN 2))
  (sSeq (sAsg (mOp m_fdiv (mOp m_ix (mVar 0) (mC (.int 0))) (mVar 1)) (gSubM (mVar 0) (mC (.int 0)) m_setL))
  (sRet (mVar 2)))) sNx)
  (sSeq (sAsg (mOp m_mod (mCall m_int (mCons (mOp m_add (mOp m_mul (mOp m_ix (mVar 0) (mC (.int 1))) (mC (.int 36137))) (mC (.int 11481))) mNil)) (mC (.int 2147483423))) (gSubM (mVar 0) (mC (.int 1)) m_setL))
  (sSeq (sAsg (mOp m_mod (mCall m_int (mCons (mOp m_mul (mOp m_ix (mVar 0) (mC (.int 1))) (mOp m_add (mOp m_ix (mVar 0) (mC (.int 1))) (mC (.int 1521)))) mNil)) (mC (.int 2147483587))) (gN 3))
  (sRet (mOp m_mod (mCall m_int (mCons (mOp m_fdiv (mVar 3) (mC (.int 1831))) mNil)) (mVar 1))))))
def c__law_roll : List D → Sto → R D := fnD 4 m__law_roll
theorem roll_run {n : Nat} {S : Sto} {o : O} {many : Int} (hc : S[n]? = some o) (g : CupO o) (h0 : 0 < many) (h1 : many < 1073741824) :
    Run (c__law_roll [.loc n, .int many] S) fun d S' => ∃ r o', d = .int r ∧ 0 ≤ r ∧ r < many ∧ CupO o' ∧ S' = S.set n o' := by
  obtain ⟨x, y, rfl, hx, hy, hy2⟩ := g
  have i0 : L2.atI [D.int x, D.int y] 0 = some (.int x) := rfl
  have i1 : L2.atI [D.int x, D.int y] 1 = some (.int y) := rfl
  have hn : n < S.length := (List.getElem?_eq_some_iff.mp hc).1
  have j0 : ixN [D.int x, D.int y].length 0 = some 0 := rfl
  have j1 : ixN [D.int x, D.int y].length 1 = some 1 := rfl
  have b1 : 0 ≤ x % many := Int.emod_nonneg _ (by omega)
  have b2 : x % many < many := Int.emod_lt_of_pos _ h0
  refine run_fn (run_seq ?_)
  simp [e_ixL hc i0]
  by_cases c : 0 < x
  · simp [c]
    refine run_seq ?_
    simp [o_seq, e_ixL hc i0, e_mod h0, e_fdiv h0 h1, e_setL hc j0]
    exact ⟨b1, b2, _, ⟨x / many, y, rfl, Int.ediv_nonneg hx (by omega), hy, hy2⟩, rfl⟩
  · simp [c]
    refine run_seq ?_
    have hc2 : ∀ z : Int, (S.set n (.lst [.int x, .int z]))[n]? = some (.lst [.int x, .int z]) := fun z => List.getElem?_set_self hn
    have i2 : ∀ z : Int, L2.atI [D.int x, D.int z] 1 = some (.int z) := fun z => rfl
    simp [o_seq, e_ixL hc i1, e_mul (mulR y (by decide : -(2 ^ 64) < (36137 : Int) ∧ (36137 : Int) < 2 ^ 64)), e_mod, e_setL hc j1]
    generalize hz : (y * 36137 + 11481) % 2147483423 = z
    have hz0 : 0 ≤ z := by omega
    have hz1 : z < 2147483423 := by omega
    simp [e_ixL (hc2 z) (i2 z), e_mul (mulR z (show -(2 ^ 64) < z + 1521 ∧ z + 1521 < 2 ^ 64 by omega)), e_mod h0, e_mod, e_fdiv]
    exact ⟨Int.emod_nonneg _ (by omega), Int.emod_lt_of_pos _ h0, _, ⟨x, z, rfl, hx, hz0, by omega⟩, rfl⟩
def m__law_some : SM :=
  (sRet (mOp m_ix (mVar 1) (mFn 2 c__law_roll (mCons (mVar 0) (mCons (mCall m_len (mCons (mVar 1) mNil)) mNil)))))
def c__law_some : List D → Sto → R D := fnD 2 m__law_some
theorem some_run {n : Nat} {S : Sto} {o : O} {ds : List D} {things : D} (hc : S[n]? = some o) (g : CupO o) (ht : things = .fzl ds ∨ things = .tup ds) (h0 : ds ≠ []) (h1 : ds.length < 1073741824) :
    Run (c__law_some [.loc n, things] S) fun d S' => ∃ o', d ∈ ds ∧ CupO o' ∧ S' = S.set n o' := by
  have hl : 0 < ds.length := List.length_pos_iff.mpr h0
  refine run_fn ?_
  have q : ∀ (r : Int) (S' : Sto), 0 ≤ r → r < ds.length → ∃ d, m_ix things (.int r) S' = .ok d S' ∧ d ∈ ds := fun r S' h0 h1 => by
    have hr : r.toNat < ds.length := by omega
    have ha : L2.atI ds r = some ds[r.toNat] := by
      have := atI_nat (xs := ds) (j := r.toNat) (v := ds[r.toNat]) (List.getElem?_eq_getElem hr)
      rwa [Int.toNat_of_nonneg h0] at this
    rcases ht with rfl | rfl
    · exact ⟨_, e_ixF ha, List.getElem_mem hr⟩
    · exact ⟨_, e_ixT ha, List.getElem_mem hr⟩
  have hlen : m_len [things] S = .ok (.int ds.length) S := by rcases ht with rfl | rfl <;> rfl
  simp [m__law_some, hlen]
  refine (roll_run (many := ds.length) hc g (by omega) (by omega)).mono fun d S' ⟨r, o', e, r0, r1, g', e2⟩ => ?_
  subst e e2
  obtain ⟨d, e, hd⟩ := q r (S.set n o') r0 r1
  rw [e]
  exact Run.ok ⟨hd, o', g', rfl⟩
def m__law_grids : SM :=
  (sSeq (sAsg (mLst mNil) (gN 1))
  (sSeq (sFor (mItA itR2 (mCons (mC (.int 1)) (mCons (mOp m_add (mVar 0) (mC (.int 1))) mNil))) (gN 2) (sIf (mT (mOp m_eq (mOp m_mod (mCall m_int (mCons (mVar 0) mNil)) (mVar 2)) (mC (.int 0)))) (sAsg (mOp m_add (mVar 1) (mLc (mItA itR1 (mCons (mCall m_int (mCons (mOp m_fdiv (mVar 0) (mVar 2)) mNil)) mNil)) (gN 3) tmYes (mTup (mCons (mVar 2) (mCons (mVar 3) (mCons (mCall m_int (mCons (mOp m_fdiv (mVar 0) (mVar 2)) mNil)) mNil)))) [3])) (gN 1)) sNx))
  (sRet (mVar 1))))
def c__law_grids : List D → Sto → R D := fnD 4 m__law_grids
def m__law_grid : SM :=
  (sRet (mFn 2 c__law_some (mCons (mVar 0) (mCons (mFn 1 c__law_grids (mCons (mOp m_add (mC (.int 1)) (mFn 2 c__law_roll (mCons (mVar 0) (mCons (mVar 1) mNil)))) mNil)) mNil))))
def c__law_grid : List D → Sto → R D := fnD 2 m__law_grid
def m__law_class : SM :=
  (sSeq (sAsg (mVar 1) (gT 2 (gsC (gN 2) (gsC (gN 3) gsN))))
  (sSeq (whileD (mT (mOp m_ge (mVar 2) (mOp m_ix (mVar 0) (mC (.int 0))))) (sPar [2, 3] (mCons (mOp m_sub (mVar 2) (mOp m_ix (mVar 0) (mC (.int 0)))) (mCons (mOp m_sub (mVar 3) (mOp m_ix (mVar 0) (mC (.int 1)))) mNil))) 100000)
  (sSeq (whileD (mT (mOp m_lt (mVar 2) (mC (.int 0)))) (sPar [2, 3] (mCons (mOp m_add (mVar 2) (mOp m_ix (mVar 0) (mC (.int 0)))) (mCons (mOp m_add (mVar 3) (mOp m_ix (mVar 0) (mC (.int 1)))) mNil))) 100000)
  (sRet (mTup (mCons (mVar 2) (mCons (mOp m_mod (mCall m_int (mCons (mVar 3) mNil)) (mOp m_ix (mVar 0) (mC (.int 2)))) mNil)))))))
def c__law_class : List D → Sto → R D := fnD 4 m__law_class
def m__law_same (self : List D → Sto → R D) : SM :=
  (sSeq (sIf (mOr (mT (mCall m_isi (mCons (mVar 1) (mCons (mC (.ty "tuple")) mNil)))) (mT (mCall m_isi (mCons (mVar 1) (mCons (mC (.ty "list")) mNil))))) (sSeq (sIf (mOr (mT (mOp m_ne (mCall m_isi (mCons (mVar 0) (mCons (mC (.ty "tuple")) mNil))) (mCall m_isi (mCons (mVar 1) (mCons (mC (.ty "tuple")) mNil))))) (mOr (mT (mOp m_ne (mCall m_isi (mCons (mVar 0) (mCons (mC (.ty "list")) mNil))) (mCall m_isi (mCons (mVar 1) (mCons (mC (.ty "list")) mNil))))) (mT (mOp m_ne (mCall m_len (mCons (mVar 0) mNil)) (mCall m_len (mCons (mVar 1) mNil)))))) (sRet (mC (.bl false))) sNx)
  (sRet (mOp m_eq (mLc (mItA itR1 (mCons (mCall m_len (mCons (mVar 1) mNil)) mNil)) (gN 2) (mNot (mT (mFn 2 self (mCons (mOp m_ix (mVar 0) (mVar 2)) (mCons (mOp m_ix (mVar 1) (mVar 2)) mNil))))) (mC (.int 1)) [2]) (mLst mNil)))) sNx)
  (sSeq (sIf (mT (mOp m_is (mVar 1) (mC .non))) (sRet (mOp m_is (mVar 0) (mC .non))) sNx)
  (sSeq (sIf (mT (mCall m_isi (mCons (mVar 1) (mCons (mC (.ty "bool")) mNil)))) (sRet (mIfE (mT (mVar 1)) (mOp m_is (mVar 0) (mC (.bl true))) (mOp m_is (mVar 0) (mC (.bl false))))) sNx)
  (sSeq (sIf (mT (mCall m_isi (mCons (mVar 1) (mCons (mC (.ty "int")) mNil)))) (sRet (mAndV (mCall m_isi (mCons (mVar 0) (mCons (mC (.ty "int")) mNil))) (mAndV (mNotV (mCall m_isi (mCons (mVar 0) (mCons (mC (.ty "bool")) mNil)))) (mOp m_eq (mCall m_int (mCons (mVar 0) mNil)) (mVar 1))))) sNx)
  (sRet (mAndV (mCall m_isi (mCons (mVar 0) (mCons (mC (.ty "str")) mNil))) (mOp m_eq mBad (mVar 1))))))))
def f__law_same : Nat → List D → Sto → R D
  | 0 => fun _ _ => .bad
  | k + 1 => fnD 3 (m__law_same (f__law_same k))
def c__law_same : List D → Sto → R D := f__law_same 8
/-- data that _law_same can tell alike: no texts, not too deep -/
def okS : Nat → D → Bool
  | _, .non => true
  | _, .bl _ => true
  | _, .int _ => true
  | k + 1, .tup ds => decide (ds.length ≤ 200000) && ds.all (okS k)
  | k + 1, .fzl ds => decide (ds.length ≤ 200000) && ds.all (okS k)
  | _, _ => false
theorem same_lc {k : Nat} {x : D} {ds : List D} {S : Sto} (hx : x = .tup ds ∨ x = .fzl ds) (ih : ∀ d ∈ ds, f__law_same k [d, d] S = .ok (.bl true) S) (hl : ds.length ≤ 200000) :
    lcD (gN 2) (mNot (mT (mFn 2 (f__law_same k) (mCons (mOp m_ix (mVar 0) (mVar 2)) (mCons (mOp m_ix (mVar 1) (mVar 2)) mNil))))) (mC (.int 1)) (fun _ => true) [some x, some x, none] [2] (rangeD 0 ds.length) [] S = .ok [] S := by
  have e := lc_pure (g := gN 2) (t := mNot (mT (mFn 2 (f__law_same k) (mCons (mOp m_ix (mVar 0) (mVar 2)) (mCons (mOp m_ix (mVar 1) (mVar 2)) mNil))))) (e := mC (.int 1)) (env := [some x, some x, none]) (vs := [2]) (S := S)
    (fun d => [some x, some x, some d]) (fun _ => false) (fun _ => .int 1) (rangeD 0 ds.length) [] (by rw [rangeD_len]; simp [sizeLine]; omega) (fun d hd => by
      obtain ⟨i, hi, rfl⟩ := mem_rangeD.mp hd
      have hg : ds[i]? = some ds[i] := List.getElem?_eq_getElem hi
      have ha : L2.atI ds (0 + (i : Nat)) = some ds[i] := by rw [Int.zero_add]; exact atI_nat hg
      have hx' : m_ix x (.int (0 + (i : Nat))) S = .ok ds[i] S := by
        rcases hx with rfl | rfl
        · exact e_ixT ha
        · exact e_ixF ha
      refine ⟨rfl, ?_, fun q => nomatch q⟩
      simp at hx' ⊢
      simp [hx', ih ds[i] (List.getElem_mem hi)])
  rw [e]
  simp
theorem same_flat (k : Nat) (x : D) (S : Sto) (h : x = .non ∨ (∃ b, x = .bl b) ∨ ∃ i, x = .int i) : f__law_same (k + 1) [x, x] S = .ok (.bl true) S := by
  show fnD 3 (m__law_same (f__law_same k)) _ S = _
  rcases h with rfl | ⟨b, rfl⟩ | ⟨i, rfl⟩
  · simp [fnD, m__law_same, runFl, o_seq, isNon]
  · cases b <;> simp [fnD, m__law_same, runFl, o_seq, isNon]
  · simp [fnD, m__law_same, runFl, o_seq, isNon]
theorem same_refl (k : Nat) : ∀ (x : D) (S : Sto), okS k x = true → f__law_same (k + 1) [x, x] S = .ok (.bl true) S := by
  induction k with
  | zero =>
    intro x S h
    cases x with
    | non => exact same_flat 0 _ S (.inl rfl)
    | bl b => exact same_flat 0 _ S (.inr (.inl ⟨b, rfl⟩))
    | int i => exact same_flat 0 _ S (.inr (.inr ⟨i, rfl⟩))
    | _ => exact (Bool.false_ne_true h).elim
  | succ k ih =>
    intro x S h
    cases x with
    | non => exact same_flat _ _ S (.inl rfl)
    | bl b => exact same_flat _ _ S (.inr (.inl ⟨b, rfl⟩))
    | int i => exact same_flat _ _ S (.inr (.inr ⟨i, rfl⟩))
    | tup ds =>
      rw [okS] at h
      simp at h
      have hs : smallI (ds.length : Int) := ⟨by omega, by omega⟩
      have e := same_lc (k := k + 1) (S := S) (.inl rfl) (fun d hd => ih d S (h.2 d hd)) h.1
      show fnD 3 (m__law_same (f__law_same (k + 1))) _ S = _
      simp [fnD, m__law_same, runFl, o_seq, o_lc, e_r1 hs, e]
    | fzl ds =>
      rw [okS] at h
      simp at h
      have hs : smallI (ds.length : Int) := ⟨by omega, by omega⟩
      have e := same_lc (k := k + 1) (S := S) (.inr rfl) (fun d hd => ih d S (h.2 d hd)) h.1
      show fnD 3 (m__law_same (f__law_same (k + 1))) _ S = _
      simp [fnD, m__law_same, runFl, o_seq, o_lc, e_r1 hs, e]
    | _ => exact (Bool.false_ne_true h).elim
theorem same_eq {x : D} (S : Sto) (h : okS 7 x = true) : c__law_same [x, x] S = .ok (.bl true) S := same_refl 7 x S h
def m_is_tuple_of : SM :=
  (sRet (mAndV (mCall m_isi (mCons (mVar 0) (mCons (mC (.ty "tuple")) mNil))) (mChain m_le m_le (mVar 1) (mCall m_len (mCons (mVar 0) mNil)) (mVar 2))))
def c_is_tuple_of : List D → Sto → R D := fnD 3 m_is_tuple_of
theorem is_tuple_eq (d : D) (lo hi : Int) (S : Sto) (h : D.vd d = true) : c_is_tuple_of [d, .int lo, .int hi] S = .ok (.bl (tupIn lo hi d)) S := by
  unfold c_is_tuple_of fnD m_is_tuple_of
  cases d with
  | tup a =>
    by_cases c : lo ≤ (a.length : Int)
    · simp [runFl, tupIn, c]
    · simp [runFl, tupIn, c]
  | ty _ => cases h
  | glb _ => cases h
  | loc _ => cases h
  | _ => simp [runFl, tupIn]
def m_fits_whole : SM :=
  (sRet (mAndV (mCall m_isi (mCons (mVar 0) (mCons (mC (.ty "int")) mNil))) (mAndV (mNotV (mCall m_isi (mCons (mVar 0) (mCons (mC (.ty "bool")) mNil)))) (mChain m_le m_le (mVar 1) (mVar 0) (mVar 2)))))
def c_fits_whole : List D → Sto → R D := fnD 3 m_fits_whole
theorem fits_whole_eq (d : D) (lo hi : Int) (S : Sto) (h : D.vd d = true) : c_fits_whole [d, .int lo, .int hi] S = .ok (.bl (intIn lo hi d)) S := by
  unfold c_fits_whole fnD m_fits_whole
  cases d with
  | int i =>
    by_cases c : lo ≤ i
    · simp [runFl, intIn, c]
    · simp [runFl, intIn, c]
  | ty _ => cases h
  | glb _ => cases h
  | loc _ => cases h
  | _ => simp [runFl, intIn]
def m_fits_grid : SM :=
  (sSeq (sIf (mOr (mNot (mT (mFn 3 c_is_tuple_of (mCons (mVar 0) (mCons (mC (.int 3)) (mCons (mC (.int 3)) mNil)))))) (mNot (mT (mCall m_all (mCons (mLc (mIt itAny (mVar 0)) (gN 1) tmYes (mFn 3 c_fits_whole (mCons (mVar 1) (mCons (mC (.int 0)) (mCons (mC (.int 400)) mNil)))) [1]) mNil))))) (sRet (mC (.bl false))) sNx)
  (sRet (mAndV (mOp m_gt (mOp m_ix (mVar 0) (mC (.int 0))) (mC (.int 0))) (mAndV (mOp m_gt (mOp m_ix (mVar 0) (mC (.int 2))) (mOp m_ix (mVar 0) (mC (.int 1)))) (mOp m_le (mOp m_mul (mOp m_ix (mVar 0) (mC (.int 0))) (mOp m_ix (mVar 0) (mC (.int 2)))) (mOp m_mul (mC (.int 2)) (mC (.int 400))))))))
def c_fits_grid : List D → Sto → R D := fnD 2 m_fits_grid
def m_is_grid : SM :=
  (sRet (mFn 1 c_fits_grid (mCons (mVar 0) mNil)))
def c_is_grid : List D → Sto → R D := fnD 1 m_is_grid
def m_grids_in : SM :=
  (sSeq (sAsg (mLstM mNil) (gN 1))
  (sSeq (sFor (mItA itR2 (mCons (mC (.int 1)) (mCons (mOp m_add (mVar 0) (mC (.int 1))) mNil))) (gN 2) (sIf (mT (mOp m_eq (mOp m_mul (mOp m_fdiv (mVar 0) (mVar 2)) (mVar 2)) (mVar 0))) (sAug 1 (mLc (mItA itR1 (mCons (mOp m_fdiv (mVar 0) (mVar 2)) mNil)) (gN 3) tmYes (mTup (mCons (mVar 2) (mCons (mVar 3) (mCons (mOp m_fdiv (mVar 0) (mVar 2)) mNil)))) [3]) m_iadd) sNx))
  (sRet (mVar 1))))
def c_grids_in : List D → Sto → R D := dropG (fnD 4 m_grids_in)
theorem fit_grids_in : Fits 1 (fnD 4 m_grids_in) c_grids_in := fits_drop _ _
def m_grids : SM :=
  (sSeq (sIf (mNot (mT (mFn 3 c_fits_whole (mCons (mVar 0) (mCons (mC (.int 1)) (mCons (mC (.int 400)) mNil)))))) sBad sNx)
  (sRet (mCall m_tuple (mCons (mFn 1 c_grids_in (mCons (mVar 0) mNil)) mNil))))
def c_grids : List D → Sto → R D := fnD 1 m_grids
def m_need_far_cell : SM :=
  (sIf (mOr (mNot (mT (mFn 3 c_is_tuple_of (mCons (mVar 0) (mCons (mC (.int 2)) (mCons (mC (.int 2)) mNil)))))) (mNot (mT (mCall m_all (mCons (mLc (mIt itAny (mVar 0)) (gN 1) tmYes (mFn 3 c_fits_whole (mCons (mVar 1) (mCons (mUn m_neg (mC (.int 1000))) (mCons (mC (.int 1000)) mNil)))) [1]) mNil))))) sBad sNx)
def c_need_far_cell : List D → Sto → R D := fnD 2 m_need_far_cell
def m_class_in : SM :=
  (sSeq (sAsg (mVar 0) (gT 3 (gsC (gN 2) (gsC (gN 3) (gsC (gN 4) gsN)))))
  (sSeq (sAsg (mOp m_fdiv (mOp m_ix (mVar 1) (mC (.int 0))) (mVar 2)) (gN 5))
  (sSeq (sAsg (mOp m_sub (mOp m_ix (mVar 1) (mC (.int 1))) (mOp m_mul (mVar 5) (mVar 3))) (gN 6))
  (sRet (mTup (mCons (mOp m_sub (mOp m_ix (mVar 1) (mC (.int 0))) (mOp m_mul (mVar 5) (mVar 2))) (mCons (mOp m_sub (mVar 6) (mOp m_mul (mOp m_fdiv (mVar 6) (mVar 4)) (mVar 4))) mNil)))))))
def c_class_in : List D → Sto → R D := fnD 7 m_class_in
def m_class_of : SM :=
  (sSeq (sIf (mNot (mT (mFn 1 c_fits_grid (mCons (mVar 0) mNil)))) sBad sNx)
  (sSeq (sExpr (mFn 1 c_need_far_cell (mCons (mVar 1) mNil)))
  (sRet (mFn 2 c_class_in (mCons (mVar 0) (mCons (mVar 1) mNil))))))
def c_class_of : List D → Sto → R D := fnD 2 m_class_of
def m__law_is_grid : SM :=
  (sSeq (sIf (mOr (mNot (mT (mCall m_isi (mCons (mVar 0) (mCons (mC (.ty "tuple")) mNil))))) (mT (mOp m_ne (mCall m_len (mCons (mVar 0) mNil)) (mC (.int 3))))) (sRet (mC (.bl false))) sNx)
  (sSeq (sIf (mT (mOp m_ne (mLc (mIt itAny (mVar 0)) (gN 1) (mOr (mT (mCall m_isi (mCons (mVar 1) (mCons (mC (.ty "bool")) mNil)))) (mNot (mT (mCall m_isi (mCons (mVar 1) (mCons (mC (.ty "int")) mNil)))))) (mVar 1) [1]) (mLst mNil))) (sRet (mC (.bl false))) sNx)
  (sRet (mAndV (mChain m_le m_le (mC (.int 1)) (mOp m_ix (mVar 0) (mC (.int 0))) (mC (.int 400))) (mAndV (mChain m_le m_le (mC (.int 1)) (mOp m_ix (mVar 0) (mC (.int 2))) (mC (.int 400))) (mAndV (mChain m_le m_lt (mC (.int 0)) (mOp m_ix (mVar 0) (mC (.int 1))) (mOp m_ix (mVar 0) (mC (.int 2)))) (mOp m_le (mOp m_mul (mOp m_ix (mVar 0) (mC (.int 0))) (mOp m_ix (mVar 0) (mC (.int 2)))) (mC (.int 800)))))))))
def c__law_is_grid : List D → Sto → R D := fnD 2 m__law_is_grid
def m_law : SM :=
  (sSeq (sAsg (mFn 1 c__law_cup (mCons (mVar 0) mNil)) (gN 1))
  (sSeq (sFor (mIt itAny (mTup (mCons (mOp m_add (mC (.int 1)) (mFn 2 c__law_roll (mCons (mVar 1) (mCons (mC (.int 30)) mNil)))) (mCons (mOp m_add (mC (.int 1)) (mFn 2 c__law_roll (mCons (mVar 1) (mCons (mC (.int 400)) mNil)))) (mCons (mC (.int 400)) mNil))))) (gN 2) (sIf (mNot (mT (mFn 2 c__law_same (mCons (mFn 1 c_grids (mCons (mVar 2) mNil)) (mCons (mCall m_tuple (mCons (mFn 1 c__law_grids (mCons (mVar 2) mNil)) mNil)) mNil))))) (sRet (mC (.bl false))) sNx))
  (sSeq (sFor (mItA itR1 (mCons (mC (.int 8)) mNil)) (gN 3) (sSeq (sAsg (mFn 2 c__law_grid (mCons (mVar 1) (mCons (mFn 2 c__law_some (mCons (mVar 1) (mCons (mLst (mCons (mC (.int 6)) (mCons (mC (.int 40)) (mCons (mC (.int 400)) mNil)))) mNil))) mNil))) (gN 4))
  (sSeq (sAsg (mTup (mCons (mOp m_sub (mFn 2 c__law_roll (mCons (mVar 1) (mCons (mC (.int 2001)) mNil))) (mC (.int 1000))) (mCons (mOp m_sub (mFn 2 c__law_roll (mCons (mVar 1) (mCons (mC (.int 2001)) mNil))) (mC (.int 1000))) mNil))) (gN 5))
  (sSeq (sAsg (mFn 2 c__law_some (mCons (mVar 1) (mCons (mLst (mCons (mVar 5) (mCons (mVar 5) (mCons (mTup (mCons (mUn m_neg (mC (.int 1000))) (mCons (mC (.int 1000)) mNil))) (mCons (mTup (mCons (mC (.int 1000)) (mCons (mUn m_neg (mC (.int 1000))) mNil))) (mCons (mTup (mCons (mC (.int 0)) (mCons (mC (.int 0)) mNil))) (mCons (mTup (mCons (mUn m_neg (mC (.int 1))) (mCons (mUn m_neg (mC (.int 1))) mNil))) mNil))))))) mNil))) (gN 5))
  (sSeq (sAsg (mFn 2 c__law_class (mCons (mVar 4) (mCons (mVar 5) mNil))) (gN 6))
  (sSeq (sIf (mOr (mNot (mT (mFn 2 c__law_same (mCons (mFn 2 c_class_of (mCons (mVar 4) (mCons (mVar 5) mNil))) (mCons (mVar 6) mNil))))) (mNot (mT (mFn 2 c__law_same (mCons (mFn 2 c_class_of (mCons (mVar 4) (mCons (mVar 6) mNil))) (mCons (mVar 6) mNil)))))) (sRet (mC (.bl false))) sNx)
  (sSeq (sAsg (mTup (mCons (mOp m_add (mOp m_ix (mVar 5) (mC (.int 0))) (mOp m_ix (mVar 4) (mC (.int 0)))) (mCons (mOp m_add (mOp m_ix (mVar 5) (mC (.int 1))) (mOp m_ix (mVar 4) (mC (.int 1)))) mNil))) (gN 7))
  (sSeq (sIf (mAnd (mT (mChain m_le m_le (mUn m_neg (mC (.int 1000))) (mOp m_ix (mVar 7) (mC (.int 0))) (mC (.int 1000)))) (mAnd (mT (mChain m_le m_le (mUn m_neg (mC (.int 1000))) (mOp m_ix (mVar 7) (mC (.int 1))) (mC (.int 1000)))) (mT (mOp m_ne (mFn 2 c_class_of (mCons (mVar 4) (mCons (mVar 7) mNil))) (mVar 6))))) (sRet (mC (.bl false))) sNx)
  (sSeq (sAsg (mFn 2 c__law_roll (mCons (mVar 1) (mCons (mC (.int 3)) mNil))) (gN 8))
  (sSeq (sAsg (mLst (mCons (mC (.int 0)) (mCons (mUn m_neg (mC (.int 1))) (mCons (mC (.bl true)) (mCons (mC .non) (mCons (mC (.str (Str.ofString "1"))) (mCons (mTup (mCons (mC (.int 1)) mNil)) (mCons (mC (.int 400)) (mCons (mC (.int 401)) (mCons (mOp m_ix (mVar 4) (mC (.int 2))) (mCons (mOp m_pow (mC (.int 10)) (mC (.int 30))) mNil))))))))))) (gN 9))
  (sSeq (sAsg (mLst (mCons (mVar 4) (mCons (mUn m_rev (mVar 4)) (mCons (mSl (mVar 4) mpNone (mpSome (mC (.int 2)))) (mCons (mOp m_add (mVar 4) (mTup (mCons (mC (.int 0)) mNil))) (mCons (mCall m_list (mCons (mVar 4) mNil)) (mCons (mTup mNil) (mCons (mC .non) (mCons (mC (.int 5)) mNil))))))))) (gN 10))
  (sFor (mIt itAny (mOp m_add (mVar 10) (mLc (mIt itAny (mVar 9)) (gN 12) tmYes (mOp m_add (mOp m_add (mSl (mVar 4) mpNone (mpSome (mVar 8))) (mTup (mCons (mVar 12) mNil))) (mSl (mVar 4) (mpSome (mOp m_add (mVar 8) (mC (.int 1)))) mpNone)) [12]))) (gN 11) (sIf (mNot (mT (mFn 2 c__law_same (mCons (mFn 1 c_is_grid (mCons (mVar 11) mNil)) (mCons (mFn 1 c__law_is_grid (mCons (mVar 11) mNil)) mNil))))) (sRet (mC (.bl false))) sNx)))))))))))))
  (sRet (mOp m_eq (mLc (mIt itAny (mTup (mCons (mTup (mCons (mC (.int 400)) (mCons (mC (.int 0)) (mCons (mC (.int 2)) mNil)))) (mCons (mTup (mCons (mC (.int 400)) (mCons (mC (.int 1)) (mCons (mC (.int 2)) mNil)))) (mCons (mTup (mCons (mC (.int 2)) (mCons (mC (.int 399)) (mCons (mC (.int 400)) mNil)))) (mCons (mTup (mCons (mC (.int 3)) (mCons (mC (.int 0)) (mCons (mC (.int 400)) mNil)))) (mCons (mTup (mCons (mC (.int 401)) (mCons (mC (.int 0)) (mCons (mC (.int 1)) mNil)))) (mCons (mTup (mCons (mC (.int 1)) (mCons (mC (.int 0)) (mCons (mC (.int 401)) mNil)))) mNil)))))))) (gN 4) tmYes (mFn 1 c_is_grid (mCons (mVar 4) mNil)) [4]) (mOp m_add (mOp m_mul (mLst (mCons (mC (.bl true)) mNil)) (mC (.int 3))) (mOp m_mul (mLst (mCons (mC (.bl false)) mNil)) (mC (.int 3)))))))))
def c_law : List D → Sto → R D := fnD 13 m_law
theorem var_ne {i j : Nat} {env : Env} {v : Option D} {S : Sto} (h : j ≠ i) : mVar i (env.set j v) S = mVar i env S := by
  unfold mVar
  rw [List.getElem?_set_ne h]
theorem var_eq {i : Nat} {env : Env} {d : D} {S : Sto} (h : i < env.length) : mVar i (env.set i (some d)) S = .ok d S := by
  unfold mVar
  rw [List.getElem?_set_self h]
abbrev At (env : Env) (i : Nat) (d : D) : Prop := ∀ S : Sto, mVar i env S = .ok d S
def Oth (vs : List Nat) (env env' : Env) : Prop := env'.length = env.length ∧ ∀ i, i ∉ vs → env'[i]? = env[i]?
theorem Oth.refl (vs : List Nat) (env : Env) : Oth vs env env := ⟨rfl, fun _ _ => rfl⟩
theorem Oth.set {vs : List Nat} {env env' : Env} {v : Nat} {x : Option D} (h : Oth vs env env') (hv : v ∈ vs) : Oth vs env (env'.set v x) :=
  ⟨by rw [List.length_set, h.1], fun i hi => by rw [List.getElem?_set_ne (fun e : v = i => hi (by rw [← e]; exact hv)), h.2 i hi]⟩
theorem Oth.trans {vs : List Nat} {a b c : Env} (h : Oth vs a b) (h2 : Oth vs b c) : Oth vs a c := ⟨h2.1.trans h.1, fun i hi => (h2.2 i hi).trans (h.2 i hi)⟩
theorem Oth.at {vs : List Nat} {env env' : Env} {i : Nat} {d : D} (h : Oth vs env env') (hi : i ∉ vs) (g : At env i d) : At env' i d := fun S => by
  have := g S
  unfold mVar at this ⊢
  rw [h.2 i hi]
  exact this
theorem At.ne {env : Env} {i j : Nat} {d : D} {v : Option D} (g : At env i d) (h : j ≠ i) : At (env.set j v) i d := fun S => (var_ne h).trans (g S)
theorem At.eq {env : Env} {i : Nat} {d : D} (h : i < env.length) : At (env.set i (some d)) i d := fun S => var_eq h
theorem lc_mapL {α : Type} {i : Nat} {e : EM} {env : Env} {vs : List Nat} {S : Sto} (f g : α → D) : ∀ (xs : List α) (acc : List D), acc.length + xs.length ≤ sizeLine → (∀ x ∈ xs, e ((wipeE env vs).set i (some (f x))) S = .ok (g x) S) →
    lcD (gN i) tmYes e (fun _ => true) env vs (xs.map f) acc S = .ok (acc ++ xs.map g) S
  | [], acc, _, _ => by simp [lcD]
  | x :: xs, acc, hz, h => by
    rw [List.length_cons] at hz
    rw [List.map_cons]
    unfold lcD
    rw [if_pos rfl, o_gN, bind_ok, o_yes, bind_ok, if_pos rfl, h x (List.mem_cons_self ..), bind_ok, if_pos (by omega), lc_mapL f g xs (acc ++ [g x]) (by rw [List.length_append]; simp; omega) fun y hy => h y (List.mem_cons_of_mem _ hy)]
    simp
theorem lc_mapL' {α : Type} {i : Nat} {e : EM} {env : Env} {vs : List Nat} {S : Sto} (f g : α → D) (xs : List α) (hz : xs.length ≤ sizeLine) (h : ∀ x ∈ xs, e ((wipeE env vs).set i (some (f x))) S = .ok (g x) S) :
    lcD (gN i) tmYes e (fun _ => true) env vs (xs.map f) [] S = .ok (xs.map g) S := by
  rw [lc_mapL f g xs [] (by simpa using hz) h, List.nil_append]
abbrev Grid := Nat × Nat × Nat
def gridsP (m k : Nat) : List Grid := if m % (k + 1) = 0 then (List.range (m / (k + 1))).map fun s => (k + 1, s, m / (k + 1)) else []
def gridsU (m i : Nat) : List Grid := (List.range i).flatMap (gridsP m)
def gridD (g : Grid) : D := .tup [.int g.1, .int g.2.1, .int g.2.2]
theorem gridsU_succ (m i : Nat) : gridsU m (i + 1) = gridsU m i ++ gridsP m i := by unfold gridsU; rw [List.range_succ, List.flatMap_append]; simp
theorem gridsP_len (m k : Nat) : (gridsP m k).length ≤ m := by
  unfold gridsP
  split
  · simp
    exact Nat.div_le_self ..
  · simp
theorem gridsU_len (m i : Nat) : (gridsU m i).length ≤ i * m := by
  induction i with
  | zero => simp [gridsU]
  | succ i ih =>
    rw [gridsU_succ, List.length_append, Nat.add_mul]
    have := gridsP_len m i
    omega
theorem mem_grids {m : Nat} {g : Grid} : g ∈ gridsU m m ↔ 0 < g.1 ∧ g.1 * g.2.2 = m ∧ g.2.1 < g.2.2 := by
  unfold gridsU gridsP
  rw [List.mem_flatMap]
  constructor
  · rintro ⟨k, hk, h⟩
    rw [List.mem_range] at hk
    split at h
    · next c =>
      obtain ⟨s, hs, rfl⟩ := List.mem_map.mp h
      rw [List.mem_range] at hs
      exact ⟨Nat.succ_pos _, Nat.mul_div_cancel' (Nat.dvd_of_mod_eq_zero c), hs⟩
    · cases h
  · rintro ⟨h1, h2, h3⟩
    obtain ⟨d, s, a⟩ := g
    simp only at h1 h2 h3
    have ha : 0 < a := by omega
    refine ⟨d - 1, ?_, ?_⟩
    · rw [List.mem_range]
      have : d ≤ d * a := Nat.le_mul_of_pos_right _ ha
      omega
    · have e : d - 1 + 1 = d := by omega
      have e2 : m / d = a := by rw [← h2]; exact Nat.mul_div_cancel_left _ h1
      rw [e, if_pos (by rw [← h2]; exact Nat.mul_mod_right ..), e2]
      exact List.mem_map.mpr ⟨s, List.mem_range.mpr h3, rfl⟩
def gEnv (m : Nat) (L : List Grid) (x2 x3 : Option D) : Env := [some (.int (m : Nat)), some (.fzl (L.map gridD)), x2, x3]
theorem row_grids {m k : Nat} {e : EM} {env : Env} {S : Sto} (hm : m ≤ 400) (he : ∀ s : Nat, s < m / (k + 1) → e ((wipeE env [3]).set 3 (some (.int (s : Nat)))) S = .ok (.tup [.int ((k + 1 : Nat)), .int (s : Nat), .int ((m / (k + 1) : Nat))]) S) (c : m % (k + 1) = 0) :
    lcD (gN 3) tmYes e (fun _ => true) env [3] (rangeD 0 (m / (k + 1))) [] S = .ok ((gridsP m k).map gridD) S := by
  have hd : m / (k + 1) ≤ 400 := Nat.le_trans (Nat.div_le_self ..) hm
  unfold gridsP rangeD
  rw [if_pos c, List.map_map]
  refine lc_mapL' _ _ _ (by simp [sizeLine]; omega) fun s hs => ?_
  rw [Int.zero_add, he s (List.mem_range.mp hs)]
  rfl
theorem law_grids_eq {m : Nat} (S : Sto) (h1 : 1 ≤ m) (hm : m ≤ 400) : c__law_grids [.int (m : Nat)] S = .ok (.fzl ((gridsU m m).map gridD)) S := by
  have run : Run (c__law_grids [.int (m : Nat)] S) fun d S' => d = .fzl ((gridsU m m).map gridD) ∧ S' = S := by
    unfold c__law_grids
    refine run_fn ?_
    unfold m__law_grids
    refine run_seq ?_
    simp
    refine run_seq ?_
    rw [o_for]
    have t1 : smallI 1 := by decide
    have t2 : smallI ((m : Int) + 1) := ⟨by omega, by omega⟩
    simp [e_r2 t1 t2]
    refine run_for (fun i env S' => S' = S ∧ ∃ x2 x3, env = gEnv m (gridsU m i) x2 x3) ⟨rfl, _, _, rfl⟩ ?_ ?_
    · rintro i d env S' hd ⟨rfl, x2, x3, rfl⟩
      obtain ⟨hi, rfl⟩ := rangeD_get hd
      have hi : i < m := by omega
      refine ⟨rfl, ?_⟩
      rw [show (1 : Int) + (i : Nat) = ((i + 1 : Nat) : Int) by omega]
      have em : m_mod (.int (m : Nat)) (.int ((i + 1 : Nat))) S' = .ok (.int ((m % (i + 1) : Nat))) S' := by
        rw [e_mod (by omega), ← Int.natCast_emod]
      have ed : ∀ S, m_fdiv (.int (m : Nat)) (.int ((i + 1 : Nat))) S = .ok (.int ((m / (i + 1) : Nat))) S := fun S => by
        rw [e_fdiv (by omega) (by omega), ← Int.natCast_ediv]
      have hd4 : m / (i + 1) ≤ 400 := Nat.le_trans (Nat.div_le_self ..) hm
      have sd : smallI ((m / (i + 1) : Nat) : Int) := by
        generalize m / (i + 1) = q at hd4
        exact ⟨by omega, by omega⟩
      by_cases c : m % (i + 1) = 0
      · have eq : (((m % (i + 1) : Nat) : Int) == 0) = true := by rw [c]; rfl
        have er := row_grids (m := m) (k := i) (S := S') (env := gEnv m (gridsU m i) (some (.int ((i + 1 : Nat)))) x3) (e := mTup (mCons (mVar 2) (mCons (mVar 3) (mCons (mCall m_int (mCons (mOp m_fdiv (mVar 0) (mVar 2)) mNil)) mNil)))) hm (fun s hs => by simp only [gEnv, wipeE, List.set, o_tup, o_cons, o_nil, o_varS, o_var0, e_bind_ok, o_call, o_op, ed, e_int]; exact if_pos sizeLine3) c
        have ea : m_add (.fzl ((gridsU m i).map gridD)) (.fzl ((gridsP m i).map gridD)) S' = .ok (.fzl ((gridsU m (i + 1)).map gridD)) S' := by
          rw [gridsU_succ, List.map_append]
          refine e_addF ?_
          have l1 := gridsU_len m i
          have l2 := gridsP_len m i
          have l3 : i * m ≤ 400 * 400 := Nat.mul_le_mul (by omega) hm
          simp [sizeLine]
          omega
        simp only [gEnv] at er
        simp only [gEnv, o_gN, e_run_ok, List.set, o_if, o_T, o_op, o_call, o_cons, o_nil, o_varS, o_var0, e_bind_ok, e_int, em, o_C, e_eqInt, eq, e_isB, if_true, o_asg, o_lc, o_itA, ed, e_r1 sd, Int.toNat_natCast, er, ea]
        exact ⟨trivial, _, _, rfl⟩
      · have eq : (((m % (i + 1) : Nat) : Int) == 0) = false := by
          rw [beq_eq_false_iff_ne]
          omega
        have eU : gridsU m (i + 1) = gridsU m i := by rw [gridsU_succ, gridsP, if_neg c, List.append_nil]
        simp only [gEnv, o_gN, e_run_ok, List.set, o_if, o_T, o_op, o_call, o_cons, o_nil, o_varS, o_var0, e_bind_ok, e_int, em, o_C, e_eqInt, eq, e_isB, Bool.false_eq_true, if_false, o_nx, eU]
        exact ⟨trivial, _, _, rfl⟩
    · rintro env S' ⟨rfl, x2, x3, rfl⟩
      refine ⟨rfl, ?_⟩
      rw [rangeD_len]
      simp [gEnv]
  obtain ⟨d, S', e, rfl, rfl⟩ := run.out
  exact e
theorem cup_cl {o : O} (g : CupO o) : ([o] : Sto).all (O.cl 1) = true := by
  obtain ⟨x, y, rfl, _⟩ := g
  rfl
theorem pl_grids (L : List Grid) : D.pls (L.map gridD) = true := pls_iff.mpr fun d hd => by
  obtain ⟨g, _, rfl⟩ := List.mem_map.mp hd
  rfl
def giEnv (m : Nat) (x2 x3 : Option D) : Env := [some (.int (m : Nat)), some (.loc 1), x2, x3]
theorem mul_test (m i : Nat) : ((m / (i + 1)) * (i + 1) = m) ↔ m % (i + 1) = 0 := by
  have := Nat.div_add_mod m (i + 1)
  rw [Nat.mul_comm] at this
  omega
theorem grids_in_run {m : Nat} {o : O} (g : CupO o) (h1 : 1 ≤ m) (hm : m ≤ 400) : c_grids_in [.int (m : Nat)] [o] = .ok (.fzl ((gridsU m m).map gridD)) [o] := by
  have run : Run (c_grids_in [.int (m : Nat)] [o]) fun d S' => d = .fzl ((gridsU m m).map gridD) ∧ S' = [o] := by
    refine run_drop ?_
    refine Run.mono (Q := fun d S' => d = .loc 1 ∧ S' = [o, .lst ((gridsU m m).map gridD)]) ?_ ?_
    · refine run_fn ?_
      unfold m_grids_in
      refine run_seq ?_
      simp [newL]
      refine run_seq ?_
      rw [o_for]
      have t1 : smallI 1 := by decide
      have t2 : smallI ((m : Int) + 1) := ⟨by omega, by omega⟩
      simp [e_r2 t1 t2]
      refine run_for (fun i env S' => S' = [o, .lst ((gridsU m i).map gridD)] ∧ ∃ x2 x3, env = giEnv m x2 x3) ⟨rfl, _, _, rfl⟩ ?_ ?_
      · rintro i d env S' hd ⟨rfl, x2, x3, rfl⟩
        obtain ⟨hi, rfl⟩ := rangeD_get hd
        have hi : i < m := by omega
        refine ⟨rfl, ?_⟩
        rw [show (1 : Int) + (i : Nat) = ((i + 1 : Nat) : Int) by omega]
        have hd4 : m / (i + 1) ≤ 400 := Nat.le_trans (Nat.div_le_self ..) hm
        have ed : ∀ S, m_fdiv (.int (m : Nat)) (.int ((i + 1 : Nat))) S = .ok (.int ((m / (i + 1) : Nat))) S := fun S => by
          rw [e_fdiv (by omega) (by omega), ← Int.natCast_ediv]
        have em : ∀ S, m_mul (.int ((m / (i + 1) : Nat))) (.int ((i + 1 : Nat))) S = .ok (.int (((m / (i + 1)) * (i + 1) : Nat))) S := fun S => by
          rw [e_mul (mulR _ ⟨by omega, by omega⟩), Int.natCast_mul]
        have sd : smallI ((m / (i + 1) : Nat) : Int) := by
          generalize m / (i + 1) = q at hd4
          exact ⟨by omega, by omega⟩
        by_cases c : m % (i + 1) = 0
        · have eq : ((((m / (i + 1)) * (i + 1) : Nat) : Int) == (m : Int)) = true := by
            rw [(mul_test m i).mpr c]
            exact beq_self_eq_true _
          have er := row_grids (m := m) (k := i) (S := [o, .lst ((gridsU m i).map gridD)]) (env := giEnv m (some (.int ((i + 1 : Nat)))) x3) (e := mTup (mCons (mVar 2) (mCons (mVar 3) (mCons (mOp m_fdiv (mVar 0) (mVar 2)) mNil)))) hm (fun s hs => by simp only [giEnv, wipeE, List.set, o_tup, o_cons, o_nil, o_varS, o_var0, e_bind_ok, o_op, ed]; exact if_pos sizeLine3) c
          have ea : m_iadd (.loc 1) (.fzl ((gridsP m i).map gridD)) [o, .lst ((gridsU m i).map gridD)] = .ok (.loc 1) [o, .lst ((gridsU m (i + 1)).map gridD)] := by
            rw [gridsU_succ, List.map_append]
            refine e_iaddL rfl ?_
            have l1 := gridsU_len m i
            have l2 := gridsP_len m i
            have l3 : i * m ≤ 400 * 400 := Nat.mul_le_mul (by omega) hm
            simp [sizeLine]
            omega
          have e1 : (giEnv m (some (.int ((i + 1 : Nat)))) x3)[1]? = some (some (.loc 1)) := rfl
          have e2 := o_aug (S := [o, .lst ((gridsU m i).map gridD)]) 1 (mLc (mItA itR1 (mCons (mOp m_fdiv (mVar 0) (mVar 2)) mNil)) (gN 3) tmYes (mTup (mCons (mVar 2) (mCons (mVar 3) (mCons (mOp m_fdiv (mVar 0) (mVar 2)) mNil)))) [3]) m_iadd _ e1
          simp only [giEnv] at er e2
          simp only [giEnv, o_gN, e_run_ok, List.set, o_if, o_T, o_op, o_varS, o_var0, e_bind_ok, em, ed, e_eqInt, eq, e_isB, if_true, e2, o_lc, o_itA, o_cons, o_nil, e_r1 sd, Int.toNat_natCast, er, ea]
          exact ⟨trivial, _, _, rfl⟩
        · have eq : ((((m / (i + 1)) * (i + 1) : Nat) : Int) == (m : Int)) = false := by
            rw [beq_eq_false_iff_ne]
            intro h
            exact c ((mul_test m i).mp (Int.ofNat_inj.mp h))
          have eU : gridsU m (i + 1) = gridsU m i := by rw [gridsU_succ, gridsP, if_neg c, List.append_nil]
          simp only [giEnv, o_gN, e_run_ok, List.set, o_if, o_T, o_op, o_varS, o_var0, e_bind_ok, em, ed, e_eqInt, eq, e_isB, Bool.false_eq_true, if_false, o_nx, eU]
          exact ⟨trivial, _, _, rfl⟩
      · rintro env S' ⟨rfl, x2, x3, rfl⟩
        refine ⟨rfl, ?_⟩
        rw [rangeD_len]
        simp [giEnv]
    · rintro d S' ⟨rfl, rfl⟩
      refine ⟨by simp, cup_cl g, _, frz_new (m := 1) (by simp) rfl (pl_grids _), rfl, rfl⟩
  obtain ⟨d, S', e, rfl, rfl⟩ := run.out
  exact e
theorem fits_many {m : Nat} (S : Sto) (h1 : 1 ≤ m) (hm : m ≤ 400) : c_fits_whole [.int (m : Nat), .int 1, .int 400] S = .ok (.bl true) S := by
  rw [fits_whole_eq _ _ _ S rfl]
  simp [intIn]
  omega
theorem grids_eq {m : Nat} {o : O} (g : CupO o) (h1 : 1 ≤ m) (hm : m ≤ 400) : c_grids [.int (m : Nat)] [o] = .ok (.tup ((gridsU m m).map gridD)) [o] := by
  unfold c_grids fnD m_grids
  simp [runFl, o_seq, fits_many _ h1 hm, grids_in_run g h1 hm]
def clEnv (g : Grid) (x : D) (r c : Int) : Env := [some (gridD g), some x, some (.int r), some (.int c)]
theorem ix_grid0 (g : Grid) (S : Sto) : m_ix (gridD g) (.int 0) S = .ok (.int g.1) S := rfl
theorem ix_grid1 (g : Grid) (S : Sto) : m_ix (gridD g) (.int 1) S = .ok (.int g.2.1) S := rfl
theorem ix_grid2 (g : Grid) (S : Sto) : m_ix (gridD g) (.int 2) S = .ok (.int g.2.2) S := rfl
def mDownC : TM := (mT (mOp m_ge (mVar 2) (mOp m_ix (mVar 0) (mC (.int 0)))))
def mDownB : SM := (sPar [2, 3] (mCons (mOp m_sub (mVar 2) (mOp m_ix (mVar 0) (mC (.int 0)))) (mCons (mOp m_sub (mVar 3) (mOp m_ix (mVar 0) (mC (.int 1)))) mNil)))
def mUpC : TM := (mT (mOp m_lt (mVar 2) (mC (.int 0))))
def mUpB : SM := (sPar [2, 3] (mCons (mOp m_add (mVar 2) (mOp m_ix (mVar 0) (mC (.int 0)))) (mCons (mOp m_add (mVar 3) (mOp m_ix (mVar 0) (mC (.int 1)))) mNil)))
theorem downs {g : Grid} {x : D} {r : Int} (S : Sto) (hr : r < g.1) (hr0 : 0 ≤ r) : ∀ (n k : Nat) (c : Int), n < k → whileD mDownC mDownB k (clEnv g x (r + n * g.1) (c + n * g.2.1)) S = .ok (.nx (clEnv g x r c)) S
  | n, 0, c, h => by omega
  | 0, k + 1, c, h => by
    have e : decide ((g.1 : Int) ≤ r) = false := decide_eq_false (by omega)
    unfold whileD
    simp [mDownC, clEnv, ix_grid0, e]
  | n + 1, k + 1, c, h => by
    have ih := downs (x := x) S hr hr0 n k c (by omega)
    have hp : (0 : Int) ≤ n * g.1 := Int.mul_nonneg (by omega) (by omega)
    have e1 : r + ((n + 1 : Nat) : Int) * g.1 = (r + n * g.1) + g.1 := by
      rw [Int.natCast_add, Int.add_mul]
      simp
      omega
    have e2 : c + ((n + 1 : Nat) : Int) * g.2.1 = (c + n * g.2.1) + g.2.1 := by
      rw [Int.natCast_add, Int.add_mul]
      simp
      omega
    rw [e1, e2]
    have e : decide ((g.1 : Int) ≤ (r + n * g.1) + g.1) = true := decide_eq_true (by omega)
    unfold whileD
    have t1 : mDownC (clEnv g x ((r + n * g.1) + g.1) ((c + n * g.2.1) + g.2.1)) S = .ok true S := by
      simp only [mDownC, clEnv, o_T, o_op, o_varS, o_var0, e_bind_ok, o_C, ix_grid0, e_ge, e, e_isB]
    have t2 : mDownB (clEnv g x ((r + n * g.1) + g.1) ((c + n * g.2.1) + g.2.1)) S = .ok (.nx (clEnv g x (r + n * g.1) (c + n * g.2.1))) S := by
      simp only [mDownB, clEnv, o_par, o_cons, o_nil, o_op, o_varS, o_var0, e_bind_ok, o_C, ix_grid0, ix_grid1, e_sub]
      simp [setAll]
      try omega
    rw [t1, e_bind_ok, if_pos rfl, t2, e_bind_ok]
    exact ih
theorem ups {g : Grid} {x : D} {r : Int} (S : Sto) (hr : r < g.1) (hr0 : 0 ≤ r) : ∀ (n k : Nat) (c : Int), n < k → whileD mUpC mUpB k (clEnv g x (r - n * g.1) (c - n * g.2.1)) S = .ok (.nx (clEnv g x r c)) S
  | n, 0, c, h => by omega
  | 0, k + 1, c, h => by
    have e : decide (r < 0) = false := decide_eq_false (by omega)
    unfold whileD
    simp [mUpC, clEnv, e]
  | n + 1, k + 1, c, h => by
    have ih := ups (x := x) S hr hr0 n k c (by omega)
    have hp : (0 : Int) ≤ n * g.1 := Int.mul_nonneg (by omega) (by omega)
    have e1 : r - ((n + 1 : Nat) : Int) * g.1 = (r - n * g.1) - g.1 := by
      rw [Int.natCast_add, Int.add_mul]
      simp
      omega
    have e2 : c - ((n + 1 : Nat) : Int) * g.2.1 = (c - n * g.2.1) - g.2.1 := by
      rw [Int.natCast_add, Int.add_mul]
      simp
      omega
    rw [e1, e2]
    have e : decide ((r - n * g.1) - g.1 < 0) = true := decide_eq_true (by omega)
    unfold whileD
    have t1 : mUpC (clEnv g x ((r - n * g.1) - g.1) ((c - n * g.2.1) - g.2.1)) S = .ok true S := by
      simp only [mUpC, clEnv, o_T, o_op, o_varS, o_var0, e_bind_ok, o_C, e_lt, e, e_isB]
    have t2 : mUpB (clEnv g x ((r - n * g.1) - g.1) ((c - n * g.2.1) - g.2.1)) S = .ok (.nx (clEnv g x (r - n * g.1) (c - n * g.2.1))) S := by
      simp only [mUpB, clEnv, o_par, o_cons, o_nil, o_op, o_varS, o_var0, e_bind_ok, o_C, ix_grid0, ix_grid1, e_add]
      simp [setAll]
      try omega
    rw [t1, e_bind_ok, if_pos rfl, t2, e_bind_ok]
    exact ih
def classR (g : Grid) (r c : Int) : Int × Int := (r % g.1, (c - r / g.1 * g.2.1) % g.2.2)
def pairD (p : Int × Int) : D := .tup [.int p.1, .int p.2]
theorem loops_eq {g : Grid} {x : D} {r c : Int} (S : Sto) (h0 : 0 < g.1) (hr : -2000 ≤ r ∧ r ≤ 2000) :
    (whileD mDownC mDownB 100000 (clEnv g x r c) S = .ok (.nx (clEnv g x r c)) S ∧ whileD mUpC mUpB 100000 (clEnv g x r c) S = .ok (.nx (clEnv g x (r % g.1) (c - r / g.1 * g.2.1))) S) ∨
    (whileD mDownC mDownB 100000 (clEnv g x r c) S = .ok (.nx (clEnv g x (r % g.1) (c - r / g.1 * g.2.1))) S ∧ whileD mUpC mUpB 100000 (clEnv g x (r % g.1) (c - r / g.1 * g.2.1)) S = .ok (.nx (clEnv g x (r % g.1) (c - r / g.1 * g.2.1))) S) := by
  have hg : (0 : Int) < g.1 := by omega
  have b1 : 0 ≤ r % g.1 := Int.emod_nonneg _ (by omega)
  have b2 : r % g.1 < g.1 := Int.emod_lt_of_pos _ hg
  have hd : r % (g.1 : Int) + g.1 * (r / g.1) = r := Int.emod_add_mul_ediv r g.1
  by_cases c0 : 0 ≤ r
  · refine .inr ⟨?_, ?_⟩
    · have q0 : 0 ≤ r / g.1 := Int.ediv_nonneg c0 (by omega)
      have q1 : r / g.1 ≤ r := Int.ediv_le_self _ c0
      have e := downs (g := g) (x := x) S b2 b1 (r / g.1).toNat 100000 (c - r / g.1 * g.2.1) (by omega)
      rw [Int.toNat_of_nonneg q0] at e
      rw [show r % g.1 + r / g.1 * g.1 = r by rw [Int.mul_comm]; exact hd, show c - r / g.1 * g.2.1 + r / g.1 * g.2.1 = c by omega] at e
      exact e
    · have e := ups (g := g) (x := x) S b2 b1 0 100000 (c - r / g.1 * g.2.1) (by omega)
      simpa using e
  · refine .inl ⟨?_, ?_⟩
    · unfold whileD
      have e : decide ((g.1 : Int) ≤ r) = false := decide_eq_false (by omega)
      simp [mDownC, clEnv, ix_grid0, e]
    · have q0 : r / g.1 < 0 := Int.ediv_neg_of_neg_of_pos (by omega) hg
      have q1 : r ≤ r / g.1 := by
        rw [Int.le_ediv_iff_mul_le hg]
        have : r * g.1 ≤ r * 1 := Int.mul_le_mul_of_nonpos_left (by omega) (by omega)
        omega
      have e := ups (g := g) (x := x) S b2 b1 (-(r / g.1)).toNat 100000 (c - r / g.1 * g.2.1) (by omega)
      rw [Int.toNat_of_nonneg (by omega), Int.neg_mul, Int.neg_mul, Int.sub_neg, Int.sub_neg] at e
      rw [show r % g.1 + r / g.1 * g.1 = r by rw [Int.mul_comm]; exact hd, show c - r / g.1 * g.2.1 + r / g.1 * g.2.1 = c by omega] at e
      exact e
theorem law_class_eq {g : Grid} {r c : Int} (S : Sto) (h0 : 0 < g.1) (ha : 0 < g.2.2) (hr : -2000 ≤ r ∧ r ≤ 2000) : c__law_class [gridD g, pairD (r, c)] S = .ok (pairD (classR g r c)) S := by
  have em : ∀ z, m_mod (.int z) (.int (g.2.2 : Nat)) S = .ok (.int (z % g.2.2)) S := fun z => e_mod (by omega)
  unfold c__law_class fnD m__law_class
  show runFl (sSeq _ (sSeq (whileD mDownC mDownB 100000) (sSeq (whileD mUpC mUpB 100000) _)) _ S) = _
  have a0 : sAsg (mVar 1) (gT 2 (gsC (gN 2) (gsC (gN 3) gsN))) (env0 4 [gridD g, pairD (r, c)]) S = .ok (.nx (clEnv g (pairD (r, c)) r c)) S := by
    simp [pairD, gT, gsC, gsN, clEnv]
  rcases loops_eq (g := g) (x := pairD (r, c)) (r := r) (c := c) S h0 hr with ⟨e1, e2⟩ | ⟨e1, e2⟩
  · rw [o_seq, a0, e_bind_ok]
    simp only
    rw [o_seq, e1, e_bind_ok]
    simp only
    rw [o_seq, e2, e_bind_ok]
    simp [clEnv, runFl, em, ix_grid2, pairD, classR]
  · rw [o_seq, a0, e_bind_ok]
    simp only
    rw [o_seq, e1, e_bind_ok]
    simp only
    rw [o_seq, e2, e_bind_ok]
    simp [clEnv, runFl, em, ix_grid2, pairD, classR]
structure GOk (g : Grid) : Prop where
  h0 : 0 < g.1
  h1 : g.1 ≤ 400
  s : g.2.1 < g.2.2
  a : g.2.2 ≤ 400
  m : g.1 * g.2.2 ≤ 800
theorem class_in_eq {g : Grid} {r c : Int} (S : Sto) (h : GOk g) : c_class_in [gridD g, pairD (r, c)] S = .ok (pairD (classR g r c)) S := by
  have h0 := h.h0
  have h1 := h.h1
  have hs := h.s
  have ha := h.a
  have x0 : ∀ S, m_ix (pairD (r, c)) (.int 0) S = .ok (.int r) S := fun S => rfl
  have x1 : ∀ S, m_ix (pairD (r, c)) (.int 1) S = .ok (.int c) S := fun S => rfl
  have f1 : ∀ (z : Int) S, m_fdiv (.int z) (.int (g.1 : Nat)) S = .ok (.int (z / g.1)) S := fun z S => e_fdiv (by omega) (by omega)
  have f2 : ∀ (z : Int) S, m_fdiv (.int z) (.int (g.2.2 : Nat)) S = .ok (.int (z / g.2.2)) S := fun z S => e_fdiv (by omega) (by omega)
  have k1 : ∀ (z : Int) S, m_mul (.int z) (.int (g.2.1 : Nat)) S = .ok (.int (z * g.2.1)) S := fun z S => e_mul (mulR _ ⟨by omega, by omega⟩)
  have k2 : ∀ (z : Int) S, m_mul (.int z) (.int (g.1 : Nat)) S = .ok (.int (z * g.1)) S := fun z S => e_mul (mulR _ ⟨by omega, by omega⟩)
  have k3 : ∀ (z : Int) S, m_mul (.int z) (.int (g.2.2 : Nat)) S = .ok (.int (z * g.2.2)) S := fun z S => e_mul (mulR _ ⟨by omega, by omega⟩)
  have m1 : ∀ z n : Int, z - z / n * n = z % n := fun z n => by rw [Int.emod_def, Int.mul_comm n]
  have a0 : sAsg (mVar 0) (gT 3 (gsC (gN 2) (gsC (gN 3) (gsC (gN 4) gsN)))) (env0 7 [gridD g, pairD (r, c)]) S = .ok (.nx [some (gridD g), some (pairD (r, c)), some (.int (g.1 : Nat)), some (.int (g.2.1 : Nat)), some (.int (g.2.2 : Nat)), none, none]) S := by
    simp [gridD, gT, gsC, gsN]
  unfold c_class_in fnD m_class_in
  rw [o_seq, a0, e_bind_ok]
  simp [runFl, o_seq, x0, x1, f1, f2, k1, k2, k3, m1]
  rfl
def gridB : D → Bool
  | .tup [.int d, .int s, .int a] => decide (0 ≤ d) && decide (d ≤ 400) && (decide (0 ≤ s) && decide (s ≤ 400)) && (decide (0 ≤ a) && decide (a ≤ 400)) && (decide (0 < d) && (decide (s < a) && decide (d * a ≤ 800)))
  | _ => false
/-- all that it holds can be asked -/
def vd1 : D → Bool
  | .tup a => a.all D.vd
  | d => D.vd d
theorem vd_of_vd1 {v : D} (h : vd1 v = true) : D.vd v = true := by
  cases v <;> first | rfl | exact h
theorem gridB3 (x y z : D) : gridB (.tup [x, y, z]) = ((intIn 0 400 x && (intIn 0 400 y && intIn 0 400 z)) && (match x, y, z with
    | .int d, .int s, .int a => decide (0 < d) && (decide (s < a) && decide (d * a ≤ 800))
    | _, _, _ => false)) := by
  cases x <;> try rfl
  cases y <;> try (simp [gridB, intIn]; done)
  cases z <;> try (simp [gridB, intIn]; done)
  simp only [gridB, intIn, Bool.and_assoc]
theorem gridB_no {v : D} (c : ¬ ∃ x y z, v = .tup [x, y, z]) : gridB v = false := by
  unfold gridB
  split
  · exact absurd ⟨_, _, _, rfl⟩ c
  · rfl
theorem fits_grid_eq (v : D) (S : Sto) (h : vd1 v = true) : c_fits_grid [v] S = .ok (.bl (gridB v)) S := by
  unfold c_fits_grid fnD m_fits_grid
  have ev := is_tuple_eq v 3 3 S (vd_of_vd1 h)
  by_cases c : ∃ x y z, v = .tup [x, y, z]
  · obtain ⟨x, y, z, rfl⟩ := c
    have hv : D.vd x = true ∧ D.vd y = true ∧ D.vd z = true := by simpa [vd1] using h
    have e1 : lcD (gN 1) tmYes (mFn 3 c_fits_whole (mCons (mVar 1) (mCons (mC (.int 0)) (mCons (mC (.int 400)) mNil)))) (fun _ => true) [some (.tup [x, y, z]), none] [1] [x, y, z] [] S = .ok ([x, y, z].map fun d => .bl (intIn 0 400 d)) S :=
      lc_map _ _ sizeLine3 fun d hd => by
        have hd' : D.vd d = true := by
          simp at hd
          rcases hd with rfl | rfl | rfl
          · exact hv.1
          · exact hv.2.1
          · exact hv.2.2
        simp [wipeE, fits_whole_eq d 0 400 S hd']
    have e3 : tupIn 3 3 (.tup [x, y, z]) = true := rfl
    rw [e3] at ev
    have e0 : env0 2 [D.tup [x, y, z]] = [some (.tup [x, y, z]), none] := rfl
    have i0 : ∀ S, m_ix (.tup [x, y, z]) (.int 0) S = .ok x S := fun S => rfl
    have i1 : ∀ S, m_ix (.tup [x, y, z]) (.int 1) S = .ok y S := fun S => rfl
    have i2 : ∀ S, m_ix (.tup [x, y, z]) (.int 2) S = .ok z S := fun S => rfl
    rw [e0, gridB3]
    have ea := e_all' (fun d => intIn 0 400 d) [x, y, z] S
    have ea2 : [x, y, z].all (fun d => intIn 0 400 d) = (intIn 0 400 x && (intIn 0 400 y && intIn 0 400 z)) := by simp
    rw [ea2] at ea
    simp only [o_seq, o_if, o_or, o_not, o_T, o_fn, o_cons, o_nil, o_C, o_var0, e_bind_ok, List.length_cons, List.length_nil, Nat.zero_add, Nat.reduceAdd, if_true, ev, e_isB, Bool.not_true, Bool.false_eq_true, if_false, o_call, o_lc, o_it, e_itT, e1, ea]
    cases q : (intIn 0 400 x && (intIn 0 400 y && intIn 0 400 z)) with
    | false => simp [runFl]
    | true =>
      rw [Bool.and_eq_true, Bool.and_eq_true] at q
      obtain ⟨q1, q2, q3⟩ := q
      cases x with
      | int d =>
        cases y with
        | int s =>
          cases z with
          | int a =>
            simp [intIn] at q1 q2 q3
            have k1 : ∀ S, m_mul (.int d) (.int a) S = .ok (.int (d * a)) S := fun S => e_mul (mulR _ ⟨by omega, by omega⟩)
            have k2 : ∀ S, m_mul (.int 2) (.int 400) S = .ok (.int 800) S := fun S => rfl
            simp only [Bool.not_true, Bool.false_eq_true, if_false, o_nx, e_bind_ok, o_ret, o_andV, o_op, o_var0, o_C, i0, i1, i2, e_gt, e_isB, e_le, k1, k2]
            cases decide (0 < d) <;> cases decide (s < a) <;> rfl
          | _ => simp [intIn] at q3
        | _ => simp [intIn] at q2
      | _ => simp [intIn] at q1
  · have e0 : tupIn 3 3 v = false := by
      cases v with
      | tup l =>
        match l, c with
        | [], _ => rfl
        | [_], _ => rfl
        | [_, _], _ => rfl
        | [x, y, z], c => exact absurd ⟨x, y, z, rfl⟩ c
        | _ :: _ :: _ :: _ :: l, _ =>
          simp [tupIn]
          omega
      | _ => rfl
    rw [e0] at ev
    rw [gridB_no c]
    simp [runFl, o_seq, ev]
theorem GOk.b {g : Grid} (h : GOk g) : gridB (gridD g) = true ∧ vd1 (gridD g) = true := by
  have h0 := h.h0
  have h1 := h.h1
  have hs := h.s
  have ha := h.a
  have hm : ((g.1 : Int)) * g.2.2 ≤ 800 := by
    have := h.m
    rw [← Int.natCast_mul]
    omega
  refine ⟨?_, rfl⟩
  unfold gridD gridB
  simp [hm]
  omega
theorem far_eq {r c : Int} (S : Sto) (h : (-1000 ≤ r ∧ r ≤ 1000) ∧ (-1000 ≤ c ∧ c ≤ 1000)) : c_need_far_cell [pairD (r, c)] S = .ok .non S := by
  have e1 : lcD (gN 1) tmYes (mFn 3 c_fits_whole (mCons (mVar 1) (mCons (mUn m_neg (mC (.int 1000))) (mCons (mC (.int 1000)) mNil)))) (fun _ => true) [some (pairD (r, c)), none] [1] [.int r, .int c] [] S = .ok ([D.int r, .int c].map fun d => .bl (intIn (-1000) 1000 d)) S :=
    lc_map _ _ sizeLine2 fun d hd => by
      have hd' : D.vd d = true := by
        simp at hd
        rcases hd with rfl | rfl <;> rfl
      simp [wipeE, fits_whole_eq d (-1000) 1000 S hd']
  have ea := e_all' (fun d => intIn (-1000) 1000 d) [D.int r, .int c] S
  have e3 : [D.int r, .int c].all (fun d => intIn (-1000) 1000 d) = true := by
    simp [intIn, h.1, h.2]
  rw [e3] at ea
  have ev := is_tuple_eq (pairD (r, c)) 2 2 S rfl
  have e4 : tupIn 2 2 (pairD (r, c)) = true := rfl
  rw [e4] at ev
  have it : itAny (pairD (r, c)) S = .ok ⟨[.int r, .int c], fun _ => true⟩ S := rfl
  unfold c_need_far_cell fnD m_need_far_cell
  simp [runFl, o_lc, ev, it]
  rw [e1]
  simp only [e_bind_ok, ea, e_isB]
  rfl
theorem class_of_eq {g : Grid} {r c : Int} (S : Sto) (hg : GOk g) (h : (-1000 ≤ r ∧ r ≤ 1000) ∧ (-1000 ≤ c ∧ c ≤ 1000)) : c_class_of [gridD g, pairD (r, c)] S = .ok (pairD (classR g r c)) S := by
  have e1 := fits_grid_eq (gridD g) S hg.b.2
  rw [hg.b.1] at e1
  unfold c_class_of fnD m_class_of
  simp [runFl, o_seq, e1, far_eq S h, class_in_eq S hg]
theorem class_idem {g : Grid} {r c : Int} (hg : GOk g) : classR g (classR g r c).1 (classR g r c).2 = classR g r c := by
  have h0 : (0 : Int) < g.1 := by have := hg.h0; omega
  have ha : (0 : Int) < g.2.2 := by have := hg.s; omega
  unfold classR
  simp only
  have b1 : 0 ≤ r % g.1 := Int.emod_nonneg _ (by omega)
  have b2 : r % g.1 < g.1 := Int.emod_lt_of_pos _ h0
  rw [Int.ediv_eq_zero_of_lt b1 b2, Int.zero_mul, Int.sub_zero, Int.emod_emod_of_dvd _ (Int.dvd_refl _), Int.emod_emod_of_dvd _ (Int.dvd_refl _)]
theorem class_shift {g : Grid} {r c : Int} (hg : GOk g) : classR g (r + g.1) (c + g.2.1) = classR g r c := by
  have h0 : (0 : Int) < g.1 := by have := hg.h0; omega
  unfold classR
  have e : (r + g.1) / (g.1 : Int) = r / g.1 + 1 := by
    have := Int.add_mul_ediv_right r 1 (c := (g.1 : Int)) (by omega)
    rwa [Int.one_mul] at this
  rw [Int.add_emod_right, e, Int.add_mul, Int.one_mul]
  congr 2
  omega
theorem class_bound {g : Grid} {r c : Int} (hg : GOk g) : (-1000 ≤ (classR g r c).1 ∧ (classR g r c).1 ≤ 1000) ∧ (-1000 ≤ (classR g r c).2 ∧ (classR g r c).2 ≤ 1000) := by
  have h0 : (0 : Int) < g.1 := by have := hg.h0; omega
  have ha : (0 : Int) < g.2.2 := by have := hg.s; omega
  have h1 := hg.h1
  have h2 := hg.a
  unfold classR
  have b1 : 0 ≤ r % g.1 := Int.emod_nonneg _ (by omega)
  have b2 : r % g.1 < g.1 := Int.emod_lt_of_pos _ h0
  have b3 : 0 ≤ (c - r / g.1 * g.2.1) % g.2.2 := Int.emod_nonneg _ (by omega)
  have b4 : (c - r / g.1 * g.2.1) % g.2.2 < g.2.2 := Int.emod_lt_of_pos _ ha
  simp only
  omega
theorem pdS_pair (S : Sto) (p : Int × Int) : pdS S (pairD p) = some (.tuple [.int p.1, .int p.2]) := pdS_tup S [p.1, p.2]
theorem ne_pair (S : Sto) (p : Int × Int) : m_ne (pairD p) (pairD p) S = .ok (.bl false) S := by
  unfold m_ne
  rw [pdS_pair]
  simp [PyData.eqv, PyData.eqvAll]
theorem grid_ok {m : Nat} {g : Grid} (hm : m ≤ 400) (h1 : 1 ≤ m) (h : g ∈ gridsU m m) : GOk g := by
  obtain ⟨a, b, c⟩ := mem_grids.mp h
  have x1 : g.1 ≤ g.1 * g.2.2 := Nat.le_mul_of_pos_right _ (by omega)
  have x2 : g.2.2 ≤ g.1 * g.2.2 := Nat.le_mul_of_pos_left _ a
  exact ⟨a, by omega, c, by omega, by omega⟩
/-- plain items -/
def lowD : D → Bool
  | .non => true
  | .bl _ => true
  | .int _ => true
  | .str s => PyData.canLay0 (.str s)
  | _ => false
def low1 : D → Bool
  | .tup a => a.all lowD
  | d => lowD d
def pdOf : D → PyData
  | .bl b => .bool b
  | .int i => .int i
  | .str s => .str s
  | _ => .none
def pdOf1 : D → PyData
  | .tup a => .tuple (a.map pdOf)
  | d => pdOf d
theorem toPD_low (S : Sto) (k : Nat) {d : D} (h : lowD d = true) : toPD S k d = some (pdOf d) := by
  cases d <;> first | (cases k <;> rfl) | cases h
theorem toPD_lows (S : Sto) (k : Nat) : ∀ {ds : List D}, ds.all lowD = true → opAll (toPD S k) ds = some (ds.map pdOf)
  | [], _ => rfl
  | d :: ds, h => by
    simp only [List.all_cons, Bool.and_eq_true] at h
    unfold opAll
    rw [toPD_low S k h.1, toPD_lows S k h.2]
    rfl
theorem toPD_low1 (S : Sto) (k : Nat) {d : D} (h : low1 d = true) : toPD S (k + 1) d = some (pdOf1 d) := by
  cases d <;> first | rfl | (exact toPD_low S _ h) | skip
  next a =>
    show (opAll (toPD S k) a).map PyData.tuple = _
    rw [toPD_lows S k h]
    rfl
theorem toPD_low1s (S : Sto) (k : Nat) : ∀ {ds : List D}, ds.all low1 = true → opAll (toPD S (k + 1)) ds = some (ds.map pdOf1)
  | [], _ => rfl
  | d :: ds, h => by
    simp only [List.all_cons, Bool.and_eq_true] at h
    unfold opAll
    rw [toPD_low1 S k h.1, toPD_low1s S k h.2]
    rfl
theorem low_lay {d : D} (h : lowD d = true) : PyData.canLay0 (pdOf d) = true ∧ PyData.depth (pdOf d) = 0 := by
  cases d with
  | str s => exact ⟨h, by simp [pdOf, PyData.depth]⟩
  | non => exact ⟨by simp [pdOf, PyData.canLay0], by simp [pdOf, PyData.depth]⟩
  | bl b => exact ⟨by simp [pdOf, PyData.canLay0], by simp [pdOf, PyData.depth]⟩
  | int i => exact ⟨by simp [pdOf, PyData.canLay0], by simp [pdOf, PyData.depth]⟩
  | _ => cases h
theorem lows_lay : ∀ {ds : List D}, ds.all lowD = true → PyData.canLayAll0 (ds.map pdOf) = true ∧ PyData.depthAll (ds.map pdOf) = 0
  | [], _ => ⟨by simp [PyData.canLayAll0], by simp [PyData.depthAll]⟩
  | d :: ds, h => by
    simp only [List.all_cons, Bool.and_eq_true] at h
    have h1 := low_lay h.1
    have h2 := lows_lay h.2
    exact ⟨by simp [PyData.canLayAll0, h1.1, h2.1], by simp [PyData.depthAll, h1.2, h2.2]⟩
theorem low1_lay {d : D} (h : low1 d = true) : PyData.canLay0 (pdOf1 d) = true ∧ PyData.depth (pdOf1 d) ≤ 1 := by
  cases d with
  | tup a =>
    have h2 := lows_lay (ds := a) h
    exact ⟨by simp [pdOf1, PyData.canLay0, h2.1], by simp [pdOf1, PyData.depth, h2.2]⟩
  | str s => exact ⟨h, by simp [pdOf1, pdOf, PyData.depth]⟩
  | non => exact ⟨by simp [pdOf1, pdOf, PyData.canLay0], by simp [pdOf1, pdOf, PyData.depth]⟩
  | bl b => exact ⟨by simp [pdOf1, pdOf, PyData.canLay0], by simp [pdOf1, pdOf, PyData.depth]⟩
  | int i => exact ⟨by simp [pdOf1, pdOf, PyData.canLay0], by simp [pdOf1, pdOf, PyData.depth]⟩
  | _ => cases h
theorem low1s_lay : ∀ {ds : List D}, ds.all low1 = true → PyData.canLayAll0 (ds.map pdOf1) = true ∧ PyData.depthAll (ds.map pdOf1) ≤ 1
  | [], _ => ⟨by simp [PyData.canLayAll0], by simp [PyData.depthAll]⟩
  | d :: ds, h => by
    simp only [List.all_cons, Bool.and_eq_true] at h
    have h1 := low1_lay h.1
    have h2 := low1s_lay h.2
    refine ⟨by simp [PyData.canLayAll0, h1.1, h2.1], ?_⟩
    simp only [List.map_cons, PyData.depthAll]
    exact Nat.max_le.mpr ⟨h1.2, h2.2⟩
theorem pdS_low (S : Sto) {ds : List D} (h : ds.all low1 = true) : pdS S (.fzl ds) = some (.list (ds.map pdOf1)) := by
  have e : toPD S 8 (.fzl ds) = some (.list (ds.map pdOf1)) := by
    show (opAll (toPD S 7) ds).map PyData.list = _
    rw [toPD_low1s S 6 h]
    rfl
  have hl := low1s_lay h
  have hs : SeqAt.shaped (.list (ds.map pdOf1)) = true := by
    simp only [SeqAt.shaped, PyData.canLay0, PyData.depth, hl.1, Bool.true_and]
    exact decide_eq_true (Nat.le_trans (Nat.succ_le_succ hl.2) (by decide))
  unfold pdS
  rw [e]
  simp [hs]
theorem ne_low (S : Sto) {ds : List D} (h : ds.all low1 = true) : m_ne (.fzl ds) (.fzl []) S = .ok (.bl (!ds.isEmpty)) S := by
  unfold m_ne
  rw [pdS_low S h, show pdS S (.fzl []) = some (.list []) from rfl]
  cases ds <;> simp [PyData.eqv, PyData.eqvAll]
/-- the values that the law asks about: a tuple of plain items, or something else -/
def okV : D → Bool
  | .tup a => a.all low1
  | d => D.vd d
def notInt : D → Bool
  | .int _ => false
  | _ => true
theorem vd_of_low1 {d : D} (h : low1 d = true) : D.vd d = true := by
  cases d <;> first | rfl | cases h
theorem vd1_of_okV {v : D} (h : okV v = true) : vd1 v = true := by
  cases v with
  | tup a => exact List.all_eq_true.mpr fun d hd => vd_of_low1 (List.all_eq_true.mp h d hd)
  | _ => exact h
theorem notInt_test (x : D) (S : Sto) (env : Env) (h : low1 x = true) (hx : ∀ S, mVar 1 env S = .ok x S) :
    (mOr (mT (mCall m_isi (mCons (mVar 1) (mCons (mC (.ty "bool")) mNil)))) (mNot (mT (mCall m_isi (mCons (mVar 1) (mCons (mC (.ty "int")) mNil)))))) env S = .ok (notInt x) S := by
  simp [hx]
  cases x with
  | ty _ => cases h
  | glb _ => cases h
  | loc _ => cases h
  | fzl _ => cases h
  | kl _ => cases h
  | _ => simp [notInt]
theorem law_is_grid_eq (v : D) (S : Sto) (h : okV v = true) : c__law_is_grid [v] S = .ok (.bl (gridB v)) S := by
  unfold c__law_is_grid fnD m__law_is_grid
  by_cases c : ∃ x y z, v = .tup [x, y, z]
  · obtain ⟨x, y, z, rfl⟩ := c
    have hl : ∀ d ∈ [x, y, z], low1 d = true := fun d hd => List.all_eq_true.mp h d hd
    have e1 := lc_filter (i := 1) (t := (mOr (mT (mCall m_isi (mCons (mVar 1) (mCons (mC (.ty "bool")) mNil)))) (mNot (mT (mCall m_isi (mCons (mVar 1) (mCons (mC (.ty "int")) mNil))))))) (e := mVar 1) (env := [some (.tup [x, y, z]), none]) (vs := [1]) (S := S) notInt (fun d => d) [x, y, z] sizeLine3 (fun d hd => notInt_test d S _ (hl d hd) fun S => by simp [wipeE]) (fun d hd _ => by simp [wipeE])
    rw [List.map_id'] at e1
    have e2 := ne_low S (ds := [x, y, z].filter notInt) (List.all_eq_true.mpr fun d hd => hl d (List.mem_filter.mp hd).1)
    have e0 : env0 2 [D.tup [x, y, z]] = [some (.tup [x, y, z]), none] := rfl
    have i0 : ∀ S, m_ix (.tup [x, y, z]) (.int 0) S = .ok x S := fun S => rfl
    have i1 : ∀ S, m_ix (.tup [x, y, z]) (.int 1) S = .ok y S := fun S => rfl
    have i2 : ∀ S, m_ix (.tup [x, y, z]) (.int 2) S = .ok z S := fun S => rfl
    have el : (((3 : Nat) : Int) == 3) = true := rfl
    rw [e0, gridB3]
    simp only [o_seq, o_if, o_or, o_not, o_T, o_call, o_cons, o_nil, o_C, o_var0, e_bind_ok, isi_tup_tuple, e_isB, Bool.not_true, Bool.false_eq_true, if_false, o_op, e_lenT, List.length_cons, List.length_nil, Nat.zero_add, Nat.reduceAdd, e_neInt, el, o_nx, o_lc, o_it, e_itT, e1, o_lst, e2]
    have ei : ([x, y, z].filter notInt).isEmpty = (!notInt x && (!notInt y && !notInt z)) := by
      cases q1 : notInt x <;> cases q2 : notInt y <;> cases q3 : notInt z <;> simp [List.filter, q1, q2, q3]
    rw [if_pos (Nat.zero_le _), e_bind_ok, e2, e_bind_ok, e_isB, e_bind_ok, ei]
    have no : ∀ d : D, notInt d = true → intIn 0 400 d = false := fun d q => by cases d <;> first | rfl | cases q
    cases q1 : notInt x with
    | true => simp [runFl, no x q1]
    | false =>
      cases q2 : notInt y with
      | true => simp [runFl, no y q2]
      | false =>
        cases q3 : notInt z with
        | true => simp [runFl, no z q3]
        | false =>
          cases x with
          | int d =>
            cases y with
            | int s =>
              cases z with
              | int a =>
                have k1 : ∀ S, (d ≤ 400 ∧ 1 ≤ d) → m_mul (.int d) (.int a) S = .ok (.int (d * a)) S := fun S hh => e_mul (mulL _ ⟨by omega, by omega⟩)
                simp only [Bool.not_false, Bool.and_self, Bool.not_true, Bool.false_eq_true, if_false, e_bind_ok, o_ret, o_andV, o_op, o_chain, o_var0, o_C, i0, i1, i2, e_le, e_lt, e_isB]
                simp only [intIn]
                by_cases c1 : 1 ≤ d
                · have d0 : 0 ≤ d := by omega
                  have d1 : 0 < d := by omega
                  by_cases c2 : d ≤ 400
                  · have k2 := fun S => k1 S ⟨c2, c1⟩
                    by_cases c3 : 1 ≤ a
                    · have a0 : 0 ≤ a := by omega
                      by_cases c4 : a ≤ 400
                      · by_cases c5 : 0 ≤ s
                        · by_cases c6 : s < a
                          · have s4 : s ≤ 400 := by omega
                            simp [c1, c2, c3, c4, c5, c6, d0, d1, a0, s4, k2, runFl]
                          · simp [c1, c2, c3, c4, c5, c6, runFl]
                        · simp [c1, c2, c3, c4, c5, runFl]
                      · simp [c1, c2, c3, c4, runFl]
                    · have z : ∀ s : Int, (0 ≤ s ∧ s ≤ 400) ∧ (0 ≤ a ∧ a ≤ 400) ∧ s < a → False := fun s h => by omega
                      simp [c1, c2, c3, runFl]
                      omega
                  · simp [c1, c2, runFl]
                · have d1 : ¬ 0 < d := by omega
                  simp [c1, d1, runFl]
              | _ => simp [notInt] at q3
            | _ => simp [notInt] at q2
          | _ => simp [notInt] at q1
  · rw [gridB_no c]
    cases v with
    | tup l =>
      have hl : (((l.length : Nat) : Int) == 3) = false := by
        rw [beq_eq_false_iff_ne]
        intro e
        match l, c with
        | [], _ => simp at e
        | [_], _ => simp at e
        | [_, _], _ => simp at e
        | [x, y, z], c => exact c ⟨x, y, z, rfl⟩
        | _ :: _ :: _ :: _ :: l, _ => simp at e; omega
      simp [runFl, o_seq, hl]
    | ty _ => cases h
    | glb _ => cases h
    | loc _ => cases h
    | _ => simp [runFl, o_seq]
theorem okS_grids (m : Nat) (hm : m ≤ 400) : okS 7 (.tup ((gridsU m m).map gridD)) = true := by
  have l1 := gridsU_len m m
  have l3 : m * m ≤ 400 * 400 := Nat.mul_le_mul hm hm
  have e : ((gridsU m m).map gridD).all (okS 6) = true := List.all_eq_true.mpr fun d hd => by
    obtain ⟨g, _, rfl⟩ := List.mem_map.mp hd
    rfl
  simp only [okS, List.length_map, e, Bool.and_true]
  exact decide_eq_true (by omega)
def mGr (rest : SM) : SM := (sSeq (sFor (mIt itAny (mTup (mCons (mOp m_add (mC (.int 1)) (mFn 2 c__law_roll (mCons (mVar 1) (mCons (mC (.int 30)) mNil)))) (mCons (mOp m_add (mC (.int 1)) (mFn 2 c__law_roll (mCons (mVar 1) (mCons (mC (.int 400)) mNil)))) (mCons (mC (.int 400)) mNil))))) (gN 2) (sIf (mNot (mT (mFn 2 c__law_same (mCons (mFn 1 c_grids (mCons (mVar 2) mNil)) (mCons (mCall m_tuple (mCons (mFn 1 c__law_grids (mCons (mVar 2) mNil)) mNil)) mNil))))) (sRet (mC (.bl false))) sNx)) rest)
theorem gr_run {env : Env} {o : O} {rest : SM} {Q : Fl → Sto → Prop} (hl : env.length = 13) (a1 : At env 1 (.loc 0)) (g : CupO o) (k : ∀ env' o', CupO o' → env'.length = 13 → At env' 1 (.loc 0) → Run (rest env' [o']) Q) : Run (mGr rest env [o]) Q := by
  unfold mGr
  refine run_seq ?_
  rw [o_for]
  have q1 := roll_run (n := 0) (S := [o]) (many := 30) rfl g (by omega) (by omega)
  simp [a1]
  refine q1.mono ?_
  rintro d S ⟨r, o1, rfl, r0, r1, g1, rfl⟩
  have q2 := roll_run (n := 0) (S := [o1]) (many := 400) rfl g1 (by omega) (by omega)
  simp [a1]
  refine q2.mono ?_
  rintro d S ⟨c, o2, rfl, c0, c1, g2, rfl⟩
  simp
  refine run_for (fun i env' S' => S' = [o2] ∧ env'.length = 13 ∧ At env' 1 (.loc 0)) ⟨rfl, hl, a1⟩ ?_ ?_
  · rintro i d env' S' hd ⟨rfl, hl', a1'⟩
    refine ⟨rfl, ?_⟩
    have hn : ∃ n : Nat, d = .int (n : Nat) ∧ 1 ≤ n ∧ n ≤ 400 := by
      have := List.mem_of_getElem? hd
      simp at this
      rcases this with e | e | e
      · exact ⟨(1 + r).toNat, by rw [e, Int.toNat_of_nonneg (by omega)], by omega, by omega⟩
      · exact ⟨(1 + c).toNat, by rw [e, Int.toNat_of_nonneg (by omega)], by omega, by omega⟩
      · exact ⟨400, e, by omega, by omega⟩
    obtain ⟨n, rfl, n1, n4⟩ := hn
    have e1 := grids_eq g2 n1 n4
    have e2 := law_grids_eq [o2] n1 n4
    have e3 := same_eq [o2] (okS_grids n n4)
    simp [var_eq, hl', e1, e2, e3]
    exact a1'.ne (by decide)
  · rintro env' S' ⟨rfl, hl', a1'⟩
    exact ⟨rfl, k _ _ g2 hl' a1'⟩
theorem law_grid_run {o : O} {most : Int} (g : CupO o) (h1 : 1 ≤ most) (h2 : most ≤ 400) : Run (c__law_grid [.loc 0, .int most] [o]) fun d S' => ∃ gr o', d = gridD gr ∧ GOk gr ∧ CupO o' ∧ S' = [o'] := by
  refine run_fn ?_
  unfold m__law_grid
  have q1 := roll_run (n := 0) (S := [o]) (many := most) rfl g (by omega) (by omega)
  simp
  refine q1.mono ?_
  rintro d S ⟨r, o1, rfl, r0, r1, g1, rfl⟩
  obtain ⟨n, hn⟩ : ∃ n : Nat, 1 + r = (n : Nat) := ⟨(1 + r).toNat, by omega⟩
  have n1 : 1 ≤ n := by omega
  have n4 : n ≤ 400 := by omega
  have e2 := law_grids_eq [o1] n1 n4
  simp [hn, e2]
  have hne : (gridsU n n).map gridD ≠ [] := fun e => by
    rw [List.map_eq_nil_iff] at e
    have : (n, 0, 1) ∈ gridsU n n := mem_grids.mpr ⟨by omega, by simp, by simp⟩
    rw [e] at this
    cases this
  have l1 := gridsU_len n n
  have l3 : n * n ≤ 400 * 400 := Nat.mul_le_mul n4 n4
  have q2 := some_run (n := 0) (S := [o1]) (things := .fzl ((gridsU n n).map gridD)) (ds := (gridsU n n).map gridD) rfl g1 (.inl rfl) hne (by rw [List.length_map]; omega)
  refine q2.mono ?_
  rintro d S ⟨o2, hd, g2, rfl⟩
  obtain ⟨gr, hg, rfl⟩ := List.mem_map.mp hd
  exact ⟨gr.1, gr.2.1, gr.2.2, rfl, grid_ok n4 n1 hg, o2, g2, rfl⟩
def mSwap : EM := (mLc (mIt itAny (mVar 9)) (gN 12) tmYes (mOp m_add (mOp m_add (mSl (mVar 4) mpNone (mpSome (mVar 8))) (mTup (mCons (mVar 12) mNil))) (mSl (mVar 4) (mpSome (mOp m_add (mVar 8) (mC (.int 1)))) mpNone)) [12])
theorem swap_eq {env : Env} {S : Sto} {x y z : D} {at_ : Int} {odds : List D} (a4 : At env 4 (.tup [x, y, z])) (a8 : At env 8 (.int at_)) (a9 : At env 9 (.fzl odds)) (hl : env.length = 13) (ho : odds.length ≤ 100)
    (h : at_ = 0 ∨ at_ = 1 ∨ at_ = 2) : mSwap env S = .ok (.fzl (odds.map fun o => .tup (if at_ = 0 then [o, y, z] else if at_ = 1 then [x, o, z] else [x, y, o]))) S := by
  unfold mSwap
  have e := lc_mapL' (i := 12) (e := (mOp m_add (mOp m_add (mSl (mVar 4) mpNone (mpSome (mVar 8))) (mTup (mCons (mVar 12) mNil))) (mSl (mVar 4) (mpSome (mOp m_add (mVar 8) (mC (.int 1)))) mpNone))) (env := env) (vs := [12]) (S := S) (fun d => d) (fun o => .tup (if at_ = 0 then [o, y, z] else if at_ = 1 then [x, o, z] else [x, y, o])) odds (Nat.le_trans ho (by decide)) (fun o ho => by
    have w4 : ∀ S, mVar 4 ((wipeE env [12]).set 12 (some o)) S = .ok (.tup [x, y, z]) S := fun S => by
      rw [var_ne (by decide)]
      simp only [wipeE, List.foldl_cons, List.foldl_nil]
      rw [var_ne (by decide)]
      exact a4 S
    have w8 : ∀ S, mVar 8 ((wipeE env [12]).set 12 (some o)) S = .ok (.int at_) S := fun S => by
      rw [var_ne (by decide)]
      simp only [wipeE, List.foldl_cons, List.foldl_nil]
      rw [var_ne (by decide)]
      exact a8 S
    have w12 : ∀ S, mVar 12 ((wipeE env [12]).set 12 (some o)) S = .ok o S := fun S => var_eq (by simp [wipeE, hl])
    generalize (wipeE env [12]).set 12 (some o) = ev at w4 w8 w12
    rcases h with rfl | rfl | rfl
    · have m1 : ∀ S, m_add (.tup []) (.tup [o]) S = .ok (.tup [o]) S := fun S => e_addT (a := []) (b := [o]) sizeLine1
      have m2 : ∀ S, m_add (.tup [o]) (.tup [y, z]) S = .ok (.tup [o, y, z]) S := fun S => e_addT (a := [o]) (b := [y, z]) sizeLine3
      simp [w4, w8, w12, mSl, mpSome, mpNone, m_cut, cutL, HT.sIx, m1, m2]
    · have m1 : ∀ S, m_add (.tup [x]) (.tup [o]) S = .ok (.tup [x, o]) S := fun S => e_addT (a := [x]) (b := [o]) sizeLine2
      have m2 : ∀ S, m_add (.tup [x, o]) (.tup [z]) S = .ok (.tup [x, o, z]) S := fun S => e_addT (a := [x, o]) (b := [z]) sizeLine3
      simp [w4, w8, w12, mSl, mpSome, mpNone, m_cut, cutL, HT.sIx, m1, m2]
    · have m1 : ∀ S, m_add (.tup [x, y]) (.tup [o]) S = .ok (.tup [x, y, o]) S := fun S => e_addT (a := [x, y]) (b := [o]) sizeLine3
      have m2 : ∀ S, m_add (.tup [x, y, o]) (.tup []) S = .ok (.tup [x, y, o]) S := fun S => e_addT (a := [x, y, o]) (b := []) sizeLine3
      simp [w4, w8, w12, mSl, mpSome, mpNone, m_cut, cutL, HT.sIx, m1, m2])
  rw [List.map_id'] at e
  rw [o_lc]
  simp [a9 _, e]
def mVals : SM := (sFor (mIt itAny (mOp m_add (mVar 10) (mLc (mIt itAny (mVar 9)) (gN 12) tmYes (mOp m_add (mOp m_add (mSl (mVar 4) mpNone (mpSome (mVar 8))) (mTup (mCons (mVar 12) mNil))) (mSl (mVar 4) (mpSome (mOp m_add (mVar 8) (mC (.int 1)))) mpNone)) [12]))) (gN 11) (sIf (mNot (mT (mFn 2 c__law_same (mCons (mFn 1 c_is_grid (mCons (mVar 11) mNil)) (mCons (mFn 1 c__law_is_grid (mCons (mVar 11) mNil)) mNil))))) (sRet (mC (.bl false))) sNx))
theorem vals_run {env : Env} {o : O} {x y z : D} {at_ : Int} {odds vals : List D} (a4 : At env 4 (.tup [x, y, z])) (a8 : At env 8 (.int at_)) (a9 : At env 9 (.fzl odds)) (a10 : At env 10 (.fzl vals)) (hl : env.length = 13)
    (a1 : At env 1 (.loc 0)) (g : CupO o)
    (ho : odds.length ≤ 100) (hv : vals.length ≤ 100) (h : at_ = 0 ∨ at_ = 1 ∨ at_ = 2) (okx : low1 x = true ∧ low1 y = true ∧ low1 z = true) (oko : ∀ d ∈ odds, low1 d = true) (okv : ∀ d ∈ vals, okV d = true) :
    Run (mVals env [o]) fun f S' => ∃ env', f = .nx env' ∧ S' = [o] ∧ env'.length = 13 ∧ At env' 1 (.loc 0) := by
  unfold mVals
  have e := swap_eq (S := [o]) a4 a8 a9 hl ho h
  unfold mSwap at e
  have hz : vals.length + (odds.map fun o => D.tup (if at_ = 0 then [o, y, z] else if at_ = 1 then [x, o, z] else [x, y, o])).length ≤ sizeLine := by
    rw [List.length_map]
    exact Nat.le_trans (Nat.add_le_add hv ho) (by decide)
  rw [o_for]
  simp only [o_it, o_op (f := m_add), a10 _, e_bind_ok, e, e_addF hz, e_itF, e_runbind, e_run_ok]
  refine run_for (fun i env' S' => S' = [o] ∧ env'.length = 13 ∧ At env' 1 (.loc 0)) ⟨rfl, hl, a1⟩ ?_ ?_
  · rintro i d env' S' hd ⟨rfl, hl', a1'⟩
    refine ⟨rfl, ?_⟩
    have ok : okV d = true := by
      rcases List.mem_append.mp (List.mem_of_getElem? hd) with m | m
      · exact okv d m
      · obtain ⟨q, hq, rfl⟩ := List.mem_map.mp m
        have := oko q hq
        obtain ⟨h1, h2, h3⟩ := okx
        unfold okV
        split
        · rename_i ds he
          injection he with he
          subst he
          split
          · simp [*]
          · split <;> simp [*]
        · rename_i hne
          exact absurd rfl (hne _)
    have e1 := fits_grid_eq d [o] (vd1_of_okV ok)
    have e2 := law_is_grid_eq d [o] ok
    have e3 := same_eq (x := .bl (gridB d)) [o] rfl
    have e0 : c_is_grid [d] [o] = .ok (.bl (gridB d)) [o] := by simp [c_is_grid, m_is_grid, fnD, runFl, e1]
    simp [var_eq, hl', e0, e2, e3]
    exact At.ne a1' (i := 1) (j := 11) (by decide)
  · rintro env' S' ⟨rfl, hl', a1'⟩
    exact ⟨rfl, env', rfl, rfl, hl', a1'⟩
def mTail : SM := (sSeq (sAsg (mLst (mCons (mC (.int 0)) (mCons (mUn m_neg (mC (.int 1))) (mCons (mC (.bl true)) (mCons (mC .non) (mCons (mC (.str (Str.ofString "1"))) (mCons (mTup (mCons (mC (.int 1)) mNil)) (mCons (mC (.int 400)) (mCons (mC (.int 401)) (mCons (mOp m_ix (mVar 4) (mC (.int 2))) (mCons (mOp m_pow (mC (.int 10)) (mC (.int 30))) mNil))))))))))) (gN 9))
  (sSeq (sAsg (mLst (mCons (mVar 4) (mCons (mUn m_rev (mVar 4)) (mCons (mSl (mVar 4) mpNone (mpSome (mC (.int 2)))) (mCons (mOp m_add (mVar 4) (mTup (mCons (mC (.int 0)) mNil))) (mCons (mCall m_list (mCons (mVar 4) mNil)) (mCons (mTup mNil) (mCons (mC .non) (mCons (mC (.int 5)) mNil))))))))) (gN 10))
  mVals))
theorem okS_pair (p : Int × Int) : okS 7 (pairD p) = true := rfl
theorem mem_six {d : D} {r c : Int} (hr : 0 ≤ r ∧ r < 2001) (hc : 0 ≤ c ∧ c < 2001) (h : d ∈ [D.tup [.int (r - 1000), .int (c - 1000)], .tup [.int (r - 1000), .int (c - 1000)], .tup [.int (-1000), .int 1000], .tup [.int 1000, .int (-1000)], .tup [.int 0, .int 0], .tup [.int (-1), .int (-1)]]) :
    ∃ x y : Int, d = pairD (x, y) ∧ (-1000 ≤ x ∧ x ≤ 1000) ∧ (-1000 ≤ y ∧ y ≤ 1000) := by
  simp at h
  rcases h with h | h | h | h | h
  · exact ⟨_, _, h, by omega, by omega⟩
  · exact ⟨_, _, h, by omega, by omega⟩
  · exact ⟨_, _, h, by omega, by omega⟩
  · exact ⟨_, _, h, by omega, by omega⟩
  · exact ⟨_, _, h, by omega, by omega⟩
def mOnC : TM := (mAnd (mT (mChain m_le m_le (mUn m_neg (mC (.int 1000))) (mOp m_ix (mVar 7) (mC (.int 0))) (mC (.int 1000)))) (mAnd (mT (mChain m_le m_le (mUn m_neg (mC (.int 1000))) (mOp m_ix (mVar 7) (mC (.int 1))) (mC (.int 1000)))) (mT (mOp m_ne (mFn 2 c_class_of (mCons (mVar 4) (mCons (mVar 7) mNil))) (mVar 6)))))
theorem on_false {env : Env} {S : Sto} {gr : Grid} {x y : Int} (a4 : At env 4 (gridD gr)) (a6 : At env 6 (pairD (classR gr x y))) (a7 : At env 7 (.tup [.int (x + gr.1), .int (y + gr.2.1)])) (hgr : GOk gr) : mOnC env S = .ok false S := by
  have j0 : ∀ S, m_ix (.tup [.int (x + gr.1), .int (y + gr.2.1)]) (.int 0) S = .ok (.int (x + gr.1)) S := fun S => rfl
  have j1 : ∀ S, m_ix (.tup [.int (x + gr.1), .int (y + gr.2.1)]) (.int 1) S = .ok (.int (y + gr.2.1)) S := fun S => rfl
  unfold mOnC
  by_cases c : ((-1000 ≤ x + gr.1 ∧ x + gr.1 ≤ 1000) ∧ (-1000 ≤ y + gr.2.1 ∧ y + gr.2.1 ≤ 1000))
  · have e := class_of_eq (g := gr) (r := x + gr.1) (c := y + gr.2.1) S hgr c
    rw [class_shift hgr] at e
    have e' : c_class_of [gridD gr, .tup [.int (x + gr.1), .int (y + gr.2.1)]] S = .ok (pairD (classR gr x y)) S := e
    obtain ⟨⟨c1, c2⟩, c3, c4⟩ := c
    simp [a4 _, a6 _, a7 _, j0, j1, e', c1, c2, c3, c4, ne_pair]
  · cases c1 : decide (-1000 ≤ x + (gr.1 : Int)) with
    | false => simp only [o_and, o_T, o_chain, o_un, o_C, e_bind_ok, e_neg, a7 _, o_op, j0, e_le, c1, e_isB, Bool.false_eq_true, if_false]
    | true =>
      cases c2 : decide (x + (gr.1 : Int) ≤ 1000) with
      | false => simp only [o_and, o_T, o_chain, o_un, o_C, e_bind_ok, e_neg, a7 _, o_op, j0, e_le, c1, c2, e_isB, if_true, Bool.false_eq_true, if_false]
      | true =>
        cases c3 : decide (-1000 ≤ y + (gr.2.1 : Int)) with
        | false => simp only [o_and, o_T, o_chain, o_un, o_C, e_bind_ok, e_neg, a7 _, o_op, j0, j1, e_le, c1, c2, c3, e_isB, if_true, Bool.false_eq_true, if_false]
        | true =>
          cases c4 : decide (y + (gr.2.1 : Int) ≤ 1000) with
          | false => simp only [o_and, o_T, o_chain, o_un, o_C, e_bind_ok, e_neg, a7 _, o_op, j0, j1, e_le, c1, c2, c3, c4, e_isB, if_true, Bool.false_eq_true, if_false]
          | true => exact absurd ⟨⟨of_decide_eq_true c1, of_decide_eq_true c2⟩, of_decide_eq_true c3, of_decide_eq_true c4⟩ c
def mHead (rest : SM) : SM := (sSeq (sAsg (mFn 2 c__law_grid (mCons (mVar 1) (mCons (mFn 2 c__law_some (mCons (mVar 1) (mCons (mLst (mCons (mC (.int 6)) (mCons (mC (.int 40)) (mCons (mC (.int 400)) mNil)))) mNil))) mNil))) (gN 4))
  (sSeq (sAsg (mTup (mCons (mOp m_sub (mFn 2 c__law_roll (mCons (mVar 1) (mCons (mC (.int 2001)) mNil))) (mC (.int 1000))) (mCons (mOp m_sub (mFn 2 c__law_roll (mCons (mVar 1) (mCons (mC (.int 2001)) mNil))) (mC (.int 1000))) mNil))) (gN 5))
  (sSeq (sAsg (mFn 2 c__law_some (mCons (mVar 1) (mCons (mLst (mCons (mVar 5) (mCons (mVar 5) (mCons (mTup (mCons (mUn m_neg (mC (.int 1000))) (mCons (mC (.int 1000)) mNil))) (mCons (mTup (mCons (mC (.int 1000)) (mCons (mUn m_neg (mC (.int 1000))) mNil))) (mCons (mTup (mCons (mC (.int 0)) (mCons (mC (.int 0)) mNil))) (mCons (mTup (mCons (mUn m_neg (mC (.int 1))) (mCons (mUn m_neg (mC (.int 1))) mNil))) mNil))))))) mNil))) (gN 5))
  (sSeq (sAsg (mFn 2 c__law_class (mCons (mVar 4) (mCons (mVar 5) mNil))) (gN 6))
  (sSeq (sIf (mOr (mNot (mT (mFn 2 c__law_same (mCons (mFn 2 c_class_of (mCons (mVar 4) (mCons (mVar 5) mNil))) (mCons (mVar 6) mNil))))) (mNot (mT (mFn 2 c__law_same (mCons (mFn 2 c_class_of (mCons (mVar 4) (mCons (mVar 6) mNil))) (mCons (mVar 6) mNil)))))) (sRet (mC (.bl false))) sNx)
  (sSeq (sAsg (mTup (mCons (mOp m_add (mOp m_ix (mVar 5) (mC (.int 0))) (mOp m_ix (mVar 4) (mC (.int 0)))) (mCons (mOp m_add (mOp m_ix (mVar 5) (mC (.int 1))) (mOp m_ix (mVar 4) (mC (.int 1)))) mNil))) (gN 7))
  (sSeq (sIf (mAnd (mT (mChain m_le m_le (mUn m_neg (mC (.int 1000))) (mOp m_ix (mVar 7) (mC (.int 0))) (mC (.int 1000)))) (mAnd (mT (mChain m_le m_le (mUn m_neg (mC (.int 1000))) (mOp m_ix (mVar 7) (mC (.int 1))) (mC (.int 1000)))) (mT (mOp m_ne (mFn 2 c_class_of (mCons (mVar 4) (mCons (mVar 7) mNil))) (mVar 6))))) (sRet (mC (.bl false))) sNx)
  (sSeq (sAsg (mFn 2 c__law_roll (mCons (mVar 1) (mCons (mC (.int 3)) mNil))) (gN 8))
  rest))))))))
theorem head_run {env : Env} {o : O} {rest : SM} {Q : Fl → Sto → Prop} (hl : env.length = 13) (a1 : At env 1 (.loc 0)) (g : CupO o)
    (k : ∀ env' o' gr at_, CupO o' → env'.length = 13 → At env' 1 (.loc 0) → GOk gr → At env' 4 (gridD gr) → At env' 8 (.int at_) → 0 ≤ at_ → at_ < 3 → Run (rest env' [o']) Q) : Run (mHead rest env [o]) Q := by
  unfold mHead
  refine run_seq ?_
  have q1 := some_run (n := 0) (S := [o]) (things := .fzl [.int 6, .int 40, .int 400]) (ds := [.int 6, .int 40, .int 400]) rfl g (.inl rfl) (by simp) (by simp)
  simp [a1]
  refine q1.mono ?_
  rintro d S ⟨o1, hd, g1, rfl⟩
  obtain ⟨most, rfl, m1, m4⟩ : ∃ most : Int, d = .int most ∧ 1 ≤ most ∧ most ≤ 400 := by
    simp at hd
    rcases hd with rfl | rfl | rfl
    · exact ⟨6, rfl, by omega, by omega⟩
    · exact ⟨40, rfl, by omega, by omega⟩
    · exact ⟨400, rfl, by omega, by omega⟩
  refine (law_grid_run g1 m1 m4).mono ?_
  rintro d S ⟨gr, o2, rfl, hgr, g2, rfl⟩
  refine run_seq ?_
  have q3 := roll_run (n := 0) (S := [o2]) (many := 2001) rfl g2 (by omega) (by omega)
  simp [var_ne, a1 _]
  refine q3.mono ?_
  rintro d S ⟨r, o3, rfl, r0, r1, g3, rfl⟩
  have q4 := roll_run (n := 0) (S := [o3]) (many := 2001) rfl g3 (by omega) (by omega)
  simp [var_ne, a1 _]
  refine q4.mono ?_
  rintro d S ⟨c, o4, rfl, c0, c1, g4, rfl⟩
  simp
  refine run_seq ?_
  have s6 : (6 : Nat) ≤ sizeLine := by decide
  simp [var_ne, var_eq, hl, a1 _, s6]
  have q5 := some_run (n := 0) (S := [o4]) (things := .fzl [D.tup [.int (r - 1000), .int (c - 1000)], .tup [.int (r - 1000), .int (c - 1000)], .tup [.int (-1000), .int 1000], .tup [.int 1000, .int (-1000)], .tup [.int 0, .int 0], .tup [.int (-1), .int (-1)]]) (ds := [D.tup [.int (r - 1000), .int (c - 1000)], .tup [.int (r - 1000), .int (c - 1000)], .tup [.int (-1000), .int 1000], .tup [.int 1000, .int (-1000)], .tup [.int 0, .int 0], .tup [.int (-1), .int (-1)]]) rfl g4 (.inl rfl) (by simp) (by simp)
  refine q5.mono ?_
  rintro d S ⟨o5, hd, g5, rfl⟩
  obtain ⟨x, y, rfl, hx, hy⟩ := mem_six ⟨r0, r1⟩ ⟨c0, c1⟩ hd
  clear hd q5
  have e6 := law_class_eq (g := gr) (r := x) (c := y) [o5] hgr.h0 (by have := hgr.s; omega) (by omega)
  refine run_seq ?_
  simp [var_ne, var_eq, hl, a1 _, e6]
  refine run_seq ?_
  have e7 := class_of_eq (g := gr) (r := x) (c := y) [o5] hgr ⟨hx, hy⟩
  have e8 := class_of_eq (g := gr) (r := (classR gr x y).1) (c := (classR gr x y).2) [o5] hgr (class_bound hgr)
  rw [class_idem hgr] at e8
  have e9 := same_eq [o5] (okS_pair (classR gr x y))
  have e8' : c_class_of [gridD gr, pairD (classR gr x y)] [o5] = .ok (pairD (classR gr x y)) [o5] := e8
  simp [var_ne, var_eq, hl, e7, e8', e9]
  refine run_seq ?_
  have i0 : ∀ S, m_ix (pairD (x, y)) (.int 0) S = .ok (.int x) S := fun S => rfl
  have i1 : ∀ S, m_ix (pairD (x, y)) (.int 1) S = .ok (.int y) S := fun S => rfl
  simp [var_ne, var_eq, hl, i0, i1, ix_grid0, ix_grid1]
  refine run_seq ?_
  have t := on_false (env := ((((List.set env 4 (some (gridD gr))).set 5 (some (pairD (x, y)))).set 6 (some (pairD (classR gr x y)))).set 7 (some (D.tup [D.int (x + ↑gr.fst), D.int (y + ↑gr.snd.fst)])))) (S := [o5]) (gr := gr) (x := x) (y := y) (fun S => by simp [var_ne, var_eq, hl]) (fun S => by simp [var_ne, var_eq, hl]) (fun S => by simp [var_ne, var_eq, hl]) hgr
  unfold mOnC at t
  rw [o_if, t]
  simp
  refine run_seq ?_
  have q8 := roll_run (n := 0) (S := [o5]) (many := 3) rfl g5 (by omega) (by omega)
  simp [var_ne, a1 _]
  refine q8.mono ?_
  rintro d S ⟨r8, o8, rfl, r80, r81, g8, rfl⟩
  exact k _ o8 gr r8 g8 (by simp [hl]) (fun S => by simp [var_ne, a1 _]) hgr (fun S => by simp [var_ne, var_eq, hl]) (fun S => by simp [var_eq, hl]) r80 r81
def mLast : SM := (sRet (mOp m_eq (mLc (mIt itAny (mTup (mCons (mTup (mCons (mC (.int 400)) (mCons (mC (.int 0)) (mCons (mC (.int 2)) mNil)))) (mCons (mTup (mCons (mC (.int 400)) (mCons (mC (.int 1)) (mCons (mC (.int 2)) mNil)))) (mCons (mTup (mCons (mC (.int 2)) (mCons (mC (.int 399)) (mCons (mC (.int 400)) mNil)))) (mCons (mTup (mCons (mC (.int 3)) (mCons (mC (.int 0)) (mCons (mC (.int 400)) mNil)))) (mCons (mTup (mCons (mC (.int 401)) (mCons (mC (.int 0)) (mCons (mC (.int 1)) mNil)))) (mCons (mTup (mCons (mC (.int 1)) (mCons (mC (.int 0)) (mCons (mC (.int 401)) mNil)))) mNil)))))))) (gN 4) tmYes (mFn 1 c_is_grid (mCons (mVar 4) mNil)) [4]) (mOp m_add (mOp m_mul (mLst (mCons (mC (.bl true)) mNil)) (mC (.int 3))) (mOp m_mul (mLst (mCons (mC (.bl false)) mNil)) (mC (.int 3))))))
theorem last_eq (env : Env) (S : Sto) (hl : env.length = 13) : mLast env S = .ok (.rt (.bl true)) S := by
  have e := lc_mapL' (i := 4) (e := (mFn 1 c_is_grid (mCons (mVar 4) mNil))) (env := env) (vs := [4]) (S := S) (fun d => d) (fun d => .bl (gridB d))
    [.tup [.int 400, .int 0, .int 2], .tup [.int 400, .int 1, .int 2], .tup [.int 2, .int 399, .int 400], .tup [.int 3, .int 0, .int 400], .tup [.int 401, .int 0, .int 1], .tup [.int 1, .int 0, .int 401]] (by decide) (fun d hd => by
      have ok : vd1 d = true := by
        simp at hd
        rcases hd with rfl | rfl | rfl | rfl | rfl | rfl <;> rfl
      have e1 := fits_grid_eq d S ok
      simp [c_is_grid, m_is_grid, fnD, runFl, wipeE, var_eq, hl, e1])
  rw [List.map_id'] at e
  have m1 : m_mul (.fzl [.bl true]) (.int 3) S = .ok (.fzl [.bl true, .bl true, .bl true]) S := e_mulF ⟨by omega, by omega, sizeLine3⟩
  have m2 : m_mul (.fzl [.bl false]) (.int 3) S = .ok (.fzl [.bl false, .bl false, .bl false]) S := e_mulF ⟨by omega, by omega, sizeLine3⟩
  have s6 : (6 : Nat) ≤ sizeLine := by decide
  have m3 : m_add (.fzl [.bl true, .bl true, .bl true]) (.fzl [.bl false, .bl false, .bl false]) S = .ok (.fzl [.bl true, .bl true, .bl true, .bl false, .bl false, .bl false]) S := e_addF (a := [.bl true, .bl true, .bl true]) (b := [.bl false, .bl false, .bl false]) s6
  have m4 : m_eq (.fzl [.bl true, .bl true, .bl true, .bl false, .bl false, .bl false]) (.fzl [.bl true, .bl true, .bl true, .bl false, .bl false, .bl false]) S = .ok (.bl true) S := by
    unfold m_eq
    rw [pdS_low S (by rfl)]
    rfl
  have g1 : (List.map (fun d => D.bl (gridB d)) [.tup [.int 400, .int 0, .int 2], .tup [.int 400, .int 1, .int 2], .tup [.int 2, .int 399, .int 400], .tup [.int 3, .int 0, .int 400], .tup [.int 401, .int 0, .int 1], .tup [.int 1, .int 0, .int 401]]) = [.bl true, .bl true, .bl true, .bl false, .bl false, .bl false] := by
    simp [gridB]
  rw [g1] at e
  unfold mLast
  rw [o_ret, o_op, o_lc]
  simp [e, m1, m2, m3, m4, s6]
def mTailV (vals : SM) : SM := (sSeq (sAsg (mLst (mCons (mC (.int 0)) (mCons (mUn m_neg (mC (.int 1))) (mCons (mC (.bl true)) (mCons (mC .non) (mCons (mC (.str (Str.ofString "1"))) (mCons (mTup (mCons (mC (.int 1)) mNil)) (mCons (mC (.int 400)) (mCons (mC (.int 401)) (mCons (mOp m_ix (mVar 4) (mC (.int 2))) (mCons (mOp m_pow (mC (.int 10)) (mC (.int 30))) mNil))))))))))) (gN 9))
  (sSeq (sAsg (mLst (mCons (mVar 4) (mCons (mUn m_rev (mVar 4)) (mCons (mSl (mVar 4) mpNone (mpSome (mC (.int 2)))) (mCons (mOp m_add (mVar 4) (mTup (mCons (mC (.int 0)) mNil))) (mCons (mCall m_list (mCons (mVar 4) mNil)) (mCons (mTup mNil) (mCons (mC .non) (mCons (mC (.int 5)) mNil))))))))) (gN 10))
  vals))
theorem tail_run {env : Env} {o : O} {gr : Grid} {at_ : Int} (hl : env.length = 13) (a1 : At env 1 (.loc 0)) (g : CupO o) (hgr : GOk gr) (a4 : At env 4 (gridD gr)) (a8 : At env 8 (.int at_)) (h0 : 0 ≤ at_) (h3 : at_ < 3) :
    Run (mTailV mVals env [o]) fun f S' => ∃ env' o', f = .nx env' ∧ S' = [o'] ∧ CupO o' ∧ env'.length = 13 ∧ At env' 1 (.loc 0) := by
  unfold mTailV
  refine run_seq ?_
  have s10 : (10 : Nat) ≤ sizeLine := by decide
  have s8 : (8 : Nat) ≤ sizeLine := by decide
  have p30 : ∀ S, m_pow (.int 10) (.int 30) S = .ok (.int (10 ^ 30)) S := fun S => rfl
  have r1 : ∀ S, m_rev (gridD gr) S = .ok (.tup [.int gr.2.2, .int gr.2.1, .int gr.1]) S := fun S => rfl
  have r2 : ∀ S, m_cut (gridD gr) none (some 2) S = .ok (.tup [.int gr.1, .int gr.2.1]) S := fun S => rfl
  have r3 : ∀ S, m_add (gridD gr) (.tup [.int 0]) S = .ok (.tup [.int gr.1, .int gr.2.1, .int gr.2.2, .int 0]) S := fun S => e_addT (a := [.int gr.1, .int gr.2.1, .int gr.2.2]) (b := [.int 0]) sizeLine4
  have r4 : ∀ S, m_list [gridD gr] S = .ok (.fzl [.int gr.1, .int gr.2.1, .int gr.2.2]) S := fun S => rfl
  simp [a4 _, ix_grid2, p30, s10]
  refine run_seq ?_
  simp [var_ne, a4 _, r1, r2, r3, r4, s8]
  refine (vals_run (x := .int gr.1) (y := .int gr.2.1) (z := .int gr.2.2) (at_ := at_) (fun S => by simp [var_ne, a4 _, gridD]) (fun S => by simp [var_ne, a8 _]) (fun S => by simp [var_ne, var_eq, hl]; rfl) (fun S => by simp [var_eq, hl]; rfl) (by simp [hl]) (fun S => by simp [var_ne, a1 _]) g (by simp) (by simp) (by omega) ⟨rfl, rfl, rfl⟩ ?_ ?_).mono ?_
  · intro d hd
    simp at hd
    rcases hd with rfl | rfl | rfl | rfl | rfl | rfl | rfl | rfl | rfl | rfl <;> first | rfl | decide | decide +kernel
  · intro d hd
    simp at hd
    rcases hd with rfl | rfl | rfl | rfl | rfl | rfl | rfl | rfl <;> rfl
  · rintro f S ⟨env', rfl, rfl, h1, h2⟩
    exact ⟨env', rfl, o, rfl, g, h1, h2⟩
def mWhole (rest : SM) : SM := (sSeq (sFor (mItA itR1 (mCons (mC (.int 8)) mNil)) (gN 3) (mHead (mTailV mVals))) rest)
theorem law_run (ns : List Int) (hl : ns.length ≤ 63) : Run (c_law [.kl (ns.map D.int)] []) fun d S' => d = .bl true := by
  have em : m_law = sSeq (sAsg (mFn 1 c__law_cup (mCons (mVar 0) mNil)) (gN 1)) (mGr (mWhole mLast)) := rfl
  unfold c_law
  refine run_fn ?_
  rw [em]
  refine run_seq ?_
  have q0 := cup_run ns [] hl
  simp
  refine q0.mono ?_
  rintro d S ⟨o, rfl, g, rfl⟩
  refine gr_run (by simp) (fun S => by simp) g fun env' o' g' hl' a1' => ?_
  unfold mWhole
  refine run_seq ?_
  rw [o_for]
  have s8 : smallI 8 := by decide
  simp [e_r1 s8]
  refine run_for (fun i env' S' => ∃ o', S' = [o'] ∧ CupO o' ∧ env'.length = 13 ∧ At env' 1 (.loc 0)) ⟨o', rfl, g', hl', a1'⟩ ?_ ?_
  · rintro i d env2 S' hd ⟨o2, rfl, g2, hl2, a12⟩
    refine ⟨rfl, ?_⟩
    rw [o_gN, e_run_ok]
    refine head_run (by rw [List.length_set, hl2]) (a12.ne (by decide)) g2 fun env3 o3 gr at_ g3 hl3 a13 hgr a4 a8 h0 h3 => ?_
    refine (tail_run hl3 a13 g3 hgr a4 a8 h0 h3).mono ?_
    rintro f S2 ⟨env4, o4, rfl, rfl, g4, hl4, a14⟩
    exact ⟨o4, rfl, g4, hl4, a14⟩
  · rintro env2 S' ⟨o2, rfl, g2, hl2, a12⟩
    refine ⟨rfl, ?_⟩
    simp only [last_eq env2 [o2] hl2, e_run_ok]
theorem law_true (ns : List Int) (hl : ns.length ≤ 63) : ∃ S', c_law [.kl (ns.map D.int)] [] = .ok (.bl true) S' := by
  obtain ⟨d, S', e, rfl⟩ := (law_run ns hl).out
  exact ⟨S', e⟩
end ML
namespace ML
open PySem L2
abbrev topS (i : Nat) : Stmt := PySem.Challenge.pw_cellhall_k20_whole_grids_and_classes.main.body.getD i (.Pass ⟨0, 0, 0, 0⟩)
structure TB (mg : Str → Option Value) : Prop where
  b_abs : mg "abs" = none
  b_all : mg "all" = none
  b_bool : mg "bool" = none
  b_int : mg "int" = none
  b_isinstance : mg "isinstance" = none
  b_len : mg "len" = none
  b_list : mg "list" = none
  b_range : mg "range" = none
  b_str : mg "str" = none
  b_tuple : mg "tuple" = none
  k_CELLS : ∃ t, mg "CELLS" = some (.int 400 t)
  k_FAR : ∃ t, mg "FAR" = some (.int 1000 t)
-- _law_cup
abbrev s__law_cup : Stmt := topS 19
def N__law_cup : List Str := ["script", "cell"]
theorem sc__law_cup : FnScope N__law_cup ["script"] (defScope s__law_cup) := ⟨rfl, rfl, rfl, by decide +kernel, rfl, by decide +kernel, by decide +kernel⟩
theorem okc__law_cup {P : Program} {w : World} {K : PySem.W.Frag} {mg : Str → Option Value} {base : Heap} (T : TB mg)  (F : Dn K mg "_law_cup" s__law_cup ["script"]) : Cal P w K mg base 1 "_law_cup" ["script"] c__law_cup :=
  (fn_ML F sc__law_cup (fun f cdv A outer s H E hr =>
  have nd := sc__law_cup.nd
  (gss_cons (gs_set (i := 1) nd (ge_callB gc_abs (by rfl) T.b_abs PyProof.Rows.boot_abs (ga_cons (ge_ix gi_ix (ge_op go_add (ge_callTy gc_list (by rfl) T.b_list PyProof.Rows.boot_list (ga_cons (ge_var (i := 0)) ga_nil)) (ge_lst (ga_cons ge_int ga_nil))) ge_int) ga_nil))) (gss_one (gs_ret (ge_lstM (ga_cons (ge_if (gt_cmp go_ge (ge_var (i := 1)) (ge_op go_pow ge_int ge_int)) (ge_op go_fdiv (ge_var (i := 1)) ge_int) ge_int) (ga_cons (ge_op go_add (ge_op go_mod (ge_callTy gc_int (by rfl) T.b_int PyProof.Rows.boot_int (ga_cons (ge_op go_add (ge_op go_mul (ge_var (i := 1)) ge_int) ge_int) ga_nil)) ge_int) ge_int) ga_nil))))))))
-- _law_roll
abbrev s__law_roll : Stmt := topS 20
def N__law_roll : List Str := ["cup", "many", "found", "deep"]
theorem sc__law_roll : FnScope N__law_roll ["cup", "many"] (defScope s__law_roll) := ⟨rfl, rfl, rfl, by decide +kernel, rfl, by decide +kernel, by decide +kernel⟩
theorem okc__law_roll {P : Program} {w : World} {K : PySem.W.Frag} {mg : Str → Option Value} {base : Heap} (T : TB mg)  (F : Dn K mg "_law_roll" s__law_roll ["cup", "many"]) : Cal P w K mg base 1 "_law_roll" ["cup", "many"] c__law_roll :=
  (fn_ML F sc__law_roll (fun f cdv A outer s H E hr =>
  have nd := sc__law_roll.nd
  (gss_cons (gs_if (gt_cmp go_gt (ge_ix gi_ix (ge_var (i := 0)) ge_int) ge_int) (gss_cons (gs_set (i := 2) nd (ge_op go_mod (ge_callTy gc_int (by rfl) T.b_int PyProof.Rows.boot_int (ga_cons (ge_ix gi_ix (ge_var (i := 0)) ge_int) ga_nil)) (ge_var (i := 1)))) (gss_cons (gs_asg (ge_op go_fdiv (ge_ix gi_ix (ge_var (i := 0)) ge_int) (ge_var (i := 1))) (gg_sub (ge_var (i := 0)) ge_int gset_list)) (gss_one (gs_ret (ge_var (i := 2)))))) gss_nil) (gss_cons (gs_asg (ge_op go_mod (ge_callTy gc_int (by rfl) T.b_int PyProof.Rows.boot_int (ga_cons (ge_op go_add (ge_op go_mul (ge_ix gi_ix (ge_var (i := 0)) ge_int) ge_int) ge_int) ga_nil)) ge_int) (gg_sub (ge_var (i := 0)) ge_int gset_list)) (gss_cons (gs_set (i := 3) nd (ge_op go_mod (ge_callTy gc_int (by rfl) T.b_int PyProof.Rows.boot_int (ga_cons (ge_op go_mul (ge_ix gi_ix (ge_var (i := 0)) ge_int) (ge_op go_add (ge_ix gi_ix (ge_var (i := 0)) ge_int) ge_int)) ga_nil)) ge_int)) (gss_one (gs_ret (ge_op go_mod (ge_callTy gc_int (by rfl) T.b_int PyProof.Rows.boot_int (ga_cons (ge_op go_fdiv (ge_var (i := 3)) ge_int) ga_nil)) (ge_var (i := 1))))))))))
-- _law_some
abbrev s__law_some : Stmt := topS 21
def N__law_some : List Str := ["cup", "things"]
theorem sc__law_some : FnScope N__law_some ["cup", "things"] (defScope s__law_some) := ⟨rfl, rfl, rfl, by decide +kernel, rfl, by decide +kernel, by decide +kernel⟩
theorem okc__law_some {P : Program} {w : World} {K : PySem.W.Frag} {mg : Str → Option Value} {base : Heap} (T : TB mg) (c__law_roll : Cal P w K mg base 1 "_law_roll" ["cup", "many"] c__law_roll) (F : Dn K mg "_law_some" s__law_some ["cup", "things"]) : Cal P w K mg base 2 "_law_some" ["cup", "things"] c__law_some :=
  (fn_ML F sc__law_some (fun f cdv A outer s H E hr =>
  have nd := sc__law_some.nd
  (gss_one (gs_ret (ge_ix gi_ix (ge_var (i := 1)) (ge_call c__law_roll hr (ga_cons (ge_var (i := 0)) (ga_cons (ge_callB gc_len (by rfl) T.b_len PySem.boot_len (ga_cons (ge_var (i := 1)) ga_nil)) ga_nil))))))))
-- _law_grids
abbrev s__law_grids : Stmt := topS 24
def N__law_grids : List Str := ["many", "found", "down", "slant"]
theorem sc__law_grids : FnScope N__law_grids ["many"] (defScope s__law_grids) := ⟨rfl, rfl, rfl, by decide +kernel, rfl, by decide +kernel, by decide +kernel⟩
def sc1__law_grids : Scope := scp [(".0", .local), ("slant", .local), ("int", .globalImplicit), ("down", .free), ("many", .free)] []
theorem okc__law_grids {P : Program} {w : World} {K : PySem.W.Frag} {mg : Str → Option Value} {base : Heap} (T : TB mg)  (F : Dn K mg "_law_grids" s__law_grids ["many"]) : Cal P w K mg base 1 "_law_grids" ["many"] c__law_grids :=
  (fn_ML F sc__law_grids (fun f cdv A outer s H E hr =>
  have nd := sc__law_grids.nd
  (gss_cons (gs_set (i := 1) nd (ge_lst ga_nil)) (gss_cons (gs_for PySem.PassesOwn.never (by rfl) (gi_range2 (by rfl) T.b_range (ga_cons ge_int (ga_cons (ge_op go_add (ge_var (i := 0)) ge_int) ga_nil))) (gg_name nd (i := 2)) (gss_one (gs_if (gt_cmp (go_eq hr.units) (ge_op go_mod (ge_callTy gc_int (by rfl) T.b_int PyProof.Rows.boot_int (ga_cons (ge_var (i := 0)) ga_nil)) (ge_var (i := 2))) ge_int) (gss_one (gs_set (i := 1) nd (ge_op go_add (ge_var (i := 1)) (ge_lc (by rfl) nd (gi_range1 (by rfl) T.b_range (ga_cons (ge_callTy gc_int (by rfl) T.b_int PyProof.Rows.boot_int (ga_cons (ge_op go_fdiv (ge_var (i := 0)) (ge_var (i := 2))) ga_nil)) ga_nil)) ⟨blkOk_by (N := N__law_grids) (sc := (defScope s__law_grids)) (scope := sc1__law_grids) (own := [("slant", 3)]) (by decide +kernel), rfl⟩ (fun _ _ _ _ _ => (gw_name nd (i := 3) (vs := [3]))) (fun _ _ _ _ _ => gts_nil) (fun _ _ _ _ _ => (ge_tup (ga_cons (ge_var (i := 2)) (ga_cons (ge_var (i := 3)) (ga_cons (ge_callTy gc_int (by rfl) T.b_int PyProof.Rows.boot_int (ga_cons (ge_op go_fdiv (ge_var (i := 0)) (ge_var (i := 2))) ga_nil)) ga_nil))))))))) gss_nil))) (gss_one (gs_ret (ge_var (i := 1))))))))
-- _law_grid
abbrev s__law_grid : Stmt := topS 27
def N__law_grid : List Str := ["cup", "most"]
theorem sc__law_grid : FnScope N__law_grid ["cup", "most"] (defScope s__law_grid) := ⟨rfl, rfl, rfl, by decide +kernel, rfl, by decide +kernel, by decide +kernel⟩
theorem okc__law_grid {P : Program} {w : World} {K : PySem.W.Frag} {mg : Str → Option Value} {base : Heap} (T : TB mg) (c__law_some : Cal P w K mg base 2 "_law_some" ["cup", "things"] c__law_some) (c__law_grids : Cal P w K mg base 1 "_law_grids" ["many"] c__law_grids) (c__law_roll : Cal P w K mg base 1 "_law_roll" ["cup", "many"] c__law_roll) (F : Dn K mg "_law_grid" s__law_grid ["cup", "most"]) : Cal P w K mg base 3 "_law_grid" ["cup", "most"] c__law_grid :=
  (fn_ML F sc__law_grid (fun f cdv A outer s H E hr =>
  have nd := sc__law_grid.nd
  (gss_one (gs_ret (ge_call c__law_some hr (ga_cons (ge_var (i := 0)) (ga_cons (ge_call c__law_grids hr (ga_cons (ge_op go_add ge_int (ge_call c__law_roll hr (ga_cons (ge_var (i := 0)) (ga_cons (ge_var (i := 1)) ga_nil)))) ga_nil)) ga_nil)))))))
-- _law_class
abbrev s__law_class : Stmt := topS 23
def N__law_class : List Str := ["grid", "cell", "row", "column"]
theorem sc__law_class : FnScope N__law_class ["grid", "cell"] (defScope s__law_class) := ⟨rfl, rfl, rfl, by decide +kernel, rfl, by decide +kernel, by decide +kernel⟩
theorem okc__law_class {P : Program} {w : World} {K : PySem.W.Frag} {mg : Str → Option Value} {base : Heap} (T : TB mg)  (F : Dn K mg "_law_class" s__law_class ["grid", "cell"]) : Cal P w K mg base 1 "_law_class" ["grid", "cell"] c__law_class :=
  (fn_ML F sc__law_class (fun f cdv A outer s H E hr =>
  have nd := sc__law_class.nd
  (gss_cons (gs_asg (ge_var (i := 1)) (gg_tup (by rfl) (ggs_cons (gg_name nd (i := 2)) (ggs_cons (gg_name nd (i := 3)) ggs_nil)))) (gss_cons (gs_while 100000 PySem.PassesOwn.never (gt_cmp go_ge (ge_var (i := 2)) (ge_ix gi_ix (ge_var (i := 0)) ge_int)) (gss_one (gs_par (i := 2) (j := 3) (by rfl) nd (ga_cons (ge_op go_sub (ge_var (i := 2)) (ge_ix gi_ix (ge_var (i := 0)) ge_int)) (ga_cons (ge_op go_sub (ge_var (i := 3)) (ge_ix gi_ix (ge_var (i := 0)) ge_int)) ga_nil))))) (gss_cons (gs_while 100000 PySem.PassesOwn.never (gt_cmp (go_lt hr.units0) (ge_var (i := 2)) ge_int) (gss_one (gs_par (i := 2) (j := 3) (by rfl) nd (ga_cons (ge_op go_add (ge_var (i := 2)) (ge_ix gi_ix (ge_var (i := 0)) ge_int)) (ga_cons (ge_op go_add (ge_var (i := 3)) (ge_ix gi_ix (ge_var (i := 0)) ge_int)) ga_nil))))) (gss_one (gs_ret (ge_tup (ga_cons (ge_var (i := 2)) (ga_cons (ge_op go_mod (ge_callTy gc_int (by rfl) T.b_int PyProof.Rows.boot_int (ga_cons (ge_var (i := 3)) ga_nil)) (ge_ix gi_ix (ge_var (i := 0)) ge_int)) ga_nil))))))))))
-- _law_same
abbrev s__law_same : Stmt := topS 22
def N__law_same : List Str := ["told", "due", "at"]
theorem sc__law_same : FnScope N__law_same ["told", "due"] (defScope s__law_same) := ⟨rfl, rfl, rfl, by decide +kernel, rfl, by decide +kernel, by decide +kernel⟩
def sc1__law_same : Scope := scp [(".0", .local), ("at", .local), ("_law_same", .globalImplicit), ("due", .free), ("told", .free)] []
theorem ok__law_same {P : Program} {w : World} {K : PySem.W.Frag} {mg : Str → Option Value} {base : Heap} (T : TB mg)  (F : Dn K mg "_law_same" s__law_same ["told", "due"]) : ∀ k, Cal P w K mg base (0 + k) "_law_same" ["told", "due"] (f__law_same k)
  | 0 => (Cal.none F).mono (Nat.zero_le _)
  | k + 1 => fn_ML F sc__law_same (fun f cdv A outer s H E hr =>
  have nd := sc__law_same.nd
  have ih := ok__law_same T  F k
  (gss_cons (gs_if (gt_w (gw_or (gt_val (ge_callB gc_isi (by rfl) T.b_isinstance PyProof.Rows.boot_isinstance (ga_cons (ge_var (i := 1)) (ga_cons (ge_ty (by rfl) T.b_tuple PyProof.Rows.boot_tuple) ga_nil)))) (gw_or1 (gt_val (ge_callB gc_isi (by rfl) T.b_isinstance PyProof.Rows.boot_isinstance (ga_cons (ge_var (i := 1)) (ga_cons (ge_ty (by rfl) T.b_list PyProof.Rows.boot_list) ga_nil))))))) (gss_cons (gs_if (gt_w (gw_or (gt_cmp (go_ne hr.units) (ge_callB gc_isi (by rfl) T.b_isinstance PyProof.Rows.boot_isinstance (ga_cons (ge_var (i := 0)) (ga_cons (ge_ty (by rfl) T.b_tuple PyProof.Rows.boot_tuple) ga_nil))) (ge_callB gc_isi (by rfl) T.b_isinstance PyProof.Rows.boot_isinstance (ga_cons (ge_var (i := 1)) (ga_cons (ge_ty (by rfl) T.b_tuple PyProof.Rows.boot_tuple) ga_nil)))) (gw_or (gt_cmp (go_ne hr.units) (ge_callB gc_isi (by rfl) T.b_isinstance PyProof.Rows.boot_isinstance (ga_cons (ge_var (i := 0)) (ga_cons (ge_ty (by rfl) T.b_list PyProof.Rows.boot_list) ga_nil))) (ge_callB gc_isi (by rfl) T.b_isinstance PyProof.Rows.boot_isinstance (ga_cons (ge_var (i := 1)) (ga_cons (ge_ty (by rfl) T.b_list PyProof.Rows.boot_list) ga_nil)))) (gw_or1 (gt_cmp (go_ne hr.units) (ge_callB gc_len (by rfl) T.b_len PySem.boot_len (ga_cons (ge_var (i := 0)) ga_nil)) (ge_callB gc_len (by rfl) T.b_len PySem.boot_len (ga_cons (ge_var (i := 1)) ga_nil))))))) (gss_one (gs_ret ge_bl)) gss_nil) (gss_one (gs_ret (ge_cmp (go_eq hr.units) (ge_lc (by rfl) nd (gi_range1 (by rfl) T.b_range (ga_cons (ge_callB gc_len (by rfl) T.b_len PySem.boot_len (ga_cons (ge_var (i := 1)) ga_nil)) ga_nil)) ⟨blkOk_by (N := N__law_same) (sc := (defScope s__law_same)) (scope := sc1__law_same) (own := [("at", 2)]) (by decide +kernel), rfl⟩ (fun _ _ _ _ _ => (gw_name nd (i := 2) (vs := [2]))) (fun _ _ _ _ _ => (gts_one (gt_not (gt_val (ge_call ih hr (ga_cons (ge_ix gi_ix (ge_var (i := 0)) (ge_var (i := 2))) (ga_cons (ge_ix gi_ix (ge_var (i := 1)) (ge_var (i := 2))) ga_nil)) (hj := Nat.le_refl _)))))) (fun _ _ _ _ _ => ge_int)) (ge_lst ga_nil))))) gss_nil) (gss_cons (gs_if (gt_cmp go_is (ge_var (i := 1)) ge_non) (gss_one (gs_ret (ge_cmp go_is (ge_var (i := 0)) ge_non))) gss_nil) (gss_cons (gs_if (gt_val (ge_callB gc_isi (by rfl) T.b_isinstance PyProof.Rows.boot_isinstance (ga_cons (ge_var (i := 1)) (ga_cons (ge_ty (by rfl) T.b_bool PyProof.Rows.boot_bool) ga_nil)))) (gss_one (gs_ret (ge_if (gt_val (ge_var (i := 1))) (ge_cmp go_is (ge_var (i := 0)) ge_bl) (ge_cmp go_is (ge_var (i := 0)) ge_bl)))) gss_nil) (gss_cons (gs_if (gt_val (ge_callB gc_isi (by rfl) T.b_isinstance PyProof.Rows.boot_isinstance (ga_cons (ge_var (i := 1)) (ga_cons (ge_ty (by rfl) T.b_int PyProof.Rows.boot_int) ga_nil)))) (gss_one (gs_ret (ge_and (ge_callB gc_isi (by rfl) T.b_isinstance PyProof.Rows.boot_isinstance (ga_cons (ge_var (i := 0)) (ga_cons (ge_ty (by rfl) T.b_int PyProof.Rows.boot_int) ga_nil))) (ge_and (ge_not (ge_callB gc_isi (by rfl) T.b_isinstance PyProof.Rows.boot_isinstance (ga_cons (ge_var (i := 0)) (ga_cons (ge_ty (by rfl) T.b_bool PyProof.Rows.boot_bool) ga_nil)))) (ge_one (ge_cmp (go_eq hr.units) (ge_callTy gc_int (by rfl) T.b_int PyProof.Rows.boot_int (ga_cons (ge_var (i := 0)) ga_nil)) (ge_var (i := 1)))))))) gss_nil) (gss_one (gs_ret (ge_and (ge_callB gc_isi (by rfl) T.b_isinstance PyProof.Rows.boot_isinstance (ga_cons (ge_var (i := 0)) (ga_cons (ge_ty (by rfl) T.b_str PyProof.Rows.boot_str) ga_nil))) (ge_one (ge_cmp (go_eq hr.units) ge_never (ge_var (i := 1))))))))))))
theorem okc__law_same {P : Program} {w : World} {K : PySem.W.Frag} {mg : Str → Option Value} {base : Heap} (T : TB mg)  (F : Dn K mg "_law_same" s__law_same ["told", "due"]) : Cal P w K mg base 8 "_law_same" ["told", "due"] c__law_same := (ok__law_same T  F 8)
-- is_tuple_of
abbrev s_is_tuple_of : Stmt := topS 8
def N_is_tuple_of : List Str := ["value", "least", "most"]
theorem sc_is_tuple_of : FnScope N_is_tuple_of ["value", "least", "most"] (defScope s_is_tuple_of) := ⟨rfl, rfl, rfl, by decide +kernel, rfl, by decide +kernel, by decide +kernel⟩
theorem okc_is_tuple_of {P : Program} {w : World} {K : PySem.W.Frag} {mg : Str → Option Value} {base : Heap} (T : TB mg)  (F : Dn K mg "is_tuple_of" s_is_tuple_of ["value", "least", "most"]) : Cal P w K mg base 1 "is_tuple_of" ["value", "least", "most"] c_is_tuple_of :=
  (fn_ML F sc_is_tuple_of (fun f cdv A outer s H E hr =>
  have nd := sc_is_tuple_of.nd
  (gss_one (gs_ret (ge_and (ge_callB gc_isi (by rfl) T.b_isinstance PyProof.Rows.boot_isinstance (ga_cons (ge_var (i := 0)) (ga_cons (ge_ty (by rfl) T.b_tuple PyProof.Rows.boot_tuple) ga_nil))) (ge_one (ge_chain go_le go_le (ge_var (i := 1)) (ge_callB gc_len (by rfl) T.b_len PySem.boot_len (ga_cons (ge_var (i := 0)) ga_nil)) (ge_var (i := 2)))))))))
-- fits_whole
abbrev s_fits_whole : Stmt := topS 7
def N_fits_whole : List Str := ["value", "low", "high"]
theorem sc_fits_whole : FnScope N_fits_whole ["value", "low", "high"] (defScope s_fits_whole) := ⟨rfl, rfl, rfl, by decide +kernel, rfl, by decide +kernel, by decide +kernel⟩
theorem okc_fits_whole {P : Program} {w : World} {K : PySem.W.Frag} {mg : Str → Option Value} {base : Heap} (T : TB mg)  (F : Dn K mg "fits_whole" s_fits_whole ["value", "low", "high"]) : Cal P w K mg base 1 "fits_whole" ["value", "low", "high"] c_fits_whole :=
  (fn_ML F sc_fits_whole (fun f cdv A outer s H E hr =>
  have nd := sc_fits_whole.nd
  (gss_one (gs_ret (ge_and (ge_callB gc_isi (by rfl) T.b_isinstance PyProof.Rows.boot_isinstance (ga_cons (ge_var (i := 0)) (ga_cons (ge_ty (by rfl) T.b_int PyProof.Rows.boot_int) ga_nil))) (ge_and (ge_not (ge_callB gc_isi (by rfl) T.b_isinstance PyProof.Rows.boot_isinstance (ga_cons (ge_var (i := 0)) (ga_cons (ge_ty (by rfl) T.b_bool PyProof.Rows.boot_bool) ga_nil)))) (ge_one (ge_chain go_le go_le (ge_var (i := 1)) (ge_var (i := 0)) (ge_var (i := 2))))))))))
-- fits_grid
abbrev s_fits_grid : Stmt := topS 13
def N_fits_grid : List Str := ["value", "one"]
theorem sc_fits_grid : FnScope N_fits_grid ["value"] (defScope s_fits_grid) := ⟨rfl, rfl, rfl, by decide +kernel, rfl, by decide +kernel, by decide +kernel⟩
def sc1_fits_grid : Scope := scp [(".0", .local), ("one", .local), ("fits_whole", .globalImplicit), ("CELLS", .globalImplicit)] []
theorem okc_fits_grid {P : Program} {w : World} {K : PySem.W.Frag} {mg : Str → Option Value} {base : Heap} (T : TB mg) (c_is_tuple_of : Cal P w K mg base 1 "is_tuple_of" ["value", "least", "most"] c_is_tuple_of) (c_fits_whole : Cal P w K mg base 1 "fits_whole" ["value", "low", "high"] c_fits_whole) (F : Dn K mg "fits_grid" s_fits_grid ["value"]) : Cal P w K mg base 2 "fits_grid" ["value"] c_fits_grid :=
  (fn_ML F sc_fits_grid (fun f cdv A outer s H E hr =>
  have nd := sc_fits_grid.nd
  (gss_cons (gs_if (gt_w (gw_or (gt_not (gt_val (ge_call c_is_tuple_of hr (ga_cons (ge_var (i := 0)) (ga_cons ge_int (ga_cons ge_int ga_nil)))))) (gw_or1 (gt_not (gt_val (ge_callB (gc_all (by rfl)) (by rfl) T.b_all PyProof.Rows.boot_all (ga_cons (ge_lc (by rfl) nd (gi_any (ge_var (i := 0))) ⟨blkOk_by (N := N_fits_grid) (sc := (defScope s_fits_grid)) (scope := sc1_fits_grid) (own := [("one", 1)]) (by decide +kernel), rfl⟩ (fun _ _ _ _ _ => (gw_name nd (i := 1) (vs := [1]))) (fun _ _ _ _ _ => gts_nil) (fun _ _ _ _ _ => (ge_call c_fits_whole hr (ga_cons (ge_var (i := 1)) (ga_cons ge_int (ga_cons (ge_globI (by rfl) T.k_CELLS) ga_nil)))))) ga_nil))))))) (gss_one (gs_ret ge_bl)) gss_nil) (gss_one (gs_ret (ge_and (ge_cmp go_gt (ge_ix gi_ix (ge_var (i := 0)) ge_int) ge_int) (ge_and (ge_cmp go_gt (ge_ix gi_ix (ge_var (i := 0)) ge_int) (ge_ix gi_ix (ge_var (i := 0)) ge_int)) (ge_one (ge_cmp go_le (ge_op go_mul (ge_ix gi_ix (ge_var (i := 0)) ge_int) (ge_ix gi_ix (ge_var (i := 0)) ge_int)) (ge_op go_mul ge_int (ge_globI (by rfl) T.k_CELLS)))))))))))
-- is_grid
abbrev s_is_grid : Stmt := topS 15
def N_is_grid : List Str := ["value"]
theorem sc_is_grid : FnScope N_is_grid ["value"] (defScope s_is_grid) := ⟨rfl, rfl, rfl, by decide +kernel, rfl, by decide +kernel, by decide +kernel⟩
theorem okc_is_grid {P : Program} {w : World} {K : PySem.W.Frag} {mg : Str → Option Value} {base : Heap} (T : TB mg) (c_fits_grid : Cal P w K mg base 2 "fits_grid" ["value"] c_fits_grid) (F : Dn K mg "is_grid" s_is_grid ["value"]) : Cal P w K mg base 3 "is_grid" ["value"] c_is_grid :=
  (fn_ML F sc_is_grid (fun f cdv A outer s H E hr =>
  have nd := sc_is_grid.nd
  (gss_one (gs_ret (ge_call c_fits_grid hr (ga_cons (ge_var (i := 0)) ga_nil))))))
-- grids_in
abbrev s_grids_in : Stmt := topS 11
def N_grids_in : List Str := ["many", "found", "down", "slant"]
theorem sc_grids_in : FnScope N_grids_in ["many"] (defScope s_grids_in) := ⟨rfl, rfl, rfl, by decide +kernel, rfl, by decide +kernel, by decide +kernel⟩
def sc1_grids_in : Scope := scp [(".0", .local), ("slant", .local), ("down", .free), ("many", .free)] []
theorem okc_grids_in {P : Program} {w : World} {K : PySem.W.Frag} {mg : Str → Option Value} {base : Heap} (T : TB mg)  (F : Dn K mg "grids_in" s_grids_in ["many"]) : Cal P w K mg base 1 "grids_in" ["many"] c_grids_in :=
  Cal.fit (fn_ML F sc_grids_in (fun f cdv A outer s H E hr =>
  have nd := sc_grids_in.nd
  (gss_cons (gs_set (i := 1) nd (ge_lstM ga_nil)) (gss_cons (gs_for PySem.PassesOwn.never (by rfl) (gi_range2 (by rfl) T.b_range (ga_cons ge_int (ga_cons (ge_op go_add (ge_var (i := 0)) ge_int) ga_nil))) (gg_name nd (i := 2)) (gss_one (gs_if (gt_cmp (go_eq hr.units) (ge_op go_mul (ge_op go_fdiv (ge_var (i := 0)) (ge_var (i := 2))) (ge_var (i := 2))) (ge_var (i := 0))) (gss_one (gs_aug (i := 1) nd (ge_lc (by rfl) nd (gi_range1 (by rfl) T.b_range (ga_cons (ge_op go_fdiv (ge_var (i := 0)) (ge_var (i := 2))) ga_nil)) ⟨blkOk_by (N := N_grids_in) (sc := (defScope s_grids_in)) (scope := sc1_grids_in) (own := [("slant", 3)]) (by decide +kernel), rfl⟩ (fun _ _ _ _ _ => (gw_name nd (i := 3) (vs := [3]))) (fun _ _ _ _ _ => gts_nil) (fun _ _ _ _ _ => (ge_tup (ga_cons (ge_var (i := 2)) (ga_cons (ge_var (i := 3)) (ga_cons (ge_op go_fdiv (ge_var (i := 0)) (ge_var (i := 2))) ga_nil)))))) go_iadd)) gss_nil))) (gss_one (gs_ret (ge_var (i := 1)))))))) fit_grids_in
-- grids
abbrev s_grids : Stmt := topS 17
def N_grids : List Str := ["many"]
theorem sc_grids : FnScope N_grids ["many"] (defScope s_grids) := ⟨rfl, rfl, rfl, by decide +kernel, rfl, by decide +kernel, by decide +kernel⟩
theorem okc_grids {P : Program} {w : World} {K : PySem.W.Frag} {mg : Str → Option Value} {base : Heap} (T : TB mg) (c_fits_whole : Cal P w K mg base 1 "fits_whole" ["value", "low", "high"] c_fits_whole) (c_grids_in : Cal P w K mg base 1 "grids_in" ["many"] c_grids_in) (F : Dn K mg "grids" s_grids ["many"]) : Cal P w K mg base 2 "grids" ["many"] c_grids :=
  (fn_ML F sc_grids (fun f cdv A outer s H E hr =>
  have nd := sc_grids.nd
  (gss_cons (gs_if (gt_not (gt_val (ge_call c_fits_whole hr (ga_cons (ge_var (i := 0)) (ga_cons ge_int (ga_cons (ge_globI (by rfl) T.k_CELLS) ga_nil)))))) gss_never gss_nil) (gss_one (gs_ret (ge_callTy gc_tuple (by rfl) T.b_tuple PyProof.Rows.boot_tuple (ga_cons (ge_call c_grids_in hr (ga_cons (ge_var (i := 0)) ga_nil)) ga_nil)))))))
-- need_far_cell
abbrev s_need_far_cell : Stmt := topS 14
def N_need_far_cell : List Str := ["cell", "one"]
theorem sc_need_far_cell : FnScope N_need_far_cell ["cell"] (defScope s_need_far_cell) := ⟨rfl, rfl, rfl, by decide +kernel, rfl, by decide +kernel, by decide +kernel⟩
def sc1_need_far_cell : Scope := scp [(".0", .local), ("one", .local), ("fits_whole", .globalImplicit), ("FAR", .globalImplicit)] []
theorem okc_need_far_cell {P : Program} {w : World} {K : PySem.W.Frag} {mg : Str → Option Value} {base : Heap} (T : TB mg) (c_is_tuple_of : Cal P w K mg base 1 "is_tuple_of" ["value", "least", "most"] c_is_tuple_of) (c_fits_whole : Cal P w K mg base 1 "fits_whole" ["value", "low", "high"] c_fits_whole) (F : Dn K mg "need_far_cell" s_need_far_cell ["cell"]) : Cal P w K mg base 2 "need_far_cell" ["cell"] c_need_far_cell :=
  (fn_ML F sc_need_far_cell (fun f cdv A outer s H E hr =>
  have nd := sc_need_far_cell.nd
  (gss_one (gs_if (gt_w (gw_or (gt_not (gt_val (ge_call c_is_tuple_of hr (ga_cons (ge_var (i := 0)) (ga_cons ge_int (ga_cons ge_int ga_nil)))))) (gw_or1 (gt_not (gt_val (ge_callB (gc_all (by rfl)) (by rfl) T.b_all PyProof.Rows.boot_all (ga_cons (ge_lc (by rfl) nd (gi_any (ge_var (i := 0))) ⟨blkOk_by (N := N_need_far_cell) (sc := (defScope s_need_far_cell)) (scope := sc1_need_far_cell) (own := [("one", 1)]) (by decide +kernel), rfl⟩ (fun _ _ _ _ _ => (gw_name nd (i := 1) (vs := [1]))) (fun _ _ _ _ _ => gts_nil) (fun _ _ _ _ _ => (ge_call c_fits_whole hr (ga_cons (ge_var (i := 1)) (ga_cons (ge_un gu_neg (ge_globI (by rfl) T.k_FAR)) (ga_cons (ge_globI (by rfl) T.k_FAR) ga_nil)))))) ga_nil))))))) gss_never gss_nil))))
-- class_in
abbrev s_class_in : Stmt := topS 12
def N_class_in : List Str := ["grid", "cell", "down", "slant", "across", "turns", "column"]
theorem sc_class_in : FnScope N_class_in ["grid", "cell"] (defScope s_class_in) := ⟨rfl, rfl, rfl, by decide +kernel, rfl, by decide +kernel, by decide +kernel⟩
theorem okc_class_in {P : Program} {w : World} {K : PySem.W.Frag} {mg : Str → Option Value} {base : Heap} (T : TB mg)  (F : Dn K mg "class_in" s_class_in ["grid", "cell"]) : Cal P w K mg base 1 "class_in" ["grid", "cell"] c_class_in :=
  (fn_ML F sc_class_in (fun f cdv A outer s H E hr =>
  have nd := sc_class_in.nd
  (gss_cons (gs_asg (ge_var (i := 0)) (gg_tup (by rfl) (ggs_cons (gg_name nd (i := 2)) (ggs_cons (gg_name nd (i := 3)) (ggs_cons (gg_name nd (i := 4)) ggs_nil))))) (gss_cons (gs_set (i := 5) nd (ge_op go_fdiv (ge_ix gi_ix (ge_var (i := 1)) ge_int) (ge_var (i := 2)))) (gss_cons (gs_set (i := 6) nd (ge_op go_sub (ge_ix gi_ix (ge_var (i := 1)) ge_int) (ge_op go_mul (ge_var (i := 5)) (ge_var (i := 3))))) (gss_one (gs_ret (ge_tup (ga_cons (ge_op go_sub (ge_ix gi_ix (ge_var (i := 1)) ge_int) (ge_op go_mul (ge_var (i := 5)) (ge_var (i := 2)))) (ga_cons (ge_op go_sub (ge_var (i := 6)) (ge_op go_mul (ge_op go_fdiv (ge_var (i := 6)) (ge_var (i := 4))) (ge_var (i := 4)))) ga_nil))))))))))
-- class_of
abbrev s_class_of : Stmt := topS 16
def N_class_of : List Str := ["grid", "cell"]
theorem sc_class_of : FnScope N_class_of ["grid", "cell"] (defScope s_class_of) := ⟨rfl, rfl, rfl, by decide +kernel, rfl, by decide +kernel, by decide +kernel⟩
theorem okc_class_of {P : Program} {w : World} {K : PySem.W.Frag} {mg : Str → Option Value} {base : Heap} (T : TB mg) (c_need_far_cell : Cal P w K mg base 2 "need_far_cell" ["cell"] c_need_far_cell) (c_class_in : Cal P w K mg base 1 "class_in" ["grid", "cell"] c_class_in) (c_fits_grid : Cal P w K mg base 2 "fits_grid" ["value"] c_fits_grid) (F : Dn K mg "class_of" s_class_of ["grid", "cell"]) : Cal P w K mg base 3 "class_of" ["grid", "cell"] c_class_of :=
  (fn_ML F sc_class_of (fun f cdv A outer s H E hr =>
  have nd := sc_class_of.nd
  (gss_cons (gs_if (gt_not (gt_val (ge_call c_fits_grid hr (ga_cons (ge_var (i := 0)) ga_nil)))) gss_never gss_nil) (gss_cons (gs_expr (ge_call c_need_far_cell hr (ga_cons (ge_var (i := 1)) ga_nil))) (gss_one (gs_ret (ge_call c_class_in hr (ga_cons (ge_var (i := 0)) (ga_cons (ge_var (i := 1)) ga_nil)))))))))
-- _law_is_grid
abbrev s__law_is_grid : Stmt := topS 29
def N__law_is_grid : List Str := ["value", "one"]
theorem sc__law_is_grid : FnScope N__law_is_grid ["value"] (defScope s__law_is_grid) := ⟨rfl, rfl, rfl, by decide +kernel, rfl, by decide +kernel, by decide +kernel⟩
def sc1__law_is_grid : Scope := scp [(".0", .local), ("one", .local), ("isinstance", .globalImplicit), ("bool", .globalImplicit), ("int", .globalImplicit)] []
theorem okc__law_is_grid {P : Program} {w : World} {K : PySem.W.Frag} {mg : Str → Option Value} {base : Heap} (T : TB mg)  (F : Dn K mg "_law_is_grid" s__law_is_grid ["value"]) : Cal P w K mg base 1 "_law_is_grid" ["value"] c__law_is_grid :=
  (fn_ML F sc__law_is_grid (fun f cdv A outer s H E hr =>
  have nd := sc__law_is_grid.nd
  (gss_cons (gs_if (gt_w (gw_or (gt_not (gt_val (ge_callB gc_isi (by rfl) T.b_isinstance PyProof.Rows.boot_isinstance (ga_cons (ge_var (i := 0)) (ga_cons (ge_ty (by rfl) T.b_tuple PyProof.Rows.boot_tuple) ga_nil))))) (gw_or1 (gt_cmp (go_ne hr.units) (ge_callB gc_len (by rfl) T.b_len PySem.boot_len (ga_cons (ge_var (i := 0)) ga_nil)) ge_int)))) (gss_one (gs_ret ge_bl)) gss_nil) (gss_cons (gs_if (gt_cmp (go_ne hr.units) (ge_lc (by rfl) nd (gi_any (ge_var (i := 0))) ⟨blkOk_by (N := N__law_is_grid) (sc := (defScope s__law_is_grid)) (scope := sc1__law_is_grid) (own := [("one", 1)]) (by decide +kernel), rfl⟩ (fun _ _ _ _ _ => (gw_name nd (i := 1) (vs := [1]))) (fun _ _ _ _ _ => (gts_one (gt_w (gw_or (gt_val (ge_callB gc_isi (by rfl) T.b_isinstance PyProof.Rows.boot_isinstance (ga_cons (ge_var (i := 1)) (ga_cons (ge_ty (by rfl) T.b_bool PyProof.Rows.boot_bool) ga_nil)))) (gw_or1 (gt_not (gt_val (ge_callB gc_isi (by rfl) T.b_isinstance PyProof.Rows.boot_isinstance (ga_cons (ge_var (i := 1)) (ga_cons (ge_ty (by rfl) T.b_int PyProof.Rows.boot_int) ga_nil)))))))))) (fun _ _ _ _ _ => (ge_var (i := 1)))) (ge_lst ga_nil)) (gss_one (gs_ret ge_bl)) gss_nil) (gss_one (gs_ret (ge_and (ge_chain go_le go_le ge_int (ge_ix gi_ix (ge_var (i := 0)) ge_int) ge_int) (ge_and (ge_chain go_le go_le ge_int (ge_ix gi_ix (ge_var (i := 0)) ge_int) ge_int) (ge_and (ge_chain go_le (go_lt hr.units0) ge_int (ge_ix gi_ix (ge_var (i := 0)) ge_int) (ge_ix gi_ix (ge_var (i := 0)) ge_int)) (ge_one (ge_cmp go_le (ge_op go_mul (ge_ix gi_ix (ge_var (i := 0)) ge_int) (ge_ix gi_ix (ge_var (i := 0)) ge_int)) ge_int)))))))))))
-- law
abbrev s_law : Stmt := topS 30
def N_law : List Str := ["script", "cup", "many", "turn", "grid", "cell", "due", "on", "at", "odds", "values", "value", "odd"]
theorem sc_law : FnScope N_law ["script"] (defScope s_law) := ⟨rfl, rfl, rfl, by decide +kernel, rfl, by decide +kernel, by decide +kernel⟩
def sc1_law : Scope := scp [(".0", .local), ("grid", .local), ("is_grid", .globalImplicit)] []
def sc2_law : Scope := scp [(".0", .local), ("odd", .local), ("at", .free), ("grid", .free)] []
theorem okc_law {P : Program} {w : World} {K : PySem.W.Frag} {mg : Str → Option Value} {base : Heap} {a : Addr} {fd : FuncData} (T : TB mg) (c__law_cup : Cal P w K mg base 1 "_law_cup" ["script"] c__law_cup) (c__law_grid : Cal P w K mg base 3 "_law_grid" ["cup", "most"] c__law_grid) (c__law_some : Cal P w K mg base 2 "_law_some" ["cup", "things"] c__law_some) (c__law_class : Cal P w K mg base 1 "_law_class" ["grid", "cell"] c__law_class) (c__law_roll : Cal P w K mg base 1 "_law_roll" ["cup", "many"] c__law_roll) (c__law_same : Cal P w K mg base 8 "_law_same" ["told", "due"] c__law_same) (c_is_grid : Cal P w K mg base 3 "is_grid" ["value"] c_is_grid) (c_grids : Cal P w K mg base 2 "grids" ["many"] c_grids) (c_class_of : Cal P w K mg base 3 "class_of" ["grid", "cell"] c_class_of) (c__law_grids : Cal P w K mg base 1 "_law_grids" ["many"] c__law_grids) (c__law_is_grid : Cal P w K mg base 1 "_law_is_grid" ["value"] c__law_is_grid) (F : Fun K "law" "law" s_law a fd) : FnOk P w K mg base CX0 9 a fd ["script"] (spM K mg 1 c_law) :=
  fnok_ML F sc_law (fun f cdv A outer s H E hr =>
  have nd := sc_law.nd
  (gss_cons (gs_set (i := 1) nd (ge_call c__law_cup hr (ga_cons (ge_var (i := 0)) ga_nil))) (gss_cons (gs_for PySem.PassesOwn.never (by rfl) (gi_any (ge_tup (ga_cons (ge_op go_add ge_int (ge_call c__law_roll hr (ga_cons (ge_var (i := 1)) (ga_cons ge_int ga_nil)))) (ga_cons (ge_op go_add ge_int (ge_call c__law_roll hr (ga_cons (ge_var (i := 1)) (ga_cons ge_int ga_nil)))) (ga_cons ge_int ga_nil))))) (gg_name nd (i := 2)) (gss_one (gs_if (gt_not (gt_val (ge_call c__law_same hr (ga_cons (ge_call c_grids hr (ga_cons (ge_var (i := 2)) ga_nil)) (ga_cons (ge_callTy gc_tuple (by rfl) T.b_tuple PyProof.Rows.boot_tuple (ga_cons (ge_call c__law_grids hr (ga_cons (ge_var (i := 2)) ga_nil)) ga_nil)) ga_nil))))) (gss_one (gs_ret ge_bl)) gss_nil))) (gss_cons (gs_for PySem.PassesOwn.never (by rfl) (gi_range1 (by rfl) T.b_range (ga_cons ge_int ga_nil)) (gg_name nd (i := 3)) (gss_cons (gs_set (i := 4) nd (ge_call c__law_grid hr (ga_cons (ge_var (i := 1)) (ga_cons (ge_call c__law_some hr (ga_cons (ge_var (i := 1)) (ga_cons (ge_lst (ga_cons ge_int (ga_cons ge_int (ga_cons ge_int ga_nil)))) ga_nil))) ga_nil)))) (gss_cons (gs_set (i := 5) nd (ge_tup (ga_cons (ge_op go_sub (ge_call c__law_roll hr (ga_cons (ge_var (i := 1)) (ga_cons ge_int ga_nil))) ge_int) (ga_cons (ge_op go_sub (ge_call c__law_roll hr (ga_cons (ge_var (i := 1)) (ga_cons ge_int ga_nil))) ge_int) ga_nil)))) (gss_cons (gs_set (i := 5) nd (ge_call c__law_some hr (ga_cons (ge_var (i := 1)) (ga_cons (ge_lst (ga_cons (ge_var (i := 5)) (ga_cons (ge_var (i := 5)) (ga_cons (ge_tup (ga_cons (ge_un gu_neg ge_int) (ga_cons ge_int ga_nil))) (ga_cons (ge_tup (ga_cons ge_int (ga_cons (ge_un gu_neg ge_int) ga_nil))) (ga_cons (ge_tup (ga_cons ge_int (ga_cons ge_int ga_nil))) (ga_cons (ge_tup (ga_cons (ge_un gu_neg ge_int) (ga_cons (ge_un gu_neg ge_int) ga_nil))) ga_nil))))))) ga_nil)))) (gss_cons (gs_set (i := 6) nd (ge_call c__law_class hr (ga_cons (ge_var (i := 4)) (ga_cons (ge_var (i := 5)) ga_nil)))) (gss_cons (gs_if (gt_w (gw_or (gt_not (gt_val (ge_call c__law_same hr (ga_cons (ge_call c_class_of hr (ga_cons (ge_var (i := 4)) (ga_cons (ge_var (i := 5)) ga_nil))) (ga_cons (ge_var (i := 6)) ga_nil))))) (gw_or1 (gt_not (gt_val (ge_call c__law_same hr (ga_cons (ge_call c_class_of hr (ga_cons (ge_var (i := 4)) (ga_cons (ge_var (i := 6)) ga_nil))) (ga_cons (ge_var (i := 6)) ga_nil)))))))) (gss_one (gs_ret ge_bl)) gss_nil) (gss_cons (gs_set (i := 7) nd (ge_tup (ga_cons (ge_op go_add (ge_ix gi_ix (ge_var (i := 5)) ge_int) (ge_ix gi_ix (ge_var (i := 4)) ge_int)) (ga_cons (ge_op go_add (ge_ix gi_ix (ge_var (i := 5)) ge_int) (ge_ix gi_ix (ge_var (i := 4)) ge_int)) ga_nil)))) (gss_cons (gs_if (gt_w (gw_and (gt_chain go_le go_le (ge_un gu_neg ge_int) (ge_ix gi_ix (ge_var (i := 7)) ge_int) ge_int) (gw_and (gt_chain go_le go_le (ge_un gu_neg ge_int) (ge_ix gi_ix (ge_var (i := 7)) ge_int) ge_int) (gw_and1 (gt_cmp (go_ne hr.units) (ge_call c_class_of hr (ga_cons (ge_var (i := 4)) (ga_cons (ge_var (i := 7)) ga_nil))) (ge_var (i := 6))))))) (gss_one (gs_ret ge_bl)) gss_nil) (gss_cons (gs_set (i := 8) nd (ge_call c__law_roll hr (ga_cons (ge_var (i := 1)) (ga_cons ge_int ga_nil)))) (gss_cons (gs_set (i := 9) nd (ge_lst (ga_cons ge_int (ga_cons (ge_un gu_neg ge_int) (ga_cons ge_bl (ga_cons ge_non (ga_cons ge_str (ga_cons (ge_tup (ga_cons ge_int ga_nil)) (ga_cons ge_int (ga_cons ge_int (ga_cons (ge_ix gi_ix (ge_var (i := 4)) ge_int) (ga_cons (ge_op go_pow ge_int ge_int) ga_nil)))))))))))) (gss_cons (gs_set (i := 10) nd (ge_lst (ga_cons (ge_var (i := 4)) (ga_cons (ge_rev (ge_var (i := 4))) (ga_cons (ge_slice (ge_var (i := 4)) gp_none (gp_some ge_int)) (ga_cons (ge_op go_add (ge_var (i := 4)) (ge_tup (ga_cons ge_int ga_nil))) (ga_cons (ge_callTy gc_list (by rfl) T.b_list PyProof.Rows.boot_list (ga_cons (ge_var (i := 4)) ga_nil)) (ga_cons (ge_tup ga_nil) (ga_cons ge_non (ga_cons ge_int ga_nil)))))))))) (gss_one (gs_for PySem.PassesOwn.never (by rfl) (gi_any (ge_op go_add (ge_var (i := 10)) (ge_lc (by rfl) nd (gi_any (ge_var (i := 9))) ⟨blkOk_by (N := N_law) (sc := (defScope s_law)) (scope := sc2_law) (own := [("odd", 12)]) (by decide +kernel), rfl⟩ (fun _ _ _ _ _ => (gw_name nd (i := 12) (vs := [12]))) (fun _ _ _ _ _ => gts_nil) (fun _ _ _ _ _ => (ge_op go_add (ge_op go_add (ge_slice (ge_var (i := 4)) gp_none (gp_some (ge_var (i := 8)))) (ge_tup (ga_cons (ge_var (i := 12)) ga_nil))) (ge_slice (ge_var (i := 4)) (gp_some (ge_op go_add (ge_var (i := 8)) ge_int)) gp_none)))))) (gg_name nd (i := 11)) (gss_one (gs_if (gt_not (gt_val (ge_call c__law_same hr (ga_cons (ge_call c_is_grid hr (ga_cons (ge_var (i := 11)) ga_nil)) (ga_cons (ge_call c__law_is_grid hr (ga_cons (ge_var (i := 11)) ga_nil)) ga_nil))))) (gss_one (gs_ret ge_bl)) gss_nil))))))))))))))) (gss_one (gs_ret (ge_cmp (go_eq hr.units) (ge_lc (by rfl) nd (gi_any (ge_tup (ga_cons (ge_tup (ga_cons ge_int (ga_cons ge_int (ga_cons ge_int ga_nil)))) (ga_cons (ge_tup (ga_cons ge_int (ga_cons ge_int (ga_cons ge_int ga_nil)))) (ga_cons (ge_tup (ga_cons ge_int (ga_cons ge_int (ga_cons ge_int ga_nil)))) (ga_cons (ge_tup (ga_cons ge_int (ga_cons ge_int (ga_cons ge_int ga_nil)))) (ga_cons (ge_tup (ga_cons ge_int (ga_cons ge_int (ga_cons ge_int ga_nil)))) (ga_cons (ge_tup (ga_cons ge_int (ga_cons ge_int (ga_cons ge_int ga_nil)))) ga_nil)))))))) ⟨blkOk_by (N := N_law) (sc := (defScope s_law)) (scope := sc1_law) (own := [("grid", 4)]) (by decide +kernel), rfl⟩ (fun _ _ _ _ _ => (gw_name nd (i := 4) (vs := [4]))) (fun _ _ _ _ _ => gts_nil) (fun _ _ _ _ _ => (ge_call c_is_grid hr (ga_cons (ge_var (i := 4)) ga_nil)))) (ge_op go_add (ge_op go_mul (ge_lst (ga_cons ge_bl ga_nil)) ge_int) (ge_op go_mul (ge_lst (ga_cons ge_bl ga_nil)) ge_int)))))))))
end ML
namespace ML
open PySem L2
theorem all_mk {l : PySem.W.OpenLaw} {w : World} {K : PySem.W.Frag} {h : Heap} {mg : Str → Option Value} {fa : Addr} (X : K.In h) (G : h.Ns mainGlobals mg) (hfa : mg "law" = some (.ref fa))
    {od0 an0 : Option Addr} {sl0 : Array (Option Value)} {f0 : Addr} {oc0 kV0 dc0 pm0 cd0 ct0 : Value}
    {od1 an1 : Option Addr} {sl1 : Array (Option Value)} {f1 : Addr} {oc1 kV1 dc1 pm1 cd1 ct1 : Value}
    {od2 an2 : Option Addr} {sl2 : Array (Option Value)} {f2 : Addr} {oc2 kV2 dc2 pm2 cd2 ct2 : Value}
    {od3 an3 : Option Addr} {sl3 : Array (Option Value)} {f3 : Addr} {oc3 kV3 dc3 pm3 cd3 ct3 : Value}
    {od4 an4 : Option Addr} {sl4 : Array (Option Value)} {f4 : Addr} {oc4 kV4 dc4 pm4 cd4 ct4 : Value}
    {od5 an5 : Option Addr} {sl5 : Array (Option Value)} {f5 : Addr} {oc5 kV5 dc5 pm5 cd5 ct5 : Value}
    {od6 an6 : Option Addr} {sl6 : Array (Option Value)} {f6 : Addr} {oc6 kV6 dc6 pm6 cd6 ct6 : Value}
    {od7 an7 : Option Addr} {sl7 : Array (Option Value)} {f7 : Addr} {oc7 kV7 dc7 pm7 cd7 ct7 : Value}
    {od8 an8 : Option Addr} {sl8 : Array (Option Value)} {f8 : Addr} {oc8 kV8 dc8 pm8 cd8 ct8 : Value}
    {od9 an9 : Option Addr} {sl9 : Array (Option Value)} {f9 : Addr} {oc9 kV9 dc9 pm9 cd9 ct9 : Value}
    {od10 an10 : Option Addr} {sl10 : Array (Option Value)} {f10 : Addr} {oc10 kV10 dc10 pm10 cd10 ct10 : Value}
    {od11 an11 : Option Addr} {sl11 : Array (Option Value)} {f11 : Addr} {oc11 kV11 dc11 pm11 cd11 ct11 : Value}
    {od12 an12 : Option Addr} {sl12 : Array (Option Value)} {f12 : Addr} {oc12 kV12 dc12 pm12 cd12 ct12 : Value}
    {od13 an13 : Option Addr} {sl13 : Array (Option Value)} {f13 : Addr} {oc13 kV13 dc13 pm13 cd13 ct13 : Value}
    {od14 an14 : Option Addr} {sl14 : Array (Option Value)} {f14 : Addr} {oc14 kV14 dc14 pm14 cd14 ct14 : Value}
    {od15 an15 : Option Addr} {sl15 : Array (Option Value)} {f15 : Addr} {oc15 kV15 dc15 pm15 cd15 ct15 : Value}
    {od16 an16 : Option Addr} {sl16 : Array (Option Value)} {f16 : Addr} {oc16 kV16 dc16 pm16 cd16 ct16 : Value}
    {od17 an17 : Option Addr} {sl17 : Array (Option Value)} {f17 : Addr} {oc17 kV17 dc17 pm17 cd17 ct17 : Value}
    (a0 : PySem.W.nsIn K mainGlobals "_law_cup" = some (some (.ref f0))) (l0 : K.lookup f0 = some ⟨oc0, od0, .func (PySem.W.fnOf "_law_cup" "_law_cup" (defArgs s__law_cup) (defBody s__law_cup) (defScope s__law_cup) .none kV0 dc0 pm0 an0 cd0 ct0), sl0⟩) (e0 : PySem.W.codeIn K cd0 "_law_cup" = true) (k0 : PySem.W.keepIn K (.ref f0) = true)
    (a1 : PySem.W.nsIn K mainGlobals "_law_roll" = some (some (.ref f1))) (l1 : K.lookup f1 = some ⟨oc1, od1, .func (PySem.W.fnOf "_law_roll" "_law_roll" (defArgs s__law_roll) (defBody s__law_roll) (defScope s__law_roll) .none kV1 dc1 pm1 an1 cd1 ct1), sl1⟩) (e1 : PySem.W.codeIn K cd1 "_law_roll" = true) (k1 : PySem.W.keepIn K (.ref f1) = true)
    (a2 : PySem.W.nsIn K mainGlobals "_law_some" = some (some (.ref f2))) (l2 : K.lookup f2 = some ⟨oc2, od2, .func (PySem.W.fnOf "_law_some" "_law_some" (defArgs s__law_some) (defBody s__law_some) (defScope s__law_some) .none kV2 dc2 pm2 an2 cd2 ct2), sl2⟩) (e2 : PySem.W.codeIn K cd2 "_law_some" = true) (k2 : PySem.W.keepIn K (.ref f2) = true)
    (a3 : PySem.W.nsIn K mainGlobals "_law_grids" = some (some (.ref f3))) (l3 : K.lookup f3 = some ⟨oc3, od3, .func (PySem.W.fnOf "_law_grids" "_law_grids" (defArgs s__law_grids) (defBody s__law_grids) (defScope s__law_grids) .none kV3 dc3 pm3 an3 cd3 ct3), sl3⟩) (e3 : PySem.W.codeIn K cd3 "_law_grids" = true) (k3 : PySem.W.keepIn K (.ref f3) = true)
    (a4 : PySem.W.nsIn K mainGlobals "_law_grid" = some (some (.ref f4))) (l4 : K.lookup f4 = some ⟨oc4, od4, .func (PySem.W.fnOf "_law_grid" "_law_grid" (defArgs s__law_grid) (defBody s__law_grid) (defScope s__law_grid) .none kV4 dc4 pm4 an4 cd4 ct4), sl4⟩) (e4 : PySem.W.codeIn K cd4 "_law_grid" = true) (k4 : PySem.W.keepIn K (.ref f4) = true)
    (a5 : PySem.W.nsIn K mainGlobals "_law_class" = some (some (.ref f5))) (l5 : K.lookup f5 = some ⟨oc5, od5, .func (PySem.W.fnOf "_law_class" "_law_class" (defArgs s__law_class) (defBody s__law_class) (defScope s__law_class) .none kV5 dc5 pm5 an5 cd5 ct5), sl5⟩) (e5 : PySem.W.codeIn K cd5 "_law_class" = true) (k5 : PySem.W.keepIn K (.ref f5) = true)
    (a6 : PySem.W.nsIn K mainGlobals "_law_same" = some (some (.ref f6))) (l6 : K.lookup f6 = some ⟨oc6, od6, .func (PySem.W.fnOf "_law_same" "_law_same" (defArgs s__law_same) (defBody s__law_same) (defScope s__law_same) .none kV6 dc6 pm6 an6 cd6 ct6), sl6⟩) (e6 : PySem.W.codeIn K cd6 "_law_same" = true) (k6 : PySem.W.keepIn K (.ref f6) = true)
    (a7 : PySem.W.nsIn K mainGlobals "is_tuple_of" = some (some (.ref f7))) (l7 : K.lookup f7 = some ⟨oc7, od7, .func (PySem.W.fnOf "is_tuple_of" "is_tuple_of" (defArgs s_is_tuple_of) (defBody s_is_tuple_of) (defScope s_is_tuple_of) .none kV7 dc7 pm7 an7 cd7 ct7), sl7⟩) (e7 : PySem.W.codeIn K cd7 "is_tuple_of" = true) (k7 : PySem.W.keepIn K (.ref f7) = true)
    (a8 : PySem.W.nsIn K mainGlobals "fits_whole" = some (some (.ref f8))) (l8 : K.lookup f8 = some ⟨oc8, od8, .func (PySem.W.fnOf "fits_whole" "fits_whole" (defArgs s_fits_whole) (defBody s_fits_whole) (defScope s_fits_whole) .none kV8 dc8 pm8 an8 cd8 ct8), sl8⟩) (e8 : PySem.W.codeIn K cd8 "fits_whole" = true) (k8 : PySem.W.keepIn K (.ref f8) = true)
    (a9 : PySem.W.nsIn K mainGlobals "fits_grid" = some (some (.ref f9))) (l9 : K.lookup f9 = some ⟨oc9, od9, .func (PySem.W.fnOf "fits_grid" "fits_grid" (defArgs s_fits_grid) (defBody s_fits_grid) (defScope s_fits_grid) .none kV9 dc9 pm9 an9 cd9 ct9), sl9⟩) (e9 : PySem.W.codeIn K cd9 "fits_grid" = true) (k9 : PySem.W.keepIn K (.ref f9) = true)
    (a10 : PySem.W.nsIn K mainGlobals "is_grid" = some (some (.ref f10))) (l10 : K.lookup f10 = some ⟨oc10, od10, .func (PySem.W.fnOf "is_grid" "is_grid" (defArgs s_is_grid) (defBody s_is_grid) (defScope s_is_grid) .none kV10 dc10 pm10 an10 cd10 ct10), sl10⟩) (e10 : PySem.W.codeIn K cd10 "is_grid" = true) (k10 : PySem.W.keepIn K (.ref f10) = true)
    (a11 : PySem.W.nsIn K mainGlobals "grids_in" = some (some (.ref f11))) (l11 : K.lookup f11 = some ⟨oc11, od11, .func (PySem.W.fnOf "grids_in" "grids_in" (defArgs s_grids_in) (defBody s_grids_in) (defScope s_grids_in) .none kV11 dc11 pm11 an11 cd11 ct11), sl11⟩) (e11 : PySem.W.codeIn K cd11 "grids_in" = true) (k11 : PySem.W.keepIn K (.ref f11) = true)
    (a12 : PySem.W.nsIn K mainGlobals "grids" = some (some (.ref f12))) (l12 : K.lookup f12 = some ⟨oc12, od12, .func (PySem.W.fnOf "grids" "grids" (defArgs s_grids) (defBody s_grids) (defScope s_grids) .none kV12 dc12 pm12 an12 cd12 ct12), sl12⟩) (e12 : PySem.W.codeIn K cd12 "grids" = true) (k12 : PySem.W.keepIn K (.ref f12) = true)
    (a13 : PySem.W.nsIn K mainGlobals "need_far_cell" = some (some (.ref f13))) (l13 : K.lookup f13 = some ⟨oc13, od13, .func (PySem.W.fnOf "need_far_cell" "need_far_cell" (defArgs s_need_far_cell) (defBody s_need_far_cell) (defScope s_need_far_cell) .none kV13 dc13 pm13 an13 cd13 ct13), sl13⟩) (e13 : PySem.W.codeIn K cd13 "need_far_cell" = true) (k13 : PySem.W.keepIn K (.ref f13) = true)
    (a14 : PySem.W.nsIn K mainGlobals "class_in" = some (some (.ref f14))) (l14 : K.lookup f14 = some ⟨oc14, od14, .func (PySem.W.fnOf "class_in" "class_in" (defArgs s_class_in) (defBody s_class_in) (defScope s_class_in) .none kV14 dc14 pm14 an14 cd14 ct14), sl14⟩) (e14 : PySem.W.codeIn K cd14 "class_in" = true) (k14 : PySem.W.keepIn K (.ref f14) = true)
    (a15 : PySem.W.nsIn K mainGlobals "class_of" = some (some (.ref f15))) (l15 : K.lookup f15 = some ⟨oc15, od15, .func (PySem.W.fnOf "class_of" "class_of" (defArgs s_class_of) (defBody s_class_of) (defScope s_class_of) .none kV15 dc15 pm15 an15 cd15 ct15), sl15⟩) (e15 : PySem.W.codeIn K cd15 "class_of" = true) (k15 : PySem.W.keepIn K (.ref f15) = true)
    (a16 : PySem.W.nsIn K mainGlobals "_law_is_grid" = some (some (.ref f16))) (l16 : K.lookup f16 = some ⟨oc16, od16, .func (PySem.W.fnOf "_law_is_grid" "_law_is_grid" (defArgs s__law_is_grid) (defBody s__law_is_grid) (defScope s__law_is_grid) .none kV16 dc16 pm16 an16 cd16 ct16), sl16⟩) (e16 : PySem.W.codeIn K cd16 "_law_is_grid" = true) (k16 : PySem.W.keepIn K (.ref f16) = true)
    (a17 : PySem.W.nsIn K mainGlobals "law" = some (some (.ref f17))) (l17 : K.lookup f17 = some ⟨oc17, od17, .func (PySem.W.fnOf "law" "law" (defArgs s_law) (defBody s_law) (defScope s_law) .none kV17 dc17 pm17 an17 cd17 ct17), sl17⟩) (e17 : PySem.W.codeIn K cd17 "law" = true) (k17 : PySem.W.keepIn K (.ref f17) = true)
    (z_abs : PySem.W.nsIn K mainGlobals "abs" = some none) (z_all : PySem.W.nsIn K mainGlobals "all" = some none) (z_bool : PySem.W.nsIn K mainGlobals "bool" = some none) (z_int : PySem.W.nsIn K mainGlobals "int" = some none) (z_isinstance : PySem.W.nsIn K mainGlobals "isinstance" = some none) (z_len : PySem.W.nsIn K mainGlobals "len" = some none) (z_list : PySem.W.nsIn K mainGlobals "list" = some none) (z_range : PySem.W.nsIn K mainGlobals "range" = some none) (z_str : PySem.W.nsIn K mainGlobals "str" = some none) (z_tuple : PySem.W.nsIn K mainGlobals "tuple" = some none)
    {ty_CELLS : Tok} (y_CELLS : PySem.W.nsIn K mainGlobals "CELLS" = some (some (.int 400 ty_CELLS)))
    {ty_FAR : Tok} (y_FAR : PySem.W.nsIn K mainGlobals "FAR" = some (some (.int 1000 ty_FAR)))
    : ∃ fd : FuncData, (∀ (s : Shared) (v : Value), BindsTo s fd ⟨[v], []⟩ [("script", v)]) ∧ ∀ base : Heap, K.In base → base.Ns mainGlobals mg → FnOk l.prog w K mg base CX0 9 fa fd ["script"] (spLaw K) := by
  have e := hfa.symm.trans (PySem.W.mg_of X G a17)
  cases e
  have T : TB mg := ⟨PySem.W.mg_none_of X G z_abs, PySem.W.mg_none_of X G z_all, PySem.W.mg_none_of X G z_bool, PySem.W.mg_none_of X G z_int, PySem.W.mg_none_of X G z_isinstance, PySem.W.mg_none_of X G z_len, PySem.W.mg_none_of X G z_list, PySem.W.mg_none_of X G z_range, PySem.W.mg_none_of X G z_str, PySem.W.mg_none_of X G z_tuple, ⟨_, PySem.W.mg_of X G y_CELLS⟩, ⟨_, PySem.W.mg_of X G y_FAR⟩⟩
  have Fl := fun_mk (st := s_law) l17 e17 k17
  have D0 : Dn K mg "_law_cup" s__law_cup ["script"] := ⟨_, _, PySem.W.mg_of X G a0, fun_mk (st := s__law_cup) l0 e0 k0, (fun_mk (st := s__law_cup) l0 e0 k0).binds (ps := ["script"]) fun _ _ _ _ _ _ us hl => match us, hl with | [_], _ => rfl⟩
  have D1 : Dn K mg "_law_roll" s__law_roll ["cup", "many"] := ⟨_, _, PySem.W.mg_of X G a1, fun_mk (st := s__law_roll) l1 e1 k1, (fun_mk (st := s__law_roll) l1 e1 k1).binds (ps := ["cup", "many"]) fun _ _ _ _ _ _ us hl => match us, hl with | [_, _], _ => rfl⟩
  have D2 : Dn K mg "_law_some" s__law_some ["cup", "things"] := ⟨_, _, PySem.W.mg_of X G a2, fun_mk (st := s__law_some) l2 e2 k2, (fun_mk (st := s__law_some) l2 e2 k2).binds (ps := ["cup", "things"]) fun _ _ _ _ _ _ us hl => match us, hl with | [_, _], _ => rfl⟩
  have D3 : Dn K mg "_law_grids" s__law_grids ["many"] := ⟨_, _, PySem.W.mg_of X G a3, fun_mk (st := s__law_grids) l3 e3 k3, (fun_mk (st := s__law_grids) l3 e3 k3).binds (ps := ["many"]) fun _ _ _ _ _ _ us hl => match us, hl with | [_], _ => rfl⟩
  have D4 : Dn K mg "_law_grid" s__law_grid ["cup", "most"] := ⟨_, _, PySem.W.mg_of X G a4, fun_mk (st := s__law_grid) l4 e4 k4, (fun_mk (st := s__law_grid) l4 e4 k4).binds (ps := ["cup", "most"]) fun _ _ _ _ _ _ us hl => match us, hl with | [_, _], _ => rfl⟩
  have D5 : Dn K mg "_law_class" s__law_class ["grid", "cell"] := ⟨_, _, PySem.W.mg_of X G a5, fun_mk (st := s__law_class) l5 e5 k5, (fun_mk (st := s__law_class) l5 e5 k5).binds (ps := ["grid", "cell"]) fun _ _ _ _ _ _ us hl => match us, hl with | [_, _], _ => rfl⟩
  have D6 : Dn K mg "_law_same" s__law_same ["told", "due"] := ⟨_, _, PySem.W.mg_of X G a6, fun_mk (st := s__law_same) l6 e6 k6, (fun_mk (st := s__law_same) l6 e6 k6).binds (ps := ["told", "due"]) fun _ _ _ _ _ _ us hl => match us, hl with | [_, _], _ => rfl⟩
  have D7 : Dn K mg "is_tuple_of" s_is_tuple_of ["value", "least", "most"] := ⟨_, _, PySem.W.mg_of X G a7, fun_mk (st := s_is_tuple_of) l7 e7 k7, (fun_mk (st := s_is_tuple_of) l7 e7 k7).binds (ps := ["value", "least", "most"]) fun _ _ _ _ _ _ us hl => match us, hl with | [_, _, _], _ => rfl⟩
  have D8 : Dn K mg "fits_whole" s_fits_whole ["value", "low", "high"] := ⟨_, _, PySem.W.mg_of X G a8, fun_mk (st := s_fits_whole) l8 e8 k8, (fun_mk (st := s_fits_whole) l8 e8 k8).binds (ps := ["value", "low", "high"]) fun _ _ _ _ _ _ us hl => match us, hl with | [_, _, _], _ => rfl⟩
  have D9 : Dn K mg "fits_grid" s_fits_grid ["value"] := ⟨_, _, PySem.W.mg_of X G a9, fun_mk (st := s_fits_grid) l9 e9 k9, (fun_mk (st := s_fits_grid) l9 e9 k9).binds (ps := ["value"]) fun _ _ _ _ _ _ us hl => match us, hl with | [_], _ => rfl⟩
  have D10 : Dn K mg "is_grid" s_is_grid ["value"] := ⟨_, _, PySem.W.mg_of X G a10, fun_mk (st := s_is_grid) l10 e10 k10, (fun_mk (st := s_is_grid) l10 e10 k10).binds (ps := ["value"]) fun _ _ _ _ _ _ us hl => match us, hl with | [_], _ => rfl⟩
  have D11 : Dn K mg "grids_in" s_grids_in ["many"] := ⟨_, _, PySem.W.mg_of X G a11, fun_mk (st := s_grids_in) l11 e11 k11, (fun_mk (st := s_grids_in) l11 e11 k11).binds (ps := ["many"]) fun _ _ _ _ _ _ us hl => match us, hl with | [_], _ => rfl⟩
  have D12 : Dn K mg "grids" s_grids ["many"] := ⟨_, _, PySem.W.mg_of X G a12, fun_mk (st := s_grids) l12 e12 k12, (fun_mk (st := s_grids) l12 e12 k12).binds (ps := ["many"]) fun _ _ _ _ _ _ us hl => match us, hl with | [_], _ => rfl⟩
  have D13 : Dn K mg "need_far_cell" s_need_far_cell ["cell"] := ⟨_, _, PySem.W.mg_of X G a13, fun_mk (st := s_need_far_cell) l13 e13 k13, (fun_mk (st := s_need_far_cell) l13 e13 k13).binds (ps := ["cell"]) fun _ _ _ _ _ _ us hl => match us, hl with | [_], _ => rfl⟩
  have D14 : Dn K mg "class_in" s_class_in ["grid", "cell"] := ⟨_, _, PySem.W.mg_of X G a14, fun_mk (st := s_class_in) l14 e14 k14, (fun_mk (st := s_class_in) l14 e14 k14).binds (ps := ["grid", "cell"]) fun _ _ _ _ _ _ us hl => match us, hl with | [_, _], _ => rfl⟩
  have D15 : Dn K mg "class_of" s_class_of ["grid", "cell"] := ⟨_, _, PySem.W.mg_of X G a15, fun_mk (st := s_class_of) l15 e15 k15, (fun_mk (st := s_class_of) l15 e15 k15).binds (ps := ["grid", "cell"]) fun _ _ _ _ _ _ us hl => match us, hl with | [_, _], _ => rfl⟩
  have D16 : Dn K mg "_law_is_grid" s__law_is_grid ["value"] := ⟨_, _, PySem.W.mg_of X G a16, fun_mk (st := s__law_is_grid) l16 e16 k16, (fun_mk (st := s__law_is_grid) l16 e16 k16).binds (ps := ["value"]) fun _ _ _ _ _ _ us hl => match us, hl with | [_], _ => rfl⟩
  refine ⟨PySem.W.fnOf "law" "law" (defArgs s_law) (defBody s_law) (defScope s_law) .none kV17 dc17 pm17 an17 cd17 ct17, fun s v => .of_eq rfl, fun base _ _ => ?_⟩
  have c__law_cup := okc__law_cup (P := l.prog) (w := w) (base := base) T  D0
  have c__law_roll := okc__law_roll (P := l.prog) (w := w) (base := base) T  D1
  have c__law_some := okc__law_some (P := l.prog) (w := w) (base := base) T c__law_roll D2
  have c__law_grids := okc__law_grids (P := l.prog) (w := w) (base := base) T  D3
  have c__law_grid := okc__law_grid (P := l.prog) (w := w) (base := base) T c__law_some c__law_grids c__law_roll D4
  have c__law_class := okc__law_class (P := l.prog) (w := w) (base := base) T  D5
  have c__law_same := okc__law_same (P := l.prog) (w := w) (base := base) T  D6
  have c_is_tuple_of := okc_is_tuple_of (P := l.prog) (w := w) (base := base) T  D7
  have c_fits_whole := okc_fits_whole (P := l.prog) (w := w) (base := base) T  D8
  have c_fits_grid := okc_fits_grid (P := l.prog) (w := w) (base := base) T c_is_tuple_of c_fits_whole D9
  have c_is_grid := okc_is_grid (P := l.prog) (w := w) (base := base) T c_fits_grid D10
  have c_grids_in := okc_grids_in (P := l.prog) (w := w) (base := base) T  D11
  have c_grids := okc_grids (P := l.prog) (w := w) (base := base) T c_fits_whole c_grids_in D12
  have c_need_far_cell := okc_need_far_cell (P := l.prog) (w := w) (base := base) T c_is_tuple_of c_fits_whole D13
  have c_class_in := okc_class_in (P := l.prog) (w := w) (base := base) T  D14
  have c_class_of := okc_class_of (P := l.prog) (w := w) (base := base) T c_need_far_cell c_class_in c_fits_grid D15
  have c__law_is_grid := okc__law_is_grid (P := l.prog) (w := w) (base := base) T  D16
  have c_law := okc_law (P := l.prog) (w := w) (base := base) T c__law_cup c__law_grid c__law_some c__law_class c__law_roll c__law_same c_is_grid c_grids c_class_of c__law_grids c__law_is_grid Fl
  exact law_ok c_law law_true
theorem walk {l : PySem.W.OpenLaw} {q : Program} {loose : List Str} {XP : (Str → Option Value) → Heap → Prop} {YP : World → Heap → Prop} {d : DefRec} {K : Params → PySem.W.Frag} (hn : l.most = some 63) (hdf : d.params.defaults = [])
    (hY : ∀ (w : World) (h : Heap), YP w h → (K w.params).In h)
    (F : ∀ (w : World) (mg : Str → Option Value) (fa : Addr) (h : Heap), (K w.params).In h → h.Ns mainGlobals mg → mg d.name = some (.ref fa) →
      ∃ fd : FuncData, (∀ (s : Shared) (u : Value), BindsTo s fd ⟨[u], []⟩ [("script", u)]) ∧ ∀ base : Heap, (K w.params).In base → base.Ns mainGlobals mg → FnOk l.prog w (K w.params) mg base CX0 9 fa fd ["script"] (spLaw (K w.params))) :
    PySem.W.WalkO q loose XP YP l.row.toRowW d [] (fun f vs => PySem.call f vs) :=
  L2.walk_of (n := 63) (k := 9) (x := "script") (CX := fun _ => CX0) (sp := fun w => spLaw (K w.params)) hn (by decide) hdf ⟨rfl, by decide, by decide⟩ hY F (fun _ _ a ns hl _ hS => ⟨a, ns, rfl, hS, hl, fun _ => rfl⟩) fun _ _ _ _ _ z => z
end ML
open PySem PySem.W PyProof.Rows
set_option maxRecDepth 100000 in
set_option maxHeartbeats 0 in
theorem PySem.Challenge.cw_cellhall_k20_whole_grids_and_classes_holds : PySem.Challenge.rw_cellhall_k20_whole_grids_and_classes.Holds := by
  w_on; o_law; k_head; (case hw => w_witness2)
  k_fill
  refine ML.walk (l := PySem.Challenge.rw_cellhall_k20_whole_grids_and_classes) rfl rfl (fun w h Y => PySem.W.kIn_of Y) ?F
  case F =>
    intro w mg fa h KX G hmg
    refine' ML.all_mk KX G hmg ?a0 ?l0 ?e0 ?k0 ?a1 ?l1 ?e1 ?k1 ?a2 ?l2 ?e2 ?k2 ?a3 ?l3 ?e3 ?k3 ?a4 ?l4 ?e4 ?k4 ?a5 ?l5 ?e5 ?k5 ?a6 ?l6 ?e6 ?k6 ?a7 ?l7 ?e7 ?k7 ?a8 ?l8 ?e8 ?k8 ?a9 ?l9 ?e9 ?k9 ?a10 ?l10 ?e10 ?k10 ?a11 ?l11 ?e11 ?k11 ?a12 ?l12 ?e12 ?k12 ?a13 ?l13 ?e13 ?k13 ?a14 ?l14 ?e14 ?k14 ?a15 ?l15 ?e15 ?k15 ?a16 ?l16 ?e16 ?k16 ?a17 ?l17 ?e17 ?k17 ?z_abs ?z_all ?z_bool ?z_int ?z_isinstance ?z_len ?z_list ?z_range ?z_str ?z_tuple ?y_CELLS ?y_FAR
    (case a0 => k_is); (case l0 => k_is); (case e0 => k_is); (case k0 => k_is)
    (case a1 => k_is); (case l1 => k_is); (case e1 => k_is); (case k1 => k_is)
    (case a2 => k_is); (case l2 => k_is); (case e2 => k_is); (case k2 => k_is)
    (case a3 => k_is); (case l3 => k_is); (case e3 => k_is); (case k3 => k_is)
    (case a4 => k_is); (case l4 => k_is); (case e4 => k_is); (case k4 => k_is)
    (case a5 => k_is); (case l5 => k_is); (case e5 => k_is); (case k5 => k_is)
    (case a6 => k_is); (case l6 => k_is); (case e6 => k_is); (case k6 => k_is)
    (case a7 => k_is); (case l7 => k_is); (case e7 => k_is); (case k7 => k_is)
    (case a8 => k_is); (case l8 => k_is); (case e8 => k_is); (case k8 => k_is)
    (case a9 => k_is); (case l9 => k_is); (case e9 => k_is); (case k9 => k_is)
    (case a10 => k_is); (case l10 => k_is); (case e10 => k_is); (case k10 => k_is)
    (case a11 => k_is); (case l11 => k_is); (case e11 => k_is); (case k11 => k_is)
    (case a12 => k_is); (case l12 => k_is); (case e12 => k_is); (case k12 => k_is)
    (case a13 => k_is); (case l13 => k_is); (case e13 => k_is); (case k13 => k_is)
    (case a14 => k_is); (case l14 => k_is); (case e14 => k_is); (case k14 => k_is)
    (case a15 => k_is); (case l15 => k_is); (case e15 => k_is); (case k15 => k_is)
    (case a16 => k_is); (case l16 => k_is); (case e16 => k_is); (case k16 => k_is)
    (case a17 => k_is); (case l17 => k_is); (case e17 => k_is); (case k17 => k_is)
    (case z_abs => k_is)
    (case z_all => k_is)
    (case z_bool => k_is)
    (case z_int => k_is)
    (case z_isinstance => k_is)
    (case z_len => k_is)
    (case z_list => k_is)
    (case z_range => k_is)
    (case z_str => k_is)
    (case z_tuple => k_is)
    (case y_CELLS => k_is)
    (case y_FAR => k_is)
#print axioms PySem.Challenge.cw_cellhall_k20_whole_grids_and_classes_holds
