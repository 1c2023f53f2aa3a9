import PyProof.Rows.All
import Wide.All
import OpenK.AllK
import Wide.FinOn
import HandS.ForMost
import HandS.Exc
import HandS.TupAny
import HandS.Style
import HandS.IsInst
import HandS.DictComp
import HandS.Flow
import HandS.Text
import HandS.Zip
import KE.KDictPairs
import HandS.Conv
import HandS.StrMore
import KE.KDictZip
import KE.GoesEnum
import KE.GoesMore
import HandS.SortKw
import KE.DataMinMax
import KE.KExcSuper
import HandS.ExcInit
import HandS.ExcField
import HandS.TryOnly
import HandS.FStr
import HandS.RaiseMore
import HandS.ReplaceLit
import HandS.ExcOwn
import HandS.Codes
import PySem.Challenge.RW_drivefold_k03_terms_written_and_read
set_option Elab.async false
set_option linter.all false
set_option maxRecDepth 100000
namespace Mi
open PySem PySem.Spec PyProof.Rows L2

/-! ### data, objects, results -/
inductive D where
  | non | bl (b : Bool) | int (i : Int) | str (s : Str) | tup (xs : List D) | fro (xs : List D) | adr (n : Nat)
inductive O where
  | lst (xs : List D) | dct (kvs : List (Key × D)) | ins (c : Str) (fs : List (Str × D))
abbrev Store := List O
structure Exn where
  c : Str
  fs : List (Str × D)
inductive Rs (α : Type) where
  | ok (a : α) (s : Store) | ex (e : Exn) (s : Store) | no
abbrev MEnv := List (Option D)
inductive Out where
  | nx (env : MEnv) (s : Store) | rt (d : D) (s : Store) | bk (env : MEnv) (s : Store) | ct (env : MEnv) (s : Store) | ex (e : Exn) (env : MEnv) (s : Store) | no
abbrev Fx (α : Type) := MEnv → Store → Rs α
abbrev Ex := Fx D
abbrev Sx := MEnv → Store → Out

def Rs.bind {α β : Type} (x : Rs α) (f : α → Store → Rs β) : Rs β := match x with
  | .ok a s => f a s
  | .ex e s => .ex e s
  | .no => .no
@[simp] theorem Rs.bind_ok {α β : Type} (a : α) (s : Store) (f : α → Store → Rs β) : (Rs.ok a s).bind f = f a s := rfl
@[simp] theorem Rs.bind_ex {α β : Type} (e : Exn) (s : Store) (f : α → Store → Rs β) : (Rs.ex e s : Rs α).bind f = .ex e s := rfl
@[simp] theorem Rs.bind_no {α β : Type} (f : α → Store → Rs β) : (Rs.no : Rs α).bind f = .no := rfl
def Rs.ofO {α : Type} : Option (α × Store) → Rs α
  | some (a, s) => .ok a s
  | none => .no
@[simp] theorem Rs.ofO_some {α : Type} (a : α) (s : Store) : Rs.ofO (some (a, s)) = .ok a s := rfl
@[simp] theorem Rs.ofO_none {α : Type} : (Rs.ofO none : Rs α) = .no := rfl

/-! ### the relation to the abstract heap -/
/-- a list that nobody writes -/
def FzL (K : PySem.W.Frag) (H : Hp) (a : Addr) (xs : List V) : Prop :=
  (∃ o, H a = some (.frz o (.lst xs))) ∨
    ∃ (o : Obj) (its : Array Value) (n : Nat), K.lookup a = some o ∧ o.cls = .type "list" ∧ o.dict = none ∧ o.data = .seq its n ∧ its.size ≤ sizeLine ∧ Vals xs its.toList
theorem FzL.seq {K : PySem.W.Frag} {H : Hp} {a : Addr} {xs : List V} (h : FzL K H a xs) : SqL K H a xs := by
  rcases h with ⟨o, h⟩ | h
  · exact .inl (.inr ⟨o, h⟩)
  · exact .inr h
/-- a tuple of which the object is known: made by the program, or standing in the written part -/
def tupO (its : List Value) (n : Nat) : Obj := { cls := .type "tuple", data := .seq its.toArray n }
def TpL (K : PySem.W.Frag) (H : Hp) (a : Addr) (xs : List V) : Prop :=
  (∃ its n, H a = some (.frz (tupO its n) (.tup xs))) ∨ ∃ its n, K.lookup a = some (tupO its n) ∧ its.length ≤ sizeLine ∧ Vals xs its
theorem TpL.seq {K : PySem.W.Frag} {H : Hp} {a : Addr} {xs : List V} (h : TpL K H a xs) : SqT K H a xs := by
  rcases h with ⟨its, n, h⟩ | ⟨its, n, h, hl, hv⟩
  · exact .inl (.inr ⟨_, h⟩)
  · exact .inr ⟨_, its.toArray, n, h, rfl, rfl, by rw [List.size_toArray]; exact hl, hv⟩
mutual
def Rp (K : PySem.W.Frag) (H : Hp) (r : List Addr) : D → V → Prop
  | .non, v => v = .non
  | .bl b, v => v = .bl b
  | .int i, v => v = .int i
  | .str s, v => v = .str s
  | .tup xs, v => ∃ a vs, v = .ref a ∧ TpL K H a vs ∧ RpL K H r xs vs
  | .fro xs, v => ∃ a vs, v = .ref a ∧ FzL K H a vs ∧ RpL K H r xs vs
  | .adr n, v => ∃ a, r[n]? = some a ∧ v = .ref a
def RpL (K : PySem.W.Frag) (H : Hp) (r : List Addr) : List D → List V → Prop
  | [], vs => vs = []
  | d :: ds, vs => ∃ v ws, vs = v :: ws ∧ Rp K H r d v ∧ RpL K H r ds ws
end
/-- what never changes has not changed -/
structure Ext (K : PySem.W.Frag) (H H' : Hp) : Prop where
  t : ∀ a xs, TpL K H a xs → TpL K H' a xs
  f : ∀ a xs, FzL K H a xs → FzL K H' a xs
theorem Ext.refl (K : PySem.W.Frag) (H : Hp) : Ext K H H := ⟨fun _ _ h => h, fun _ _ h => h⟩
theorem Ext.trans {K : PySem.W.Frag} {H H1 H2 : Hp} (a : Ext K H H1) (b : Ext K H1 H2) : Ext K H H2 := ⟨fun x y h => b.t x y (a.t x y h), fun x y h => b.f x y (a.f x y h)⟩
theorem Ext.fresh {K : PySem.W.Frag} {H : Hp} {p : Addr} {o : HO} (h : H p = none) : Ext K H (upd H p o) := by
  refine ⟨fun a xs q => ?_, fun a xs q => ?_⟩
  · rcases q with ⟨i, n, q⟩ | q
    · exact .inl ⟨i, n, by rw [upd_ne (ne_of_none q h)]; exact q⟩
    · exact .inr q
  · rcases q with ⟨u, q⟩ | q
    · exact .inl ⟨u, by rw [upd_ne (ne_of_none q h)]; exact q⟩
    · exact .inr q
/-- what may be written stands at p -/
def Wrt : HO → Prop
  | .tup _ => False
  | .frz _ _ => False
  | _ => True
theorem Ext.write {K : PySem.W.Frag} {H : Hp} {p : Addr} {o u : HO} (h : H p = some u) (m : Wrt u) : Ext K H (upd H p o) := by
  have ne2 : ∀ a ob z, H a = some (.frz ob z) → a ≠ p := fun a ob z q e => by subst e; rw [h] at q; cases q; exact m
  refine ⟨fun a xs q => ?_, fun a xs q => ?_⟩
  · rcases q with ⟨i, n, q⟩ | q
    · exact .inl ⟨i, n, by rw [upd_ne (ne2 _ _ _ q)]; exact q⟩
    · exact .inr q
  · rcases q with ⟨u, q⟩ | q
    · exact .inl ⟨u, by rw [upd_ne (ne2 _ _ _ q)]; exact q⟩
    · exact .inr q

theorem pre_get {r r' : List Addr} (p : r <+: r') {n : Nat} {a : Addr} (h : r[n]? = some a) : r'[n]? = some a := by
  obtain ⟨t, rfl⟩ := p
  rw [List.getElem?_append_left (List.getElem?_eq_some_iff.mp h).1]
  exact h
section
variable {K : PySem.W.Frag} {H H' : Hp} {r r' : List Addr}
mutual
theorem Rp.mono (e : Ext K H H') (p : r <+: r') : ∀ (d : D) (v : V), Rp K H r d v → Rp K H' r' d v
  | .non, v, h => by unfold Rp at h ⊢; exact h
  | .bl b, v, h => by unfold Rp at h ⊢; exact h
  | .int i, v, h => by unfold Rp at h ⊢; exact h
  | .str s, v, h => by unfold Rp at h ⊢; exact h
  | .tup xs, v, h => by
    unfold Rp at h ⊢
    obtain ⟨a, vs, e1, e2, e3⟩ := h
    exact ⟨a, vs, e1, e.t _ _ e2, RpL.mono e p xs vs e3⟩
  | .fro xs, v, h => by
    unfold Rp at h ⊢
    obtain ⟨a, vs, e1, e2, e3⟩ := h
    exact ⟨a, vs, e1, e.f _ _ e2, RpL.mono e p xs vs e3⟩
  | .adr n, v, h => by
    unfold Rp at h ⊢
    obtain ⟨a, e1, e2⟩ := h
    exact ⟨a, pre_get p e1, e2⟩
theorem RpL.mono (e : Ext K H H') (p : r <+: r') : ∀ (ds : List D) (vs : List V), RpL K H r ds vs → RpL K H' r' ds vs
  | [], vs, h => by unfold RpL at h ⊢; exact h
  | d :: ds, vs, h => by
    unfold RpL at h ⊢
    obtain ⟨v, ws, e1, e2, e3⟩ := h
    exact ⟨v, ws, e1, Rp.mono e p d v e2, RpL.mono e p ds ws e3⟩
end
theorem RpL.nil_iff {vs : List V} : RpL K H r [] vs ↔ vs = [] := by unfold RpL; exact Iff.rfl
theorem RpL.cons_iff {d : D} {ds : List D} {vs : List V} : RpL K H r (d :: ds) vs ↔ ∃ v ws, vs = v :: ws ∧ Rp K H r d v ∧ RpL K H r ds ws := by
  constructor
  · intro h; unfold RpL at h; exact h
  · intro h; unfold RpL; exact h
theorem RpL.length : ∀ {ds : List D} {vs : List V}, RpL K H r ds vs → vs.length = ds.length
  | [], vs, h => by rw [RpL.nil_iff] at h; subst h; rfl
  | d :: ds, vs, h => by
    rw [RpL.cons_iff] at h
    obtain ⟨v, ws, rfl, _, e⟩ := h
    rw [List.length_cons, List.length_cons, RpL.length e]
theorem RpL.get : ∀ {ds : List D} {vs : List V} {i : Nat} {d : D}, RpL K H r ds vs → ds[i]? = some d → ∃ v, vs[i]? = some v ∧ Rp K H r d v
  | [], vs, i, d, h, e => by simp at e
  | d :: ds, vs, 0, d', h, e => by
    rw [RpL.cons_iff] at h
    obtain ⟨v, ws, rfl, q, _⟩ := h
    simp at e; subst e
    exact ⟨v, rfl, q⟩
  | d :: ds, vs, i + 1, d', h, e => by
    rw [RpL.cons_iff] at h
    obtain ⟨v, ws, rfl, _, q⟩ := h
    obtain ⟨u, e1, e2⟩ := RpL.get (i := i) q (by simpa using e)
    exact ⟨u, by simpa using e1, e2⟩
theorem RpL.getV {ds : List D} {vs : List V} {i : Nat} {v : V} (h : RpL K H r ds vs) (e : vs[i]? = some v) : ∃ d, ds[i]? = some d ∧ Rp K H r d v := by
  have hi : i < ds.length := by rw [← h.length]; exact (List.getElem?_eq_some_iff.mp e).1
  obtain ⟨u, e1, e2⟩ := h.get (List.getElem?_eq_getElem hi)
  rw [e] at e1; cases e1
  exact ⟨_, List.getElem?_eq_getElem hi, e2⟩
theorem RpL.append : ∀ {ds es : List D} {vs ws : List V}, RpL K H r ds vs → RpL K H r es ws → RpL K H r (ds ++ es) (vs ++ ws)
  | [], es, vs, ws, h, q => by rw [RpL.nil_iff] at h; subst h; exact q
  | d :: ds, es, vs, ws, h, q => by
    rw [RpL.cons_iff] at h
    obtain ⟨v, us, rfl, a, b⟩ := h
    exact RpL.cons_iff.mpr ⟨v, us ++ ws, rfl, a, RpL.append b q⟩
theorem RpL.take : ∀ (n : Nat) {ds : List D} {vs : List V}, RpL K H r ds vs → RpL K H r (ds.take n) (vs.take n)
  | 0, _, _, _ => by simp [RpL.nil_iff]
  | n + 1, [], vs, h => by rw [RpL.nil_iff] at h; subst h; simp [RpL.nil_iff]
  | n + 1, d :: ds, vs, h => by
    rw [RpL.cons_iff] at h
    obtain ⟨v, us, rfl, a, b⟩ := h
    exact RpL.cons_iff.mpr ⟨v, us.take n, rfl, a, RpL.take n b⟩
theorem RpL.drop : ∀ (n : Nat) {ds : List D} {vs : List V}, RpL K H r ds vs → RpL K H r (ds.drop n) (vs.drop n)
  | 0, _, _, h => h
  | n + 1, [], vs, h => by rw [RpL.nil_iff] at h; subst h; simp [RpL.nil_iff]
  | n + 1, d :: ds, vs, h => by
    rw [RpL.cons_iff] at h
    obtain ⟨v, us, rfl, a, b⟩ := h
    exact RpL.drop n b
theorem RpL.set : ∀ (i : Nat) {ds : List D} {vs : List V} {d : D} {v : V}, RpL K H r ds vs → Rp K H r d v → RpL K H r (ds.set i d) (vs.set i v)
  | i, [], vs, d, v, h, q => by rw [RpL.nil_iff] at h; subst h; simp [RpL.nil_iff]
  | 0, e :: ds, vs, d, v, h, q => by
    rw [RpL.cons_iff] at h
    obtain ⟨u, us, rfl, a, b⟩ := h
    exact RpL.cons_iff.mpr ⟨v, us, rfl, q, b⟩
  | i + 1, e :: ds, vs, d, v, h, q => by
    rw [RpL.cons_iff] at h
    obtain ⟨u, us, rfl, a, b⟩ := h
    exact RpL.cons_iff.mpr ⟨u, us.set i v, rfl, a, RpL.set i b q⟩
theorem RpL.reverse : ∀ {ds : List D} {vs : List V}, RpL K H r ds vs → RpL K H r ds.reverse vs.reverse
  | [], vs, h => by rw [RpL.nil_iff] at h; subst h; simp [RpL.nil_iff]
  | d :: ds, vs, h => by
    rw [RpL.cons_iff] at h
    obtain ⟨v, us, rfl, a, b⟩ := h
    rw [List.reverse_cons, List.reverse_cons]
    exact RpL.append (RpL.reverse b) (RpL.cons_iff.mpr ⟨v, [], rfl, a, RpL.nil_iff.mpr rfl⟩)
theorem RpL.dropLast {ds : List D} {vs : List V} (h : RpL K H r ds vs) : RpL K H r ds.dropLast vs.dropLast := by
  rw [List.dropLast_eq_take, List.dropLast_eq_take, h.length]
  exact h.take _
theorem RpL.one {d : D} {v : V} (h : Rp K H r d v) : RpL K H r [d] [v] := RpL.cons_iff.mpr ⟨v, [], rfl, h, RpL.nil_iff.mpr rfl⟩
theorem RpL.nil : RpL K H r [] [] := RpL.nil_iff.mpr rfl
theorem RpL.cons {d : D} {v : V} {ds : List D} {vs : List V} (h : Rp K H r d v) (t : RpL K H r ds vs) : RpL K H r (d :: ds) (v :: vs) := RpL.cons_iff.mpr ⟨v, vs, rfl, h, t⟩
theorem Rp.non_iff {v : V} : Rp K H r .non v ↔ v = .non := by unfold Rp; exact Iff.rfl
theorem Rp.bl_iff {b : Bool} {v : V} : Rp K H r (.bl b) v ↔ v = .bl b := by unfold Rp; exact Iff.rfl
theorem Rp.int_iff {b : Int} {v : V} : Rp K H r (.int b) v ↔ v = .int b := by unfold Rp; exact Iff.rfl
theorem Rp.str_iff {b : Str} {v : V} : Rp K H r (.str b) v ↔ v = .str b := by unfold Rp; exact Iff.rfl
theorem Rp.tup_iff {xs : List D} {v : V} : Rp K H r (.tup xs) v ↔ ∃ a vs, v = .ref a ∧ TpL K H a vs ∧ RpL K H r xs vs := by
  constructor
  · intro h; unfold Rp at h; exact h
  · intro h; unfold Rp; exact h
theorem Rp.fro_iff {xs : List D} {v : V} : Rp K H r (.fro xs) v ↔ ∃ a vs, v = .ref a ∧ FzL K H a vs ∧ RpL K H r xs vs := by
  constructor
  · intro h; unfold Rp at h; exact h
  · intro h; unfold Rp; exact h
theorem Rp.adr_iff {n : Nat} {v : V} : Rp K H r (.adr n) v ↔ ∃ a, r[n]? = some a ∧ v = .ref a := by unfold Rp; exact Iff.rfl

/-! ### objects -/
/-- pairs -/
def RpP {α : Type} (K : PySem.W.Frag) (H : Hp) (r : List Addr) (ps : List (α × D)) (ws : List (α × V)) : Prop := ps.map (·.1) = ws.map (·.1) ∧ RpL K H r (ps.map (·.2)) (ws.map (·.2))
theorem RpP.mono {α : Type} {ps : List (α × D)} {ws : List (α × V)} (e : Ext K H H') (p : r <+: r') (h : RpP K H r ps ws) : RpP K H' r' ps ws := ⟨h.1, RpL.mono e p _ _ h.2⟩
end
def Ob (K : PySem.W.Frag) (mg : Str → Option Value) (H : Hp) (r : List Addr) (a : Addr) : O → Prop
  | .lst xs => ∃ vs, H a = some (.lst vs) ∧ RpL K H r xs vs
  | .dct kvs => ∃ ws, H a = some (.dK ws) ∧ RpP K H r kvs ws
  | .ins c fs => ∃ C dx ws, mg c = some (.ref C) ∧ H a = some (.ins C dx ws) ∧ RpP K H r fs ws
structure HR (K : PySem.W.Frag) (mg : Str → Option Value) (H : Hp) (r : List Addr) (st : Store) : Prop where
  len : r.length = st.length
  nd : r.Nodup
  ob : ∀ (n : Nat) (a : Addr) (o : O), r[n]? = some a → st[n]? = some o → Ob K mg H r a o
section
variable {K : PySem.W.Frag} {mg : Str → Option Value} {H H' : Hp} {r r' : List Addr} {st : Store}
theorem Ob.has {a : Addr} {o : O} (h : Ob K mg H r a o) : ∃ u, H a = some u ∧ Wrt u := by
  cases o with
  | lst xs => obtain ⟨vs, e, _⟩ := h; exact ⟨_, e, trivial⟩
  | dct kvs => obtain ⟨vs, e, _⟩ := h; exact ⟨_, e, trivial⟩
  | ins c fs => obtain ⟨C, dx, ws, _, e, _⟩ := h; exact ⟨_, e, trivial⟩
theorem Ob.mono {a : Addr} {o : O} (h : Ob K mg H r a o) (e : Ext K H H') (p : r <+: r') (k : H' a = H a) : Ob K mg H' r' a o := by
  cases o with
  | lst xs => obtain ⟨vs, e1, e2⟩ := h; exact ⟨vs, k.trans e1, RpL.mono e p _ _ e2⟩
  | dct kvs => obtain ⟨vs, e1, e2⟩ := h; exact ⟨vs, k.trans e1, e2.mono e p⟩
  | ins c fs => obtain ⟨C, dx, ws, e0, e1, e2⟩ := h; exact ⟨C, dx, ws, e0, k.trans e1, e2.mono e p⟩
theorem HR.at (h : HR K mg H r st) {n : Nat} {o : O} (e : st[n]? = some o) : ∃ a, r[n]? = some a ∧ Ob K mg H r a o := by
  have hn : n < r.length := by rw [h.len]; exact (List.getElem?_eq_some_iff.mp e).1
  exact ⟨_, List.getElem?_eq_getElem hn, h.ob n _ o (List.getElem?_eq_getElem hn) e⟩
theorem HR.has (h : HR K mg H r st) {n : Nat} {a : Addr} (e : r[n]? = some a) : ∃ u, H a = some u ∧ Wrt u := by
  have hn : n < st.length := by rw [← h.len]; exact (List.getElem?_eq_some_iff.mp e).1
  exact (h.ob n a _ e (List.getElem?_eq_getElem hn)).has
theorem HR.inj (h : HR K mg H r st) {n m : Nat} {a : Addr} (e : r[n]? = some a) (e' : r[m]? = some a) : n = m := by
  obtain ⟨h1, q1⟩ := List.getElem?_eq_some_iff.mp e
  obtain ⟨h2, q2⟩ := List.getElem?_eq_some_iff.mp e'
  exact (List.getElem_inj h.nd).mp (q1.trans q2.symm)
/-- a heap that has the same written objects -/
theorem HR.keep (h : HR K mg H r st) (e : Ext K H H') (k : ∀ a ∈ r, H' a = H a) : HR K mg H' r st :=
  ⟨h.len, h.nd, fun n a o e1 e2 => (h.ob n a o e1 e2).mono e (List.prefix_refl _) (k a (List.mem_of_getElem? e1))⟩
/-- a new object that the store does not know -/
theorem HR.tup (h : HR K mg H r st) {p : Addr} {o : HO} (n : H p = none) : HR K mg (upd H p o) r st :=
  h.keep (Ext.fresh n) fun a ha => by
    obtain ⟨i, hi⟩ := List.getElem?_of_mem ha
    obtain ⟨u, q, _⟩ := h.has hi
    exact upd_ne (ne_of_none q n)
/-- a new object -/
theorem HR.new (h : HR K mg H r st) {p : Addr} {u : HO} {o : O} (n : H p = none) (hb : Ob K mg (upd H p u) (r ++ [p]) p o) : HR K mg (upd H p u) (r ++ [p]) (st ++ [o]) := by
  have np : ∀ a ∈ r, a ≠ p := fun a ha => by
    obtain ⟨i, hi⟩ := List.getElem?_of_mem ha
    obtain ⟨u, q, _⟩ := h.has hi
    exact ne_of_none q n
  refine ⟨by rw [List.length_append, List.length_append, h.len]; rfl, ?_, fun i a b e1 e2 => ?_⟩
  · rw [List.nodup_append]
    refine ⟨h.nd, by simp, fun a ha b hb => ?_⟩
    rw [List.mem_singleton] at hb
    subst hb
    exact np a ha
  · by_cases hi : i < r.length
    · rw [List.getElem?_append_left hi] at e1
      rw [List.getElem?_append_left (by rw [← h.len]; exact hi)] at e2
      exact (h.ob i a b e1 e2).mono (Ext.fresh n) ⟨_, rfl⟩ (upd_ne (np a (List.mem_of_getElem? e1)))
    · have hi2 : i = r.length := by
        have := (List.getElem?_eq_some_iff.mp e1).1
        rw [List.length_append, List.length_singleton] at this
        omega
      subst hi2
      rw [List.getElem?_append_right (Nat.le_refl _), Nat.sub_self] at e1
      rw [h.len, List.getElem?_append_right (Nat.le_refl _), Nat.sub_self] at e2
      simp at e1 e2
      subst e1 e2
      exact hb
/-- an object is written -/
theorem HR.put (h : HR K mg H r st) {n : Nat} {a : Addr} {u : HO} {o : O} (e : r[n]? = some a) (hb : Ob K mg (upd H a u) r a o) : HR K mg (upd H a u) r (st.set n o) := by
  obtain ⟨u0, q0, w0⟩ := h.has e
  refine ⟨by rw [List.length_set]; exact h.len, h.nd, fun i b c e1 e2 => ?_⟩
  by_cases hi : n = i
  · subst hi
    rw [e] at e1; cases e1
    have hlt : n < st.length := by rw [← h.len]; exact (List.getElem?_eq_some_iff.mp e).1
    rw [List.getElem?_set_self hlt] at e2
    cases e2
    exact hb
  · rw [List.getElem?_set_ne hi] at e2
    have hba : b ≠ a := fun z => hi (h.inj e (z ▸ e1))
    exact (h.ob i b c e1 e2).mono (Ext.write q0 w0) (List.prefix_refl _) (upd_ne hba)
end
/-- the frame's slots -/
structure ER (K : PySem.W.Frag) (H : Hp) (r : List Addr) (env : MEnv) (σ : L2.St) : Prop where
  len : env.length = σ.length
  at_ : ∀ (i : Nat) (d : D), env[i]? = some (some d) → ∃ v, σ[i]? = some (some v) ∧ Rp K H r d v
theorem ER.mono {K : PySem.W.Frag} {H H' : Hp} {r r' : List Addr} {env : MEnv} {σ : L2.St} (h : ER K H r env σ) (e : Ext K H H') (p : r <+: r') : ER K H' r' env σ :=
  ⟨h.len, fun i d q => let ⟨v, a, b⟩ := h.at_ i d q; ⟨v, a, Rp.mono e p d v b⟩⟩
theorem ER.set {K : PySem.W.Frag} {H : Hp} {r : List Addr} {env : MEnv} {σ : L2.St} (h : ER K H r env σ) (i : Nat) {d : D} {v : V} (q : Rp K H r d v) : ER K H r (env.set i (some d)) (σ.set i (some v)) := by
  refine ⟨by rw [List.length_set, List.length_set]; exact h.len, fun j e he => ?_⟩
  by_cases hj : i = j
  · subst hj
    by_cases hl : i < env.length
    · rw [List.getElem?_set_self hl] at he
      cases he
      exact ⟨v, by rw [List.getElem?_set_self (by rw [← h.len]; exact hl)], q⟩
    · rw [List.getElem?_eq_none (by rw [List.length_set]; omega)] at he
      cases he
  · rw [List.getElem?_set_ne hj] at he
    rw [List.getElem?_set_ne hj]
    exact h.at_ j e he
theorem ER.setN {K : PySem.W.Frag} {H : Hp} {r : List Addr} {env : MEnv} {σ : L2.St} (h : ER K H r env σ) (i : Nat) : ER K H r (env.set i none) (σ.set i none) := by
  refine ⟨by rw [List.length_set, List.length_set]; exact h.len, fun j e he => ?_⟩
  by_cases hj : i = j
  · subst hj
    by_cases hl : i < env.length
    · rw [List.getElem?_set_self hl] at he
      cases he
    · rw [List.getElem?_eq_none (by rw [List.length_set]; omega)] at he
      cases he
  · rw [List.getElem?_set_ne hj] at he
    rw [List.getElem?_set_ne hj]
    exact h.at_ j e he

/-! ### exceptions -/
def ExR (K : PySem.W.Frag) (mg : Str → Option Value) (H : Hp) (r : List Addr) (e : Exn) (c : Value) (d : Option Addr) : Prop :=
  ∃ C, mg e.c = some (.ref C) ∧ c = .ref C ∧ (e.fs ≠ [] → ∃ dx ws, d = some dx ∧ H dx = some (.xd ws) ∧ RpP K H r e.fs ws)

/-! ### what an expression, a statement is worth -/
def Grow (K : PySem.W.Frag) (mg : Str → Option Value) (H : Hp) (r : List Addr) (st' : Store) (H' : Hp) (r' : List Addr) : Prop := Ext K H H' ∧ r <+: r' ∧ HR K mg H' r' st'
theorem Grow.trans {K : PySem.W.Frag} {mg : Str → Option Value} {H H1 H2 : Hp} {r r1 r2 : List Addr} {s1 s2 : Store} (a : Grow K mg H r s1 H1 r1) (b : Grow K mg H1 r1 s2 H2 r2) : Grow K mg H r s2 H2 r2 :=
  ⟨a.1.trans b.1, a.2.1.trans b.2.1, b.2.2⟩
theorem Grow.refl {K : PySem.W.Frag} {mg : Str → Option Value} {H : Hp} {r : List Addr} {st : Store} (h : HR K mg H r st) : Grow K mg H r st H r := ⟨Ext.refl _ _, List.prefix_refl _, h⟩
def PstG {α β : Type} (K : PySem.W.Frag) (mg : Str → Option Value) (W : WX) (R : Hp → List Addr → α → β → Prop) (H : Hp) (r : List Addr) (σ : L2.St) (z : Rs α) (Q : β → Hp → Prop) : Prop :=
  match z with
  | .ok a st' => ∀ v H' r', Grow K mg H r st' H' r' → R H' r' a v → Q v H'
  | .ex e st' => ∀ c d H' r', Grow K mg H r st' H' r' → ExR K mg H' r' e c d → W c d σ H'
  | .no => False
theorem PstG.base {α β : Type} {K : PySem.W.Frag} {mg : Str → Option Value} {W : WX} {R : Hp → List Addr → α → β → Prop} {H H1 : Hp} {r r1 : List Addr} {s1 : Store} {σ : L2.St} {z : Rs α} {Q : β → Hp → Prop}
    (h : PstG K mg W R H r σ z Q) (g : Grow K mg H r s1 H1 r1) : PstG K mg W R H1 r1 σ z Q := by
  cases z with
  | ok a st' => exact fun v H' r' g' q => h v H' r' (g.trans g') q
  | ex e st' => exact fun c d H' r' g' q => h c d H' r' (g.trans g') q
  | no => exact h
def tG {α β : Type} (X : Cx) (W : WX) (R : Hp → List Addr → α → β → Prop) (f : Fx α) : L2.St → Hp → (β → Hp → Prop) → Prop := fun σ H Q =>
  ∃ env r st, ER X.K H r env σ ∧ HR X.K X.mg H r st ∧ PstG X.K X.mg W R H r σ (f env st) Q
abbrev RV (X : Cx) : Hp → List Addr → D → V → Prop := fun H r d v => Rp X.K H r d v
abbrev RVs (X : Cx) : Hp → List Addr → List D → List V → Prop := fun H r d v => RpL X.K H r d v
abbrev RB : Hp → List Addr → Bool → Bool → Prop := fun _ _ b c => c = b
abbrev tM (X : Cx) (W : WX) (f : Ex) : TE := tG X W (RV X) f
abbrev tT (X : Cx) (W : WX) (f : Fx Bool) : TT := tG X W RB f
abbrev tA (X : Cx) (W : WX) (f : Fx (List D)) : TA := tG X W (RVs X) f
/-- a value on the way: the rest k is to be done from it -/
def Mid {α β γ δ : Type} (X : Cx) (W : WX) (R : Hp → List Addr → α → β → Prop) (R' : Hp → List Addr → γ → δ → Prop) (σ : L2.St) (k : α → Fx γ) (Q : δ → Hp → Prop) (x : β) (H : Hp) : Prop :=
  ∃ env r st a, ER X.K H r env σ ∧ HR X.K X.mg H r st ∧ R H r a x ∧ PstG X.K X.mg W R' H r σ (k a env st) Q
theorem tG_bind {α β γ δ : Type} {X : Cx} {W : WX} {R : Hp → List Addr → α → β → Prop} {R' : Hp → List Addr → γ → δ → Prop} {σ : L2.St} {H : Hp} {f : Fx α} {k : α → Fx γ} {Q : δ → Hp → Prop}
    (h : tG X W R' (fun env st => (f env st).bind fun a st' => k a env st') σ H Q) : tG X W R f σ H (Mid X W R R' σ k Q) := by
  obtain ⟨env, r, st, er, hr, p⟩ := h
  refine ⟨env, r, st, er, hr, ?_⟩
  cases e : f env st with
  | ok a st' =>
    dsimp only at p
    rw [e] at p
    exact fun v H' r' g q => ⟨env, r', st', a, er.mono g.1 g.2.1, g.2.2, q, PstG.base p g⟩
  | ex x st' =>
    dsimp only at p
    rw [e] at p
    exact p
  | no =>
    dsimp only at p
    rw [e] at p
    exact p
theorem Mid.go {α β γ δ : Type} {X : Cx} {W : WX} {R : Hp → List Addr → α → β → Prop} {R' : Hp → List Addr → γ → δ → Prop} {σ : L2.St} {k : α → Fx γ} {Q : δ → Hp → Prop} {x : β} {H : Hp} (h : Mid X W R R' σ k Q x H) :
    ∃ r a, R H r a x ∧ tG X W R' (fun env st => k a env st) σ H Q := by
  obtain ⟨env, r, st, a, er, hr, q, p⟩ := h
  exact ⟨r, a, q, env, r, st, er, hr, p⟩
theorem PE.imp {X : Cx} {e : Expr} {t t' : TE} (h : PE X e t) (i : ∀ σ H Q, t' σ H Q → t σ H Q) : PE X e t' := ⟨fun pins s σ H Q I q => h.run pins s σ H Q I (i _ _ _ q)⟩
theorem PT.imp {X : Cx} {e : Expr} {t t' : TT} (h : PT X e t) (i : ∀ σ H Q, t' σ H Q → t σ H Q) : PT X e t' := ⟨fun pins s σ H Q I q => h.run pins s σ H Q I (i _ _ _ q)⟩
theorem PW.imp {X : Cx} {e : Expr} {t t' : TT} (h : PW X e t) (i : ∀ σ H Q, t' σ H Q → t σ H Q) : PW X e t' := ⟨fun wh pins s σ H Q I q => h.run wh pins s σ H Q I (i _ _ _ q)⟩
theorem PA.imp {X : Cx} {e : List Expr} {t t' : TA} (h : PA X e t) (i : ∀ σ H Q, t' σ H Q → t σ H Q) : PA X e t' := ⟨fun pos pins s σ H Q I q => h.run pos pins s σ H Q I (i _ _ _ q)⟩
theorem PS.imp {X : Cx} {e : Stmt} {t t' : TS} (h : PS X e t) (i : ∀ σ H Q, t' σ H Q → t σ H Q) : PS X e t' := ⟨fun pins s σ H Q I q => h.run pins s σ H Q I (i _ _ _ q)⟩
theorem PSs.imp {X : Cx} {e : List Stmt} {t t' : TS} (h : PSs X e t) (i : ∀ σ H Q, t' σ H Q → t σ H Q) : PSs X e t' := ⟨fun pins s σ H Q I q => h.run pins s σ H Q I (i _ _ _ q)⟩
abbrev PEm (X : Cx) (W : WX) (e : Expr) (f : Ex) : Prop := PE X e (tM X W f)
abbrev PTm (X : Cx) (W : WX) (e : Expr) (f : Fx Bool) : Prop := PT X e (tT X W f)
abbrev PAm (X : Cx) (W : WX) (e : List Expr) (f : Fx (List D)) : Prop := PA X e (tA X W f)
/-- a result -/
theorem tG_ok {α β : Type} {X : Cx} {W : WX} {R : Hp → List Addr → α → β → Prop} {σ : L2.St} {H : Hp} {env : MEnv} {r : List Addr} {st : Store} {Q : β → Hp → Prop} {a : α} {st' : Store} {v : β} {H' : Hp} {r' : List Addr}
    (p : PstG X.K X.mg W R H r σ (.ok a st') Q) (g : Grow X.K X.mg H r st' H' r') (q : R H' r' a v) : Q v H' := p v H' r' g q

/-! ### statements -/
def PstS (K : PySem.W.Frag) (mg : Str → Option Value) (W : WX) (H : Hp) (r : List Addr) (z : Out) (Dn : Ends) : Prop :=
  match z with
  | .nx env st => ∀ σ H' r', Grow K mg H r st H' r' → ER K H' r' env σ → Dn.nx σ H'
  | .bk env st => ∀ σ H' r', Grow K mg H r st H' r' → ER K H' r' env σ → Dn.bk σ H'
  | .ct env st => ∀ σ H' r', Grow K mg H r st H' r' → ER K H' r' env σ → Dn.ct σ H'
  | .rt d st => ∀ v H' r', Grow K mg H r st H' r' → Rp K H' r' d v → Dn.rt v H'
  | .ex e env st => ∀ c d σ H' r', Grow K mg H r st H' r' → ER K H' r' env σ → ExR K mg H' r' e c d → W c d σ H'
  | .no => False
theorem PstS.base {K : PySem.W.Frag} {mg : Str → Option Value} {W : WX} {H H1 : Hp} {r r1 : List Addr} {s1 : Store} {z : Out} {Dn : Ends} (h : PstS K mg W H r z Dn) (g : Grow K mg H r s1 H1 r1) : PstS K mg W H1 r1 z Dn := by
  cases z with
  | nx env st => exact fun σ H' r' g' q => h σ H' r' (g.trans g') q
  | bk env st => exact fun σ H' r' g' q => h σ H' r' (g.trans g') q
  | ct env st => exact fun σ H' r' g' q => h σ H' r' (g.trans g') q
  | rt d st => exact fun v H' r' g' q => h v H' r' (g.trans g') q
  | ex e env st => exact fun c d σ H' r' g' q => h c d σ H' r' (g.trans g') q
  | no => exact h
def tSx (X : Cx) (W : WX) (f : Sx) : TS := fun Dn σ H => ∃ env r st, ER X.K H r env σ ∧ HR X.K X.mg H r st ∧ PstS X.K X.mg W H r (f env st) Dn
abbrev PSm (X : Cx) (W : WX) (e : Stmt) (f : Sx) : Prop := PS X e (tSx X W f)
abbrev PSsm (X : Cx) (W : WX) (e : List Stmt) (f : Sx) : Prop := PSs X e (tSx X W f)
/-- an expression's result, then a statement's end -/
def Rs.toOut {α : Type} (x : Rs α) (env : MEnv) (f : α → Store → Out) : Out := match x with
  | .ok a s => f a s
  | .ex e s => .ex e env s
  | .no => .no
@[simp] theorem Rs.toOut_ok {α : Type} (a : α) (s : Store) (env : MEnv) (f : α → Store → Out) : (Rs.ok a s).toOut env f = f a s := rfl
@[simp] theorem Rs.toOut_ex {α : Type} (e : Exn) (s : Store) (env : MEnv) (f : α → Store → Out) : (Rs.ex e s : Rs α).toOut env f = .ex e env s := rfl
@[simp] theorem Rs.toOut_no {α : Type} (env : MEnv) (f : α → Store → Out) : (Rs.no : Rs α).toOut env f = .no := rfl
def MidS {α β : Type} (X : Cx) (W : WX) (R : Hp → List Addr → α → β → Prop) (σ : L2.St) (k : α → Sx) (Dn : Ends) (x : β) (H : Hp) : Prop :=
  ∃ env r st a, ER X.K H r env σ ∧ HR X.K X.mg H r st ∧ R H r a x ∧ PstS X.K X.mg W H r (k a env st) Dn
theorem tS_bind {α β : Type} {X : Cx} {W : WX} {R : Hp → List Addr → α → β → Prop} {σ : L2.St} {H : Hp} {f : Fx α} {k : α → Sx} {Dn : Ends}
    (h : tSx X W (fun env st => (f env st).toOut env fun a st' => k a env st') Dn σ H) : tG X W R f σ H (MidS X W R σ k Dn) := by
  obtain ⟨env, r, st, er, hr, p⟩ := h
  refine ⟨env, r, st, er, hr, ?_⟩
  cases e : f env st with
  | ok a st' =>
    dsimp only at p
    rw [e] at p
    exact fun v H' r' g q => ⟨env, r', st', a, er.mono g.1 g.2.1, g.2.2, q, PstS.base p g⟩
  | ex x st' =>
    dsimp only at p
    rw [e] at p
    exact fun c d H' r' g q => p c d σ H' r' g (er.mono g.1 g.2.1) q
  | no =>
    dsimp only at p
    rw [e] at p
    exact p
end Mi

namespace Mi
open PySem PySem.Spec PyProof.Rows L2

/-! ### == of data -/
mutual
def pur : D → Bool
  | .adr _ => false
  | .fro _ => false
  | .tup xs => purs xs
  | _ => true
def purs : List D → Bool
  | [] => true
  | x :: xs => pur x && purs xs
end
mutual
def dep : D → Nat
  | .tup xs => deps xs + 1
  | _ => 0
def deps : List D → Nat
  | [] => 0
  | x :: xs => max (dep x) (deps xs)
end
mutual
def eqD : D → D → Bool
  | .non, .non => true
  | .bl a, .bl b => a == b
  | .bl a, .int j => (if a then 1 else 0) == j
  | .int i, .bl b => i == (if b then 1 else 0)
  | .int i, .int j => i == j
  | .str x, .str y => x == y
  | .tup xs, .tup ys => eqDs xs ys
  | _, _ => false
def eqDs : List D → List D → Bool
  | [], [] => true
  | x :: xs, y :: ys => eqD x y && eqDs xs ys
  | _, _ => false
end
theorem eqDs_nil_cons (y : D) (ys : List D) : eqDs [] (y :: ys) = false := by unfold eqDs; rfl
theorem eqDs_cons_nil (y : D) (ys : List D) : eqDs (y :: ys) [] = false := by unfold eqDs; rfl
theorem eqDs_nil : eqDs [] [] = true := by unfold eqDs; rfl
theorem eqDs_cons (x y : D) (xs ys : List D) : eqDs (x :: xs) (y :: ys) = (eqD x y && eqDs xs ys) := by rw [eqDs]
theorem eqD_tup (xs ys : List D) : eqD (.tup xs) (.tup ys) = eqDs xs ys := by rw [eqD]
mutual
theorem eqD_refl : ∀ d : D, pur d = true → eqD d d = true
  | .non, _ => by rw [eqD]
  | .bl b, _ => by rw [eqD]; simp
  | .int b, _ => by rw [eqD]; simp
  | .str b, _ => by rw [eqD]; simp
  | .tup xs, h => by
    unfold pur at h
    rw [eqD_tup]
    exact eqDs_refl xs h
  | .adr n, h => by simp [pur] at h
  | .fro n, h => by simp [pur] at h
theorem eqDs_refl : ∀ ds : List D, purs ds = true → eqDs ds ds = true
  | [], _ => eqDs_nil
  | x :: xs, h => by
    unfold purs at h
    rw [Bool.and_eq_true] at h
    rw [eqDs_cons, eqD_refl x h.1, eqDs_refl xs h.2]
    rfl
end
def pairE (xs ys : List D) (j : Nat) : Bool := match xs[j]?, ys[j]? with
  | some a, some b => eqD a b
  | _, _ => false
theorem eqDs_eq : ∀ xs ys : List D, ((List.range (min xs.length ys.length)).all (pairE xs ys) && xs.length == ys.length) = eqDs xs ys
  | [], [] => by rw [eqDs_nil]; rfl
  | [], y :: ys => by rw [eqDs_nil_cons]; simp
  | y :: ys, [] => by rw [eqDs_cons_nil]; simp
  | x :: xs, y :: ys => by
    have ih := eqDs_eq xs ys
    have e1 : min (x :: xs).length (y :: ys).length = min xs.length ys.length + 1 := by simp only [List.length_cons]; omega
    have e2 : ((x :: xs).length == (y :: ys).length) = (xs.length == ys.length) := by simp
    have e3 : (List.range (min xs.length ys.length + 1)).all (pairE (x :: xs) (y :: ys)) = (eqD x y && (List.range (min xs.length ys.length)).all (pairE xs ys)) := by
      rw [List.range_succ_eq_map, List.all_cons, List.all_map]
      rfl
    rw [e1, e2, e3, eqDs_cons, ← ih, Bool.and_assoc]
/-! no bools within -/
mutual
def nob : D → Bool
  | .bl _ => false
  | .tup xs => nobs xs
  | _ => true
def nobs : List D → Bool
  | [] => true
  | x :: xs => nob x && nobs xs
end
mutual
theorem eqD_iff : ∀ d e : D, pur d = true → nob d = true → nob e = true → (eqD d e = true ↔ d = e)
  | .non, e, _, _, h => by cases e <;> simp [eqD, nob] at h ⊢
  | .bl b, e, _, h, _ => by simp [nob] at h
  | .int i, e, _, _, h => by cases e <;> simp [eqD, nob] at h ⊢
  | .str s, e, _, _, h => by cases e <;> simp [eqD, nob] at h ⊢
  | .fro s, e, h, _, _ => by simp [pur] at h
  | .adr s, e, h, _, _ => by simp [pur] at h
  | .tup xs, e, h1, h2, h3 => by
    cases e with
    | tup ys =>
      unfold pur at h1
      unfold nob at h2 h3
      rw [eqD_tup, eqDs_iff xs ys h1 h2 h3]
      simp
    | _ => simp [eqD]
theorem eqDs_iff : ∀ ds es : List D, purs ds = true → nobs ds = true → nobs es = true → (eqDs ds es = true ↔ ds = es)
  | [], [], _, _, _ => by simp [eqDs_nil]
  | [], y :: ys, _, _, _ => by simp [eqDs_nil_cons]
  | y :: ys, [], _, _, _ => by simp [eqDs_cons_nil]
  | x :: xs, y :: ys, h1, h2, h3 => by
    unfold purs at h1
    unfold nobs at h2 h3
    rw [Bool.and_eq_true] at h1 h2 h3
    rw [eqDs_cons, Bool.and_eq_true, eqD_iff x y h1.1 h2.1 h3.1, eqDs_iff xs ys h1.2 h2.2 h3.2]
    simp
end
theorem eqD_dec {d e : D} (h1 : pur d = true) (h2 : nob d = true) (h3 : nob e = true) [Decidable (d = e)] : eqD d e = decide (d = e) := by
  by_cases h : d = e
  · rw [decide_eq_true h]; exact (eqD_iff d e h1 h2 h3).mpr h
  · rw [decide_eq_false h]
    cases q : eqD d e with
    | true => exact absurd ((eqD_iff d e h1 h2 h3).mp q) h
    | false => rfl

section
variable {X : Cx} {pins : List (Addr × Obj)} {σ : L2.St} {H : Hp} {s : Shared} {r : List Addr}
mutual
theorem Rp.inj (I : Inv X pins σ H s) : ∀ (d e : D) (v : V), pur d = true → pur e = true → Rp X.K H r d v → Rp X.K H r e v → d = e
  | .non, e, v, _, h2, q1, q2 => by
    rw [Rp.non_iff] at q1; subst q1
    cases e <;> simp [Rp, pur] at q2 h2 ⊢
  | .bl b, e, v, _, h2, q1, q2 => by
    rw [Rp.bl_iff] at q1; subst q1
    cases e <;> simp [Rp, pur] at q2 h2 ⊢
    exact q2
  | .int b, e, v, _, h2, q1, q2 => by
    rw [Rp.int_iff] at q1; subst q1
    cases e <;> simp [Rp, pur] at q2 h2 ⊢
    exact q2
  | .str b, e, v, _, h2, q1, q2 => by
    rw [Rp.str_iff] at q1; subst q1
    cases e <;> simp [Rp, pur] at q2 h2 ⊢
    exact q2
  | .fro _, e, v, h1, _, _, _ => by simp [pur] at h1
  | .adr _, e, v, h1, _, _, _ => by simp [pur] at h1
  | .tup xs, e, v, h1, h2, q1, q2 => by
    rw [Rp.tup_iff] at q1
    obtain ⟨a, vs, rfl, t1, l1⟩ := q1
    cases e with
    | tup ys =>
      rw [Rp.tup_iff] at q2
      obtain ⟨b, ws, e1, t2, l2⟩ := q2
      cases e1
      have e2 := I.tuple_inj t1.seq t2.seq
      subst e2
      unfold pur at h1 h2
      rw [RpL.inj I xs ys vs h1 h2 l1 l2]
    | non => simp [Rp] at q2
    | bl _ => simp [Rp] at q2
    | int _ => simp [Rp] at q2
    | str _ => simp [Rp] at q2
    | fro _ => simp [pur] at h2
    | adr _ => simp [pur] at h2
theorem RpL.inj (I : Inv X pins σ H s) : ∀ (ds es : List D) (vs : List V), purs ds = true → purs es = true → RpL X.K H r ds vs → RpL X.K H r es vs → ds = es
  | [], [], _, _, _, _, _ => rfl
  | [], y :: ys, vs, _, _, q1, q2 => by
    rw [RpL.nil_iff] at q1; subst q1
    rw [RpL.cons_iff] at q2
    obtain ⟨_, _, e, _⟩ := q2
    cases e
  | y :: ys, [], vs, _, _, q1, q2 => by
    rw [RpL.nil_iff] at q2; subst q2
    rw [RpL.cons_iff] at q1
    obtain ⟨_, _, e, _⟩ := q1
    cases e
  | x :: xs, y :: ys, vs, h1, h2, q1, q2 => by
    unfold purs at h1 h2
    rw [Bool.and_eq_true] at h1 h2
    rw [RpL.cons_iff] at q1 q2
    obtain ⟨v, ws, rfl, a1, b1⟩ := q1
    obtain ⟨v', ws', e, a2, b2⟩ := q2
    cases e
    rw [Rp.inj I x y v h1.1 h2.1 a1 a2, RpL.inj I xs ys ws h1.2 h2.2 b1 b2]
end
theorem roomA {A : Around} {n : Nat} (h : A.units + n < cLine) : A.units < cLine := by omega
mutual
theorem eqAtD (I : Inv X pins σ H s) : ∀ (d e : D) (A : Around) (v w : V) (u t : Value), pur d = true → pur e = true → Rp X.K H r d v → Rp X.K H r e w → RelV v u → RelV w t → A.units + min (dep d) (dep e) < cLine → SeqAt.EqAt A s u t (eqD d e)
  | .non, e, A, v, w, u, t, h1, h2, q1, q2, r1, r2, hu => by
    rw [Rp.non_iff] at q1; subst q1
    cases r1
    cases e with
    | non => rw [Rp.non_iff] at q2; subst q2; cases r2; rw [eqD]; exact SeqAt.EqAt.same _
    | bl b => rw [Rp.bl_iff] at q2; subst q2; cases r2; simp only [eqD]; exact SeqAt.EqAt.none_bool b
    | int b => rw [Rp.int_iff] at q2; subst q2; obtain ⟨k, rfl⟩ := r2; simp only [eqD]; exact SeqAt.EqAt.none_int b k
    | str b => rw [Rp.str_iff] at q2; subst q2; obtain ⟨k, rfl⟩ := r2; simp only [eqD]; exact SeqAt.EqAt.none_str b k
    | tup ys =>
      rw [Rp.tup_iff] at q2
      obtain ⟨b, ws, rfl, t2, l2⟩ := q2
      cases r2
      obtain ⟨its, _, p, _⟩ := I.tuple t2.seq
      simp only [eqD]
      exact SeqAt.EqAt.none_tuple p (roomA hu)
    | fro _ => simp [pur] at h2
    | adr _ => simp [pur] at h2
  | .bl x, e, A, v, w, u, t, h1, h2, q1, q2, r1, r2, hu => by
    rw [Rp.bl_iff] at q1; subst q1
    cases r1
    cases e with
    | non => rw [Rp.non_iff] at q2; subst q2; cases r2; simp only [eqD]; exact SeqAt.EqAt.bool_none x
    | bl b => rw [Rp.bl_iff] at q2; subst q2; cases r2; simp only [eqD]; exact SeqAt.EqAt.bool_bool x b
    | int b => rw [Rp.int_iff] at q2; subst q2; obtain ⟨k, rfl⟩ := r2; simp only [eqD]; exact SeqAt.EqAt.bool_int x b k
    | str b => rw [Rp.str_iff] at q2; subst q2; obtain ⟨k, rfl⟩ := r2; simp only [eqD]; exact SeqAt.EqAt.bool_str x b k
    | tup ys =>
      rw [Rp.tup_iff] at q2
      obtain ⟨b, ws, rfl, t2, l2⟩ := q2
      cases r2
      obtain ⟨its, _, p, _⟩ := I.tuple t2.seq
      simp only [eqD]
      exact SeqAt.EqAt.bool_tuple x p (roomA hu)
    | fro _ => simp [pur] at h2
    | adr _ => simp [pur] at h2
  | .int x, e, A, v, w, u, t, h1, h2, q1, q2, r1, r2, hu => by
    rw [Rp.int_iff] at q1; subst q1
    obtain ⟨k0, rfl⟩ := r1
    cases e with
    | non => rw [Rp.non_iff] at q2; subst q2; cases r2; simp only [eqD]; exact SeqAt.EqAt.int_none x k0
    | bl b => rw [Rp.bl_iff] at q2; subst q2; cases r2; simp only [eqD]; exact SeqAt.EqAt.int_bool x k0 b
    | int b => rw [Rp.int_iff] at q2; subst q2; obtain ⟨k, rfl⟩ := r2; simp only [eqD]; exact SeqAt.EqAt.int_int x k0 b k
    | str b => rw [Rp.str_iff] at q2; subst q2; obtain ⟨k, rfl⟩ := r2; simp only [eqD]; exact SeqAt.EqAt.int_str x k0 b k
    | tup ys =>
      rw [Rp.tup_iff] at q2
      obtain ⟨b, ws, rfl, t2, l2⟩ := q2
      cases r2
      obtain ⟨its, _, p, _⟩ := I.tuple t2.seq
      simp only [eqD]
      exact SeqAt.EqAt.int_tuple x k0 p (roomA hu)
    | fro _ => simp [pur] at h2
    | adr _ => simp [pur] at h2
  | .str x, e, A, v, w, u, t, h1, h2, q1, q2, r1, r2, hu => by
    rw [Rp.str_iff] at q1; subst q1
    obtain ⟨k0, rfl⟩ := r1
    cases e with
    | non => rw [Rp.non_iff] at q2; subst q2; cases r2; simp only [eqD]; exact SeqAt.EqAt.str_none x k0
    | bl b => rw [Rp.bl_iff] at q2; subst q2; cases r2; simp only [eqD]; exact SeqAt.EqAt.str_bool x k0 b
    | int b => rw [Rp.int_iff] at q2; subst q2; obtain ⟨k, rfl⟩ := r2; simp only [eqD]; exact SeqAt.EqAt.str_int x k0 b k
    | str b => rw [Rp.str_iff] at q2; subst q2; obtain ⟨k, rfl⟩ := r2; simp only [eqD]; exact SeqAt.EqAt.str_str x k0 b k
    | tup ys =>
      rw [Rp.tup_iff] at q2
      obtain ⟨b, ws, rfl, t2, l2⟩ := q2
      cases r2
      obtain ⟨its, _, p, _⟩ := I.tuple t2.seq
      simp only [eqD]
      exact SeqAt.EqAt.str_tuple x k0 p (roomA hu)
    | fro _ => simp [pur] at h2
    | adr _ => simp [pur] at h2
  | .fro _, e, A, v, w, u, t, h1, _, _, _, _, _, _ => by simp [pur] at h1
  | .adr _, e, A, v, w, u, t, h1, _, _, _, _, _, _ => by simp [pur] at h1
  | .tup xs, e, A, v, w, u, t, h1, h2, q1, q2, r1, r2, hu => by
    have q1' := q1
    rw [Rp.tup_iff] at q1
    obtain ⟨l, vs, rfl, t1, l1⟩ := q1
    cases r1
    obtain ⟨its, rv, p, _⟩ := I.tuple t1.seq
    cases e with
    | non => rw [Rp.non_iff] at q2; subst q2; cases r2; simp only [eqD]; exact SeqAt.EqAt.tuple_none p (roomA hu)
    | bl b => rw [Rp.bl_iff] at q2; subst q2; cases r2; simp only [eqD]; exact SeqAt.EqAt.tuple_bool b p (roomA hu)
    | int b => rw [Rp.int_iff] at q2; subst q2; obtain ⟨k, rfl⟩ := r2; simp only [eqD]; exact SeqAt.EqAt.tuple_int b k p (roomA hu)
    | str b => rw [Rp.str_iff] at q2; subst q2; obtain ⟨k, rfl⟩ := r2; simp only [eqD]; exact SeqAt.EqAt.tuple_str b k p (roomA hu)
    | fro _ => simp [pur] at h2
    | adr _ => simp [pur] at h2
    | tup ys =>
      have q2' := q2
      rw [Rp.tup_iff] at q2
      obtain ⟨l', ws, rfl, t2, l2⟩ := q2
      cases r2
      obtain ⟨its2, rv2, p2, _⟩ := I.tuple t2.seq
      rw [eqD_tup]
      by_cases hll : l = l'
      · subst hll
        have e := Rp.inj I _ _ _ h1 h2 q1' q2'
        cases e
        unfold pur at h1
        rw [eqDs_refl xs h1]
        exact SeqAt.EqAt.same _
      · have n1 : its.length = xs.length := by rw [← rv.length, l1.length]
        have n2 : its2.length = ys.length := by rw [← rv2.length, l2.length]
        rw [← eqDs_eq xs ys, ← n1, ← n2]
        have p' : s.heap.IsTuple l its.toArray := p
        have p2' : s.heap.IsTuple l' its2.toArray := p2
        unfold pur at h1 h2
        refine SeqAt.EqAt.of_refs hll (by
          have := SeqAt.RcAt.tuples (A := A) (s := s) (e := pairE xs ys) p' p2' (roomA hu) (fun j j1 j2 => ?_)
          · simpa using this
          · have z1 : j < its.length := by simpa using j1
            have z2 : j < its2.length := by simpa using j2
            have := eqAtDs I xs ys A.in1 vs ws its its2 h1 h2 l1 l2 rv rv2 (by
              show A.units + 1 + min (deps xs) (deps ys) < cLine
              have : min (dep (.tup xs)) (dep (.tup ys)) = min (deps xs) (deps ys) + 1 := by unfold dep; omega
              omega) j z1 z2
            simpa using this)
theorem eqAtDs (I : Inv X pins σ H s) : ∀ (ds es : List D) (A : Around) (vs ws : List V) (us ts : List Value), purs ds = true → purs es = true → RpL X.K H r ds vs → RpL X.K H r es ws → Vals vs us → Vals ws ts → A.units + min (deps ds) (deps es) < cLine →
    ∀ j (h1 : j < us.length) (h2 : j < ts.length), SeqAt.EqAt A s us[j] ts[j] (pairE ds es j)
  | [], es, A, vs, ws, us, ts, h1, h2, q1, q2, r1, r2, hu, j, j1, j2 => by
    rw [RpL.nil_iff] at q1; subst q1
    cases r1
    exact absurd j1 (Nat.not_lt_zero _)
  | x :: xs, [], A, vs, ws, us, ts, h1, h2, q1, q2, r1, r2, hu, j, j1, j2 => by
    rw [RpL.nil_iff] at q2; subst q2
    cases r2
    exact absurd j2 (Nat.not_lt_zero _)
  | x :: xs, y :: ys, A, vs, ws, us, ts, h1, h2, q1, q2, r1, r2, hu, j, j1, j2 => by
    unfold purs at h1 h2
    rw [Bool.and_eq_true] at h1 h2
    rw [RpL.cons_iff] at q1 q2
    obtain ⟨v, vr, rfl, a1, b1⟩ := q1
    obtain ⟨w, wr, rfl, a2, b2⟩ := q2
    have hd : min (dep x) (dep y) ≤ min (deps (x :: xs)) (deps (y :: ys)) := by unfold deps; omega
    have ht : min (deps xs) (deps ys) ≤ min (deps (x :: xs)) (deps (y :: ys)) := by
      have e1 : deps (x :: xs) = max (dep x) (deps xs) := by rw [deps]
      have e2 : deps (y :: ys) = max (dep y) (deps ys) := by rw [deps]
      omega
    cases r1 with
    | cons c1 d1 =>
      cases r2 with
      | cons c2 d2 =>
        cases j with
        | zero => exact eqAtD I x y A v w _ _ h1.1 h2.1 a1 a2 c1 c2 (by omega)
        | succ j => exact eqAtDs I xs ys A vr wr _ _ h1.2 h2.2 b1 b2 d1 d2 (by omega) j (Nat.lt_of_succ_lt_succ j1) (Nat.lt_of_succ_lt_succ j2)
end
end
end Mi

namespace Mi
open PySem PySem.Spec PyProof.Rows L2

/-! ### operations on data -/
abbrev Op2 := D → D → Store → Option (D × Store)
abbrev Op1 := D → Store → Option (D × Store)
abbrev OpN := List D → Store → Option (D × Store)
def rOp (K : PySem.W.Frag) (mg : Str → Option Value) (op : Op2) : R2 := fun x y H Q => ∃ r st a b d st', HR K mg H r st ∧ Rp K H r a x ∧ Rp K H r b y ∧ op a b st = some (d, st') ∧ ∀ v H' r', Grow K mg H r st' H' r' → Rp K H' r' d v → Q v H'
def rUn (K : PySem.W.Frag) (mg : Str → Option Value) (op : Op1) : V → Hp → VK → Prop := fun x H Q => ∃ r st a d st', HR K mg H r st ∧ Rp K H r a x ∧ op a st = some (d, st') ∧ ∀ v H' r', Grow K mg H r st' H' r' → Rp K H' r' d v → Q v H'
def rCl (K : PySem.W.Frag) (mg : Str → Option Value) (op : OpN) : List V → Hp → VK → Prop := fun xs H Q => ∃ r st as d st', HR K mg H r st ∧ RpL K H r as xs ∧ op as st = some (d, st') ∧ ∀ v H' r', Grow K mg H r st' H' r' → Rp K H' r' d v → Q v H'
def rMd (K : PySem.W.Frag) (mg : Str → Option Value) (op : D → OpN) : V → List V → Hp → VK → Prop := fun x xs H Q => ∃ r st a as d st', HR K mg H r st ∧ Rp K H r a x ∧ RpL K H r as xs ∧ op a as st = some (d, st') ∧ ∀ v H' r', Grow K mg H r st' H' r' → Rp K H' r' d v → Q v H'
abbrev OpM (X : Cx) (F : Value → Value → Sem Value) (op : Op2) : Prop := OpR X F (rOp X.K X.mg op)
abbrev UnM (X : Cx) (F : Value → Sem Value) (op : Op1) : Prop := UnR X F (rUn X.K X.mg op)
abbrev ClM (X : Cx) (F : Value) (op : OpN) : Prop := CallR X F (rCl X.K X.mg op)
abbrev MdM (X : Cx) (id : String) (op : D → OpN) : Prop := MtR X id (rMd X.K X.mg op)
abbrev IxM (X : Cx) (op : Op2) : Prop := IxR X (rOp X.K X.mg op)

/-- a result that is no object -/
theorem fin0 {K : PySem.W.Frag} {mg : Str → Option Value} {H : Hp} {r : List Addr} {st : Store} {d : D} {v : V} {Q : VK} (hr : HR K mg H r st) (q : ∀ v H' r', Grow K mg H r st H' r' → Rp K H' r' d v → Q v H') (p : Rp K H r d v) : Q v H :=
  q v H r (Grow.refl hr) p
/-- a new tuple -/
theorem finT {K : PySem.W.Frag} {mg : Str → Option Value} {H : Hp} {r : List Addr} {st : Store} {ds : List D} {vs : List V} {Q : VK} (hr : HR K mg H r st) (q : ∀ v H' r', Grow K mg H r st H' r' → Rp K H' r' (.tup ds) v → Q v H') (p : RpL K H r ds vs)
    {a : Addr} {its : List Value} (n : H a = none) : Q (.ref a) (upd H a (.frz (tupO its 0) (.tup vs))) :=
  q _ _ r ⟨Ext.fresh n, List.prefix_refl _, hr.tup n⟩ (Rp.tup_iff.mpr ⟨a, vs, rfl, .inl ⟨its, 0, upd_same⟩, RpL.mono (Ext.fresh n) (List.prefix_refl _) _ _ p⟩)
/-- a tuple is laid, its object known -/
theorem laidT {X : Cx} {pins : List (Addr × Obj)} {σ : L2.St} {H : Hp} {s : Shared} {vs : List V} {its : List Value} {h' : Heap} {a : Addr} {t' : Nat} (I : Inv X pins σ H s) (k : ∀ b u, s.heap.get? b = some u → h'.get? b = some u) (hp : s.heap.objs.size ≤ a) (e : h'.get? a = some (tupO its 0)) (r : Vals vs its) (hz : vs.length ≤ sizeLine) :
    Inv X pins σ (upd H a (.frz (tupO its 0) (.tup vs))) { s with heap := h', toks := t' } :=
  I.laid k hp ⟨e, hz, its, r, _, e, rfl, 0, rfl⟩
/-- a new list -/
theorem finL {K : PySem.W.Frag} {mg : Str → Option Value} {H : Hp} {r : List Addr} {st : Store} {ds : List D} {vs : List V} {Q : VK} (hr : HR K mg H r st) (q : ∀ v H' r', Grow K mg H r (st ++ [.lst ds]) H' r' → Rp K H' r' (.adr st.length) v → Q v H') (p : RpL K H r ds vs)
    {a : Addr} (n : H a = none) : Q (.ref a) (upd H a (.lst vs)) :=
  q _ _ (r ++ [a]) ⟨Ext.fresh n, ⟨[a], rfl⟩, hr.new n ⟨vs, upd_same, RpL.mono (Ext.fresh n) ⟨[a], rfl⟩ _ _ p⟩⟩ (Rp.adr_iff.mpr ⟨a, by rw [← hr.len]; simp, rfl⟩)
/-- a list is written -/
theorem finW {K : PySem.W.Frag} {mg : Str → Option Value} {H : Hp} {r : List Addr} {st : Store} {ds ds0 : List D} {vs : List V} {d : D} {v : V} {Q : VK} (hr : HR K mg H r st) {n : Nat} {a : Addr}
    (q : ∀ v H' r', Grow K mg H r (st.set n (.lst ds)) H' r' → Rp K H' r' d v → Q v H') (ea : r[n]? = some a) (p : RpL K H r ds vs) (pd : Rp K H r d v) : Q v (upd H a (.lst vs)) := by
  obtain ⟨u, e, w⟩ := hr.has ea
  have x := Ext.write (K := K) (o := .lst vs) e w
  exact q _ _ r ⟨x, List.prefix_refl _, hr.put ea ⟨vs, upd_same, RpL.mono x (List.prefix_refl _) _ _ p⟩⟩ (Rp.mono x (List.prefix_refl _) _ _ pd)

/-- the list at an address of the store -/
def lstAt (st : Store) (n : Nat) : Option (List D) := match st[n]? with
  | some (.lst xs) => some xs
  | _ => none
theorem lstAt_iff {st : Store} {n : Nat} {xs : List D} : lstAt st n = some xs ↔ st[n]? = some (.lst xs) := by
  unfold lstAt
  split <;> simp_all
def dctAt (st : Store) (n : Nat) : Option (List (Key × D)) := match st[n]? with
  | some (.dct xs) => some xs
  | _ => none
theorem dctAt_iff {st : Store} {n : Nat} {xs : List (Key × D)} : dctAt st n = some xs ↔ st[n]? = some (.dct xs) := by
  unfold dctAt
  split <;> simp_all
section
variable {K : PySem.W.Frag} {mg : Str → Option Value} {H : Hp} {r : List Addr} {st : Store}
theorem HR.lst (h : HR K mg H r st) {n : Nat} {xs : List D} (e : lstAt st n = some xs) : ∃ a vs, r[n]? = some a ∧ H a = some (.lst vs) ∧ RpL K H r xs vs := by
  obtain ⟨a, e1, vs, e2, e3⟩ := h.at (lstAt_iff.mp e)
  exact ⟨a, vs, e1, e2, e3⟩
theorem HR.dct (h : HR K mg H r st) {n : Nat} {xs : List (Key × D)} (e : dctAt st n = some xs) : ∃ a vs, r[n]? = some a ∧ H a = some (.dK vs) ∧ RpP K H r xs vs := by
  obtain ⟨a, e1, vs, e2, e3⟩ := h.at (dctAt_iff.mp e)
  exact ⟨a, vs, e1, e2, e3⟩
/-- a list that may be read -/
def seqL (st : Store) : D → Option (List D)
  | .adr n => lstAt st n
  | .fro xs => some xs
  | _ => none
def seqOf (st : Store) : D → Option (List D)
  | .tup xs => some xs
  | d => seqL st d
theorem HR.seqL (h : HR K mg H r st) {d : D} {xs : List D} {v : V} (e : Mi.seqL st d = some xs) (p : Rp K H r d v) : ∃ a vs, v = .ref a ∧ SqL K H a vs ∧ RpL K H r xs vs := by
  cases d with
  | adr n =>
    obtain ⟨a, vs, e1, e2, e3⟩ := h.lst (show lstAt st n = some xs from e)
    rw [Rp.adr_iff] at p
    obtain ⟨a', q1, rfl⟩ := p
    rw [e1] at q1; cases q1
    exact ⟨a, vs, rfl, SqL.of e2, e3⟩
  | fro ys =>
    cases (show some ys = some xs from e)
    rw [Rp.fro_iff] at p
    obtain ⟨a, vs, rfl, q1, q2⟩ := p
    exact ⟨a, vs, rfl, q1.seq, q2⟩
  | _ => cases e
theorem HR.seqOf (h : HR K mg H r st) {d : D} {xs : List D} {v : V} (e : Mi.seqOf st d = some xs) (p : Rp K H r d v) : ∃ a vs, v = .ref a ∧ (SqL K H a vs ∨ SqT K H a vs) ∧ RpL K H r xs vs := by
  by_cases ht : ∃ ys, d = .tup ys
  · obtain ⟨ys, rfl⟩ := ht
    cases (show some ys = some xs from e)
    rw [Rp.tup_iff] at p
    obtain ⟨a, vs, rfl, q1, q2⟩ := p
    exact ⟨a, vs, rfl, .inr q1.seq, q2⟩
  · have e' : Mi.seqL st d = some xs := by
      cases d with
      | tup ys => exact absurd ⟨ys, rfl⟩ ht
      | _ => exact e
    obtain ⟨a, vs, e1, e2, e3⟩ := h.seqL e' p
    exact ⟨a, vs, e1, .inl e2, e3⟩
end

/-! ### arithmetic, + -/
noncomputable section
open Classical
def opAdd : Op2
  | .int i, .int j, st => some (.int (i + j), st)
  | .str a, .str b, st => if a.length + b.length ≤ sizeLine then some (.str (a ++ b), st) else none
  | .tup xs, .tup ys, st => if xs.length + ys.length ≤ sizeLine then some (.tup (xs ++ ys), st) else none
  | .adr n, .adr m, st => match lstAt st n, lstAt st m with
    | some xs, some ys => if xs.length + ys.length ≤ sizeLine then some (.adr st.length, st ++ [.lst (xs ++ ys)]) else none
    | _, _ => none
  | _, _, _ => none
def opSub : Op2
  | .int i, .int j, st => some (.int (i - j), st)
  | _, _, _ => none
def opMul : Op2
  | .int i, .int j, st => if CMul i j then some (.int (i * j), st) else none
  | .adr n, .int k, st => match lstAt st n with
    | some xs => if k < 2 ^ 63 ∧ -(2 ^ 63) ≤ k ∧ xs.length * k.toNat ≤ sizeLine then some (.adr st.length, st ++ [.lst (List.replicate k.toNat xs).flatten]) else none
    | none => none
  | _, _, _ => none
def opDiv : Op2
  | .int i, .int j, st => if CDivN i j then some (.int (i.fdiv j), st) else none
  | _, _, _ => none
def opMod : Op2
  | .int i, .int j, st => if j ≠ 0 then some (.int (i.fmod j), st) else none
  | _, _, _ => none
def opPow : Op2
  | .int i, .int j, st => if CPow i j then some (.int (i ^ j.toNat), st) else none
  | _, _, _ => none
def opNeg : Op1
  | .int i, st => some (.int (-i), st)
  | _, _ => none
/-- what bounds an operation: c holds, and its result -/
theorem ite_some {α : Type} {c : Prop} [Decidable c] {x y : α} (h : (if c then some x else none) = some y) : c ∧ x = y := by
  by_cases hc : c
  · rw [if_pos hc] at h; exact ⟨hc, Option.some.inj h⟩
  · rw [if_neg hc] at h; cases h
variable {X : Cx}
/-- two ints -/
theorem opM_int {F : Value → Value → Sem Value} {op : Op2} {r : R2} (ho : OpR X F r) (h : ∀ a b st d st', op a b st = some (d, st') → ∃ i j, a = .int i ∧ b = .int j ∧ st' = st ∧ ∃ v, (∀ H r, Rp X.K H r d v) ∧ ∀ H Q, Q v H → r (.int i) (.int j) H Q) : OpM X F op := by
  intro pins s σ H x y v u Q I rx ry hq
  obtain ⟨r', st, a, b, d, st', hr, pa, pb, e, q⟩ := hq
  obtain ⟨i, j, rfl, rfl, rfl, w, pw, z⟩ := h _ _ _ _ _ e
  rw [Rp.int_iff] at pa pb
  subst pa pb
  exact ho pins s σ H _ _ v u Q I rx ry (z H Q (fin0 hr q (pw H r')))
theorem m_sub : OpM X (binaryOp .Sub) opSub := opM_int op_sub fun a b st d st' h => by
  cases a <;> cases b <;> first | (exfalso; simp [opSub] at h; done) | skip
  rename_i i j
  cases (show some (D.int (i - j), st) = some (d, st') from h)
  exact ⟨i, j, rfl, rfl, rfl, _, fun _ _ => Rp.int_iff.mpr rfl, fun H Q q => ⟨i, j, rfl, rfl, q⟩⟩
theorem m_div : OpM X (binaryOp .FloorDiv) opDiv := opM_int op_fdivN fun a b st d st' h => by
  cases a <;> cases b <;> first | (exfalso; simp [opDiv] at h; done) | skip
  rename_i i j
  obtain ⟨c, e⟩ := ite_some (show (if CDivN i j then some (D.int (i.fdiv j), st) else none) = some (d, st') from h)
  cases e
  exact ⟨i, j, rfl, rfl, rfl, _, fun _ _ => Rp.int_iff.mpr rfl, fun H Q q => ⟨i, j, rfl, rfl, c, q⟩⟩
theorem m_mod : OpM X (binaryOp .Mod) opMod := opM_int op_modN fun a b st d st' h => by
  cases a <;> cases b <;> first | (exfalso; simp [opMod] at h; done) | skip
  rename_i i j
  obtain ⟨c, e⟩ := ite_some (show (if j ≠ 0 then some (D.int (i.fmod j), st) else none) = some (d, st') from h)
  cases e
  exact ⟨i, j, rfl, rfl, rfl, _, fun _ _ => Rp.int_iff.mpr rfl, fun H Q q => ⟨i, j, rfl, rfl, c, q⟩⟩
theorem m_pow : OpM X (binaryOp .Pow) opPow := opM_int op_pow fun a b st d st' h => by
  cases a <;> cases b <;> first | (exfalso; simp [opPow] at h; done) | skip
  rename_i i j
  obtain ⟨c, e⟩ := ite_some (show (if CPow i j then some (D.int (i ^ j.toNat), st) else none) = some (d, st') from h)
  cases e
  exact ⟨i, j, rfl, rfl, rfl, _, fun _ _ => Rp.int_iff.mpr rfl, fun H Q q => ⟨i, j, rfl, rfl, c, q⟩⟩
theorem m_neg : UnM X (unaryOp .USub) opNeg := by
  intro pins s σ H x v Q I rx hq
  obtain ⟨r', st, a, d, st', hr, pa, e, q⟩ := hq
  cases a with
  | int i =>
    cases (show some (D.int (-i), st) = some (d, st') from e)
    rw [Rp.int_iff] at pa
    subst pa
    exact un_neg pins s σ H _ v Q I rx ⟨i, rfl, fin0 hr q (Rp.int_iff.mpr rfl)⟩
  | _ => cases e
theorem m_mul : OpM X (binaryOp .Mult) opMul := by
  intro pins s σ H x y v u Q I rx ry hq
  obtain ⟨r', st, a, b, d, st', hr, pa, pb, e, q⟩ := hq
  cases a <;> cases b <;> first | (exfalso; simp [opMul] at e; done) | skip
  · rename_i i j
    obtain ⟨c, e⟩ := ite_some (show (if CMul i j then some (D.int (i * j), st) else none) = some (d, st') from e)
    cases e
    rw [Rp.int_iff] at pa pb
    subst pa pb
    exact op_mul pins s σ H _ _ v u Q I rx ry ⟨i, j, rfl, rfl, c, fin0 hr q (Rp.int_iff.mpr rfl)⟩
  · rename_i n k
    have e' : (match lstAt st n with
      | some xs => if k < 2 ^ 63 ∧ -(2 ^ 63) ≤ k ∧ xs.length * k.toNat ≤ sizeLine then some (D.adr st.length, st ++ [O.lst (List.replicate k.toNat xs).flatten]) else none
      | none => none) = some (d, st') := e
    cases hl : lstAt st n with
    | none => rw [hl] at e'; cases e'
    | some xs =>
      rw [hl] at e'
      obtain ⟨⟨c1, c2, c3⟩, e⟩ := ite_some e'
      cases e
      obtain ⟨a, vs, e1, e2, e3⟩ := hr.lst hl
      rw [Rp.adr_iff] at pa
      obtain ⟨a', q1, rfl⟩ := pa
      rw [e1] at q1; cases q1
      rw [Rp.int_iff] at pb
      subst pb
      refine op_rep pins s σ H _ _ v u Q I rx ry ⟨a, k, vs, rfl, rfl, e2, c2, c1, by rw [e3.length]; exact c3, fun p hp => finL hr q ?_ hp⟩
      have rep : ∀ n : Nat, RpL X.K H r' (List.replicate n xs).flatten (List.replicate n vs).flatten := by
        intro n
        induction n with
        | zero => simp [RpL.nil_iff]
        | succ n ih =>
          rw [List.replicate_succ, List.replicate_succ, List.flatten_cons, List.flatten_cons]
          exact e3.append ih
      exact rep _
/-- t + u: the new tuple's object is known -/
theorem op_catF : OpR X (binaryOp .Add) (fun x y H Q => ∃ a b xs ys, x = .ref a ∧ y = .ref b ∧ SqT X.K H a xs ∧ SqT X.K H b ys ∧ xs.length + ys.length ≤ sizeLine ∧
    (xs = [] → Q (.ref b) H) ∧ (xs ≠ [] → ys = [] → Q (.ref a) H) ∧ (xs ≠ [] → ys ≠ [] → ∀ p its, H p = none → Q (.ref p) (upd H p (.frz (tupO its 0) (.tup (xs ++ ys)))))) := by
  intro pins s σ H x y v u Q I rx ry h
  obtain ⟨a, b, xs, ys, rfl, rfl, ha, hb, hz, q0, q1, q2⟩ := h
  by_cases hx : xs = []
  · subst hx
    cases rx
    cases ry
    obtain ⟨its, r1, p1, _⟩ := I.tuple ha
    obtain ⟨its2, r2, p2, _⟩ := I.tuple hb
    cases r1
    exact cat_tup0 p1 p2 ⟨.ref b, H, I, rfl, q0 rfl⟩
  · cases rx
    cases ry
    obtain ⟨its, r1, p1, _⟩ := I.tuple ha
    obtain ⟨its2, r2, p2, _⟩ := I.tuple hb
    refine HT.cat_tup p1 p2 (fun z => hx (r1.nil_iff.mp z)) (fun z => ⟨.ref a, H, I, rfl, q1 hx (r2.nil_iff.mp z)⟩) (fun z => ?_) (by rw [← r1.length, ← r2.length]; exact hz)
    refine ⟨.ref s.heap.objs.size, _, laidT (t' := s.toks) I (fun b ob q => Heap.get?_push_of_some _ q) (Nat.le_refl _) (Heap.get?_push_size _ rfl) (r1.append r2) (by rw [List.length_append]; exact hz), rfl, q2 hx (fun w => z (r2.nil_iff.mpr w)) _ _ (I.hok.fresh (Nat.le_refl _))⟩
theorem m_add : OpM X (binaryOp .Add) opAdd := by
  intro pins s σ H x y v u Q I rx ry hq
  obtain ⟨r', st, a, b, d, st', hr, pa, pb, e, q⟩ := hq
  cases a <;> cases b <;> first | (exfalso; simp [opAdd] at e; done) | skip
  · rename_i i j
    cases (show some (D.int (i + j), st) = some (d, st') from e)
    rw [Rp.int_iff] at pa pb
    subst pa pb
    exact op_add pins s σ H _ _ v u Q I rx ry ⟨i, j, rfl, rfl, fin0 hr q (Rp.int_iff.mpr rfl)⟩
  · rename_i i j
    obtain ⟨c, e⟩ := ite_some (show (if i.length + j.length ≤ sizeLine then some (D.str (i ++ j), st) else none) = some (d, st') from e)
    cases e
    rw [Rp.str_iff] at pa pb
    subst pa pb
    exact op_add_str pins s σ H _ _ v u Q I rx ry ⟨i, j, rfl, rfl, c, fin0 hr q (Rp.str_iff.mpr rfl)⟩
  · rename_i xs ys
    obtain ⟨c, e⟩ := ite_some (show (if xs.length + ys.length ≤ sizeLine then some (D.tup (xs ++ ys), st) else none) = some (d, st') from e)
    cases e
    have pa' := pa
    have pb' := pb
    rw [Rp.tup_iff] at pa pb
    obtain ⟨a, vs, rfl, t1, l1⟩ := pa
    obtain ⟨b, ws, rfl, t2, l2⟩ := pb
    refine op_catF pins s σ H _ _ v u Q I rx ry ⟨a, b, vs, ws, rfl, rfl, t1.seq, t2.seq, by rw [l1.length, l2.length]; exact c, fun z => ?_, fun z z2 => ?_, fun _ _ p _ hp => finT hr q (l1.append l2) hp⟩
    · subst z
      have e0 : xs = [] := by
        have := l1.length
        cases xs with
        | nil => rfl
        | cons _ _ => cases this
      subst e0
      exact fin0 hr q pb'
    · subst z2
      have e0 : ys = [] := by
        have := l2.length
        cases ys with
        | nil => rfl
        | cons _ _ => cases this
      subst e0
      rw [List.append_nil] at q
      exact fin0 hr q pa'
  · rename_i n m
    have e' : (match lstAt st n, lstAt st m with
      | some xs, some ys => if xs.length + ys.length ≤ sizeLine then some (D.adr st.length, st ++ [O.lst (xs ++ ys)]) else none
      | _, _ => none) = some (d, st') := e
    cases h1 : lstAt st n with
    | none => rw [h1] at e'; cases e'
    | some xs =>
      cases h2 : lstAt st m with
      | none => rw [h1, h2] at e'; cases e'
      | some ys =>
        rw [h1, h2] at e'
        obtain ⟨c, e⟩ := ite_some e'
        cases e
        obtain ⟨a, vs, e1, e2, e3⟩ := hr.lst h1
        obtain ⟨b, ws, f1, f2, f3⟩ := hr.lst h2
        rw [Rp.adr_iff] at pa pb
        obtain ⟨a', q1, rfl⟩ := pa
        obtain ⟨b', q2, rfl⟩ := pb
        rw [e1] at q1; cases q1
        rw [f1] at q2; cases q2
        exact op_cat pins s σ H _ _ v u Q I rx ry ⟨a, b, vs, ws, rfl, rfl, e2, f2, by rw [e3.length, f3.length]; exact c, fun p hp => finL hr q (e3.append f3) hp⟩

/-! ### comparisons -/
def cmpI (p : Int → Int → Bool) : Op2
  | .int i, .int j, st => some (.bl (p i j), st)
  | _, _, _ => none
abbrev opLt : Op2 := cmpI fun i j => decide (i < j)
abbrev opLe : Op2 := cmpI fun i j => decide (i ≤ j)
abbrev opGt : Op2 := cmpI fun i j => decide (j < i)
abbrev opGe : Op2 := cmpI fun i j => decide (j ≤ i)
theorem m_cmpI {F : Value → Value → Sem Value} {p : Int → Int → Bool} (ho : OpR X F (rI0 fun i j => .bl (p i j))) : OpM X F (cmpI p) := opM_int ho fun a b st d st' h => by
  cases a <;> cases b <;> first | (exfalso; simp [cmpI] at h; done) | skip
  rename_i i j
  cases (show some (D.bl (p i j), st) = some (d, st') from h)
  exact ⟨i, j, rfl, rfl, rfl, _, fun _ _ => Rp.bl_iff.mpr rfl, fun H Q q => ⟨i, j, rfl, rfl, q⟩⟩
theorem m_lt : OpM X (compareOp .Lt) opLt := m_cmpI op_lt
theorem m_le : OpM X (compareOp .LtE) opLe := m_cmpI op_le
theorem m_gt : OpM X (compareOp .Gt) opGt := m_cmpI op_gt
theorem m_ge : OpM X (compareOp .GtE) opGe := m_cmpI op_ge
/-- how deep data may lie that are compared -/
def deepLine : Nat := 1500
def eqO (a b : D) (st : Store) : Option Bool := match a, b with
  | .adr n, .adr m => match lstAt st n, lstAt st m with
    | some xs, some ys => if purs xs = true ∧ purs ys = true ∧ min (deps xs) (deps ys) < deepLine then some (eqDs xs ys) else none
    | _, _ => none
  | a, b => if pur a = true ∧ pur b = true ∧ min (dep a) (dep b) ≤ deepLine then some (eqD a b) else none
def opEq : Op2 := fun a b st => (eqO a b st).map fun k => (.bl k, st)
def opNe : Op2 := fun a b st => (eqO a b st).map fun k => (.bl (!k), st)
theorem rcAtD {pins : List (Addr × Obj)} {σ : L2.St} {H : Hp} {s : Shared} {r : List Addr} (I : Inv X pins σ H s) {d e : D} {v w : V} {u t : Value} (h1 : pur d = true) (h2 : pur e = true) (q1 : Rp X.K H r d v) (q2 : Rp X.K H r e w) (r1 : RelV v u) (r2 : RelV w t)
    {A : Around} (hu : A.units + min (dep d) (dep e) < cLine) : SeqAt.RcAt A s u t (eqD d e) := by
  cases d with
  | fro _ => simp [pur] at h1
  | adr _ => simp [pur] at h1
  | non =>
    rw [Rp.non_iff] at q1; subst q1
    cases r1
    cases e with
    | non => rw [Rp.non_iff] at q2; subst q2; cases r2; rw [eqD]; exact SeqAt.RcAt.none_none
    | bl b => rw [Rp.bl_iff] at q2; subst q2; cases r2; simp only [eqD]; exact SeqAt.RcAt.none_bool b
    | int b => rw [Rp.int_iff] at q2; subst q2; obtain ⟨k, rfl⟩ := r2; simp only [eqD]; exact SeqAt.RcAt.none_int b k
    | str b => rw [Rp.str_iff] at q2; subst q2; obtain ⟨k, rfl⟩ := r2; simp only [eqD]; exact SeqAt.RcAt.none_str b k
    | tup ys =>
      rw [Rp.tup_iff] at q2
      obtain ⟨b, ws, rfl, t2, l2⟩ := q2
      cases r2
      obtain ⟨its, _, p, _⟩ := I.tuple t2.seq
      simp only [eqD]
      exact SeqAt.RcAt.none_tuple p (roomA hu)
    | fro _ => simp [pur] at h2
    | adr _ => simp [pur] at h2
  | bl x =>
    rw [Rp.bl_iff] at q1; subst q1
    cases r1
    cases e with
    | non => rw [Rp.non_iff] at q2; subst q2; cases r2; simp only [eqD]; exact SeqAt.RcAt.bool_none x
    | bl b => rw [Rp.bl_iff] at q2; subst q2; cases r2; simp only [eqD]; exact SeqAt.RcAt.bool_bool x b
    | int b => rw [Rp.int_iff] at q2; subst q2; obtain ⟨k, rfl⟩ := r2; simp only [eqD]; exact SeqAt.RcAt.bool_int x b k
    | str b => rw [Rp.str_iff] at q2; subst q2; obtain ⟨k, rfl⟩ := r2; simp only [eqD]; exact SeqAt.RcAt.bool_str x b k
    | tup ys =>
      rw [Rp.tup_iff] at q2
      obtain ⟨b, ws, rfl, t2, l2⟩ := q2
      cases r2
      obtain ⟨its, _, p, _⟩ := I.tuple t2.seq
      simp only [eqD]
      exact SeqAt.RcAt.bool_tuple x p (roomA hu)
    | fro _ => simp [pur] at h2
    | adr _ => simp [pur] at h2
  | int x =>
    rw [Rp.int_iff] at q1; subst q1
    obtain ⟨k0, rfl⟩ := r1
    cases e with
    | non => rw [Rp.non_iff] at q2; subst q2; cases r2; simp only [eqD]; exact SeqAt.RcAt.int_none x k0
    | bl b => rw [Rp.bl_iff] at q2; subst q2; cases r2; simp only [eqD]; exact SeqAt.RcAt.int_bool x k0 b
    | int b => rw [Rp.int_iff] at q2; subst q2; obtain ⟨k, rfl⟩ := r2; simp only [eqD]; exact SeqAt.RcAt.int_int x k0 b k
    | str b => rw [Rp.str_iff] at q2; subst q2; obtain ⟨k, rfl⟩ := r2; simp only [eqD]; exact SeqAt.RcAt.int_str x k0 b k
    | tup ys =>
      rw [Rp.tup_iff] at q2
      obtain ⟨b, ws, rfl, t2, l2⟩ := q2
      cases r2
      obtain ⟨its, _, p, _⟩ := I.tuple t2.seq
      simp only [eqD]
      exact SeqAt.RcAt.int_tuple x k0 p (roomA hu)
    | fro _ => simp [pur] at h2
    | adr _ => simp [pur] at h2
  | str x =>
    rw [Rp.str_iff] at q1; subst q1
    obtain ⟨k0, rfl⟩ := r1
    cases e with
    | non => rw [Rp.non_iff] at q2; subst q2; cases r2; simp only [eqD]; exact SeqAt.RcAt.str_none x k0
    | bl b => rw [Rp.bl_iff] at q2; subst q2; cases r2; simp only [eqD]; exact SeqAt.RcAt.str_bool x k0 b
    | int b => rw [Rp.int_iff] at q2; subst q2; obtain ⟨k, rfl⟩ := r2; simp only [eqD]; exact SeqAt.RcAt.str_int x k0 b k
    | str b => rw [Rp.str_iff] at q2; subst q2; obtain ⟨k, rfl⟩ := r2; simp only [eqD]; exact SeqAt.RcAt.str_str x k0 b k
    | tup ys =>
      rw [Rp.tup_iff] at q2
      obtain ⟨b, ws, rfl, t2, l2⟩ := q2
      cases r2
      obtain ⟨its, _, p, _⟩ := I.tuple t2.seq
      simp only [eqD]
      exact SeqAt.RcAt.str_tuple x k0 p (roomA hu)
    | fro _ => simp [pur] at h2
    | adr _ => simp [pur] at h2
  | tup xs =>
    rw [Rp.tup_iff] at q1
    obtain ⟨l, vs, rfl, t1, l1⟩ := q1
    cases r1
    obtain ⟨its, rv, p, _⟩ := I.tuple t1.seq
    cases e with
    | non => rw [Rp.non_iff] at q2; subst q2; cases r2; simp only [eqD]; exact SeqAt.RcAt.tuple_none p (roomA hu)
    | bl b => rw [Rp.bl_iff] at q2; subst q2; cases r2; simp only [eqD]; exact SeqAt.RcAt.tuple_bool b p (roomA hu)
    | int b => rw [Rp.int_iff] at q2; subst q2; obtain ⟨k, rfl⟩ := r2; simp only [eqD]; exact SeqAt.RcAt.tuple_int b k p (roomA hu)
    | str b => rw [Rp.str_iff] at q2; subst q2; obtain ⟨k, rfl⟩ := r2; simp only [eqD]; exact SeqAt.RcAt.tuple_str b k p (roomA hu)
    | fro _ => simp [pur] at h2
    | adr _ => simp [pur] at h2
    | tup ys =>
      rw [Rp.tup_iff] at q2
      obtain ⟨l', ws, rfl, t2, l2⟩ := q2
      cases r2
      obtain ⟨its2, rv2, p2, _⟩ := I.tuple t2.seq
      rw [eqD_tup]
      have n1 : its.length = xs.length := by rw [← rv.length, l1.length]
      have n2 : its2.length = ys.length := by rw [← rv2.length, l2.length]
      rw [← eqDs_eq xs ys, ← n1, ← n2]
      have p' : s.heap.IsTuple l its.toArray := p
      have p2' : s.heap.IsTuple l' its2.toArray := p2
      unfold pur at h1 h2
      have := SeqAt.RcAt.tuples (A := A) (s := s) (e := pairE xs ys) p' p2' (roomA hu) (fun j j1 j2 => by
        have z1 : j < its.length := by simpa using j1
        have z2 : j < its2.length := by simpa using j2
        have := eqAtDs I xs ys A.in1 vs ws its its2 h1 h2 l1 l2 rv rv2 (by
          show A.units + 1 + min (deps xs) (deps ys) < cLine
          have : min (dep (.tup xs)) (dep (.tup ys)) = min (deps xs) (deps ys) + 1 := by unfold dep; omega
          omega) j z1 z2
        simpa using this)
      simpa using this
theorem rcAtL {pins : List (Addr × Obj)} {σ : L2.St} {H : Hp} {s : Shared} {r : List Addr} (I : Inv X pins σ H s) {xs ys : List D} {vs ws : List V} {a b : Addr} (h1 : purs xs = true) (h2 : purs ys = true) (q1 : RpL X.K H r xs vs) (q2 : RpL X.K H r ys ws) (r1 : SqL X.K H a vs) (r2 : SqL X.K H b ws)
    {A : Around} (hu : A.units + 1 + min (deps xs) (deps ys) < cLine) : SeqAt.RcAt A s (.ref a) (.ref b) (eqDs xs ys) := by
  obtain ⟨its, rv, p, _⟩ := I.list r1
  obtain ⟨its2, rv2, p2, _⟩ := I.list r2
  have n1 : its.length = xs.length := by rw [← rv.length, q1.length]
  have n2 : its2.length = ys.length := by rw [← rv2.length, q2.length]
  have he : ∀ j (j1 : j < its.toArray.size) (j2 : j < its2.toArray.size), SeqAt.EqAt A.in1 s its.toArray[j] its2.toArray[j] (pairE xs ys j) := fun j j1 j2 => by
    have z1 : j < its.length := by simpa using j1
    have z2 : j < its2.length := by simpa using j2
    have := eqAtDs I xs ys A.in1 vs ws its its2 h1 h2 q1 q2 rv rv2 hu j z1 z2
    simpa using this
  by_cases hsz : its.toArray.size = its2.toArray.size
  · have hsz' : xs.length = ys.length := by simpa [n1, n2] using hsz
    have e := eqDs_eq xs ys
    rw [← hsz', Nat.min_self] at e
    have e2 : (List.range xs.length).all (pairE xs ys) = eqDs xs ys := by simpa using e
    rw [← e2, ← n1, ← List.size_toArray]
    exact SeqAt.RcAt.lists p.isList p2.isList hsz (by omega) he
  · have hsz' : xs.length ≠ ys.length := by simpa [n1, n2] using hsz
    have e : eqDs xs ys = false := by
      rw [← eqDs_eq]
      simp [hsz']
    rw [e]
    exact SeqAt.RcAt.lists_lengths p.isList p2.isList (by simpa using hsz) (by omega)
theorem eqO_rc {pins : List (Addr × Obj)} {σ : L2.St} {H : Hp} {s : Shared} {r : List Addr} {st : Store} (I : Inv X pins σ H s) (hr : HR X.K X.mg H r st) {a b : D} {k : Bool} {x y : V} {v u : Value} (e : eqO a b st = some k)
    (pa : Rp X.K H r a x) (pb : Rp X.K H r b y) (rx : RelV x v) (ry : RelV y u) (hu : X.A.units + 2000 < cLine) : SeqAt.RcAt X.A s v u k := by
  by_cases hab : ∃ n m, a = .adr n ∧ b = .adr m
  · obtain ⟨n, m, rfl, rfl⟩ := hab
    have e' : (match lstAt st n, lstAt st m with
      | some xs, some ys => if purs xs = true ∧ purs ys = true ∧ min (deps xs) (deps ys) < deepLine then some (eqDs xs ys) else none
      | _, _ => none) = some k := e
    cases h1 : lstAt st n with
    | none => rw [h1] at e'; cases e'
    | some xs =>
      cases h2 : lstAt st m with
      | none => rw [h1, h2] at e'; cases e'
      | some ys =>
        rw [h1, h2] at e'
        obtain ⟨⟨c1, c2, c3⟩, rfl⟩ := ite_some e'
        obtain ⟨a, vs, e1, e2, e3⟩ := hr.lst h1
        obtain ⟨b, ws, f1, f2, f3⟩ := hr.lst h2
        rw [Rp.adr_iff] at pa pb
        obtain ⟨a', q1, rfl⟩ := pa
        obtain ⟨b', q2, rfl⟩ := pb
        rw [e1] at q1; cases q1
        rw [f1] at q2; cases q2
        cases rx
        cases ry
        exact rcAtL I c1 c2 e3 f3 (SqL.of e2) (SqL.of f2) (by unfold deepLine at c3; omega)
  · have e' : (if pur a = true ∧ pur b = true ∧ min (dep a) (dep b) ≤ deepLine then some (eqD a b) else none) = some k := by
      unfold eqO at e
      split at e
      · rename_i n m
        exact absurd ⟨n, m, rfl, rfl⟩ hab
      · exact e
    obtain ⟨⟨c1, c2, c3⟩, rfl⟩ := ite_some e'
    exact rcAtD I c1 c2 pa pb rx ry (by unfold deepLine at c3; omega)
theorem m_eq (hu : X.A.units + 2000 < cLine) : OpM X (compareOp .Eq) opEq := by
  intro pins s σ H x y v u Q I rx ry hq
  obtain ⟨r', st, a, b, d, st', hr, pa, pb, e, q⟩ := hq
  obtain ⟨k, e1, e2⟩ := Option.map_eq_some_iff.mp e
  cases e2
  exact eqO_rc I hr e1 pa pb rx ry hu _ _ _ _ ⟨.bl k, H, I, rfl, fin0 hr q (Rp.bl_iff.mpr rfl)⟩
end
end Mi

namespace Mi
open PySem PySem.Spec PyProof.Rows L2
noncomputable section
open Classical
variable {X : Cx}
theorem rcNeD {pins : List (Addr × Obj)} {σ : L2.St} {H : Hp} {s : Shared} {r : List Addr} (I : Inv X pins σ H s) {d e : D} {v w : V} {u t : Value} (h1 : pur d = true) (h2 : pur e = true) (q1 : Rp X.K H r d v) (q2 : Rp X.K H r e w) (r1 : RelV v u) (r2 : RelV w t)
    {A : Around} (hu : A.units + min (dep d) (dep e) < cLine) : SeqAt.RcNeAt A s u t (!eqD d e) := by
  cases d with
  | fro _ => simp [pur] at h1
  | adr _ => simp [pur] at h1
  | non =>
    rw [Rp.non_iff] at q1; subst q1
    cases r1
    cases e with
    | non => rw [Rp.non_iff] at q2; subst q2; cases r2; rw [eqD]; exact SeqAt.RcNeAt.none_none
    | bl b => rw [Rp.bl_iff] at q2; subst q2; cases r2; simp only [eqD]; exact SeqAt.RcNeAt.none_bool b
    | int b => rw [Rp.int_iff] at q2; subst q2; obtain ⟨k, rfl⟩ := r2; simp only [eqD]; exact SeqAt.RcNeAt.none_int b k
    | str b => rw [Rp.str_iff] at q2; subst q2; obtain ⟨k, rfl⟩ := r2; simp only [eqD]; exact SeqAt.RcNeAt.none_str b k
    | tup ys =>
      rw [Rp.tup_iff] at q2
      obtain ⟨b, ws, rfl, t2, l2⟩ := q2
      cases r2
      obtain ⟨its, _, p, _⟩ := I.tuple t2.seq
      simp only [eqD]
      exact SeqAt.RcNeAt.none_tuple p (roomA hu)
    | fro _ => simp [pur] at h2
    | adr _ => simp [pur] at h2
  | bl x =>
    rw [Rp.bl_iff] at q1; subst q1
    cases r1
    cases e with
    | non => rw [Rp.non_iff] at q2; subst q2; cases r2; simp only [eqD]; exact SeqAt.RcNeAt.bool_none x
    | bl b => rw [Rp.bl_iff] at q2; subst q2; cases r2; simp only [eqD]; exact SeqAt.RcNeAt.bool_bool x b
    | int b => rw [Rp.int_iff] at q2; subst q2; obtain ⟨k, rfl⟩ := r2; simp only [eqD]; exact SeqAt.RcNeAt.bool_int x b k
    | str b => rw [Rp.str_iff] at q2; subst q2; obtain ⟨k, rfl⟩ := r2; simp only [eqD]; exact SeqAt.RcNeAt.bool_str x b k
    | tup ys =>
      rw [Rp.tup_iff] at q2
      obtain ⟨b, ws, rfl, t2, l2⟩ := q2
      cases r2
      obtain ⟨its, _, p, _⟩ := I.tuple t2.seq
      simp only [eqD]
      exact SeqAt.RcNeAt.bool_tuple x p (roomA hu)
    | fro _ => simp [pur] at h2
    | adr _ => simp [pur] at h2
  | int x =>
    rw [Rp.int_iff] at q1; subst q1
    obtain ⟨k0, rfl⟩ := r1
    cases e with
    | non => rw [Rp.non_iff] at q2; subst q2; cases r2; simp only [eqD]; exact SeqAt.RcNeAt.int_none x k0
    | bl b => rw [Rp.bl_iff] at q2; subst q2; cases r2; simp only [eqD]; exact SeqAt.RcNeAt.int_bool x k0 b
    | int b => rw [Rp.int_iff] at q2; subst q2; obtain ⟨k, rfl⟩ := r2; simp only [eqD]; exact SeqAt.RcNeAt.int_int x k0 b k
    | str b => rw [Rp.str_iff] at q2; subst q2; obtain ⟨k, rfl⟩ := r2; simp only [eqD]; exact SeqAt.RcNeAt.int_str x k0 b k
    | tup ys =>
      rw [Rp.tup_iff] at q2
      obtain ⟨b, ws, rfl, t2, l2⟩ := q2
      cases r2
      obtain ⟨its, _, p, _⟩ := I.tuple t2.seq
      simp only [eqD]
      exact SeqAt.RcNeAt.int_tuple x k0 p (roomA hu)
    | fro _ => simp [pur] at h2
    | adr _ => simp [pur] at h2
  | str x =>
    rw [Rp.str_iff] at q1; subst q1
    obtain ⟨k0, rfl⟩ := r1
    cases e with
    | non => rw [Rp.non_iff] at q2; subst q2; cases r2; simp only [eqD]; exact SeqAt.RcNeAt.str_none x k0
    | bl b => rw [Rp.bl_iff] at q2; subst q2; cases r2; simp only [eqD]; exact SeqAt.RcNeAt.str_bool x k0 b
    | int b => rw [Rp.int_iff] at q2; subst q2; obtain ⟨k, rfl⟩ := r2; simp only [eqD]; exact SeqAt.RcNeAt.str_int x k0 b k
    | str b => rw [Rp.str_iff] at q2; subst q2; obtain ⟨k, rfl⟩ := r2; simp only [eqD]; exact SeqAt.RcNeAt.str_str x k0 b k
    | tup ys =>
      rw [Rp.tup_iff] at q2
      obtain ⟨b, ws, rfl, t2, l2⟩ := q2
      cases r2
      obtain ⟨its, _, p, _⟩ := I.tuple t2.seq
      simp only [eqD]
      exact SeqAt.RcNeAt.str_tuple x k0 p (roomA hu)
    | fro _ => simp [pur] at h2
    | adr _ => simp [pur] at h2
  | tup xs =>
    rw [Rp.tup_iff] at q1
    obtain ⟨l, vs, rfl, t1, l1⟩ := q1
    cases r1
    obtain ⟨its, rv, p, _⟩ := I.tuple t1.seq
    cases e with
    | non => rw [Rp.non_iff] at q2; subst q2; cases r2; simp only [eqD]; exact SeqAt.RcNeAt.tuple_none p (roomA hu)
    | bl b => rw [Rp.bl_iff] at q2; subst q2; cases r2; simp only [eqD]; exact SeqAt.RcNeAt.tuple_bool b p (roomA hu)
    | int b => rw [Rp.int_iff] at q2; subst q2; obtain ⟨k, rfl⟩ := r2; simp only [eqD]; exact SeqAt.RcNeAt.tuple_int b k p (roomA hu)
    | str b => rw [Rp.str_iff] at q2; subst q2; obtain ⟨k, rfl⟩ := r2; simp only [eqD]; exact SeqAt.RcNeAt.tuple_str b k p (roomA hu)
    | fro _ => simp [pur] at h2
    | adr _ => simp [pur] at h2
    | tup ys =>
      rw [Rp.tup_iff] at q2
      obtain ⟨l', ws, rfl, t2, l2⟩ := q2
      cases r2
      obtain ⟨its2, rv2, p2, _⟩ := I.tuple t2.seq
      rw [eqD_tup]
      have n1 : its.length = xs.length := by rw [← rv.length, l1.length]
      have n2 : its2.length = ys.length := by rw [← rv2.length, l2.length]
      rw [← eqDs_eq xs ys, ← n1, ← n2]
      have p' : s.heap.IsTuple l its.toArray := p
      have p2' : s.heap.IsTuple l' its2.toArray := p2
      unfold pur at h1 h2
      have := SeqAt.RcNeAt.tuples (A := A) (s := s) (e := pairE xs ys) p' p2' (roomA hu) (fun j j1 j2 => by
        have z1 : j < its.length := by simpa using j1
        have z2 : j < its2.length := by simpa using j2
        have := eqAtDs I xs ys A.in1 vs ws its its2 h1 h2 l1 l2 rv rv2 (by
          show A.units + 1 + min (deps xs) (deps ys) < cLine
          have : min (dep (.tup xs)) (dep (.tup ys)) = min (deps xs) (deps ys) + 1 := by unfold dep; omega
          omega) j z1 z2
        simpa using this)
      simpa using this
theorem rcNeL {pins : List (Addr × Obj)} {σ : L2.St} {H : Hp} {s : Shared} {r : List Addr} (I : Inv X pins σ H s) {xs ys : List D} {vs ws : List V} {a b : Addr} (h1 : purs xs = true) (h2 : purs ys = true) (q1 : RpL X.K H r xs vs) (q2 : RpL X.K H r ys ws) (r1 : SqL X.K H a vs) (r2 : SqL X.K H b ws)
    {A : Around} (hu : A.units + 1 + min (deps xs) (deps ys) < cLine) : SeqAt.RcNeAt A s (.ref a) (.ref b) (!eqDs xs ys) := by
  obtain ⟨its, rv, p, _⟩ := I.list r1
  obtain ⟨its2, rv2, p2, _⟩ := I.list r2
  have n1 : its.length = xs.length := by rw [← rv.length, q1.length]
  have n2 : its2.length = ys.length := by rw [← rv2.length, q2.length]
  have he : ∀ j (j1 : j < its.toArray.size) (j2 : j < its2.toArray.size), SeqAt.EqAt A.in1 s its.toArray[j] its2.toArray[j] (pairE xs ys j) := fun j j1 j2 => by
    have z1 : j < its.length := by simpa using j1
    have z2 : j < its2.length := by simpa using j2
    have := eqAtDs I xs ys A.in1 vs ws its its2 h1 h2 q1 q2 rv rv2 hu j z1 z2
    simpa using this
  by_cases hsz : its.toArray.size = its2.toArray.size
  · have hsz' : xs.length = ys.length := by simpa [n1, n2] using hsz
    have e := eqDs_eq xs ys
    rw [← hsz', Nat.min_self] at e
    have e2 : (List.range xs.length).all (pairE xs ys) = eqDs xs ys := by simpa using e
    rw [← e2, ← n1, ← List.size_toArray]
    exact SeqAt.RcNeAt.lists p.isList p2.isList hsz (by omega) he
  · have hsz' : xs.length ≠ ys.length := by simpa [n1, n2] using hsz
    have e : eqDs xs ys = false := by
      rw [← eqDs_eq]
      simp [hsz']
    rw [e]
    exact SeqAt.RcNeAt.lists_lengths p.isList p2.isList (by simpa using hsz) (by omega)
theorem eqO_ne {pins : List (Addr × Obj)} {σ : L2.St} {H : Hp} {s : Shared} {r : List Addr} {st : Store} (I : Inv X pins σ H s) (hr : HR X.K X.mg H r st) {a b : D} {k : Bool} {x y : V} {v u : Value} (e : eqO a b st = some k)
    (pa : Rp X.K H r a x) (pb : Rp X.K H r b y) (rx : RelV x v) (ry : RelV y u) (hu : X.A.units + 2000 < cLine) : SeqAt.RcNeAt X.A s v u (!k) := by
  by_cases hab : ∃ n m, a = .adr n ∧ b = .adr m
  · obtain ⟨n, m, rfl, rfl⟩ := hab
    have e' : (match lstAt st n, lstAt st m with
      | some xs, some ys => if purs xs = true ∧ purs ys = true ∧ min (deps xs) (deps ys) < deepLine then some (eqDs xs ys) else none
      | _, _ => none) = some k := e
    cases h1 : lstAt st n with
    | none => rw [h1] at e'; cases e'
    | some xs =>
      cases h2 : lstAt st m with
      | none => rw [h1, h2] at e'; cases e'
      | some ys =>
        rw [h1, h2] at e'
        obtain ⟨⟨c1, c2, c3⟩, rfl⟩ := ite_some e'
        obtain ⟨a, vs, e1, e2, e3⟩ := hr.lst h1
        obtain ⟨b, ws, f1, f2, f3⟩ := hr.lst h2
        rw [Rp.adr_iff] at pa pb
        obtain ⟨a', q1, rfl⟩ := pa
        obtain ⟨b', q2, rfl⟩ := pb
        rw [e1] at q1; cases q1
        rw [f1] at q2; cases q2
        cases rx
        cases ry
        exact rcNeL I c1 c2 e3 f3 (SqL.of e2) (SqL.of f2) (by unfold deepLine at c3; omega)
  · have e' : (if pur a = true ∧ pur b = true ∧ min (dep a) (dep b) ≤ deepLine then some (eqD a b) else none) = some k := by
      unfold eqO at e
      split at e
      · rename_i n m
        exact absurd ⟨n, m, rfl, rfl⟩ hab
      · exact e
    obtain ⟨⟨c1, c2, c3⟩, rfl⟩ := ite_some e'
    exact rcNeD I c1 c2 pa pb rx ry (by unfold deepLine at c3; omega)
theorem m_ne (hu : X.A.units + 2000 < cLine) : OpM X (compareOp .NotEq) opNe := by
  intro pins s σ H x y v u Q I rx ry hq
  obtain ⟨r', st, a, b, d, st', hr, pa, pb, e, q⟩ := hq
  obtain ⟨k, e1, e2⟩ := Option.map_eq_some_iff.mp e
  cases e2
  exact eqO_ne I hr e1 pa pb rx ry hu _ _ _ _ ⟨.bl (!k), H, I, rfl, fin0 hr q (Rp.bl_iff.mpr rfl)⟩

/-! ### is None -/
def isN : D → Bool
  | .non => true
  | _ => false
theorem isN_of {K : PySem.W.Frag} {H : Hp} {r : List Addr} {d : D} {v : V} (p : Rp K H r d v) : decide (v = .non) = isN d := by
  cases d with
  | non => rw [Rp.non_iff] at p; subst p; rfl
  | bl _ => rw [Rp.bl_iff] at p; subst p; rfl
  | int _ => rw [Rp.int_iff] at p; subst p; rfl
  | str _ => rw [Rp.str_iff] at p; subst p; rfl
  | tup _ => rw [Rp.tup_iff] at p; obtain ⟨a, vs, rfl, _⟩ := p; rfl
  | fro _ => rw [Rp.fro_iff] at p; obtain ⟨a, vs, rfl, _⟩ := p; rfl
  | adr _ => rw [Rp.adr_iff] at p; obtain ⟨a, _, rfl⟩ := p; rfl
def opIs : Op2
  | d, .non, st => some (.bl (isN d), st)
  | _, _, _ => none
def opIsNot : Op2
  | d, .non, st => some (.bl (!isN d), st)
  | _, _, _ => none
theorem m_is : OpM X (compareOp .Is) opIs := by
  intro pins s σ H x y v u Q I rx ry hq
  obtain ⟨r', st, a, b, d, st', hr, pa, pb, e, q⟩ := hq
  cases b <;> first | (exfalso; simp [opIs] at e; done) | skip
  cases (show some (D.bl (isN a), st) = some (d, st') from e)
  rw [Rp.non_iff] at pb; subst pb
  exact op_isN pins s σ H _ _ v u Q I rx ry ⟨rfl, fin0 hr q (Rp.bl_iff.mpr (by rw [isN_of pa]))⟩
theorem m_isnot : OpM X (compareOp .IsNot) opIsNot := by
  intro pins s σ H x y v u Q I rx ry hq
  obtain ⟨r', st, a, b, d, st', hr, pa, pb, e, q⟩ := hq
  cases b <;> first | (exfalso; simp [opIsNot] at e; done) | skip
  cases (show some (D.bl (!isN a), st) = some (d, st') from e)
  rw [Rp.non_iff] at pb; subst pb
  exact op_notN pins s σ H _ _ v u Q I rx ry ⟨rfl, fin0 hr q (Rp.bl_iff.mpr (by rw [isN_of pa]))⟩

/-! ### in -/
def keyD : D → Option Key
  | .int i => some (.inl i)
  | .str s => some (.inr s)
  | _ => none
def lookD (kvs : List (Key × D)) (k : Key) : Option D := (kvs.find? fun kv => decide (kv.1 = k)).map (·.2)
def putD (kvs : List (Key × D)) (k : Key) (v : D) : List (Key × D) :=
  if (kvs.any fun kv => decide (kv.1 = k)) = true then kvs.map (fun kv => if kv.1 = k then (kv.1, v) else kv) else kvs ++ [(k, v)]
theorem lookD_nil {k : Key} : lookD [] k = none := rfl
theorem lookD_pos {p : Key × D} {r : List (Key × D)} {k : Key} (e : p.1 = k) : lookD (p :: r) k = some p.2 := by simp [lookD, List.find?_cons, e]
theorem lookD_neg {p : Key × D} {r : List (Key × D)} {k : Key} (e : ¬ p.1 = k) : lookD (p :: r) k = lookD r k := by simp [lookD, List.find?_cons, e]
def inO (a b : D) (st : Store) : Option Bool := match b with
  | .str z => match a with
    | .str c => if h : ∃ k, c = ⟨#[k]⟩ then some (decide (h.choose ∈ z.cps.toList)) else none
    | _ => none
  | .adr n => match dctAt st n with
    | some kvs => (keyD a).map fun k => (lookD kvs k).isSome
    | none => match lstAt st n with
      | some ys => if pur a = true ∧ purs ys = true ∧ dep a < deepLine then some (ys.any fun y => eqD y a) else none
      | none => none
  | b => match seqOf st b with
    | some ys => if pur a = true ∧ purs ys = true ∧ dep a < deepLine then some (ys.any fun y => eqD y a) else none
    | none => none
def opIn : Op2 := fun a b st => (inO a b st).map fun k => (.bl k, st)
def opNotIn : Op2 := fun a b st => (inO a b st).map fun k => (.bl (!k), st)
theorem purs_at : ∀ {ds : List D} {i : Nat} {z : D}, purs ds = true → ds[i]? = some z → pur z = true
  | [], _, _, _, h => by simp at h
  | a :: l, 0, z, hp, h => by
    unfold purs at hp
    rw [Bool.and_eq_true] at hp
    simp at h; subst h; exact hp.1
  | a :: l, i + 1, z, hp, h => by
    unfold purs at hp
    rw [Bool.and_eq_true] at hp
    exact purs_at (i := i) hp.2 (by simpa using h)
/-- the answer at an item -/
def itemE (us : List Value) (ds : List D) (d : D) (u : Value) : Bool :=
  if h : ∃ j : Nat, us[j]? = some u then (match ds[h.choose]? with | some y => eqD y d | none => false) else false
theorem itemE_at {pins : List (Addr × Obj)} {σ : L2.St} {H : Hp} {s : Shared} {r : List Addr} (I : Inv X pins σ H s) {ds : List D} {vs : List V} {us : List Value} (hp : purs ds = true) (q : RpL X.K H r ds vs) (rv : Vals vs us) (d : D) {j : Nat} {u : Value} {y : D}
    (hu : us[j]? = some u) (hy : ds[j]? = some y) : itemE us ds d u = eqD y d := by
  have ex : ∃ j : Nat, us[j]? = some u := ⟨j, hu⟩
  unfold itemE
  rw [dif_pos ex]
  have hc := ex.choose_spec
  have hlt : ex.choose < ds.length := by
    have h1 := (List.getElem?_eq_some_iff.mp hc).1
    rw [← rv.length, q.length] at h1
    exact h1
  obtain ⟨v1, e1, p1⟩ := q.get (List.getElem?_eq_getElem hlt)
  obtain ⟨v2, e2, p2⟩ := q.get hy
  obtain ⟨u1, f1, g1⟩ := rv.get e1
  obtain ⟨u2, f2, g2⟩ := rv.get e2
  rw [hc] at f1; cases f1
  rw [hu] at f2; cases f2
  have ev := g1.inj g2
  subst ev
  have ed := Rp.inj I _ _ _ (purs_at hp (List.getElem?_eq_getElem hlt)) (purs_at hp hy) p1 p2
  rw [List.getElem?_eq_getElem hlt, ed]
theorem any_itemE {pins : List (Addr × Obj)} {σ : L2.St} {H : Hp} {s : Shared} {r : List Addr} (I : Inv X pins σ H s) {ds : List D} {vs : List V} {us : List Value} (hp : purs ds = true) (q : RpL X.K H r ds vs) (rv : Vals vs us) (d : D) :
    us.any (itemE us ds d) = ds.any fun y => eqD y d := by
  have hl : us.length = ds.length := by rw [← rv.length, q.length]
  have e : us.map (itemE us ds d) = ds.map fun y => eqD y d := by
    apply List.ext_getElem?
    intro i
    rw [List.getElem?_map, List.getElem?_map]
    by_cases hi : i < us.length
    · have hi2 : i < ds.length := by omega
      rw [List.getElem?_eq_getElem hi, List.getElem?_eq_getElem hi2]
      show some (itemE us ds d us[i]) = some (eqD ds[i] d)
      rw [itemE_at I hp q rv d (List.getElem?_eq_getElem hi) (List.getElem?_eq_getElem hi2)]
    · rw [List.getElem?_eq_none (by omega), List.getElem?_eq_none (by omega)]
      rfl
  have e1 : us.any (itemE us ds d) = (us.map (itemE us ds d)).any id := by rw [List.any_map]; rfl
  have e2 : (ds.any fun y => eqD y d) = (ds.map fun y => eqD y d).any id := by rw [List.any_map]; rfl
  rw [e1, e2, e]
theorem mem_itemE {pins : List (Addr × Obj)} {σ : L2.St} {H : Hp} {s : Shared} {r : List Addr} (I : Inv X pins σ H s) {ds : List D} {vs : List V} {us : List Value} (hp : purs ds = true) (q : RpL X.K H r ds vs) (rv : Vals vs us) {d : D} {v : V} {u : Value} (hd : pur d = true) (pd : Rp X.K H r d v) (ru : RelV v u)
    {A : Around} (hu : A.units + dep d < cLine) : ∀ w ∈ us, SeqAt.EqAt A s w u (itemE us ds d w) := fun w hw => by
  obtain ⟨j, hj⟩ := List.getElem?_of_mem hw
  have hlt : j < ds.length := by
    have h1 := (List.getElem?_eq_some_iff.mp hj).1
    rw [← rv.length, q.length] at h1
    exact h1
  obtain ⟨v1, e1, p1⟩ := q.get (List.getElem?_eq_getElem hlt)
  obtain ⟨u1, f1, g1⟩ := rv.get e1
  rw [hj] at f1; cases f1
  rw [itemE_at I hp q rv d hj (List.getElem?_eq_getElem hlt)]
  exact eqAtD I _ d A v1 v w u (purs_at hp (List.getElem?_eq_getElem hlt)) hd p1 pd g1 ru (by omega)
/-- in, not in: what is asked of both -/
theorem in_seq {op : CmpOp} {f : Bool → Bool} (hL : ∀ {A : Around} {s : Shared} {l : Addr} {items : Array Value} {x : Value} {prog : Program} {w : World} {E : Value → Shared → Prop} {Q : Value → Shared → Prop} (e : Value → Bool), s.heap.IsList l items → (∀ y, y ∈ items → SeqAt.EqAt A.in1 s y x (e y)) → Q (.bool (f (items.any e))) s → wpAny (model prog w) A (compareOp op x (.ref l)) Q E s)
    (hT : ∀ {A : Around} {s : Shared} {l : Addr} {items : Array Value} {x : Value} {prog : Program} {w : World} {E : Value → Shared → Prop} {Q : Value → Shared → Prop} (e : Value → Bool), s.heap.IsTuple l items → (∀ y, y ∈ items → SeqAt.EqAt A.in1 s y x (e y)) → Q (.bool (f (items.any e))) s → wpAny (model prog w) A (compareOp op x (.ref l)) Q E s)
    (hu : X.A.units + 2000 < cLine) {pins : List (Addr × Obj)} {s : Shared} {σ : L2.St} {H : Hp} {r : List Addr} {st : Store} {Q : VK} {a b : D} {ys : List D} {x y : V} {v u : Value} (I : Inv X pins σ H s) (hr : HR X.K X.mg H r st) (pa : Rp X.K H r a x) (pb : Rp X.K H r b y) (rx : RelV x v) (ry : RelV y u)
    (e : seqOf st b = some ys) (c : pur a = true ∧ purs ys = true ∧ dep a < deepLine) (q : Q (.bl (f (ys.any fun z => eqD z a))) H) : wpAny (model X.prog X.w) X.A (compareOp op v u) (EP X pins σ Q) X.xe s := by
  obtain ⟨l, vs, rfl, sq, ls⟩ := hr.seqOf e pb
  cases ry
  have hu' : X.A.in1.units + dep a < cLine := by
    show X.A.units + 1 + dep a < cLine
    have := c.2.2
    unfold deepLine at this
    omega
  rcases sq with sq | sq
  · obtain ⟨its, rv, pl, hz⟩ := I.list sq
    refine hL (itemE its ys a) pl.isList (fun w hw => mem_itemE I c.2.1 ls rv c.1 pa rx hu' w (by simpa using hw)) ⟨.bl _, H, I, rfl, ?_⟩
    rw [show its.toArray.any (itemE its ys a) = its.any (itemE its ys a) by simp, any_itemE I c.2.1 ls rv]
    exact q
  · obtain ⟨its, rv, pl, hz⟩ := I.tuple sq
    refine hT (itemE its ys a) pl (fun w hw => mem_itemE I c.2.1 ls rv c.1 pa rx hu' w (by simpa using hw)) ⟨.bl _, H, I, rfl, ?_⟩
    rw [show its.toArray.any (itemE its ys a) = its.any (itemE its ys a) by simp, any_itemE I c.2.1 ls rv]
    exact q
theorem look_rel {K : PySem.W.Frag} {H : Hp} {r : List Addr} (k : Key) : ∀ {kvs : List (Key × D)} {ws : List (Key × V)}, RpP K H r kvs ws → (lookD kvs k = none ∧ valV ws k = none) ∨ ∃ d v, lookD kvs k = some d ∧ valV ws k = some v ∧ Rp K H r d v
  | [], ws, ⟨h1, _⟩ => by
    cases ws with
    | nil => exact .inl ⟨rfl, rfl⟩
    | cons w ws => cases h1
  | (k1, d1) :: kvs, ws, ⟨h1, h2⟩ => by
    cases ws with
    | nil => cases h1
    | cons w ws =>
      obtain ⟨k2, v2⟩ := w
      simp only [List.map_cons, List.cons.injEq] at h1
      obtain ⟨e, h1⟩ := h1
      subst e
      simp only [List.map_cons, RpL.cons_iff] at h2
      obtain ⟨_, _, e2, p2, h2⟩ := h2
      cases e2
      by_cases hk : k1 = k
      · subst hk
        exact .inr ⟨d1, v2, lookD_pos rfl, valV_pos rfl, p2⟩
      · rw [lookD_neg hk, valV_neg hk]
        exact look_rel k ⟨h1, h2⟩
theorem put_rel {K : PySem.W.Frag} {H : Hp} {r : List Addr} {k : Key} {d : D} {v : V} {kvs : List (Key × D)} {ws : List (Key × V)} (h : RpP K H r kvs ws) (p : Rp K H r d v) : RpP K H r (putD kvs k d) (putK ws k v) := by
  have any : (kvs.any fun kv => decide (kv.1 = k)) = (ws.any fun kv => decide (kv.1 = k)) := by
    have e1 : (kvs.any fun kv => decide (kv.1 = k)) = (kvs.map (·.1)).any fun x => decide (x = k) := by rw [List.any_map]; rfl
    have e2 : (ws.any fun kv => decide (kv.1 = k)) = (ws.map (·.1)).any fun x => decide (x = k) := by rw [List.any_map]; rfl
    rw [e1, e2, h.1]
  unfold putD putK
  rw [any]
  split
  · refine ⟨?_, ?_⟩
    · have e1 : (kvs.map fun kv => if kv.1 = k then (kv.1, d) else kv).map (·.1) = kvs.map (·.1) := by
        rw [List.map_map]
        apply List.map_congr_left
        intro a _
        show (if a.1 = k then (a.1, d) else a).1 = a.1
        split <;> rfl
      have e2 : (ws.map fun kv => if kv.1 = k then (kv.1, v) else kv).map (·.1) = ws.map (·.1) := by
        rw [List.map_map]
        apply List.map_congr_left
        intro a _
        show (if a.1 = k then (a.1, v) else a).1 = a.1
        split <;> rfl
      rw [e1, e2, h.1]
    · rename_i hh
      clear any hh
      obtain ⟨h1, h2⟩ := h
      induction kvs generalizing ws with
      | nil =>
        cases ws with
        | nil => exact RpL.nil
        | cons w ws => cases h1
      | cons a kvs ih =>
        cases ws with
        | nil => cases h1
        | cons w ws =>
          obtain ⟨k1, d1⟩ := a
          obtain ⟨k2, v2⟩ := w
          simp only [List.map_cons, List.cons.injEq] at h1
          obtain ⟨e, h1⟩ := h1
          subst e
          simp only [List.map_cons, RpL.cons_iff] at h2
          obtain ⟨_, _, e2, p2, h2⟩ := h2
          cases e2
          simp only [List.map_cons]
          refine RpL.cons ?_ (ih h1 h2)
          by_cases hk : k1 = k
          · rw [if_pos hk, if_pos hk]; exact p
          · rw [if_neg hk, if_neg hk]; exact p2
  · refine ⟨?_, ?_⟩
    · rw [List.map_append, List.map_append, h.1]; rfl
    · rw [List.map_append, List.map_append]
      exact h.2.append (RpL.one p)
theorem keyD_kV {K : PySem.W.Frag} {H : Hp} {r : List Addr} {d : D} {k : Key} {v : V} (e : keyD d = some k) (p : Rp K H r d v) : v = kV k := by
  cases d with
  | int i => cases e; rw [Rp.int_iff] at p; exact p
  | str i => cases e; rw [Rp.str_iff] at p; exact p
  | _ => cases e
theorem m_inn {op : CmpOp} {f : Bool → Bool} {fop : Op2} (hfop : ∀ a b st, fop a b st = (inO a b st).map fun k => (.bl (f k), st)) (hL : ∀ {A : Around} {s : Shared} {l : Addr} {items : Array Value} {x : Value} {prog : Program} {w : World} {E : Value → Shared → Prop} {Q : Value → Shared → Prop} (e : Value → Bool), s.heap.IsList l items → (∀ y, y ∈ items → SeqAt.EqAt A.in1 s y x (e y)) → Q (.bool (f (items.any e))) s → wpAny (model prog w) A (compareOp op x (.ref l)) Q E s)
    (hT : ∀ {A : Around} {s : Shared} {l : Addr} {items : Array Value} {x : Value} {prog : Program} {w : World} {E : Value → Shared → Prop} {Q : Value → Shared → Prop} (e : Value → Bool), s.heap.IsTuple l items → (∀ y, y ∈ items → SeqAt.EqAt A.in1 s y x (e y)) → Q (.bool (f (items.any e))) s → wpAny (model prog w) A (compareOp op x (.ref l)) Q E s)
    (hD : OpR X (compareOp op) (fun x y H Q => ∃ p k kvs, x = kV k ∧ y = .ref p ∧ H p = some (.dK kvs) ∧ Q (.bl (f (valV kvs k).isSome)) H))
    (hS : OpR X (compareOp op) (fun x y H Q => ∃ (c : Nat) (z : Str), x = .str ⟨#[c]⟩ ∧ y = .str z ∧ Q (.bl (f (decide (c ∈ z.cps.toList)))) H))
    (hu : X.A.units + 2000 < cLine) : OpM X (compareOp op) fop := by
  intro pins s σ H x y v u Q I rx ry hq
  obtain ⟨r', st, a, b, d, st', hr, pa, pb, e, q⟩ := hq
  rw [hfop] at e
  obtain ⟨k, e1, e2⟩ := Option.map_eq_some_iff.mp e
  cases e2
  have q' : Q (.bl (f k)) H := fin0 hr q (Rp.bl_iff.mpr rfl)
  have seq : ∀ ys, seqOf st b = some ys → (if pur a = true ∧ purs ys = true ∧ dep a < deepLine then some (ys.any fun y => eqD y a) else none) = some k → wpAny (model X.prog X.w) X.A (compareOp op v u) (EP X pins σ Q) X.xe s := fun ys hy e => by
    obtain ⟨c, rfl⟩ := ite_some e
    exact in_seq hL hT hu I hr pa pb rx ry hy c q'
  cases b with
  | str z =>
    cases a with
    | str c =>
      have e' : (if h : ∃ k, c = ⟨#[k]⟩ then some (decide (h.choose ∈ z.cps.toList)) else none) = some k := e1
      by_cases hc : ∃ k, c = ⟨#[k]⟩
      · rw [dif_pos hc] at e'
        cases e'
        rw [Rp.str_iff] at pa pb
        subst pb
        exact hS pins s σ H _ _ v u Q I rx ry ⟨hc.choose, z, by rw [pa]; exact congrArg V.str hc.choose_spec, rfl, q'⟩
      · rw [dif_neg hc] at e'
        cases e'
    | _ => cases e1
  | adr n =>
    have e' : (match dctAt st n with
      | some kvs => (keyD a).map fun k => (lookD kvs k).isSome
      | none => match lstAt st n with
        | some ys => if pur a = true ∧ purs ys = true ∧ dep a < deepLine then some (ys.any fun y => eqD y a) else none
        | none => none) = some k := e1
    cases hd : dctAt st n with
    | some kvs =>
      rw [hd] at e'
      obtain ⟨key, ek, ev⟩ := Option.map_eq_some_iff.mp e'
      obtain ⟨p, ws, f1, f2, f3⟩ := hr.dct hd
      rw [Rp.adr_iff] at pb
      obtain ⟨a', g1, rfl⟩ := pb
      rw [f1] at g1; cases g1
      have e3 : (valV ws key).isSome = k := by
        rcases look_rel key f3 with ⟨z1, z2⟩ | ⟨_, _, z1, z2, _⟩
        · rw [z2, ← ev, z1]; rfl
        · rw [z2, ← ev, z1]; rfl
      exact hD pins s σ H _ _ v u Q I rx ry ⟨p, key, ws, keyD_kV ek pa, rfl, f2, by rw [e3]; exact q'⟩
    | none =>
      rw [hd] at e'
      cases hl : lstAt st n with
      | some ys =>
        rw [hl] at e'
        exact seq ys hl e'
      | none => rw [hl] at e'; cases e'
  | tup ys => exact seq ys rfl e1
  | fro ys => exact seq ys rfl e1
  | _ => cases e1
theorem m_in (hu : X.A.units + 2000 < cLine) : OpM X (compareOp .In) opIn :=
  m_inn (f := fun b => b) (fun _ _ _ => rfl) (fun e hl he h => SeqAt.in_listAt e hl he h) (fun e hl he h => SeqAt.in_tupleAt e hl he h)
    (fun pins s σ H x y v u Q I rx ry ⟨p, k, kvs, ex, ey, hp, q⟩ => by
      subst ey
      obtain rfl : u = Value.ref p := ry
      exact d_in (by omega) I (DGet.k (k := k) hp) (by rw [← ex]; exact rx) fun s3 I3 => ⟨.bl _, H, I3, rfl, q⟩)
    op_in_sign hu
theorem m_notin (hu : X.A.units + 2000 < cLine) : OpM X (compareOp .NotIn) opNotIn :=
  m_inn (f := fun b => !b) (fun _ _ _ => rfl) (fun e hl he h => SeqAt.notIn_listAt e hl he h) (fun e hl he h => SeqAt.notIn_tupleAt e hl he h)
    (fun pins s σ H x y v u Q I rx ry ⟨p, k, kvs, ex, ey, hp, q⟩ => by
      subst ey
      obtain rfl : u = Value.ref p := ry
      exact d_notIn (by omega) I (DGet.k (k := k) hp) (by rw [← ex]; exact rx) fun s3 I3 => ⟨.bl _, H, I3, rfl, q⟩)
    op_notIn_sign hu
end
end Mi

namespace Mi
open PySem PySem.Spec PyProof.Rows L2
section
variable {prog : Program} {w : World} {A : Around} {E : Value → Shared → Prop} {s : Shared}
theorem fm_congr {α β : Type} {f g : α → Option β} : ∀ {l : List α}, (∀ x ∈ l, f x = g x) → l.filterMap f = l.filterMap g
  | [], _ => rfl
  | a :: l, h => by rw [List.filterMap_cons, List.filterMap_cons, h a List.mem_cons_self, fm_congr fun x hx => h x (List.mem_cons_of_mem _ hx)]
theorem pick_rev (xs : Array Value) : ((List.range xs.size).filterMap fun (m : Nat) => xs[(((xs.size : Int) - 1) + (m : Int) * (-1)).toNat]?).toArray = xs.toList.reverse.toArray := by
  have e : (List.range xs.size).filterMap (fun (m : Nat) => xs[(((xs.size : Int) - 1) + (m : Int) * (-1)).toNat]?) = (List.range xs.size).filterMap fun m => xs.reverse[((0 : Nat) : Int).toNat + m]? := by
    refine fm_congr fun m hm => ?_
    rw [List.mem_range] at hm
    rw [show ((0 : Nat) : Int).toNat + m = m by simp, Array.getElem?_reverse hm]
    congr 1
    omega
  rw [e]
  have := HT.pick_gen xs.reverse 0 xs.size
  have e2 : (fun (m : Nat) => xs.reverse[(((0 : Nat) : Int) + (m : Int) * 1).toNat]?) = fun m => xs.reverse[((0 : Nat) : Int).toNat + m]? := by
    funext m
    congr 1
    omega
  rw [e2] at this
  rw [this]
  rw [List.drop_zero, Array.toList_reverse, List.take_of_length_le (by rw [List.length_reverse, Array.length_toList]; exact Nat.le_refl _)]
theorem sliceApplied_rev {sl : Addr} {k : Tok} {n : Nat} {Q : Int × Int × Nat → Shared → Prop} (hs : s.heap.IsSliceOf sl .none .none (.int (-1) k))
    (h : Q ((n : Int) - 1, -1, n) s) : wpAny (model prog w) A (Builtin.Slice.sliceApplied (.ref sl) (pure (n : Int))) Q E s := by
  obtain ⟨os, hos, hcs, hds⟩ := id hs
  unfold Builtin.Slice.sliceApplied Builtin.Slice.sliceFields
  refine wpAny_bind (wpAny_bind (wpAny_field hos hds (x := .none) rfl (wpAny_bind (wpAny_field hos hds (x := .none) rfl (wpAny_bind (wpAny_field hos hds (x := .int (-1) k) rfl (wpAny_pure ?_)))))))
  refine wpAny_bind (slicePart_int ?_)
  show wpAny _ _ (if ((-1 : Int) == 0) = true then _ else _) _ _ s
  rw [if_neg (by decide)]
  refine wpAny_bind (slicePart_none (wpAny_bind (slicePart_none (wpAny_bind (wpAny_pure ?_)))))
  show wpAny _ _ (match Builtin.Slice.sliceAdjust none none (-1) (n : Int) with | (lo, hi) => pure (lo, (-1 : Int), Builtin.Slice.slicePlaces lo hi (-1))) _ _ s
  have e1 : Builtin.Slice.sliceAdjust none none (-1) (n : Int) = ((n : Int) - 1, -1) := rfl
  have e2 : Builtin.Slice.slicePlaces ((n : Int) - 1) (-1) (-1) = n := by
    unfold Builtin.Slice.slicePlaces
    rw [if_neg (by decide)]
    have e3 : (-(-1 : Int)) = 1 := by decide
    rw [e3, Int.ediv_one]
    split <;> omega
  rw [e1]
  show wpAny _ _ (pure ((n : Int) - 1, (-1 : Int), Builtin.Slice.slicePlaces ((n : Int) - 1) (-1) (-1))) _ _ s
  rw [e2]
  exact wpAny_pure h
theorem getItem_tuple_rev {t sl : Addr} {items : Array Value} {k : Tok} {Q : Value → Shared → Prop} (ht : IsTup s.heap t items) (hs : s.heap.IsSliceOf sl .none .none (.int (-1) k))
    (h : Q (.ref s.heap.objs.size) { s with heap := s.heap.push { cls := .type "tuple", data := .seq items.toList.reverse.toArray } })
    (hsz : items.size ≤ sizeLine) : wpAny (model prog w) A (getItem (.ref t) (.ref sl)) Q E s := by
  have htake : sizeOk (.seq items.toList.reverse.toArray) := by
    show items.toList.reverse.toArray.size ≤ sizeLine
    rw [List.size_toArray, List.length_reverse, Array.length_toList]
    exact hsz
  obtain ⟨os, hos, hcs, hds⟩ := id hs
  have hTs : s.TypeIs (.ref sl) "slice" := ⟨os, hos, hcs⟩
  unfold getItem
  try with_reducible refine wpAny_holding ?_
  first | refine wpAny_bind (wpAny_pure ?_) | skip
  refine wpAny_bind (wpAny_sequenceKey ht.typeIs (by decide) ?_)
  refine wpAny_bind (wpAny_callSpecial?_slot (name := Str.ofString "__getitem__") ht.typeIs PyProof.Rows.slot_tuple_getitem
    (wpAny_call_entry PyProof.Rows.slot_tuple_getitem ht.typeIs entry_tuple_getitem ?_ (args_tuple_getitem _ _)))
  show wpAny _ _ (Builtin.Tuple.tupleItemsOf (.ref t) >>= _) _ _ s
  refine wpAny_bind (tupleItemsOf_ ht ?_)
  refine wpAny_bind (wpAny_typeOf hTs ?_)
  rw [if_pos (by decide)]
  refine wpAny_bind (sliceApplied_rev hs ?_)
  show wpAny _ _ (if ((((items.size : Int) - 1)) == 0 && (-1 : Int) == 1 && items.size == items.size) = true then _ else _) _ _ s
  rw [if_neg (by rw [show ((-1 : Int) == 1) = false by decide, Bool.and_false, Bool.false_and]; exact Bool.false_ne_true), pick_rev]
  first
    | exact wpAny_bind (m := Builtin.Tuple.tupleExact _) (wpAny_newObj_type (wpAny_pure ⟨_, rfl, wpAny_pure h⟩) htake)
    | exact wpAny_bind (m := Builtin.Tuple.tupleExact _) (wpAny_newObj_type (wpAny_bind (wpAny_pure (wpAny_pure ⟨_, rfl, wpAny_pure h⟩))) htake)
    | exact wpAny_bind (wpAny_bind (m := Builtin.Tuple.tupleExact _) (wpAny_newObj_type (wpAny_pure (wpAny_pure ⟨_, rfl, wpAny_pure h⟩)) htake))
    | exact wpAny_bind (wpAny_bind (m := Builtin.Tuple.tupleExact _) (wpAny_newObj_type (wpAny_pure ⟨_, rfl, wpAny_pure h⟩) htake))
end
noncomputable section
open Classical
variable {X : Cx}
/-! ### a place -/
def opIx : Op2 := fun a i st => match i with
  | .int k => match seqOf st a with
    | some xs => (atI xs k).map fun d => (d, st)
    | none => match a with
      | .str z => if z.length ≤ sizeLine then (atI z.cps.toList k).map fun c => (.str ⟨#[c]⟩, st) else none
      | .adr n => match dctAt st n with
        | some kvs => (lookD kvs (.inl k)).map fun d => (d, st)
        | none => none
      | _ => none
  | .str k => match a with
    | .adr n => match dctAt st n with
      | some kvs => (lookD kvs (.inr k)).map fun d => (d, st)
      | none => none
    | _ => none
  | _ => none
theorem atI_rel {K : PySem.W.Frag} {H : Hp} {r : List Addr} {ds : List D} {vs : List V} (h : RpL K H r ds vs) {k : Int} {d : D} (e : atI ds k = some d) : ∃ v, atI vs k = some v ∧ Rp K H r d v := by
  unfold atI at e ⊢
  rw [h.length]
  cases q : ixN ds.length k with
  | none => rw [q] at e; cases e
  | some j =>
    rw [q] at e
    exact h.get e
theorem ix_dict (hu : X.A.units + 2000 < cLine) : IxR X (fun x y H Q => ∃ a v, x = .ref a ∧ DGet H a y (some v) ∧ Q v H) := by
  intro value slice pins s σ H x y v u Q I rx ry h hs
  obtain ⟨a, z, rfl, g, q⟩ := h
  obtain rfl : v = Value.ref a := rx
  exact tail_any (dict_typeIs I g) PySem.F.slot_dict_getitem.lookup (d_getItem (by omega) I g ry fun w' s3 I3 rw' => ⟨z, H, I3, rw', q⟩) hs
theorem m_ix (hu : X.A.units + 2000 < cLine) : IxM X opIx := by
  intro value slice pins s σ H x y v u Q I rx ry hq hs
  obtain ⟨r', st, a, b, d, st', hr, pa, pb, e, q⟩ := hq
  have dict : ∀ (n : Nat) (key : Key), a = .adr n → (match dctAt st n with | some kvs => (lookD kvs key).map fun d => (d, st) | none => none) = some (d, st') → y = kV key → wpAny (model X.prog X.w) X.A (subscriptTail value slice v u) (EP X pins σ Q) X.xe s := by
    intro n key ea e' ey
    subst ea
    cases hd : dctAt st n with
    | none => rw [hd] at e'; cases e'
    | some kvs =>
      rw [hd] at e'
      obtain ⟨z, ez, e2⟩ := Option.map_eq_some_iff.mp e'
      cases e2
      obtain ⟨p, ws, f1, f2, f3⟩ := hr.dct hd
      rw [Rp.adr_iff] at pa
      obtain ⟨a', g1, rfl⟩ := pa
      rw [f1] at g1; cases g1
      rcases look_rel key f3 with ⟨z1, z2⟩ | ⟨d2, v2, z1, z2, z3⟩
      · rw [z1] at ez; cases ez
      · rw [z1] at ez; cases ez
        subst ey
        exact ix_dict hu value slice pins s σ H _ _ v u Q I rx ry ⟨p, v2, rfl, by rw [← z2]; exact DGet.k f2, fin0 hr q z3⟩ hs
  cases b with
  | int k =>
    have pb' := pb
    rw [Rp.int_iff] at pb
    subst pb
    have e' := e
    unfold opIx at e'
    dsimp only at e'
    cases hsq : seqOf st a with
    | some xs =>
      rw [hsq] at e'
      dsimp only at e'
      obtain ⟨z, ez, e2⟩ := Option.map_eq_some_iff.mp e'
      cases e2
      obtain ⟨l, vs, rfl, sq, ls⟩ := hr.seqOf hsq pa
      obtain ⟨v2, ev, pv⟩ := atI_rel ls ez
      rcases sq with sq | sq
      · exact ix_list value slice pins s σ H _ _ v u Q I rx ry ⟨l, vs, k, v2, rfl, rfl, sq, ev, fin0 hr q pv⟩ hs
      · exact ix_tup value slice pins s σ H _ _ v u Q I rx ry ⟨l, vs, k, v2, rfl, rfl, sq, ev, fin0 hr q pv⟩ hs
    | none =>
      rw [hsq] at e'
      dsimp only at e'
      cases a with
      | str z =>
        obtain ⟨c, e2⟩ : z.length ≤ sizeLine ∧ ((atI z.cps.toList k).map fun c => (D.str ⟨#[c]⟩, st)) = some (d, st') := by
          have e3 : (if z.length ≤ sizeLine then (atI z.cps.toList k).map fun c => (D.str ⟨#[c]⟩, st) else none) = some (d, st') := e'
          by_cases hc : z.length ≤ sizeLine
          · rw [if_pos hc] at e3; exact ⟨hc, e3⟩
          · rw [if_neg hc] at e3; cases e3
        obtain ⟨cc, ez, e4⟩ := Option.map_eq_some_iff.mp e2
        cases e4
        rw [Rp.str_iff] at pa
        subst pa
        exact ix_str value slice pins s σ H _ _ v u Q I rx ry ⟨z, k, cc, rfl, rfl, c, ez, fin0 hr q (Rp.str_iff.mpr rfl)⟩ hs
      | adr n => exact dict n (.inl k) rfl e' rfl
      | _ => cases e'
  | str k =>
    rw [Rp.str_iff] at pb
    subst pb
    cases a with
    | adr n => exact dict n (.inr k) rfl e rfl
    | _ => cases e
  | _ => cases e

/-! ### slices -/
def cutD (xs : List D) (lo hi : Option Int) : List D := (xs.drop (HT.sIx xs.length 0 lo)).take (HT.sIx xs.length xs.length hi - HT.sIx xs.length 0 lo)
theorem cut_rel {K : PySem.W.Frag} {H : Hp} {r : List Addr} {ds : List D} {vs : List V} (h : RpL K H r ds vs) (lo hi : Option Int) : RpL K H r (cutD ds lo hi) (cutV vs lo hi) := by
  unfold cutD cutV
  rw [h.length]
  exact (h.drop _).take _
theorem cut_whole {xs : List D} {lo hi : Option Int} (h : HT.sIx xs.length 0 lo = 0 ∧ HT.sIx xs.length xs.length hi = xs.length) : cutD xs lo hi = xs := by
  unfold cutD
  rw [h.1, h.2]
  simp
def opSl (a : D) (lo hi : Option Int) (st : Store) : Option (D × Store) := match a with
  | .tup xs => some (.tup (cutD xs lo hi), st)
  | .str z => if z.length ≤ sizeLine then some (.str (cutS z lo hi), st) else none
  | a => (seqL st a).map fun xs => (.adr st.length, st ++ [.lst (cutD xs lo hi)])
def rSlM (K : PySem.W.Frag) (mg : Str → Option Value) : V → Option Int → Option Int → Hp → VK → Prop := fun x lo hi H Q => ∃ r st a d st', HR K mg H r st ∧ Rp K H r a x ∧ opSl a lo hi st = some (d, st') ∧ ∀ v H' r', Grow K mg H r st' H' r' → Rp K H' r' d v → Q v H'
theorem sl_tupF : SlR X (fun x lo hi H Q => ∃ a xs, x = .ref a ∧ SqT X.K H a xs ∧ (HT.sIx xs.length 0 lo = 0 ∧ HT.sIx xs.length xs.length hi = xs.length → Q (.ref a) H) ∧
    (¬ (HT.sIx xs.length 0 lo = 0 ∧ HT.sIx xs.length xs.length hi = xs.length) → ∀ p its, H p = none → Q (.ref p) (upd H p (.frz (tupO its 0) (.tup (cutV xs lo hi)))))) := by
  intro pins s σ H x v vl vu lo hi sl Q I rx hs pl pu h
  obtain ⟨a, xs, rfl, hx, q1, q2⟩ := h
  cases rx
  obtain ⟨its, r, ht, hz⟩ := I.tuple hx
  have hlen : its.toArray.size = xs.length := by rw [List.size_toArray]; exact r.length.symm
  refine ⟨"tuple", _, PyProof.Rows.slot_tuple_getitem.lookup, ht.typeIs, ?_⟩
  by_cases hw : HT.sIx xs.length 0 lo = 0 ∧ HT.sIx xs.length xs.length hi = xs.length
  · exact getItem_tuple_whole ht hs pl pu (by rw [hlen]; exact hw) ⟨.ref a, H, I, rfl, q1 hw⟩
  · refine HT.getItem_tuple_cut ht hs pl pu (by rw [hlen]; exact hw) ?_ (by rw [hlen]; exact hz)
    rw [hlen]
    exact ⟨.ref s.heap.objs.size, _, laidT (t' := s.toks) I (fun b ob q => Heap.get?_push_of_some _ q) (Nat.le_refl _) (Heap.get?_push_size _ rfl) ((r.drop (HT.sIx xs.length 0 lo)).take (HT.sIx xs.length xs.length hi - HT.sIx xs.length 0 lo)) (Nat.le_trans (cutV_length xs lo hi) hz), rfl, q2 hw _ _ (I.hok.fresh (Nat.le_refl _))⟩
theorem m_sl : SlR X (rSlM X.K X.mg) := by
  intro pins s σ H x v vl vu lo hi sl Q I rx hs pl pu h
  obtain ⟨r', st, a, d, st', hr, pa, e, q⟩ := h
  have lists : ∀ xs, seqL st a = some xs → ((seqL st a).map fun xs => (D.adr st.length, st ++ [O.lst (cutD xs lo hi)])) = some (d, st') → ∃ T id, typeLookup (.type T) "__getitem__" = pure (some (.builtin id)) ∧ s.TypeIs v T ∧ wpAny (model X.prog X.w) X.A (getItem v (.ref sl)) (EP X pins σ Q) X.xe s := by
    intro xs hx e
    rw [hx] at e
    cases e
    obtain ⟨l, vs, rfl, sq, ls⟩ := hr.seqL hx pa
    exact sl_list pins s σ H _ v vl vu lo hi sl Q I rx hs pl pu ⟨l, vs, rfl, sq, fun p hp => finL hr q (cut_rel ls lo hi) hp⟩
  cases a with
  | tup xs =>
    cases (show some (D.tup (cutD xs lo hi), st) = some (d, st') from e)
    have pa' := pa
    rw [Rp.tup_iff] at pa
    obtain ⟨l, vs, rfl, t, ls⟩ := pa
    refine sl_tupF pins s σ H _ v vl vu lo hi sl Q I rx hs pl pu ⟨l, vs, rfl, t.seq, fun hw => ?_, fun _ p _ hp => finT hr q (cut_rel ls lo hi) hp⟩
    rw [ls.length] at hw
    rw [cut_whole hw] at q
    exact fin0 hr q pa'
  | str z =>
    obtain ⟨c, e⟩ := ite_some (show (if z.length ≤ sizeLine then some (D.str (cutS z lo hi), st) else none) = some (d, st') from e)
    cases e
    rw [Rp.str_iff] at pa
    subst pa
    exact sl_str pins s σ H _ v vl vu lo hi sl Q I rx hs pl pu ⟨z, rfl, c, fin0 hr q (Rp.str_iff.mpr rfl)⟩
  | adr n =>
    have e' : ((seqL st (.adr n)).map fun xs => (D.adr st.length, st ++ [O.lst (cutD xs lo hi)])) = some (d, st') := e
    cases hx : seqL st (.adr n) with
    | none => rw [hx] at e'; cases e'
    | some xs => exact lists xs hx e'
  | fro n =>
    have e' : ((seqL st (.fro n)).map fun xs => (D.adr st.length, st ++ [O.lst (cutD xs lo hi)])) = some (d, st') := e
    exact lists n rfl e'
  | _ => cases e
def opRev : Op1
  | .tup xs, st => some (.tup xs.reverse, st)
  | a, st => (seqL st a).map fun xs => (.adr st.length, st ++ [.lst xs.reverse])
end
end Mi

namespace Mi
open PySem PySem.Spec PyProof.Rows L2
noncomputable section
open Classical
variable {X : Cx} {W : WX}

/-! ### expressions -/
def eV (i : Nat) : Ex := fun env st => match env[i]? with
  | some (some d) => .ok d st
  | _ => .no
def eC (d : D) : Ex := fun _ st => .ok d st
def eBin (op : Op2) (fa fb : Ex) : Ex := fun env st => (fa env st).bind fun a s1 => (fb env s1).bind fun b s2 => Rs.ofO (op a b s2)
def eUn (op : Op1) (fa : Ex) : Ex := fun env st => (fa env st).bind fun a s1 => Rs.ofO (op a s1)
def aNil : Fx (List D) := fun _ st => .ok [] st
def aCons (fa : Ex) (fr : Fx (List D)) : Fx (List D) := fun env st => (fa env st).bind fun a s1 => (fr env s1).bind fun as s2 => .ok (a :: as) s2
def eTup (fa : Fx (List D)) : Ex := fun env st => (fa env st).bind fun as s1 => if as.length ≤ 1000 then .ok (.tup as) s1 else .no
def eLst (fa : Fx (List D)) : Ex := fun env st => (fa env st).bind fun as s1 => if as.length ≤ 1000 then .ok (.adr s1.length) (s1 ++ [.lst as]) else .no
def eBi (op : OpN) (fa : Fx (List D)) : Ex := fun env st => (fa env st).bind fun as s1 => Rs.ofO (op as s1)
def eMeth (ty : D → Store → Bool) (op : D → OpN) (fo : Ex) (fa : Fx (List D)) : Ex := fun env st => (fo env st).bind fun a s1 => if ty a s1 = true then (fa env s1).bind fun as s2 => Rs.ofO (op a as s2) else .no
def truD (d : D) (st : Store) : Option Bool := match d with
  | .non => some false
  | .bl b => some b
  | .int i => some (i != 0)
  | .str s => if s.length ≤ sizeLine then some ((s.length : Int) != 0) else none
  | .tup xs => some (!xs.isEmpty)
  | .fro xs => some (!xs.isEmpty)
  | .adr n => match st[n]? with
    | some (.lst xs) => some (!xs.isEmpty)
    | some (.dct xs) => some (!xs.isEmpty)
    | _ => none
def tTru (fa : Ex) : Fx Bool := fun env st => (fa env st).bind fun a s1 => Rs.ofO ((truD a s1).map fun b => (b, s1))
def isB : D → Option Bool
  | .bl b => some b
  | _ => none
/-- a comparison as a test -/
def tCmp (op : Op2) (fa fb : Ex) : Fx Bool := fun env st => (eBin op fa fb env st).bind fun d s1 => Rs.ofO ((isB d).map fun b => (b, s1))
def tAnd (fa fb : Fx Bool) : Fx Bool := fun env st => (fa env st).bind fun b s1 => if b = true then fb env s1 else .ok false s1
def tOr (fa fb : Fx Bool) : Fx Bool := fun env st => (fa env st).bind fun b s1 => if b = true then .ok true s1 else fb env s1
def tNot (fa : Fx Bool) : Fx Bool := fun env st => (fa env st).bind fun b s1 => .ok (!b) s1
def eAnd (fa fb : Ex) : Ex := fun env st => (fa env st).bind fun a s1 => (Rs.ofO ((truD a s1).map fun b => (b, s1))).bind fun b s2 => if b = true then fb env s2 else .ok a s2
def eOr (fa fb : Ex) : Ex := fun env st => (fa env st).bind fun a s1 => (Rs.ofO ((truD a s1).map fun b => (b, s1))).bind fun b s2 => if b = true then .ok a s2 else fb env s2
def eNot (fa : Ex) : Ex := fun env st => (fa env st).bind fun a s1 => Rs.ofO ((truD a s1).map fun b => (.bl (!b), s1))
def eIf (c : Fx Bool) (fa fb : Ex) : Ex := fun env st => (c env st).bind fun b s1 => if b = true then fa env s1 else fb env s1
/-- a op b op' c -/
def eChain (op op' : Op2) (fa fb fc : Ex) : Ex := fun env st => (fa env st).bind fun a s1 => (fb env s1).bind fun b s2 => (Rs.ofO (op a b s2)).bind fun d s3 => (Rs.ofO ((isB d).map fun k => (k, s3))).bind fun k s4 =>
  if k = true then (fc env s4).bind fun c s5 => Rs.ofO (op' b c s5) else .ok (.bl false) s4
def tOf (fa : Ex) : Fx Bool := fun env st => (fa env st).bind fun d s1 => Rs.ofO ((isB d).map fun b => (b, s1))
def oNo : Fx (Option Int) := fun _ st => .ok none st
def oSo (fa : Ex) : Fx (Option Int) := fun env st => (fa env st).bind fun a s1 => match a with
  | .int i => .ok (some i) s1
  | _ => .no
def eSl (fa : Ex) (fl fh : Fx (Option Int)) : Ex := fun env st => (fa env st).bind fun a s1 => (fl env s1).bind fun l s2 => (fh env s2).bind fun h s3 => Rs.ofO (opSl a l h s3)

/-! ### soundness -/
theorem tM_of {f : Ex} {σ : L2.St} {H : Hp} {Q : VK} (h : tM X W f σ H Q) : ∃ env r st, ER X.K H r env σ ∧ HR X.K X.mg H r st ∧ PstG X.K X.mg W (RV X) H r σ (f env st) Q := h
/-- a result at hand -/
theorem pst_ok {α β : Type} {R : Hp → List Addr → α → β → Prop} {H : Hp} {r : List Addr} {σ : L2.St} {a : α} {st : Store} {v : β} {Q : β → Hp → Prop} (hr : HR X.K X.mg H r st) (p : PstG X.K X.mg W R H r σ (.ok a st) Q) (q : R H r a v) : Q v H :=
  p v H r (Grow.refl hr) q
theorem m_var {e : Expr} {i : Nat} (h : PE X e (tVar i)) : PEm X W e (eV i) := PE.imp h fun σ H Q q => by
  obtain ⟨env, r, st, er, hr, p⟩ := q
  unfold eV at p
  split at p
  · rename_i d hd
    obtain ⟨v, e1, e2⟩ := er.at_ i d hd
    exact ⟨v, e1, pst_ok hr p e2⟩
  · exact p.elim
theorem m_c {e : Expr} {d : D} {v : V} (h : PE X e (tC v)) (q : ∀ H r, Rp X.K H r d v) : PEm X W e (eC d) := PE.imp h fun σ H Q p => by
  obtain ⟨env, r, st, er, hr, p⟩ := p
  exact pst_ok hr p (q H r)
theorem m_int {i : Int} {j pos} : PEm X W (.Constant (.int i) j pos) (eC (.int i)) := m_c pe_int fun _ _ => Rp.int_iff.mpr rfl
theorem m_bl {i : Bool} {j pos} : PEm X W (.Constant (.bool i) j pos) (eC (.bl i)) := m_c pe_bl fun _ _ => Rp.bl_iff.mpr rfl
theorem m_str {i : Str} {j pos} : PEm X W (.Constant (.str i) j pos) (eC (.str i)) := m_c pe_str fun _ _ => Rp.str_iff.mpr rfl
theorem m_non {j pos} : PEm X W (.Constant .none j pos) (eC .non) := m_c pe_non fun _ _ => Rp.non_iff.mpr rfl
/-- an operation's end -/
theorem ofO_fin {σ : L2.St} {H : Hp} {r : List Addr} {z : Option (D × Store)} {Q : VK} (p : PstG X.K X.mg W (RV X) H r σ (Rs.ofO z) Q) : ∃ d st', z = some (d, st') ∧ ∀ v H' r', Grow X.K X.mg H r st' H' r' → Rp X.K H' r' d v → Q v H' := by
  cases z with
  | none => exact p.elim
  | some y =>
    obtain ⟨d, st'⟩ := y
    exact ⟨d, st', rfl, p⟩
theorem ofB_fin {σ : L2.St} {H : Hp} {r : List Addr} {st : Store} {z : Option Bool} {Q : Bool → Hp → Prop} (hr : HR X.K X.mg H r st) (p : PstG X.K X.mg W RB H r σ (Rs.ofO (z.map fun b => (b, st))) Q) : ∃ b, z = some b ∧ Q b H := by
  cases z with
  | none => exact p.elim
  | some b => exact ⟨b, rfl, p b H r (Grow.refl hr) rfl⟩
theorem tG_mono {α β : Type} {R : Hp → List Addr → α → β → Prop} {f : Fx α} {σ : L2.St} {H : Hp} {Q Q' : β → Hp → Prop} (h : tG X W R f σ H Q) (i : ∀ v H, Q v H → Q' v H) : tG X W R f σ H Q' := by
  obtain ⟨env, r, st, er, hr, p⟩ := h
  refine ⟨env, r, st, er, hr, ?_⟩
  cases e : f env st with
  | ok a st' => rw [e] at p; exact fun v H' r' g q => i _ _ (p v H' r' g q)
  | ex a st' => rw [e] at p; exact p
  | no => rw [e] at p; exact p
/-- evaluate fa, keeping the relation of its value: what is asked next may speak of it -/
theorem tG_seq {α β γ δ : Type} {Ra : Hp → List Addr → α → β → Prop} {Rc : Hp → List Addr → γ → δ → Prop} {fa : Fx α} {k : α → Fx γ} {σ : L2.St} {H : Hp} {Q : δ → Hp → Prop} {P : β → Hp → Prop}
    (h : tG X W Rc (fun env st => (fa env st).bind fun a s1 => k a env s1) σ H Q)
    (n : ∀ a x H1 env r st, ER X.K H1 r env σ → HR X.K X.mg H1 r st → Ra H1 r a x → PstG X.K X.mg W Rc H1 r σ (k a env st) Q → P x H1) : tG X W Ra fa σ H P :=
  tG_mono (tG_bind (R := Ra) h) fun x H1 ⟨env, r, st, a, er, hr, ra, p⟩ => n a x H1 env r st er hr ra p
/-- the same for a second value; the first one's relation is carried over -/
theorem tG_then {α β γ δ : Type} {Ra : Hp → List Addr → α → β → Prop} {Rc : Hp → List Addr → γ → δ → Prop} {fa : Fx α} {k : α → Store → Rs γ} {σ : L2.St} {H : Hp} {env : MEnv} {r : List Addr} {st : Store} {Q : δ → Hp → Prop} {P : β → Hp → Prop}
    (er : ER X.K H r env σ) (hr : HR X.K X.mg H r st) (p : PstG X.K X.mg W Rc H r σ ((fa env st).bind fun a s1 => k a s1) Q)
    (n : ∀ a x H1 r1 s1, Ext X.K H H1 → r <+: r1 → ER X.K H1 r1 env σ → HR X.K X.mg H1 r1 s1 → Ra H1 r1 a x → PstG X.K X.mg W Rc H1 r1 σ (k a s1) Q → P x H1) : tG X W Ra fa σ H P := by
  refine ⟨env, r, st, er, hr, ?_⟩
  cases e : fa env st with
  | ok a st' =>
    rw [e] at p
    exact fun v H' r' g q => n a v H' r' st' g.1 g.2.1 (er.mono g.1 g.2.1) g.2.2 q (PstG.base p g)
  | ex a st' => rw [e] at p; exact p
  | no => rw [e] at p; exact p
theorem bin_imp {op : Op2} {fa fb : Ex} {σ : L2.St} {H : Hp} {Q : VK} (h : tM X W (eBin op fa fb) σ H Q) : tOp (rOp X.K X.mg op) (tM X W fa) (tM X W fb) σ H Q := by
  refine tG_seq h fun a x H1 env r st er hr ra p => ?_
  refine tG_then er hr p fun b y H2 r1 s1 e1 e2 er2 hr2 rb p2 => ?_
  obtain ⟨d, st', e3, q⟩ := ofO_fin p2
  exact ⟨r1, s1, a, b, d, st', hr2, Rp.mono e1 e2 _ _ ra, rb, e3, q⟩
theorem m_bin {o : Operator} {op : Op2} {a b : Expr} {fa fb : Ex} {pos} (ho : OpM X (binaryOp o) op) (ha : PEm X W a fa) (hb : PEm X W b fb) : PEm X W (.BinOp a o b pos) (eBin op fa fb) := PE.imp (pe_op ho ha hb) fun _ _ _ h => bin_imp h
theorem m_cmp {o : CmpOp} {op : Op2} {a b : Expr} {fa fb : Ex} {pos} (ho : OpM X (compareOp o) op) (ha : PEm X W a fa) (hb : PEm X W b fb) (hm : behindInMarks o b = false) : PEm X W (.Compare a [o] [b] pos) (eBin op fa fb) := PE.imp (pe_cmpR ho ha hb hm) fun _ _ _ h => bin_imp h
theorem m_tcmp {o : CmpOp} {op : Op2} {a b : Expr} {fa fb : Ex} {pos} (ho : OpM X (compareOp o) op) (ha : PEm X W a fa) (hb : PEm X W b fb) (hm : behindInMarks o b = false) : PTm X W (.Compare a [o] [b] pos) (tCmp op fa fb) := PT.imp (pt_cmpR ho ha hb hm) fun σ H Q h => by
  refine bin_imp ?_
  refine tG_seq (Ra := RV X) h fun d x H1 env r st er hr rd p => ?_
  obtain ⟨b, e, q⟩ := ofB_fin hr p
  cases d with
  | bl k =>
    obtain rfl : k = b := Option.some.inj e
    replace rd := Rp.bl_iff.mp rd
    exact ⟨k, rd, q⟩
  | _ => cases e
theorem m_ixe {a b : Expr} {fa fb : Ex} {pos} (hu : X.A.units + 2000 < cLine) (ha : PEm X W a fa) (hb : PEm X W b fb) (hs : PlainIx b) : PEm X W (.Subscript a b pos) (eBin opIx fa fb) := PE.imp (pe_ix (m_ix hu) ha hb hs) fun _ _ _ h => bin_imp h
theorem m_un {o : UnaryOp} {op : Op1} {a : Expr} {fa : Ex} {pos} (ho : UnM X (unaryOp o) op) (ha : PEm X W a fa) : PEm X W (.UnaryOp o a pos) (eUn op fa) := PE.imp (pe_un ho ha) fun σ H Q h => by
  refine tG_seq h fun a x H1 env r st er hr ra p => ?_
  obtain ⟨d, st', e3, q⟩ := ofO_fin p
  exact ⟨r, st, a, d, st', hr, ra, e3, q⟩
theorem m_anil : PAm X W [] aNil := PA.imp pa_nil fun σ H Q ⟨env, r, st, er, hr, p⟩ => pst_ok hr p RpL.nil
theorem m_acons {e : Expr} {es : List Expr} {fa : Ex} {fr : Fx (List D)} (ha : PEm X W e fa) (hr : PAm X W es fr) (hs : starEach (e :: es) X.env = (false, eval e X.env) :: starEach es X.env := by rfl) : PAm X W (e :: es) (aCons fa fr) := PA.imp (pa_cons ha hr hs) fun σ H Q h => by
  refine tG_seq h fun a x H1 env r st er hr ra p => ?_
  refine tG_then er hr p fun b y H2 r1 s1 e1 e2 er2 hr2 rb p2 => ?_
  exact pst_ok hr2 p2 (RpL.cons (Rp.mono e1 e2 _ _ ra) rb)
theorem small_line {n : Nat} (h : n ≤ 1000) : n ≤ sizeLine := Nat.le_trans h (by decide)
theorem pe_tupF {es : List Expr} {t : TA} {x1 pos} (h : PA X es t) : PE X (.Tuple es x1 pos) (fun σ H Q => t σ H fun xs H1 => xs.length ≤ sizeLine ∧ ∀ p its, H1 p = none → Q (.ref p) (upd H1 p (.frz (tupO its 0) (.tup xs)))) := by
  refine ⟨fun pins s σ H Q I hq => ?_⟩
  refine wpAny_Tuple_spliced (thn (h.run pos pins s σ H _ I hq) fun us s1 ⟨xs, H1, I1, r, z, q⟩ => ⟨by rw [← r.length]; exact z, ?_⟩)
  exact ⟨.ref s1.heap.objs.size, _, laidT (t' := s1.toks) I1 (fun b u e => Heap.get?_push_of_some _ e) (Nat.le_refl _) (Heap.get?_push_size _ rfl) r z, rfl, q _ _ (I1.hok.fresh (Nat.le_refl _))⟩
theorem m_tup {es : List Expr} {fa : Fx (List D)} {x1 pos} (ha : PAm X W es fa) : PEm X W (.Tuple es x1 pos) (eTup fa) := PE.imp (pe_tupF ha) fun σ H Q h => by
  refine tG_seq (Ra := RVs X) h fun as xs H1 env r st er hr ra p => ?_
  split at p
  · rename_i hc
    refine ⟨by rw [ra.length]; exact small_line hc, fun a _ n => finT hr p ra n⟩
  · exact p.elim
theorem m_lst {es : List Expr} {fa : Fx (List D)} {pos} (ha : PAm X W es fa) : PEm X W (.List es pos) (eLst fa) := PE.imp (pe_lst ha) fun σ H Q h => by
  refine tG_seq (Ra := RVs X) h fun as xs H1 env r st er hr ra p => ?_
  split at p
  · rename_i hc
    refine ⟨by rw [ra.length]; exact small_line hc, fun a n => finL hr p ra n⟩
  · exact p.elim
def eDct0 : Ex := fun _ st => .ok (.adr st.length) (st ++ [.dct []])
theorem m_dct0 {pos : Pos} : PEm X W (.Dict [] [] pos) eDct0 := PE.imp pe_dnewK fun σ H Q ⟨env, r, st, er, hr, p⟩ a n => by
  exact p _ _ (r ++ [a]) ⟨Ext.fresh n, ⟨[a], rfl⟩, hr.new n ⟨[], upd_same, rfl, RpL.nil⟩⟩ (Rp.adr_iff.mpr ⟨a, by rw [← hr.len]; simp, rfl⟩)
theorem bi_imp {op : OpN} {fa : Fx (List D)} {σ : L2.St} {H : Hp} {Q : VK} (h : tM X W (eBi op fa) σ H Q) : tCB (rCl X.K X.mg op) (tA X W fa) σ H Q := by
  refine tG_seq (Ra := RVs X) h fun as xs H1 env r st er hr ra p => ?_
  obtain ⟨d, st', e3, q⟩ := ofO_fin p
  exact ⟨r, st, as, d, st', hr, ra, e3, q⟩
/-- a built-in function's call -/
theorem m_bi {x : Str} {id : String} {op : OpN} {e : Expr} {es : List Expr} {fa : Fx (List D)} {p pos : Pos} (hc : ClM X (.builtin id) op) (hg : Gl X x) (hm : X.mg x = none) (hv : bootBuiltins x = some (.builtin id)) (ha : PAm X W (e :: es) fa) (hn : x ≠ "__name__" := by decide) (hdb : (x == ("__debug__" : Str)) = false := by decide)
    (he : starEach (e :: es) X.env = (false, eval e X.env) :: starEach es X.env := by rfl) (hpl : (backTo pos (starEach es X.env)).any (·.1) = false := by rfl) : PEm X W (.Call (.Name x p) (e :: es) [] pos) (eBi op fa) :=
  PE.imp (pe_callB hc hg hm hv ha hn hdb he hpl) fun _ _ _ h => bi_imp h
theorem m_ty {x : Str} {T : String} {op : OpN} {e : Expr} {es : List Expr} {fa : Fx (List D)} {p pos : Pos} (hc : ClM X (.type T) op) (hg : Gl X x) (hm : X.mg x = none) (hv : bootBuiltins x = some (.type T)) (ha : PAm X W (e :: es) fa) (hn : x ≠ "__name__" := by decide) (hdb : (x == ("__debug__" : Str)) = false := by decide)
    (he : starEach (e :: es) X.env = (false, eval e X.env) :: starEach es X.env := by rfl) (hpl : (backTo pos (starEach es X.env)).any (·.1) = false := by rfl) : PEm X W (.Call (.Name x p) (e :: es) [] pos) (eBi op fa) :=
  PE.imp (pe_callTy hc hg hm hv ha hn hdb he hpl) fun _ _ _ h => bi_imp h
/-- a built-in method's call -/
def TyM (X : Cx) (T : String) (ty : D → Store → Bool) : Prop := ∀ a st H r x, HR X.K X.mg H r st → Rp X.K H r a x → ty a st = true → tyV X.K T x H
theorem m_meth {T id : String} {name : Str} {ty : D → Store → Bool} {op : D → OpN} {o e : Expr} {es : List Expr} {fo : Ex} {fa : Fx (List D)} {apos cpos : Pos} (hT : TyM X T ty) (pa : PlainAttrs T) (slot : Slot T name id) (hty : typeOf (.builtin id) = pure (.type "method_descriptor")) (hm : MdM X id op)
    (ho : PEm X W o fo) (ha : PAm X W (e :: es) fa)
    (hbase : attributeBase o name X.env (eval o X.env) = eval o X.env := by rfl)
    (hfew : ((backTo cpos (starEach (e :: es) X.env)).all (fun x => !x.1) && (backToKw cpos (keywordEach [] X.env)).all (fun x => x.1.isSome)
      && decide ((e :: es).length + ([] : List Keyword).length + (if ([] : List Keyword).isEmpty then 0 else 1) < 30)) = true := by rfl)
    (hline : (apos.endLine == cpos.line) = true := by rfl) (hs : starEach (e :: es) X.env = (false, eval e X.env) :: starEach es X.env := by rfl) (hplain : (backTo cpos (starEach es X.env)).any (·.1) = false := by rfl) :
    PEm X W (.Call (.Attribute o name apos) (e :: es) [] cpos) (eMeth ty op fo fa) := PE.imp (pe_bm pa slot hty hm ho ha hbase hfew hline hs hplain) fun σ H Q h => by
  refine tG_seq (Ra := RV X) h fun a x H1 env r st er hr ra p => ?_
  split at p
  · rename_i hc
    refine ⟨hT a st H1 r x hr ra hc, ?_⟩
    refine tG_then (Ra := RVs X) er hr p fun b y H2 r1 s1 e1 e2 er2 hr2 rb p2 => ?_
    obtain ⟨d, st', e3, q⟩ := ofO_fin p2
    exact ⟨r1, s1, a, b, d, st', hr2, Rp.mono e1 e2 _ _ ra, rb, e3, q⟩
  · exact p.elim
theorem m_meth0 {T id : String} {name : Str} {ty : D → Store → Bool} {op : D → OpN} {o : Expr} {fo : Ex} {apos cpos : Pos} (hT : TyM X T ty) (pa : PlainAttrs T) (slot : Slot T name id) (hty : typeOf (.builtin id) = pure (.type "method_descriptor")) (hm : MdM X id op)
    (ho : PEm X W o fo) (hbase : attributeBase o name X.env (eval o X.env) = eval o X.env := by rfl) (hline : (apos.endLine == cpos.line) = true := by rfl) :
    PEm X W (.Call (.Attribute o name apos) [] [] cpos) (eMeth ty op fo aNil) := PE.imp (pe_bm0 pa slot hty hm ho hbase hline) fun σ H Q h => by
  refine tG_seq (Ra := RV X) h fun a x H1 env r st er hr ra p => ?_
  split at p
  · rename_i hc
    refine ⟨hT a st H1 r x hr ra hc, ?_⟩
    obtain ⟨d, st', e3, q⟩ := ofO_fin p
    exact ⟨r, st, a, [], d, st', hr, ra, RpL.nil, e3, q⟩
  · exact p.elim
/-! ### truth, and, or, not -/
theorem tru_of {H : Hp} {r : List Addr} {st : Store} {d : D} {x : V} {b : Bool} (hr : HR X.K X.mg H r st) (p : Rp X.K H r d x) (e : truD d st = some b) : TruV X.K x H b := by
  cases d with
  | non => rw [Rp.non_iff] at p; subst p; cases e; exact rfl
  | bl k => rw [Rp.bl_iff] at p; subst p; cases e; exact rfl
  | int k => rw [Rp.int_iff] at p; subst p; cases e; exact rfl
  | str z =>
    rw [Rp.str_iff] at p; subst p
    obtain ⟨c, e⟩ := ite_some (show (if z.length ≤ sizeLine then some ((z.length : Int) != 0) else none) = some b from e)
    exact ⟨c, e.symm⟩
  | tup xs =>
    rw [Rp.tup_iff] at p
    obtain ⟨a, vs, rfl, t, l⟩ := p
    cases (show some (!xs.isEmpty) = some b from e)
    refine .inr (.inl ⟨vs, t.seq, ?_⟩)
    have := l.length
    cases xs <;> cases vs <;> simp_all
  | fro xs =>
    rw [Rp.fro_iff] at p
    obtain ⟨a, vs, rfl, t, l⟩ := p
    cases (show some (!xs.isEmpty) = some b from e)
    refine .inl ⟨vs, t.seq, ?_⟩
    have := l.length
    cases xs <;> cases vs <;> simp_all
  | adr n =>
    rw [Rp.adr_iff] at p
    obtain ⟨a, e1, rfl⟩ := p
    unfold truD at e
    dsimp only at e
    split at e
    · rename_i xs hx
      cases e
      obtain ⟨a', vs, q1, q2, q3⟩ := hr.lst (lstAt_iff.mpr hx)
      rw [e1] at q1; cases q1
      refine .inl ⟨vs, SqL.of q2, ?_⟩
      have := q3.length
      cases xs <;> cases vs <;> simp_all
    · rename_i xs hx
      cases e
      obtain ⟨a', vs, q1, q2, q3⟩ := hr.dct (dctAt_iff.mpr hx)
      rw [e1] at q1; cases q1
      refine .inr (.inr ⟨vs, q2, ?_⟩)
      have := congrArg List.length q3.1
      cases xs <;> cases vs <;> simp_all
    · cases e
theorem m_tru {a : Expr} {fa : Ex} (ha : PEm X W a fa) (he : ∀ whole, isTrue a X.env whole = (do let v ← whole; standAt a.pos; holding [v] (truthy v)) := by intro _; rfl) : PTm X W a (tTru fa) := PT.imp (pt_truth ha he) fun σ H Q h => by
  refine tG_seq (Ra := RV X) h fun d x H1 env r st er hr rd p => ?_
  obtain ⟨b, e, q⟩ := ofB_fin hr p
  exact ⟨b, tru_of hr rd e, q⟩
theorem m_and1 {a : Expr} {fa : Fx Bool} {pos} (ha : PTm X W a fa) : PW X (.BoolOp .And [a] pos) (tT X W fa) := pw_and1 ha
theorem m_or1 {a : Expr} {fa : Fx Bool} {pos} (ha : PTm X W a fa) : PW X (.BoolOp .Or [a] pos) (tT X W fa) := pw_or1 ha
theorem m_tand {a b : Expr} {rest : List Expr} {fa fb : Fx Bool} {pos} (ha : PTm X W a fa) (hb : PW X (.BoolOp .And (b :: rest) pos) (tT X W fb)) : PW X (.BoolOp .And (a :: b :: rest) pos) (tT X W (tAnd fa fb)) := PW.imp (pw_and ha hb) fun σ H Q h => by
  refine tG_seq (Ra := RB) h fun b x H1 env r st er hr rd p => ?_
  cases rd
  cases b with
  | true => exact ⟨env, r, st, er, hr, p⟩
  | false => exact pst_ok hr p rfl
theorem m_tor {a b : Expr} {rest : List Expr} {fa fb : Fx Bool} {pos} (ha : PTm X W a fa) (hb : PW X (.BoolOp .Or (b :: rest) pos) (tT X W fb)) : PW X (.BoolOp .Or (a :: b :: rest) pos) (tT X W (tOr fa fb)) := PW.imp (pw_or ha hb) fun σ H Q h => by
  refine tG_seq (Ra := RB) h fun b x H1 env r st er hr rd p => ?_
  cases rd
  cases b with
  | true => exact pst_ok hr p rfl
  | false => exact ⟨env, r, st, er, hr, p⟩
theorem m_tnot {a : Expr} {fa : Fx Bool} {pos} (ha : PTm X W a fa) : PTm X W (.UnaryOp .Not a pos) (tNot fa) := PT.imp (pt_not ha) fun σ H Q h => by
  refine tG_seq (Ra := RB) h fun b x H1 env r st er hr rd p => ?_
  cases rd
  exact pst_ok hr p rfl
theorem m_one {op} {a : Expr} {fa : Ex} {pos} (ha : PEm X W a fa) : PEm X W (.BoolOp op [a] pos) fa := pe_one ha
theorem m_and {a b : Expr} {rest : List Expr} {fa fb : Ex} {pos} (ha : PEm X W a fa) (hb : PEm X W (.BoolOp .And (b :: rest) pos) fb) : PEm X W (.BoolOp .And (a :: b :: rest) pos) (eAnd fa fb) := PE.imp (pe_andT ha hb) fun σ H Q h => by
  refine tG_seq (Ra := RV X) h fun d x H1 env r st er hr rd p => ?_
  cases e : truD d st with
  | none => rw [e] at p; exact p.elim
  | some b =>
    rw [e] at p
    refine ⟨b, tru_of hr rd e, ?_⟩
    cases b with
    | true => exact ⟨env, r, st, er, hr, p⟩
    | false => exact pst_ok hr p rd
theorem m_or {a b : Expr} {rest : List Expr} {fa fb : Ex} {pos} (ha : PEm X W a fa) (hb : PEm X W (.BoolOp .Or (b :: rest) pos) fb) : PEm X W (.BoolOp .Or (a :: b :: rest) pos) (eOr fa fb) := PE.imp (pe_orT ha hb) fun σ H Q h => by
  refine tG_seq (Ra := RV X) h fun d x H1 env r st er hr rd p => ?_
  cases e : truD d st with
  | none => rw [e] at p; exact p.elim
  | some b =>
    rw [e] at p
    refine ⟨b, tru_of hr rd e, ?_⟩
    cases b with
    | true => exact pst_ok hr p rd
    | false => exact ⟨env, r, st, er, hr, p⟩
theorem m_not {a : Expr} {fa : Ex} {pos} (ha : PEm X W a fa) : PEm X W (.UnaryOp .Not a pos) (eNot fa) := PE.imp (pe_notT ha) fun σ H Q h => by
  refine tG_seq (Ra := RV X) h fun d x H1 env r st er hr rd p => ?_
  cases e : truD d st with
  | none => rw [e] at p; exact p.elim
  | some b =>
    rw [e] at p
    exact ⟨b, tru_of hr rd e, pst_ok (v := .bl (!b)) hr p (Rp.bl_iff.mpr rfl)⟩
theorem m_if {c a b : Expr} {fc : Fx Bool} {fa fb : Ex} {pos} (hc : PTm X W c fc) (ha : PEm X W a fa) (hb : PEm X W b fb) : PEm X W (.IfExp c a b pos) (eIf fc fa fb) := PE.imp (pe_ifExp hc ha hb) fun σ H Q h => by
  refine tG_seq (Ra := RB) h fun b x H1 env r st er hr rd p => ?_
  cases rd
  cases b with
  | true => exact ⟨env, r, st, er, hr, p⟩
  | false => exact ⟨env, r, st, er, hr, p⟩
theorem chain_imp {op op' : Op2} {fa fb fc : Ex} {σ : L2.St} {H : Hp} {Q : VK} (h : tM X W (eChain op op' fa fb fc) σ H Q) : tChain (rOp X.K X.mg op) (rOp X.K X.mg op') (tM X W fa) (tM X W fb) (tM X W fc) σ H Q := by
  refine tG_seq (Ra := RV X) h fun a x H1 env r st er hr ra p => ?_
  refine tG_then (Ra := RV X) er hr p fun b y H2 r2 s2 e1 e2 er2 hr2 rb p2 => ?_
  cases ho : op a b s2 with
  | none => rw [ho] at p2; exact p2.elim
  | some ds =>
    obtain ⟨d, s3⟩ := ds
    rw [ho] at p2
    refine ⟨r2, s2, a, b, d, s3, hr2, Rp.mono e1 e2 _ _ ra, rb, ho, fun z H3 r3 g rz => ?_⟩
    simp only [Rs.ofO_some, Rs.bind_ok] at p2
    cases hk : isB d with
    | none => rw [hk] at p2; exact p2.elim
    | some k =>
      rw [hk] at p2
      simp only [Option.map_some, Rs.ofO_some, Rs.bind_ok] at p2
      cases d with
      | bl k' =>
        obtain rfl : k' = k := Option.some.inj hk
        replace rz := Rp.bl_iff.mp rz
        refine ⟨k', rz, ?_⟩
        have p3 := PstG.base p2 g
        have er3 := er2.mono g.1 g.2.1
        cases k' with
        | false => exact pst_ok (v := .bl false) g.2.2 p3 (Rp.bl_iff.mpr rfl)
        | true =>
          refine tG_then (Ra := RV X) er3 g.2.2 p3 fun c w H4 r4 s4 e3 e4 er4 hr4 rc p4 => ?_
          obtain ⟨d2, st', e5, q⟩ := ofO_fin p4
          exact ⟨r4, s4, b, c, d2, st', hr4, Rp.mono e3 e4 _ _ (Rp.mono g.1 g.2.1 _ _ rb), rc, e5, q⟩
      | _ => cases hk
theorem m_chain {o o' : CmpOp} {op op' : Op2} {a b c : Expr} {fa fb fc : Ex} {pos} (ho : OpM X (compareOp o) op) (ho' : OpM X (compareOp o') op') (ha : PEm X W a fa) (hb : PEm X W b fb) (hc : PEm X W c fc) (hm : lastMarks [o, o'] [b, c] = false := by with_unfolding_all rfl) :
    PEm X W (.Compare a [o, o'] [b, c] pos) (eChain op op' fa fb fc) := PE.imp (pe_chain ho ho' ha hb hc hm) fun _ _ _ h => chain_imp h
theorem m_tchain {o o' : CmpOp} {op op' : Op2} {a b c : Expr} {fa fb fc : Ex} {pos} (ho : OpM X (compareOp o) op) (ho' : OpM X (compareOp o') op') (ha : PEm X W a fa) (hb : PEm X W b fb) (hc : PEm X W c fc) (hm : lastMarks [o, o'] [b, c] = false := by with_unfolding_all rfl) :
    PTm X W (.Compare a [o, o'] [b, c] pos) (tOf (eChain op op' fa fb fc)) := PT.imp (pt_chain ho ho' ha hb hc hm) fun σ H Q h => by
  refine chain_imp ?_
  refine tG_seq (Ra := RV X) h fun d x H1 env r st er hr rd p => ?_
  obtain ⟨b, e, q⟩ := ofB_fin hr p
  cases d with
  | bl k =>
    obtain rfl : k = b := Option.some.inj e
    replace rd := Rp.bl_iff.mp rd
    exact ⟨k, rd, q⟩
  | _ => cases e

/-! ### slices -/
abbrev RO : Hp → List Addr → Option Int → Option Int → Prop := fun _ _ b c => c = b
abbrev POm (X : Cx) (W : WX) (e : Option Expr) (f : Fx (Option Int)) : Prop := PO X e (tG X W RO f)
theorem m_ono : POm X W none oNo := ⟨fun pins s σ H Q I ⟨env, r, st, er, hr, p⟩ => po_none.run pins s σ H Q I (pst_ok hr p rfl)⟩
theorem m_oso {e : Expr} {fa : Ex} (h : PEm X W e fa) : POm X W (some e) (oSo fa) := ⟨fun pins s σ H Q I q => (po_some h).run pins s σ H Q I (by
  refine tG_seq (Ra := RV X) q fun d x H1 env r st er hr rd p => ?_
  cases d with
  | int i => replace rd := Rp.int_iff.mp rd; exact ⟨i, rd, pst_ok hr p rfl⟩
  | _ => exact p.elim)⟩
theorem m_sle {e : Expr} {lo hi : Option Expr} {fe : Ex} {fl fh : Fx (Option Int)} {pos p2} (he : PEm X W e fe) (hl : POm X W lo fl) (hh : POm X W hi fh) : PEm X W (.Subscript e (.Slice lo hi none p2) pos) (eSl fe fl fh) := PE.imp (pe_slice m_sl he hl hh) fun σ H Q h => by
  refine tG_seq (Ra := RV X) h fun a x H1 env r st er hr ra p => ?_
  refine tG_then (Ra := RO) er hr p fun l y H2 r2 s2 e1 e2 er2 hr2 rl p2 => ?_
  cases rl
  refine tG_then (Ra := RO) er2 hr2 p2 fun l' y' H3 r3 s3 e3 e4 er3 hr3 rl' p3 => ?_
  cases rl'
  obtain ⟨d, st', e5, q⟩ := ofO_fin p3
  exact ⟨r3, s3, a, d, st', hr3, Rp.mono e3 e4 _ _ (Rp.mono e1 e2 _ _ ra), e5, q⟩
theorem m_rev {e : Expr} {fe : Ex} {k : Nat} {p1 p2 p3 pos : Pos} (he : PEm X W e fe) : PEm X W (.Subscript e (.Slice none none (some (.UnaryOp .USub (.Constant (.int 1) k p1) p2)) p3) pos) (eUn opRev fe) := by
  refine ⟨fun pins s σ H Q I h => ?_⟩
  refine Subscript_ (thn (he.run pins s σ H _ I (tG_bind (R := RV X) h)) fun v s1 ⟨x, H1, I1, r1, q1⟩ => ?_)
  obtain ⟨env, r, st, a, er, hr, ra, p⟩ := q1
  obtain ⟨d, st', e5, q⟩ := ofO_fin p
  have hst : PO X (some (.UnaryOp .USub (.Constant (.int 1) k p1) p2)) (tPart (tUn (rU fun i => .int (-i)) (tC (.int 1)))) := po_some (pe_un un_neg pe_int)
  refine wpAny_Slice (thn (po_none.run pins s1 σ H1 (fun o H2 => o = none ∧ H2 = H1) I1 ⟨rfl, rfl⟩) fun vl s2 ⟨l, H2, I2, pl, el, e2⟩ => ?_)
  subst el e2
  refine thn (po_none.run pins s2 σ H2 (fun o H3 => o = none ∧ H3 = H2) I2 ⟨rfl, rfl⟩) fun vu s3 ⟨u, H3, I3, pu, eu, e3⟩ => ?_
  subst eu e3
  refine thn (hst.run pins s3 σ H3 (fun o H4 => o = some (-1) ∧ H4 = H3) I3 ⟨1, rfl, -1, rfl, rfl, rfl⟩) fun vs s4 ⟨o, H4, I4, ps, eo, e4⟩ => ?_
  subst eo e4
  have I5 : Inv X pins σ H4 { s4 with heap := s4.heap.push { cls := .type "slice", data := .fields #[vl, vu, vs] } } := I4.kept (t' := s4.toks) fun b ob q => Heap.get?_push_of_some _ q
  have lists : ∀ xs, seqL st a = some xs → ((seqL st a).map fun xs => (D.adr st.length, st ++ [O.lst xs.reverse])) = some (d, st') →
      wpAny (model X.prog X.w) X.A (subscriptTail e (.Slice none none (some (.UnaryOp .USub (.Constant (.int 1) k p1) p2)) p3) v (.ref s4.heap.objs.size)) (EP X pins σ Q) X.xe { s4 with heap := s4.heap.push { cls := .type "slice", data := .fields #[vl, vu, vs] } } := by
    intro xs hx e'
    rw [hx] at e'
    cases e'
    obtain ⟨l, ws, rfl, sq, ls⟩ := hr.seqL hx ra
    cases r1
    obtain ⟨its, rv, ht, hz⟩ := I5.list sq
    have hlen := rv.length
    refine tail_any (ops := [.ref l, .ref s4.heap.objs.size]) ht.isList.typeIs (PySem.slot_list_getitem.lookup) ?_ (by with_unfolding_all rfl)
    refine wpAny_getItem_list_slice ht.isList (Heap.IsSliceOf.new _ vl vu vs) pl pu ps (by decide) ?_ (by rw [List.size_toArray]; omega)
    rw [PySem.W.krv_pick]
    refine ⟨.ref _, _, I5.laid (t' := s4.toks) (o := .lst ws.reverse) (fun b ob q => Heap.get?_push_of_some _ q) (Nat.le_refl _) ?_, rfl, finL hr q ls.reverse (I5.hok.fresh (Nat.le_refl _))⟩
    exact ⟨by rw [List.length_reverse]; exact hz, _, 0, rv.reverse, Heap.get?_push_size _ rfl⟩
  cases a with
  | tup xs =>
    cases (show some (D.tup xs.reverse, st) = some (d, st') from e5)
    replace ra := Rp.tup_iff.mp ra
    obtain ⟨l, ws, rfl, t, ls⟩ := ra
    cases r1
    obtain ⟨its, rv, ht, hz⟩ := I5.tuple t.seq
    have hlen := rv.length
    cases pl
    cases pu
    cases ps
    show wpAny (model X.prog X.w) X.A (subscriptTail e (.Slice none none (some (.UnaryOp .USub (.Constant (.int 1) k p1) p2)) p3) (.ref l) (.ref s4.heap.objs.size)) (EP X pins σ Q) X.xe _
    refine tail_any (ops := [.ref l, .ref s4.heap.objs.size]) ht.typeIs (PyProof.Rows.slot_tuple_getitem.lookup) ?_ (by with_unfolding_all rfl)
    refine getItem_tuple_rev ht (Heap.IsSliceOf.new ..) ?_ (by rw [List.size_toArray]; omega)
    exact ⟨.ref _, _, laidT (t' := s4.toks) I5 (fun b ob q => Heap.get?_push_of_some _ q) (Nat.le_refl _) (Heap.get?_push_size _ rfl) rv.reverse (by rw [List.length_reverse]; exact hz), rfl, finT hr q ls.reverse (I5.hok.fresh (Nat.le_refl _))⟩
  | adr n =>
    have e' : ((seqL st (.adr n)).map fun xs => (D.adr st.length, st ++ [O.lst xs.reverse])) = some (d, st') := e5
    cases hx : seqL st (.adr n) with
    | none => rw [hx] at e'; cases e'
    | some xs => exact lists xs hx e'
  | fro n => exact lists n rfl e5
  | _ => cases e5
end
end Mi

namespace Mi
open PySem PySem.Spec PyProof.Rows L2
noncomputable section
open Classical
variable {X : Cx} {W : WX}

/-! ### targets -/
inductive Tgt where
  | nm (i : Nat) | tp (is : List Nat)
def Tgt.slots : Tgt → List Nat
  | .nm i => [i]
  | .tp is => is
def setAll : List Nat → List D → MEnv → MEnv
  | i :: is, d :: ds, env => setAll is ds (env.set i (some d))
  | _, _, env => env
def tgSet : Tgt → D → MEnv → Option MEnv
  | .nm i, d, env => some (env.set i (some d))
  | .tp is, .tup ds, env => if ds.length = is.length then some (setAll is ds env) else none
  | .tp _, _, _ => none
/-- all slots but these are as they were -/
def OnlyAt (is : List Nat) (σ σ' : L2.St) : Prop := σ'.length = σ.length ∧ ∀ j, j ∉ is → σ'[j]? = σ[j]?
/-- what a target takes: a name a value, names a tuple (of which the object need not be known) -/
def RpT (K : PySem.W.Frag) (H : Hp) (r : List Addr) (t : Tgt) (d : D) (v : V) : Prop := match t with
  | .nm _ => Rp K H r d v
  | .tp _ => match d with
    | .tup ds => ∃ a vs, v = .ref a ∧ SqT K H a vs ∧ RpL K H r ds vs
    | _ => True
theorem RpT.of {K : PySem.W.Frag} {H : Hp} {r : List Addr} {t : Tgt} {d : D} {v : V} (h : Rp K H r d v) : RpT K H r t d v := by
  cases t with
  | nm i => exact h
  | tp is =>
    cases d with
    | tup ds =>
      obtain ⟨a, vs, e, q, l⟩ := Rp.tup_iff.mp h
      exact ⟨a, vs, e, q.seq, l⟩
    | _ => trivial
def gM (X : Cx) (t : Tgt) : TG := fun v σ H Q => ∃ env r d env', ER X.K H r env σ ∧ RpT X.K H r t d v ∧ tgSet t d env = some env' ∧ ∀ σ', OnlyAt t.slots σ σ' → ER X.K H r env' σ' → Q σ' H
abbrev PGm (X : Cx) (e : Expr) (t : Tgt) : Prop := PG X e (gM X t)
theorem PG.imp {X : Cx} {e : Expr} {t t' : TG} (h : PG X e t) (i : ∀ v σ H Q, t' v σ H Q → t v σ H Q) : PG X e t' := ⟨fun pins s σ H v u Q I r q => h.run pins s σ H v u Q I r (i _ _ _ _ q)⟩
theorem only_set (σ : L2.St) (i : Nat) (x : Option V) : OnlyAt [i] σ (σ.set i x) := ⟨List.length_set, fun j hj => by rw [List.getElem?_set_ne]; simp at hj; omega⟩
theorem g_nm {e : Expr} {i : Nat} (h : PG X e (gName i)) : PGm X e (.nm i) := PG.imp h fun v σ H Q ⟨env, r, d, env', er, rd, e, q⟩ => by
  cases e
  exact q _ (only_set σ i _) (er.set i rd)
def gsM (X : Cx) (is : List Nat) : TGs := fun vs σ H Q => ∃ env r ds, ER X.K H r env σ ∧ RpL X.K H r ds vs ∧ ds.length = is.length ∧ ∀ σ', OnlyAt is σ σ' → ER X.K H r (setAll is ds env) σ' → Q σ' H
theorem PGs.imp {X : Cx} {e : List Expr} {t t' : TGs} (h : PGs X e t) (i : ∀ v σ H Q, t' v σ H Q → t v σ H Q) : PGs X e t' := ⟨fun pins s σ H v u Q I r q => h.run pins s σ H v u Q I r (i _ _ _ _ q)⟩
theorem gs_nil : PGs X [] (gsM X []) := PGs.imp pgs_nil fun vs σ H Q ⟨env, r, ds, er, rl, hl, q⟩ => by
  cases ds with
  | nil => rw [RpL.nil_iff] at rl; exact ⟨rl, q σ ⟨rfl, fun _ _ => rfl⟩ er⟩
  | cons _ _ => cases hl
theorem gs_cons {e : Expr} {es : List Expr} {i : Nat} {is : List Nat} (h : PG X e (gName i)) (t : PGs X es (gsM X is)) (hs : (assignEach (e :: es) X.env).map (·.2) = assign e X.env :: (assignEach es X.env).map (·.2) := by rfl) : PGs X (e :: es) (gsM X (i :: is)) :=
  PGs.imp (pgs_cons h t hs) fun vs σ H Q ⟨env, r, ds, er, rl, hl, q⟩ => by
    cases ds with
    | nil => cases hl
    | cons d ds =>
      rw [RpL.cons_iff] at rl
      obtain ⟨v, ws, rfl, rd, rl⟩ := rl
      refine ⟨v, ws, rfl, env.set i (some d), r, ds, er.set i rd, rl, by simpa using hl, fun σ' ho er' => q σ' ⟨?_, fun j hj => ?_⟩ er'⟩
      · rw [ho.1, List.length_set]
      · rw [List.mem_cons, not_or] at hj
        rw [ho.2 j hj.2, List.getElem?_set_ne (Ne.symm hj.1)]
theorem g_tp {es : List Expr} {k : Nat} {is : List Nat} {pos : Pos} (hc : X.calm = true) (h : PGs X es (gsM X is)) (hn : (assignEach es X.env).length = is.length := by rfl) (hst : (assignEach es X.env).findIdx? (·.1) = none := by rfl) : PGm X (.Tuple es k pos) (.tp is) :=
  PG.imp (pg_tup hc h hn hst) fun v σ H Q ⟨env, r, d, env', er, rd, e, q⟩ => by
    cases d with
    | tup ds =>
      obtain ⟨c, e⟩ := ite_some (show (if ds.length = is.length then some (setAll is ds env) else none) = some env' from e)
      subst e
      obtain ⟨a, vs, rfl, t, l⟩ : ∃ a vs, v = V.ref a ∧ SqT X.K H a vs ∧ RpL X.K H r ds vs := rd
      exact ⟨a, vs, rfl, t, by rw [l.length]; exact c, env, r, ds, er, l, c, q⟩
    | _ => cases e

/-! ### statements -/
def Out.seq (o : Out) (g : Sx) : Out := match o with
  | .nx e s => g e s
  | o => o
@[simp] theorem Out.seq_nx (e : MEnv) (s : Store) (g : Sx) : (Out.nx e s).seq g = g e s := rfl
@[simp] theorem Out.seq_rt (d : D) (s : Store) (g : Sx) : (Out.rt d s).seq g = .rt d s := rfl
@[simp] theorem Out.seq_bk (e : MEnv) (s : Store) (g : Sx) : (Out.bk e s).seq g = .bk e s := rfl
@[simp] theorem Out.seq_ct (e : MEnv) (s : Store) (g : Sx) : (Out.ct e s).seq g = .ct e s := rfl
@[simp] theorem Out.seq_ex (x : Exn) (e : MEnv) (s : Store) (g : Sx) : (Out.ex x e s).seq g = .ex x e s := rfl
@[simp] theorem Out.seq_no (g : Sx) : Out.no.seq g = .no := rfl
def sNil : Sx := fun env st => .nx env st
def sSeq (f g : Sx) : Sx := fun env st => (f env st).seq g
def sIf (c : Fx Bool) (f g : Sx) : Sx := fun env st => (c env st).toOut env fun b s => if b = true then f env s else g env s
def sSet (i : Nat) (f : Ex) : Sx := fun env st => (f env st).toOut env fun d s => .nx (env.set i (some d)) s
def sAsg (t : Tgt) (f : Ex) : Sx := fun env st => (f env st).toOut env fun d s => match tgSet t d env with
  | some env' => .nx env' s
  | none => .no
def sExpr (f : Ex) : Sx := fun env st => (f env st).toOut env fun _ s => .nx env s
def sRet (f : Ex) : Sx := fun env st => (f env st).toOut env fun d s => .rt d s
def sRetN : Sx := fun _ st => .rt .non st
def sBrk : Sx := fun env st => .bk env st
def sCnt : Sx := fun env st => .ct env st
def sNo : Sx := fun _ _ => .no
/-- a, b = x, y -/
def sPar (i j : Nat) (fa : Fx (List D)) : Sx := fun env st => (fa env st).toOut env fun ds s => match ds with
  | [x, y] => .nx ((env.set i (some x)).set j (some y)) s
  | _ => .no
theorem tS_seq {α β : Type} {R : Hp → List Addr → α → β → Prop} {σ : L2.St} {H : Hp} {f : Fx α} {k : α → Sx} {Dn : Ends} {P : β → Hp → Prop}
    (h : tSx X W (fun env st => (f env st).toOut env fun a st' => k a env st') Dn σ H)
    (n : ∀ a x H1 env r st, ER X.K H1 r env σ → HR X.K X.mg H1 r st → R H1 r a x → PstS X.K X.mg W H1 r (k a env st) Dn → P x H1) : tG X W R f σ H P :=
  tG_mono (tS_bind (R := R) h) fun x H1 ⟨env, r, st, a, er, hr, ra, p⟩ => n a x H1 env r st er hr ra p
theorem psts_nx {H : Hp} {r : List Addr} {env : MEnv} {st : Store} {σ : L2.St} {Dn : Ends} (hr : HR X.K X.mg H r st) (p : PstS X.K X.mg W H r (.nx env st) Dn) (er : ER X.K H r env σ) : Dn.nx σ H := p σ H r (Grow.refl hr) er
theorem psts_rt {H : Hp} {r : List Addr} {d : D} {st : Store} {v : V} {Dn : Ends} (hr : HR X.K X.mg H r st) (p : PstS X.K X.mg W H r (.rt d st) Dn) (q : Rp X.K H r d v) : Dn.rt v H := p v H r (Grow.refl hr) q
theorem m_nil : PSsm X W [] sNil := PSs.imp pss_nil fun Dn σ H ⟨env, r, st, er, hr, p⟩ => psts_nx hr p er
theorem m_cons {s : Stmt} {rest : List Stmt} {f g : Sx} (h1 : PSm X W s f) (h2 : PSsm X W rest g) : PSsm X W (s :: rest) (sSeq f g) := PSs.imp (pss_cons h1 h2) fun Dn σ H ⟨env, r, st, er, hr, p⟩ => by
  refine ⟨env, r, st, er, hr, ?_⟩
  unfold sSeq at p
  cases e : f env st with
  | nx e1 s1 =>
    rw [e] at p
    exact fun σ' H' r' g' er' => ⟨e1, r', s1, er', g'.2.2, PstS.base p g'⟩
  | rt d s1 => rw [e] at p; exact p
  | bk e1 s1 => rw [e] at p; exact p
  | ct e1 s1 => rw [e] at p; exact p
  | ex x e1 s1 => rw [e] at p; exact p
  | no => rw [e] at p; exact p
theorem m_sone {s : Stmt} {f : Sx} (h1 : PSm X W s f) : PSsm X W [s] f := pss_one h1
theorem m_pass {pos} : PSm X W (.Pass pos) sNil := PS.imp ps_pass fun Dn σ H ⟨env, r, st, er, hr, p⟩ => psts_nx hr p er
theorem m_brk {pos} : PSm X W (.Break pos) sBrk := PS.imp ps_break fun Dn σ H ⟨env, r, st, er, hr, p⟩ => p σ H r (Grow.refl hr) er
theorem m_cnt {pos} : PSm X W (.Continue pos) sCnt := PS.imp ps_continue fun Dn σ H ⟨env, r, st, er, hr, p⟩ => p σ H r (Grow.refl hr) er
theorem m_never {s : Stmt} : PSm X W s sNo := PS.imp (ps_never (st := s)) fun Dn σ H ⟨env, r, st, er, hr, p⟩ => p.elim
theorem m_expr {e : Expr} {f : Ex} {pos : Pos} (h : PEm X W e f) (hs : swapsWith e none pos.line X.env = pure false := by rfl) : PSm X W (.Expr e pos) (sExpr f) := PS.imp (ps_expr h hs) fun Dn σ H q =>
  tS_seq (R := RV X) q fun d x H1 env r st er hr rd p => psts_nx hr p er
theorem m_ret {e : Expr} {f : Ex} {pos : Pos} (h : PEm X W e f) : PSm X W (.Return (some e) pos) (sRet f) := PS.imp (ps_ret h) fun Dn σ H q =>
  tS_seq (R := RV X) q fun d x H1 env r st er hr rd p => psts_rt hr p rd
theorem m_retn {pos : Pos} : PSm X W (.Return none pos) sRetN := PS.imp ps_retN fun Dn σ H ⟨env, r, st, er, hr, p⟩ => psts_rt hr p (Rp.non_iff.mpr rfl)
theorem m_ifs {c : Expr} {a b : List Stmt} {fc : Fx Bool} {f g : Sx} {pos : Pos} (hc : PTm X W c fc) (ha : PSsm X W a f) (hb : PSsm X W b g) : PSm X W (.If c a b pos) (sIf fc f g) := PS.imp (ps_if hc ha hb) fun Dn σ H q =>
  tS_seq (R := RB) q fun b x H1 env r st er hr rd p => by
    cases rd
    cases b with
    | true => exact ⟨env, r, st, er, hr, p⟩
    | false => exact ⟨env, r, st, er, hr, p⟩
theorem set_imp {i : Nat} {f : Ex} {Dn : Ends} {σ : L2.St} {H : Hp} (q : tSx X W (sSet i f) Dn σ H) : tAsg (tM X W f) (gName i) Dn σ H :=
  tS_seq (R := RV X) q fun d x H1 env r st er hr rd p => psts_nx hr p (er.set i rd)
theorem m_set {i : Nat} {x : Str} {e : Expr} {f : Ex} {pos pos' : Pos} (hN : X.N.Nodup) (hi : X.N[i]? = some x) (hx : Loc X.env.scope x) (he : PEm X W e f) (hs : swapsWith e (some (.Name x pos')) pos.line X.env = pure false := by rfl) (hf : X.fn x = true ∨ X.env.scope.names.lookup x = some .local := by first | exact .inl rfl | exact .inr rfl | assumption) :
    PSm X W (.Assign [.Name x pos'] e pos) (sSet i f) := PS.imp (ps_set hN hi hx he hs hf) fun _ _ _ q => set_imp q
theorem m_asg {tg e : Expr} {f : Ex} {t : Tgt} {pos : Pos} (he : PEm X W e f) (hg : PGm X tg t) (hs : swapsWithSole [tg] e pos.line X.env = pure false := by rfl) (hw : swappedStores [tg] e X.env = pure none := by rfl)
    (h1 : (assignEach [tg] X.env).map (·.2) = [assign tg X.env] := by rfl) : PSm X W (.Assign [tg] e pos) (sAsg t f) := PS.imp (ps_asg he hg hs hw h1) fun Dn σ H q =>
  tS_seq (R := RV X) q fun d x H1 env r st er hr rd p => by
    cases e : tgSet t d env with
    | none => rw [e] at p; exact p.elim
    | some env' =>
      rw [e] at p
      exact ⟨env, r, d, env', er, RpT.of rd, e, fun σ' _ er' => psts_nx hr p er'⟩
theorem m_par {i j : Nat} {x y : Str} {a b : Expr} {fa : Fx (List D)} {px py pt pos : Pos} {kt k2 pt2} (hc : X.calm = true) (hN : X.N.Nodup) (hi : X.N[i]? = some x) (hj : X.N[j]? = some y) (hij : i ≠ j)
    (hx : X.env.scope.names.lookup x = some .local) (hy : X.env.scope.names.lookup y = some .local) (ha : PAm X W [a, b] fa)
    (hw : swappedStores [.Tuple [.Name x px, .Name y py] kt pt] (.Tuple [a, b] k2 pt2) X.env = pure (some [x, y]))
    (hs : swapsWithSole [.Tuple [.Name x px, .Name y py] kt pt] (.Tuple [a, b] k2 pt2) pos.line X.env = pure false := by rfl) :
    PSm X W (.Assign [.Tuple [.Name x px, .Name y py] kt pt] (.Tuple [a, b] k2 pt2) pos) (sPar i j fa) := PS.imp (ps_par hc hN hi hj hij hx hy ha hw hs) fun Dn σ H q =>
  tS_seq (R := RVs X) q fun ds vs H1 env r st er hr rd p => by
    cases ds with
    | nil => exact p.elim
    | cons d ds =>
      cases ds with
      | nil => exact p.elim
      | cons e ds =>
        cases ds with
        | cons _ _ => exact p.elim
        | nil =>
          replace rd := RpL.cons_iff.mp rd
          obtain ⟨v, ws, rfl, r1, rd⟩ := rd
          replace rd := RpL.cons_iff.mp rd
          obtain ⟨w, ws, rfl, r2, rd⟩ := rd
          replace rd := RpL.nil_iff.mp rd
          subst rd
          exact ⟨v, w, rfl, psts_nx hr p ((er.set i r1).set j r2)⟩
/-- o[i] = e -/
def putAt (o i d : D) (st : Store) : Option Store := match o with
  | .adr n => match i with
    | .int k => match lstAt st n with
      | some xs => (ixN xs.length k).map fun j => st.set n (.lst (xs.set j d))
      | none => match dctAt st n with
        | some kvs => if kvs.length < sizeLine then some (st.set n (.dct (putD kvs (.inl k) d))) else none
        | none => none
    | .str k => match dctAt st n with
      | some kvs => if kvs.length < sizeLine then some (st.set n (.dct (putD kvs (.inr k) d))) else none
      | none => none
    | _ => none
  | _ => none
def rPut (K : PySem.W.Frag) (mg : Str → Option Value) : V → V → V → Hp → (Hp → Prop) → Prop := fun o i v H Q => ∃ r st a b d st', HR K mg H r st ∧ Rp K H r a o ∧ Rp K H r b i ∧ Rp K H r d v ∧ putAt a b d st = some st' ∧ ∀ H' r', Grow K mg H r st' H' r' → Q H'
theorem m_put (hu : X.A.units + 2000 < cLine) : PSet X (rPut X.K X.mg) := by
  intro pins s σ H o i v ov iv u Q I ro ri rv ⟨r, st, a, b, d, st', hr, pa, pb, pd, e, q⟩
  have dict : ∀ (n : Nat) (key : Key) (kvs : List (Key × D)), a = .adr n → dctAt st n = some kvs → (if kvs.length < sizeLine then some (st.set n (.dct (putD kvs key d))) else none) = some st' → i = kV key → wpAny (model X.prog X.w) X.A (setItem ov iv u) (fun _ s' => ∃ H', Inv X pins σ H' s' ∧ Q H') X.xe s := by
    intro n key kvs ea hd e' ei
    subst ea
    obtain ⟨c, e'⟩ := ite_some e'
    subst e'
    obtain ⟨p, ws, f1, f2, f3⟩ := hr.dct hd
    obtain ⟨a', g1, rfl⟩ := Rp.adr_iff.mp pa
    rw [f1] at g1; cases g1
    subst ei
    obtain rfl : ov = Value.ref p := ro
    have hl : ws.length = kvs.length := by have := congrArg List.length f3.1; simpa using this.symm
    refine d_setItem (by omega) I (DPut.k (k := key) f2 (by rw [hl]; exact c)) ri rv fun s4 I4 => ⟨_, I4, q _ r ⟨Ext.write f2 trivial, List.prefix_refl _, ?_⟩⟩
    have x : Ext X.K H (upd H p (.dK (putK ws key v))) := Ext.write f2 trivial
    exact hr.put f1 ⟨_, upd_same, (put_rel f3 pd).mono x (List.prefix_refl _)⟩
  cases a with
  | adr n =>
    cases b with
    | int k =>
      have pb' := Rp.int_iff.mp pb
      have e' := e
      unfold putAt at e'
      dsimp only at e'
      cases hl : lstAt st n with
      | some xs =>
        rw [hl] at e'
        obtain ⟨j, ej, e2⟩ := Option.map_eq_some_iff.mp e'
        subst e2
        obtain ⟨p, ws, f1, f2, f3⟩ := hr.lst hl
        obtain ⟨a', g1, rfl⟩ := Rp.adr_iff.mp pa
        rw [f1] at g1; cases g1
        subst pb'
        refine set_list pins s σ H _ _ v ov iv u Q I ro ri rv ⟨p, ws, k, j, rfl, rfl, f2, by rw [f3.length]; exact ej, ?_⟩
        have x : Ext X.K H (upd H p (.lst (ws.set j v))) := Ext.write f2 trivial
        exact q _ r ⟨x, List.prefix_refl _, hr.put f1 ⟨_, upd_same, RpL.mono x (List.prefix_refl _) _ _ (f3.set j pd)⟩⟩
      | none =>
        rw [hl] at e'
        dsimp only at e'
        cases hd : dctAt st n with
        | none => rw [hd] at e'; cases e'
        | some kvs => rw [hd] at e'; exact dict n (.inl k) kvs rfl hd e' pb'
    | str k =>
      have pb' := Rp.str_iff.mp pb
      have e' := e
      unfold putAt at e'
      dsimp only at e'
      cases hd : dctAt st n with
      | none => rw [hd] at e'; cases e'
      | some kvs => rw [hd] at e'; exact dict n (.inr k) kvs rfl hd e' pb'
    | _ => cases e
  | _ => cases e
/-- the value first, then the object, then the place -/
def sPut (fo fi f : Ex) : Sx := fun env st => (f env st).toOut env fun d s1 => (fo env s1).toOut env fun o s2 => (fi env s2).toOut env fun i s3 => match putAt o i d s3 with
  | some s4 => .nx env s4
  | none => .no
theorem tS_then {α β : Type} {Ra : Hp → List Addr → α → β → Prop} {fa : Fx α} {k : α → Store → Out} {σ : L2.St} {H : Hp} {env : MEnv} {r : List Addr} {st : Store} {Dn : Ends} {P : β → Hp → Prop}
    (er : ER X.K H r env σ) (hr : HR X.K X.mg H r st) (p : PstS X.K X.mg W H r ((fa env st).toOut env fun a s1 => k a s1) Dn)
    (n : ∀ a x H1 r1 s1, Ext X.K H H1 → r <+: r1 → ER X.K H1 r1 env σ → HR X.K X.mg H1 r1 s1 → Ra H1 r1 a x → PstS X.K X.mg W H1 r1 (k a s1) Dn → P x H1) : tG X W Ra fa σ H P := by
  refine ⟨env, r, st, er, hr, ?_⟩
  cases e : fa env st with
  | ok a st' =>
    rw [e] at p
    exact fun v H' r' g q => n a v H' r' st' g.1 g.2.1 (er.mono g.1 g.2.1) g.2.2 q (PstS.base p g)
  | ex a st' => rw [e] at p; exact fun c d H' r' g q => p c d σ H' r' g (er.mono g.1 g.2.1) q
  | no => rw [e] at p; exact p
theorem m_sput {o i e : Expr} {fo fi f : Ex} {pos pos' : Pos} (hu : X.A.units + 2000 < cLine) (he : PEm X W e f) (ho : PEm X W o fo) (hi : PEm X W i fi)
    (ha : ∀ v, assign (.Subscript o i pos) X.env v = (do
      let ov ← holding [v] (eval o X.env)
      let iv ← holding [v, ov] (eval i X.env)
      standAt pos
      holding [v, ov, iv] (setItem ov iv v)
      release [v, ov, iv] []) := by intro _; rfl)
    (hs : swapsWithSole [.Subscript o i pos] e pos'.line X.env = pure false := by rfl) (hw : swappedStores [.Subscript o i pos] e X.env = pure none := by rfl)
    (h1 : (assignEach [.Subscript o i pos] X.env).map (·.2) = [assign (.Subscript o i pos) X.env] := by rfl) : PSm X W (.Assign [.Subscript o i pos] e pos') (sPut fo fi f) :=
  PS.imp (ps_asg he (pg_sub ho hi (m_put hu) ha) hs hw h1) fun Dn σ H q =>
    tS_seq (R := RV X) q fun d v H1 env r st er hr rd p => by
      refine tS_then (Ra := RV X) er hr p fun o x H2 r2 s2 e1 e2 er2 hr2 ro p2 => ?_
      refine tS_then (Ra := RV X) er2 hr2 p2 fun i y H3 r3 s3 e3 e4 er3 hr3 ri p3 => ?_
      cases hp : putAt o i d s3 with
      | none => rw [hp] at p3; exact p3.elim
      | some s4 =>
        rw [hp] at p3
        exact ⟨r3, s3, o, i, d, s4, hr3, Rp.mono e3 e4 _ _ ro, ri, Rp.mono e3 e4 _ _ (Rp.mono e1 e2 _ _ rd), hp, fun H' r' g => p3 σ H' r' g (er3.mono g.1 g.2.1)⟩
/-- x op= e -/
def sAug (i : Nat) (op : Op2) (f : Ex) : Sx := fun env st => match env[i]? with
  | some (some x) => (f env st).toOut env fun d s => match op x d s with
    | some (y, s') => .nx (env.set i (some y)) s'
    | none => .no
  | _ => .no
theorem m_aug {i : Nat} {x : Str} {e : Expr} {f : Ex} {op : Operator} {mo : Op2} {pos pos' : Pos} (hN : X.N.Nodup) (hi : X.N[i]? = some x) (hx : Loc X.env.scope x) (he : PEm X W e f) (ho : PIp X op (rOp X.K X.mg mo)) (hf : X.fn x = true ∨ X.env.scope.names.lookup x = some .local := by first | exact .inl rfl | exact .inr rfl | assumption) :
    PSm X W (.AugAssign (.Name x pos') op e pos) (sAug i mo f) := PS.imp (ps_aug hN hi hx he ho hf) fun Dn σ H ⟨env, r, st, er, hr, p⟩ => by
  unfold sAug at p
  split at p
  · rename_i d hd
    obtain ⟨v, e1, e2⟩ := er.at_ i d hd
    refine ⟨v, e1, ?_⟩
    refine tS_then (Ra := RV X) er hr p fun y w H2 r2 s2 g1 g2 er2 hr2 ry p2 => ?_
    cases hp : mo d y s2 with
    | none => rw [hp] at p2; exact p2.elim
    | some z =>
      obtain ⟨z, s4⟩ := z
      rw [hp] at p2
      exact ⟨r2, s2, d, y, z, s4, hr2, Rp.mono g1 g2 _ _ e2, ry, hp, fun u H' r' g q => p2 _ H' r' g ((er2.mono g.1 g.2.1).set i q)⟩
  · exact p.elim
/-- += -= of ints -/
def augAdd : Op2
  | .int i, .int j, st => some (.int (i + j), st)
  | _, _, _ => none
theorem ip_madd : PIp X .Add (rOp X.K X.mg augAdd) := by
  intro pins s σ H x y v u Q I rx ry hq
  obtain ⟨r', st, a, b, d, st', hr, pa, pb, e, q⟩ := hq
  cases a <;> cases b <;> first | (exfalso; simp [augAdd] at e; done) | skip
  rename_i i j
  cases (show some (D.int (i + j), st) = some (d, st') from e)
  rw [Rp.int_iff] at pa pb
  subst pa pb
  exact ip_add pins s σ H _ _ v u Q I rx ry ⟨i, j, rfl, rfl, fin0 hr q (Rp.int_iff.mpr rfl)⟩
end
end Mi

namespace Mi
open PySem PySem.Spec PyProof.Rows L2
noncomputable section
open Classical
variable {X : Cx} {W : WX}

/-! ### while -/
def whN (c : Fx Bool) (b : Sx) : Nat → Sx
  | 0, _, _ => .no
  | n + 1, env, st => (c env st).toOut env fun k s => if k = true then (match b env s with
      | .nx e s' => whN c b n e s'
      | .ct e s' => whN c b n e s'
      | .bk e s' => .nx e s'
      | o => o) else .nx env s
def sWh (c : Fx Bool) (b : Sx) : Sx := fun env st => if h : ∃ n, whN c b n env st ≠ .no then whN c b h.choose env st else .no
theorem whN_mono (c : Fx Bool) (b : Sx) : ∀ (n : Nat) (env : MEnv) (st : Store), whN c b n env st ≠ .no → whN c b (n + 1) env st = whN c b n env st
  | 0, _, _, h => absurd rfl h
  | n + 1, env, st, h => by
    rw [whN] at h ⊢
    rw [whN]
    cases e : c env st with
    | no => rfl
    | ex x s => rfl
    | ok k s =>
      rw [e] at h
      simp only [Rs.toOut_ok] at h ⊢
      cases k with
      | false => rfl
      | true =>
        simp only [if_true] at h ⊢
        cases e2 : b env s with
        | nx e' s' => rw [e2] at h; exact whN_mono c b n e' s' h
        | ct e' s' => rw [e2] at h; exact whN_mono c b n e' s' h
        | bk e' s' => rfl
        | rt d s' => rfl
        | ex x e' s' => rfl
        | no => rfl
theorem whN_le {c : Fx Bool} {b : Sx} {n m : Nat} {env : MEnv} {st : Store} (h : whN c b n env st ≠ .no) (hle : n ≤ m) : whN c b m env st = whN c b n env st := by
  obtain ⟨k, rfl⟩ := Nat.le.dest hle
  induction k with
  | zero => rfl
  | succ k ih =>
    have e := ih (Nat.le_add_right _ _)
    rw [show n + (k + 1) = (n + k) + 1 by omega, whN_mono c b (n + k) env st (by rw [e]; exact h), e]
theorem sWh_of {c : Fx Bool} {b : Sx} {n : Nat} {env : MEnv} {st : Store} (h : whN c b n env st ≠ .no) : sWh c b env st = whN c b n env st := by
  unfold sWh
  have ex : ∃ n, whN c b n env st ≠ .no := ⟨n, h⟩
  rw [dif_pos ex]
  rcases Nat.le_total ex.choose n with l | l
  · exact (whN_le ex.choose_spec l).symm
  · exact whN_le h l
/-- one turn -/
theorem sWh_eq (c : Fx Bool) (b : Sx) (env : MEnv) (st : Store) : sWh c b env st = (c env st).toOut env fun k s => if k = true then (match b env s with
      | .nx e s' => sWh c b e s'
      | .ct e s' => sWh c b e s'
      | .bk e s' => .nx e s'
      | o => o) else .nx env s := by
  by_cases h : ∃ n, whN c b n env st ≠ .no
  · obtain ⟨n, hn⟩ := h
    rw [sWh_of hn]
    cases n with
    | zero => exact absurd rfl hn
    | succ n =>
      rw [whN] at hn ⊢
      cases e : c env st with
      | no => rfl
      | ex x s => rfl
      | ok k s =>
        rw [e] at hn
        simp only [Rs.toOut_ok] at hn ⊢
        cases k with
        | false => rfl
        | true =>
          simp only [if_true] at hn ⊢
          cases e2 : b env s with
          | nx e' s' => rw [e2] at hn; exact (sWh_of hn).symm
          | ct e' s' => rw [e2] at hn; exact (sWh_of hn).symm
          | bk e' s' => rfl
          | rt d s' => rfl
          | ex x e' s' => rfl
          | no => rfl
  · have hz : sWh c b env st = .no := by unfold sWh; rw [dif_neg h]
    rw [hz]
    have all : ∀ n, whN c b n env st = .no := fun n => by
      by_cases q : whN c b n env st = .no
      · exact q
      · exact absurd ⟨n, q⟩ h
    cases e : c env st with
    | no => rfl
    | ex x s =>
      have := all 1
      rw [whN, e] at this
      cases this
    | ok k s =>
      simp only [Rs.toOut_ok]
      cases k with
      | false =>
        have := all 1
        rw [whN, e] at this
        cases this
      | true =>
        simp only [if_true]
        have all2 : ∀ n, (match b env s with
          | .nx e s' => whN c b n e s'
          | .ct e s' => whN c b n e s'
          | .bk e s' => .nx e s'
          | o => o) = .no := fun n => by
          have := all (n + 1)
          rw [whN, e] at this
          exact this
        cases e2 : b env s with
        | nx e' s' =>
          rw [e2] at all2
          show .no = sWh c b e' s'
          unfold sWh
          rw [dif_neg fun ⟨n, hn⟩ => hn (all2 n)]
        | ct e' s' =>
          rw [e2] at all2
          show .no = sWh c b e' s'
          unfold sWh
          rw [dif_neg fun ⟨n, hn⟩ => hn (all2 n)]
        | bk e' s' => rw [e2] at all2; cases all2 0
        | rt d s' => rw [e2] at all2; cases all2 0
        | ex x e' s' => rw [e2] at all2; cases all2 0
        | no => rfl
theorem m_wh {c : Expr} {body : List Stmt} {fc : Fx Bool} {fb : Sx} {pos : Pos} (hp : PassesOwn (model X.prog X.w) X.A X.env X.xe) (hc : PTm X W c fc) (hb : PSsm X W body fb) : PSm X W (.While c body [] pos) (sWh fc fb) := PS.imp (ps_while hp hc hb) fun Dn σ H ⟨env, r, st, er, hr, p⟩ => by
  have ex : ∃ n, whN fc fb n env st ≠ .no := by
    unfold sWh at p
    by_cases h : ∃ n, whN fc fb n env st ≠ .no
    · exact h
    · rw [dif_neg h] at p; exact p.elim
  obtain ⟨n, hn⟩ := ex
  rw [sWh_of hn] at p
  refine ⟨fun m σ H => ∃ env r st, ER X.K H r env σ ∧ HR X.K X.mg H r st ∧ PstS X.K X.mg W H r (whN fc fb m env st) Dn, ⟨n, env, r, st, er, hr, p⟩, ?_⟩
  rintro m σ H ⟨env, r, st, er, hr, p⟩
  cases m with
  | zero => exact p.elim
  | succ m =>
    rw [whN] at p
    refine tS_then (Ra := RB) er hr p fun b x H2 r2 s2 g1 g2 er2 hr2 rb p2 => ?_
    cases rb
    cases b with
    | false => exact psts_nx hr2 p2 er2
    | true =>
      rw [if_pos rfl]
      refine ⟨fun σ' H' => ∃ env r st, ER X.K H' r env σ' ∧ HR X.K X.mg H' r st ∧ PstS X.K X.mg W H' r (whN fc fb m env st) Dn, fun σ' H' q => ⟨m, Nat.lt_succ_self _, q⟩, env, r2, s2, er2, hr2, ?_⟩
      simp only [if_true] at p2
      cases e2 : fb env s2 with
      | nx e' s' => rw [e2] at p2; exact fun σ' H' r' g er' => ⟨e', r', s', er', g.2.2, PstS.base p2 g⟩
      | ct e' s' => rw [e2] at p2; exact fun σ' H' r' g er' => ⟨e', r', s', er', g.2.2, PstS.base p2 g⟩
      | bk e' s' => rw [e2] at p2; exact p2
      | rt d s' => rw [e2] at p2; exact p2
      | ex x e' s' => rw [e2] at p2; exact p2
      | no => rw [e2] at p2; exact p2

/-! ### for -/
def enD (ds : List D) : List D := (List.range ds.length).map fun i => .tup [.int (i : Nat), ds.getD i .non]
/-- what is walked and must stay: the list itself, or the list that is enumerated -/
inductive GN where
  | l (n : Nat) | e (n : Nat)
instance : Coe Nat GN := ⟨GN.l⟩
abbrev Src := Fx (List D × Option GN)
def guard (g : Option GN) (all : List D) (st : Store) : Prop := match g with
  | none => True
  | some (.l n) => st[n]? = some (.lst all)
  | some (.e n) => ∃ xs, st[n]? = some (.lst xs) ∧ all = enD xs
def forL (g : Option GN) (all : List D) (t : Tgt) (b : Sx) : List D → Sx
  | [], env, st => if guard g all st then .nx env st else .no
  | x :: xs, env, st => if guard g all st then (match tgSet t x env with
    | none => .no
    | some env1 => match b env1 st with
      | .nx e s => forL g all t b xs e s
      | .ct e s => forL g all t b xs e s
      | .bk e s => .nx e s
      | o => o) else .no
def sFor (src : Src) (t : Tgt) (b : Sx) : Sx := fun env st => (src env st).toOut env fun p s => forL p.2 p.1 t b p.1 env s
/-- an iterator that gives these items, from a state on -/
def Walks (X : Cx) (t : Tgt) (J : It) (xs : List D) (g : Option GN) (H0 : Hp) (r0 : List Addr) : Prop :=
  ∀ (i : Nat) (H : Hp) (r : List Addr) (st : Store), Ext X.K H0 H → r0 <+: r → HR X.K X.mg H r st → guard g xs st →
    (xs[i]? = none → i = xs.length → J.stop i H) ∧ ∀ d, xs[i]? = some d → J.go i H ∧ ∀ x H', J.yld i H x H' → Ext X.K H H' ∧ HR X.K X.mg H' r st ∧ RpT X.K H' r t d x
abbrev RW_ (X : Cx) (t : Tgt) : Hp → List Addr → List D × Option GN → It → Prop := fun H r p J => Walks X t J p.1 p.2 H r
abbrev iM (X : Cx) (W : WX) (t : Tgt) (src : Src) : TI := tG X W (RW_ X t) src
abbrev PIm (X : Cx) (W : WX) (t : Tgt) (tg e : Expr) (src : Src) : Prop := PI X tg e (iM X W t src)
theorem PI.imp {X : Cx} {tg e : Expr} {t t' : TI} (h : PI X tg e t) (i : ∀ σ H R, t' σ H R → t σ H R) : PI X tg e t' := ⟨fun pins s σ H Q I q => h.run pins s σ H Q I (i _ _ _ q)⟩
theorem m_for {tg iter : Expr} {body : List Stmt} {src : Src} {t : Tgt} {fb : Sx} {pos : Pos} (hp : PassesOwn (model X.prog X.w) X.A X.env X.xe) (hc : X.calm = true) (hi : PIm X W t tg iter src) (hg : PGm X tg t) (hb : PSsm X W body fb)
    (hs : ∀ x, foldedSetIterable iter X.env x = pure x := by intro _; rfl) : PSm X W (.For tg iter body [] pos) (sFor src t fb) := PS.imp (ps_for hp hc hi hg hb hs) fun Dn σ H q =>
  tS_seq (R := RW_ X t) q fun pr J H0 env r0 st er hr wk p => by
    obtain ⟨xs, g⟩ := pr
    dsimp only at p
    refine ⟨fun i m σ H => i ≤ xs.length ∧ m = xs.length - i ∧ ∃ env r st, ER X.K H r env σ ∧ HR X.K X.mg H r st ∧ Ext X.K H0 H ∧ r0 <+: r ∧ PstS X.K X.mg W H r (forL g xs t fb (xs.drop i) env st) Dn, ⟨xs.length, Nat.zero_le _, rfl, env, r0, st, er, hr, Ext.refl _ _, List.prefix_refl _, p⟩, ?_⟩
    rintro i m σ H ⟨hi, hm, env, r, st, er, hr, ex, pf, p⟩
    by_cases hlt : i < xs.length
    · rw [List.drop_eq_getElem_cons hlt, forL] at p
      by_cases hg : guard g xs st
      · rw [if_pos hg] at p
        obtain ⟨_, w2⟩ := wk i H r st ex pf hr hg
        obtain ⟨go, yl⟩ := w2 _ (List.getElem?_eq_getElem hlt)
        refine .inr ⟨go, fun σ' H' => ∃ env r st, ER X.K H' r env σ' ∧ HR X.K X.mg H' r st ∧ Ext X.K H0 H' ∧ r0 <+: r ∧ PstS X.K X.mg W H' r (forL g xs t fb (xs.drop (i + 1)) env st) Dn, fun σ' H' q => ⟨xs.length - (i + 1), by omega, hlt, rfl, q⟩, fun x H' y => ?_⟩
        obtain ⟨e1, hr1, rx⟩ := yl x H' y
        cases ht : tgSet t xs[i] env with
        | none => rw [ht] at p; exact p.elim
        | some env1 =>
          rw [ht] at p
          refine ⟨env, r, xs[i], env1, er.mono e1 (List.prefix_refl _), rx, ht, fun σ2 _ er2 => ⟨env1, r, st, er2, hr1, ?_⟩⟩
          have p1 := PstS.base p (s1 := st) (H1 := H') (r1 := r) ⟨e1, List.prefix_refl _, hr1⟩
          dsimp only at p1
          cases e2 : fb env1 st with
          | nx e' s' => rw [e2] at p1; exact fun σ' H'' r' gr er' => ⟨e', r', s', er', gr.2.2, (ex.trans e1).trans gr.1, pf.trans gr.2.1, PstS.base p1 gr⟩
          | ct e' s' => rw [e2] at p1; exact fun σ' H'' r' gr er' => ⟨e', r', s', er', gr.2.2, (ex.trans e1).trans gr.1, pf.trans gr.2.1, PstS.base p1 gr⟩
          | bk e' s' => rw [e2] at p1; exact p1
          | rt d s' => rw [e2] at p1; exact p1
          | ex x e' s' => rw [e2] at p1; exact p1
          | no => rw [e2] at p1; exact p1
      · rw [if_neg hg] at p; exact p.elim
    · have e : i = xs.length := by omega
      subst e
      rw [List.drop_length, forL] at p
      by_cases hg : guard g xs st
      · rw [if_pos hg] at p
        exact .inl ⟨(wk _ H r st ex pf hr hg).1 (List.getElem?_eq_none (Nat.le_refl _)) rfl, psts_nx hr p er⟩
      · rw [if_neg hg] at p; exact p.elim

/-! ### what is walked -/
/-- a tuple or a list at hand -/
def srcSeq (f : Ex) : Src := fun env st => (f env st).bind fun d s => match d with
  | .tup xs => .ok (xs, none) s
  | .fro xs => .ok (xs, none) s
  | .adr n => match lstAt s n with
    | some xs => .ok (xs, some (GN.l n)) s
    | none => .no
  | _ => .no
theorem walks_tup {tt : Tgt} {a : Addr} {vs : List V} {xs : List D} {H0 : Hp} {r0 : List Addr} (t : TpL X.K H0 a vs) (l : RpL X.K H0 r0 xs vs) : Walks X tt (Itt X.K a) xs none H0 r0 := fun i H r st ex pf hr _ => by
  have t' := (ex.t _ _ t).seq
  have l' := RpL.mono ex pf _ _ l
  refine ⟨fun _ hi => ⟨vs, t', by rw [l.length, hi]; exact Nat.le_refl _⟩, fun d hd => ?_⟩
  obtain ⟨v, e1, e2⟩ := l'.get hd
  exact ⟨⟨vs, v, t', e1⟩, fun x H' ⟨eh, y⟩ => by subst eh; refine ⟨Ext.refl _ _, hr, ?_⟩; rw [y vs t'] at e1; cases e1; exact RpT.of e2⟩
theorem walks_fro {tt : Tgt} {a : Addr} {vs : List V} {xs : List D} {H0 : Hp} {r0 : List Addr} (t : FzL X.K H0 a vs) (l : RpL X.K H0 r0 xs vs) : Walks X tt (Itl X.K a) xs none H0 r0 := fun i H r st ex pf hr _ => by
  have t' := (ex.f _ _ t).seq
  have l' := RpL.mono ex pf _ _ l
  refine ⟨fun _ hi => ⟨vs, t', by rw [l.length, hi]; exact Nat.le_refl _⟩, fun d hd => ?_⟩
  obtain ⟨v, e1, e2⟩ := l'.get hd
  exact ⟨⟨vs, v, t', e1⟩, fun x H' ⟨eh, y⟩ => by subst eh; refine ⟨Ext.refl _ _, hr, ?_⟩; rw [y vs t'] at e1; cases e1; exact RpT.of e2⟩
theorem walks_lst {tt : Tgt} {a : Addr} {n : Nat} {xs : List D} {H0 : Hp} {r0 : List Addr} (t : r0[n]? = some a) : Walks X tt (Itl X.K a) xs (some n) H0 r0 := fun i H r st ex pf hr hg => by
  obtain ⟨a', vs, e1, e2, e3⟩ := hr.lst (lstAt_iff.mpr hg)
  rw [pre_get pf t] at e1
  cases e1
  have t' : SqL X.K H a vs := SqL.of e2
  refine ⟨fun _ hi => ⟨vs, t', by rw [e3.length, hi]; exact Nat.le_refl _⟩, fun d hd => ?_⟩
  obtain ⟨v, f1, f2⟩ := e3.get hd
  exact ⟨⟨vs, v, t', f1⟩, fun x H' ⟨eh, y⟩ => by subst eh; refine ⟨Ext.refl _ _, hr, ?_⟩; rw [y vs t'] at f1; cases f1; exact RpT.of f2⟩
/-- what is walked may be a tuple or a list: both rules at once -/
theorem pi_seq {tg l : Expr} {tl : TE} (hl : PE X l tl) : PI X tg l (fun σ H R => tl σ H fun x H1 => ∃ a, x = .ref a ∧ (((∃ xs, SqL X.K H1 a xs) ∧ R (Itl X.K a) H1) ∨ ((∃ xs, SqT X.K H1 a xs) ∧ R (Itt X.K a) H1))) := by
  refine ⟨fun pins s σ H R I h => ?_⟩
  refine thn (hl.run pins s σ H _ I h) fun v s1 ⟨x, H1, I1, r1, q1⟩ => ?_
  obtain ⟨a, e, q⟩ := q1
  subst e
  cases r1
  rcases q with ⟨⟨xs, hq⟩, q⟩ | ⟨⟨xs, hq⟩, q⟩
  · obtain ⟨its, rv, p, hz⟩ := I1.list hq
    refine wpAny_pyIter_list p.isList ?_
    refine ⟨s1.heap.objs.size, [s1.heap.objs.size], _, _, H1, rfl, I1.kept (t' := s1.toks) fun b o e => Heap.get?_push_of_some _ e, turn_list a _, ⟨_, Heap.get?_push_size _ rfl, rfl, rfl⟩, fun b hb => ?_, q⟩
    have e : b = s1.heap.objs.size := by simpa using hb
    subst e
    exact I1.fpOk (Nat.le_refl _) (I1.hok.fresh (Nat.le_refl _))
  · obtain ⟨its, rv, p, hz⟩ := I1.tuple hq
    refine wpAny_pyIter_tuple (show s1.heap.IsTuple a its.toArray from p) ?_
    refine ⟨s1.heap.objs.size, [s1.heap.objs.size], _, _, H1, rfl, I1.kept (t' := s1.toks) fun b o e => Heap.get?_push_of_some _ e, turn_tuple a _, ⟨_, Heap.get?_push_size _ rfl, rfl, rfl⟩, fun b hb => ?_, q⟩
    have e : b = s1.heap.objs.size := by simpa using hb
    subst e
    exact I1.fpOk (Nat.le_refl _) (I1.hok.fresh (Nat.le_refl _))
theorem i_seq {tt : Tgt} {tg e : Expr} {f : Ex} (h : PEm X W e f) : PIm X W tt tg e (srcSeq f) := PI.imp (pi_seq h) fun σ H R q =>
  tG_seq (Ra := RV X) q fun d x H1 env r st er hr rd p => by
    cases d with
    | tup xs =>
      obtain ⟨a, vs, rfl, t, l⟩ := Rp.tup_iff.mp rd
      exact ⟨a, rfl, .inr ⟨⟨vs, t.seq⟩, pst_ok (v := Itt X.K a) hr p (walks_tup t l)⟩⟩
    | fro xs =>
      obtain ⟨a, vs, rfl, t, l⟩ := Rp.fro_iff.mp rd
      exact ⟨a, rfl, .inl ⟨⟨vs, t.seq⟩, pst_ok (v := Itl X.K a) hr p (walks_fro t l)⟩⟩
    | adr n =>
      obtain ⟨a, e1, rfl⟩ := Rp.adr_iff.mp rd
      dsimp only at p
      cases hl : lstAt st n with
      | none => rw [hl] at p; exact p.elim
      | some xs =>
        rw [hl] at p
        obtain ⟨a', vs, q1, q2, q3⟩ := hr.lst hl
        rw [e1] at q1; cases q1
        exact ⟨a, rfl, .inl ⟨⟨vs, SqL.of q2⟩, pst_ok (v := Itl X.K a) hr p (walks_lst e1)⟩⟩
    | _ => exact p.elim
/-- range(n), range(a, b) -/
def rngD (lo : Int) (n : Nat) : List D := (List.range n).map fun (i : Nat) => .int (lo + (i : Int))
theorem rngD_get (lo : Int) (n i : Nat) : (rngD lo n)[i]? = if i < n then some (.int (lo + (i : Int))) else none := by
  unfold rngD
  rw [List.getElem?_map]
  by_cases h : i < n
  · rw [if_pos h, List.getElem?_eq_getElem (by simpa using h)]
    simp
  · rw [if_neg h, List.getElem?_eq_none (by simpa using h)]
    rfl
theorem walks_rng {tt : Tgt} {lo : Int} {n : Nat} {H0 : Hp} {r0 : List Addr} : Walks X tt (Itr lo n) (rngD lo n) none H0 r0 := fun i H r st ex pf hr _ => by
  have hl : (rngD lo n).length = n := by unfold rngD; simp
  refine ⟨fun _ hi => by rw [hl] at hi; exact Nat.le_of_eq hi.symm, fun d hd => ?_⟩
  rw [rngD_get] at hd
  by_cases h : i < n
  · rw [if_pos h] at hd
    cases hd
    exact ⟨h, fun x H' ⟨eh, ev⟩ => by subst eh ev; exact ⟨Ext.refl _ _, hr, RpT.of (Rp.int_iff.mpr rfl)⟩⟩
  · rw [if_neg h] at hd; cases hd
def srcR1 (f : Fx (List D)) : Src := fun env st => (f env st).bind fun ds s => match ds with
  | [.int j] => if -(2 ^ 62) ≤ j ∧ j < 2 ^ 62 then .ok (rngD 0 j.toNat, none) s else .no
  | _ => .no
def srcR2 (f : Fx (List D)) : Src := fun env st => (f env st).bind fun ds s => match ds with
  | [.int i, .int j] => if -(2 ^ 62) ≤ i ∧ i < 2 ^ 62 ∧ -(2 ^ 62) ≤ j ∧ j < 2 ^ 62 then .ok (rngD i (j - i).toNat, none) s else .no
  | _ => .no
theorem rpl_int1 {K : PySem.W.Frag} {H : Hp} {r : List Addr} {i : Int} {vs : List V} (h : RpL K H r [.int i] vs) : vs = [.int i] := by
  obtain ⟨v, ws, rfl, r1, r2⟩ := RpL.cons_iff.mp h
  have := RpL.nil_iff.mp r2
  subst this
  rw [Rp.int_iff.mp r1]
theorem i_r1 {tt : Tgt} {tg a : Expr} {fa : Fx (List D)} {p pos : Pos} (hg : Gl X "range") (hm : X.mg "range" = none) (ha : PAm X W [a] fa) (hs : starEach [a] X.env = [(false, eval a X.env)] := by rfl) : PIm X W tt tg (.Call (.Name "range" p) [a] [] pos) (srcR1 fa) := PI.imp (pi_range1 hg hm ha hs) fun σ H R q =>
  tG_seq (Ra := RVs X) q fun ds xs H1 env r st er hr rd p => by
    split at p
    · rename_i j
      split at p
      · rename_i c
        have := rpl_int1 rd
        subst this
        exact ⟨j, rfl, c.1, c.2, pst_ok (v := Itr 0 j.toNat) hr p walks_rng⟩
      · exact p.elim
    · exact p.elim
theorem i_r2 {tt : Tgt} {tg a b : Expr} {fa : Fx (List D)} {p pos : Pos} (hg : Gl X "range") (hm : X.mg "range" = none) (ha : PAm X W [a, b] fa) (hs : starEach [a, b] X.env = [(false, eval a X.env), (false, eval b X.env)] := by rfl) (hs2 : starEach [b] X.env = [(false, eval b X.env)] := by rfl) :
    PIm X W tt tg (.Call (.Name "range" p) [a, b] [] pos) (srcR2 fa) := PI.imp (pi_range2 hg hm ha hs hs2) fun σ H R q =>
  tG_seq (Ra := RVs X) q fun ds xs H1 env r st er hr rd p => by
    split at p
    · rename_i i j
      split at p
      · rename_i c
        obtain ⟨v, ws, rfl, r1, r2⟩ := RpL.cons_iff.mp rd
        have := rpl_int1 r2
        subst this
        rw [Rp.int_iff.mp r1]
        exact ⟨i, j, rfl, c, pst_ok (v := Itr i (j - i).toNat) hr p walks_rng⟩
      · exact p.elim
    · exact p.elim
end
end Mi

namespace Mi
open PySem PySem.Spec PyProof.Rows L2
noncomputable section
open Classical
variable {X : Cx} {W : WX}

/-! ### comprehensions -/
def wipeE (env : MEnv) : List Nat → MEnv
  | [] => env
  | v :: vs => (wipeE env vs).set v none
def noEx {α : Type} : Rs α → Rs α
  | .ok a s => .ok a s
  | _ => .no
@[simp] theorem noEx_ok {α : Type} (a : α) (s : Store) : noEx (Rs.ok a s) = .ok a s := rfl
@[simp] theorem noEx_no {α : Type} : noEx (Rs.no : Rs α) = .no := rfl
@[simp] theorem noEx_ex {α : Type} (e : Exn) (s : Store) : noEx (Rs.ex e s : Rs α) = .no := rfl
abbrev Em := MEnv → Store → Option Store
def cmL (g : Option GN) (all : List D) (t : Tgt) (c : Fx Bool) (em : Em) (envw : MEnv) : List D → Store → Option Store
  | [], st => if guard g all st then some st else none
  | x :: xs, st => if guard g all st then (match tgSet t x envw with
    | none => none
    | some env1 => match c env1 st with
      | .ok true s => (match em env1 s with
        | some s' => cmL g all t c em envw xs s'
        | none => none)
      | .ok false s => cmL g all t c em envw xs s
      | _ => none) else none
def emL (n : Nat) (f : Ex) : Em := fun env st => match f env st with
  | .ok d s => match lstAt s n with
    | some acc => if acc.length < sizeLine then some (s.set n (.lst (acc ++ [d]))) else none
    | none => none
  | _ => none
def emD (n : Nat) (fk fv : Ex) : Em := fun env st => match fk env st with
  | .ok k s => (match fv env s with
    | .ok d s2 => (match keyD k, dctAt s2 n with
      | some key, some kvs => if kvs.length < sizeLine then some (s2.set n (.dct (putD kvs key d))) else none
      | _, _ => none)
    | _ => none)
  | _ => none
def eLc (src : Src) (t : Tgt) (c : Fx Bool) (f : Ex) (own : List Nat) : Ex := fun env st => (src env st).bind fun p s =>
  match cmL p.2 p.1 t c (emL s.length f) (wipeE env own) p.1 (s ++ [.lst []]) with
  | some s' => .ok (.adr s.length) s'
  | none => .no
def eDc (src : Src) (t : Tgt) (c : Fx Bool) (fk fv : Ex) (own : List Nat) : Ex := fun env st => (src env st).bind fun p s =>
  match cmL p.2 p.1 t c (emD s.length fk fv) (wipeE env own) p.1 (s ++ [.dct []]) with
  | some s' => .ok (.adr s.length) s'
  | none => .no
def tTrue : Fx Bool := fun _ st => .ok true st
theorem ER.wipe {K : PySem.W.Frag} {H : Hp} {r : List Addr} {env : MEnv} {σ : L2.St} (h : ER K H r env σ) : ∀ vs : List Nat, ER K H r (wipeE env vs) (L2.wipe σ vs)
  | [] => h
  | v :: vs => (ER.wipe h vs).setN v
theorem wipe_in {σ : L2.St} {i : Nat} : ∀ {vs : List Nat}, i ∈ vs → (L2.wipe σ vs)[i]? = if i < σ.length then some none else none
  | v :: vs, h => by
    unfold L2.wipe
    by_cases e : v = i
    · subst e
      by_cases hl : v < σ.length
      · rw [if_pos hl, List.getElem?_set_self (by rw [L2.wipe_length]; exact hl)]
      · rw [if_neg hl, List.getElem?_eq_none (by rw [List.length_set, L2.wipe_length]; omega)]
    · rw [List.getElem?_set_ne e]
      exact wipe_in ((List.mem_cons.mp h).resolve_left fun z => e z.symm)
theorem wipe_only {σ σ' : L2.St} {is vs : List Nat} (h : OnlyAt is (L2.wipe σ vs) σ') (hs : ∀ i ∈ is, i ∈ vs) : L2.wipe σ' vs = L2.wipe σ vs := by
  have hl : σ'.length = σ.length := by rw [h.1, L2.wipe_length]
  apply List.ext_getElem?
  intro i
  by_cases hi : i ∈ vs
  · rw [wipe_in hi, wipe_in hi, hl]
  · rw [wipe_out hi, wipe_out hi, h.2 i fun z => hi (hs i z), wipe_out hi]
/-- the loop, whatever a turn lays -/
theorem cm_imp {σ : L2.St} {g : Option GN} {all : List D} {t : Tgt} {c : Fx Bool} {em : Em} {own : List Nat} {J : It} {Q : Hp → Prop} {D₀ : Addr} {n : Nat} {T : L2.St → Hp → (Hp → Prop) → Prop} {tt : TT} {W0 : WX}
    {env : MEnv} {H1 : Hp} {r1 : List Addr} {s1 : Store} (er : ER X.K H1 r1 (wipeE env own) (L2.wipe σ own)) (hr : HR X.K X.mg H1 r1 s1) (hn : r1[n]? = some D₀) (wk : Walks X t J all g H1 r1) (hs : ∀ i ∈ t.slots, i ∈ own) {s' : Store} (p : cmL g all t c em (wipeE env own) all s1 = some s')
    (hQ : ∀ H r, HR X.K X.mg H r s' → Ext X.K H1 H → r1 <+: r → Q H)
    (ht : ∀ σ H (Q : Bool → Hp → Prop), tT X W0 c σ H Q → tt σ H Q)
    (hT : ∀ env σ H r st s2 (Nx : Hp → Prop), ER X.K H r env σ → HR X.K X.mg H r st → r[n]? = some D₀ → em env st = some s2 → (∀ H' r', Grow X.K X.mg H r s2 H' r' → Nx H') → T σ H Nx) :
    ∃ W : Nat → Nat → Hp → Prop, (∃ m, W 0 m H1) ∧ ∀ i m H, W i m H → (J.stop i H ∧ Q H) ∨ (J.go i H ∧ ∃ Nx : Hp → Prop, (∀ H', Nx H' → ∃ m', m' < m ∧ W (i + 1) m' H') ∧ ∀ x H', J.yld i H x H' → gM X t x (L2.wipe σ own) H' fun σ2 H2 => L2.wipe σ2 own = L2.wipe σ own ∧ tt σ2 H2 fun b H3 =>
      if b = true then T σ2 H3 Nx else Nx H3) := by
  refine ⟨fun i m H => i ≤ all.length ∧ m = all.length - i ∧ ∃ r st, ER X.K H r (wipeE env own) (L2.wipe σ own) ∧ HR X.K X.mg H r st ∧ Ext X.K H1 H ∧ r1 <+: r ∧ cmL g all t c em (wipeE env own) (all.drop i) st = some s', ⟨all.length, Nat.zero_le _, rfl, r1, s1, er, hr, Ext.refl _ _, List.prefix_refl _, p⟩, ?_⟩
  rintro i m H ⟨hi, hm, r, st, er, hr, ex, pf, p⟩
  by_cases hlt : i < all.length
  · rw [List.drop_eq_getElem_cons hlt, cmL] at p
    by_cases hg : guard g all st
    · rw [if_pos hg] at p
      obtain ⟨_, w2⟩ := wk i H r st ex pf hr hg
      obtain ⟨go, yl⟩ := w2 _ (List.getElem?_eq_getElem hlt)
      refine .inr ⟨go, fun H' => ∃ r st, ER X.K H' r (wipeE env own) (L2.wipe σ own) ∧ HR X.K X.mg H' r st ∧ Ext X.K H1 H' ∧ r1 <+: r ∧ cmL g all t c em (wipeE env own) (all.drop (i + 1)) st = some s', fun H' q => ⟨all.length - (i + 1), by omega, hlt, rfl, q⟩, fun x H' y => ?_⟩
      obtain ⟨e1, hr1, rx⟩ := yl x H' y
      cases hts : tgSet t all[i] (wipeE env own) with
      | none => rw [hts] at p; cases p
      | some env1 =>
        rw [hts] at p
        have erw := er.mono e1 (List.prefix_refl _)
        refine ⟨wipeE env own, r, all[i], env1, erw, rx, hts, fun σ2 ho er2 => ⟨wipe_only ho hs, ht _ _ _ ⟨env1, r, st, er2, hr1, ?_⟩⟩⟩
        dsimp only at p
        cases hc : c env1 st with
        | no => rw [hc] at p; cases p
        | ex z s => rw [hc] at p; cases p
        | ok b s =>
          rw [hc] at p
          intro b' H3 r3 gr eb
          cases eb
          cases b with
          | false => exact ⟨r3, s, (erw.mono gr.1 gr.2.1), gr.2.2, (ex.trans e1).trans gr.1, pf.trans gr.2.1, p⟩
          | true =>
            rw [if_pos rfl]
            dsimp only at p
            cases he : em env1 s with
            | none => rw [he] at p; cases p
            | some s4 =>
              rw [he] at p
              exact hT env1 σ2 H3 r3 s s4 _ (er2.mono gr.1 gr.2.1) gr.2.2 (pre_get gr.2.1 (pre_get pf hn)) he fun H4 r4 g4 => ⟨r4, s4, (erw.mono gr.1 gr.2.1).mono g4.1 g4.2.1, g4.2.2, ((ex.trans e1).trans gr.1).trans g4.1, (pf.trans gr.2.1).trans g4.2.1, p⟩
    · rw [if_neg hg] at p; cases p
  · have e : i = all.length := by omega
    subst e
    rw [List.drop_length, cmL] at p
    by_cases hg : guard g all st
    · rw [if_pos hg] at p
      have es := Option.some.inj p
      exact .inl ⟨(wk _ H r st ex pf hr hg).1 (List.getElem?_eq_none (Nat.le_refl _)) rfl, hQ H r (es ▸ hr) ex pf⟩
    · rw [if_neg hg] at p; cases p
abbrev W0 : WX := fun _ _ _ _ => False
theorem new_at {r : List Addr} {a : Addr} {st : Store} {H : Hp} (hr : HR X.K X.mg H r st) : (r ++ [a])[st.length]? = some a := by
  rw [← hr.len]; simp
theorem lc_imp {src : Src} {t : Tgt} {c : Fx Bool} {f : Ex} {own : List Nat} {σ : L2.St} {H : Hp} {Q : VK} {tt : TT} {te : TE} (h : tM X W (eLc src t c f own) σ H Q) (hs : ∀ i ∈ t.slots, i ∈ own) (ht : ∀ σ H (Q : Bool → Hp → Prop), tT X W0 c σ H Q → tt σ H Q) (he : ∀ σ H Q, tM X W0 f σ H Q → te σ H Q) :
    tLc (iM X W t src) (gM X t) tt te own σ H Q := by
  refine tG_seq (Ra := RW_ X t) h fun pr J H1 env r st er hr wk p D hD => ?_
  obtain ⟨xs, g⟩ := pr
  dsimp only at p wk
  cases hc : cmL g xs t c (emL st.length f) (wipeE env own) xs (st ++ [.lst []]) with
  | none => rw [hc] at p; exact p.elim
  | some s' =>
    rw [hc] at p
    have x0 : Ext X.K H1 (upd H1 D (.lst [])) := Ext.fresh hD
    have hr' : HR X.K X.mg (upd H1 D (.lst [])) (r ++ [D]) (st ++ [.lst []]) := hr.new hD ⟨[], upd_same, RpL.nil⟩
    refine cm_imp (T := fun σ2 H3 Nx => te σ2 H3 fun y H4 => ∃ acc, H4 D = some (.lst acc) ∧ acc.length < sizeLine ∧ Nx (upd H4 D (.lst (acc ++ [y])))) (W0 := W0) (n := st.length) (D₀ := D) ((er.mono x0 ⟨[D], rfl⟩).wipe own) hr' (new_at hr) (fun i H r' st' ex pf hr gd => wk i H r' st' (x0.trans ex) (List.IsPrefix.trans ⟨[D], rfl⟩ pf) hr gd) hs hc (fun H2 r2 hr2 ex2 pf2 => ?_) ht (fun env2 σ2 H3 r3 s3 s4 Nx er3 hr3 hn3 hem q => ?_)
    · exact p (.ref D) H2 r2 ⟨x0.trans ex2, List.IsPrefix.trans ⟨[D], rfl⟩ pf2, hr2⟩ (Rp.adr_iff.mpr ⟨D, pre_get pf2 (new_at hr), rfl⟩)
    · refine he _ _ _ ⟨env2, r3, s3, er3, hr3, ?_⟩
      unfold emL at hem
      cases hf : f env2 s3 with
      | no => rw [hf] at hem; cases hem
      | ex z s => rw [hf] at hem; cases hem
      | ok d s5 =>
        rw [hf] at hem
        dsimp only at hem
        intro y H4 r4 gr ry
        cases hl : lstAt s5 st.length with
        | none => rw [hl] at hem; cases hem
        | some acc =>
          rw [hl] at hem
          obtain ⟨cc, e⟩ := ite_some hem
          cases e
          obtain ⟨a', vs, q1, q2, q3⟩ := gr.2.2.lst hl
          rw [pre_get gr.2.1 hn3] at q1
          cases q1
          refine ⟨vs, q2, by rw [q3.length]; exact cc, q _ r4 ?_⟩
          have x : Ext X.K H4 (upd H4 D (.lst (vs ++ [y]))) := Ext.write q2 trivial
          exact ⟨gr.1.trans x, gr.2.1, gr.2.2.put (pre_get gr.2.1 hn3) ⟨_, upd_same, RpL.mono x (List.prefix_refl _) _ _ (q3.append (RpL.one ry))⟩⟩
theorem dc_imp {src : Src} {t : Tgt} {c : Fx Bool} {fk fv : Ex} {own : List Nat} {σ : L2.St} {H : Hp} {Q : VK} {tt : TT} {tk tv : TE} (h : tM X W (eDc src t c fk fv own) σ H Q) (hs : ∀ i ∈ t.slots, i ∈ own) (ht : ∀ σ H (Q : Bool → Hp → Prop), tT X W0 c σ H Q → tt σ H Q) (hk : ∀ σ H Q, tM X W0 fk σ H Q → tk σ H Q) (hv : ∀ σ H Q, tM X W0 fv σ H Q → tv σ H Q) :
    tDc (iM X W t src) (gM X t) tt tk tv own σ H Q := by
  refine tG_seq (Ra := RW_ X t) h fun pr J H1 env r st er hr wk p D hD => ?_
  obtain ⟨xs, g⟩ := pr
  dsimp only at p wk
  cases hc : cmL g xs t c (emD st.length fk fv) (wipeE env own) xs (st ++ [.dct []]) with
  | none => rw [hc] at p; exact p.elim
  | some s' =>
    rw [hc] at p
    have x0 : Ext X.K H1 (upd H1 D (.dK [])) := Ext.fresh hD
    have hr' : HR X.K X.mg (upd H1 D (.dK [])) (r ++ [D]) (st ++ [.dct []]) := hr.new hD ⟨[], upd_same, rfl, RpL.nil⟩
    refine cm_imp (T := fun σ2 H3 Nx => tk σ2 H3 fun y H4 => tv σ2 H4 fun z H5 => ∃ kvs k, y = kV k ∧ H5 D = some (.dK kvs) ∧ kvs.length < sizeLine ∧ Nx (upd H5 D (.dK (putK kvs k z)))) (W0 := W0) (n := st.length) (D₀ := D) ((er.mono x0 ⟨[D], rfl⟩).wipe own) hr' (new_at hr) (fun i H r' st' ex pf hr gd => wk i H r' st' (x0.trans ex) (List.IsPrefix.trans ⟨[D], rfl⟩ pf) hr gd) hs hc (fun H2 r2 hr2 ex2 pf2 => ?_) ht (fun env2 σ2 H3 r3 s3 s4 Nx er3 hr3 hn3 hem q => ?_)
    · exact p (.ref D) H2 r2 ⟨x0.trans ex2, List.IsPrefix.trans ⟨[D], rfl⟩ pf2, hr2⟩ (Rp.adr_iff.mpr ⟨D, pre_get pf2 (new_at hr), rfl⟩)
    · refine hk _ _ _ ⟨env2, r3, s3, er3, hr3, ?_⟩
      unfold emD at hem
      cases hf : fk env2 s3 with
      | no => rw [hf] at hem; cases hem
      | ex z s => rw [hf] at hem; cases hem
      | ok d s5 =>
        rw [hf] at hem
        dsimp only at hem
        intro y H4 r4 gr ry
        refine hv _ _ _ ⟨env2, r4, s5, er3.mono gr.1 gr.2.1, gr.2.2, ?_⟩
        cases hf2 : fv env2 s5 with
        | no => rw [hf2] at hem; cases hem
        | ex z s => rw [hf2] at hem; cases hem
        | ok d2 s6 =>
          rw [hf2] at hem
          dsimp only at hem
          intro z H5 r5 gr2 rz
          cases hkk : keyD d with
          | none => rw [hkk] at hem; cases hem
          | some key =>
            cases hl : dctAt s6 st.length with
            | none => rw [hkk, hl] at hem; cases hem
            | some acc =>
              rw [hkk, hl] at hem
              obtain ⟨cc, e⟩ := ite_some hem
              cases e
              obtain ⟨a', vs, q1, q2, q3⟩ := gr2.2.2.dct hl
              rw [pre_get gr2.2.1 (pre_get gr.2.1 hn3)] at q1
              cases q1
              have hlen : vs.length = acc.length := by have := congrArg List.length q3.1; simpa using this.symm
              refine ⟨vs, key, keyD_kV hkk ry, q2, by rw [hlen]; exact cc, q _ r5 ?_⟩
              have x : Ext X.K H5 (upd H5 D (.dK (putK vs key z))) := Ext.write q2 trivial
              exact ⟨(gr.1.trans gr2.1).trans x, gr.2.1.trans gr2.2.1, gr2.2.2.put (pre_get gr2.2.1 (pre_get gr.2.1 hn3)) ⟨_, upd_same, (put_rel q3 rz).mono x (List.prefix_refl _)⟩⟩
/-- what holds in a comprehension's block, whatever its place -/
abbrev InBlk (X : Cx) (scope : Scope) (P : Cx → Prop) : Prop := ∀ (s : Shared) (H : Hp) (C : Addr) (cl : List (Str × Addr)) (fp : List Addr), P (X.blk s H scope (compEnvC scope cl C X.env) fp)
theorem m_lc {elt tg iter : Expr} {ifs : List Expr} {scope : Scope} {own : List (Str × Nat)} {pos : Pos} {src : Src} {t : Tgt} {c : Fx Bool} {f : Ex} (hc : X.calm = true) (hN : X.N.Nodup) (hi : PIm X W t tg iter src) (ok : BlkOk X.N X.env.scope scope own)
    (hg : InBlk X scope fun Y => PGm Y tg t) (ht : InBlk X scope fun Y => PTs Y ifs (tT Y W0 c)) (he : InBlk X scope fun Y => PEm Y W0 elt f) (hsl : ∀ i ∈ t.slots, i ∈ own.map (·.2)) (hs : ∀ x, foldedSetIterable iter X.env x = pure x := by intro _; rfl) :
    PEm X W (.ListComp elt [⟨tg, iter, ifs, 0⟩] scope pos) (eLc src t c f (own.map (·.2))) :=
  PE.imp (pe_lc (g := gM X t) (tt := tT X W0 c) (te := tM X W0 f) hc hN hi ok hg ht he hs) fun σ H Q q => lc_imp q hsl (fun _ _ _ q => q) fun _ _ _ q => q
theorem m_setlc {i : Nat} {y : Str} {py : Pos} {elt tg iter : Expr} {ifs : List Expr} {scope : Scope} {own : List (Str × Nat)} {pos spos : Pos} {src : Src} {t : Tgt} {c : Fx Bool} {f : Ex} (hc : X.calm = true) (hN : X.N.Nodup) (hy : X.N[i]? = some y) (hyl : X.env.scope.names.lookup y = some .local)
    (hsw : swapsWith (.ListComp elt [⟨tg, iter, ifs, 0⟩] scope pos) (some (.Name y py)) spos.line X.env = pure true) (hi : PIm X W t tg iter src) (ok : BlkOk X.N X.env.scope scope own)
    (hg : InBlk X scope fun Y => PGm Y tg t) (ht : InBlk X scope fun Y => PTs Y ifs (tT Y W0 c)) (he : InBlk X scope fun Y => PEm Y W0 elt f) (hsl : ∀ i ∈ t.slots, i ∈ own.map (·.2)) (hs : ∀ x, foldedSetIterable iter X.env x = pure x := by intro _; rfl) :
    PSm X W (.Assign [.Name y py] (.ListComp elt [⟨tg, iter, ifs, 0⟩] scope pos) spos) (sSet i (eLc src t c f (own.map (·.2)))) :=
  PS.imp (ps_setLc (g := gM X t) (tt := tT X W0 c) (te := tM X W0 f) hc hN hy hyl hsw hi ok hg ht he hs) fun Dn σ H q => lc_imp (set_imp q) hsl (fun _ _ _ q => q) fun _ _ _ q => q
theorem m_dc {kx vx tg iter : Expr} {ifs : List Expr} {scope : Scope} {own : List (Str × Nat)} {pos : Pos} {src : Src} {t : Tgt} {c : Fx Bool} {fk fv : Ex} (hc : X.calm = true) (hN : X.N.Nodup) (hi : PIm X W t tg iter src) (ok : BlkOk X.N X.env.scope scope own)
    (hg : InBlk X scope fun Y => PGm Y tg t) (ht : InBlk X scope fun Y => PTs Y ifs (tT Y W0 c)) (hk : InBlk X scope fun Y => PEm Y W0 kx fk) (hv : InBlk X scope fun Y => PEm Y W0 vx fv) (hsl : ∀ i ∈ t.slots, i ∈ own.map (·.2)) (hs : ∀ x, foldedSetIterable iter X.env x = pure x := by intro _; rfl) :
    PEm X W (.DictComp kx vx [⟨tg, iter, ifs, 0⟩] scope pos) (eDc src t c fk fv (own.map (·.2))) :=
  PE.imp (pe_dc (g := gM X t) (tt := tT X W0 c) (tk := tM X W0 fk) (tv := tM X W0 fv) hc hN hi ok hg ht hk hv hs) fun σ H Q q => dc_imp q hsl (fun _ _ _ q => q) (fun _ _ _ q => q) fun _ _ _ q => q
/-- name = {..} on one line, the name a local -/
theorem put_dc {n : Nat} {nm : Str} {q0 : Pos} {kx vx tg iter : Expr} {ifs : List Expr} {sc2 : Scope} {own : List (Str × Nat)} {p1 p2 : Pos} {wi : TI} {g : TG} {tt : TT} {tk tv : TE} (calm : X.calm = true) (nd : X.N.Nodup) (hnm : X.N[n]? = some nm) (hloc : X.env.scope.names.lookup nm = some .local)
    (sw : swapsWith (.DictComp kx vx [⟨tg, iter, ifs, 0⟩] sc2 p1) (some (.Name nm q0)) p2.line X.env = pure true) (src : PI X tg iter wi) (bk : BlkOk X.N X.env.scope sc2 own) (gs : InBlk X sc2 fun Y => PG Y tg g) (ts : InBlk X sc2 fun Y => PTs Y ifs tt) (ks : InBlk X sc2 fun Y => PE Y kx tk) (vs : InBlk X sc2 fun Y => PE Y vx tv) (fi : ∀ x, foldedSetIterable iter X.env x = pure x) :
    PS X (.Assign [.Name nm q0] (.DictComp kx vx [⟨tg, iter, ifs, 0⟩] sc2 p1) p2) (tAsg (tDc wi g tt tk tv (own.map (·.2))) (gName n)) := by
  constructor
  intro pins s σ H E inv hyp
  rw [exec_Assign_Name_used _ _ _ _ sw]
  apply wpAny_bind
  apply wpAny_standAt
  apply wpAny_bind
  show wpAny _ X.A (comprehension (.DictComp kx vx [⟨tg, iter, ifs, 0⟩] sc2 p1) sc2 X.env (firstIterPos [⟨tg, iter, ifs, 0⟩] p1) newDict false (eval iter X.env) (some (assign (.Name nm q0) X.env)) >>= fun _ => pure ()) _ _ s
  have hyp : tDc wi g tt tk tv (own.map (·.2)) σ H (fun u H1 => gName n u σ H1 E.nx) := hyp
  have core := dc_core (pos := p1) (Qf := fun _ t => SP X pins E .next t) calm nd inv src bk gs ts ks vs (pos' := firstIterPos [⟨tg, iter, ifs, 0⟩] p1) (use := some (assign (.Name nm q0) X.env)) fi hyp (fun L C t m H' inv' q hns fp => by
    show wpAny _ _ (assign (.Name nm q0) X.env (.ref L)) _ _ _
    apply wpAny_assign_Name
    refine store_ok2 (v := V.ref L) inv' nd hnm (.inl hloc) rfl ?_ (.inr hloc)
    rintro t2 inv2 ⟨a, sb, ha⟩
    obtain ⟨z0, z1, z2, z3, z4, z5⟩ := fp
    have neq : C ≠ a := by
      rcases ha with z | z
      · rw [z]; exact z1
      · intro e; exact z4 nm a z e.symm
    refine ⟨m, hns.sameBut sb neq, ?_⟩
    intro t3 sb3
    exact ⟨_, H', inv2.turned (t' := t2.toks) (fun b o hb e => (sb3.2 b hb).trans e) z0 z1 z3 z4 z5, q⟩)
  exact wpAny_bind (thn core fun _ t hq => wpAny_pure (wpAny_pure hq))
theorem swd_true {kx vx : Expr} {gs : List Comprehension} {sc2 : Scope} {p1 q0 : Pos} {nm : Str} {l : Nat} {env : Env} (hk : env.scope.kind = .function) (hloc : env.scope.names.lookup nm = some .local) (hl : (q0.line == p1.line) = true)
    (own : (sc2.names.any fun (n, k) => n == nm && (k == .local || k == .cell)) = false) : swapsWith (.DictComp kx vx gs sc2 p1) (some (.Name nm q0)) l env = pure true := by
  have k1 : env.kindOf nm = some .local := hloc
  have k2 : env.blockKind = .function := by
    unfold Env.blockKind
    rw [hk]
    rfl
  unfold swapsWith
  simp only [k1, k2, own, hl, Expr.pos]
  rfl
theorem m_setdc {i : Nat} {nm : Str} {q0 : Pos} {kx vx tg iter : Expr} {ifs : List Expr} {sc2 : Scope} {own : List (Str × Nat)} {p1 p2 : Pos} {src : Src} {t : Tgt} {c : Fx Bool} {fk fv : Ex} (calm : X.calm = true) (nd : X.N.Nodup) (hnm : X.N[i]? = some nm) (hloc : X.env.scope.names.lookup nm = some .local)
    (sw : swapsWith (.DictComp kx vx [⟨tg, iter, ifs, 0⟩] sc2 p1) (some (.Name nm q0)) p2.line X.env = pure true) (hi : PIm X W t tg iter src) (bk : BlkOk X.N X.env.scope sc2 own)
    (gs : InBlk X sc2 fun Y => PGm Y tg t) (ts : InBlk X sc2 fun Y => PTs Y ifs (tT Y W0 c)) (ks : InBlk X sc2 fun Y => PEm Y W0 kx fk) (vs : InBlk X sc2 fun Y => PEm Y W0 vx fv) (hsl : ∀ i ∈ t.slots, i ∈ own.map (·.2)) (fi : ∀ x, foldedSetIterable iter X.env x = pure x := by intro _; rfl) :
    PSm X W (.Assign [.Name nm q0] (.DictComp kx vx [⟨tg, iter, ifs, 0⟩] sc2 p1) p2) (sSet i (eDc src t c fk fv (own.map (·.2)))) :=
  PS.imp (put_dc (g := gM X t) (tt := tT X W0 c) (tk := tM X W0 fk) (tv := tM X W0 fv) calm nd hnm hloc sw hi bk gs ts ks vs fi) fun Dn σ H q => dc_imp (set_imp q) hsl (fun _ _ _ q => q) (fun _ _ _ q => q) fun _ _ _ q => q
theorem m_tsnil : PTs X [] (tT X W tTrue) := ⟨fun pins s σ H Q I ⟨env, r, st, er, hr, p⟩ => pts_nil.run pins s σ H Q I (pst_ok (v := true) hr p rfl)⟩
theorem m_tsone {c : Expr} {f : Fx Bool} (h : PTm X W c f) : PTs X [c] (tT X W f) := pts_one h
end
end Mi

namespace Mi
open PySem PySem.Spec PyProof.Rows L2
noncomputable section
open Classical
variable {X : Cx} {W : WX}

/-! ### built-ins -/
def lenD (d : D) (st : Store) : Option Nat := match seqOf st d with
  | some xs => some xs.length
  | none => match d with
    | .str z => if z.length ≤ sizeLine then some z.length else none
    | _ => none
def biLen : OpN
  | [d], st => (lenD d st).map fun (k : Nat) => (D.int (k : Int), st)
  | _, _ => none
theorem rpl1 {K : PySem.W.Frag} {H : Hp} {r : List Addr} {d : D} {vs : List V} (h : RpL K H r [d] vs) : ∃ v, vs = [v] ∧ Rp K H r d v := by
  obtain ⟨v, ws, rfl, r1, r2⟩ := RpL.cons_iff.mp h
  have := RpL.nil_iff.mp r2
  subst this
  exact ⟨v, rfl, r1⟩
theorem rpl2 {K : PySem.W.Frag} {H : Hp} {r : List Addr} {d e : D} {vs : List V} (h : RpL K H r [d, e] vs) : ∃ v w, vs = [v, w] ∧ Rp K H r d v ∧ Rp K H r e w := by
  obtain ⟨v, ws, rfl, r1, r2⟩ := RpL.cons_iff.mp h
  obtain ⟨w, rfl, r3⟩ := rpl1 r2
  exact ⟨v, w, rfl, r1, r3⟩
theorem c_len : ClM X (.builtin "len") biLen := by
  intro pins s σ H xs us Q I rs ⟨r, st, as, d, st', hr, pa, e, q⟩
  unfold biLen at e
  split at e
  · rename_i a
    obtain ⟨v, rfl, ra⟩ := rpl1 pa
    obtain ⟨n, en, e2⟩ := Option.map_eq_some_iff.mp e
    cases e2
    unfold lenD at en
    cases hs : seqOf st a with
    | some ys =>
      rw [hs] at en
      cases en
      obtain ⟨l, vs, rfl, sq, ls⟩ := hr.seqOf hs ra
      exact call_len_seq pins s σ H _ us Q I rs ⟨l, vs, rfl, sq, fin0 hr q (Rp.int_iff.mpr (by rw [ls.length]))⟩
    | none =>
      rw [hs] at en
      dsimp only at en
      split at en
      · rename_i z
        obtain ⟨c, e⟩ := ite_some en
        cases e
        replace ra := Rp.str_iff.mp ra
        subst ra
        exact call_len_str pins s σ H _ us Q I rs ⟨z, rfl, c, fin0 hr q (Rp.int_iff.mpr rfl)⟩
      · cases en
  · cases e
def biTuple : OpN
  | [.tup xs], st => some (.tup xs, st)
  | [d], st => (seqL st d).map fun xs => (.tup xs, st)
  | _, _ => none
theorem call_tupleF : CallR X (.type "tuple") (fun xs H Q => ∃ p ys, xs = [.ref p] ∧ ((SqL X.K H p ys ∧ ∀ l its, H l = none → Q (.ref l) (upd H l (.frz (tupO its 0) (.tup ys)))) ∨ (SqT X.K H p ys ∧ Q (.ref p) H))) := by
  intro pins s σ H xs us Q I r h
  obtain ⟨p, ys, rfl, h⟩ := h
  obtain ⟨u, rfl, rx⟩ := vals1 r
  cases rx
  rcases h with ⟨hq, q⟩ | ⟨hq, q⟩
  · obtain ⟨its, r', pl, hz⟩ := I.list hq
    have hlen := r'.length
    refine call_tuple_list pl.isList (fun h' kp => ?_) (by simp only [List.size_toArray] <;> omega)
    have I1 : Inv X pins σ H { s with heap := h' } := I.kept (t' := s.toks) kp
    have I2 : Inv X pins σ (upd H h'.objs.size (.frz (tupO its 0) (.tup ys))) { s with heap := h'.push { cls := .type "tuple", data := .seq its.toArray } } :=
      laidT (s := { s with heap := h' }) (t' := s.toks) I1 (fun b o e => Heap.get?_push_of_some _ e) (Nat.le_refl _) (Heap.get?_push_size _ rfl) r' hz
    exact ⟨.ref h'.objs.size, _, I2, rfl, q _ _ (I1.hok.fresh (Nat.le_refl _))⟩
  · obtain ⟨its, r', pl, hz⟩ := I.tuple hq
    exact call_tuple_same pl ⟨.ref p, H, I, rfl, q⟩
theorem c_tuple : ClM X (.type "tuple") biTuple := by
  intro pins s σ H xs us Q I rs ⟨r, st, as, d, st', hr, pa, e, q⟩
  unfold biTuple at e
  split at e
  · rename_i ys
    cases e
    obtain ⟨v, rfl, ra⟩ := rpl1 pa
    obtain ⟨l, vs, rfl, t, ls⟩ := Rp.tup_iff.mp ra
    exact call_tupleF pins s σ H _ us Q I rs ⟨l, vs, rfl, .inr ⟨t.seq, fin0 hr q ra⟩⟩
  · rename_i a _
    obtain ⟨v, rfl, ra⟩ := rpl1 pa
    obtain ⟨ys, ey, e2⟩ := Option.map_eq_some_iff.mp e
    cases e2
    obtain ⟨l, vs, rfl, sq, ls⟩ := hr.seqL ey ra
    exact call_tupleF pins s σ H _ us Q I rs ⟨l, vs, rfl, .inl ⟨sq, fun p _ hp => finT hr q ls hp⟩⟩
  · cases e
def kD : Key → D
  | .inl i => .int i
  | .inr s => .str s
theorem rp_kD {K : PySem.W.Frag} {H : Hp} {r : List Addr} (k : Key) : Rp K H r (kD k) (kV k) := by
  cases k
  · exact Rp.int_iff.mpr rfl
  · exact Rp.str_iff.mpr rfl
theorem rpl_keys {K : PySem.W.Frag} {H : Hp} {r : List Addr} : ∀ {kvs : List (Key × D)} {vs : List (Key × V)}, kvs.map (·.1) = vs.map (·.1) → RpL K H r (kvs.map fun kv => kD kv.1) (vs.map fun kv => kV kv.1)
  | [], [], _ => RpL.nil
  | [], _ :: _, h => by cases h
  | _ :: _, [], h => by cases h
  | p :: kvs, q :: vs, h => by
    rw [List.map_cons, List.map_cons] at h
    obtain ⟨h1, h2⟩ := List.cons.inj h
    rw [List.map_cons, List.map_cons, h1]
    exact RpL.cons (rp_kD _) (rpl_keys h2)
def biList : OpN
  | [d], st => match seqOf st d with
    | some xs => some (.adr st.length, st ++ [.lst xs])
    | none => match d with
      | .adr n => (dctAt st n).map fun kvs => (.adr st.length, st ++ [.lst (kvs.map fun kv => kD kv.1)])
      | _ => none
  | _, _ => none
theorem c_list (hc : X.calm = true) : ClM X (.type "list") biList := by
  intro pins s σ H xs us Q I rs ⟨r, st, as, d, st', hr, pa, e, q⟩
  unfold biList at e
  split at e
  · rename_i a
    obtain ⟨v, rfl, ra⟩ := rpl1 pa
    split at e
    · rename_i ys ey
      cases e
      obtain ⟨l, vs, rfl, sq, ls⟩ := hr.seqOf ey ra
      exact call_list_of pins s σ H _ us Q I rs ⟨l, vs, rfl, sq, fun p hp => finL hr q ls hp⟩
    · split at e
      · rename_i n _
        obtain ⟨kvs, ek, e2⟩ := Option.map_eq_some_iff.mp e
        cases e2
        obtain ⟨p, ws, f1, f2, f3⟩ := hr.dct ek
        obtain ⟨a', g1, rfl⟩ := Rp.adr_iff.mp ra
        rw [f1] at g1; cases g1
        exact call_list_dK hc pins s σ H _ us Q I rs ⟨p, ws, rfl, f2, fun l hl => finL hr q (rpl_keys f3.1) hl⟩
      · cases e
  · cases e
def biInt : OpN
  | [.int i], st => some (.int i, st)
  | [.bl b], st => some (.int (if b then 1 else 0), st)
  | _, _ => none
theorem c_int : ClM X (.type "int") biInt := by
  intro pins s σ H xs us Q I rs ⟨r, st, as, d, st', hr, pa, e, q⟩
  unfold biInt at e
  split at e
  · cases e
    obtain ⟨v, rfl, ra⟩ := rpl1 pa
    replace ra := Rp.int_iff.mp ra
    subst ra
    exact call_int1 pins s σ H _ us Q I rs (.inl ⟨_, rfl, fin0 hr q (Rp.int_iff.mpr rfl)⟩)
  · cases e
    obtain ⟨v, rfl, ra⟩ := rpl1 pa
    replace ra := Rp.bl_iff.mp ra
    subst ra
    exact call_int1 pins s σ H _ us Q I rs (.inr ⟨_, rfl, fin0 hr q (Rp.int_iff.mpr rfl)⟩)
  · cases e
def biAbs : OpN
  | [.int i], st => some (.int (if i < 0 then -i else i), st)
  | _, _ => none
theorem c_abs : ClM X (.builtin "abs") biAbs := by
  intro pins s σ H xs us Q I rs ⟨r, st, as, d, st', hr, pa, e, q⟩
  unfold biAbs at e
  split at e
  · cases e
    obtain ⟨v, rfl, ra⟩ := rpl1 pa
    replace ra := Rp.int_iff.mp ra
    subst ra
    exact call_abs pins s σ H _ us Q I rs ⟨_, rfl, fin0 hr q (Rp.int_iff.mpr rfl)⟩
  · cases e

/-! ### dict of pairs -/
def pairK : D → Option (Key × D)
  | .tup [k, d] => (keyD k).map fun key => (key, d)
  | _ => none
def pairsK : List D → Option (List (Key × D))
  | [] => some []
  | x :: xs => match pairK x, pairsK xs with
    | some p, some ps => some (p :: ps)
    | _, _ => none
def mergeD (kvs more : List (Key × D)) : List (Key × D) := more.foldl (fun acc kv => putD acc kv.1 kv.2) kvs
def biDict : OpN
  | [.tup xs], st => match pairsK xs with
    | some ps => some (.adr st.length, st ++ [.dct (mergeD [] ps)])
    | none => none
  | _, _ => none
theorem pairK_shape {x : D} {p : Key × D} (h : pairK x = some p) : ∃ k, x = .tup [k, p.2] ∧ keyD k = some p.1 := by
  unfold pairK at h
  split at h
  · rename_i k d
    obtain ⟨key, e1, e2⟩ := Option.map_eq_some_iff.mp h
    cases e2
    exact ⟨k, rfl, e1⟩
  · cases h
theorem merge_rel {K : PySem.W.Frag} {H : Hp} {r : List Addr} : ∀ {ps : List (Key × D)} {ws : List (Key × V)} {kvs : List (Key × D)} {zs : List (Key × V)}, RpP K H r ps ws → RpP K H r kvs zs → RpP K H r (mergeD kvs ps) (mergeK zs ws)
  | [], ws, kvs, zs, ⟨h1, _⟩, q => by
    cases ws with
    | nil => exact q
    | cons _ _ => cases h1
  | (k, d) :: ps, ws, kvs, zs, ⟨h1, h2⟩, q => by
    cases ws with
    | nil => cases h1
    | cons w ws =>
      obtain ⟨k2, v⟩ := w
      simp only [List.map_cons, List.cons.injEq] at h1
      obtain ⟨e, h1⟩ := h1
      subst e
      simp only [List.map_cons, RpL.cons_iff] at h2
      obtain ⟨_, _, e2, p2, h2⟩ := h2
      cases e2
      exact merge_rel (kvs := putD kvs k d) (zs := putK zs k v) ⟨h1, h2⟩ (put_rel q p2)
/-- the pairs in a heap -/
theorem pairs_rel {pins : List (Addr × Obj)} {σ : L2.St} {H : Hp} {s : Shared} {r : List Addr} (I : Inv X pins σ H s) : ∀ {xs : List D} {ps : List (Key × D)} {vs : List V} {us : List Value}, pairsK xs = some ps → RpL X.K H r xs vs → Vals vs us →
    ∃ (ws : List (Key × V)) (prs : List (Value × Value)) (kvs : List (Key × Value)) (Ts : Nat → Addr), RpP X.K H r ps ws ∧ KV ws kvs ∧ kvs.length = us.length ∧ prs.length = us.length ∧
      (∀ (j : Nat) (k v : Value), prs[j]? = some (k, v) → us[j]? = some (.ref (Ts j)) ∧ PairAt s.heap (Ts j) k v) ∧ ∀ (j : Nat) (k v : Value), prs[j]? = some (k, v) → ∃ key, kvs[j]? = some (key, v) ∧ keyIs key k = true
  | [], ps, vs, us, h, l, rv => by
    cases h
    rw [RpL.nil_iff] at l
    subst l
    cases rv
    exact ⟨[], [], [], fun _ => 0, ⟨rfl, RpL.nil⟩, .nil, rfl, rfl, fun j k v e => by simp at e, fun j k v e => by simp at e⟩
  | x :: xs, ps, vs, us, h, l, rv => by
    unfold pairsK at h
    split at h
    · rename_i p ps' hp hps
      cases h
      obtain ⟨k, rfl, ek⟩ := pairK_shape hp
      rw [RpL.cons_iff] at l
      obtain ⟨v, vs, rfl, rx, l⟩ := l
      cases rv with
      | cons r1 rv =>
        obtain ⟨a, zs, rfl, t, ls⟩ := Rp.tup_iff.mp rx
        cases r1
        obtain ⟨v1, v2, rfl, p1, p2⟩ := rpl2 ls
        obtain ⟨its, rvi, ht, _⟩ := I.tuple t.seq
        obtain ⟨u1, u2, rfl, q1, q2⟩ := vals2 rvi
        obtain ⟨ws, prs, kvs, Ts, g1, g2, g3, g4, g5, g6⟩ := pairs_rel I hps l rv
        have ev := keyD_kV ek p1
        subst ev
        refine ⟨(p.1, v2) :: ws, (u1, u2) :: prs, (p.1, u2) :: kvs, fun j => match j with | 0 => a | j + 1 => Ts j, ⟨?_, ?_⟩, .cons ⟨rfl, q2⟩ g2, by rw [List.length_cons, List.length_cons, g3], by rw [List.length_cons, List.length_cons, g4], fun j k' v' e => ?_, fun j k' v' e => ?_⟩
        · rw [List.map_cons, List.map_cons, g1.1]
        · rw [List.map_cons, List.map_cons]
          exact RpL.cons p2 g1.2
        · cases j with
          | zero =>
            cases (show some (u1, u2) = some (k', v') from e)
            exact ⟨rfl, .inl ht⟩
          | succ j => exact g5 j k' v' (by simpa using e)
        · cases j with
          | zero =>
            cases (show some (u1, u2) = some (k', v') from e)
            exact ⟨p.1, rfl, kV_is (P := X.prog) (w := X.w) q1⟩
          | succ j => exact g6 j k' v' (by simpa using e)
    · cases h
theorem TpL.obj {pins : List (Addr × Obj)} {σ : L2.St} {H : Hp} {s : Shared} {b : Addr} {zs : List V} (I : Inv X pins σ H s) (h : TpL X.K H b zs) : ∃ its n, s.heap.get? b = some (tupO its n) ∧ Vals zs its ∧ zs.length ≤ sizeLine := by
  rcases h with ⟨its2, n2, hB⟩ | ⟨its2, n2, hB, hl, hv⟩
  · obtain ⟨e2, hz, its3, r3, o, e3, _, n3, e4⟩ := I.hok b _ hB
    rw [e2] at e3; cases e3
    injection e4 with e4 _
    have : its2 = its3 := by simpa using congrArg Array.toList e4
    subst this
    exact ⟨_, _, e2, r3, hz⟩
  · exact ⟨_, _, I.kIn b _ hB, hv, by rw [hv.length]; exact hl⟩
theorem c_dict (hcalm : X.calm = true) : ClM X (.type "dict") biDict := by
  intro pins s σ H xs us Q I rs ⟨r, st, as, d, st', hr, pa, e, q⟩
  unfold biDict at e
  split at e
  · rename_i ys
    split at e
    · rename_i ps hps
      cases e
      obtain ⟨v, rfl, ra⟩ := rpl1 pa
      obtain ⟨a, vs, rfl, t, ls⟩ := Rp.tup_iff.mp ra
      obtain ⟨u, rfl, rx⟩ := vals1 rs
      cases rx
      obtain ⟨its, n, ho, rv, hz⟩ := TpL.obj I t
      obtain ⟨ws, prs, kvs, Ts, g1, g2, g3, g4, g5, g6⟩ := pairs_rel I hps ls rv
      have hl := rv.length
      refine PySem.call_dict_pairs (knd := mixKind X.prog X.w) (kvs := kvs) (PairArg.tuple a its.toArray Ts prs) (I.ok.hd hcalm) ⟨⟨_, n, ho, rfl, rfl, rfl⟩, by rw [List.size_toArray, g4], fun j k v e => ⟨by have := (g5 j k v e).1; simpa using this, (g5 j k v e).2⟩⟩ ⟨by rw [g3, g4], fun i key v e => g6 i key v e⟩ (by rw [g4, ← hl]; exact hz) fun h' tk hd' k => ?_
      have hm : (s.heap.objs.size == sysModules) = false := beq_eq_false_iff_ne.mpr (Nat.ne_of_gt I.big)
      have hlen : (mergeK [] ws).length ≤ sizeLine := by
        refine Nat.le_trans (length_mergeK ws []) ?_
        rw [List.length_nil, Nat.zero_add, g2.length, g3, ← hl]
        exact hz
      have hn : H s.heap.objs.size = none := I.hok.fresh (Nat.le_refl _)
      refine ⟨.ref s.heap.objs.size, upd H s.heap.objs.size (.dK (mergeK [] ws)), I.laid (t' := tk) (fun b o e => k b o (by simp) e) (Nat.le_refl _) (show ObjOk X.prog X.w _ _ _ (.dK (mergeK [] ws)) from ⟨hlen, hm, merged [] kvs, KV.merge g2 .nil, hd'⟩), rfl, ?_⟩
      exact q _ _ (r ++ [s.heap.objs.size]) ⟨Ext.fresh hn, ⟨[_], rfl⟩, hr.new hn ⟨_, upd_same, (merge_rel g1 ⟨rfl, RpL.nil⟩).mono (Ext.fresh hn) ⟨[_], rfl⟩⟩⟩ (Rp.adr_iff.mpr ⟨_, new_at hr, rfl⟩)
    · cases e
  · cases e

/-! ### isinstance -/
/-- the types that are asked for -/
inductive TyN where
  | int | str | tuple | bool | list | dict
def TyN.nm : TyN → String
  | .int => "int" | .str => "str" | .tuple => "tuple" | .bool => "bool" | .list => "list" | .dict => "dict"
def tyOf (d : D) (st : Store) : Option String := match d with
  | .non => some "NoneType"
  | .bl _ => some "bool"
  | .int _ => some "int"
  | .str _ => some "str"
  | .tup _ => some "tuple"
  | .fro _ => some "list"
  | .adr n => match st[n]? with
    | some (.lst _) => some "list"
    | some (.dct _) => some "dict"
    | _ => none
def isT (t : TyN) (d : D) (st : Store) : Option Bool := (tyOf d st).bind fun s => kitB s t.nm
theorem tyx_of {H : Hp} {r : List Addr} {st : Store} {d : D} {x : V} {T : String} (hr : HR X.K X.mg H r st) (p : Rp X.K H r d x) (e : tyOf d st = some T) : TyX X.K H x (.type T) := by
  cases d with
  | non => rw [Rp.non_iff] at p; subst p; cases e; exact .base .non
  | bl b => rw [Rp.bl_iff] at p; subst p; cases e; exact .base (.bl b)
  | int b => rw [Rp.int_iff] at p; subst p; cases e; exact .base (.int b)
  | str b => rw [Rp.str_iff] at p; subst p; cases e; exact .base (.str b)
  | tup xs =>
    obtain ⟨a, vs, rfl, t, l⟩ := Rp.tup_iff.mp p
    cases e
    rcases t with ⟨its, n, t⟩ | ⟨its, n, t, _⟩
    · exact .fTuple t
    · exact .kTuple t rfl
  | fro xs =>
    obtain ⟨a, vs, rfl, t, l⟩ := Rp.fro_iff.mp p
    cases e
    rcases t with ⟨o, t⟩ | ⟨o, its, n, t, c, _⟩
    · exact .base (.frz t)
    · exact .kList t c
  | adr n =>
    obtain ⟨a, e1, rfl⟩ := Rp.adr_iff.mp p
    unfold tyOf at e
    dsimp only at e
    split at e
    · rename_i xs hx
      cases e
      obtain ⟨a', vs, q1, q2, q3⟩ := hr.lst (lstAt_iff.mpr hx)
      rw [e1] at q1; cases q1
      exact .base (.lst q2)
    · rename_i xs hx
      cases e
      obtain ⟨a', vs, q1, q2, q3⟩ := hr.dct (dctAt_iff.mpr hx)
      rw [e1] at q1; cases q1
      exact .base (.dK q2)
    · cases e
def eIs (t : TyN) (f : Ex) : Ex := fun env st => (f env st).bind fun d s => Rs.ofO ((isT t d s).map fun b => (.bl b, s))
theorem m_isi {a : Expr} {f : Ex} {T : Str} {t : TyN} {p p2 pos : Pos} (ha : PEm X W a f) (hg : Gl X "isinstance") (hm : X.mg "isinstance" = none) (hv : bootBuiltins "isinstance" = some (.builtin "isinstance")) (hgT : Gl X T) (hmT : X.mg T = none) (hvT : bootBuiltins T = some (.type t.nm))
    (hnT : T ≠ "__name__" := by decide) (hdT : (T == ("__debug__" : Str)) = false := by decide)
    (he : starEach (a :: [.Name T p2]) X.env = (false, eval a X.env) :: starEach [.Name T p2] X.env := by rfl) (hpl : (backTo pos (starEach [.Name T p2] X.env)).any (·.1) = false := by rfl)
    (he2 : starEach (.Name T p2 :: []) X.env = (false, eval (.Name T p2) X.env) :: starEach [] X.env := by rfl) :
    PEm X W (.Call (.Name "isinstance" p) [a, .Name T p2] [] pos) (eIs t f) :=
  PE.imp (pe_callB call_isi hg hm hv (pa_cons ha (pa_cons (pe_bltn (v := .ty t.nm) hgT hmT hvT rfl hnT hdT) pa_nil he2) he) (by decide) (by decide) he hpl) fun σ H Q h => by
    refine tG_seq (Ra := RV X) h fun d x H1 env r st er hr rd p => ?_
    obtain ⟨d', st', e, q⟩ := ofO_fin p
    obtain ⟨b, eb, e2⟩ := Option.map_eq_some_iff.mp e
    cases e2
    unfold isT at eb
    obtain ⟨T', eT, ek⟩ := Option.bind_eq_some_iff.mp eb
    exact ⟨x, .ty t.nm, .type T', .type t.nm, b, rfl, .ty _, tyx_of hr rd eT, kit_ty ek, fin0 hr q (Rp.bl_iff.mpr rfl)⟩

/-! ### methods of lists and texts -/
def tyList (d : D) (st : Store) : Bool := (seqL st d).isSome
theorem tm_list : TyM X "list" tyList := fun a st H r x hr pa h => by
  unfold tyList at h
  obtain ⟨xs, e⟩ := Option.isSome_iff_exists.mp h
  obtain ⟨l, vs, rfl, sq, ls⟩ := hr.seqL e pa
  exact .inl ⟨rfl, vs, sq⟩
def tyStr : D → Store → Bool
  | .str _, _ => true
  | _, _ => false
theorem tm_str : TyM X "str" tyStr := fun a st H r x hr pa h => by
  cases a with
  | str z => rw [Rp.str_iff] at pa; subst pa; exact (rfl : ("str" : String) = "str")
  | _ => cases h
def tyDict : D → Store → Bool
  | .adr n, st => (dctAt st n).isSome
  | _, _ => false
theorem tm_dict : TyM X "dict" tyDict := fun a st H r x hr pa h => by
  cases a with
  | adr n =>
    obtain ⟨xs, e⟩ := Option.isSome_iff_exists.mp h
    obtain ⟨p, ws, f1, f2, f3⟩ := hr.dct e
    obtain ⟨a', g1, rfl⟩ := Rp.adr_iff.mp pa
    rw [f1] at g1; cases g1
    exact .inr (.inr (.inl ⟨rfl, .inl ⟨ws, f2⟩⟩))
  | _ => cases h
def mdAppend (o : D) : OpN := fun as st => match o, as with
  | .adr n, [d] => match lstAt st n with
    | some xs => if xs.length < sizeLine then some (.non, st.set n (.lst (xs ++ [d]))) else none
    | none => none
  | _, _ => none
theorem md_append : MdM X "list.append" mdAppend := by
  intro pins s σ H x xs v us Q I rx rs ⟨r, st, a, as, d, st', hr, pa, pas, e, q⟩
  unfold mdAppend at e
  split at e
  · rename_i n y
    obtain ⟨w, rfl, ry⟩ := rpl1 pas
    split at e
    · rename_i ys hl
      obtain ⟨c, e⟩ := ite_some e
      cases e
      obtain ⟨p, vs, f1, f2, f3⟩ := hr.lst hl
      obtain ⟨a', g1, rfl⟩ := Rp.adr_iff.mp pa
      rw [f1] at g1; cases g1
      exact mt_append pins s σ H _ _ v us Q I rx rs ⟨p, vs, w, rfl, rfl, f2, by rw [f3.length]; exact c, finW (ds0 := ys) hr q f1 (f3.append (RpL.one ry)) (Rp.non_iff.mpr rfl)⟩
    · cases e
  · cases e
def mdExtend (o : D) : OpN := fun as st => match o, as with
  | .adr n, [d] => match lstAt st n, (match d with | .tup ys => some ys | .adr m => lstAt st m | _ => none) with
    | some xs, some ys => if xs.length + ys.length ≤ sizeLine then some (.non, st.set n (.lst (xs ++ ys))) else none
    | _, _ => none
  | _, _ => none
theorem mt_extendT : MtR X "list.extend" (fun x vs H Q => ∃ l b xs zs, x = .ref l ∧ vs = [.ref b] ∧ H l = some (.lst xs) ∧ TpL X.K H b zs ∧ xs.length + zs.length ≤ sizeLine ∧ Q .non (upd H l (.lst (xs ++ zs)))) := by
  intro pins s σ H x vs v us Q I rx rv h
  obtain ⟨l, b, xs, zs, rfl, rfl, hH, hB, hz, q⟩ := h
  cases rx
  obtain ⟨u, rfl, ru⟩ := rv.one
  cases ru
  obtain ⟨z, its, n, r, hl, e⟩ := I.lstM hH
  obtain ⟨its2, n2, e2, r2⟩ : ∃ its2 n2, s.heap.get? b = some (tupO its2 n2) ∧ Vals zs its2 := by
    rcases hB with ⟨its2, n2, hB⟩ | ⟨its2, n2, hB, _, hv⟩
    · obtain ⟨e2, _, its3, r3, o, e3, _, n3, e4⟩ := I.hok b _ hB
      rw [e2] at e3; cases e3
      injection e4 with e4 _
      have : its2 = its3 := by simpa using congrArg Array.toList e4
      subst this
      exact ⟨_, _, e2, r3⟩
    · exact ⟨_, _, I.kIn b _ hB, hv⟩
  have hl2 := r2.length
  have hsz : its.toArray.size + its2.toArray.size ≤ sizeLine := by rw [List.size_toArray, List.size_toArray]; omega
  have hlong : ¬ (!its.toArray.isEmpty && Builtin.List.listTooLong (its.toArray.size + its2.toArray.size)) = true := by
    rw [notLongL hsz, Bool.and_false]
    exact Bool.false_ne_true
  refine call_meets F.slot_list_extend ⟨_, e, rfl⟩ F.entry_list_extend (F.args_list_extend_2 _ _)
    (AutoSeq1.list_extend_list_tuple_0 l its.toArray n b its2.toArray n2 hlong (by rw [List.size_toArray]; omega) (by omega)) ⟨e, e2, ?_⟩
  refine ⟨.non, _, I.lset (its' := its ++ its2) hH e (by simp) (r.append r2) ?_, rfl, q⟩
  rw [List.length_append]
  omega
theorem md_extend : MdM X "list.extend" mdExtend := by
  intro pins s σ H x xs v us Q I rx rs ⟨r, st, a, as, d, st', hr, pa, pas, e, q⟩
  unfold mdExtend at e
  split at e
  · rename_i n y
    obtain ⟨w, rfl, ry⟩ := rpl1 pas
    split at e
    · rename_i ys zs hl hy
      obtain ⟨c, e⟩ := ite_some e
      cases e
      obtain ⟨p, vs, f1, f2, f3⟩ := hr.lst hl
      obtain ⟨a', g1, rfl⟩ := Rp.adr_iff.mp pa
      rw [f1] at g1; cases g1
      split at hy
      · rename_i ts
        cases hy
        obtain ⟨b, ws, rfl, t, ls⟩ := Rp.tup_iff.mp ry
        exact mt_extendT pins s σ H _ _ v us Q I rx rs ⟨p, b, vs, ws, rfl, rfl, f2, t, by rw [f3.length, ls.length]; exact c, finW (ds0 := ys) hr q f1 (f3.append ls) (Rp.non_iff.mpr rfl)⟩
      · rename_i m
        obtain ⟨b, ws, h1, h2, ls⟩ := hr.lst hy
        obtain ⟨b', g2, rfl⟩ := Rp.adr_iff.mp ry
        rw [h1] at g2; cases g2
        exact mt_extend pins s σ H _ _ v us Q I rx rs ⟨p, b, vs, ws, rfl, rfl, f2, h2, by rw [f3.length, ls.length]; exact c, finW (ds0 := ys) hr q f1 (f3.append ls) (Rp.non_iff.mpr rfl)⟩
      · cases hy
    · cases e
  · cases e
def mdPop (o : D) : OpN := fun as st => match o, as with
  | .adr n, [] => match lstAt st n with
    | some xs => (xs[xs.length - 1]?).map fun d => (d, st.set n (.lst xs.dropLast))
    | none => none
  | _, _ => none
theorem md_pop : MdM X "list.pop" mdPop := by
  intro pins s σ H x xs v us Q I rx rs ⟨r, st, a, as, d, st', hr, pa, pas, e, q⟩
  unfold mdPop at e
  split at e
  · rename_i n
    have := RpL.nil_iff.mp pas
    subst this
    split at e
    · rename_i ys hl
      obtain ⟨z, ez, e2⟩ := Option.map_eq_some_iff.mp e
      cases e2
      obtain ⟨p, vs, f1, f2, f3⟩ := hr.lst hl
      obtain ⟨a', g1, rfl⟩ := Rp.adr_iff.mp pa
      rw [f1] at g1; cases g1
      obtain ⟨w, e3, rw3⟩ := f3.get ez
      exact mt_pop pins s σ H _ _ v us Q I rx rs ⟨p, vs, w, rfl, rfl, f2, by rw [f3.length]; exact e3, finW (ds0 := ys) hr q f1 f3.dropLast rw3⟩
    · cases e
  · cases e
def mdUpper (o : D) : OpN := fun as st => match o, as with
  | .str z, [] => if z.length ≤ 5592405 then some (.str (Txt.upper z), st) else none
  | _, _ => none
theorem md_upper : MdM X "str.upper" mdUpper := by
  intro pins s σ H x xs v us Q I rx rs ⟨r, st, a, as, d, st', hr, pa, pas, e, q⟩
  unfold mdUpper at e
  split at e
  · rename_i z
    obtain ⟨c, e⟩ := ite_some e
    cases e
    have := RpL.nil_iff.mp pas
    subst this
    replace pa := Rp.str_iff.mp pa
    subst pa
    exact mt_upper pins s σ H _ _ v us Q I rx rs ⟨z, rfl, rfl, c, fin0 hr q (Rp.str_iff.mpr rfl)⟩
  · cases e
end
end Mi

namespace Mi
open PySem PySem.Spec PyProof.Rows L2
noncomputable section
open Classical

/-! ### what is left behind a call -/
mutual
def noa : D → Bool
  | .adr _ => false
  | .fro xs => noas xs
  | .tup xs => noas xs
  | _ => true
def noas : List D → Bool
  | [] => true
  | x :: xs => noa x && noas xs
end
def cleanO : O → Bool
  | .lst xs => noas xs
  | .dct kvs => noas (kvs.map (·.2))
  | .ins _ fs => noas (fs.map (·.2))
/- all places in it are below n -/
mutual
def lowD (n : Nat) : D → Bool
  | .adr m => decide (m < n)
  | .fro xs => lowDs n xs
  | .tup xs => lowDs n xs
  | _ => true
def lowDs (n : Nat) : List D → Bool
  | [] => true
  | x :: xs => lowD n x && lowDs n xs
end
def lowO (n : Nat) : O → Bool
  | .lst xs => lowDs n xs
  | .dct kvs => lowDs n (kvs.map (·.2))
  | .ins _ fs => lowDs n (fs.map (·.2))
mutual
theorem low_noa (n : Nat) : ∀ d : D, noa d = true → lowD n d = true
  | .non, _ => rfl
  | .bl _, _ => rfl
  | .int _, _ => rfl
  | .str _, _ => rfl
  | .adr m, h => by unfold noa at h; cases h
  | .tup xs, h => by unfold lowD; exact lows_noas n xs (by unfold noa at h; exact h)
  | .fro xs, h => by unfold lowD; exact lows_noas n xs (by unfold noa at h; exact h)
theorem lows_noas (n : Nat) : ∀ ds : List D, noas ds = true → lowDs n ds = true
  | [], _ => rfl
  | d :: ds, h => by
    unfold noas at h
    rw [Bool.and_eq_true] at h
    unfold lowDs
    rw [low_noa n d h.1, lows_noas n ds h.2]
    rfl
end
theorem low_clean (n : Nat) {o : O} (h : cleanO o = true) : lowO n o = true := by
  cases o with
  | lst xs => exact lows_noas n _ h
  | dct kvs => exact lows_noas n _ h
  | ins c fs => exact lows_noas n _ h
def keepOk (st st' : Store) : Prop := ∀ i, i < st.length → st'[i]? = st[i]? ∨ ∃ o, st'[i]? = some o ∧ lowO st.length o = true
def gcO (st : Store) (d : D) (st' : Store) : D × Store :=
  if keepOk st st' then
    if lowD st.length d = true then (d, st'.take st.length) else match d with
      | .adr m => (match st'[m]? with
        | some o => if lowO st.length o = true then (.adr st.length, st'.take st.length ++ [o]) else (d, st')
        | none => (d, st'))
      | _ => (d, st')
  else (d, st')
section
variable {K : PySem.W.Frag} {mg : Str → Option Value} {H H' : Hp} {r r' : List Addr}
mutual
theorem Rp.low (p : r <+: r') : ∀ (d : D) (v : V), lowD r.length d = true → Rp K H r' d v → Rp K H r d v
  | .non, v, _, h => by unfold Rp at h ⊢; exact h
  | .bl _, v, _, h => by unfold Rp at h ⊢; exact h
  | .int _, v, _, h => by unfold Rp at h ⊢; exact h
  | .str _, v, _, h => by unfold Rp at h ⊢; exact h
  | .tup xs, v, e, h => by
    unfold Rp at h ⊢
    obtain ⟨a, vs, e1, e2, e3⟩ := h
    unfold lowD at e
    exact ⟨a, vs, e1, e2, RpL.low p xs vs e e3⟩
  | .fro xs, v, e, h => by
    unfold Rp at h ⊢
    obtain ⟨a, vs, e1, e2, e3⟩ := h
    unfold lowD at e
    exact ⟨a, vs, e1, e2, RpL.low p xs vs e e3⟩
  | .adr n, v, e, h => by
    unfold Rp at h ⊢
    unfold lowD at e
    have hn : n < r.length := of_decide_eq_true e
    obtain ⟨a, e1, e2⟩ := h
    have e3 := pre_get p (List.getElem?_eq_getElem hn)
    rw [e1] at e3
    cases e3
    exact ⟨_, List.getElem?_eq_getElem hn, e2⟩
theorem RpL.low (p : r <+: r') : ∀ (ds : List D) (vs : List V), lowDs r.length ds = true → RpL K H r' ds vs → RpL K H r ds vs
  | [], vs, _, h => by unfold RpL at h ⊢; exact h
  | d :: ds, vs, e, h => by
    unfold RpL at h ⊢
    obtain ⟨v, ws, e1, e2, e3⟩ := h
    unfold lowDs at e
    rw [Bool.and_eq_true] at e
    exact ⟨v, ws, e1, Rp.low p d v e.1 e2, RpL.low p ds ws e.2 e3⟩
end
mutual
theorem Rp.down (p : r <+: r') : ∀ (d : D) (v v0 : V), Rp K H r d v0 → Rp K H' r' d v → Rp K H' r d v
  | .non, v, v0, _, h => by unfold Rp at h ⊢; exact h
  | .bl _, v, v0, _, h => by unfold Rp at h ⊢; exact h
  | .int _, v, v0, _, h => by unfold Rp at h ⊢; exact h
  | .str _, v, v0, _, h => by unfold Rp at h ⊢; exact h
  | .tup xs, v, v0, g, h => by
    unfold Rp at g h ⊢
    obtain ⟨a, vs, e1, e2, e3⟩ := h
    obtain ⟨_, ws, _, _, g3⟩ := g
    exact ⟨a, vs, e1, e2, RpL.down p xs vs ws g3 e3⟩
  | .fro xs, v, v0, g, h => by
    unfold Rp at g h ⊢
    obtain ⟨a, vs, e1, e2, e3⟩ := h
    obtain ⟨_, ws, _, _, g3⟩ := g
    exact ⟨a, vs, e1, e2, RpL.down p xs vs ws g3 e3⟩
  | .adr n, v, v0, g, h => by
    unfold Rp at g h ⊢
    obtain ⟨a, e1, e2⟩ := h
    obtain ⟨b, g1, g2⟩ := g
    rw [pre_get p g1] at e1
    exact ⟨a, by rw [g1, e1], e2⟩
theorem RpL.down (p : r <+: r') : ∀ (ds : List D) (vs ws : List V), RpL K H r ds ws → RpL K H' r' ds vs → RpL K H' r ds vs
  | [], vs, ws, _, h => by unfold RpL at h ⊢; exact h
  | d :: ds, vs, ws, g, h => by
    unfold RpL at g h ⊢
    obtain ⟨v, us, e1, e2, e3⟩ := h
    obtain ⟨v0, us0, _, g2, g3⟩ := g
    exact ⟨v, us, e1, Rp.down p d v v0 g2 e2, RpL.down p ds us us0 g3 e3⟩
end
theorem Ob.low {a : Addr} {o : O} (p : r <+: r') (c : lowO r.length o = true) (h : Ob K mg H r' a o) : Ob K mg H r a o := by
  cases o with
  | lst xs => obtain ⟨vs, e1, e2⟩ := h; exact ⟨vs, e1, RpL.low p _ _ c e2⟩
  | dct kvs => obtain ⟨vs, e1, e2, e3⟩ := h; exact ⟨vs, e1, e2, RpL.low p _ _ c e3⟩
  | ins n fs => obtain ⟨C, dx, vs, e0, e1, e2, e3⟩ := h; exact ⟨C, dx, vs, e0, e1, e2, RpL.low p _ _ c e3⟩
theorem Ob.down {a b : Addr} {o : O} (p : r <+: r') (g : Ob K mg H r b o) (h : Ob K mg H' r' a o) : Ob K mg H' r a o := by
  cases o with
  | lst xs => obtain ⟨vs, e1, e2⟩ := h; obtain ⟨ws, _, g2⟩ := g; exact ⟨vs, e1, RpL.down p _ _ _ g2 e2⟩
  | dct kvs => obtain ⟨vs, e1, e2, e3⟩ := h; obtain ⟨ws, _, _, g3⟩ := g; exact ⟨vs, e1, e2, RpL.down p _ _ _ g3 e3⟩
  | ins n fs => obtain ⟨C, dx, vs, e0, e1, e2, e3⟩ := h; obtain ⟨_, _, ws, _, _, _, g3⟩ := g; exact ⟨C, dx, vs, e0, e1, e2, RpL.down p _ _ _ g3 e3⟩
theorem HR.cut {st st' : Store} (hr : HR K mg H r st) (p : r <+: r') (hr' : HR K mg H' r' st') (k : keepOk st st') : HR K mg H' r (st'.take st.length) := by
  have hle : r.length ≤ r'.length := p.length_le
  refine ⟨?_, ?_, fun i a o e1 e2 => ?_⟩
  · rw [List.length_take, ← hr'.len, ← hr.len]
    omega
  · exact hr'.nd.sublist p.sublist
  · have hi : i < st.length := by rw [← hr.len]; exact (List.getElem?_eq_some_iff.mp e1).1
    rw [List.getElem?_take_of_lt hi] at e2
    have ob := hr'.ob i a o (pre_get p e1) e2
    rcases k i hi with z | ⟨o', z, c⟩
    · rw [e2] at z
      exact Ob.down p (hr.ob i a o e1 z.symm) ob
    · rw [e2] at z; cases z
      exact ob.low p (by rw [hr.len]; exact c)
theorem gc_rel {st st' : Store} {d : D} {v : V} (hr : HR K mg H r st) (x : Ext K H H') (p : r <+: r') (hr' : HR K mg H' r' st') (q : Rp K H' r' d v) : ∃ r2, r <+: r2 ∧ HR K mg H' r2 (gcO st d st').2 ∧ Rp K H' r2 (gcO st d st').1 v := by
  unfold gcO
  by_cases hk : keepOk st st'
  · rw [if_pos hk]
    have cut := hr.cut p hr' hk
    by_cases hn : lowD st.length d = true
    · rw [if_pos hn]
      exact ⟨r, List.prefix_refl _, cut, Rp.low p _ _ (by rw [hr.len]; exact hn) q⟩
    · rw [if_neg hn]
      split
      · rename_i m
        have hm : ¬ m < st.length := fun z => hn (by unfold lowD; exact decide_eq_true z)
        split
        · rename_i o ho
          by_cases hc : lowO st.length o = true
          · rw [if_pos hc]
            obtain ⟨a, e1, e2⟩ := Rp.adr_iff.mp q
            refine ⟨r ++ [a], ⟨[a], rfl⟩, ?_, Rp.adr_iff.mpr ⟨a, by rw [← hr.len]; simp, e2⟩⟩
            have na : a ∉ r := fun z => by
              obtain ⟨j, hj⟩ := List.getElem?_of_mem z
              have := hr'.inj (pre_get p hj) e1
              subst this
              exact hm (by rw [← hr.len]; exact (List.getElem?_eq_some_iff.mp hj).1)
            refine ⟨?_, ?_, fun i b o' f1 f2 => ?_⟩
            · rw [List.length_append, List.length_append, cut.len]; rfl
            · rw [List.nodup_append]
              refine ⟨cut.nd, by simp, fun c hc' b hb => ?_⟩
              rw [List.mem_singleton] at hb
              subst hb
              exact fun z => na (z ▸ hc')
            · by_cases hi : i < r.length
              · rw [List.getElem?_append_left hi] at f1
                rw [List.getElem?_append_left (by rw [← cut.len]; exact hi)] at f2
                exact (cut.ob i b o' f1 f2).mono (Ext.refl _ _) ⟨[a], rfl⟩ rfl
              · have hi2 : i = r.length := by
                  have := (List.getElem?_eq_some_iff.mp f1).1
                  rw [List.length_append, List.length_singleton] at this
                  omega
                subst hi2
                rw [List.getElem?_append_right (Nat.le_refl _), Nat.sub_self] at f1
                rw [cut.len, List.getElem?_append_right (Nat.le_refl _), Nat.sub_self] at f2
                simp at f1 f2
                subst f1 f2
                exact ((hr'.ob m _ _ e1 ho).low p (by rw [hr.len]; exact hc)).mono (Ext.refl _ _) ⟨[a], rfl⟩ rfl
          · rw [if_neg hc]
            exact ⟨r', p, hr', q⟩
        · exact ⟨r', p, hr', q⟩
      · exact ⟨r', p, hr', q⟩
  · rw [if_neg hk]
    exact ⟨r', p, hr', q⟩
end
/-- .. behind an exception -/
def gcX (st : Store) (e : Exn) (st' : Store) : Store := if keepOk st st' ∧ lowDs st.length (e.fs.map (·.2)) = true then st'.take st.length else st'
theorem gcX_rel {K : PySem.W.Frag} {mg : Str → Option Value} {H H' : Hp} {r r' : List Addr} {st st' : Store} {e : Exn} {c : Value} {d : Option Addr} (hr : HR K mg H r st) (p : r <+: r') (hr' : HR K mg H' r' st') (q : ExR K mg H' r' e c d) :
    ∃ r2, r <+: r2 ∧ HR K mg H' r2 (gcX st e st') ∧ ExR K mg H' r2 e c d := by
  unfold gcX
  split
  · rename_i h
    refine ⟨r, List.prefix_refl _, hr.cut p hr' h.1, ?_⟩
    obtain ⟨C, e1, e2, e3⟩ := q
    refine ⟨C, e1, e2, fun z => ?_⟩
    obtain ⟨dx, ws, f1, f2, f3, f4⟩ := e3 z
    exact ⟨dx, ws, f1, f2, f3, RpL.low p _ _ (by rw [hr.len]; exact h.2) f4⟩
  · exact ⟨r', p, hr', q⟩

/-! ### the calls -/
abbrev Calls := Nat → List D → Store → Rs D
structure FnI where
  name : Str
  st : Stmt
  ps : List Str
  N : List Str
  body : Calls → Sx
  cls : Option Str := none
  hot : Bool := false
/-- its qualified name -/
def FnI.qual (d : FnI) : Str := match d.cls with
  | none => d.name
  | some c => c ++ "." ++ d.name
/-- where it is found: by its name, or in its class -/
def At (K : PySem.W.Frag) (mg : Str → Option Value) (d : FnI) (f : Addr) : Prop := match d.cls with
  | none => mg d.name = some (.ref f)
  | some c => ∃ C, mg c = some (.ref C) ∧ Cls K C ∧ PySem.W.findIn K (.ref C) d.name = some (some (.ref f)) ∧ PySem.W.isFn K (.ref f) = true
theorem At.none {K : PySem.W.Frag} {mg : Str → Option Value} {d : FnI} {f : Addr} (h : At K mg d f) (hc : d.cls = .none) : mg d.name = some (.ref f) := by
  unfold At at h
  rw [hc] at h
  exact h
theorem At.some {K : PySem.W.Frag} {mg : Str → Option Value} {d : FnI} {f : Addr} {c : Str} (h : At K mg d f) (hc : d.cls = .some c) : ∃ C, mg c = .some (.ref C) ∧ Cls K C ∧ PySem.W.findIn K (.ref C) d.name = .some (.some (.ref f)) ∧ PySem.W.isFn K (.ref f) = true := by
  unfold At at h
  rw [hc] at h
  exact h
def startE (n : Nat) (args : List D) : MEnv := args.map some ++ List.replicate (n - args.length) none
def finC (st : Store) (o : Out) : Rs D := match o with
  | .nx _ st' => .ok (gcO st .non st').1 (gcO st .non st').2
  | .rt d st' => .ok (gcO st d st').1 (gcO st d st').2
  | .ex e _ st' => .ex e (gcX st e st')
  | _ => .no
/-- an object of a class is made, its __init__ run -/
def mkC (c : List D → Store → Rs D) (cn : Option Str) (args : List D) (st : Store) : Rs D := match cn with
  | none => .no
  | some n => (c (.adr st.length :: args) (st ++ [.ins n []])).bind fun d s2 => match d with
    | .non => .ok (.adr st.length) s2
    | _ => .no
def callK (T : List FnI) : Nat → Calls
  | 0, _, _, _ => .no
  | k + 1, f, args, st => match T[f]? with
    | none => mkC (callK T k (f - 1000)) ((T[f - 1000]?).bind FnI.cls) args st
    | some d => if args.length = d.ps.length then finC st (d.body (callK T k) (startE d.N.length args) st) else .no
theorem callK_eq {T : List FnI} {k f : Nat} {args : List D} {st : Store} {d : FnI} (h : T[f]? = some d) (ha : args.length = d.ps.length) : callK T (k + 1) f args st = finC st (d.body (callK T k) (startE d.N.length args) st) := by
  rw [callK, h]
  exact if_pos ha
structure RoomM (k : Nat) (A : Around) : Prop where
  hd : A.handled = none
  dp : A.depth + k + 20 < recursionLimit
  un : A.units + 3 * k + 2100 < cLine
theorem RoomM.mono {j k : Nat} {A : Around} (r : RoomM k A) (h : j ≤ k) : RoomM j A := ⟨r.hd, by have := r.dp; omega, by have := r.un; omega⟩
theorem RoomM.deeper {k : Nat} {A : Around} (r : RoomM (k + 1) A) (env : Env) : RoomM k (A.deeper env) :=
  ⟨r.hd, by have := r.dp; show A.depth + 1 + k + 20 < _; omega, by have := r.un; show A.units + 3 + 3 * k + 2100 < _; omega⟩
theorem RoomM.depth {k : Nat} {A : Around} (r : RoomM k A) : A.depth < recursionLimit := by have := r.dp; omega
theorem RoomM.units {k : Nat} {A : Around} (r : RoomM k A) : A.units + 2000 < cLine := by have := r.un; omega
structure FnM (P : Program) (w : World) (K : PySem.W.Frag) (mg : Str → Option Value) (base : Heap) (k : Nat) (f : Addr) (fd : FuncData) (ps : List Str) (sp : Sp) (hot : Bool := false) : Prop where
  len : ∀ vs H Q E, sp vs H Q E → vs.length = ps.length
  run : ∀ (A : Around) (outer : List Env) (s : Shared) (H : Hp) (args : Args) (us : List Value) (vs : List V) (Q : VK) (E : XK), RoomM k A → (hot = true → 1 ≤ s.toks) → Env0 P w K mg base A outer s H → BindsTo s fd args (ps.zip us) → Vals vs us → sp vs H Q E →
    codeAny (model P w) A (.call (.ref f) args) (CR (L2.CX P w) outer P w H s Q E) s
/-- what a call is worth -/
def PstC (K : PySem.W.Frag) (mg : Str → Option Value) (H : Hp) (r : List Addr) (z : Rs D) (Q : VK) (E : XK) : Prop := match z with
  | .ok d st' => ∀ v H' r', Grow K mg H r st' H' r' → Rp K H' r' d v → Q v H'
  | .ex e st' => ∀ c d H' r', Grow K mg H r st' H' r' → ExR K mg H' r' e c d → E c d H'
  | .no => False
def spM (K : PySem.W.Frag) (mg : Str → Option Value) (np : Nat) (c : List D → Store → Rs D) : Sp := fun vs H Q E => vs.length = np ∧ ∃ r st args, HR K mg H r st ∧ RpL K H r args vs ∧ PstC K mg H r (c args st) Q E
/-- what a body may lean on -/
structure Ctx (X : Cx) (T : List FnI) (k : Nat) (W : WX) : Prop where
  calm : X.calm = true
  room : RoomM k X.A
  tk : Takes X W
  fns : ∀ fid d, T[fid]? = some d → ∃ f fd, At X.K X.mg d f ∧ PySem.W.keepIn X.K (.ref f) = true ∧ Binds X.K fd d.ps [] ∧ ∀ j, j ≤ k → FnM X.prog X.w X.K X.mg X.base j f fd d.ps (spM X.K X.mg d.ps.length (callK T j fid)) d.hot
theorem Ctx.hu {X : Cx} {T : List FnI} {k : Nat} {W : WX} (c : Ctx X T k W) : X.A.units + 2000 < cLine := c.room.units
theorem takes00 {X : Cx} : Takes X W0 := fun _ _ x => by
  obtain ⟨_, _, _, _, _, _, _, _, _, _, _, _, _, _, _, _, z⟩ := x
  exact z.elim
theorem Ctx.blk {X : Cx} {T : List FnI} {k : Nat} {W : WX} (c : Ctx X T k W) {s : Shared} {H : Hp} {scope : Scope} {cenv : Env} {fp : List Addr} : Ctx (X.blk s H scope cenv fp) T k W0 := ⟨c.calm, c.room, takes00, c.fns⟩
section
variable {X : Cx} {W : WX} {T : List FnI} {k : Nat}
def eCall (C : Calls) (fid : Nat) (fa : Fx (List D)) : Ex := fun env st => (fa env st).bind fun as s1 => C fid as s1
theorem run_m {pins : List (Addr × Obj)} {σ : L2.St} {H : Hp} {s : Shared} {Q : VK} {us : List Value} {vs : List V} {f : Addr} {fd : FuncData} {ps : List Str} {sp : Sp} {hot : Bool} (F : FnM X.prog X.w X.K X.mg X.base k f fd ps sp hot) (hr : RoomM k X.A) (hb : Binds X.K fd ps []) (tk : Takes X W)
    (I : Inv X pins σ H s) (r : Vals vs us) (h : sp vs H Q (fun c d H' => W c d σ H')) (ht : hot = true → 1 ≤ s.toks := by intro z; cases z) : wpAny (model X.prog X.w) X.A (call (.ref f) us) (EP X pins σ Q) X.xe s := by
  have hl : (us ++ []).length = ps.length := by rw [List.append_nil, ← r.length]; exact F.len _ _ _ _ h
  have hb' := hb s us I.kIn hl
  rw [List.append_nil] at hb'
  refine wpAny_call (codeAny_mono (F.run X.A X.stack s H ⟨us, []⟩ us vs Q _ hr ht I.env0 hb' r h) fun r s' hq => ?_)
  cases r with
  | error e => exact tk _ _ (XE.of_call I (fun _ _ _ z => z) hq)
  | ok fl =>
    cases fl with
    | ret u => exact I.after hq
    | next => exact False.elim hq
    | brk => exact False.elim hq
    | cont => exact False.elim hq
theorem m_call {fid : Nat} {d : FnI} {x : Str} {e : Expr} {es : List Expr} {fa : Fx (List D)} {p pos : Pos} (c : Ctx X T k W) (hT : T[fid]? = some d) (hx : d.name = x) (hg : Gl X x) (ha : PAm X W (e :: es) fa) (hlen : (e :: es).length = d.ps.length)
    (hla : ∀ env st as s1, fa env st = .ok as s1 → as.length = (e :: es).length)
    (hdb : (x == ("__debug__" : Str)) = false := by decide) (he : starEach (e :: es) X.env = (false, eval e X.env) :: starEach es X.env := by rfl) (hpl : (backTo pos (starEach es X.env)).any (·.1) = false := by rfl) (hcl : d.cls = none := by rfl) (hh : d.hot = false := by rfl) :
    PEm X W (.Call (.Name x p) (e :: es) [] pos) (eCall (callK T k) fid fa) := by
  obtain ⟨f, fd, hm, hk, hb, F⟩ := c.fns fid d hT
  rw [hh] at F
  replace hm := hm.none hcl
  subst hx
  refine ⟨fun pins s σ H Q I h => ?_⟩
  refine wpAny_Call_Name_kw (ld_glob I hg hm ?_ hdb)
  have h2 : tA X W fa σ H (fun vs H1 => spM X.K X.mg d.ps.length (callK T k fid) vs H1 Q (fun c d H' => W c d σ H')) := by
    obtain ⟨env, r, st, er, hr, p⟩ := h
    refine ⟨env, r, st, er, hr, ?_⟩
    unfold eCall at p
    cases ef : fa env st with
    | no => rw [ef] at p; exact p
    | ex a s1 => rw [ef] at p; exact p
    | ok as s1 =>
      rw [ef] at p
      intro vs H1 r1 g rl
      refine ⟨?_, r1, s1, as, g.2.2, rl, ?_⟩
      · rw [RpL.length rl, hla _ _ _ _ ef, hlen]
      · have p2 := PstG.base p g
        simp only [Rs.bind_ok] at p2
        cases ec : callK T k fid as s1 with
        | no => rw [ec] at p2; exact p2
        | ex a s2 => rw [ec] at p2; exact p2
        | ok a s2 => rw [ec] at p2; exact p2
  refine PySem.W.callWith_K (h₀ := X.base) I.ok.mod.kin hk (thn (ha.run pos pins s σ H _ I h2) fun us s1 ⟨vs, H1, I1, r, q⟩ => ⟨I1.kIn, ?_⟩) he hpl
  exact run_m (F k (Nat.le_refl k)) c.room hb c.tk I1 r q
theorem len_nil {env : MEnv} {st : Store} {as : List D} {s1 : Store} (h : aNil env st = .ok as s1) : as.length = 0 := by cases h; rfl
theorem len_cons {fa : Ex} {fr : Fx (List D)} {n : Nat} (hr : ∀ env st as s1, fr env st = .ok as s1 → as.length = n) : ∀ env st as s1, aCons fa fr env st = .ok as s1 → as.length = n + 1 := fun env st as s1 h => by
  unfold aCons at h
  cases e1 : fa env st with
  | no => rw [e1] at h; cases h
  | ex a s => rw [e1] at h; cases h
  | ok a s =>
    rw [e1] at h
    simp only [Rs.bind_ok] at h
    cases e2 : fr env s with
    | no => rw [e2] at h; cases h
    | ex a s => rw [e2] at h; cases h
    | ok as' s' =>
      rw [e2] at h
      simp only [Rs.bind_ok] at h
      cases h
      rw [List.length_cons, hr _ _ _ _ e2]
end

/-! ### a def keeps its promise -/
/-- a body; a hot def's body leans on a token that is out -/
def PBm (hot : Bool) (X : Cx) (W : WX) (ss : List Stmt) (f : Sx) : Prop := match hot with
  | false => PSsm X W ss f
  | true => ∀ (pins : List (Addr × Obj)) (s : Shared) (σ : L2.St) (H : Hp) (Dn : Ends), 1 ≤ s.toks → Inv X pins σ H s → tSx X W f Dn σ H → wpAny (model X.prog X.w) X.A (execs ss X.env) (SP X pins Dn) X.xe s
theorem PBm.go {hot : Bool} {X : Cx} {W : WX} {ss : List Stmt} {f : Sx} (h : PBm hot X W ss f) {pins : List (Addr × Obj)} {s : Shared} {σ : L2.St} {H : Hp} {Dn : Ends} (ht : hot = true → 1 ≤ s.toks) (I : Inv X pins σ H s) (q : tSx X W f Dn σ H) :
    wpAny (model X.prog X.w) X.A (execs ss X.env) (SP X pins Dn) X.xe s := by
  cases hot with
  | false => exact PSs.run h pins s σ H Dn I q
  | true => exact h pins s σ H Dn (ht rfl) I q
theorem startE_get {n : Nat} {args : List D} {vs : List V} {K : PySem.W.Frag} {H : Hp} {r : List Addr} {N : List Str} (l : RpL K H r args vs) (hn : N.length = n) (hle : vs.length ≤ n) : ER K H r (startE n args) (L2.start N vs) := by
  have hl := l.length
  refine ⟨?_, fun i d h => ?_⟩
  · unfold startE L2.start
    rw [List.length_append, List.length_append, List.length_map, List.length_map, List.length_replicate, List.length_replicate]
    omega
  · unfold startE at h
    unfold L2.start
    by_cases hi : i < args.length
    · rw [List.getElem?_append_left (by simpa using hi), List.getElem?_map] at h
      cases ed : args[i]? with
      | none => rw [ed] at h; cases h
      | some d' =>
        rw [ed] at h
        cases h
        obtain ⟨v, e1, e2⟩ := l.get ed
        refine ⟨v, ?_, e2⟩
        rw [List.getElem?_append_left (by rw [List.length_map]; omega), List.getElem?_map, e1]
        rfl
    · rw [List.getElem?_append_right (by simpa using hi), List.getElem?_replicate] at h
      split at h <;> cases h
section
variable {P : Program} {w : World} {K : PySem.W.Frag} {mg : Str → Option Value} {base : Heap} {T : List FnI} {k : Nat}
/-- the context of a def's body -/
abbrev cxM (P : Program) (w : World) (K : PySem.W.Frag) (mg : Str → Option Value) (base : Heap) (d : FnI) (qual : Str) (f : Addr) (cdv : Value) (A : Around) (outer : List Env) (s : Shared) (H : Hp) (E : XK) : Cx := cxOf (L2.CX P w) P w K mg base d.N qual (defScope d.st) f cdv A outer s H E
abbrev WE (E : XK) : WX := fun c d _ H => E c d H
theorem fn_step {qual : Str} {d : FnI} {fid : Nat} {f : Addr} {fd : FuncData} (F : Fun K d.name qual d.st f fd) (S : FnScope d.N d.ps (defScope d.st)) (hT : T[fid]? = some d)
    (fns : ∀ fid d, T[fid]? = some d → ∃ f fd, At K mg d f ∧ PySem.W.keepIn K (.ref f) = true ∧ Binds K fd d.ps [] ∧ ∀ j, j ≤ k → FnM P w K mg base j f fd d.ps (spM K mg d.ps.length (callK T j fid)) d.hot)
    (hbody : ∀ (cdv : Value) (A : Around) (outer : List Env) (s : Shared) (H : Hp) (E : XK), Ctx (cxM P w K mg base d qual f cdv A outer s H E) T k (WE E) → PBm d.hot (cxM P w K mg base d qual f cdv A outer s H E) (WE E) (defBody d.st) (d.body (callK T k))) :
    FnM P w K mg base (k + 1) f fd d.ps (spM K mg d.ps.length (callK T (k + 1) fid)) d.hot := by
  obtain ⟨oc, od, kV, doc, pm, an, cdv, ct, osl, rfl, lk, hcd⟩ := F.ex
  refine ⟨fun vs H Q E h => h.1, fun A outer s H args us vs Q E hr ht e0 hb r hsp => ?_⟩
  obtain ⟨hl, rr, st, as, hrr, ra, pc⟩ := hsp
  have KX : K.In s.heap := e0.mod.kin.keeps fun b o e => (e0.bs b o e).1
  have lim : s.heap.NoLimit := e0.mod.nolimit.keeps fun b o e => (e0.bs b o e).1
  have hkind : ∀ y ∈ d.ps.zip us, (defScope d.st).names.lookup y.1 = some .local ∨ ((defScope d.st).names.lookup y.1 = some .cell ∧ ((cellsFrom (s.heap.objs.size + 1) (defScope d.st).names []).lookup y.1).isSome = true) := fun ⟨n, v⟩ hy => by
    rcases S.par n (List.of_mem_zip hy).1 with q | q
    · exact .inl q
    · exact .inr ⟨q, PySem.W.cellsFrom_some _ _ _ (.inl q)⟩
  refine codeAny_call_function hr.depth (KX _ _ lk) rfl S.co S.gen rfl (PySem.W.codeRec_of KX hcd) (hb _ _ _ _ ?_)
  refine PySem.wpAny_mono (PySem.wpAny_toks (wpAny_newFunctionEnv_cells (Q := fun env s1 => env = newEnv (defScope d.st) s.heap.objs.size _ (cellsFrom (s.heap.objs.size + 1) (defScope d.st).names []) _ _ _ none _ ∧ InCallC s env.locals (bindL env.kindOf (d.ps.zip us) fun _ => none) env.cells (bindC env.kindOf (d.ps.zip us) fun _ => none) s1) S.kind hkind fun env he s1 x => ⟨he, x⟩)) (fun env s1 ⟨hk, he, x⟩ => ?_) fun _ _ z => z.2
  subst he
  refine ⟨lim.keeps x.toInCall.keep, codeAny_func ?_⟩
  have I : Inv (cxM P w K mg base d qual f cdv A outer s H E) [] (L2.start d.N vs) H s1 := inv_start S hr.hd e0 hl r x
  have C : Ctx (cxM P w K mg base d qual f cdv A outer s H E) T k (WE E) := ⟨rfl, hr.deeper _, takes_of rfl rfl rfl rfl, fns⟩
  have hpl : d.ps.length ≤ d.N.length := by have := congrArg List.length S.pre; rw [List.length_take] at this; omega
  have hal : as.length = d.ps.length := by rw [← ra.length]; exact hl
  rw [callK_eq hT hal] at pc
  have q : tSx (cxM P w K mg base d qual f cdv A outer s H E) (WE E) (d.body (callK T k)) { nx := fun _ H' => Q .non H', rt := Q } (L2.start d.N vs) H := by
    refine ⟨startE d.N.length as, rr, st, startE_get ra rfl (by omega), hrr, ?_⟩
    cases eo : d.body (callK T k) (startE d.N.length as) st with
    | nx env st' =>
      rw [eo] at pc
      intro σ' H' r' g er
      obtain ⟨r2, p2, h2, q2⟩ := gc_rel (d := .non) (v := .non) hrr g.1 g.2.1 g.2.2 (Rp.non_iff.mpr rfl)
      exact pc _ H' r2 ⟨g.1, p2, h2⟩ q2
    | rt dd st' =>
      rw [eo] at pc
      intro v H' r' g rp
      obtain ⟨r2, p2, h2, q2⟩ := gc_rel hrr g.1 g.2.1 g.2.2 rp
      exact pc _ H' r2 ⟨g.1, p2, h2⟩ q2
    | ex e env st' =>
      rw [eo] at pc
      intro c dd σ' H' r' g er ex
      obtain ⟨r2, p2, h2, q2⟩ := gcX_rel hrr g.2.1 g.2.2 ex
      exact pc c dd H' r2 ⟨g.1, p2, h2⟩ q2
    | bk env st' => rw [eo] at pc; exact pc.elim
    | ct env st' => rw [eo] at pc; exact pc.elim
    | no => rw [eo] at pc; exact pc.elim
  refine wpAny_mono ((hbody cdv A outer s H E C).go (fun z => Nat.le_trans (ht z) hk) I q) (fun fl s' hs => ?_) fun e s' hs => hs
  have fin : ∀ {σ' : L2.St} {H' : Hp} {v : V} {u : Value}, Inv (cxM P w K mg base d qual f cdv A outer s H E) [] σ' H' s' → RelV v u → Q v H' → CE outer P w H s Q u s' :=
    fun {σ' H' v u} J rv q => ⟨v, H', J.os, J.bare, J.base, J.hok, rv, q⟩
  cases fl with
  | ret u =>
    obtain ⟨v, σ', H', J, rv, q⟩ := hs
    exact fin J rv q
  | next =>
    obtain ⟨σ', H', J, q⟩ := hs
    exact fin (v := V.non) (u := Value.none) J rfl q
  | brk =>
    obtain ⟨_, _, _, q⟩ := hs
    exact False.elim q
  | cont =>
    obtain ⟨_, _, _, q⟩ := hs
    exact False.elim q
/-- what the top gives of a def -/
structure FnT (K : PySem.W.Frag) (mg : Str → Option Value) (d : FnI) : Prop where
  ex : ∃ f fd, Fun K d.name d.qual d.st f fd ∧ At K mg d f ∧ Binds K fd d.ps []
  sc : FnScope d.N d.ps (defScope d.st)
/-- all defs of a table keep their promises -/
theorem all_fns (ft : ∀ (fid : Nat) (d : FnI), T[fid]? = some d → FnT K mg d)
    (hbody : ∀ (k fid : Nat) (d : FnI), T[fid]? = some d → ∀ (f : Addr) (cdv : Value) (A : Around) (outer : List Env) (s : Shared) (H : Hp) (E : XK), Ctx (cxM P w K mg base d d.qual f cdv A outer s H E) T k (WE E) → PBm d.hot (cxM P w K mg base d d.qual f cdv A outer s H E) (WE E) (defBody d.st) (d.body (callK T k))) :
    ∀ (k fid : Nat) (d : FnI), T[fid]? = some d → ∃ f fd, At K mg d f ∧ PySem.W.keepIn K (.ref f) = true ∧ Binds K fd d.ps [] ∧ ∀ j, j ≤ k → FnM P w K mg base j f fd d.ps (spM K mg d.ps.length (callK T j fid)) d.hot := by
  have key : ∀ (k fid : Nat) (d : FnI), T[fid]? = some d → ∀ f fd, Fun K d.name d.qual d.st f fd → At K mg d f → Binds K fd d.ps [] → ∀ j, j ≤ k → FnM P w K mg base j f fd d.ps (spM K mg d.ps.length (callK T j fid)) d.hot := by
    intro k
    induction k with
    | zero =>
      intro fid d h f fd F m b j hj
      obtain rfl : j = 0 := by omega
      refine ⟨fun vs H Q E q => q.1, fun A outer s H args us vs Q E _ _ _ _ _ hsp => ?_⟩
      obtain ⟨_, _, _, _, _, _, z⟩ := hsp
      exact z.elim
    | succ k ih =>
      intro fid d h f fd F m b j hj
      by_cases e : j ≤ k
      · exact ih fid d h f fd F m b j e
      · obtain rfl : j = k + 1 := by omega
        exact fn_step F (ft fid d h).sc h (fun fid2 d2 h2 => by
          obtain ⟨f2, fd2, F2, m2, b2⟩ := (ft fid2 d2 h2).ex
          exact ⟨f2, fd2, m2, F2.kp, b2, ih fid2 d2 h2 f2 fd2 F2 m2 b2⟩) fun cdv A outer s H E c => hbody k fid d h f cdv A outer s H E c
  intro k fid d h
  obtain ⟨f, fd, F, m, b⟩ := (ft fid d h).ex
  exact ⟨f, fd, m, F.kp, b, key k fid d h f fd F m b⟩
end
end
end Mi

namespace Mi
open PySem PySem.Spec PyProof.Rows L2
noncomputable section
open Classical
theorem m_call0 {X : Cx} {W : WX} {T : List FnI} {k : Nat} {fid : Nat} {d : FnI} {x : Str} {p pos : Pos} (c : Ctx X T k W) (hT : T[fid]? = some d) (hx : d.name = x) (hg : Gl X x) (hlen : d.ps.length = 0) (hdb : (x == ("__debug__" : Str)) = false := by decide) (hcl : d.cls = none := by rfl) (hh : d.hot = false := by rfl) :
    PEm X W (.Call (.Name x p) [] [] pos) (eCall (callK T k) fid aNil) := by
  obtain ⟨f, fd, hm, hk, hb, F⟩ := c.fns fid d hT
  rw [hh] at F
  replace hm := hm.none hcl
  subst hx
  refine ⟨fun pins s σ H Q I h => ?_⟩
  refine wpAny_Call_Name_kw (ld_glob I hg hm ?_ hdb)
  refine PySem.W.callWith_K0 I.kIn hk (run_m (us := []) (vs := []) (F k (Nat.le_refl k)) c.room hb c.tk I .nil ?_)
  obtain ⟨env, r, st, er, hr, p⟩ := h
  refine ⟨hlen.symm, r, st, [], hr, RpL.nil, ?_⟩
  unfold eCall aNil at p
  simp only [Rs.bind_ok] at p
  cases ec : callK T k fid [] st with
  | no => rw [ec] at p; exact p
  | ex a s2 => rw [ec] at p; exact p
  | ok a s2 => rw [ec] at p; exact p
/-! ### the law's end -/
theorem RoomM.of {A : Around} (r : Room 231 A) : RoomM 590 A := ⟨r.hd, by have := r.dp; omega, by have := r.un; omega⟩
/-- the law's promise, whatever the module's names hold -/
def spEnd (K : PySem.W.Frag) (c : List D → Store → Rs D) : Sp := fun vs H Q E => ∀ mg, spM K mg 1 c vs H Q E
theorem fn_end {P : Program} {w : World} {K : PySem.W.Frag} {mg : Str → Option Value} {base : Heap} {f : Addr} {fd : FuncData} {x : Str} {c : List D → Store → Rs D} (F : FnM P w K mg base 590 f fd [x] (spM K mg 1 c)) :
    FnOk P w K mg base (L2.CX P w) 231 f fd [x] (spEnd K c) :=
  ⟨fun vs H Q E h => (h mg).1, fun A outer s H args us vs Q E hr e0 hb hv h => F.run A outer s H args us vs Q E (RoomM.of hr) (fun z => Bool.noConfusion z) e0 hb hv (h mg)⟩
theorem rpl_ints {K : PySem.W.Frag} {H : Hp} {r : List Addr} : ∀ ns : List Int, RpL K H r (ns.map D.int) (ns.map V.int)
  | [] => RpL.nil
  | n :: ns => RpL.cons (Rp.int_iff.mpr rfl) (rpl_ints ns)
theorem end_of {K : PySem.W.Frag} {c : List D → Store → Rs D} {H : Hp} {a : Addr} {ns : List Int} (ho : Only H) (hs : SqL K H a (ns.map V.int)) (h : ∃ st, c [.fro (ns.map D.int)] [] = .ok (.bl true) st) :
    spEnd K c [.ref a] H (fun v _ => v = .bl true) fun _ _ _ => False := fun mg => by
  obtain ⟨st, e⟩ := h
  refine ⟨rfl, [], [], [.fro (ns.map D.int)], ⟨rfl, List.nodup_nil, fun n a o e _ => by simp at e⟩, RpL.one (Rp.fro_iff.mpr ⟨a, _, rfl, ?_, rpl_ints ns⟩), ?_⟩
  · rcases hs with (h | ⟨o, h⟩) | h
    · rcases ho a with z | ⟨o, xs, z⟩
      · rw [h] at z; cases z
      · rw [h] at z; cases z
    · exact .inl ⟨o, h⟩
    · exact .inr h
  · rw [e]
    intro v H' r' _ q
    exact Rp.bl_iff.mp q
theorem cx_none {P : Program} {w : World} {H : Hp} {s : Shared} {e : Value} {s' : Shared} (h : L2.CX P w [] H s (fun _ _ _ => False) e s') : False := by
  obtain ⟨_, _, _, _, _, _, _, _, _, _, _, _, z⟩ := h
  exact z
/-- its arguments bind in their order -/
def BdOk (d : FnI) : Prop := ∀ (kV doc pm : Value) (an : Option Addr) (cdv ct : Value) (us : List Value), us.length = d.ps.length → bindArgs (PySem.W.fnOf d.name d.qual (defArgs d.st) (defBody d.st) (defScope d.st) .none kV doc pm an cdv ct) ⟨us, []⟩ = pure (d.ps.zip us)
theorem fnT_mk {K : PySem.W.Frag} {h : Heap} {mg : Str → Option Value} {d : FnI} {x : Str} {st : Stmt} {f1 : Addr} {oc : Value} {od an : Option Addr} {osl : Array (Option Value)} {kV doc pm cdv ct : Value} (X : K.In h) (G : h.Ns mainGlobals mg) (S : FnScope d.N d.ps (defScope d.st)) (B : BdOk d) (hx : d.name = x) (hs : d.st = st)
    (a : PySem.W.nsIn K mainGlobals x = some (some (.ref f1))) (l : K.lookup f1 = some ⟨oc, od, .func (PySem.W.fnOf x x (defArgs st) (defBody st) (defScope st) .none kV doc pm an cdv ct), osl⟩)
    (c : PySem.W.codeIn K cdv x = true) (k : PySem.W.keepIn K (.ref f1) = true) (hcl : d.cls = none := by rfl) : FnT K mg d := by
  subst hx hs
  have hq : d.qual = d.name := by unfold FnI.qual; rw [hcl]
  have F := fun_mk l c k
  have B' := B
  unfold BdOk at B'
  rw [hq] at B'
  refine ⟨⟨f1, _, by rw [hq]; exact F, ?_, F.binds B'⟩, S⟩
  unfold At
  rw [hcl]
  exact PySem.W.mg_of X G a
/-- a method of an own class -/
theorem fnM_mk {K : PySem.W.Frag} {h : Heap} {mg : Str → Option Value} {d : FnI} {x q cn : Str} {st : Stmt} {f1 C : Addr} {oc : Value} {od an : Option Addr} {osl : Array (Option Value)} {kV doc pm cdv ct : Value} (X : K.In h) (G : h.Ns mainGlobals mg) (S : FnScope d.N d.ps (defScope d.st)) (B : BdOk d) (hx : d.name = x) (hq : d.qual = q) (hs : d.st = st) (hc : d.cls = some cn)
    (a : PySem.W.nsIn K mainGlobals cn = some (some (.ref C))) (cl : Cls K C) (at_ : PySem.W.findIn K (.ref C) x = some (some (.ref f1))) (fn : PySem.W.isFn K (.ref f1) = true) (l : K.lookup f1 = some ⟨oc, od, .func (PySem.W.fnOf x q (defArgs st) (defBody st) (defScope st) .none kV doc pm an cdv ct), osl⟩)
    (c : PySem.W.codeIn K cdv q = true) (k : PySem.W.keepIn K (.ref f1) = true) : FnT K mg d := by
  subst hx hs hq
  have F := fun_mk l c k
  refine ⟨⟨f1, _, F, ?_, F.binds B⟩, S⟩
  unfold At
  rw [hc]
  exact ⟨C, PySem.W.mg_of X G a, cl, at_, fn⟩
theorem law_of {P : Program} {w : World} {K : PySem.W.Frag} {mg : Str → Option Value} {T : List FnI} {d : FnI} {fid : Nat} {fa : Addr} {x : Str} (ft : ∀ (fid : Nat) (d : FnI), T[fid]? = some d → FnT K mg d)
    (hb : ∀ (base : Heap) (k fid : Nat) (d : FnI), T[fid]? = some d → ∀ (f : Addr) (cdv : Value) (A : Around) (outer : List Env) (s : Shared) (H : Hp) (E : XK), Ctx (cxM P w K mg base d d.qual f cdv A outer s H E) T k (WE E) → PBm d.hot (cxM P w K mg base d d.qual f cdv A outer s H E) (WE E) (defBody d.st) (d.body (callK T k)))
    (hT : T[fid]? = some d) (hp : d.ps = [x]) (B : BdOk d) (hmg : mg d.name = some (.ref fa)) (hcl : d.cls = none := by rfl) (hh : d.hot = false := by rfl) :
    ∃ fd : FuncData, (∀ (s : Shared) (v : Value), BindsTo s fd ⟨[v], []⟩ [(x, v)]) ∧ ∀ base : Heap, K.In base → base.Ns mainGlobals mg → FnOk P w K mg base (L2.CX P w) 231 fa fd [x] (spEnd K (callK T 590 fid)) := by
  obtain ⟨f, fd, F, m, b⟩ := (ft fid d hT).ex
  replace m := m.none hcl
  rw [hmg] at m
  cases m
  refine ⟨fd, fun s v => ?_, fun base _ _ => ?_⟩
  · obtain ⟨oc, od, kV, doc, pm, an, cdv, ct, osl, rfl, lk, hcd⟩ := F.ex
    have e := B kV doc pm an cdv ct [v] (by rw [hp]; rfl)
    rw [hp] at e
    exact .of_eq e
  · have G := fn_step F (ft fid d hT).sc hT (all_fns ft (hb base) 589) fun cdv A outer s H E c => hb base 589 fid d hT fa cdv A outer s H E c
    rw [hp, hh] at G
    exact fn_end G
end
end Mi

namespace Mi
open PySem PySem.Spec PyProof.Rows L2
noncomputable section
open Classical

/-! ### what a result promises -/
def Rs.wp0 {α : Type} (x : Rs α) (Q : α → Store → Prop) (E : Exn → Store → Prop) : Prop := match x with
  | .ok a s => Q a s
  | .ex e s => E e s
  | .no => False
/-- a structure: nothing reduces it -/
structure Rs.wp {α : Type} (x : Rs α) (Q : α → Store → Prop) (E : Exn → Store → Prop) : Prop where
  h : x.wp0 Q E
theorem wp_def {α : Type} (x : Rs α) (Q : α → Store → Prop) (E : Exn → Store → Prop) : x.wp Q E = x.wp0 Q E := propext ⟨fun z => z.h, fun z => ⟨z⟩⟩
theorem wp_ok {α : Type} (a : α) (s : Store) (Q : α → Store → Prop) (E : Exn → Store → Prop) : (Rs.ok a s).wp Q E = Q a s := wp_def _ _ _
theorem wp_ex {α : Type} (e : Exn) (s : Store) (Q : α → Store → Prop) (E : Exn → Store → Prop) : (Rs.ex e s : Rs α).wp Q E = E e s := wp_def _ _ _
theorem wp_no {α : Type} (Q : α → Store → Prop) (E : Exn → Store → Prop) : (Rs.no : Rs α).wp Q E = False := wp_def _ _ _
theorem wp_bind {α β : Type} (x : Rs α) (f : α → Store → Rs β) (Q : β → Store → Prop) (E : Exn → Store → Prop) : (x.bind f).wp Q E = x.wp (fun a s => (f a s).wp Q E) E := by
  cases x with
  | ok a s => rw [Rs.bind_ok, wp_ok]
  | ex a s => rw [Rs.bind_ex, wp_ex, wp_ex]
  | no => rw [Rs.bind_no, wp_no, wp_no]
theorem Rs.wp.mono {α : Type} {x : Rs α} {Q Q' : α → Store → Prop} {E E' : Exn → Store → Prop} (h : x.wp Q E) (q : ∀ a s, Q a s → Q' a s) (e : ∀ a s, E a s → E' a s) : x.wp Q' E' := by
  rw [wp_def] at h ⊢
  cases x with
  | ok a s => exact q _ _ h
  | ex a s => exact e _ _ h
  | no => exact h
theorem Rs.wp.mono1 {α : Type} {x : Rs α} {Q Q' : α → Store → Prop} {E : Exn → Store → Prop} (h : x.wp Q E) (q : ∀ a s, Q a s → Q' a s) : x.wp Q' E := h.mono q fun _ _ z => z
abbrev NoX : Exn → Store → Prop := fun _ _ => False
theorem Rs.wp.ok {α : Type} {x : Rs α} {Q : α → Store → Prop} (h : x.wp Q NoX) : ∃ a s, x = .ok a s ∧ Q a s := by
  rw [wp_def] at h
  cases x with
  | ok a s => exact ⟨a, s, rfl, h⟩
  | ex a s => exact h.elim
  | no => exact h.elim
structure Pst where
  nx : MEnv → Store → Prop := fun _ _ => False
  rt : D → Store → Prop := fun _ _ => False
  bk : MEnv → Store → Prop := fun _ _ => False
  ct : MEnv → Store → Prop := fun _ _ => False
  ex : Exn → MEnv → Store → Prop := fun _ _ _ => False
def Out.wps0 (o : Out) (P : Pst) : Prop := match o with
  | .nx e s => P.nx e s
  | .rt d s => P.rt d s
  | .bk e s => P.bk e s
  | .ct e s => P.ct e s
  | .ex x e s => P.ex x e s
  | .no => False
structure Out.wps (o : Out) (P : Pst) : Prop where
  h : o.wps0 P
theorem wps_def (o : Out) (P : Pst) : o.wps P = o.wps0 P := propext ⟨fun z => z.h, fun z => ⟨z⟩⟩
theorem wps_nx (e : MEnv) (s : Store) (P : Pst) : (Out.nx e s).wps P = P.nx e s := wps_def _ _
theorem wps_rt (d : D) (s : Store) (P : Pst) : (Out.rt d s).wps P = P.rt d s := wps_def _ _
theorem wps_bk (e : MEnv) (s : Store) (P : Pst) : (Out.bk e s).wps P = P.bk e s := wps_def _ _
theorem wps_ct (e : MEnv) (s : Store) (P : Pst) : (Out.ct e s).wps P = P.ct e s := wps_def _ _
theorem wps_ex (x : Exn) (e : MEnv) (s : Store) (P : Pst) : (Out.ex x e s).wps P = P.ex x e s := wps_def _ _
theorem wps_no (P : Pst) : Out.no.wps P = False := wps_def _ _
theorem wps_toOut {α : Type} (x : Rs α) (env : MEnv) (f : α → Store → Out) (P : Pst) : (x.toOut env f).wps P = x.wp (fun a s => (f a s).wps P) (fun e s => P.ex e env s) := by
  cases x with
  | ok a s => rw [Rs.toOut_ok, wp_ok]
  | ex a s => rw [Rs.toOut_ex, wp_ex, wps_ex]
  | no => rw [Rs.toOut_no, wp_no, wps_no]
theorem seq_mid {f g : Sx} {env : MEnv} {st : Store} {P : Pst} {I : MEnv → Store → Prop} (h : (f env st).wps { P with nx := I }) (n : ∀ e s, I e s → (g e s).wps P) : (sSeq f g env st).wps P := by
  unfold sSeq
  rw [wps_def] at h
  cases e : f env st with
  | nx a s => rw [e] at h; exact n _ _ h
  | rt a s => rw [e] at h; rw [Out.seq_rt, wps_rt]; exact h
  | bk a s => rw [e] at h; rw [Out.seq_bk, wps_bk]; exact h
  | ct a s => rw [e] at h; rw [Out.seq_ct, wps_ct]; exact h
  | ex x a s => rw [e] at h; rw [Out.seq_ex, wps_ex]; exact h
  | no => rw [e] at h; exact h.elim
theorem seq_wp {f g : Sx} {env : MEnv} {st : Store} {P : Pst} (h : (f env st).wps { P with nx := fun e s => (g e s).wps P }) : (sSeq f g env st).wps P := seq_mid h fun _ _ z => z
theorem Out.wps.mono {o : Out} {P P' : Pst} (h : o.wps P) (n : ∀ e s, P.nx e s → P'.nx e s) (r : ∀ e s, P.rt e s → P'.rt e s) (b : ∀ e s, P.bk e s → P'.bk e s) (c : ∀ e s, P.ct e s → P'.ct e s) (x : ∀ a e s, P.ex a e s → P'.ex a e s) : o.wps P' := by
  rw [wps_def] at h ⊢
  cases o with
  | nx e s => exact n _ _ h
  | rt e s => exact r _ _ h
  | bk e s => exact b _ _ h
  | ct e s => exact c _ _ h
  | ex a e s => exact x _ _ _ h
  | no => exact h
/-- a call -/
theorem call_wp {T : List FnI} {k f : Nat} {args : List D} {st : Store} {d : FnI} {Q : D → Store → Prop} {E : Exn → Store → Prop} (h : T[f]? = some d) (ha : args.length = d.ps.length) {env : MEnv} (he : startE d.N.length args = env)
    (w : (d.body (callK T k) env st).wps { nx := fun _ s => Q (gcO st .non s).1 (gcO st .non s).2, rt := fun v s => Q (gcO st v s).1 (gcO st v s).2, ex := fun e _ s => E e (gcX st e s) }) : (callK T (k + 1) f args st).wp Q E := by
  rw [callK_eq h ha, he]
  rw [wps_def] at w
  rw [wp_def]
  cases e : d.body (callK T k) env st with
  | nx a s => rw [e] at w; exact w
  | rt a s => rw [e] at w; exact w
  | bk a s => rw [e] at w; exact w.elim
  | ct a s => rw [e] at w; exact w.elim
  | ex x a s => rw [e] at w; exact w
  | no => rw [e] at w; exact w.elim
theorem sIf_t {c : Fx Bool} {f g : Sx} {env : MEnv} {st : Store} {P : Pst} (h : (c env st).wp (fun b s => if b = true then (f env s).wps P else (g env s).wps P) (fun e s => P.ex e env s)) : (sIf c f g env st).wps P := by
  unfold sIf
  rw [wps_toOut]
  refine h.mono1 fun b s h => ?_
  by_cases hb : b = true
  · rw [if_pos hb] at h ⊢; exact h
  · rw [if_neg hb] at h ⊢; exact h
/-! loops -/
theorem forL_wp {g : Option GN} {all : List D} {t : Tgt} {b : Sx} {P : Pst} {I : List D → MEnv → Store → Prop}
    (hg : ∀ ys env st, I ys env st → guard g all st)
    (step : ∀ x xs env st, I (x :: xs) env st → ∃ env1, tgSet t x env = some env1 ∧ (b env1 st).wps { P with nx := I xs, ct := I xs, bk := P.nx })
    (done : ∀ env st, I [] env st → P.nx env st) : ∀ xs env st, I xs env st → (forL g all t b xs env st).wps P
  | [], env, st, h => by
    rw [forL, if_pos (hg _ _ _ h), wps_nx]
    exact done _ _ h
  | x :: xs, env, st, h => by
    rw [forL, if_pos (hg _ _ _ h)]
    obtain ⟨env1, e1, w⟩ := step x xs env st h
    rw [e1]
    dsimp only
    rw [wps_def] at w
    cases e : b env1 st with
    | nx a s => rw [e] at w; exact forL_wp hg step done xs a s w
    | ct a s => rw [e] at w; exact forL_wp hg step done xs a s w
    | rt a s => rw [e] at w; rw [wps_rt]; exact w
    | bk a s => rw [e] at w; rw [wps_nx]; exact w
    | ex x a s => rw [e] at w; rw [wps_ex]; exact w
    | no => rw [e] at w; exact w.elim
theorem rngD_zero (lo : Int) : rngD lo 0 = [] := rfl
theorem rngD_succ (lo : Int) (n : Nat) : rngD lo (n + 1) = .int lo :: rngD (lo + 1) n := by
  unfold rngD
  rw [List.range_succ_eq_map]
  simp only [List.map_cons, List.map_map, List.cons.injEq]
  refine ⟨by simp, List.map_congr_left fun i _ => ?_⟩
  simp only [Function.comp_apply]
  congr 1
  push_cast
  omega
/-- over a range: I i holds before the pass of i -/
theorem forR_wp {all : List D} {t : Tgt} {b : Sx} {P : Pst} {I : Int → MEnv → Store → Prop} {hi : Int}
    (step : ∀ i env st, I i env st → i < hi → ∃ env1, tgSet t (.int i) env = some env1 ∧ (b env1 st).wps { P with nx := I (i + 1), ct := I (i + 1), bk := P.nx })
    (done : ∀ env st, I hi env st → P.nx env st) : ∀ (n : Nat) (lo : Int) env st, lo + n = hi → I lo env st → (forL none all t b (rngD lo n) env st).wps P
  | 0, lo, env, st, e, h => by
    rw [rngD_zero, forL, if_pos (show guard none all st from trivial), wps_nx]
    have : lo = hi := by simpa using e
    subst this
    exact done _ _ h
  | n + 1, lo, env, st, e, h => by
    rw [rngD_succ, forL, if_pos (show guard none all st from trivial)]
    obtain ⟨env1, e1, w⟩ := step lo env st h (by omega)
    rw [e1]
    dsimp only
    have e' : lo + 1 + (n : Int) = hi := by push_cast at e; omega
    rw [wps_def] at w
    cases e : b env1 st with
    | nx a s => rw [e] at w; exact forR_wp step done n _ a s e' w
    | ct a s => rw [e] at w; exact forR_wp step done n _ a s e' w
    | rt a s => rw [e] at w; rw [wps_rt]; exact w
    | bk a s => rw [e] at w; rw [wps_nx]; exact w
    | ex x a s => rw [e] at w; rw [wps_ex]; exact w
    | no => rw [e] at w; exact w.elim
theorem sFor_wp {src : Src} {t : Tgt} {b : Sx} {env : MEnv} {st : Store} {P : Pst} (h : (src env st).wp (fun p s => (forL p.2 p.1 t b p.1 env s).wps P) (fun e s => P.ex e env s)) : (sFor src t b env st).wps P := by
  unfold sFor
  rw [wps_toOut]
  exact h
theorem sWh_wp {c : Fx Bool} {b : Sx} {P : Pst} {I : Nat → MEnv → Store → Prop}
    (step : ∀ m env st, I m env st → (c env st).wp (fun k s => if k = true then (b env s).wps { P with nx := fun e s' => ∃ m', m' < m ∧ I m' e s', ct := fun e s' => ∃ m', m' < m ∧ I m' e s', bk := P.nx } else P.nx env s) (fun e s => P.ex e env s)) :
    ∀ (m : Nat) (env : MEnv) (st : Store), I m env st → (sWh c b env st).wps P := fun m => by
  induction m using Nat.strongRecOn with
  | _ m ih =>
    intro env st h
    rw [sWh_eq, wps_toOut]
    refine (step m env st h).mono1 fun k s w => ?_
    by_cases hk : k = true
    · rw [if_pos hk] at w ⊢
      rw [wps_def] at w
      cases e : b env s with
      | nx a s' => rw [e] at w; obtain ⟨m', hm, w⟩ := w; exact ih m' hm a s' w
      | ct a s' => rw [e] at w; obtain ⟨m', hm, w⟩ := w; exact ih m' hm a s' w
      | rt a s' => rw [e] at w; dsimp only; rw [wps_rt]; exact w
      | bk a s' => rw [e] at w; dsimp only; rw [wps_nx]; exact w
      | ex x a s' => rw [e] at w; dsimp only; rw [wps_ex]; exact w
      | no => rw [e] at w; exact w.elim
    · rw [if_neg hk] at w ⊢
      rw [wps_nx]
      exact w
theorem cmL_wp {g : Option GN} {all : List D} {t : Tgt} {c : Fx Bool} {em : Em} {envw : MEnv} {I : List D → Store → Prop} (hg : ∀ ys st, I ys st → guard g all st)
    (step : ∀ x xs st, I (x :: xs) st → ∃ env1, tgSet t x envw = some env1 ∧ (c env1 st).wp (fun b s => if b = true then ∃ s', em env1 s = some s' ∧ I xs s' else I xs s) NoX) : ∀ xs st, I xs st → ∃ st', cmL g all t c em envw xs st = some st' ∧ I [] st'
  | [], st, h => ⟨st, by rw [cmL, if_pos (hg _ _ h)], h⟩
  | x :: xs, st, h => by
    obtain ⟨env1, e1, w⟩ := step x xs st h
    obtain ⟨b, s, e2, w⟩ := w.ok
    rw [cmL, if_pos (hg _ _ h), e1]
    dsimp only
    rw [e2]
    cases b with
    | true =>
      rw [if_pos rfl] at w
      obtain ⟨s', e3, w⟩ := w
      dsimp only
      rw [e3]
      exact cmL_wp hg step xs s' w
    | false =>
      rw [if_neg Bool.false_ne_true] at w
      exact cmL_wp hg step xs s w
/-- a list comprehension without conditions: the items' values, one after the other -/
theorem emL_wp {n : Nat} {f : Ex} {env : MEnv} {st : Store} {Q : Store → Prop} (h : (f env st).wp (fun d s => ∃ acc, lstAt s n = some acc ∧ acc.length < sizeLine ∧ Q (s.set n (.lst (acc ++ [d])))) NoX) : ∃ s', emL n f env st = some s' ∧ Q s' := by
  obtain ⟨d, s, e, acc, e1, e2, q⟩ := h.ok
  refine ⟨_, ?_, q⟩
  unfold emL
  rw [e]
  dsimp only
  rw [e1]
  dsimp only
  rw [if_pos e2]

/-! ### what is left behind a call -/
theorem gc_low {st st' : Store} {d : D} (hk : keepOk st st') (hn : lowD st.length d = true) : gcO st d st' = (d, st'.take st.length) := by
  unfold gcO
  rw [if_pos hk, if_pos hn]
theorem gc_pure {st st' : Store} {d : D} (hk : keepOk st st') (hn : noa d = true) : gcO st d st' = (d, st'.take st.length) := gc_low hk (low_noa _ _ hn)
theorem gc_newL {st st' : Store} {m : Nat} {o : O} (hk : keepOk st st') (hm : st.length ≤ m) (h : st'[m]? = some o) (hc : lowO st.length o = true) : gcO st (.adr m) st' = (.adr st.length, st'.take st.length ++ [o]) := by
  unfold gcO
  rw [if_pos hk, if_neg (by simp [lowD]; omega)]
  dsimp only
  rw [h]
  dsimp only
  rw [if_pos hc]
theorem gc_new {st st' : Store} {m : Nat} {o : O} (hk : keepOk st st') (hm : st.length ≤ m) (h : st'[m]? = some o) (hc : cleanO o = true) : gcO st (.adr m) st' = (.adr st.length, st'.take st.length ++ [o]) := gc_newL hk hm h (low_clean _ hc)
theorem keep_app (st g : Store) : keepOk st (st ++ g) := fun i hi => .inl (List.getElem?_append_left hi)
theorem gc_app {st g : Store} {d : D} (hn : noa d = true) : gcO st d (st ++ g) = (d, st) := by
  rw [gc_pure (keep_app _ _) hn, List.take_left' rfl]
theorem gc_id {st : Store} {d : D} (hn : noa d = true) : gcO st d st = (d, st) := by
  have := gc_app (st := st) (g := []) hn
  rwa [List.append_nil] at this
/-- old objects stay -/
def Old (st st' : Store) : Prop := st <+: st'
theorem Old.gc {st st' : Store} {d : D} (h : Old st st') (hn : noa d = true) : gcO st d st' = (d, st) := by
  obtain ⟨g, rfl⟩ := h
  exact gc_app hn
theorem Old.gcn {st st' : Store} {m : Nat} {o : O} (h : Old st st') (hm : st.length ≤ m) (e : st'[m]? = some o) (hc : cleanO o = true) : gcO st (.adr m) st' = (.adr st.length, st ++ [o]) := by
  obtain ⟨g, rfl⟩ := h
  rw [gc_new (keep_app _ _) hm e hc, List.take_left' rfl]
theorem Old.refl (st : Store) : Old st st := List.prefix_refl _
theorem Old.trans {a b c : Store} (h : Old a b) (h' : Old b c) : Old a c := List.IsPrefix.trans h h'
theorem Old.app (st g : Store) : Old st (st ++ g) := ⟨g, rfl⟩
theorem Old.at {st st' : Store} {i : Nat} {o : O} (h : Old st st') (e : st[i]? = some o) : st'[i]? = some o := by
  obtain ⟨g, rfl⟩ := h
  rw [List.getElem?_append_left (List.getElem?_eq_some_iff.mp e).1]
  exact e
theorem Old.set {st st' : Store} {n : Nat} {o : O} (h : Old st st') (hn : st.length ≤ n) : Old st (st'.set n o) := by
  obtain ⟨g, rfl⟩ := h
  rw [List.set_append_right _ _ hn]
  exact ⟨_, rfl⟩
theorem lst_new {st : Store} {xs : List D} : lstAt (st ++ [.lst xs]) st.length = some xs := lstAt_iff.mpr (by simp)
theorem lst_app {st g : Store} {n : Nat} {xs : List D} (h : lstAt st n = some xs) : lstAt (st ++ g) n = some xs := by
  rw [lstAt_iff] at h ⊢
  rw [List.getElem?_append_left (List.getElem?_eq_some_iff.mp h).1]
  exact h
theorem lst_lt {st : Store} {n : Nat} {xs : List D} (h : lstAt st n = some xs) : n < st.length := (List.getElem?_eq_some_iff.mp (lstAt_iff.mp h)).1
theorem dct_lt {st : Store} {n : Nat} {xs : List (Key × D)} (h : dctAt st n = some xs) : n < st.length := (List.getElem?_eq_some_iff.mp (dctAt_iff.mp h)).1
theorem lst_set {st : Store} {n : Nat} {xs : List D} (h : n < st.length) : lstAt (st.set n (.lst xs)) n = some xs := lstAt_iff.mpr (by simp [h])
theorem lst_set_ne {st : Store} {n m : Nat} {o : O} (h : n ≠ m) : lstAt (st.set n o) m = lstAt st m := by unfold lstAt; rw [List.getElem?_set_ne h]
theorem dct_set_ne {st : Store} {n m : Nat} {o : O} (h : n ≠ m) : dctAt (st.set n o) m = dctAt st m := by unfold dctAt; rw [List.getElem?_set_ne h]
theorem Old.lst {st st' : Store} {n : Nat} {xs : List D} (h : Old st st') (e : lstAt st n = some xs) : lstAt st' n = some xs := lstAt_iff.mpr (h.at (lstAt_iff.mp e))
theorem Old.dct {st st' : Store} {n : Nat} {xs : List (Key × D)} (h : Old st st') (e : dctAt st n = some xs) : dctAt st' n = some xs := dctAt_iff.mpr (h.at (dctAt_iff.mp e))
theorem Old.len {st st' : Store} (h : Old st st') : st.length ≤ st'.length := h.length_le

/-! ### places -/
theorem ixN_of {n k : Nat} (h : k < n) : ixN n (k : Int) = some k := by
  unfold ixN
  rw [if_pos (by omega), if_pos (by omega)]
  rfl
theorem atI_of {α : Type} {xs : List α} {k : Nat} {d : α} (h : xs[k]? = some d) : atI xs (k : Int) = some d := by
  unfold atI
  rw [ixN_of (List.getElem?_eq_some_iff.mp h).1]
  exact h
theorem atI_0 {α : Type} (x : α) (xs : List α) : atI (x :: xs) 0 = some x := atI_of (k := 0) rfl
theorem atI_1 {α : Type} (x y : α) (xs : List α) : atI (x :: y :: xs) 1 = some y := atI_of (k := 1) rfl
theorem atI_2 {α : Type} (x y z : α) (xs : List α) : atI (x :: y :: z :: xs) 2 = some z := atI_of (k := 2) rfl
theorem atI_3 {α : Type} (x y z w : α) (xs : List α) : atI (x :: y :: z :: w :: xs) 3 = some w := atI_of (k := 3) rfl
theorem ix_tup {xs : List D} {k : Int} {st : Store} : opIx (.tup xs) (.int k) st = (atI xs k).map fun d => (d, st) := rfl
theorem ix_fro {xs : List D} {k : Int} {st : Store} : opIx (.fro xs) (.int k) st = (atI xs k).map fun d => (d, st) := rfl
theorem ix_lst {n : Nat} {xs : List D} {k : Int} {st : Store} (h : lstAt st n = some xs) : opIx (.adr n) (.int k) st = (atI xs k).map fun d => (d, st) := by
  unfold opIx
  dsimp only [seqOf, seqL]
  rw [h]
theorem put_lst {n : Nat} {xs : List D} {k : Nat} {d : D} {st : Store} (h : lstAt st n = some xs) (hk : k < xs.length) : putAt (.adr n) (.int (k : Int)) d st = some (st.set n (.lst (xs.set k d))) := by
  unfold putAt
  dsimp only
  rw [h]
  dsimp only
  rw [ixN_of hk]
  rfl
theorem put_0 {n : Nat} {xs : List D} {x d : D} {st : Store} (h : lstAt st n = some (x :: xs)) : putAt (.adr n) (.int 0) d st = some (st.set n (.lst (d :: xs))) := put_lst (k := 0) h (by simp)
theorem put_1 {n : Nat} {xs : List D} {x y d : D} {st : Store} (h : lstAt st n = some (x :: y :: xs)) : putAt (.adr n) (.int 1) d st = some (st.set n (.lst (x :: d :: xs))) := put_lst (k := 1) h (by simp)
theorem put_2 {n : Nat} {xs : List D} {x y z d : D} {st : Store} (h : lstAt st n = some (x :: y :: z :: xs)) : putAt (.adr n) (.int 2) d st = some (st.set n (.lst (x :: y :: d :: xs))) := put_lst (k := 2) h (by simp)
theorem put_3 {n : Nat} {xs : List D} {x y z w d : D} {st : Store} (h : lstAt st n = some (x :: y :: z :: w :: xs)) : putAt (.adr n) (.int 3) d st = some (st.set n (.lst (x :: y :: z :: d :: xs))) := put_lst (k := 3) h (by simp)
theorem ix_str {z : Str} {k : Int} {st : Store} (h : z.length ≤ sizeLine) : opIx (.str z) (.int k) st = (atI z.cps.toList k).map fun c => (.str ⟨#[c]⟩, st) := by
  unfold opIx
  dsimp only [seqOf, seqL]
  rw [if_pos h]
theorem atI_mem {α : Type} {xs : List α} {k : Int} (h0 : 0 ≤ k) (h : k < xs.length) : ∃ d, atI xs k = some d ∧ d ∈ xs := by
  obtain ⟨n, rfl⟩ := Int.eq_ofNat_of_zero_le h0
  have hn : n < xs.length := by omega
  exact ⟨xs[n], atI_of (by simp [hn]), List.getElem_mem _⟩
theorem eq_int {i j : Int} {st : Store} : opEq (.int i) (.int j) st = some (.bl (decide (i = j)), st) := by
  have e : eqD (.int i) (.int j) = decide (i = j) := by rw [eqD]; by_cases h : i = j <;> simp [h]
  simp [opEq, eqO, e, pur, dep]
theorem ne_int {i j : Int} {st : Store} : opNe (.int i) (.int j) st = some (.bl (!decide (i = j)), st) := by
  have e : eqD (.int i) (.int j) = decide (i = j) := by rw [eqD]; by_cases h : i = j <;> simp [h]
  simp [opNe, eqO, e, pur, dep]
theorem eq_str {i j : Str} {st : Store} : opEq (.str i) (.str j) st = some (.bl (decide (i = j)), st) := by
  have e : eqD (.str i) (.str j) = decide (i = j) := by rw [eqD]; by_cases h : i = j <;> simp [h]
  simp [opEq, eqO, e, pur, dep]
theorem srcR1_of {j : Int} {env : MEnv} {st st' : Store} {fa : Fx (List D)} (h : fa env st = .ok [.int j] st') (h0 : -(2 ^ 62) ≤ j) (h1 : j < 2 ^ 62) : srcR1 fa env st = .ok (rngD 0 j.toNat, none) st' := by
  unfold srcR1
  rw [h]
  simp only [Rs.bind_ok]
  rw [if_pos ⟨h0, h1⟩]
theorem app_lst {n : Nat} {xs : List D} {d : D} {st : Store} (h : lstAt st n = some xs) (hs : xs.length < sizeLine) : mdAppend (.adr n) [d] st = some (.non, st.set n (.lst (xs ++ [d]))) := by
  unfold mdAppend
  dsimp only
  rw [h]
  dsimp only
  rw [if_pos hs]
theorem ty_lst {n : Nat} {xs : List D} {st : Store} (h : lstAt st n = some xs) : tyList (.adr n) st = true := by
  show (lstAt st n).isSome = true
  rw [h]
  rfl
theorem tup_lst {n : Nat} {xs : List D} {st : Store} (h : lstAt st n = some xs) : biTuple [.adr n] st = some (.tup xs, st) := by
  show (lstAt st n).map (fun xs => (D.tup xs, st)) = _
  rw [h]
  rfl
theorem cutD_take2 {xs : List D} : cutD xs none (some 2) = xs.take 2 := by
  unfold cutD
  match xs with
  | [] => rfl
  | [a] => rfl
  | a :: b :: r =>
    have e : HT.sIx (a :: b :: r).length (a :: b :: r).length (some 2) = 2 := by
      simp [HT.sIx]
    rw [e]
    rfl
theorem add_int {i j : Int} {st : Store} : opAdd (.int i) (.int j) st = some (.int (i + j), st) := rfl
theorem add_str0 {a b : Str} {st : Store} : opAdd (.str a) (.str b) st = if a.length + b.length ≤ sizeLine then some (.str (a ++ b), st) else none := rfl
theorem add_tup0 {a b : List D} {st : Store} : opAdd (.tup a) (.tup b) st = if a.length + b.length ≤ sizeLine then some (.tup (a ++ b), st) else none := rfl
end
end Mi

namespace Mi
open PySem PySem.Spec PyProof.Rows L2
noncomputable section
open Classical
/-! ### the drawer's state: [place, rest, seed, budget] -/
theorem if_pos1000 {α : Type} {n : Nat} {x y : α} (h : n ≤ 1000) : (if n ≤ 1000 then x else y) = x := if_pos h
def StG (a : Nat) (st : Store) (b : Int) : Prop := ∃ p r s : Int, lstAt st a = some [.int p, .int r, .int s, .int b] ∧ 0 ≤ p ∧ 0 ≤ s ∧ s < 2147483648
structure Dr (a : Nat) (st st' : Store) (b : Int) : Prop where
  ot : ∀ i, i < st.length → i ≠ a → st'[i]? = st[i]?
  ok : StG a st' b
  le : st.length ≤ st'.length
theorem StG.lt {a : Nat} {st : Store} {b : Int} (h : StG a st b) : a < st.length := by obtain ⟨p, r, s, e, _⟩ := h; exact lst_lt e
theorem StG.old {a : Nat} {st st' : Store} {b : Int} (h : StG a st b) (o : Old st st') : StG a st' b := by obtain ⟨p, r, s, e, q⟩ := h; exact ⟨p, r, s, o.lst e, q⟩
theorem keep_set {st : Store} {a : Nat} {o : O} (hc : cleanO o = true) : keepOk st (st.set a o) := fun i hi => by
  by_cases h : i = a
  · subst h; exact .inr ⟨o, by simp [hi], low_clean _ hc⟩
  · exact .inl (List.getElem?_set_ne (Ne.symm h))
theorem Dr.set {st : Store} {a : Nat} {o : O} {b : Int} (h : StG a (st.set a o) b) : Dr a st (st.set a o) b := ⟨fun i _ hne => List.getElem?_set_ne (Ne.symm hne), h, by simp⟩
theorem Dr.refl {st : Store} {a : Nat} {b : Int} (h : StG a st b) : Dr a st st b := ⟨fun _ _ _ => rfl, h, Nat.le_refl _⟩
theorem Dr.trans {s1 s2 s3 : Store} {a : Nat} {b c : Int} (h : Dr a s1 s2 b) (h' : Dr a s2 s3 c) : Dr a s1 s3 c := ⟨fun i hi hne => (h'.ot i (Nat.lt_of_lt_of_le hi h.le) hne).trans (h.ot i hi hne), h'.ok, Nat.le_trans h.le h'.le⟩
theorem Dr.old {s1 s2 s3 : Store} {a : Nat} {b : Int} (h : Dr a s1 s2 b) (o : Old s2 s3) : Dr a s1 s3 b := ⟨fun i hi hne => by
  obtain ⟨g, rfl⟩ := o
  rw [List.getElem?_append_left (Nat.lt_of_lt_of_le hi h.le)]
  exact h.ot i hi hne, h.ok.old o, Nat.le_trans h.le o.len⟩
theorem Dr.ofOld {s1 s2 : Store} {a : Nat} {b : Int} (h : StG a s1 b) (o : Old s1 s2) : Dr a s1 s2 b := (Dr.refl h).old o
theorem Dr.lst {st st' : Store} {a n : Nat} {b : Int} {xs : List D} (h : Dr a st st' b) (e : lstAt st n = some xs) (hn : n ≠ a) : lstAt st' n = some xs := by
  rw [lstAt_iff] at e ⊢
  rw [h.ot n (List.getElem?_eq_some_iff.mp e).1 hn, e]
theorem Dr.dct {st st' : Store} {a n : Nat} {b : Int} {xs : List (Key × D)} (h : Dr a st st' b) (e : dctAt st n = some xs) (hn : n ≠ a) : dctAt st' n = some xs := by
  rw [dctAt_iff] at e ⊢
  rw [h.ot n (List.getElem?_eq_some_iff.mp e).1 hn, e]
/-- a local object is written -/
theorem Dr.loc {st st' : Store} {a n : Nat} {o : O} {b : Int} (h : Dr a st st' b) (ha : a < st.length) (hn : st.length ≤ n) : Dr a st (st'.set n o) b := by
  refine ⟨fun i hi hne => ?_, ?_, by simpa using h.le⟩
  · rw [List.getElem?_set_ne (by omega)]
    exact h.ot i hi hne
  · obtain ⟨p, r, s, e, q⟩ := h.ok
    exact ⟨p, r, s, by rw [lst_set_ne (by omega)]; exact e, q⟩
theorem Dr.keep {st st' : Store} {a : Nat} {b : Int} (h : Dr a st st' b) : keepOk st st' := fun i hi => by
  by_cases e : i = a
  · subst e
    obtain ⟨p, r, s, e, q⟩ := h.ok
    exact .inr ⟨_, lstAt_iff.mp e, low_clean _ rfl⟩
  · exact .inl (h.ot i hi e)
theorem Dr.cut {st st' : Store} {a : Nat} {b : Int} (h : Dr a st st' b) (ha : a < st.length) : Dr a st (st'.take st.length) b ∧ (st'.take st.length).length = st.length := by
  have hl : (st'.take st.length).length = st.length := by rw [List.length_take]; exact Nat.min_eq_left h.le
  refine ⟨⟨fun i hi hne => ?_, ?_, by omega⟩, hl⟩
  · rw [List.getElem?_take_of_lt hi]
    exact h.ot i hi hne
  · obtain ⟨p, r, s, e, q⟩ := h.ok
    refine ⟨p, r, s, ?_, q⟩
    rw [lstAt_iff] at e ⊢
    rw [List.getElem?_take_of_lt ha]
    exact e
theorem Dr.gc {st st' : Store} {a : Nat} {b : Int} {d : D} (h : Dr a st st' b) (ha : a < st.length) (hn : noa d = true) : ∃ s2, gcO st d st' = (d, s2) ∧ Dr a st s2 b ∧ s2.length = st.length := ⟨_, gc_pure h.keep hn, (h.cut ha).1, (h.cut ha).2⟩
theorem Dr.gcn {st st' : Store} {a m : Nat} {b : Int} {xs : List D} (h : Dr a st st' b) (ha : a < st.length) (hm : st.length ≤ m) (e : lstAt st' m = some xs) (hc : noas xs = true) :
    ∃ s2, gcO st (.adr m) st' = (.adr st.length, s2) ∧ Dr a st s2 b ∧ s2.length = st.length + 1 ∧ lstAt s2 st.length = some xs := by
  obtain ⟨c1, c2⟩ := h.cut ha
  refine ⟨_, gc_new h.keep hm (lstAt_iff.mp e) hc, c1.old (Old.app _ _), by simp [c2], ?_⟩
  have z := lst_new (st := st'.take st.length) (xs := xs)
  rwa [c2] at z
theorem StG.at3 {a : Nat} {st : Store} {b : Int} (h : StG a st b) : opIx (.adr a) (.int 3) st = some (.int b, st) := by
  obtain ⟨p, r, s, e, _⟩ := h
  rw [ix_lst e, atI_3]
  rfl
theorem StG.put3 {a : Nat} {st : Store} {b : Int} (h : StG a st b) (b' : Int) : ∃ st', putAt (.adr a) (.int 3) (.int b') st = some st' ∧ Dr a st st' b' ∧ st'.length = st.length := by
  obtain ⟨p, r, s, e, q⟩ := h
  exact ⟨_, put_3 e, Dr.set ⟨p, r, s, lst_set (lst_lt e), q⟩, by simp⟩
end
end Mi

namespace Mi
open PySem PySem.Spec PyProof.Rows L2
noncomputable section
open Classical
/-! ### terms -/
inductive Hd where
  | i (n : Int) | s (x : Str)
def Hd.d : Hd → D
  | .i n => .int n
  | .s x => .str x
inductive Tm where
  | mk (h : Hd) (ts : List Tm)
mutual
def Tm.d : Tm → D
  | .mk h ts => .tup [h.d, .tup (Tm.ds ts)]
def Tm.ds : List Tm → List D
  | [] => []
  | t :: ts => t.d :: Tm.ds ts
end
mutual
def Tm.size : Tm → Nat
  | .mk _ ts => Tm.sizes ts + 1
def Tm.sizes : List Tm → Nat
  | [] => 0
  | t :: ts => t.size + Tm.sizes ts
end
mutual
def Tm.depth : Tm → Nat
  | .mk _ ts => Tm.depths ts + 1
def Tm.depths : List Tm → Nat
  | [] => 0
  | t :: ts => max t.depth (Tm.depths ts)
end
mutual
def Tm.all (p : Hd → Prop) : Tm → Prop
  | .mk h ts => p h ∧ Tm.alls p ts
def Tm.alls (p : Hd → Prop) : List Tm → Prop
  | [] => True
  | t :: ts => t.all p ∧ Tm.alls p ts
end
mutual
theorem Tm.depth_le : ∀ t : Tm, t.depth ≤ t.size
  | .mk _ ts => by unfold Tm.depth Tm.size; have := Tm.depths_le ts; omega
theorem Tm.depths_le : ∀ ts : List Tm, Tm.depths ts ≤ Tm.sizes ts
  | [] => Nat.le_refl _
  | t :: ts => by unfold Tm.depths Tm.sizes; have := Tm.depth_le t; have := Tm.depths_le ts; omega
end
theorem Tm.d_mk (h : Hd) (ts : List Tm) : (Tm.mk h ts).d = .tup [h.d, .tup (Tm.ds ts)] := by rw [Tm.d]
theorem Tm.ds_nil : Tm.ds [] = [] := by rw [Tm.ds]
theorem Tm.ds_cons (t : Tm) (ts : List Tm) : Tm.ds (t :: ts) = t.d :: Tm.ds ts := by rw [Tm.ds]
theorem Tm.ds_map : ∀ ts : List Tm, Tm.ds ts = ts.map Tm.d
  | [] => by rw [Tm.ds]; rfl
  | t :: ts => by rw [Tm.ds, Tm.ds_map ts]; rfl
theorem Tm.ds_app (xs ys : List Tm) : Tm.ds (xs ++ ys) = Tm.ds xs ++ Tm.ds ys := by rw [Tm.ds_map, Tm.ds_map, Tm.ds_map, List.map_append]
theorem Tm.size_mk (h : Hd) (ts : List Tm) : (Tm.mk h ts).size = Tm.sizes ts + 1 := by rw [Tm.size]
theorem Tm.sizes_nil : Tm.sizes [] = 0 := by rw [Tm.sizes]
theorem Tm.sizes_cons (t : Tm) (ts : List Tm) : Tm.sizes (t :: ts) = t.size + Tm.sizes ts := by rw [Tm.sizes]
theorem Tm.sizes_app : ∀ xs ys : List Tm, Tm.sizes (xs ++ ys) = Tm.sizes xs + Tm.sizes ys
  | [], ys => by rw [Tm.sizes_nil]; simp
  | x :: xs, ys => by rw [List.cons_append, Tm.sizes_cons, Tm.sizes_cons, Tm.sizes_app xs ys]; omega
theorem Tm.depth_mk (h : Hd) (ts : List Tm) : (Tm.mk h ts).depth = Tm.depths ts + 1 := by rw [Tm.depth]
theorem Tm.depths_cons (t : Tm) (ts : List Tm) : Tm.depths (t :: ts) = max t.depth (Tm.depths ts) := by rw [Tm.depths]
theorem Tm.all_mk (p : Hd → Prop) (h : Hd) (ts : List Tm) : (Tm.mk h ts).all p = (p h ∧ Tm.alls p ts) := by rw [Tm.all]
theorem Tm.alls_nil (p : Hd → Prop) : Tm.alls p [] := by rw [Tm.alls]; trivial
theorem Tm.alls_cons (p : Hd → Prop) (t : Tm) (ts : List Tm) : Tm.alls p (t :: ts) = (t.all p ∧ Tm.alls p ts) := by rw [Tm.alls]
theorem Tm.alls_iff {p : Hd → Prop} : ∀ {ts : List Tm}, Tm.alls p ts ↔ ∀ t ∈ ts, t.all p
  | [] => by simp [Tm.alls_nil]
  | t :: ts => by rw [Tm.alls_cons, Tm.alls_iff]; simp
theorem Tm.alls_app {p : Hd → Prop} {xs ys : List Tm} (h : Tm.alls p xs) (h' : Tm.alls p ys) : Tm.alls p (xs ++ ys) := by
  rw [Tm.alls_iff] at *
  intro t ht
  rcases List.mem_append.mp ht with z | z
  · exact h t z
  · exact h' t z
theorem Tm.size_pos (t : Tm) : 1 ≤ t.size := by cases t; rw [Tm.size_mk]; omega
theorem Tm.len_sizes : ∀ ts : List Tm, ts.length ≤ Tm.sizes ts
  | [] => Nat.zero_le _
  | t :: ts => by rw [Tm.sizes_cons, List.length_cons]; have := Tm.len_sizes ts; have := t.size_pos; omega
theorem Tm.size_mem : ∀ {ts : List Tm} {t : Tm}, t ∈ ts → t.size ≤ Tm.sizes ts
  | x :: xs, t, h => by
    rw [Tm.sizes_cons]
    rcases List.mem_cons.mp h with rfl | h
    · omega
    · have := Tm.size_mem h; omega
theorem Tm.depth_mem : ∀ {ts : List Tm} {t : Tm}, t ∈ ts → t.depth ≤ Tm.depths ts
  | x :: xs, t, h => by
    rw [Tm.depths_cons]
    rcases List.mem_cons.mp h with rfl | h
    · omega
    · have := Tm.depth_mem h; omega
theorem Hd.noa (h : Hd) : noa h.d = true := by cases h <;> rfl
mutual
theorem Tm.noa : ∀ t : Tm, Mi.noa t.d = true
  | .mk h ts => by rw [Tm.d_mk]; simp [Mi.noa, Mi.noas, Hd.noa, Tm.noas ts]
theorem Tm.noas : ∀ ts : List Tm, Mi.noas (Tm.ds ts) = true
  | [] => by rw [Tm.ds]; rfl
  | t :: ts => by rw [Tm.ds]; simp [Mi.noas, Tm.noa t, Tm.noas ts]
end
/-! ### data that the law compares -/
mutual
def plain : D → Bool
  | .int _ => true
  | .str _ => true
  | .non => true
  | .tup xs => plains xs && decide (xs.length ≤ sizeLine)
  | _ => false
def plains : List D → Bool
  | [] => true
  | x :: xs => plain x && plains xs
end
theorem plains_mem : ∀ {xs : List D} {x : D}, plains xs = true → x ∈ xs → plain x = true
  | y :: ys, x, h, hm => by
    unfold plains at h
    rw [Bool.and_eq_true] at h
    rcases List.mem_cons.mp hm with rfl | hm
    · exact h.1
    · exact plains_mem h.2 hm
theorem deps_mem : ∀ {xs : List D} {x : D}, x ∈ xs → dep x ≤ deps xs
  | y :: ys, x, hm => by
    unfold deps
    rcases List.mem_cons.mp hm with rfl | hm
    · omega
    · have := deps_mem hm; omega
theorem Hd.plain (h : Hd) : plain h.d = true := by cases h <;> rfl
theorem Hd.pur (h : Hd) : pur h.d = true := by cases h <;> rfl
theorem Hd.dep (h : Hd) : dep h.d = 0 := by cases h <;> simp [Hd.d, Mi.dep]
mutual
theorem Tm.plain : ∀ t : Tm, t.size ≤ sizeLine → Mi.plain t.d = true
  | .mk h ts, hs => by
    rw [Tm.size_mk] at hs
    rw [Tm.d_mk]
    have l : (Tm.ds ts).length ≤ sizeLine := by rw [Tm.ds_map, List.length_map]; have := Tm.len_sizes ts; omega
    have z := Tm.plains ts (by omega)
    simp only [Mi.plain, Mi.plains, Hd.plain, z, decide_eq_true l, Bool.and_true, Bool.true_and]
    exact decide_eq_true (show 2 ≤ sizeLine by decide)
theorem Tm.plains : ∀ ts : List Tm, Tm.sizes ts ≤ sizeLine → Mi.plains (Tm.ds ts) = true
  | [], _ => by rw [Tm.ds]; rfl
  | t :: ts, hs => by
    rw [Tm.sizes_cons] at hs
    rw [Tm.ds]
    simp only [Mi.plains, Tm.plain t (by omega), Tm.plains ts (by omega), Bool.and_true]
end
mutual
theorem Tm.pur : ∀ t : Tm, Mi.pur t.d = true
  | .mk h ts => by rw [Tm.d_mk]; simp [Mi.pur, Mi.purs, Hd.pur, Tm.purs ts]
theorem Tm.purs : ∀ ts : List Tm, Mi.purs (Tm.ds ts) = true
  | [] => by rw [Tm.ds]; rfl
  | t :: ts => by rw [Tm.ds]; simp [Mi.purs, Tm.pur t, Tm.purs ts]
end
mutual
theorem Tm.dep : ∀ t : Tm, Mi.dep t.d ≤ 2 * t.depth
  | .mk h ts => by
    rw [Tm.d_mk, Tm.depth_mk]
    have := Tm.deps ts
    unfold Mi.dep Mi.deps Mi.deps Mi.deps
    rw [Hd.dep]
    unfold Mi.dep
    omega
theorem Tm.deps : ∀ ts : List Tm, Mi.deps (Tm.ds ts) ≤ 2 * Tm.depths ts
  | [] => by rw [Tm.ds]; unfold Mi.deps; omega
  | t :: ts => by
    rw [Tm.ds, Tm.depths_cons]
    unfold Mi.deps
    have := Tm.dep t
    have := Tm.deps ts
    omega
end
/-- an equality of data is an equality -/
theorem eqD_int (i j : Int) : eqD (.int i) (.int j) = decide (i = j) := by rw [eqD]; by_cases h : i = j <;> simp [h]
theorem eqD_str (i j : Str) : eqD (.str i) (.str j) = decide (i = j) := by rw [eqD]; by_cases h : i = j <;> simp [h]
theorem eqD_hd (g h : Hd) : eqD g.d h.d = decide (g = h) := by
  cases g <;> cases h <;> simp only [Hd.d]
  · rw [eqD_int]; simp
  · simp [eqD]
  · simp [eqD]
  · rw [eqD_str]; simp
/-! ### heads that are drawn -/
def lowS : List Nat := (("abcdefghijklmnopqrstuvwxyz" : Str)).cps.toList
def uppS : List Nat := (("ABCDEFGHIJKLMNOPQRSTUVWXYZ" : Str)).cps.toList
def chrS : List Nat := (("abcdefghijklmnopqrstuvwxyzABCDEFGHIJKLMNOPQRSTUVWXYZ0123456789" : Str)).cps.toList
def NmOk (large : Bool) (x : Str) : Prop := ∃ c cs, x = ⟨(c :: cs).toArray⟩ ∧ cs.length ≤ 11 ∧ c ∈ (if large = true then uppS else lowS) ∧ ∀ d ∈ cs, d ∈ chrS
def HdOk : Hd → Prop
  | .i n => 0 ≤ n ∧ n ≤ 9999
  | .s x => ∃ l, NmOk l x
theorem upper_small : Txt.upper "abcdefghijklmnopqrstuvwxyz" = "ABCDEFGHIJKLMNOPQRSTUVWXYZ" := by decide +kernel
theorem str_app (a b : Str) : (a ++ b).cps.toList = a.cps.toList ++ b.cps.toList := by
  show (Str.append a b).cps.toList = _
  unfold Str.append
  simp
theorem str_ext {a b : Str} (h : a.cps.toList = b.cps.toList) : a = b := by
  cases a; cases b
  congr 1
  exact Array.toList_inj.mp h
structure Pool (a q : Nat) (hs : List Hd) (st : Store) : Prop where
  at_ : lstAt st q = some (hs.map Hd.d)
  ne : q ≠ a
  pos : 1 ≤ hs.length
  le : hs.length ≤ 1000
  ok : ∀ h ∈ hs, HdOk h
theorem Pool.dr {a q : Nat} {hs : List Hd} {st st' : Store} {b : Int} (p : Pool a q hs st) (d : Dr a st st' b) : Pool a q hs st' := ⟨d.lst p.at_ p.ne, p.ne, p.pos, p.le, p.ok⟩
theorem Pool.old {a q : Nat} {hs : List Hd} {st st' : Store} (p : Pool a q hs st) (d : Old st st') : Pool a q hs st' := ⟨d.lst p.at_, p.ne, p.pos, p.le, p.ok⟩
theorem Pool.lt {a q : Nat} {hs : List Hd} {st : Store} (p : Pool a q hs st) : q < st.length := lst_lt p.at_
end
end Mi

namespace Mi
open PySem PySem.Spec PyProof.Rows L2
noncomputable section
open Classical
/-! ### what kind of thing it is -/
section
variable {st : Store} {xs : List D} {i : Int} {s : Str} {b : Bool}
theorem is_tup_tup : isT .tuple (.tup xs) st = some true := by show kitB "tuple" "tuple" = _; decide +kernel
theorem is_tup_int : isT .tuple (.int i) st = some false := by show kitB "int" "tuple" = _; decide +kernel
theorem is_tup_str : isT .tuple (.str s) st = some false := by show kitB "str" "tuple" = _; decide +kernel
theorem is_int_int : isT .int (.int i) st = some true := by show kitB "int" "int" = _; decide +kernel
theorem is_int_str : isT .int (.str s) st = some false := by show kitB "str" "int" = _; decide +kernel
theorem is_str_int : isT .str (.int i) st = some false := by show kitB "int" "str" = _; decide +kernel
theorem is_str_str : isT .str (.str s) st = some true := by show kitB "str" "str" = _; decide +kernel
theorem is_bool_int : isT .bool (.int i) st = some false := by show kitB "int" "bool" = _; decide +kernel
end
def Hd.isI : Hd → Bool
  | .i _ => true
  | .s _ => false
theorem is_int_hd {st : Store} (h : Hd) : isT .int h.d st = some h.isI := by cases h; exact is_int_int; exact is_int_str
theorem is_str_hd {st : Store} (h : Hd) : isT .str h.d st = some (!h.isI) := by cases h; exact is_str_int; exact is_str_str
/-! ### the heads -/
mutual
def Tm.hds : Tm → List Hd
  | .mk h ts => h :: Tm.hdss ts
def Tm.hdss : List Tm → List Hd
  | [] => []
  | t :: ts => t.hds ++ Tm.hdss ts
end
theorem Tm.hds_mk (h : Hd) (ts : List Tm) : (Tm.mk h ts).hds = h :: Tm.hdss ts := by rw [Tm.hds]
theorem Tm.hdss_nil : Tm.hdss [] = [] := by rw [Tm.hdss]
theorem Tm.hdss_cons (t : Tm) (ts : List Tm) : Tm.hdss (t :: ts) = t.hds ++ Tm.hdss ts := by rw [Tm.hdss]
theorem Tm.hdss_app : ∀ xs ys : List Tm, Tm.hdss (xs ++ ys) = Tm.hdss xs ++ Tm.hdss ys
  | [], ys => by rw [Tm.hdss_nil]; rfl
  | x :: xs, ys => by rw [List.cons_append, Tm.hdss_cons, Tm.hdss_cons, Tm.hdss_app xs ys, List.append_assoc]
mutual
theorem Tm.hds_len : ∀ t : Tm, t.hds.length = t.size
  | .mk h ts => by rw [Tm.hds_mk, Tm.size_mk, List.length_cons, Tm.hdss_len ts]
theorem Tm.hdss_len : ∀ ts : List Tm, (Tm.hdss ts).length = Tm.sizes ts
  | [] => by rw [Tm.hdss_nil, Tm.sizes_nil]; rfl
  | t :: ts => by rw [Tm.hdss_cons, Tm.sizes_cons, List.length_append, Tm.hds_len t, Tm.hdss_len ts]
end
def onceH : List Hd → List Hd → List Hd
  | acc, [] => acc
  | acc, h :: hs => if h ∈ acc then onceH acc hs else onceH (acc ++ [h]) hs
theorem onceH_len : ∀ hs acc : List Hd, (onceH acc hs).length ≤ acc.length + hs.length
  | [], acc => by rw [onceH]; simp
  | h :: hs, acc => by
    rw [onceH]
    split
    · have := onceH_len hs acc; simp; omega
    · have := onceH_len hs (acc ++ [h]); simp at this ⊢; omega
theorem purs_hd : ∀ hs : List Hd, purs (hs.map Hd.d) = true
  | [] => rfl
  | h :: hs => by rw [List.map_cons, purs, Hd.pur, purs_hd hs]; rfl
theorem noas_hd : ∀ hs : List Hd, noas (hs.map Hd.d) = true
  | [] => rfl
  | h :: hs => by rw [List.map_cons, noas, Hd.noa, noas_hd hs]; rfl
theorem any_hd (h : Hd) : ∀ hs : List Hd, ((hs.map Hd.d).any fun y => eqD y h.d) = decide (h ∈ hs)
  | [] => by simp
  | x :: xs => by
    rw [List.map_cons, List.any_cons, any_hd h xs, eqD_hd]
    by_cases e : x = h
    · simp [e]
    · have : ¬ h = x := fun z => e z.symm
      simp [e, this]
theorem any_hdN (h : Hd) (hs : List Hd) : ((hs.map Hd.d).any fun y => eqD y h.d) = decide (h ∈ hs) := any_hd h hs
theorem lst_no_dct {st : Store} {n : Nat} {xs : List D} (h : lstAt st n = some xs) : dctAt st n = none := by
  rw [lstAt_iff] at h
  unfold dctAt
  rw [h]
theorem dct_no_lst {st : Store} {n : Nat} {xs : List (Key × D)} (h : dctAt st n = some xs) : lstAt st n = none := by
  rw [dctAt_iff] at h
  unfold lstAt
  rw [h]
theorem inO_lst {st : Store} {n : Nat} {ys : List D} {a : D} (h : lstAt st n = some ys) (pa : pur a = true) (py : purs ys = true) (da : dep a < deepLine) : inO a (.adr n) st = some (ys.any fun y => eqD y a) := by
  unfold inO
  dsimp only
  rw [lst_no_dct h]
  dsimp only
  rw [h]
  dsimp only
  rw [if_pos ⟨pa, py, da⟩]
theorem in_hd {st : Store} {n : Nat} {hs : List Hd} (h : Hd) (e : lstAt st n = some (hs.map Hd.d)) : opIn h.d (.adr n) st = some (.bl (decide (h ∈ hs)), st) := by
  unfold opIn
  rw [inO_lst e h.pur (purs_hd hs) (by rw [Hd.dep]; decide), any_hd]
  rfl
theorem nin_hd {st : Store} {n : Nat} {hs : List Hd} (h : Hd) (e : lstAt st n = some (hs.map Hd.d)) : opNotIn h.d (.adr n) st = some (.bl (!decide (h ∈ hs)), st) := by
  unfold opNotIn
  rw [inO_lst e h.pur (purs_hd hs) (by rw [Hd.dep]; decide), any_hd]
  rfl
theorem nin_dct {st : Store} {n : Nat} {kvs : List (Key × D)} {a : D} {k : Key} (e : dctAt st n = some kvs) (hk : keyD a = some k) : opNotIn a (.adr n) st = some (.bl (!(lookD kvs k).isSome), st) := by
  unfold opNotIn inO
  dsimp only
  rw [e]
  dsimp only
  rw [hk]
  rfl
theorem ix_dct {st : Store} {n : Nat} {kvs : List (Key × D)} {i : Int} {d : D} (e : dctAt st n = some kvs) (h : lookD kvs (.inl i) = some d) : opIx (.adr n) (.int i) st = some (d, st) := by
  unfold opIx
  dsimp only [seqOf, seqL]
  rw [dct_no_lst e]
  dsimp only
  rw [e]
  dsimp only
  rw [h]
  rfl
/-! ### equal data -/
theorem ne_refl {d : D} {st : Store} (hp : pur d = true) (hd : dep d ≤ deepLine) : opNe d d st = some (.bl false, st) := by
  have e : eqO d d st = some true := by
    unfold eqO
    cases d with
    | adr n => rw [pur] at hp; cases hp
    | _ =>
      dsimp only
      rw [if_pos ⟨hp, hp, by simpa using hd⟩, eqD_refl _ hp]
  unfold opNe
  rw [e]
  rfl
theorem len_ne {n : Int} {st : Store} : opNe (.int n) (.int n) st = some (.bl false, st) := by rw [Mi.ne_int]; simp
/-! ### parts put in -/
abbrev Pts := List (Int × Tm)
def ptD (p : Int × Tm) : D := .tup [.int p.1, p.2.d]
def ptsD (ps : Pts) : D := .tup (ps.map ptD)
def atP (ps : Pts) (n : Int) : Option Tm := (ps.find? fun p => decide (p.1 = n)).map (·.2)
def putHd (ps : Pts) (h : Hd) (us : List Tm) : Tm := match h with
  | .i n => match atP ps n with
    | some (.mk g vs) => .mk g (vs ++ us)
    | none => .mk (.i n) us
  | .s x => .mk (.s x) us
mutual
def Tm.put (ps : Pts) : Tm → Tm
  | .mk h ts => putHd ps h (Tm.puts ps ts)
def Tm.puts (ps : Pts) : List Tm → List Tm
  | [] => []
  | t :: ts => t.put ps :: Tm.puts ps ts
end
theorem Tm.put_mk (ps : Pts) (h : Hd) (ts : List Tm) : (Tm.mk h ts).put ps = putHd ps h (Tm.puts ps ts) := by rw [Tm.put]
theorem Tm.puts_nil (ps : Pts) : Tm.puts ps [] = [] := by rw [Tm.puts]
theorem Tm.puts_cons (ps : Pts) (t : Tm) (ts : List Tm) : Tm.puts ps (t :: ts) = t.put ps :: Tm.puts ps ts := by rw [Tm.puts]
theorem Tm.puts_map (ps : Pts) : ∀ ts : List Tm, Tm.puts ps ts = ts.map (Tm.put ps)
  | [] => by rw [Tm.puts]; rfl
  | t :: ts => by rw [Tm.puts, Tm.puts_map ps ts]; rfl
mutual
theorem Tm.put_nil : ∀ t : Tm, t.put [] = t
  | .mk h ts => by rw [Tm.put_mk, Tm.puts_nil' ts]; cases h <;> rfl
theorem Tm.puts_nil' : ∀ ts : List Tm, Tm.puts [] ts = ts
  | [] => by rw [Tm.puts]
  | t :: ts => by rw [Tm.puts, Tm.put_nil t, Tm.puts_nil' ts]
end
theorem atP_mem {ps : Pts} {n : Int} {t : Tm} (h : atP ps n = some t) : ∃ p ∈ ps, p.2 = t := by
  unfold atP at h
  obtain ⟨p, e1, e2⟩ := Option.map_eq_some_iff.mp h
  exact ⟨p, List.mem_of_find?_eq_some e1, e2⟩
theorem putHd_size {ps : Pts} {M : Nat} (hM : 1 ≤ M) (hp : ∀ p ∈ ps, p.2.size ≤ M) (h : Hd) (us : List Tm) : (putHd ps h us).size ≤ M + Tm.sizes us := by
  unfold putHd
  cases h with
  | s x => rw [Tm.size_mk]; omega
  | i n =>
    dsimp only
    split
    · rename_i g vs e
      obtain ⟨p, hm, e2⟩ := atP_mem e
      have := hp p hm
      rw [e2, Tm.size_mk] at this
      rw [Tm.size_mk, Tm.sizes_app]
      omega
    · rw [Tm.size_mk]; omega
mutual
theorem Tm.put_size {ps : Pts} {M : Nat} (hM : 1 ≤ M) (hp : ∀ p ∈ ps, p.2.size ≤ M) : ∀ t : Tm, (t.put ps).size ≤ M * t.size
  | .mk h ts => by
    rw [Tm.put_mk, Tm.size_mk, Nat.mul_add, Nat.mul_one]
    have := putHd_size hM hp h (Tm.puts ps ts)
    have := Tm.puts_size hM hp ts
    omega
theorem Tm.puts_size {ps : Pts} {M : Nat} (hM : 1 ≤ M) (hp : ∀ p ∈ ps, p.2.size ≤ M) : ∀ ts : List Tm, Tm.sizes (Tm.puts ps ts) ≤ M * Tm.sizes ts
  | [] => by rw [Tm.puts_nil, Tm.sizes_nil]; omega
  | t :: ts => by
    rw [Tm.puts_cons, Tm.sizes_cons, Tm.sizes_cons, Nat.mul_add]
    have := Tm.put_size hM hp t
    have := Tm.puts_size hM hp ts
    omega
end
theorem Tm.depths_app : ∀ xs ys : List Tm, Tm.depths (xs ++ ys) = max (Tm.depths xs) (Tm.depths ys)
  | [], ys => by rw [Tm.depths]; simp
  | x :: xs, ys => by rw [List.cons_append, Tm.depths_cons, Tm.depths_cons, Tm.depths_app xs ys]; omega
theorem putHd_depth {ps : Pts} {M : Nat} (hM : 1 ≤ M) (hp : ∀ p ∈ ps, p.2.depth ≤ M) (h : Hd) (us : List Tm) : (putHd ps h us).depth ≤ max M (Tm.depths us + 1) := by
  unfold putHd
  cases h with
  | s x => rw [Tm.depth_mk]; omega
  | i n =>
    dsimp only
    split
    · rename_i g vs e
      obtain ⟨p, hm, e2⟩ := atP_mem e
      have := hp p hm
      rw [e2, Tm.depth_mk] at this
      rw [Tm.depth_mk, Tm.depths_app]
      omega
    · rw [Tm.depth_mk]; omega
mutual
theorem Tm.put_depth {ps : Pts} {M : Nat} (hM : 1 ≤ M) (hp : ∀ p ∈ ps, p.2.depth ≤ M) : ∀ t : Tm, (t.put ps).depth ≤ M + t.depth
  | .mk h ts => by
    rw [Tm.put_mk, Tm.depth_mk]
    have := putHd_depth hM hp h (Tm.puts ps ts)
    have := Tm.puts_depth hM hp ts
    omega
theorem Tm.puts_depth {ps : Pts} {M : Nat} (hM : 1 ≤ M) (hp : ∀ p ∈ ps, p.2.depth ≤ M) : ∀ ts : List Tm, Tm.depths (Tm.puts ps ts) ≤ M + Tm.depths ts
  | [] => by rw [Tm.puts_nil, Tm.depths]; omega
  | t :: ts => by
    rw [Tm.puts_cons, Tm.depths_cons, Tm.depths_cons]
    have := Tm.put_depth hM hp t
    have := Tm.puts_depth hM hp ts
    omega
end
/-- the dict of the parts -/
def ptsK (ps : Pts) : List (Key × D) := ps.map fun p => (.inl p.1, p.2.d)
theorem pairsK_pts : ∀ ps : Pts, pairsK (ps.map ptD) = some (ptsK ps)
  | [] => rfl
  | p :: ps => by
    rw [List.map_cons, pairsK, pairsK_pts ps]
    rfl
theorem look_pts (n : Int) : ∀ ps : Pts, lookD (ptsK ps) (.inl n) = (atP ps n).map Tm.d
  | [] => rfl
  | p :: ps => by
    have ih := look_pts n ps
    unfold ptsK atP at *
    rw [List.map_cons, List.find?_cons]
    by_cases e : p.1 = n
    · rw [lookD_pos (by simp [e])]
      simp [e]
    · rw [lookD_neg (by simpa using e), ih]
      simp [e]
theorem mergeD_dist : ∀ (more acc : List (Key × D)), (more.map (·.1)).Nodup → (∀ p ∈ more, ∀ q ∈ acc, q.1 ≠ p.1) → mergeD acc more = acc ++ more
  | [], acc, _, _ => by simp [mergeD]
  | p :: more, acc, hn, hd => by
    rw [List.map_cons, List.nodup_cons] at hn
    have e : putD acc p.1 p.2 = acc ++ [p] := by
      unfold putD
      rw [if_neg]
      simp only [List.any_eq_true, decide_eq_true_eq, not_exists, not_and]
      exact fun q hq => hd p (by simp) q hq
    have : mergeD acc (p :: more) = mergeD (putD acc p.1 p.2) more := rfl
    rw [this, e, mergeD_dist more (acc ++ [p]) hn.2 ?_, List.append_assoc]
    · rfl
    · intro x hx y hy
      rcases List.mem_append.mp hy with hy | hy
      · exact hd x (by simp [hx]) y hy
      · rw [List.mem_singleton] at hy
        subst hy
        exact fun z => hn.1 (z ▸ List.mem_map_of_mem hx)
theorem merge_pts {ps : Pts} (h : (ps.map (·.1)).Nodup) : mergeD [] (ptsK ps) = ptsK ps := by
  rw [mergeD_dist]
  · rfl
  · unfold ptsK
    rw [List.map_map]
    have : ((fun x : Key × D => x.1) ∘ fun p : Int × Tm => ((.inl p.1, p.2.d) : Key × D)) = fun p : Int × Tm => (Sum.inl p.1 : Key) := rfl
    rw [this]
    have h2 := h
    rw [List.nodup_iff_pairwise_ne, List.pairwise_map] at h2
    rw [List.nodup_iff_pairwise_ne, List.pairwise_map]
    exact h2.imp fun hne z => hne (by simpa using z)
  · intro p _ q hq
    cases hq
theorem dict_pts {ps : Pts} {st : Store} (h : (ps.map (·.1)).Nodup) : biDict [ptsD ps] st = some (.adr st.length, st ++ [.dct (ptsK ps)]) := by
  unfold biDict ptsD
  dsimp only
  rw [pairsK_pts]
  dsimp only
  rw [merge_pts h]
theorem dct_new {st : Store} {xs : List (Key × D)} : dctAt (st ++ [.dct xs]) st.length = some xs := dctAt_iff.mpr (by simp)
theorem dct_app {st g : Store} {n : Nat} {xs : List (Key × D)} (h : dctAt st n = some xs) : dctAt (st ++ g) n = some xs := by
  rw [dctAt_iff] at h ⊢
  rw [List.getElem?_append_left (List.getElem?_eq_some_iff.mp h).1]
  exact h
theorem cutD_drop {xs : List D} {k : Nat} (h : k ≤ xs.length) : cutD xs (some (k : Int)) none = xs.drop k := by
  unfold cutD
  rw [HT.sIx_nat, HT.sIx_none, Nat.min_eq_left h]
  exact List.take_of_length_le (by simp)
theorem cutD_take {xs : List D} {k : Nat} (h : k ≤ xs.length) : cutD xs none (some (k : Int)) = xs.take k := by
  unfold cutD
  rw [HT.sIx_nat, HT.sIx_none, Nat.min_eq_left h]
  simp
theorem ext_lst {n m : Nat} {xs ys : List D} {st : Store} (h : lstAt st n = some xs) (h' : lstAt st m = some ys) (hs : xs.length + ys.length ≤ sizeLine) : mdExtend (.adr n) [.adr m] st = some (.non, st.set n (.lst (xs ++ ys))) := by
  unfold mdExtend
  dsimp only
  rw [h, h']
  dsimp only
  rw [if_pos hs]
theorem ext_tup {n : Nat} {xs ys : List D} {st : Store} (h : lstAt st n = some xs) (hs : xs.length + ys.length ≤ sizeLine) : mdExtend (.adr n) [.tup ys] st = some (.non, st.set n (.lst (xs ++ ys))) := by
  unfold mdExtend
  dsimp only
  rw [h]
  dsimp only
  rw [if_pos hs]
theorem add_lst {n m : Nat} {xs ys : List D} {st : Store} (h : lstAt st n = some xs) (h' : lstAt st m = some ys) (hs : xs.length + ys.length ≤ sizeLine) : opAdd (.adr n) (.adr m) st = some (.adr st.length, st ++ [.lst (xs ++ ys)]) := by
  unfold opAdd
  dsimp only
  rw [h, h']
  dsimp only
  rw [if_pos hs]
theorem add_tup {xs ys : List D} {st : Store} (hs : xs.length + ys.length ≤ sizeLine) : opAdd (.tup xs) (.tup ys) st = some (.tup (xs ++ ys), st) := by
  unfold opAdd
  dsimp only
  rw [if_pos hs]
theorem src_tup {f : Ex} {env : MEnv} {st st' : Store} {xs : List D} (h : f env st = .ok (.tup xs) st') : srcSeq f env st = .ok (xs, none) st' := by
  unfold srcSeq
  rw [h]
  rfl
theorem src_lst {f : Ex} {env : MEnv} {st st' : Store} {n : Nat} {xs : List D} (h : f env st = .ok (.adr n) st') (e : lstAt st' n = some xs) : srcSeq f env st = .ok (xs, some n) st' := by
  unfold srcSeq
  rw [h]
  simp only [Rs.bind_ok]
  rw [e]
theorem bil_lst {n : Nat} {xs : List D} {st : Store} (h : lstAt st n = some xs) : biList [.adr n] st = some (.adr st.length, st ++ [.lst xs]) := by
  show (match lstAt st n with | some xs => _ | none => _) = _
  rw [h]
theorem eq_of_wp {x : Rs D} {d : D} {s : Store} (h : x.wp (fun a b => a = d ∧ b = s) NoX) : x = .ok d s := by
  obtain ⟨a, b, e, rfl, rfl⟩ := h.ok
  exact e
theorem len_of {d : D} {xs : List D} {st : Store} (h : seqOf st d = some xs) : biLen [d] st = some (.int (xs.length : Int), st) := by
  unfold biLen lenD
  dsimp only
  rw [h]
  rfl
theorem bil_dct {n : Nat} {kvs : List (Key × D)} {st : Store} (h : dctAt st n = some kvs) : biList [.adr n] st = some (.adr st.length, st ++ [.lst (kvs.map fun kv => kD kv.1)]) := by
  show (match lstAt st n with | some xs => _ | none => _) = _
  rw [dct_no_lst h]
  dsimp only
  rw [h]
  rfl
end
end Mi

namespace Mi
open PySem PySem.Spec PyProof.Rows L2
noncomputable section
open Classical
/-! ### the tape: [place, numbers, total] -/
def TpG (m n : Nat) (ns : List Int) (st : Store) : Prop := ∃ p t : Int, lstAt st m = some [.int p, .adr n, .int t] ∧ lstAt st n = some (ns.map D.int) ∧ 0 ≤ p ∧ m ≠ n
structure Dt (m n : Nat) (ns : List Int) (st st' : Store) : Prop where
  ot : ∀ i, i < st.length → i ≠ m → st'[i]? = st[i]?
  ok : TpG m n ns st'
  le : st.length ≤ st'.length
section
variable {m n : Nat} {ns : List Int} {st st' s1 s2 s3 : Store}
theorem TpG.lt (h : TpG m n ns st) : m < st.length := by obtain ⟨p, t, e, _⟩ := h; exact lst_lt e
theorem TpG.ltn (h : TpG m n ns st) : n < st.length := by obtain ⟨p, t, _, e, _⟩ := h; exact lst_lt e
theorem TpG.old (h : TpG m n ns st) (o : Old st st') : TpG m n ns st' := by obtain ⟨p, t, e, f, q⟩ := h; exact ⟨p, t, o.lst e, o.lst f, q⟩
theorem TpG.step (h : TpG m n ns st) : ∃ p t : Int, lstAt st m = some [.int p, .adr n, .int t] ∧ lstAt st n = some (ns.map D.int) ∧ 0 ≤ p ∧ TpG m n ns (st.set m (.lst [.int (p + 1), .adr n, .int t])) := by
  obtain ⟨p, t, e, f, q, ne⟩ := h
  exact ⟨p, t, e, f, q, p + 1, t, lst_set (lst_lt e), by rw [lst_set_ne ne]; exact f, by omega, ne⟩
theorem Dt.refl (h : TpG m n ns st) : Dt m n ns st st := ⟨fun _ _ _ => rfl, h, Nat.le_refl _⟩
theorem Dt.set {o : O} (h : TpG m n ns (st.set m o)) : Dt m n ns st (st.set m o) := ⟨fun i _ hne => List.getElem?_set_ne (Ne.symm hne), h, by simp⟩
theorem Dt.trans (h : Dt m n ns s1 s2) (h' : Dt m n ns s2 s3) : Dt m n ns s1 s3 := ⟨fun i hi hne => (h'.ot i (Nat.lt_of_lt_of_le hi h.le) hne).trans (h.ot i hi hne), h'.ok, Nat.le_trans h.le h'.le⟩
theorem Dt.old (h : Dt m n ns s1 s2) (o : Old s2 s3) : Dt m n ns s1 s3 := ⟨fun i hi hne => by
  obtain ⟨g, rfl⟩ := o
  rw [List.getElem?_append_left (Nat.lt_of_lt_of_le hi h.le)]
  exact h.ot i hi hne, h.ok.old o, Nat.le_trans h.le o.len⟩
theorem Dt.ofOld (h : TpG m n ns s1) (o : Old s1 s2) : Dt m n ns s1 s2 := (Dt.refl h).old o
theorem Dt.lst {i : Nat} {xs : List D} (h : Dt m n ns st st') (e : lstAt st i = some xs) (hn : i ≠ m) : lstAt st' i = some xs := by
  rw [lstAt_iff] at e ⊢
  rw [h.ot i (List.getElem?_eq_some_iff.mp e).1 hn, e]
theorem Dt.dct {i : Nat} {xs : List (Key × D)} (h : Dt m n ns st st') (e : dctAt st i = some xs) (hn : i ≠ m) : dctAt st' i = some xs := by
  rw [dctAt_iff] at e ⊢
  rw [h.ot i (List.getElem?_eq_some_iff.mp e).1 hn, e]
theorem Dt.loc {i : Nat} {o : O} (h : Dt m n ns st st') (g : TpG m n ns st) (hi : st.length ≤ i) : Dt m n ns st (st'.set i o) := by
  have h1 := g.lt
  have h2 := g.ltn
  refine ⟨fun j hj hne => ?_, ?_, by simpa using h.le⟩
  · rw [List.getElem?_set_ne (by omega)]
    exact h.ot j hj hne
  · obtain ⟨p, t, e, f, q⟩ := h.ok
    exact ⟨p, t, by rw [lst_set_ne (by omega)]; exact e, by rw [lst_set_ne (by omega)]; exact f, q⟩
theorem Dt.keep (h : Dt m n ns st st') (g : TpG m n ns st) : keepOk st st' := fun i hi => by
  by_cases e : i = m
  · subst e
    obtain ⟨p, t, e, q⟩ := h.ok
    refine .inr ⟨_, lstAt_iff.mp e, ?_⟩
    have := g.ltn
    simp [lowO, lowDs, lowD, this]
  · exact .inl (h.ot i hi e)
theorem Dt.cut (h : Dt m n ns st st') (g : TpG m n ns st) : Dt m n ns st (st'.take st.length) ∧ (st'.take st.length).length = st.length := by
  have hl : (st'.take st.length).length = st.length := by rw [List.length_take]; exact Nat.min_eq_left h.le
  have h1 := g.lt
  have h2 := g.ltn
  refine ⟨⟨fun i hi hne => ?_, ?_, by omega⟩, hl⟩
  · rw [List.getElem?_take_of_lt hi]
    exact h.ot i hi hne
  · obtain ⟨p, t, e, f, q⟩ := h.ok
    refine ⟨p, t, ?_, ?_, q⟩
    · rw [lstAt_iff] at e ⊢
      rw [List.getElem?_take_of_lt h1]
      exact e
    · rw [lstAt_iff] at f ⊢
      rw [List.getElem?_take_of_lt h2]
      exact f
theorem Dt.gc {d : D} (h : Dt m n ns st st') (g : TpG m n ns st) (hn : noa d = true) : ∃ s2, gcO st d st' = (d, s2) ∧ Dt m n ns st s2 ∧ s2.length = st.length := ⟨_, gc_pure (h.keep g) hn, (h.cut g).1, (h.cut g).2⟩
end
theorem atI_last {α : Type} (xs : List α) (x : α) : atI (xs ++ [x]) (-1) = some x := by
  unfold atI ixN
  rw [if_neg (by decide), if_pos (by simp; omega)]
  have : ((-1 : Int) + ((xs ++ [x]).length : Nat)).toNat = xs.length := by simp; omega
  simp only [Option.bind_some, this]
  simp
theorem cutD_init (xs : List D) (x : D) : cutD (xs ++ [x]) none (some (-1)) = xs := by
  unfold cutD
  have e : HT.sIx (xs ++ [x]).length (xs ++ [x]).length (some (-1)) = xs.length := by
    show (if ((-1 : Int)) < 0 then ((-1 : Int) + ((xs ++ [x]).length : Int)).toNat else min ((-1 : Int)).toNat (xs ++ [x]).length) = _
    rw [if_pos (by decide)]
    simp
    omega
  rw [e, HT.sIx_none]
  simp
end
end Mi

namespace Mi
open PySem PySem.Spec PyProof.Rows L2
noncomputable section
open Classical
/-! ### == of terms -/
mutual
theorem eqD_tm : ∀ t s : Tm, eqD t.d s.d = decide (t = s)
  | .mk g ts, .mk h ss => by
    rw [Tm.d_mk, Tm.d_mk, eqD_tup, eqDs_cons, eqDs_cons, eqDs_nil, eqD_hd, eqD_tup, eqD_tms ts ss]
    simp
theorem eqD_tms : ∀ ts ss : List Tm, eqDs (Tm.ds ts) (Tm.ds ss) = decide (ts = ss)
  | [], [] => by rw [Tm.ds_nil, eqDs_nil]; simp
  | [], s :: ss => by rw [Tm.ds_nil, Tm.ds_cons, eqDs_nil_cons]; simp
  | t :: ts, [] => by rw [Tm.ds_nil, Tm.ds_cons, eqDs_cons_nil]; simp
  | t :: ts, s :: ss => by
    rw [Tm.ds_cons, Tm.ds_cons, eqDs_cons, eqD_tm t s, eqD_tms ts ss]
    simp
end
theorem eq_tm {t s : Tm} {st : Store} (h : t.size ≤ 700) : opEq t.d s.d st = some (.bl (decide (t = s)), st) := by
  have h1 := Tm.dep t
  have h2 := Tm.depth_le t
  cases t with
  | mk g ts =>
    cases s with
    | mk g2 ss =>
      have e := eqD_tm (.mk g ts) (.mk g2 ss)
      have p1 := Tm.pur (.mk g ts)
      have p2 := Tm.pur (.mk g2 ss)
      rw [Tm.d_mk] at h1 e p1 ⊢
      rw [Tm.d_mk] at e p2 ⊢
      unfold opEq eqO
      dsimp only
      rw [if_pos ⟨p1, p2, by unfold deepLine; omega⟩, e]
      rfl
/-! ### applications -/
def Tm.snoc : Tm → Tm → Tm
  | .mk h ts, x => .mk h (ts ++ [x])
theorem putHd_snoc (F : Pts) (h : Hd) (us : List Tm) (x : Tm) : putHd F h (us ++ [x]) = (putHd F h us).snoc x := by
  unfold putHd
  cases h with
  | s y => rfl
  | i n =>
    dsimp only
    split
    · show Tm.mk _ _ = Tm.mk _ _
      rw [List.append_assoc]
    · rfl
theorem Tm.puts_app (F : Pts) (xs ys : List Tm) : Tm.puts F (xs ++ ys) = Tm.puts F xs ++ Tm.puts F ys := by rw [Tm.puts_map, Tm.puts_map, Tm.puts_map, List.map_append]
theorem put_snoc (F : Pts) (h : Hd) (ts : List Tm) (x : Tm) : (Tm.mk h (ts ++ [x])).put F = ((Tm.mk h ts).put F).snoc (x.put F) := by
  rw [Tm.put_mk, Tm.put_mk, Tm.puts_app, Tm.puts_cons, Tm.puts_nil, putHd_snoc]
/- an unknown that stands there -/
mutual
def Tm.has (v : Int) : Tm → Prop
  | .mk h ts => h = .i v ∨ Tm.hass v ts
def Tm.hass (v : Int) : List Tm → Prop
  | [] => False
  | t :: ts => t.has v ∨ Tm.hass v ts
end
theorem Tm.has_mk (v : Int) (h : Hd) (ts : List Tm) : (Tm.mk h ts).has v = (h = .i v ∨ Tm.hass v ts) := by rw [Tm.has]
theorem Tm.hass_nil (v : Int) : Tm.hass v [] = False := by rw [Tm.hass]
theorem Tm.hass_cons (v : Int) (t : Tm) (ts : List Tm) : Tm.hass v (t :: ts) = (t.has v ∨ Tm.hass v ts) := by rw [Tm.hass]
theorem Tm.hass_app (v : Int) : ∀ xs ys : List Tm, Tm.hass v (xs ++ ys) ↔ Tm.hass v xs ∨ Tm.hass v ys
  | [], ys => by rw [Tm.hass_nil]; simp
  | x :: xs, ys => by rw [List.cons_append, Tm.hass_cons, Tm.hass_cons, Tm.hass_app v xs ys, or_assoc]
mutual
theorem Tm.has_hds (v : Int) : ∀ t : Tm, t.has v ↔ Hd.i v ∈ t.hds
  | .mk h ts => by
    rw [Tm.has_mk, Tm.hds_mk, List.mem_cons, Tm.hass_hdss v ts]
    exact ⟨fun z => z.imp Eq.symm id, fun z => z.imp Eq.symm id⟩
theorem Tm.hass_hdss (v : Int) : ∀ ts : List Tm, Tm.hass v ts ↔ Hd.i v ∈ Tm.hdss ts
  | [] => by rw [Tm.hass_nil, Tm.hdss_nil]; simp
  | t :: ts => by rw [Tm.hass_cons, Tm.hdss_cons, List.mem_append, Tm.has_hds v t, Tm.hass_hdss v ts]
end
mutual
theorem Tm.put_agree {F G : Pts} : ∀ t : Tm, (∀ v, t.has v → atP F v = atP G v) → t.put F = t.put G
  | .mk h ts, a => by
    rw [Tm.put_mk, Tm.put_mk, Tm.puts_agree ts fun v hv => a v (by rw [Tm.has_mk]; exact .inr hv)]
    unfold putHd
    cases h with
    | s x => rfl
    | i n => dsimp only; rw [a n (by rw [Tm.has_mk]; exact .inl rfl)]
theorem Tm.puts_agree {F G : Pts} : ∀ ts : List Tm, (∀ v, Tm.hass v ts → atP F v = atP G v) → Tm.puts F ts = Tm.puts G ts
  | [], _ => by rw [Tm.puts_nil, Tm.puts_nil]
  | t :: ts, a => by
    rw [Tm.puts_cons, Tm.puts_cons, Tm.put_agree t fun v hv => a v (by rw [Tm.hass_cons]; exact .inl hv), Tm.puts_agree ts fun v hv => a v (by rw [Tm.hass_cons]; exact .inr hv)]
end
/- each for itself -/
mutual
theorem Tm.put_self {F : Pts} : ∀ t : Tm, (∀ v x, atP F v = some x → x = .mk (.i v) []) → t.put F = t
  | .mk h ts, a => by
    rw [Tm.put_mk, Tm.puts_self ts a]
    unfold putHd
    cases h with
    | s x => rfl
    | i n =>
      dsimp only
      split
      · rename_i g vs e
        have := a n _ e
        cases this
        rfl
      · rfl
theorem Tm.puts_self {F : Pts} : ∀ ts : List Tm, (∀ v x, atP F v = some x → x = .mk (.i v) []) → Tm.puts F ts = ts
  | [], _ => by rw [Tm.puts_nil]
  | t :: ts, a => by rw [Tm.puts_cons, Tm.put_self t a, Tm.puts_self ts a]
end
/-- what is found stays -/
def PLe (F G : Pts) : Prop := ∀ v x, atP F v = some x → atP G v = some x
theorem PLe.refl (F : Pts) : PLe F F := fun _ _ h => h
theorem PLe.trans {F G L : Pts} (h : PLe F G) (h' : PLe G L) : PLe F L := fun v x e => h' v x (h v x e)
theorem atP_app (F : Pts) (v : Int) (x : Tm) (u : Int) : atP (F ++ [(v, x)]) u = match atP F u with
    | some y => some y
    | none => if v = u then some x else none := by
  unfold atP
  rw [List.find?_append]
  cases e : F.find? fun p => decide (p.1 = u) with
  | some p => simp
  | none =>
    by_cases h : v = u <;> simp [h]
theorem putD_pts {F : Pts} {v : Int} {x : Tm} (h : atP F v = none) : putD (ptsK F) (.inl v) x.d = ptsK (F ++ [(v, x)]) := by
  unfold putD
  rw [if_neg]
  · unfold ptsK; simp
  · simp only [List.any_eq_true, decide_eq_true_eq, not_exists, not_and]
    intro p hp
    unfold ptsK at hp
    obtain ⟨q, hq, rfl⟩ := List.mem_map.mp hp
    unfold atP at h
    rw [Option.map_eq_none_iff, List.find?_eq_none] at h
    have := h q hq
    simpa using this
theorem in_dct {st : Store} {n : Nat} {kvs : List (Key × D)} {a : D} {k : Key} (e : dctAt st n = some kvs) (hk : keyD a = some k) : opIn a (.adr n) st = some (.bl (lookD kvs k).isSome, st) := by
  unfold opIn inO
  dsimp only
  rw [e]
  dsimp only
  rw [hk]
  rfl
theorem put_dct {st : Store} {n : Nat} {kvs : List (Key × D)} {i : Int} {d : D} (e : dctAt st n = some kvs) (hz : kvs.length < sizeLine) : putAt (.adr n) (.int i) d st = some (st.set n (.dct (putD kvs (.inl i) d))) := by
  unfold putAt
  dsimp only
  rw [dct_no_lst e]
  dsimp only
  rw [e]
  dsimp only
  rw [if_pos hz]
end
end Mi

namespace Mi
open PySem PySem.Spec PyProof.Rows L2
noncomputable section
open Classical
variable {X : Cx}
/-! ### all, any of a list of bools -/
def blsD : List D → Option (List Bool)
  | [] => some []
  | .bl b :: xs => (blsD xs).map (b :: ·)
  | _ => none
theorem blsD_rel {K : PySem.W.Frag} {H : Hp} {r : List Addr} : ∀ {ds : List D} {bs : List Bool} {vs : List V}, blsD ds = some bs → RpL K H r ds vs → vs = bs.map V.bl
  | [], bs, vs, e, h => by
    cases e
    exact RpL.nil_iff.mp h
  | d :: ds, bs, vs, e, h => by
    obtain ⟨v, ws, rfl, r1, r2⟩ := RpL.cons_iff.mp h
    cases d with
    | bl b =>
      obtain ⟨cs, e1, rfl⟩ := Option.map_eq_some_iff.mp (show (blsD ds).map (b :: ·) = some bs from e)
      rw [Rp.bl_iff.mp r1, blsD_rel e1 r2]
      rfl
    | _ => cases e
def biAll : OpN
  | [d], st => match seqL st d with
    | some xs => (blsD xs).map fun bs => (.bl (bs.all id), st)
    | none => none
  | _, _ => none
def biAny : OpN
  | [d], st => match seqL st d with
    | some xs => (blsD xs).map fun bs => (.bl (bs.any id), st)
    | none => none
  | _, _ => none
theorem c_all (hc : X.calm = true) : ClM X (.builtin "all") biAll := by
  intro pins s σ H xs us Q I rs ⟨r, st, as, d, st', hr, pa, e, q⟩
  unfold biAll at e
  split at e
  · rename_i a
    obtain ⟨v, rfl, ra⟩ := rpl1 pa
    split at e
    · rename_i ys ey
      obtain ⟨bs, eb, e2⟩ := Option.map_eq_some_iff.mp e
      cases e2
      obtain ⟨l, vs, rfl, sq, ls⟩ := hr.seqL ey ra
      have := blsD_rel eb ls
      subst this
      exact cr_all hc pins s σ H _ us Q I rs ⟨l, bs, rfl, sq, fin0 hr q (Rp.bl_iff.mpr rfl)⟩
    · cases e
  · cases e
theorem c_any (hc : X.calm = true) : ClM X (.builtin "any") biAny := by
  intro pins s σ H xs us Q I rs ⟨r, st, as, d, st', hr, pa, e, q⟩
  unfold biAny at e
  split at e
  · rename_i a
    obtain ⟨v, rfl, ra⟩ := rpl1 pa
    split at e
    · rename_i ys ey
      obtain ⟨bs, eb, e2⟩ := Option.map_eq_some_iff.mp e
      cases e2
      obtain ⟨l, vs, rfl, sq, ls⟩ := hr.seqL ey ra
      have := blsD_rel eb ls
      subst this
      exact cr_any hc pins s σ H _ us Q I rs ⟨l, bs, rfl, sq, fin0 hr q (Rp.bl_iff.mpr rfl)⟩
    · cases e
  · cases e
end
end Mi

namespace Mi
open PySem PySem.Spec PyProof.Rows L2
noncomputable section
open Classical
variable {X : Cx} {W : WX}
/-! ### an expression whose rubbish goes -/
def eG (f : Ex) : Ex := fun env st => match f env st with
  | .ok d st' => .ok (gcO st d st').1 (gcO st d st').2
  | .ex e s => .ex e s
  | .no => .no
theorem m_g {e : Expr} {f : Ex} (h : PEm X W e f) : PEm X W e (eG f) := PE.imp h fun σ H Q ⟨env, r, st, er, hr, p⟩ => by
  refine ⟨env, r, st, er, hr, ?_⟩
  unfold eG at p
  cases ef : f env st with
  | no => rw [ef] at p; exact p
  | ex a s => rw [ef] at p; exact p
  | ok d st' =>
    rw [ef] at p
    intro v H' r' g q
    obtain ⟨r2, p2, h2, q2⟩ := gc_rel hr g.1 g.2.1 g.2.2 q
    exact p v H' r2 ⟨g.1, p2, h2⟩ q2
theorem eG_old {f : Ex} {env : MEnv} {st s' : Store} {d : D} (h : f env st = .ok d s') (o : Old st s') (hn : noa d = true) : eG f env st = .ok d st := by
  unfold eG
  rw [h]
  dsimp only
  rw [o.gc hn]
theorem eG_eq {f : Ex} {env : MEnv} {st s' : Store} {d : D} (h : f env st = .ok d s') : eG f env st = .ok (gcO st d s').1 (gcO st d s').2 := by
  unfold eG
  rw [h]
/-! ### index -/
def idxD (d : D) : List D → Option Nat
  | [] => none
  | x :: xs => if eqD x d = true then some 0 else (idxD d xs).map (· + 1)
theorem idxD_spec {d : D} : ∀ {xs : List D} {j : Nat}, idxD d xs = some j → ∃ z, xs[j]? = some z ∧ eqD z d = true ∧ ∀ m z', m < j → xs[m]? = some z' → eqD z' d = false
  | [], j, h => by cases h
  | x :: xs, j, h => by
    unfold idxD at h
    by_cases c : eqD x d = true
    · rw [if_pos c] at h
      cases h
      exact ⟨x, rfl, c, fun m z hm => absurd hm (Nat.not_lt_zero _)⟩
    · rw [if_neg c] at h
      obtain ⟨i, e1, rfl⟩ := Option.map_eq_some_iff.mp h
      obtain ⟨z, h1, h2, h3⟩ := idxD_spec e1
      refine ⟨z, by simpa using h1, h2, fun m z' hm hz => ?_⟩
      cases m with
      | zero =>
        simp at hz
        subst hz
        simpa using c
      | succ m => exact h3 m z' (by omega) (by simpa using hz)
def mdIndex (o : D) : OpN := fun as st => match as with
  | [d] => match seqL st o with
    | some ys => if pur d = true ∧ purs ys = true ∧ dep d < deepLine then (idxD d ys).map fun (k : Nat) => (.int (k : Int), st) else none
    | none => none
  | _ => none
theorem md_index (hu : X.A.units + 2000 < cLine) : MdM X "list.index" mdIndex := by
  intro pins s σ H x xs v us Q I rx rs ⟨r, st, a, as, d, st', hr, pa, pas, e, q⟩
  unfold mdIndex at e
  split at e
  · rename_i y
    obtain ⟨w, rfl, ry⟩ := rpl1 pas
    split at e
    · rename_i ys hl
      by_cases c : pur y = true ∧ purs ys = true ∧ dep y < deepLine
      · rw [if_pos c] at e
        obtain ⟨j, ej, e2⟩ := Option.map_eq_some_iff.mp e
        cases e2
        obtain ⟨l, vs, rfl, sq, ls⟩ := hr.seqL hl pa
        obtain ⟨z, hz, hzj, hno⟩ := idxD_spec ej
        cases rx
        cases rs with
        | cons ryv rt =>
          rename_i uy ut
          cases rt
          obtain ⟨its, rv, ⟨⟨cls, dd, data, sl⟩, n, ho, hc, hdn, hd⟩, hlen⟩ := I.list sq
          simp only at hc hd
          subst hc hd
          have hjl : j < its.length := by
            have := (List.getElem?_eq_some_iff.mp hz).1
            rw [← rv.length, ls.length]
            exact this
          have hvl := rv.length
          have hsl := sizeLine_eq
          have hj : j < its.toArray.size := by simpa using hjl
          have hu' : X.A.in1.units + dep y < cLine := by
            show X.A.units + 1 + dep y < cLine
            have := c.2.2
            unfold deepLine at this
            omega
          have at_ : ∀ m (hm : m < its.toArray.size) (z' : D), ys[m]? = some z' → itemE its ys y its.toArray[m] = eqD z' y := fun m hm z' hz' =>
            itemE_at I c.2.1 ls rv y (j := m) (by simp at hm; simp [hm]) hz'
          refine call_meets PySem.F.slot_list_index ⟨_, ho, rfl⟩ PySem.F.entry_list_index (PySem.F.args_list_index_2 _ _)
            (SeqAt.list_indexAt l its.toArray n dd sl uy (itemE its ys y) j hj (by omega) ?_ ?_) ⟨ho, fun w' hw' => mem_itemE I c.2.1 ls rv c.1 ry ryv hu' w' (by simpa using hw'), ?_⟩
          · rw [at_ j hj z hz]; exact hzj
          · intro m hm hmj
            have hml : m < ys.length := by
              have := (List.getElem?_eq_some_iff.mp hz).1
              omega
            rw [at_ m hm _ (List.getElem?_eq_getElem hml)]
            exact hno m _ hmj (List.getElem?_eq_getElem hml)
          · exact ⟨.int (j : Nat), H, I.tok _, ⟨_, rfl⟩, fin0 hr q (Rp.int_iff.mpr rfl)⟩
      · rw [if_neg c] at e; cases e
    · cases e
  · cases e
/-! ### list(range(..)) -/
theorem rgV_eq {K : PySem.W.Frag} {H : Hp} {r : List Addr} (a b : Int) : RpL K H r (rngD a (b - a).toNat) (rgV a b) := by
  unfold rngD rgV
  generalize List.range (b - a).toNat = l
  induction l with
  | nil => exact RpL.nil
  | cons x xs ih => exact RpL.cons (Rp.int_iff.mpr rfl) ih
def eLr1 (fa : Ex) : Ex := fun env st => (fa env st).bind fun d s => match d with
  | .int b => if RgOk 0 b then .ok (.adr s.length) (s ++ [.lst (rngD 0 b.toNat)]) else .no
  | _ => .no
def eLr2 (fa fb : Ex) : Ex := fun env st => (fa env st).bind fun d s => (fb env s).bind fun e s2 => match d, e with
  | .int a, .int b => if RgOk a b then .ok (.adr s2.length) (s2 ++ [.lst (rngD a (b - a).toNat)]) else .no
  | _, _ => .no
theorem m_lr1 {a : Expr} {fa : Ex} {p p2 p3 pos : Pos} (hc : X.calm = true) (hgl : Gl X "list") (hml : X.mg "list" = none) (hg : Gl X "range") (hm : X.mg "range" = none) (ha : PEm X W a fa)
    (na : starEach [a] X.env = (false, eval a X.env) :: starEach [] X.env := by rfl) (nb : starEach [.Call (.Name "range" p) [a] [] p2] X.env = (false, eval (.Call (.Name "range" p) [a] [] p2) X.env) :: starEach [] X.env := by rfl) :
    PEm X W (.Call (.Name "list" p3) [.Call (.Name "range" p) [a] [] p2] [] pos) (eLr1 fa) := PE.imp (pe_listRg hc hgl hml (prg_1 hg hm ha na) nb) fun σ H Q h => by
  refine tG_seq (Ra := RV X) h fun d x H1 env r st er hr rd p => ?_
  cases d with
  | int b =>
    dsimp only at p
    by_cases c : RgOk 0 b
    · rw [if_pos c] at p
      refine ⟨b, Rp.int_iff.mp rd, c, fun q hq => finL hr p ?_ hq⟩
      have := rgV_eq (K := X.K) (H := H1) (r := r) 0 b
      rwa [Int.sub_zero] at this
    · rw [if_neg c] at p; exact p.elim
  | _ => exact p.elim
theorem m_lr2 {a b : Expr} {fa fb : Ex} {p p2 p3 pos : Pos} (hc : X.calm = true) (hgl : Gl X "list") (hml : X.mg "list" = none) (hg : Gl X "range") (hm : X.mg "range" = none) (ha : PEm X W a fa) (hb : PEm X W b fb)
    (na : starEach [a, b] X.env = (false, eval a X.env) :: starEach [b] X.env := by rfl) (nb : starEach [b] X.env = (false, eval b X.env) :: starEach [] X.env := by rfl) (hp : (backTo p2 (starEach [b] X.env)).any (·.1) = false := by rfl)
    (nc : starEach [.Call (.Name "range" p) [a, b] [] p2] X.env = (false, eval (.Call (.Name "range" p) [a, b] [] p2) X.env) :: starEach [] X.env := by rfl) :
    PEm X W (.Call (.Name "list" p3) [.Call (.Name "range" p) [a, b] [] p2] [] pos) (eLr2 fa fb) := PE.imp (pe_listRg hc hgl hml (prg_2 hg hm ha hb na nb hp) nc) fun σ H Q h => by
  refine tG_seq (Ra := RV X) h fun d x H1 env r st er hr rd p => ?_
  refine tG_then (Ra := RV X) er hr p fun e y H2 r2 s2 e1 e2 er2 hr2 re p2 => ?_
  cases d with
  | int a =>
    cases e with
    | int b =>
      dsimp only at p2
      by_cases c : RgOk a b
      · rw [if_pos c] at p2
        exact ⟨a, b, Rp.int_iff.mp (Rp.mono e1 e2 _ _ rd), Rp.int_iff.mp re, c, fun q hq => finL hr2 p2 (rgV_eq a b) hq⟩
      · rw [if_neg c] at p2; exact p2.elim
    | _ => exact p2.elim
  | _ => exact p2.elim
/-! ### islower -/
def mdLower (o : D) : OpN := fun as st => match o, as with
  | .str z, [] => some (.bl (Txt.islower z), st)
  | _, _ => none
theorem md_islower : MdM X "str.islower" mdLower := by
  intro pins s σ H x xs v us Q I rx rs ⟨r, st, a, as, d, st', hr, pa, pas, e, q⟩
  unfold mdLower at e
  split at e
  · cases e
    have := RpL.nil_iff.mp pas
    subst this
    replace pa := Rp.str_iff.mp pa
    subst pa
    exact mt_islower pins s σ H _ _ v us Q I rx rs ⟨_, rfl, rfl, trivial, fin0 hr q (Rp.bl_iff.mpr rfl)⟩
  · cases e
def mdUpp (o : D) : OpN := fun as st => match o, as with
  | .str z, [] => some (.bl (Txt.isupper z), st)
  | _, _ => none
theorem md_isupper : MdM X "str.isupper" mdUpp := by
  intro pins s σ H x xs v us Q I rx rs ⟨r, st, a, as, d, st', hr, pa, pas, e, q⟩
  unfold mdUpp at e
  split at e
  · cases e
    have := RpL.nil_iff.mp pas
    subst this
    replace pa := Rp.str_iff.mp pa
    subst pa
    exact mt_isupper pins s σ H _ _ v us Q I rx rs ⟨_, rfl, rfl, trivial, fin0 hr q (Rp.bl_iff.mpr rfl)⟩
  · cases e
end
end Mi

namespace Mi
open PySem PySem.Spec PyProof.Rows L2
noncomputable section
open Classical
/-! ### terms as applications -/
inductive Bt where
  | lf (h : Hd) | ap (a b : Bt)
mutual
def Tm.toB : Tm → Bt
  | .mk h ts => Tm.toBs (.lf h) ts
def Tm.toBs : Bt → List Tm → Bt
  | b, [] => b
  | b, t :: ts => Tm.toBs (.ap b t.toB) ts
end
def Bt.toT : Bt → Tm
  | .lf h => .mk h []
  | .ap a b => a.toT.snoc b.toT
theorem Tm.toB_mk (h : Hd) (ts : List Tm) : (Tm.mk h ts).toB = Tm.toBs (.lf h) ts := by rw [Tm.toB]
theorem Tm.toBs_nil (b : Bt) : Tm.toBs b [] = b := by rw [Tm.toBs]
theorem Tm.toBs_cons (b : Bt) (t : Tm) (ts : List Tm) : Tm.toBs b (t :: ts) = Tm.toBs (.ap b t.toB) ts := by rw [Tm.toBs]
theorem Tm.toBs_app : ∀ (xs : List Tm) (b : Bt) (ys : List Tm), Tm.toBs b (xs ++ ys) = Tm.toBs (Tm.toBs b xs) ys
  | [], b, ys => by rw [Tm.toBs_nil]; rfl
  | x :: xs, b, ys => by rw [List.cons_append, Tm.toBs_cons, Tm.toBs_cons, Tm.toBs_app xs]
theorem Tm.toB_snoc (t x : Tm) : (t.snoc x).toB = .ap t.toB x.toB := by
  cases t with
  | mk h ts =>
    show (Tm.mk h (ts ++ [x])).toB = _
    rw [Tm.toB_mk, Tm.toB_mk, Tm.toBs_app, Tm.toBs_cons, Tm.toBs_nil]
theorem Tm.size_snoc (t x : Tm) : (t.snoc x).size = t.size + x.size := by
  cases t with
  | mk h ts =>
    show (Tm.mk h (ts ++ [x])).size = _
    rw [Tm.size_mk, Tm.size_mk, Tm.sizes_app, Tm.sizes_cons, Tm.sizes_nil]
    omega
theorem Tm.snoc_ind {P : Tm → Prop} (lf : ∀ h, P (.mk h [])) (ap : ∀ t x, P t → P x → P (t.snoc x)) : ∀ (n : Nat) (t : Tm), t.size ≤ n → P t
  | 0, t, h => by have := t.size_pos; omega
  | n + 1, .mk h ts, hs => by
    rcases List.eq_nil_or_concat ts with rfl | ⟨L, a, rfl⟩
    · exact lf h
    · rw [List.concat_eq_append] at *
      have e := Tm.size_snoc (.mk h L) a
      have e2 : (Tm.mk h L).snoc a = .mk h (L ++ [a]) := rfl
      rw [e2] at e
      have := a.size_pos
      have := (Tm.mk h L).size_pos
      rw [← e2]
      exact ap _ _ (Tm.snoc_ind lf ap n _ (by omega)) (Tm.snoc_ind lf ap n _ (by omega))
theorem Tm.ind {P : Tm → Prop} (lf : ∀ h, P (.mk h [])) (ap : ∀ t x, P t → P x → P (t.snoc x)) (t : Tm) : P t := Tm.snoc_ind lf ap t.size t (Nat.le_refl _)
theorem Tm.toB_lf (h : Hd) : (Tm.mk h []).toB = .lf h := by rw [Tm.toB_mk, Tm.toBs_nil]
theorem Tm.toT_toB (t : Tm) : t.toB.toT = t := by
  refine Tm.ind (P := fun t => t.toB.toT = t) (fun h => ?_) (fun t x h1 h2 => ?_) t
  · rw [Tm.toB_lf]; rfl
  · rw [Tm.toB_snoc]
    show t.toB.toT.snoc x.toB.toT = _
    rw [h1, h2]
theorem Bt.toB_toT : ∀ b : Bt, b.toT.toB = b
  | .lf h => Tm.toB_lf h
  | .ap a b => by
    show (a.toT.snoc b.toT).toB = _
    rw [Tm.toB_snoc, Bt.toB_toT a, Bt.toB_toT b]
theorem Tm.toB_inj {s t : Tm} (h : s.toB = t.toB) : s = t := by rw [← s.toT_toB, h, t.toT_toB]
theorem Bt.toT_inj {s t : Bt} (h : s.toT = t.toT) : s = t := by rw [← s.toB_toT, h, t.toB_toT]
def Bt.size : Bt → Nat
  | .lf _ => 1
  | .ap a b => a.size + b.size
theorem Bt.size_pos : ∀ b : Bt, 1 ≤ b.size
  | .lf _ => Nat.le_refl _
  | .ap a b => by have := a.size_pos; show 1 ≤ a.size + b.size; omega
theorem Bt.size_toT : ∀ b : Bt, b.toT.size = b.size
  | .lf h => by show (Tm.mk h []).size = 1; rw [Tm.size_mk, Tm.sizes_nil]
  | .ap a b => by
    show (a.toT.snoc b.toT).size = a.size + b.size
    rw [Tm.size_snoc, Bt.size_toT a, Bt.size_toT b]
theorem Tm.size_toB (t : Tm) : t.toB.size = t.size := by rw [← Bt.size_toT, Tm.toT_toB]
def Bt.hds : Bt → List Hd
  | .lf h => [h]
  | .ap a b => a.hds ++ b.hds
theorem Tm.hds_snoc (t x : Tm) : (t.snoc x).hds = t.hds ++ x.hds := by
  cases t with
  | mk h ts =>
    show (Tm.mk h (ts ++ [x])).hds = _
    rw [Tm.hds_mk, Tm.hds_mk, Tm.hdss_app, Tm.hdss_cons, Tm.hdss_nil, List.append_nil]
    rfl
theorem Bt.hds_toT : ∀ b : Bt, b.toT.hds = b.hds
  | .lf h => by show (Tm.mk h []).hds = [h]; rw [Tm.hds_mk, Tm.hdss_nil]
  | .ap a b => by
    show (a.toT.snoc b.toT).hds = a.hds ++ b.hds
    rw [Tm.hds_snoc, Bt.hds_toT a, Bt.hds_toT b]
theorem Tm.hds_toB (t : Tm) : t.toB.hds = t.hds := by rw [← Bt.hds_toT, Tm.toT_toB]
theorem Bt.hds_len : ∀ b : Bt, b.hds.length = b.size
  | .lf _ => rfl
  | .ap a b => by show (a.hds ++ b.hds).length = a.size + b.size; rw [List.length_append, a.hds_len, b.hds_len]
/-- parts put in -/
def Bt.put (F : Int → Option Bt) : Bt → Bt
  | .lf (.i n) => (F n).getD (.lf (.i n))
  | .lf (.s x) => .lf (.s x)
  | .ap a b => .ap (a.put F) (b.put F)
def toF (ps : Pts) : Int → Option Bt := fun n => (atP ps n).map Tm.toB
theorem Tm.put_snoc (ps : Pts) (t x : Tm) : (t.snoc x).put ps = (t.put ps).snoc (x.put ps) := by
  cases t with
  | mk h ts => exact Mi.put_snoc ps h ts x
theorem Tm.put_toB (ps : Pts) (t : Tm) : (t.put ps).toB = t.toB.put (toF ps) := by
  refine Tm.ind (P := fun t => (t.put ps).toB = t.toB.put (toF ps)) (fun h => ?_) (fun t x h1 h2 => ?_) t
  · rw [Tm.put_mk, Tm.puts_nil, Tm.toB_lf]
    unfold putHd
    cases h with
    | s x => exact Tm.toB_lf _
    | i n =>
      dsimp only
      unfold Bt.put toF
      cases atP ps n with
      | none => exact Tm.toB_lf _
      | some v =>
        cases v with
        | mk g us => dsimp only; rw [List.append_nil]; rfl
  · rw [Tm.put_snoc, Tm.toB_snoc, Tm.toB_snoc, h1, h2]
    rfl
theorem Bt.put_toT (ps : Pts) (b : Bt) : b.toT.put ps = (b.put (toF ps)).toT := by
  apply Tm.toB_inj
  rw [Tm.put_toB, Bt.toB_toT, Bt.toB_toT]
theorem Bt.put_agree {F G : Int → Option Bt} : ∀ b : Bt, (∀ v, Hd.i v ∈ b.hds → F v = G v) → b.put F = b.put G
  | .lf (.i n), h => by unfold Bt.put; rw [h n (by simp [Bt.hds])]
  | .lf (.s x), _ => rfl
  | .ap a b, h => by
    unfold Bt.put
    rw [Bt.put_agree a fun v hv => h v (by simp [Bt.hds, hv]), Bt.put_agree b fun v hv => h v (by simp [Bt.hds, hv])]
theorem Bt.put_none : ∀ b : Bt, b.put (fun _ => none) = b
  | .lf (.i n) => rfl
  | .lf (.s x) => rfl
  | .ap a b => by unfold Bt.put; rw [Bt.put_none a, Bt.put_none b]
theorem Bt.put_put (F G : Int → Option Bt) : ∀ b : Bt, (b.put F).put G = b.put (fun n => match F n with | some x => some (x.put G) | none => G n)
  | .lf (.i n) => by
    simp only [Bt.put]
    cases F n with
    | none => simp only [Option.getD_none, Bt.put]
    | some x => rfl
  | .lf (.s x) => rfl
  | .ap a b => by simp only [Bt.put]; rw [Bt.put_put F G a, Bt.put_put F G b]
def Bt.isName : Bt → Bool
  | .lf (.s _) => true
  | _ => false
theorem onceH_app : ∀ (xs acc ys : List Hd), onceH acc (xs ++ ys) = onceH (onceH acc xs) ys
  | [], acc, ys => by rw [onceH]; rfl
  | x :: xs, acc, ys => by
    rw [List.cons_append, onceH, onceH]
    split
    · exact onceH_app xs acc ys
    · exact onceH_app xs _ ys
end
end Mi

namespace Mi
open PySem PySem.Spec PyProof.Rows L2
noncomputable section
open Classical
/-! ### loops over typed lists -/
theorem lc_pure {src : Src} {t : Tgt} {c : Fx Bool} {f : Ex} {own : List Nat} {env : MEnv} {st st0 : Store} {α : Type} {as : List α} {enc : α → D} (p : α → Bool) (φ : α → D) {g : Option GN}
    (hs : src env st = .ok (as.map enc, g) st0) (hg : ∀ n, g = some (GN.l n) → lstAt st0 n = some (as.map enc))
    (step : ∀ a ∈ as, ∀ s, Old st0 s → ∃ env1, tgSet t (enc a) (wipeE env own) = some env1 ∧ c env1 s = .ok (p a) s ∧ (p a = true → f env1 s = .ok (φ a) s)) (hz : as.length ≤ sizeLine) (hge : ∀ n, g = some (GN.e n) → ∃ xs, lstAt st0 n = some xs ∧ as.map enc = enD xs := by intro n h; cases h) :
    eLc src t c f own env st = .ok (.adr st0.length) (st0 ++ [.lst ((as.filter p).map φ)]) := by
  unfold eLc
  rw [hs, Rs.bind_ok]
  dsimp only
  refine (cmL_wp (g := g) (all := as.map enc) (t := t) (c := c) (em := emL st0.length f) (envw := wipeE env own)
    (I := fun xs s => ∃ dn rs, as = dn ++ rs ∧ xs = rs.map enc ∧ s = st0 ++ [.lst ((dn.filter p).map φ)]) ?_ ?_ (as.map enc) (st0 ++ [.lst []]) ⟨[], as, rfl, rfl, rfl⟩).elim ?_
  · rintro ys s ⟨dn, rs, e1, e2, rfl⟩
    cases g with
    | none => trivial
    | some n => cases n with
      | l n => exact lstAt_iff.mp (lst_app (hg n rfl))
      | e n => obtain ⟨zs, z1, z2⟩ := hge n rfl; exact ⟨zs, lstAt_iff.mp (lst_app z1), z2⟩
  · rintro x xs s ⟨dn, rs, e1, e2, rfl⟩
    cases rs with
    | nil => cases e2
    | cons a rs =>
      rw [List.map_cons] at e2
      obtain ⟨e3, e4⟩ := List.cons.inj e2
      subst e3 e4
      obtain ⟨env1, h1, h2, h3⟩ := step a (by rw [e1]; simp) _ (Old.app st0 [.lst ((dn.filter p).map φ)])
      refine ⟨env1, h1, ?_⟩
      rw [h2, wp_ok]
      cases hp : p a with
      | false =>
        rw [if_neg Bool.false_ne_true]
        exact ⟨dn ++ [a], rs, by rw [e1]; simp, rfl, by rw [List.filter_append]; simp [hp]⟩
      | true =>
        rw [if_pos rfl]
        refine emL_wp ?_
        rw [h3 hp, wp_ok]
        refine ⟨_, lst_new, ?_, dn ++ [a], rs, by rw [e1]; simp, rfl, ?_⟩
        · rw [List.length_map]
          have := congrArg List.length e1
          have h4 := List.length_filter_le p dn
          rw [List.length_append, List.length_cons] at this
          omega
        · rw [List.set_append_right _ _ (Nat.le_refl _), Nat.sub_self, List.set_cons_zero, List.filter_append]
          simp [hp]
  · rintro s' ⟨e, dn, rs, e1, e2, rfl⟩
    cases rs with
    | cons a rs => cases e2
    | nil =>
      rw [List.append_nil] at e1
      subst e1
      rw [e]
theorem gmap_true {α : Type} (as : List α) : as.filter (fun _ => true) = as := by simp
/-- tuple([f for t in src if c]) -/
theorem tup_lc {src : Src} {t : Tgt} {c : Fx Bool} {f : Ex} {own : List Nat} {env : MEnv} {st : Store} {n : Nat} {s' : Store} {xs : List D}
    (h : eLc src t c f own env st = .ok (.adr n) s') (o : Old st s') (e : lstAt s' n = some xs) (hn : noas xs = true) :
    eG (eBi biTuple (aCons (eLc src t c f own) aNil)) env st = .ok (.tup xs) st := by
  refine eG_old (s' := s') ?_ o (by unfold noa; exact hn)
  unfold eBi aCons aNil
  rw [h]
  simp only [Rs.bind_ok]
  rw [tup_lst e]
  rfl
theorem tup_lcp {src : Src} {t : Tgt} {c : Fx Bool} {f : Ex} {own : List Nat} {env : MEnv} {st st0 : Store} {xs : List D} (h : eLc src t c f own env st = .ok (.adr st0.length) (st0 ++ [.lst xs])) (o : Old st st0) (hn : noas xs = true) :
    eG (eBi biTuple (aCons (eLc src t c f own) aNil)) env st = .ok (.tup xs) st := tup_lc h (o.trans (Old.app _ _)) lst_new hn
theorem src_rng {j : Nat} {env : MEnv} {st st' : Store} {fa : Fx (List D)} (h : fa env st = .ok [.int (j : Int)] st') (h1 : (j : Int) < 2 ^ 62) : srcR1 fa env st = .ok ((List.range j).map fun (i : Nat) => D.int (i : Int), none) st' := by
  rw [srcR1_of h (by omega) h1, Int.toNat_natCast]
  unfold rngD
  simp
/-- for, over a typed list: what is done, what is left -/
theorem for_wp {src : Src} {t : Tgt} {b : Sx} {env : MEnv} {st st0 : Store} {P : Pst} {α : Type} {as : List α} {enc : α → D} {g : Option GN} (I : List α → List α → MEnv → Store → Prop)
    (hs : src env st = .ok (as.map enc, g) st0) (h0 : I [] as env st0)
    (hg : ∀ n, g = some (GN.l n) → ∀ dn rs env s, I dn rs env s → lstAt s n = some (as.map enc))
    (step : ∀ dn a rs env s, as = dn ++ a :: rs → I dn (a :: rs) env s → ∃ env1, tgSet t (enc a) env = some env1 ∧ (b env1 s).wps { P with nx := I (dn ++ [a]) rs, ct := I (dn ++ [a]) rs, bk := P.nx })
    (done : ∀ env s, I as [] env s → P.nx env s) (hge : ∀ n, g = some (GN.e n) → ∀ dn rs env s, I dn rs env s → ∃ xs, lstAt s n = some xs ∧ as.map enc = enD xs := by intro n h; cases h) : (sFor src t b env st).wps P := by
  refine sFor_wp ?_
  rw [hs, wp_ok]
  dsimp only
  refine forL_wp (g := g) (I := fun ys env s => ∃ dn rs, as = dn ++ rs ∧ ys = rs.map enc ∧ I dn rs env s) ?_ ?_ ?_ _ _ _ ⟨[], as, rfl, rfl, h0⟩
  · rintro ys env s ⟨dn, rs, e1, e2, i⟩
    cases g with
    | none => trivial
    | some n => cases n with
      | l n => exact lstAt_iff.mp (hg n rfl dn rs env s i)
      | e n => obtain ⟨zs, z1, z2⟩ := hge n rfl dn rs env s i; exact ⟨zs, lstAt_iff.mp z1, z2⟩
  · rintro x xs env s ⟨dn, rs, e1, e2, i⟩
    cases rs with
    | nil => cases e2
    | cons a rs =>
      rw [List.map_cons] at e2
      obtain ⟨e3, e4⟩ := List.cons.inj e2
      subst e3 e4
      obtain ⟨env1, h1, h2⟩ := step dn a rs env s e1 i
      refine ⟨env1, h1, h2.mono (fun e s q => ⟨dn ++ [a], rs, by rw [e1]; simp, rfl, q⟩) (fun _ _ q => q) (fun _ _ q => q) (fun e s q => ⟨dn ++ [a], rs, by rw [e1]; simp, rfl, q⟩) (fun _ _ _ q => q)⟩
  · rintro env s ⟨dn, rs, e1, e2, i⟩
    cases rs with
    | cons a rs => cases e2
    | nil =>
      rw [List.append_nil] at e1
      subst e1
      exact done env s i
/-! ### drawn lists -/
theorem noas_mem : ∀ {ds : List D}, (∀ d ∈ ds, noa d = true) → noas ds = true
  | [], _ => rfl
  | d :: ds, h => by
    unfold noas
    rw [h d (by simp), noas_mem fun x hx => h x (by simp [hx])]
    rfl
inductive Fa2 {α β : Type} (R : α → β → Prop) : List α → List β → Prop where
  | nil : Fa2 R [] []
  | cons {a b as bs} (h : R a b) (t : Fa2 R as bs) : Fa2 R (a :: as) (b :: bs)
theorem Fa2.len {α β : Type} {R : α → β → Prop} {as : List α} {bs : List β} (h : Fa2 R as bs) : bs.length = as.length := by
  induction h with
  | nil => rfl
  | cons _ _ ih => rw [List.length_cons, List.length_cons, ih]
theorem Fa2.snoc {α β : Type} {R : α → β → Prop} {as : List α} {bs : List β} {a : α} {b : β} (h : Fa2 R as bs) (q : R a b) : Fa2 R (as ++ [a]) (bs ++ [b]) := by
  induction h with
  | nil => exact .cons q .nil
  | cons h _ ih => exact .cons h ih
theorem Fa2.map {α β γ : Type} {R : α → β → Prop} {as : List α} {bs : List β} {f : α → γ} {g : β → γ} (h : Fa2 R as bs) (q : ∀ a b, R a b → g b = f a) : bs.map g = as.map f := by
  induction h with
  | nil => rfl
  | cons h _ ih => rw [List.map_cons, List.map_cons, q _ _ h, ih]
theorem Fa2.right {α β : Type} {R : α → β → Prop} {as : List α} {bs : List β} (h : Fa2 R as bs) : ∀ b ∈ bs, ∃ a ∈ as, R a b := by
  induction h with
  | nil => intro b hb; cases hb
  | cons h _ ih =>
    intro b hb
    rcases List.mem_cons.mp hb with rfl | hb
    · exact ⟨_, List.mem_cons_self, h⟩
    · obtain ⟨a, ha, r⟩ := ih b hb
      exact ⟨a, List.mem_cons_of_mem _ ha, r⟩
theorem lc_draw {src : Src} {t : Tgt} {f : Ex} {own : List Nat} {env : MEnv} {st st0 : Store} {α β : Type} {as : List α} {enc : α → D} (enc2 : β → D) {g : Option GN} {m n : Nat} {ns : List Int} (Pr : α → β → Prop)
    (hs : src env st = .ok (as.map enc, g) st0) (h : TpG m n ns st0) (hg : ∀ i, g = some (GN.l i) → i ≠ m ∧ lstAt st0 i = some (as.map enc))
    (step : ∀ a ∈ as, ∀ s, Dt m n ns st0 s → ∃ env1 b s', tgSet t (enc a) (wipeE env own) = some env1 ∧ f env1 s = .ok (enc2 b) s' ∧ Dt m n ns s s' ∧ Pr a b) (hz : as.length ≤ sizeLine) (hge : ∀ i, g ≠ some (GN.e i) := by intro i h; cases h) :
    ∃ bs s', eLc src t tTrue f own env st = .ok (.adr st0.length) s' ∧ Dt m n ns st0 s' ∧ lstAt s' st0.length = some (bs.map enc2) ∧ Fa2 Pr as bs := by
  unfold eLc
  rw [hs, Rs.bind_ok]
  dsimp only
  have lm := h.lt
  refine (cmL_wp (g := g) (all := as.map enc) (t := t) (c := tTrue) (em := emL st0.length f) (envw := wipeE env own)
    (I := fun xs s => ∃ dn rs bs, as = dn ++ rs ∧ xs = rs.map enc ∧ Dt m n ns st0 s ∧ lstAt s st0.length = some (bs.map enc2) ∧ Fa2 Pr dn bs) ?_ ?_ (as.map enc) (st0 ++ [.lst []]) ⟨[], as, [], rfl, rfl, Dt.ofOld h (Old.app _ _), lst_new, .nil⟩).elim ?_
  · rintro ys s ⟨dn, rs, bs, e1, e2, dt, q, pr⟩
    cases g with
    | none => trivial
    | some i => cases i with
      | l i => exact lstAt_iff.mp (dt.lst (hg i rfl).2 (hg i rfl).1)
      | e i => exact (hge i rfl).elim
  · rintro x xs s ⟨dn, rs, bs, e1, e2, dt, q, pr⟩
    cases rs with
    | nil => cases e2
    | cons a rs =>
      rw [List.map_cons] at e2
      obtain ⟨e3, e4⟩ := List.cons.inj e2
      subst e3 e4
      obtain ⟨env1, b, s2, h1, h2, h3, h4⟩ := step a (by rw [e1]; simp) s dt
      refine ⟨env1, h1, ?_⟩
      rw [tTrue, wp_ok, if_pos rfl]
      refine emL_wp ?_
      rw [h2, wp_ok]
      have q2 := h3.lst q (by omega)
      refine ⟨_, q2, ?_, dn ++ [a], rs, bs ++ [b], by rw [e1]; simp, rfl, (dt.trans h3).loc h (Nat.le_refl _), ?_, pr.snoc h4⟩
      · have := congrArg List.length e1
        rw [List.length_append, List.length_cons] at this
        rw [List.length_map, pr.len]
        omega
      · rw [lst_set (lst_lt q2), List.map_append]
        rfl
  · rintro s' ⟨e, dn, rs, bs, e1, e2, dt, q, pr⟩
    cases rs with
    | cons a rs => cases e2
    | nil =>
      rw [List.append_nil] at e1
      subst e1
      rw [e]
      exact ⟨bs, s', rfl, dt, q, pr⟩
theorem tup_draw {src : Src} {t : Tgt} {f : Ex} {own : List Nat} {env : MEnv} {st st0 : Store} {α β : Type} {as : List α} {enc : α → D} (enc2 : β → D) {g : Option GN} {m n : Nat} {ns : List Int} (Pr : α → β → Prop)
    (hs : src env st = .ok (as.map enc, g) st0) (ho : Dt m n ns st st0) (h0 : TpG m n ns st) (hg : ∀ i, g = some (GN.l i) → i ≠ m ∧ lstAt st0 i = some (as.map enc)) (hna : ∀ b, noa (enc2 b) = true)
    (step : ∀ a ∈ as, ∀ s, Dt m n ns st0 s → ∃ env1 b s', tgSet t (enc a) (wipeE env own) = some env1 ∧ f env1 s = .ok (enc2 b) s' ∧ Dt m n ns s s' ∧ Pr a b) (hz : as.length ≤ sizeLine) (hge : ∀ i, g ≠ some (GN.e i) := by intro i h; cases h) :
    ∃ bs s', eG (eBi biTuple (aCons (eLc src t tTrue f own) aNil)) env st = .ok (.tup (bs.map enc2)) s' ∧ Dt m n ns st s' ∧ s'.length = st.length ∧ Fa2 Pr as bs := by
  obtain ⟨bs, s', e, dt, q, pr⟩ := lc_draw enc2 Pr hs ho.ok hg step hz hge
  have hn : noas (bs.map enc2) = true := noas_mem fun d hd => by
    obtain ⟨b, _, rfl⟩ := List.mem_map.mp hd
    exact hna b
  obtain ⟨s2, f1, f2, f3⟩ := (ho.trans dt).gc h0 (d := .tup (bs.map enc2)) (by unfold noa; exact hn)
  refine ⟨bs, s2, ?_, f2, f3, pr⟩
  have e5 : eBi biTuple (aCons (eLc src t tTrue f own) aNil) env st = .ok (.tup (bs.map enc2)) s' := by
    unfold eBi aCons aNil
    rw [e]
    simp only [Rs.bind_ok]
    rw [tup_lst q]
    rfl
  rw [eG_eq e5, f1]
/-! ### a list of terms -/
theorem in_lst {st : Store} {q : Nat} {α : Type} {as : List α} {enc : α → D} (a : α) (e : lstAt st q = some (as.map enc)) (hp : ∀ b, pur (enc b) = true) (hd : dep (enc a) < deepLine) (hq : ∀ b, eqD (enc b) (enc a) = true ↔ b = a) :
    opIn (enc a) (.adr q) st = some (.bl (decide (a ∈ as)), st) ∧ opNotIn (enc a) (.adr q) st = some (.bl (!decide (a ∈ as)), st) := by
  have pp : purs (as.map enc) = true := by
    clear e
    induction as with
    | nil => rfl
    | cons b bs ih => rw [List.map_cons, purs, hp, ih]; rfl
  have ea : ((as.map enc).any fun y => eqD y (enc a)) = decide (a ∈ as) := by
    clear e pp
    induction as with
    | nil => simp
    | cons b bs ih =>
      rw [List.map_cons, List.any_cons, ih]
      by_cases c : b = a
      · rw [(hq b).mpr c]; simp [c]
      · have : ¬ a = b := fun z => c z.symm
        have h2 : eqD (enc b) (enc a) = false := by
          cases z : eqD (enc b) (enc a) with
          | true => exact absurd ((hq b).mp z) c
          | false => rfl
        rw [h2]
        simp [this]
  unfold opIn opNotIn
  rw [inO_lst e (hp a) pp hd, ea]
  exact ⟨rfl, rfl⟩
theorem purs_map {α : Type} {enc : α → D} (h : ∀ a, pur (enc a) = true) : ∀ as : List α, purs (as.map enc) = true
  | [] => rfl
  | a :: as => by rw [List.map_cons, purs, h, purs_map h as]; rfl
theorem noas_map {α : Type} {enc : α → D} (h : ∀ a, noa (enc a) = true) : ∀ as : List α, noas (as.map enc) = true
  | [] => rfl
  | a :: as => by rw [List.map_cons, noas, h, noas_map h as]; rfl
theorem deps_map {α : Type} {enc : α → D} {N : Nat} : ∀ as : List α, (∀ a ∈ as, dep (enc a) ≤ N) → deps (as.map enc) ≤ N
  | [], _ => by simp [deps]
  | a :: as, h => by
    rw [List.map_cons, deps]
    have := h a (by simp)
    have := deps_map as fun x hx => h x (by simp [hx])
    omega
theorem emp_ds (ts : List Tm) : (Tm.ds ts).isEmpty = ts.isEmpty := by rw [Tm.ds_map]; cases ts <;> rfl
theorem eq_refl_d {d : D} {st : Store} (hp : pur d = true) (hd : dep d ≤ deepLine) : opEq d d st = some (.bl true, st) := by
  have e := ne_refl (st := st) hp hd
  unfold opNe at e
  unfold opEq
  cases c : eqO d d st with
  | none => rw [c] at e; cases e
  | some b => rw [c] at e; simp at e; simp [e]
theorem ne_tm {t s : Tm} {st : Store} (h : t.size ≤ 700) : opNe t.d s.d st = some (.bl (!decide (t = s)), st) := by
  have e := eq_tm (s := s) (st := st) h
  unfold opEq at e
  unfold opNe
  cases c : eqO t.d s.d st with
  | none => rw [c] at e; cases e
  | some b => rw [c] at e; simp at e; simp [e]
theorem Tm.dep_le (t : Tm) : Mi.dep t.d ≤ 2 * t.size := by have := t.dep; have := t.depth_le; omega
theorem gct (st st' : Store) : (gcO st (.bl true) st').1 = .bl true := by unfold gcO; split <;> rfl
theorem len_tup {xs : List D} {st : Store} : biLen [.tup xs] st = some (.int (xs.length : Int), st) := len_of rfl
theorem len_lst {n : Nat} {xs : List D} {st : Store} (h : lstAt st n = some xs) : biLen [.adr n] st = some (.int (xs.length : Int), st) := len_of h
theorem lr1_of {fa : Ex} {env : MEnv} {st s : Store} {n : Nat} (h : fa env st = .ok (.int (n : Int)) s) (hn : n ≤ 2 ^ 24) : eLr1 fa env st = .ok (.adr s.length) (s ++ [.lst (rngD 0 n)]) := by
  unfold eLr1
  rw [h, Rs.bind_ok]
  dsimp only
  rw [if_pos (RgOk.of_le (by decide) (by omega) (by decide) (by omega)), Int.toNat_natCast]
theorem tup_lr1 {fa : Ex} {env : MEnv} {st : Store} {n : Nat} (h : fa env st = .ok (.int (n : Int)) st) (hn : n ≤ 2 ^ 24) : eG (eBi biTuple (aCons (eLr1 fa) aNil)) env st = .ok (.tup (rngD 0 n)) st := by
  refine eG_old (s' := st ++ [.lst (rngD 0 n)]) ?_ (Old.app _ _) (by unfold noa rngD; exact noas_mem (by simp [noa]))
  unfold eBi aCons aNil
  rw [lr1_of h hn]
  simp only [Rs.bind_ok]
  rw [tup_lst lst_new]
  rfl
theorem blsD_map {α : Type} (f : α → Bool) : ∀ as : List α, blsD (as.map fun a => .bl (f a)) = some (as.map f)
  | [] => rfl
  | a :: as => by rw [List.map_cons, blsD, blsD_map f as]; rfl
theorem all_bls {n : Nat} {α : Type} {f : α → Bool} {as : List α} {st : Store} (h : lstAt st n = some (as.map fun a => .bl (f a))) : biAll [.adr n] st = some (.bl (as.all f), st) := by
  unfold biAll
  dsimp only [seqL]
  rw [h]
  dsimp only
  rw [blsD_map, Option.map_some, List.all_map]
  rfl
theorem any_bls {n : Nat} {α : Type} {f : α → Bool} {as : List α} {st : Store} (h : lstAt st n = some (as.map fun a => .bl (f a))) : biAny [.adr n] st = some (.bl (as.any f), st) := by
  unfold biAny
  dsimp only [seqL]
  rw [h]
  dsimp only
  rw [blsD_map, Option.map_some, List.any_map]
  rfl
theorem bi1_of {op : OpN} {f : Ex} {env : MEnv} {st s' s2 : Store} {d r : D} (h : f env st = .ok d s') (e : op [d] s' = some (r, s2)) : eBi op (aCons f aNil) env st = .ok r s2 := by
  unfold eBi aCons aNil
  rw [h]
  simp only [Rs.bind_ok]
  rw [e]
  rfl
theorem all_lc {f : Ex} {env : MEnv} {st st0 : Store} {α : Type} {as : List α} {p : α → Bool} (h : f env st = .ok (.adr st0.length) (st0 ++ [.lst (as.map fun a => .bl (p a))])) (o : Old st st0) : eG (eBi biAll (aCons f aNil)) env st = .ok (.bl (as.all p)) st :=
  eG_old (bi1_of h (all_bls lst_new)) (o.trans (Old.app _ _)) rfl
theorem any_lc {f : Ex} {env : MEnv} {st st0 : Store} {α : Type} {as : List α} {p : α → Bool} (h : f env st = .ok (.adr st0.length) (st0 ++ [.lst (as.map fun a => .bl (p a))])) (o : Old st st0) : eG (eBi biAny (aCons f aNil)) env st = .ok (.bl (as.any p)) st :=
  eG_old (bi1_of h (any_bls lst_new)) (o.trans (Old.app _ _)) rfl
theorem eq_hd {g h : Hd} {st : Store} : opEq g.d h.d st = some (.bl (decide (g = h)), st) := by
  have e := eqD_hd g h
  unfold opEq eqO
  cases g <;> cases h <;> (simp only [Hd.d] at *; rw [if_pos ⟨rfl, rfl, by simp [dep]⟩, e]; rfl)
theorem ne_hd {g h : Hd} {st : Store} : opNe g.d h.d st = some (.bl (!decide (g = h)), st) := by
  have e := eqD_hd g h
  unfold opNe eqO
  cases g <;> cases h <;> (simp only [Hd.d] at *; rw [if_pos ⟨rfl, rfl, by simp [dep]⟩, e]; rfl)
theorem is_tup_hd {st : Store} (h : Hd) : isT .tuple h.d st = some false := by cases h; exact is_tup_int; exact is_tup_str
theorem lst_old {st s : Store} {n : Nat} {xs : List D} (o : Old st s) (h : lstAt st n = some xs) : lstAt s n = some xs := o.lst h
theorem is_bool_bl {st : Store} {b : Bool} : isT .bool (.bl b) st = some true := by show kitB "bool" "bool" = _; decide +kernel
theorem ne_bl {st : Store} {b : Bool} : opNe (.bl b) (.bl b) st = some (.bl false, st) := ne_refl rfl (by simp [dep])
theorem sizes_fa2 {ts us : List Tm} (h : Fa2 (fun a b : Tm => b.size ≤ a.size) ts us) : Tm.sizes us ≤ Tm.sizes ts := by
  induction h with
  | nil => exact Nat.le_refl _
  | cons h _ ih => rw [Tm.sizes_cons, Tm.sizes_cons]; omega
theorem ne_str {i j : Str} {st : Store} : opNe (.str i) (.str j) st = some (.bl (!decide (i = j)), st) := by
  have e := eqD_str i j
  simp [opNe, eqO, e, pur, dep]
/-! ### numbered parts -/
def enumP : Nat → List Tm → Pts
  | _, [] => []
  | i, t :: ts => ((i : Int), t) :: enumP (i + 1) ts
theorem enumP_at : ∀ (ts : List Tm) (i : Nat) (n : Int), atP (enumP i ts) n = if (i : Int) ≤ n then ts[(n - i).toNat]? else none
  | [], i, n => by simp [enumP, atP]
  | t :: ts, i, n => by
    have e : atP (enumP i (t :: ts)) n = if (i : Int) = n then some t else atP (enumP (i + 1) ts) n := by
      rw [enumP]
      unfold atP
      rw [List.find?_cons]
      by_cases h : (i : Int) = n <;> simp [h]
    rw [e, enumP_at ts (i + 1) n]
    by_cases h : (i : Int) = n
    · subst h; simp
    · rw [if_neg h]
      by_cases h2 : (i : Int) ≤ n
      · rw [if_pos h2, if_pos (by omega)]
        have : (n - (i : Int)).toNat = (n - ((i + 1 : Nat) : Int)).toNat + 1 := by omega
        rw [this, List.getElem?_cons_succ]
      · rw [if_neg h2, if_neg (by omega)]
theorem enumP_ge : ∀ (ts : List Tm) (i : Nat) (p : Int × Tm), p ∈ enumP i ts → (i : Int) ≤ p.1 ∧ p.2 ∈ ts
  | t :: ts, i, p, h => by
    rw [enumP] at h
    rcases List.mem_cons.mp h with rfl | h
    · exact ⟨Int.le_refl _, by simp⟩
    · have := enumP_ge ts (i + 1) p h
      exact ⟨by omega, by simp [this.2]⟩
theorem enumP_nodup : ∀ (ts : List Tm) (i : Nat), ((enumP i ts).map (·.1)).Nodup
  | [], i => by simp [enumP]
  | t :: ts, i => by
    rw [enumP, List.map_cons, List.nodup_cons]
    refine ⟨fun h => ?_, enumP_nodup ts (i + 1)⟩
    obtain ⟨p, hp, e⟩ := List.mem_map.mp h
    have := (enumP_ge ts (i + 1) p hp).1
    simp only at e
    omega
theorem enumP_d : ∀ (ts : List Tm) (i : Nat), (enumP i ts).map ptD = (List.range ts.length).map fun j => .tup [.int ((i : Int) + j), (ts.map Tm.d).getD j .non]
  | [], i => rfl
  | t :: ts, i => by
    rw [enumP, List.map_cons, enumP_d ts (i + 1), List.length_cons, List.range_succ_eq_map, List.map_cons, List.map_map]
    refine List.cons_eq_cons.mpr ⟨by simp [ptD], List.map_congr_left fun j _ => ?_⟩
    simp only [Function.comp_apply, List.map_cons, List.getD_cons_succ]
    congr 3
    push_cast
    omega
theorem enumP_len : ∀ (ts : List Tm) (i : Nat), (enumP i ts).length = ts.length
  | [], _ => rfl
  | t :: ts, i => by rw [enumP, List.length_cons, enumP_len ts, List.length_cons]
theorem enumP_app : ∀ (xs : List Tm) (i : Nat) (ys : List Tm), enumP i (xs ++ ys) = enumP i xs ++ enumP (i + xs.length) ys
  | [], i, ys => by simp [enumP]
  | x :: xs, i, ys => by
    rw [List.cons_append, enumP, enumP_app xs, enumP, List.cons_append, List.length_cons]
    congr 3
    omega
end
end Mi

namespace Mi
open PySem PySem.Spec PyProof.Rows L2
/-! ### enumerate of a tuple: its making -/
theorem meets_enumT {v : Value} {o : Obj} {Hh : Heap → Prop} (B : Begins v o Hh) :
    Meets (Builtin.«enumerate.__new__» ⟨[.type "enumerate", v], []⟩) (fun _ R s => Hh s.heap ∧
      R (.ok (.ret (.ref (s.heap.push o).objs.size))) { s with heap := (s.heap.push o).push { cls := .type "enumerate", data := .fields #[.none, .bool false, .ref s.heap.objs.size, rawInt 0, .none, .none] } }) :=
  .of_wp fun prog w A R s h => by
    obtain ⟨hp, g, d, tk, os⟩ := s; obtain ⟨h1, h⟩ := h
    have hsub := sub_enumerate
    have q1 : ∀ {A' : Around} {E : Value → Shared → Prop} {Q : Value → Shared → Prop}, Q (.ref hp.objs.size) ⟨hp.push o, g, d, tk, os⟩ → wpAny (model prog w) A' (pyIter v) Q E ⟨hp, g, d, tk, os⟩ :=
      fun q => B.iter prog w _ _ ⟨hp, g, d, tk, os⟩ _ h1 q
    wp_walk using q1
    refine wpAny_stack_any fun st => wpAny_pure ?_
    split
    · rename_i c _ _ _ _ _
      cases (c == Value.type "enumerate")
      · wp_walk using q1
        exact ⟨_, rfl, h⟩
      · wp_walk using q1
        exact ⟨_, rfl, h⟩
    · wp_walk using q1
      exact ⟨_, rfl, h⟩
section
variable {prog : Program} {w : World} {A : Around} {E : Value → Shared → Prop} {s : Shared}
theorem call_enumT {v : Value} {o : Obj} {Hh : Heap → Prop} {Q : Value → Shared → Prop} (B : Begins v o Hh) (h1 : Hh s.heap)
    (h : ∀ h', IsEnum h' (s.heap.objs.size + 1) s.heap.objs.size 0 .none → h'.get? s.heap.objs.size = some o → h'.objs.size = s.heap.objs.size + 2 →
      (∀ b o, s.heap.get? b = some o → h'.get? b = some o) → Q (.ref (s.heap.objs.size + 1)) { s with heap := h' }) :
    wpAny (model prog w) A (call (.type "enumerate") [v]) Q E s := by
  refine callType_new F.called_enumerate (by decide) (F.typeCall_enumerate_1 _) (F.newCall_enumerate_1 _) (fun obj => F.args_object_init_2 obj _) F.entry_enumerate_new
    (meets_enumT B) ⟨h1, ?_⟩
  have hz : (s.heap.push o).objs.size = s.heap.objs.size + 1 := Heap.size_push ..
  show _ ∧ _
  rw [hz]
  have he : IsEnum ((s.heap.push o).push { cls := .type "enumerate", data := .fields #[.none, .bool false, .ref s.heap.objs.size, rawInt 0, .none, .none] }) (s.heap.objs.size + 1) s.heap.objs.size 0 .none := by
    have := Heap.get?_push_size (s.heap.push o) (o := { cls := .type "enumerate", data := .fields #[.none, .bool false, .ref s.heap.objs.size, rawInt 0, .none, .none] }) rfl
    rw [hz] at this; exact this
  refine ⟨⟨_, he, rfl⟩, h _ he (Heap.get?_push_of_some _ (Heap.get?_push_size _ B.free)) (by rw [Heap.size_push, hz]) fun b o x => Heap.get?_push_of_some _ (Heap.get?_push_of_some _ x)⟩
/-! the tuple that it gave last is held by somebody -/
theorem en_next_held {e it T : Addr} {fp : List Addr} {n i : Nat} {c : Int} {P : Nat → Value → Prop} {St : Nat → Heap → Prop} {old : Value} {f : Bool} {oT : Obj} {Q : Value → Shared → Prop}
    (D : Draws prog w A it fp n P St) (he : IsEnumHeld s.heap e it c old T f) (hT : s.heap.get? T = some oT) (hTe : T ≠ e) (hTi : T ≠ it) (hst : St i s.heap) (hlt : i < n) (hne : e ≠ it) (hef : e ∉ fp)
    (hQ : ∀ x h' tk, P i x → IsEnumHeld h' e it (c + 1) old T true → St (i + 1) h' →
      h'.get? s.heap.objs.size = some { cls := .type "tuple", data := .seq #[.int c tk, x] } → h'.objs.size = s.heap.objs.size + 1 →
      (∀ b o, b ≠ e → b ≠ it → s.heap.get? b = some o → h'.get? b = some o) → Q (.ref s.heap.objs.size) { s with heap := h', toks := tk + 1 }) :
    wpAny (model prog w) A (Builtin.«enumerate.__next__» ⟨[.ref e], []⟩) (fun fin s' => ∃ v, fin = .done (.ret v) ∧ Q v s') E s := by
  obtain ⟨hp, g, d, tk₀, os⟩ := s
  show wpAny _ _ (field (.ref e) 2 >>= _) _ _ _
  refine wpAny_bind (wpAny_field he rfl (x := .ref it) rfl ?_)
  refine wpAny_bind (D.item i _ _ _ hlt hst fun x h₁ tk hPx hit₁ hs₁ => ?_)
  replace hs₁ : Heap.SameBut it hp h₁ := hs₁
  have he₁ : IsEnumHeld h₁ e it c old T f := (hs₁.2 e hne).trans he
  show wpAny _ _ (field (.ref e) 3 >>= _) _ _ ⟨h₁, g, d, tk, os⟩
  refine wpAny_bind (wpAny_field he₁ rfl (x := rawInt c) rfl ?_)
  show wpAny _ _ (field (.ref e) 4 >>= _) _ _ ⟨h₁, g, d, tk, os⟩
  refine wpAny_bind (wpAny_field he₁ rfl (x := .none) rfl ?_)
  show wpAny _ _ (mkInt c >>= _) _ _ ⟨h₁, g, d, tk, os⟩
  refine wpAny_bind (wpAny_mkInt ?_)
  show wpAny _ _ (setField (.ref e) 3 (rawInt (c + 1)) >>= _) _ _ ⟨h₁, g, d, tk + 1, os⟩
  refine wpAny_bind (wpAny_setField_rec he₁ (by simp) fun h₂ he₂ hs₂ => ?_)
  replace hs₂ : Heap.SameBut e h₁ h₂ := hs₂
  replace he₂ : IsEnumHeld h₂ e it (c + 1) old T f := he₂
  show wpAny _ _ (setField (.ref e) 4 .none >>= _) _ _ ⟨h₂, g, d, tk + 1, os⟩
  refine wpAny_bind (wpAny_setField_rec he₂ (by simp) fun h₃ he₃ hs₃ => ?_)
  replace hs₃ : Heap.SameBut e h₂ h₃ := hs₃
  replace he₃ : IsEnumHeld h₃ e it (c + 1) old T f := he₃
  show wpAny _ _ (newTuple [.int c tk, x] >>= _) _ _ ⟨h₃, g, d, tk + 1, os⟩
  refine wpAny_bind (wpAny_newTuple ?_)
  have he₄ : IsEnumHeld (h₃.push { cls := .type "tuple", data := .seq #[.int c tk, x] }) e it (c + 1) old T f := Heap.get?_push_of_some _ he₃
  generalize hh₄ : h₃.push { cls := .type "tuple", data := .seq #[.int c tk, x] } = h₄ at he₄
  have hsz : h₃.objs.size = hp.objs.size := by rw [hs₃.1, hs₂.1, hs₁.1]
  have hel : e < hp.objs.size := Heap.lt_size he
  have ht₄ : h₄.get? hp.objs.size = some { cls := .type "tuple", data := .seq #[.int c tk, x] } := by rw [← hh₄, ← hsz]; exact Heap.get?_push_size _ rfl
  have hz₄ : h₄.objs.size = hp.objs.size + 1 := by rw [← hh₄, Heap.size_push, hsz]
  have hk₄ : ∀ b o, b ≠ e → b ≠ it → hp.get? b = some o → h₄.get? b = some o := fun b o hbe hbi hb => by
    rw [← hh₄]; exact Heap.get?_push_of_some _ (hs₃.extBut b o hbe (hs₂.extBut b o hbe (hs₁.extBut b o hbi hb)))
  have hit₄ : St (i + 1) h₄ := D.frame _ _ _ hit₁ fun b hb o y => by
    have hbe : b ≠ e := fun q => hef (q ▸ hb)
    rw [← hh₄]; exact Heap.get?_push_of_some _ (hs₃.extBut b o hbe (hs₂.extBut b o hbe y))
  show wpAny _ _ (Builtin.SmallTypes.ownedTupleIsFree (.ref e) >>= _) _ _ ⟨h₄, g, d, tk + 1, os⟩
  rw [hsz]
  clear hh₄ he₃ hs₃ he₂ hs₂ he₁ hs₁ hit₁ hsz h₃ h₂ h₁
  refine wpAny_bind (wpAny_tupleHeld_enum (s := ⟨h₄, g, d, tk + 1, os⟩) he₄ (hk₄ T oT hTe hTi hT) fun h₅ he₅ hs₅ => ?_)
  replace hs₅ : Heap.SameBut e h₄ h₅ := hs₅
  simp only [Bool.false_eq_true, if_false]
  refine wpAny_pure ⟨_, rfl, hQ x h₅ tk hPx he₅ (D.frame _ _ _ hit₄ fun b hb o y => hs₅.extBut b o (fun q => hef (q ▸ hb)) y) (hs₅.extBut _ _ (Nat.ne_of_gt hel) ht₄) ?_ fun b o hbe hbi hb => hs₅.extBut b o hbe (hk₄ b o hbe hbi hb)⟩
  show h₅.objs.size = hp.objs.size + 1
  rw [hs₅.1, hz₄]
theorem en_pyNext_held {e it T : Addr} {fp : List Addr} {n i : Nat} {c : Int} {P : Nat → Value → Prop} {St : Nat → Heap → Prop} {old : Value} {f : Bool} {oT : Obj} {Q : Option Value → Shared → Prop}
    (D : Draws prog w A.in1 it fp n P St) (he : IsEnumHeld s.heap e it c old T f) (hT : s.heap.get? T = some oT) (hTe : T ≠ e) (hTi : T ≠ it) (hst : St i s.heap) (hlt : i < n) (hne : e ≠ it) (hef : e ∉ fp)
    (hQ : ∀ x h' tk, P i x → IsEnumHeld h' e it (c + 1) old T true → St (i + 1) h' →
      h'.get? s.heap.objs.size = some { cls := .type "tuple", data := .seq #[.int c tk, x] } → h'.objs.size = s.heap.objs.size + 1 →
      (∀ b o, b ≠ e → b ≠ it → s.heap.get? b = some o → h'.get? b = some o) → Q (some (.ref s.heap.objs.size)) { s with heap := h', toks := tk + 1 }) :
    wpAny (model prog w) A (pyNext (.ref e)) Q E s := by
  have hTy : s.TypeIs (.ref e) "enumerate" := ⟨_, he, rfl⟩
  unfold pyNext
  exact wpAny_bind (wpAny_attempt (wpAny_callSpecial?_slot (name := Str.ofString "__next__") hTy F.slot_enumerate_next
    (wpAny_call_entry F.slot_enumerate_next hTy F.entry_enumerate_next
      (en_next_held D he hT hTe hTi hst hlt hne hef fun x h' tk a1 a2 a3 a4 a5 a6 => wpAny_pure (hQ x h' tk a1 a2 a3 a4 a5 a6)) (F.args_enumerate_next_1 _))))
theorem en_pyNext_end {e it T : Addr} {fp : List Addr} {n : Nat} {c : Int} {P : Nat → Value → Prop} {St : Nat → Heap → Prop} {old : Value} {f : Bool} {Q : Option Value → Shared → Prop}
    (D : Draws prog w A.in1 it fp n P St) (he : IsEnumHeld s.heap e it c old T f) (hst : St n s.heap)
    (hQ : ∀ h', Heap.ExtBut it s.heap h' → Q none { s with heap := h' }) : wpAny (model prog w) A (pyNext (.ref e)) Q E s := by
  have hTy : s.TypeIs (.ref e) "enumerate" := ⟨_, he, rfl⟩
  unfold pyNext
  refine wpAny_bind (wpAny_attempt (wpAny_callSpecial?_slot (name := Str.ofString "__next__") hTy F.slot_enumerate_next
    (wpAny_call_entry F.slot_enumerate_next hTy F.entry_enumerate_next ?_ (F.args_enumerate_next_1 _))))
  show wpAny _ _ (field (.ref e) 2 >>= _) _ _ _
  refine wpAny_bind (wpAny_field he rfl (x := .ref it) rfl ?_)
  refine wpAny_bind (D.done _ _ _ hst fun h' x he' hx' => ?_)
  obtain ⟨o, ho, hc⟩ := hx'
  refine wpAny_bind (wpAny_isInstance (T := "StopIteration") (b := true) ⟨o, ho, hc⟩ isSubtype_stop ?_)
  exact wpAny_pure (hQ _ he')
end
theorem enum_nolen : typeLookup (.type "enumerate") "__len__" = pure none := am_miss_of_fast (by decide +kernel)
theorem enum_nohint : typeLookup (.type "enumerate") "__length_hint__" = pure none := am_miss_of_fast (by decide +kernel)
/-! ### list(enumerate(..)) of a tuple, the loop -/
def EnSt (h : Heap) (e it t S : Addr) (its : Array Value) (i : Nat) : Prop :=
  (h.IsTupleIter it t i ∧ h.IsTuple t its) ∧ ((∃ old, IsEnum h e it (i : Int) old) ∨ ∃ old T f oT, IsEnumHeld h e it (i : Int) old T f ∧ h.get? T = some oT ∧ T ≠ e ∧ T ≠ it ∧ T ≠ S)
theorem EnSt.keep {h h' : Heap} {e it t S : Addr} {its : Array Value} {i : Nat} (st : EnSt h e it t S its i) (k : ∀ b o, b ≠ S → h.get? b = some o → h'.get? b = some o) (he : e ≠ S) (hi : it ≠ S) (ht : t ≠ S) : EnSt h' e it t S its i := by
  obtain ⟨⟨a, b⟩, c⟩ := st
  refine ⟨⟨a.at fun o q => k _ o hi q, b.at fun o q => k _ o ht q⟩, ?_⟩
  rcases c with ⟨old, c⟩ | ⟨old, T, f, oT, c, d, e1, e2, e3⟩
  · exact .inl ⟨old, k _ _ he c⟩
  · exact .inr ⟨old, T, f, oT, k _ _ he c, k _ _ e3 d, e1, e2, e3⟩
structure EnAs (its : Array Value) (lo : Addr) (h : Heap) (as : List Addr) : Prop where
  rise : as.Pairwise (· < ·)
  above : ∀ a ∈ as, lo ≤ a
  at_ : ∀ j a, as[j]? = some a → ∃ tk x, its[j]? = some x ∧ h.get? a = some (tupO [.int (j : Nat) tk, x] 0)
section
variable {prog : Program} {w : World} {A : Around} {s : Shared} {R : Result → Shared → Prop}
theorem en_loop {S e it t lo : Addr} {its : Array Value} (hh : A.handled = none) (he : e ≠ it) (het : e ≠ t) (htit : t ≠ it) (hSe : e ≠ S) (hSi : it ≠ S) (hSt : t ≠ S) (hn : its.size ≤ sizeLine) (hlo : S < lo) (res : Value) {h₁ : Heap}
    (hR : ∀ h' tk acc c as, (∀ b o, b ≠ S → b ≠ e → b ≠ it → h₁.get? b = some o → h'.get? b = some o) → h'.get? S = some { cls := .type "list", dict := none, data := .seq acc c, slots := #[] } → as.length = its.size → EnAs its lo h' as →
      acc.toList = as.map Value.ref → R (.ok (.ret res)) { s with heap := h', toks := tk }) :
    ∀ (k i : Nat) (h : Heap) (tk c : Nat) (acc : Array Value) (as : List Addr), its.size - i = k → i ≤ its.size → EnSt h e it t S its i → (∀ b o, b ≠ S → b ≠ e → b ≠ it → h₁.get? b = some o → h.get? b = some o) →
      h.get? S = some { cls := .type "list", dict := none, data := .seq acc c, slots := #[] } → acc.toList = as.map Value.ref → as.length = i → EnAs its lo h as → (∀ a ∈ as, a < h.objs.size) → (∀ a ∈ as, a ≠ e ∧ a ≠ it) → lo ≤ h.objs.size →
      codeAny (model prog w) A (.builtin "list.extend.loop" ⟨[.ref S, .ref e, res], []⟩) R { s with heap := h, toks := tk } := by
  have D := Draws.tuple (prog := prog) (w := w) (A := A.in1.in1) (show A.in1.in1.handled = none from hh) it t htit its
  have hef : e ∉ [it, t] := by simp [he, het]
  intro k
  induction k with
  | zero =>
    intro i h tk c acc as hk hi hst hkeep hS hacc hal hG hlt hne hls
    have hin : i = its.size := by omega
    subst hin
    refine codeAny_builtin PySem.F.entry_extend_loop ?_
    rw [Around.under_plainId PySem.F.plain_extend_loop _]
    show wpAny _ A.in1 (pyNext (.ref e) >>= _) _ _ _
    have fin : ∀ h', Heap.ExtBut it h h' → R (.ok (.ret res)) { s with heap := h', toks := tk } := fun h' hx =>
      hR h' tk acc c as (fun b o h1 h2 h3 q => hx b o h3 (hkeep b o h1 h2 h3 q)) (hx S _ (Ne.symm hSi) hS) hal ⟨hG.rise, hG.above, fun j a hj => by
        obtain ⟨t1, x, e1, e2⟩ := hG.at_ j a hj
        exact ⟨t1, x, e1, hx a _ (hne a (List.mem_of_getElem? hj)).2 e2⟩⟩ hacc
    obtain ⟨hd, hen⟩ := hst
    rcases hen with ⟨old, hen⟩ | ⟨old, T, f, oT, hen, hT, r1, r2, r3⟩
    · exact wpAny_bind (wpAny_pyNext_enum_endD (s := { s with heap := h, toks := tk }) D hen hd fun h' hx => wpAny_pure (fin h' hx))
    · exact wpAny_bind (en_pyNext_end (s := { s with heap := h, toks := tk }) D hen hd fun h' hx => wpAny_pure (fin h' hx))
  | succ k ih =>
    intro i h tk c acc as hk hi hst hkeep hS hacc hal hG hlt hne hls
    have hil : i < its.size := by omega
    have hsz : acc.size = i := by rw [← Array.length_toList, hacc, List.length_map, hal]
    have hel : e < h.objs.size := by
      rcases hst.2 with ⟨old, q⟩ | ⟨old, T, f, oT, q, _⟩
      · exact Heap.lt_size q
      · exact Heap.lt_size q
    have hitl : it < h.objs.size := by obtain ⟨⟨⟨o, q, _⟩, _⟩, _⟩ := hst; exact Heap.lt_size q
    have hSl : S < h.objs.size := Heap.lt_size hS
    refine codeAny_builtin PySem.F.entry_extend_loop ?_
    rw [Around.under_plainId PySem.F.plain_extend_loop _]
    show wpAny _ A.in1 (pyNext (.ref e) >>= _) _ _ _
    have ec : ((i + 1 : Nat) : Int) = (i : Int) + 1 := by omega
    have go : ∀ x h' tk', its[i]? = some x → EnSt h' e it t S its (i + 1) → h'.get? h.objs.size = some { cls := .type "tuple", data := .seq #[.int (i : Nat) tk', x] } → h'.objs.size = h.objs.size + 1 →
        (∀ b o, b ≠ e → b ≠ it → h.get? b = some o → h'.get? b = some o) → wpAny (model prog w) A.in1 (updateSeq S (·.push (.ref h.objs.size)) >>= fun _ => again (.builtin "list.extend.loop" ⟨[.ref S, .ref e, res], []⟩))
          (fun fin s' => match fin with | .done f => R (.ok f) s' | .again c' => c'.quiet = true ∧ codeAny (model prog w) A c' R s') (fun e s' => R (.error e) s') { s with heap := h', toks := tk' + 1 } := by
      intro x h' tk' hx hst' hT hsz' hkp
      have hS' := hkp S _ (Ne.symm hSe) (Ne.symm hSi) hS
      have up : ∀ b o, b ≠ S → h'.get? b = some o → (h'.update S (Obj.mapSeq (·.push (Value.ref h.objs.size)))).get? b = some o := fun b o hb e => (Heap.get?_update_other _ _ (Ne.symm hb)).trans e
      refine wpAny_bind ?_
      refine wpAny_updateSeq hS' rfl (wpAny_pure ⟨plainId_quiet PySem.F.plain_extend_loop _, ih (i + 1) _ (tk' + 1) _ (acc.push (Value.ref h.objs.size)) (as ++ [h.objs.size]) (by omega) hil (hst'.keep up hSe hSi hSt)
        (fun b o h1 h2 h3 q => up b o h1 (hkp b o h2 h3 (hkeep b o h1 h2 h3 q))) (Heap.get?_update_self _ hS' rfl) (by rw [Array.toList_push, hacc, List.map_append]; rfl) (by rw [List.length_append, hal]; rfl) ⟨?_, ?_, ?_⟩ ?_ ?_ ?_⟩) (by rw [hsz]; omega) (by show (acc.push (Value.ref h.objs.size)).size ≤ sizeLine + 1; rw [Array.size_push, hsz]; omega)
      · refine List.pairwise_append.mpr ⟨hG.rise, List.pairwise_singleton _ _, fun a ha b hb => ?_⟩
        rw [List.mem_singleton.mp hb]
        exact hlt a ha
      · intro a ha
        rcases List.mem_append.mp ha with ha | ha
        · exact hG.above a ha
        · rw [List.mem_singleton.mp ha]; exact hls
      · intro j b hj
        rcases Nat.lt_trichotomy j as.length with h1 | h1 | h1
        · rw [List.getElem?_append_left h1] at hj
          obtain ⟨t1, y, e1, e3⟩ := hG.at_ j b hj
          have hb := List.mem_of_getElem? hj
          exact ⟨t1, y, e1, up b _ (Nat.ne_of_gt (Nat.lt_of_lt_of_le hlo (hG.above b hb))) (hkp b _ (hne b hb).1 (hne b hb).2 e3)⟩
        · subst h1
          have hb : h.objs.size = b := by simpa using hj
          subst hb
          rw [hal]
          exact ⟨tk', x, hx, up _ _ (Nat.ne_of_gt hSl) hT⟩
        · have hnone : (as ++ [h.objs.size])[j]? = none := List.getElem?_eq_none (by rw [List.length_append, List.length_singleton]; omega)
          rw [hnone] at hj; cases hj
      · intro a ha
        have hz2 : (h'.update S (Obj.mapSeq (·.push (Value.ref h.objs.size)))).objs.size = h'.objs.size := Heap.size_update ..
        rw [hz2, hsz']
        rcases List.mem_append.mp ha with ha | ha
        · exact Nat.lt_succ_of_lt (hlt a ha)
        · rw [List.mem_singleton.mp ha]; exact Nat.lt_succ_self _
      · intro a ha
        rcases List.mem_append.mp ha with ha | ha
        · exact hne a ha
        · rw [List.mem_singleton.mp ha]; exact ⟨Nat.ne_of_gt hel, Nat.ne_of_gt hitl⟩
      · have hz2 : (h'.update S (Obj.mapSeq (·.push (Value.ref h.objs.size)))).objs.size = h'.objs.size := Heap.size_update ..
        rw [hz2, hsz']
        exact Nat.le_succ_of_le hls
    obtain ⟨hd, hen⟩ := hst
    rcases hen with ⟨old, hen⟩ | ⟨old, T, f, oT, hen, hT, r1, r2, r3⟩
    · refine wpAny_bind (wpAny_pyNext_enum_itemC (s := { s with heap := h, toks := tk }) D hen hd hil he hef fun x h' tk' hx ho hst' hT' hsz' hkp => ?_)
      exact go x h' tk' hx ⟨hst', .inr ⟨x, h.objs.size, false, _, by rw [ec]; exact ho, hT', Nat.ne_of_gt hel, Nat.ne_of_gt hitl, Nat.ne_of_gt hSl⟩⟩ hT' hsz' hkp
    · refine wpAny_bind (en_pyNext_held (s := { s with heap := h, toks := tk }) D hen hT r1 r2 hd hil he hef fun x h' tk' hx ho hst' hT' hsz' hkp => ?_)
      exact go x h' tk' hx ⟨hst', .inr ⟨old, T, true, oT, by rw [ec]; exact ho, hkp _ _ r1 r2 hT, r1, r2, r3⟩⟩ hT' hsz' hkp
end
section
variable {prog : Program} {w : World} {A : Around} {E : Value → Shared → Prop} {s : Shared}
theorem call_list_enum {e it t : Addr} {its : Array Value} {old : Value} {Q : Value → Shared → Prop} (hh : A.handled = none) (hen : IsEnum s.heap e it 0 old) (hit : s.heap.IsTupleIter it t 0) (ht : s.heap.IsTuple t its) (he : e ≠ it) (het : e ≠ t) (htit : t ≠ it) (hn : its.size ≤ sizeLine)
    (hQ : ∀ h' tk acc c as, (∀ b o, b ≠ e → b ≠ it → s.heap.get? b = some o → h'.get? b = some o) → h'.get? s.heap.objs.size = some { cls := .type "list", dict := none, data := .seq acc c, slots := #[] } → as.length = its.size → EnAs its (s.heap.objs.size + 1) h' as →
      acc.toList = as.map Value.ref → Q (.ref s.heap.objs.size) { s with heap := h', toks := tk }) :
    wpAny (model prog w) A (call (.type "list") [.ref e]) Q E s := by
  have hel : e < s.heap.objs.size := Heap.lt_size hen
  have hitl : it < s.heap.objs.size := by obtain ⟨o, q, _⟩ := hit; exact Heap.lt_size q
  have htl : t < s.heap.objs.size := by obtain ⟨o, q, _⟩ := ht; exact Heap.lt_size q
  have hSe : e ≠ s.heap.objs.size := Nat.ne_of_lt hel
  have hSi : it ≠ s.heap.objs.size := Nat.ne_of_lt hitl
  have hSt : t ≠ s.heap.objs.size := Nat.ne_of_lt htl
  refine callType_codes (Q₁ := fun obj s₁ => obj = .ref s.heap.objs.size ∧ s₁ = { s with heap := s.heap.push { cls := .type "list", data := .seq #[] } }) F.called_list (F.typeCall_list_1 _) F.entry_list_init
    (code_list_new _ ⟨rfl, rfl⟩) fun obj s₁ h₁ => ?_
  obtain ⟨rfl, rfl⟩ := h₁
  have hS : (s.heap.push { cls := .type "list", data := .seq #[] }).get? s.heap.objs.size = some { cls := .type "list", data := .seq #[] } := Heap.get?_push_size _ rfl
  refine ⟨⟨_, hS, rfl⟩, F.args_list_init_2 _ _, ?_⟩
  show wpAny _ A.in1.in1 (do let old ← Builtin.List.listItems (.ref s.heap.objs.size); Builtin.List.listUpdate (.ref s.heap.objs.size) (fun _ => #[]); letGo old.toList.reverse; Builtin.List.listExtendWith (.ref s.heap.objs.size) (.ref e) .none) _ _ _
  refine wpAny_bind ?_
  unfold Builtin.List.listItems
  refine wpAny_bind (wpAny_seqItems hS rfl (wpAny_pure ?_))
  show wpAny _ A.in1.in1 (updateSeq s.heap.objs.size (fun _ => #[]) >>= fun _ => letGo (#[] : Array Value).toList.reverse >>= fun _ => Builtin.List.listExtendWith (.ref s.heap.objs.size) (.ref e) .none) _ _ _
  refine wpAny_bind (wpAny_updateSeq hS rfl ?_)
  have hS2 := Heap.get?_update_self (Obj.mapSeq (fun _ => (#[] : Array Value))) hS rfl
  refine wpAny_bind (wpAny_letGo ?_)
  unfold Builtin.List.listExtendWith
  have up : ∀ (h : Heap) (f : Obj → Obj), (∀ b o, s.heap.get? b = some o → h.get? b = some o) → ∀ b o, s.heap.get? b = some o → (h.update s.heap.objs.size f).get? b = some o := fun h f q b o e =>
    (Heap.get?_update_other _ _ (Ne.symm (Nat.ne_of_lt (Heap.lt_size e)))).trans (q b o e)
  have k1 : ∀ b o, s.heap.get? b = some o → (s.heap.push { cls := .type "list", data := .seq #[] }).get? b = some o := fun b o e => Heap.get?_push_of_some _ e
  have k2 := up _ (Obj.mapSeq (fun _ => (#[] : Array Value))) k1
  have ty : ∀ {h : Heap}, (∀ b o, s.heap.get? b = some o → h.get? b = some o) → ({ s with heap := h } : Shared).TypeIs (.ref e) "enumerate" := fun {h} q => ⟨_, q _ _ hen, rfl⟩
  refine wpAny_bind (wpAny_typeOf (ty k2) ?_)
  have h1 : Builtin.List.listSameRef (.ref s.heap.objs.size) (.ref e) = false := by simp [Builtin.List.listSameRef, Ne.symm hSe]
  have h2 : (Value.type "enumerate" == Value.type "list") = false := by decide
  have h3 : (Value.type "enumerate" == Value.type "tuple") = false := by decide
  simp only [h1, h2, h3, Bool.or_false, Bool.false_eq_true, if_false]
  refine wpAny_bind (wpAny_pyIter_enum (s := { s with heap := _ }) (k2 _ _ hen) ?_)
  refine wpAny_bind (wpAny_holding ?_)
  unfold Builtin.List.listLengthHint
  refine wpAny_bind (wpAny_specialOf (ty k2) enum_nolen ?_)
  show wpAny _ A.in1.in1 (specialOf (Value.ref e) (Str.ofString "__length_hint__") >>= _) _ _ _
  refine wpAny_bind (wpAny_specialOf (ty k2) enum_nohint ?_)
  refine wpAny_pure ?_
  show wpAny _ A.in1.in1 (rule "list.extend.makes-room" >>= fun _ => Builtin.List.listTouch (.ref s.heap.objs.size) >>= fun _ =>
    again (.builtin "list.extend.loop" ⟨[.ref s.heap.objs.size, .ref e, .none], []⟩)) _ _ _
  refine wpAny_bind (wpAny_rule ?_)
  refine wpAny_bind ?_
  show wpAny _ A.in1.in1 (updateSeq s.heap.objs.size (·.push .none) >>= fun _ => updateSeq s.heap.objs.size (·.pop)) _ _ _
  refine wpAny_bind (wpAny_updateSeq hS2 rfl ?_)
  have hS3 := Heap.get?_update_self (Obj.mapSeq (·.push Value.none)) hS2 rfl
  refine wpAny_updateSeq (hz := by seq_fits) hS3 rfl ?_
  have hS4 := Heap.get?_update_self (Obj.mapSeq (·.pop)) hS3 rfl
  have k4 := up _ (Obj.mapSeq (·.pop)) (up _ (Obj.mapSeq (·.push Value.none)) k2)
  have sz4 : ∀ (h : Heap) (f : Obj → Obj), (h.update s.heap.objs.size f).objs.size = h.objs.size := fun h f => Heap.size_update ..
  refine wpAny_pure ⟨plainId_quiet F.plain_extend_loop _, ?_⟩
  refine en_loop (A := A.in1) (s := s) (h₁ := s.heap) (lo := s.heap.objs.size + 1) hh he het htit hSe hSi hSt hn (Nat.lt_succ_self _) .none (fun h' tk acc c as q1 q2 q3 q4 q5 => ⟨rfl, hQ h' tk acc c as (fun b o b1 b2 q => q1 b o (Nat.ne_of_lt (Heap.lt_size q)) b1 b2 q) q2 q3 q4 q5⟩)
    its.size 0 _ s.toks _ _ [] (Nat.sub_zero _) (Nat.zero_le _) ⟨⟨hit.at fun o q => k4 _ o q, ht.at fun o q => k4 _ o q⟩, .inl ⟨_, k4 _ _ hen⟩⟩ (fun b o _ _ _ q => k4 b o q) hS4 rfl rfl
    ⟨List.Pairwise.nil, (fun a ha => nomatch ha), (fun j a hj => by simp at hj)⟩ (fun a ha => nomatch ha) (fun a ha => nomatch ha) ?_
  rw [sz4, sz4, sz4, Heap.size_push]
  exact Nat.le_refl _
end
/-! ### many new objects at once -/
def updAll (H : Hp) : List (Addr × HO) → Hp
  | [] => H
  | p :: ps => updAll (upd H p.1 p.2) ps
theorem updAll_ne : ∀ {ps : List (Addr × HO)} {H : Hp} {b : Addr}, (∀ p ∈ ps, b ≠ p.1) → updAll H ps b = H b
  | [], H, b, _ => rfl
  | p :: ps, H, b, h => by
    rw [updAll, updAll_ne fun q hq => h q (by simp [hq]), upd_ne (h p (by simp))]
theorem updAll_mem : ∀ {ps : List (Addr × HO)} {H : Hp} {p : Addr × HO}, (ps.map (·.1)).Nodup → p ∈ ps → updAll H ps p.1 = some p.2
  | q :: ps, H, p, hn, hp => by
    rw [List.map_cons, List.nodup_cons] at hn
    rcases List.mem_cons.mp hp with rfl | hp
    · rw [updAll, updAll_ne fun r hr (z : p.1 = r.1) => hn.1 (by rw [z]; exact List.mem_map_of_mem hr), upd_same]
    · rw [updAll, updAll_mem hn.2 hp]
theorem Ext.all {K : PySem.W.Frag} : ∀ {ps : List (Addr × HO)} {H : Hp}, (ps.map (·.1)).Nodup → (∀ p ∈ ps, H p.1 = none) → Ext K H (updAll H ps)
  | [], H, _, _ => Ext.refl K H
  | p :: ps, H, hn, h => by
    rw [List.map_cons, List.nodup_cons] at hn
    refine (Ext.fresh (h p (by simp))).trans (Ext.all (H := upd H p.1 p.2) hn.2 fun q hq => ?_)
    rw [upd_ne fun (z : q.1 = p.1) => hn.1 (by rw [← z]; exact List.mem_map_of_mem hq)]
    exact h q (by simp [hq])
theorem HR.all {K : PySem.W.Frag} {mg : Str → Option Value} {r : List Addr} {st : Store} : ∀ {ps : List (Addr × HO)} {H : Hp}, (ps.map (·.1)).Nodup → (∀ p ∈ ps, H p.1 = none) → HR K mg H r st → HR K mg (updAll H ps) r st
  | [], H, _, _, hr => hr
  | p :: ps, H, hn, h, hr => by
    rw [List.map_cons, List.nodup_cons] at hn
    refine HR.all (H := upd H p.1 p.2) hn.2 (fun q hq => ?_) (hr.tup (h p (by simp)))
    rw [upd_ne fun (z : q.1 = p.1) => hn.1 (by rw [← z]; exact List.mem_map_of_mem hq)]
    exact h q (by simp [hq])
/-- new tuples, of which the objects are known -/
theorem Inv.tups {X : Cx} {pins : List (Addr × Obj)} {σ : L2.St} {H : Hp} {s : Shared} {h' : Heap} {t' : Nat} (I : Inv X pins σ H s) (k : ∀ b u, s.heap.get? b = some u → h'.get? b = some u) (ps : List (Addr × HO)) (hn : (ps.map (·.1)).Nodup) (hl : ∀ p ∈ ps, s.heap.objs.size ≤ p.1)
    (ok : ∀ p ∈ ps, ∃ its vs, p.2 = .frz (tupO its 0) (.tup vs) ∧ h'.get? p.1 = some (tupO its 0) ∧ Vals vs its ∧ vs.length ≤ sizeLine) : Inv X pins σ (updAll H ps) { s with heap := h', toks := t' } := by
  have fr : ∀ p ∈ ps, H p.1 = none := fun p hp => I.hok.fresh (hl p hp)
  have old : ∀ b u, H b = some u → updAll H ps b = some u := fun b u e => by
    rw [updAll_ne fun p hp z => by subst z; rw [fr p hp] at e; cases e]; exact e
  refine I.un ⟨fun b u q _ _ _ => k b u q, fun b u q _ _ _ => ⟨u.slots, k b u q⟩, fun b u q n _ => ?_, fun b u q _ => ⟨u, k b u q⟩, fun b xs q => old _ _ q, fun b o u q => old _ _ q, fun b ps q => ⟨#[], by rw [old _ _ q]; simp⟩⟩ fun b u e => ?_
  · rw [updAll_ne fun p hp z => by subst z; exact absurd (Heap.lt_size q) (Nat.not_lt.mpr (hl p hp))]
    exact n
  · by_cases hb : ∃ p ∈ ps, b = p.1
    · obtain ⟨p, hp, rfl⟩ := hb
      rw [updAll_mem hn hp] at e
      cases e
      obtain ⟨its, vs, e1, e2, e3, e4⟩ := ok p hp
      rw [e1]
      exact ⟨e2, e4, its, e3, _, e2, rfl, 0, rfl⟩
    · have nb : ∀ p ∈ ps, b ≠ p.1 := fun p hp z => hb ⟨p, hp, z⟩
      rw [updAll_ne nb] at e
      exact (I.hok b u e).stay (fun c v _ q => k c v q) (fun c q => old _ _ q) fun c xs q => old _ _ q
end Mi

namespace Mi
open PySem PySem.Spec PyProof.Rows L2
noncomputable section
open Classical
variable {X : Cx} {W : WX}
theorem updAll_app : ∀ (ps : List (Addr × HO)) (H : Hp) (q : Addr × HO), updAll H (ps ++ [q]) = upd (updAll H ps) q.1 q.2
  | [], H, q => rfl
  | p :: ps, H, q => by rw [List.cons_append, updAll, updAll, updAll_app]
theorem Inv.many {pins : List (Addr × Obj)} {σ : L2.St} {H : Hp} {s : Shared} {h' : Heap} {t' : Nat} (I : Inv X pins σ H s) (k : ∀ b u, s.heap.get? b = some u → h'.get? b = some u) (ps : List (Addr × HO)) (hn : (ps.map (·.1)).Nodup) (hl : ∀ p ∈ ps, s.heap.objs.size ≤ p.1)
    (ok : ∀ p ∈ ps, ObjOk X.prog X.w (updAll H ps) h' p.1 p.2) : Inv X pins σ (updAll H ps) { s with heap := h', toks := t' } := by
  have fr : ∀ p ∈ ps, H p.1 = none := fun p hp => I.hok.fresh (hl p hp)
  have old : ∀ b u, H b = some u → updAll H ps b = some u := fun b u e => by
    rw [updAll_ne fun p hp z => by subst z; rw [fr p hp] at e; cases e]; exact e
  refine I.un ⟨fun b u q _ _ _ => k b u q, fun b u q _ _ _ => ⟨u.slots, k b u q⟩, fun b u q n _ => ?_, fun b u q _ => ⟨u, k b u q⟩, fun b xs q => old _ _ q, fun b o u q => old _ _ q, fun b ps q => ⟨#[], by rw [old _ _ q]; simp⟩⟩ fun b u e => ?_
  · rw [updAll_ne fun p hp z => by subst z; exact absurd (Heap.lt_size q) (Nat.not_lt.mpr (hl p hp))]
    exact n
  · by_cases hb : ∃ p ∈ ps, b = p.1
    · obtain ⟨p, hp, rfl⟩ := hb
      rw [updAll_mem hn hp] at e
      cases e
      exact ok p hp
    · have nb : ∀ p ∈ ps, b ≠ p.1 := fun p hp z => hb ⟨p, hp, z⟩
      rw [updAll_ne nb] at e
      exact (I.hok b u e).stay (fun c v _ q => k c v q) (fun c q => old _ _ q) fun c xs q => old _ _ q
theorem enD_len (ds : List D) : (enD ds).length = ds.length := by unfold enD; simp
def eEnL (f : Ex) : Ex := fun env st => (f env st).bind fun d s => match d with
  | .tup ds => .ok (.adr s.length) (s ++ [.lst (enD ds)])
  | _ => .no
theorem rpl_map {K : PySem.W.Frag} {H : Hp} {r : List Addr} {f : Nat → D} {g : Nat → V} : ∀ l : List Nat, (∀ i ∈ l, Rp K H r (f i) (g i)) → RpL K H r (l.map f) (l.map g)
  | [], _ => RpL.nil
  | i :: l, h => RpL.cons (h i (by simp)) (rpl_map l fun j hj => h j (by simp [hj]))
theorem m_enl {e : Expr} {f : Ex} {p p2 p3 pos : Pos} (hc : X.calm = true) (hgl : Gl X "list") (hml : X.mg "list" = none) (hg : Gl X "enumerate") (hm : X.mg "enumerate" = none) (hf : PEm X W e f)
    (na : starEach [e] X.env = (false, eval e X.env) :: starEach [] X.env := by rfl) (nb : starEach [.Call (.Name "enumerate" p) [e] [] p2] X.env = (false, eval (.Call (.Name "enumerate" p) [e] [] p2) X.env) :: starEach [] X.env := by rfl) :
    PEm X W (.Call (.Name "list" p3) [.Call (.Name "enumerate" p) [e] [] p2] [] pos) (eEnL f) := by
  refine ⟨fun pins s σ H Q I h => ?_⟩
  have h2 : tM X W f σ H (fun x H1 => ∃ t vs r st ds, x = .ref t ∧ SqT X.K H1 t vs ∧ HR X.K X.mg H1 r st ∧ RpL X.K H1 r ds vs ∧ ∀ v H' r', Grow X.K X.mg H1 r (st ++ [.lst (enD ds)]) H' r' → Rp X.K H' r' (.adr st.length) v → Q v H') := by
    refine tG_seq (Ra := RV X) h fun d x H1 env r st er hr rd p => ?_
    cases d with
    | tup ds =>
      obtain ⟨a, vs, rfl, t, l⟩ := Rp.tup_iff.mp rd
      exact ⟨a, vs, r, st, ds, rfl, t.seq, hr, l, fun v H' r' g q => p v H' r' g q⟩
    | _ => exact p.elim
  refine Call_ (ld_blt I hgl hml PyProof.Rows.boot_list (PyProof.Rows.callWith_type1 (args_cons (thn (Q := fun v s3 => wpAny (model X.prog X.w) X.A (call (.type "list") [v]) (EP X pins σ Q) X.xe s3) ?_ fun v s3 hv => args_nil hv) nb) nb))
  refine Call_ (ld_blt I hg hm PyProof.Rows.boot_enumerate (PyProof.Rows.callWith_type1 (one_arg hf I h2 (fun v s2 x H2 I2 rx q => ?_) na) na))
  obtain ⟨t, vs, r, st, ds, rfl, sq, hr, ls, q⟩ := q
  cases rx
  obtain ⟨its, rv, pl, hz⟩ := I2.tuple sq
  have plT : s2.heap.IsTuple t its.toArray := pl
  have tl : t < s2.heap.objs.size := by obtain ⟨o, q, _⟩ := plT; exact Heap.lt_size q
  refine call_enumT (begins_tuple t its.toArray) plT fun h' he ho hsz hk => ?_
  have hlen := rv.length
  have hld := ls.length
  refine call_list_enum (its := its.toArray) (I2.ok.hd hc) he ⟨_, ho, rfl, rfl⟩ (plT.at fun o e => hk _ o e) (Nat.succ_ne_self _) (Nat.ne_of_gt (Nat.lt_succ_of_lt tl)) (Nat.ne_of_lt tl) (by rw [List.size_toArray]; omega) fun h'' tk acc c as keep hS hal hAs hacc => ?_
  have hal' : as.length = ds.length := by rw [hal, List.size_toArray]; omega
  have k : ∀ b u, s2.heap.get? b = some u → h''.get? b = some u := fun b u e => keep b u (Nat.ne_of_lt (Nat.lt_succ_of_lt (Heap.lt_size e))) (Nat.ne_of_lt (Heap.lt_size e)) (hk b u e)
  have hsz2 : h'.objs.size = s2.heap.objs.size + 2 := hsz
  let ob : Addr → Obj := fun a => (h''.get? a).getD { cls := .none, data := .seq #[] 0 }
  let psT : List (Addr × HO) := (List.range as.length).map fun j => (as.getD j 0, HO.frz (ob (as.getD j 0)) (.tup [.int (j : Nat), vs.getD j .non]))
  have psA : psT.map (·.1) = as := by
    show ((List.range as.length).map _).map _ = as
    rw [List.map_map]
    apply List.ext_getElem
    · simp
    · intro i h1 h2; simp [h2]
  have nd : as.Nodup := hAs.rise.imp fun h => Nat.ne_of_lt h
  have geS : ∀ a ∈ as, h'.objs.size + 1 ≤ a := hAs.above
  have one : ∀ j (hj : j < as.length), ∃ itl, h''.get? as[j] = some (tupO itl 0) ∧ Vals [.int (j : Nat), vs.getD j .non] itl := fun j hj => by
    obtain ⟨tk', x, e1, e2⟩ := hAs.at_ j _ (List.getElem?_eq_getElem hj)
    refine ⟨_, e2, .cons ⟨tk', rfl⟩ (.cons ?_ .nil)⟩
    have hj2 : j < vs.length := by omega
    have e3 : vs.getD j .non = vs[j] := by rw [List.getD_eq_getElem?_getD, List.getElem?_eq_getElem hj2]; rfl
    rw [e3]
    obtain ⟨u, e4, e5⟩ := rv.get (List.getElem?_eq_getElem hj2)
    have : its.toArray[j]? = some u := by simpa using e4
    rw [this] at e1
    cases e1
    exact e5
  have obE : ∀ j (hj : j < as.length), ∃ itl, ob as[j] = tupO itl 0 ∧ h''.get? as[j] = some (tupO itl 0) ∧ Vals [.int (j : Nat), vs.getD j .non] itl := fun j hj => by
    obtain ⟨itl, e1, e2⟩ := one j hj
    exact ⟨itl, by show (h''.get? as[j]).getD _ = _; rw [e1]; rfl, e1, e2⟩
  have frT : ∀ p ∈ psT, s2.heap.objs.size ≤ p.1 := fun p hp => by
    have : p.1 ∈ as := by rw [← psA]; exact List.mem_map_of_mem hp
    have := geS _ this
    exact Nat.le_trans (by rw [hsz2]; exact Nat.le_succ_of_le (Nat.le_add_right _ _)) this
  have hSn : h'.objs.size ∉ as := fun z => absurd (geS _ z) (Nat.not_le.mpr (Nat.lt_succ_self _))
  have nd2 : ((psT ++ [(h'.objs.size, HO.lst (as.map V.ref))]).map (·.1)).Nodup := by
    rw [List.map_append, psA, List.nodup_append]
    exact ⟨nd, by simp, fun a ha b hb z => by rw [List.map_singleton, List.mem_singleton] at hb; exact hSn (by have z' : a = h'.objs.size := z.trans hb; rw [← z']; exact ha)⟩
  have sS : s2.heap.objs.size ≤ h'.objs.size := by rw [hsz2]; exact Nat.le_add_right _ _
  have I3 := Inv.many (t' := tk) (h' := h'') I2 k (psT ++ [(h'.objs.size, HO.lst (as.map V.ref))]) nd2 (fun p hp => by
    rcases List.mem_append.mp hp with hp | hp
    · exact frT p hp
    · rw [List.mem_singleton] at hp; subst hp; exact sS) (fun p hp => by
    rcases List.mem_append.mp hp with hp | hp
    · obtain ⟨j, hj, rfl⟩ := List.mem_map.mp hp
      have hj' := List.mem_range.mp hj
      have eg : as.getD j 0 = as[j] := by rw [List.getD_eq_getElem?_getD, List.getElem?_eq_getElem hj']; rfl
      obtain ⟨itl, e1, e2, e3⟩ := obE j hj'
      dsimp only
      rw [eg, e1]
      exact ⟨e2, (show 2 ≤ sizeLine by decide), itl, e3, _, e2, rfl, 0, rfl⟩
    · rw [List.mem_singleton] at hp
      subst hp
      refine ⟨by rw [List.length_map, hal']; omega, acc.toList, c, ?_, by rw [Array.toArray_toList]; exact hS⟩
      rw [hacc]
      exact vals_refs as)
  rw [updAll_app] at I3
  have frH : ∀ p ∈ psT, H2 p.1 = none := fun p hp => I2.hok.fresh (frT p hp)
  have ndT : (psT.map (·.1)).Nodup := by rw [psA]; exact nd
  have hrT := hr.all ndT frH
  have exT := Ext.all (K := X.K) ndT frH
  have hnS : updAll H2 psT h'.objs.size = none := by
    rw [updAll_ne fun p hp z => hSn (by rw [← psA, z]; exact List.mem_map_of_mem hp)]
    exact I2.hok.fresh sS
  refine ⟨.ref h'.objs.size, _, I3, rfl, ?_⟩
  refine finL (ds := enD ds) hrT (fun v H' r' g rp => q v H' r' ⟨exT.trans g.1, g.2.1, g.2.2⟩ rp) ?_ hnS
  have em : as.map V.ref = (List.range ds.length).map fun j => V.ref (as.getD j 0) := by
    apply List.ext_getElem
    · simp [hal']
    · intro i h1 h2; simp at h1; simp [h1]
  rw [em]
  unfold enD
  refine rpl_map _ fun j hj => ?_
  have hj' : j < as.length := by rw [hal']; exact List.mem_range.mp hj
  have eg : as.getD j 0 = as[j] := by rw [List.getD_eq_getElem?_getD, List.getElem?_eq_getElem hj']; rfl
  obtain ⟨itl, e1, e2, e3⟩ := obE j hj'
  have hm : (as.getD j 0, HO.frz (ob (as.getD j 0)) (.tup [.int (j : Nat), vs.getD j .non])) ∈ psT := List.mem_map.mpr ⟨j, List.mem_range.mpr hj', rfl⟩
  refine Rp.tup_iff.mpr ⟨as.getD j 0, [.int (j : Nat), vs.getD j .non], rfl, .inl ⟨itl, 0, ?_⟩, RpL.cons (Rp.int_iff.mpr rfl) (RpL.one ?_)⟩
  · have := updAll_mem (H := H2) ndT hm
    dsimp only at this
    rw [this, eg, e1]
  · have hjd : j < ds.length := by omega
    obtain ⟨v, f1, f2⟩ := ls.get (List.getElem?_eq_getElem hjd)
    have g1 : ds.getD j .non = ds[j] := by rw [List.getD_eq_getElem?_getD, List.getElem?_eq_getElem hjd]; rfl
    have g2 : vs.getD j .non = v := by rw [List.getD_eq_getElem?_getD, f1]; rfl
    rw [g1, g2]
    exact Rp.mono exT (List.prefix_refl _) _ _ f2
/-! ### for i, x in enumerate(..) of a tuple -/
def IteT (K : PySem.W.Frag) (a : Addr) : It :=
  ⟨fun i H => ∃ (xs : List V) (x : V), SqT K H a xs ∧ xs[i]? = some x, fun i H v H' => ∃ T x, v = .ref T ∧ H T = none ∧ H' = upd H T (.tup [.int (i : Nat), x]) ∧ ∀ xs, SqT K H a xs → xs[i]? = some x, fun i H => ∃ xs : List V, SqT K H a xs ∧ xs.length ≤ i⟩
theorem turn_enumT {P : Program} {w : World} {K : PySem.W.Frag} {elts : List Expr} {kk : Nat} {tpos : Pos} (a e it : Addr) :
    Turn P w K (.Tuple elts kk tpos) (IteT K a) [e, it] e (fun i h => (∃ old, IsEnum h e it ((i : Nat) : Int) old) ∧ h.IsTupleIter it a i ∧ e ≠ it ∧ e ≠ a ∧ a ≠ it) where
  mem := by simp
  obj := fun i h st b hb => by
    obtain ⟨⟨old, he⟩, ⟨o, ho, hc, hd⟩, _⟩ := st
    have e' : b = e ∨ b = it := by simpa using hb
    rcases e' with z | z
    · rw [z]; exact ⟨_, he, fun v q => nomatch q⟩
    · rw [z]; exact ⟨o, ho, fun v q => by rw [hd] at q; cases q⟩
  keep := fun i h h' st k => let ⟨⟨old, he⟩, hi, hne⟩ := st; ⟨⟨old, k e (by simp) _ he⟩, hi.at fun o q => k it (by simp) o q, hne⟩
  item := by
    intro X hP hw hK hc i pins s σ H E I hf st hg
    subst hP hw hK
    obtain ⟨⟨old, he⟩, hit, hne, hea, hai⟩ := st
    obtain ⟨xs, x, hq, hx⟩ := hg
    obtain ⟨its, rv, p, hz⟩ := I.tuple hq
    have pT : s.heap.IsTuple a its.toArray := p
    obtain ⟨u, hu, ru⟩ := rv.get hx
    have hel : e < s.heap.objs.size := Heap.lt_size he
    have hil : it < s.heap.objs.size := by obtain ⟨_, q, _⟩ := hit; exact Heap.lt_size q
    have D := Draws.tuple (prog := X.prog) (w := X.w) (A := X.A.in1) (I.ok.hd hc) it a hai its.toArray
    have hlt : i < its.toArray.size := by rw [List.size_toArray]; exact (List.getElem?_eq_some_iff.mp hu).1
    have ec : ((i + 1 : Nat) : Int) = (i : Int) + 1 := by omega
    refine wpAny_pyNext_enum_itemC D he ⟨hit, pT⟩ hlt hne (by simp [hne, hea]) fun x' h' tk hP' ho hst' hT hsz hk => ?_
    have hu2 : its.toArray[i]? = some u := by simpa using hu
    have hxu : x' = u := by rw [hu2] at hP'; exact (Option.some.inj hP').symm
    subst hxu
    refine ⟨_, rfl, wpAny_letOwnedTupleGo_enum (s := { s with heap := h', toks := tk + 1 }) ho fun h'' he' sb => ?_⟩
    have hT2 : h''.get? s.heap.objs.size = some { cls := .type "tuple", data := .seq #[.int i tk, x'] } := (sb.2 _ (Nat.ne_of_gt hel)).trans hT
    have new : ObjOk X.prog X.w (upd H s.heap.objs.size (.tup [.int (i : Nat), x])) h'' s.heap.objs.size (.tup [.int (i : Nat), x]) :=
      ⟨by show 2 ≤ sizeLine; decide, [.int i tk, x'], .cons ⟨_, rfl⟩ (.cons ru .nil), ⟨_, hT2, rfl, _, rfl⟩⟩
    have I1 : Inv X pins σ (upd H s.heap.objs.size (.tup [.int (i : Nat), x])) { s with heap := h'', toks := tk + 1 } :=
      I.turnedNew (ch := [e, it]) (fun b ob hb q => (sb.2 b (fun z => hb (by simp [z]))).trans (hk b ob (fun z => hb (by simp [z])) (fun z => hb (by simp [z])) q)) hf (Nat.le_refl _) new
    refine ⟨.ref s.heap.objs.size, _, I1, rfl, ⟨_, x, rfl, I.hok.fresh (Nat.le_refl _), rfl, fun ys hy => by rw [← I.tuple_inj hq hy]; exact hx⟩, ⟨⟨x', ?_⟩, hst'.1.at fun o q => (sb.2 it (Ne.symm hne)).trans q, hne, hea, hai⟩, fun b hb => ?_⟩
    · rw [ec]; exact he'
    · have hb' : b < s.heap.objs.size := by
        have e' : b = e ∨ b = it := by simpa using hb
        rcases e' with z | z
        · rw [z]; exact hel
        · rw [z]; exact hil
      rw [upd_ne (Nat.ne_of_lt hb')]
      exact (hf b hb).1
  done := by
    intro X hP hw hK hc i pins s σ H E I hf st hg
    subst hP hw hK
    obtain ⟨⟨old, he⟩, hit, hne, hea, hai⟩ := st
    obtain ⟨xs, hq, hx⟩ := hg
    obtain ⟨its, rv, p, hz⟩ := I.tuple hq
    have pT : s.heap.IsTuple a its.toArray := p
    obtain ⟨f0, f1, f2, f3, f4, f5⟩ := hf it (by simp)
    have hl := rv.length
    have D := Draws.tuple (prog := X.prog) (w := X.w) (A := X.A.in1) (I.ok.hd hc) it a hai its.toArray
    have hend : its.toArray[i]? = none := by simp; omega
    have hT : s.TypeIs (.ref e) "enumerate" := ⟨_, he, rfl⟩
    unfold pyNext
    refine wpAny_bind (wpAny_attempt (wpAny_callSpecial?_slot (name := Str.ofString "__next__") hT F.slot_enumerate_next
      (wpAny_call_entry F.slot_enumerate_next hT F.entry_enumerate_next ?_ (F.args_enumerate_next_1 _))))
    show wpAny _ _ (field (.ref e) 2 >>= _) _ _ _
    refine wpAny_bind (wpAny_field he rfl (x := .ref it) rfl ?_)
    refine wpAny_bind (wpAny_nextOf_tuple_end (I.ok.hd hc) hit pT hend fun h' x he' hx' => ?_)
    obtain ⟨o, ho, hcl⟩ := hx'
    refine wpAny_bind (wpAny_isInstance (T := "StopIteration") (b := true) ⟨o, ho, hcl⟩ isSubtype_stop ?_)
    exact wpAny_pure ⟨rfl, I.turned (t' := s.toks) (fun b o hb q => he' b o hb q) f0 f1 f3 f4 f5⟩
  self := fun A i s Q E st h => let ⟨⟨_, he⟩, _⟩ := st; wpAny_pyIter_enum he h
theorem pi_enumT {elts : List Expr} {kk : Nat} {tpos p pos : Pos} {e : Expr} {te : TE} (hg : Gl X "enumerate") (hm : X.mg "enumerate" = none) (he : PE X e te) (hs : starEach [e] X.env = (false, eval e X.env) :: starEach [] X.env := by rfl) :
    PI X (.Tuple elts kk tpos) (.Call (.Name "enumerate" p) [e] [] pos) (fun σ H R => te σ H fun x H1 => ∃ a xs, x = .ref a ∧ SqT X.K H1 a xs ∧ R (IteT X.K a) H1) := by
  refine ⟨fun pins s σ H R I h => ?_⟩
  refine Call_ (ld_blt I hg hm PyProof.Rows.boot_enumerate (PyProof.Rows.callWith_type1 (one_arg he I h (fun v s1 x H1 I1 rx q => ?_) hs) hs))
  obtain ⟨a, xs, rfl, hq, q⟩ := q
  cases rx
  obtain ⟨its, rv, p', hz⟩ := I1.tuple hq
  have pT : s1.heap.IsTuple a its.toArray := p'
  have al : a < s1.heap.objs.size := by obtain ⟨o, q, _⟩ := pT; exact Heap.lt_size q
  refine call_enumT (begins_tuple a its.toArray) pT fun h' hen ho hsz hk => wpAny_pyIter_enum hen ?_
  have I2 : Inv X pins σ H1 { s1 with heap := h' } := I1.kept (t' := s1.toks) hk
  refine ⟨s1.heap.objs.size + 1, [s1.heap.objs.size + 1, s1.heap.objs.size], _, _, H1, rfl, I2, turn_enumT a (s1.heap.objs.size + 1) s1.heap.objs.size, ⟨⟨.none, hen⟩, ⟨_, ho, rfl, rfl⟩, Nat.succ_ne_self _, Nat.ne_of_gt (Nat.lt_succ_of_lt al), Nat.ne_of_lt al⟩, fun b hb => ?_, q⟩
  have e' : b = s1.heap.objs.size + 1 ∨ b = s1.heap.objs.size := by simpa using hb
  have hle : s1.heap.objs.size ≤ b := by
    rcases e' with z | z
    · rw [z]; exact Nat.le_add_right _ _
    · rw [z]; exact Nat.le_refl _
  exact I1.fpOk hle (I1.hok.fresh hle)
def srcEn (f : Ex) : Src := fun env st => (f env st).bind fun d s => match d with
  | .tup ds => .ok (enD ds, none) s
  | _ => .no
theorem enD_get {ds : List D} {i : Nat} {d : D} (h : (enD ds)[i]? = some d) : ∃ x, ds[i]? = some x ∧ d = .tup [.int (i : Nat), x] := by
  unfold enD at h
  rw [List.getElem?_map] at h
  by_cases hi : i < ds.length
  · rw [List.getElem?_range hi, Option.map_some] at h
    cases h
    exact ⟨ds[i], List.getElem?_eq_getElem hi, by rw [List.getD_eq_getElem?_getD, List.getElem?_eq_getElem hi]; rfl⟩
  · rw [List.getElem?_eq_none (by simpa using hi)] at h
    cases h
theorem walks_enT {is : List Nat} {a : Addr} {vs : List V} {ds : List D} {H0 : Hp} {r0 : List Addr} (t : TpL X.K H0 a vs) (l : RpL X.K H0 r0 ds vs) : Walks X (.tp is) (IteT X.K a) (enD ds) none H0 r0 := fun i H r st ex pf hr _ => by
  have t' := (ex.t _ _ t).seq
  have l' := RpL.mono ex pf _ _ l
  refine ⟨fun _ hi => ⟨vs, t', by rw [l.length, hi, enD_len]; exact Nat.le_refl _⟩, fun d hd => ?_⟩
  obtain ⟨x, e1, rfl⟩ := enD_get hd
  obtain ⟨v, f1, f2⟩ := l'.get e1
  refine ⟨⟨vs, v, t', f1⟩, ?_⟩
  rintro x' H' ⟨T, y, rfl, hn, rfl, hy⟩
  have ey := hy vs t'
  rw [f1] at ey
  cases ey
  have x1 := Ext.fresh (K := X.K) (o := .tup [.int (i : Nat), v]) hn
  exact ⟨x1, hr.tup hn, T, [.int (i : Nat), v], rfl, .inl (.inl upd_same), RpL.cons (Rp.int_iff.mpr rfl) (RpL.one (Rp.mono x1 (List.prefix_refl _) _ _ f2))⟩
theorem i_en {is : List Nat} {elts : List Expr} {kk : Nat} {tpos p pos : Pos} {e : Expr} {f : Ex} (hg : Gl X "enumerate") (hm : X.mg "enumerate" = none) (h : PEm X W e f) (hs : starEach [e] X.env = (false, eval e X.env) :: starEach [] X.env := by rfl) :
    PIm X W (.tp is) (.Tuple elts kk tpos) (.Call (.Name "enumerate" p) [e] [] pos) (srcEn f) := PI.imp (pi_enumT hg hm h hs) fun σ H R q =>
  tG_seq (Ra := RV X) q fun d x H1 env r st er hr rd p => by
    cases d with
    | tup ds =>
      obtain ⟨a, vs, rfl, t, l⟩ := Rp.tup_iff.mp rd
      exact ⟨a, vs, rfl, t.seq, pst_ok (v := IteT X.K a) hr p (walks_enT t l)⟩
    | _ => exact p.elim
end
end Mi

namespace Mi
open PySem PySem.Spec PyProof.Rows L2
noncomputable section
open Classical
/-! ### programs -/
structure Rl where
  c : Str
  n : Nat
  body : Tm
inductive Fn where
  | plain (name : Str) (n : Nat) (body : Tm) | cases (name : Str) (n : Nat) (rules : List Rl)
def Fn.name : Fn → Str
  | .plain x _ _ => x
  | .cases x _ _ => x
def Fn.n : Fn → Nat
  | .plain _ n _ => n
  | .cases _ n _ => n
def Fn.bodies : Fn → List Tm
  | .plain _ _ b => [b]
  | .cases _ _ rs => rs.map Rl.body
def Rl.d (r : Rl) : D := .tup [.str r.c, .int (r.n : Nat), r.body.d]
def Fn.d : Fn → D
  | .plain x n b => .tup [.str "plain", .str x, .int (n : Nat), b.d]
  | .cases x n rs => .tup [.str "cases", .str x, .int (n : Nat), .tup (rs.map Rl.d)]
def pgD (P : List Fn) : D := .tup (P.map Fn.d)
theorem Rl.noa (r : Rl) : noa r.d = true := by unfold Rl.d; simp [Mi.noa, Mi.noas, Tm.noa]
theorem Fn.noa (f : Fn) : noa f.d = true := by
  cases f with
  | plain x n b => unfold Fn.d; simp [Mi.noa, Mi.noas, Tm.noa]
  | cases x n rs => unfold Fn.d; simp [Mi.noa, Mi.noas, noas_map Rl.noa rs]
theorem pgD_noa (P : List Fn) : noa (pgD P) = true := by unfold pgD; unfold Mi.noa; exact noas_map Fn.noa P
def fnOf (P : List Fn) (x : Str) : Option Fn := P.find? fun f => decide (f.name = x)
def rlOf (rs : List Rl) (c : Str) (n : Nat) : Option Rl := rs.find? fun r => decide (r.c = c ∧ r.n = n)
def isFn (x : Str) : Bool := match x.cps.toList with
  | c :: _ => Txt.islower ⟨#[c]⟩
  | [] => false
def Hd.isFn : Hd → Bool
  | .i _ => false
  | .s x => Mi.isFn x
inductive Dem where
  | val | step (t : Tm) | err | unk (n : Int) | needs (n : Int) (x : Str) | stuck (n : Int)
def Dem.d : Dem → D
  | .val => .tup [.str "value"]
  | .step t => .tup [.str "step", t.d]
  | .err => .tup [.str "error"]
  | .unk n => .tup [.str "unknown", .int n]
  | .needs n x => .tup [.str "needs", .int n, .str x]
  | .stuck n => .tup [.str "stuck", .int n]
theorem Dem.noa (d : Dem) : noa d.d = true := by cases d <;> simp [Dem.d, Mi.noa, Mi.noas, Tm.noa]
def Tm.snocs : Tm → List Tm → Tm
  | .mk h ts, us => .mk h (ts ++ us)
def opn (b : Tm) (vs rest : List Tm) : Tm := (b.put (enumP 0 vs)).snocs rest
def own (P : List Fn) : Tm → Option Dem
  | .mk (.i n) ts => some (if ts = [] then .unk n else .stuck n)
  | .mk (.s x) ts => if isFn x = true then (match fnOf P x with
    | none => some .val
    | some f => if ts.length < f.n then some .val else match f with
      | .plain _ n b => some (.step (opn b (ts.take n) (ts.drop n)))
      | .cases _ _ _ => none) else some .val
def ruleDem (n : Nat) (rs : List Rl) (first : Tm) (ts : List Tm) : Dem := match first with
  | .mk (.s c) us => if isFn c = true then .err else match rlOf rs c us.length with
    | some r => .step (opn r.body (us ++ (ts.take n).drop 1) (ts.drop n))
    | none => .err
  | .mk (.i _) _ => .err
def outer (P : List Fn) (t : Tm) (inner : Dem) : Dem := match t with
  | .mk h ts => match inner with
    | .step u => .step (.mk h (u :: ts.drop 1))
    | .unk m => match h with | .s x => .needs m x | .i _ => .err
    | .val => match h with
      | .s x => (match fnOf P x with
        | some (.cases _ n rs) => (match ts with | a :: _ => ruleDem n rs a ts | [] => .err)
        | _ => .err)
      | .i _ => .err
    | d => d
def dem (P : List Fn) : Tm → Dem
  | .mk h [] => (own P (.mk h [])).getD .err
  | .mk h (a :: ts) => match own P (.mk h (a :: ts)) with
    | some d => d
    | none => outer P (.mk h (a :: ts)) (dem P a)
termination_by t => t.size
decreasing_by (simp [Tm.size_mk, Tm.sizes_cons]; omega)
theorem dem_nil (P : List Fn) (h : Hd) : dem P (.mk h []) = (own P (.mk h [])).getD .err := by rw [dem]
theorem dem_cons (P : List Fn) (h : Hd) (a : Tm) (ts : List Tm) : dem P (.mk h (a :: ts)) = match own P (.mk h (a :: ts)) with
    | some d => d
    | none => outer P (.mk h (a :: ts)) (dem P a) := by rw [dem]
theorem dem_own {P : List Fn} {t : Tm} {d : Dem} (h : own P t = some d) : dem P t = d := by
  cases t with
  | mk g ts =>
    cases ts with
    | nil => rw [dem_nil, h]; rfl
    | cons a ts => rw [dem_cons, h]
/-! what may be run -/
def NmL (x : Str) : Prop := 1 ≤ x.cps.toList.length ∧ x.length ≤ 1000
def HdR (P : List Fn) : Hd → Prop
  | .i _ => True
  | .s x => NmL x ∧ (isFn x = true → ∃ f, fnOf P x = some f)
structure PgOk (P : List Fn) : Prop where
  len : P.length ≤ 1000
  pos : ∀ x n rs, .cases x n rs ∈ P → 1 ≤ n
  body : ∀ f ∈ P, ∀ b ∈ f.bodies, b.all (HdR P) ∧ b.size ≤ 200
  con : ∀ x n rs, .cases x n rs ∈ P → rs.length ≤ 1000 ∧ ∀ r ∈ rs, NmL r.c ∧ isFn r.c = false
theorem fnOf_mem {P : List Fn} {x : Str} {f : Fn} (h : fnOf P x = some f) : f ∈ P ∧ f.name = x := by
  unfold fnOf at h
  exact ⟨List.mem_of_find?_eq_some h, by have := List.find?_some h; simpa using this⟩
theorem rlOf_mem {rs : List Rl} {c : Str} {n : Nat} {r : Rl} (h : rlOf rs c n = some r) : r ∈ rs ∧ r.c = c ∧ r.n = n := by
  unfold rlOf at h
  exact ⟨List.mem_of_find?_eq_some h, by have := List.find?_some h; simpa using this⟩
theorem Tm.size_snocs (t : Tm) (us : List Tm) : (t.snocs us).size = t.size + Tm.sizes us := by
  cases t with
  | mk h ts => show (Tm.mk h (ts ++ us)).size = _; rw [Tm.size_mk, Tm.size_mk, Tm.sizes_app]; omega
theorem Tm.alls_take {p : Hd → Prop} {ts : List Tm} (h : Tm.alls p ts) (n : Nat) : Tm.alls p (ts.take n) := by
  rw [Tm.alls_iff] at *
  exact fun t ht => h t (List.mem_of_mem_take ht)
theorem Tm.alls_drop {p : Hd → Prop} {ts : List Tm} (h : Tm.alls p ts) (n : Nat) : Tm.alls p (ts.drop n) := by
  rw [Tm.alls_iff] at *
  exact fun t ht => h t (List.mem_of_mem_drop ht)
theorem sizes_take_drop (ts : List Tm) (n : Nat) : Tm.sizes (ts.take n) + Tm.sizes (ts.drop n) = Tm.sizes ts := by
  have := congrArg Tm.sizes (List.take_append_drop n ts)
  rwa [Tm.sizes_app] at this
theorem putHd_all {p : Hd → Prop} {F : Pts} {h : Hd} {us : List Tm} (hh : p h) (hu : Tm.alls p us) (hF : ∀ q ∈ F, q.2.all p) : (putHd F h us).all p := by
  unfold putHd
  cases h with
  | s x => rw [Tm.all_mk]; exact ⟨hh, hu⟩
  | i n =>
    dsimp only
    split
    · rename_i g vs e
      obtain ⟨q, hq, e2⟩ := atP_mem e
      have := hF q hq
      rw [e2, Tm.all_mk] at this
      rw [Tm.all_mk]
      exact ⟨this.1, Tm.alls_app this.2 hu⟩
    · rw [Tm.all_mk]; exact ⟨hh, hu⟩
mutual
theorem Tm.put_all {p : Hd → Prop} {F : Pts} (hF : ∀ q ∈ F, q.2.all p) : ∀ t : Tm, t.all p → (t.put F).all p
  | .mk h ts, ht => by
    rw [Tm.all_mk] at ht
    rw [Tm.put_mk]
    exact putHd_all ht.1 (Tm.puts_all hF ts ht.2) hF
theorem Tm.puts_all {p : Hd → Prop} {F : Pts} (hF : ∀ q ∈ F, q.2.all p) : ∀ ts : List Tm, Tm.alls p ts → Tm.alls p (Tm.puts F ts)
  | [], _ => by rw [Tm.puts_nil]; exact Tm.alls_nil p
  | t :: ts, h => by
    rw [Tm.alls_cons] at h
    rw [Tm.puts_cons, Tm.alls_cons]
    exact ⟨Tm.put_all hF t h.1, Tm.puts_all hF ts h.2⟩
end
theorem snocs_all {p : Hd → Prop} {t : Tm} {us : List Tm} (ht : t.all p) (hu : Tm.alls p us) : (t.snocs us).all p := by
  cases t with
  | mk h ts =>
    rw [Tm.all_mk] at ht
    show (Tm.mk h (ts ++ us)).all p
    rw [Tm.all_mk]
    exact ⟨ht.1, Tm.alls_app ht.2 hu⟩
theorem opn_all {p : Hd → Prop} {b : Tm} {vs rest : List Tm} (hb : b.all p) (hv : Tm.alls p vs) (hr : Tm.alls p rest) : (opn b vs rest).all p :=
  snocs_all (Tm.put_all (fun q hq => (Tm.alls_iff.mp hv) _ (enumP_ge _ _ q hq).2) b hb) hr
/-- an invariant of heads is kept by a step -/
theorem own_all {P : List Fn} {p : Hd → Prop} (hP : ∀ f ∈ P, ∀ b ∈ f.bodies, b.all p) {t u : Tm} (ht : t.all p) (h : own P t = some (.step u)) : u.all p := by
  cases t with
  | mk g ts =>
    rw [Tm.all_mk] at ht
    cases g with
    | i n => unfold own at h; dsimp only at h; split at h <;> cases h
    | s x =>
      unfold own at h
      dsimp only at h
      split at h
      · split at h
        · cases h
        · rename_i f hf
          split at h
          · cases h
          · split at h
            · rename_i y n b _
              cases h
              exact opn_all (hP _ (fnOf_mem hf).1 b (by simp [Fn.bodies])) (Tm.alls_take ht.2 _) (Tm.alls_drop ht.2 _)
            · cases h
      · cases h
theorem outer_all {P : List Fn} {p : Hd → Prop} (hP : ∀ f ∈ P, ∀ b ∈ f.bodies, b.all p) {t u : Tm} {d : Dem} (ht : t.all p) (hd : ∀ v, d = .step v → v.all p) (h : outer P t d = .step u) : u.all p := by
  cases t with
  | mk g ts =>
    rw [Tm.all_mk] at ht
    unfold outer at h
    cases d with
    | step v =>
      dsimp only at h
      cases h
      rw [Tm.all_mk, Tm.alls_cons]
      exact ⟨ht.1, hd v rfl, Tm.alls_drop ht.2 1⟩
    | val =>
      dsimp only at h
      cases g with
      | i n => cases h
      | s x =>
        dsimp only at h
        split at h
        · rename_i y n rs hf
          cases ts with
          | nil => cases h
          | cons a ts =>
            dsimp only at h
            unfold ruleDem at h
            have ha := ht.2
            rw [Tm.alls_cons] at ha
            cases a with
            | mk gc us =>
              cases gc with
              | i n => cases h
              | s c =>
                dsimp only at h
                split at h
                · cases h
                · split at h
                  · rename_i r hr
                    cases h
                    have hus := ha.1
                    rw [Tm.all_mk] at hus
                    exact opn_all (hP _ (fnOf_mem hf).1 r.body (by simp [Fn.bodies]; exact ⟨r, (rlOf_mem hr).1, rfl⟩)) (Tm.alls_app hus.2 (Tm.alls_drop (Tm.alls_take ht.2 _) _)) (Tm.alls_drop ht.2 _)
                  · cases h
        · cases h
    | unk m => cases g <;> cases h
    | err => cases h
    | needs m x => cases h
    | stuck m => cases h
theorem dem_all {P : List Fn} {p : Hd → Prop} (hP : ∀ f ∈ P, ∀ b ∈ f.bodies, b.all p) : ∀ (n : Nat) (t u : Tm), t.size ≤ n → t.all p → dem P t = .step u → u.all p
  | 0, t, u, hn, _, _ => by have := t.size_pos; omega
  | n + 1, .mk h [], u, hn, ht, e => by
    rw [dem_nil] at e
    cases o : own P (.mk h []) with
    | none => rw [o] at e; cases e
    | some d => rw [o] at e; exact own_all hP ht (by rw [o]; exact congrArg some e)
  | n + 1, .mk h (a :: ts), u, hn, ht, e => by
    rw [dem_cons] at e
    rw [Tm.size_mk, Tm.sizes_cons] at hn
    cases o : own P (.mk h (a :: ts)) with
    | some d => rw [o] at e; dsimp only at e; exact own_all hP ht (by rw [o, e])
    | none =>
      rw [o] at e
      dsimp only at e
      have ht2 := ht
      rw [Tm.all_mk, Tm.alls_cons] at ht2
      exact outer_all hP ht (fun v hv => dem_all hP n a v (by omega) ht2.2.1 hv) e
end
end Mi

namespace Mi
open PySem PySem.Spec PyProof.Rows L2
/-! ### the greatest of some whole numbers -/
def intsD : List D → Option (List Int)
  | [] => some []
  | .int i :: ds => (intsD ds).map (i :: ·)
  | _ :: _ => none
theorem intsD_rel {K : PySem.W.Frag} {H : Hp} {r : List Addr} : ∀ {ds : List D} {ns : List Int} {vs : List V}, intsD ds = some ns → RpL K H r ds vs → vs = ns.map V.int
  | [], ns, vs, e, h => by
    cases e
    exact RpL.nil_iff.mp h
  | d :: ds, ns, vs, e, h => by
    obtain ⟨v, ws, rfl, r1, r2⟩ := RpL.cons_iff.mp h
    cases d with
    | int b =>
      obtain ⟨cs, e1, rfl⟩ := Option.map_eq_some_iff.mp (show (intsD ds).map (b :: ·) = some ns from e)
      rw [Rp.int_iff.mp r1, intsD_rel e1 r2]
      rfl
    | _ => cases e
theorem intsD_map : ∀ ns : List Int, intsD (ns.map D.int) = some ns
  | [] => rfl
  | n :: ns => by
    show (intsD (ns.map D.int)).map (n :: ·) = _
    rw [intsD_map ns]; rfl
def maxI : Int → List Int → Int
  | n, [] => n
  | n, m :: ms => maxI (if m > n then m else n) ms
theorem maxI_mem : ∀ (ms : List Int) (n : Int), maxI n ms ∈ n :: ms
  | [], n => by unfold maxI; exact List.mem_cons_self
  | m :: ms, n => by
    unfold maxI
    have := maxI_mem ms (if m > n then m else n)
    rcases List.mem_cons.mp this with h | h
    · rw [h]; split
      · exact List.mem_cons_of_mem _ List.mem_cons_self
      · exact List.mem_cons_self
    · exact List.mem_cons_of_mem _ (List.mem_cons_of_mem _ h)
theorem maxI_ge0 : ∀ (ms : List Int) (n : Int), n ≤ maxI n ms
  | [], n => by unfold maxI; omega
  | m :: ms, n => by
    unfold maxI
    have := maxI_ge0 ms (if m > n then m else n)
    split at this <;> rename_i c
    · rw [if_pos c]; omega
    · rw [if_neg c]; omega
theorem maxI_ge : ∀ (ms : List Int) (n y : Int), y ∈ n :: ms → y ≤ maxI n ms
  | [], n, y, h => by
    rcases List.mem_cons.mp h with rfl | h
    · unfold maxI; omega
    · cases h
  | m :: ms, n, y, h => by
    unfold maxI
    rcases List.mem_cons.mp h with rfl | h
    · have := maxI_ge0 ms (if m > y then m else y)
      split at this <;> rename_i c
      · rw [if_pos c]; omega
      · rw [if_neg c]; omega
    · rcases List.mem_cons.mp h with rfl | h
      · have := maxI_ge0 ms (if y > n then y else n)
        split at this <;> rename_i c
        · rw [if_pos c]; omega
        · rw [if_neg c]; omega
      · exact maxI_ge ms _ y (List.mem_cons_of_mem _ h)
theorem maxI_eq {n m : Int} {ms : List Int} (h : m ∈ n :: ms) (h2 : ∀ y ∈ n :: ms, y ≤ m) : m = maxI n ms := by
  have a := maxI_ge ms n m h
  have b := h2 _ (maxI_mem ms n)
  omega
def biMax : OpN
  | [.int i, .int j], st => some (.int (if j > i then j else i), st)
  | [d], st => match seqL st d with
    | some xs => match intsD xs with
      | some (n :: ns) => some (.int (maxI n ns), st)
      | _ => none
    | none => none
  | _, _ => none
def biMin : OpN
  | [.int i, .int j], st => some (.int (if j < i then j else i), st)
  | _, _ => none
variable {X : Cx} {W : WX}
theorem c_max (hc : X.calm = true) : ClM X (.builtin "max") biMax := by
  intro pins s σ H xs us Q I rs ⟨r, st, as, d, st', hr, pa, e, q⟩
  unfold biMax at e
  split at e
  · rename_i i j
    cases e
    obtain ⟨v, ws, rfl, r1, r2⟩ := RpL.cons_iff.mp pa
    obtain ⟨w', rfl, r3⟩ := rpl1 r2
    rw [Rp.int_iff.mp r1, Rp.int_iff.mp r3] at rs
    exact call_max2 hc pins s σ H _ us Q I rs ⟨i, j, rfl, fin0 hr q (Rp.int_iff.mpr rfl)⟩
  · rename_i a _
    obtain ⟨v, rfl, ra⟩ := rpl1 pa
    split at e
    · rename_i ys ey
      split at e
      · rename_i n ns ei
        cases e
        obtain ⟨l, vs, rfl, sq, ls⟩ := hr.seqL ey ra
        have := intsD_rel ei ls
        subst this
        refine cr_max hc pins s σ H _ us Q I rs ⟨l, n :: ns, rfl, sq, by simp, fun m h1 h2 => ?_⟩
        rw [maxI_eq h1 h2]
        exact fin0 hr q (Rp.int_iff.mpr rfl)
      · cases e
    · cases e
  · cases e
theorem c_min (hc : X.calm = true) : ClM X (.builtin "min") biMin := by
  intro pins s σ H xs us Q I rs ⟨r, st, as, d, st', hr, pa, e, q⟩
  unfold biMin at e
  split at e
  · rename_i i j
    cases e
    obtain ⟨v, ws, rfl, r1, r2⟩ := RpL.cons_iff.mp pa
    obtain ⟨w', rfl, r3⟩ := rpl1 r2
    rw [Rp.int_iff.mp r1, Rp.int_iff.mp r3] at rs
    exact call_min2 hc pins s σ H _ us Q I rs ⟨i, j, rfl, fin0 hr q (Rp.int_iff.mpr rfl)⟩
  · cases e
/-! ### max(.., default=z) -/
def rMaxD (K : PySem.W.Frag) : List V → List V → Hp → VK → Prop := fun vs zs H Q => ∃ (a : Addr) (ns : List Int) (z : V), vs = [V.ref a] ∧ zs = [z] ∧ SqL K H a (ns.map V.int) ∧ (ns = [] → Q z H) ∧ (0 < ns.length → ∀ m, m ∈ ns → (∀ y, y ∈ ns → y ≤ m) → Q (.int m) H)
theorem cr_maxD (hc : X.calm = true) : CallRK X (.builtin "max") [Str.ofString "default"] (rMaxD X.K) := by
  intro pins s σ H xs zs us ws Q I r rz h
  obtain ⟨a, ns, z, rfl, rfl, hs, q0, q1⟩ := h
  obtain ⟨its, rv, hl, _⟩ := I.list hs
  rw [Vals.ref1 r]
  obtain ⟨w', rfl, rw'⟩ := vals1 rz
  obtain ⟨xs, e⟩ := rv.ints.allInts.items
  have hn : numsOf (intItems xs).toList = ns := by rw [← e]; exact rv.ints.numsOf
  rw [nums_intItems] at hn
  subst hn
  have hl' := hl.isList
  rw [e] at hl'
  show wpAny _ _ (call (.builtin "max") [.ref a] [(Str.ofString "default", w')]) _ _ _
  refine call_max_walkD (PySem.W.iter_listW (A := X.A.in1) (I.ok.hd hc) hl' fun s₂ e2 Wk st hfp hw hk => ?_)
  refine ⟨_, _, _, _, _, _, _, s.heap, (fun i j => decide (numAt xs i > numAt xs j)), rfl, Wk, st, hfp, hw, hk, fun hz s' m => ?_, fun hp => ⟨fun i j vi vj s0 Q0 E0 _ hi hj hQ => CmpOf.ints_gt (numAt xs) (fun _ _ => intItems_at) i j vi vj s0 Q0 E0 hi hj hQ, fun v s' hP m => ?_⟩⟩
  · obtain ⟨h', tk, rfl, hk'⟩ := PySem.W.moved_old e2 rfl m
    refine ⟨z, H, I.kept hk', rw', q0 ?_⟩
    have : xs.size = 0 := by simpa [intItems] using hz
    simpa using this
  · obtain ⟨h', tk, rfl, hk'⟩ := PySem.W.moved_old e2 rfl m
    have hsz : 0 < xs.size := by simpa [intItems] using hp
    have es : (intItems xs).size = xs.size := by simp [intItems]
    rw [es] at hP
    obtain ⟨t, rfl⟩ := intItems_at hP
    obtain ⟨h1, h2⟩ := argBest_gt (numAt xs) (xs.size - 1)
    refine ⟨.int _, H, I.kept hk', ⟨_, rfl⟩, q1 (by simpa using hsz) _ ?_ fun a ha => ?_⟩
    · rw [numAt_eq]; exact PySem.getD_mem (by rw [List.length_map, Array.length_toList]; omega)
    · obtain ⟨j, hj, rfl⟩ := mem_getD ha
      rw [List.length_map, Array.length_toList] at hj
      rw [← numAt_eq]; exact h2 j (by omega)
def opMaxD (d z : D) (st : Store) : Option (D × Store) := match seqL st d with
  | some xs => match intsD xs with
    | some [] => some (z, st)
    | some (n :: ns) => some (.int (maxI n ns), st)
    | none => none
  | none => none
theorem m_maxD {e z : Expr} {f g : Ex} {p pos kp : Pos} (hc : X.calm = true) (hg : Gl X "max") (hm : X.mg "max" = none) (ha : PEm X W e f) (hz : PEm X W z g)
    (he : backTo pos (starEach [e] X.env) = (false, eval e X.env) :: backTo pos (starEach [] X.env) := by rfl) (hpl : (backTo pos (starEach [e] X.env)).any (·.1) = false := by rfl)
    (hall : (backToKw pos (keywordEach [⟨some "default", z, kp⟩] X.env)).all (·.1.isSome) = true := by rfl) (hnone : (backToKw pos (keywordEach [⟨some "default", z, kp⟩] X.env)).any (·.1.isNone) = false := by rfl) (hks : (backToKw pos (keywordEach [⟨some "default", z, kp⟩] X.env)).filterMap (·.1) = [Str.ofString "default"] := by rfl) (ns : starEach [e] X.env = (false, eval e X.env) :: starEach [] X.env := by rfl) :
    PEm X W (.Call (.Name "max" p) [e] [⟨some "default", z, kp⟩] pos) (eBin opMaxD f g) := PE.imp (pe_callBK (cr_maxD hc) hg hm (by rfl) (pa_cons ha pa_nil ns) (pk_cons hz pk_nil) (he := he) (hpl := hpl) (hall := hall) (hnone := hnone) (hks := hks)) fun σ H Q h => by
  refine tG_seq h fun a x H1 env r st er hr ra p => ?_
  show tM X W g σ H1 fun z H2 => rMaxD X.K [x] [z] H2 Q
  refine tG_then er hr p fun b y H2 r1 s1 e1 e2 er2 hr2 rb p2 => ?_
  obtain ⟨d, st', e3, q⟩ := ofO_fin p2
  replace ra := Rp.mono e1 e2 _ _ ra
  unfold opMaxD at e3
  split at e3
  · rename_i ys ey
    obtain ⟨l, vs, rfl, sq, ls⟩ := hr2.seqL ey ra
    split at e3
    · rename_i ei
      cases e3
      have := intsD_rel ei ls
      subst this
      exact ⟨l, [], y, rfl, rfl, sq, fun _ => fin0 hr2 q rb, fun h => absurd h (by simp)⟩
    · rename_i n ns ei
      cases e3
      have := intsD_rel ei ls
      subst this
      refine ⟨l, n :: ns, y, rfl, rfl, sq, fun h => by simp at h, fun _ m h1 h2 => ?_⟩
      rw [maxI_eq h1 h2]
      exact fin0 hr2 q (Rp.int_iff.mpr rfl)
    · cases e3
  · cases e3
end Mi

namespace Mi
open PySem PySem.Spec PyProof.Rows L2
noncomputable section
open Classical
/-! ### a step stays a step when parts are put in -/
theorem Tm.snocs_cons (t u : Tm) (us : List Tm) : t.snocs (u :: us) = (t.snoc u).snocs us := by
  cases t with
  | mk h ts =>
    show Tm.mk h (ts ++ u :: us) = Tm.mk h ((ts ++ [u]) ++ us)
    rw [List.append_assoc]; rfl
theorem Tm.snocs_nil (t : Tm) : t.snocs [] = t := by
  cases t with
  | mk h ts => show Tm.mk h (ts ++ []) = _; rw [List.append_nil]
theorem Tm.put_snocs (G : Pts) : ∀ (us : List Tm) (t : Tm), (t.snocs us).put G = (t.put G).snocs (Tm.puts G us)
  | [], t => by rw [Tm.puts_nil, Tm.snocs_nil, Tm.snocs_nil]
  | u :: us, t => by rw [Tm.snocs_cons, Tm.put_snocs G us, Tm.put_snoc, Tm.puts_cons, Tm.snocs_cons]
theorem Tm.put_put {F G H : Pts} {t : Tm} (h : ∀ v, Hd.i v ∈ t.hds → atP H v = match atP F v with | some x => some (x.put G) | none => atP G v) : (t.put F).put G = t.put H := by
  apply Tm.toB_inj
  rw [Tm.put_toB, Tm.put_toB, Tm.put_toB, Bt.put_put]
  refine Bt.put_agree _ fun v hv => ?_
  rw [Tm.hds_toB] at hv
  have := h v hv
  unfold toF
  rw [this]
  cases atP F v with
  | none => rfl
  | some x => show some (x.toB.put (toF G)) = some (x.put G).toB; rw [Tm.put_toB]
theorem Tm.put_agree' {F G : Pts} {t : Tm} (h : ∀ v, Hd.i v ∈ t.hds → atP F v = atP G v) : t.put F = t.put G := by
  apply Tm.toB_inj
  rw [Tm.put_toB, Tm.put_toB]
  refine Bt.put_agree _ fun v hv => ?_
  rw [Tm.hds_toB] at hv
  unfold toF
  rw [h v hv]
theorem puts_len (G : Pts) (ts : List Tm) : (Tm.puts G ts).length = ts.length := by rw [Tm.puts_map, List.length_map]
theorem puts_take (G : Pts) (ts : List Tm) (n : Nat) : Tm.puts G (ts.take n) = (Tm.puts G ts).take n := by rw [Tm.puts_map, Tm.puts_map, List.map_take]
theorem puts_drop (G : Pts) (ts : List Tm) (n : Nat) : Tm.puts G (ts.drop n) = (Tm.puts G ts).drop n := by rw [Tm.puts_map, Tm.puts_map, List.map_drop]
theorem put_s (G : Pts) (x : Str) (ts : List Tm) : (Tm.mk (.s x) ts).put G = .mk (.s x) (Tm.puts G ts) := by rw [Tm.put_mk]; rfl
def ClT (n : Nat) (b : Tm) : Prop := ∀ v, Hd.i v ∈ b.hds → 0 ≤ v ∧ v < n
theorem opn_put {b : Tm} {vs rest : List Tm} {G : Pts} (h : ClT vs.length b) : (opn b vs rest).put G = opn b (Tm.puts G vs) (Tm.puts G rest) := by
  unfold opn
  rw [Tm.put_snocs]
  congr 1
  refine Tm.put_put fun v hv => ?_
  obtain ⟨h0, h1⟩ := h v hv
  rw [enumP_at, enumP_at, if_pos (by simpa using h0), if_pos (by simpa using h0), Tm.puts_map, List.getElem?_map]
  have : (v - ((0 : Nat) : Int)).toNat < vs.length := by omega
  rw [List.getElem?_eq_getElem this]
  rfl
structure PgCl (P : List Fn) : Prop where
  pl : ∀ x n b, .plain x n b ∈ P → ClT n b
  cs : ∀ x n rs, .cases x n rs ∈ P → 1 ≤ n ∧ ∀ r ∈ rs, ClT (r.n + (n - 1)) r.body
variable {P : List Fn}
theorem own_put_step (C : PgCl P) {t u : Tm} {G : Pts} (h : own P t = some (.step u)) : own P (t.put G) = some (.step (u.put G)) := by
  cases t with
  | mk g ts =>
    cases g with
    | i n => unfold own at h; dsimp only at h; split at h <;> cases h
    | s x =>
      rw [put_s]
      unfold own at h ⊢
      dsimp only at h ⊢
      split at h
      · rename_i hx
        rw [if_pos hx]
        split at h
        · cases h
        · rename_i f hf
          try rw [hf]
          try dsimp only
          split at h
          · cases h
          · rename_i hl
            rw [puts_len, if_neg hl]
            split at h
            · rename_i _ y n b
              cases h
              have := C.pl _ _ _ (fnOf_mem hf).1
              have hl' : n ≤ ts.length := by have : Fn.n (.plain y n b) = n := rfl; omega
              rw [opn_put (by rw [List.length_take, Nat.min_eq_left hl']; exact this), puts_take, puts_drop]
            · cases h
      · cases h
theorem own_put_val {t : Tm} {G : Pts} (h : own P t = some .val) : own P (t.put G) = some .val := by
  cases t with
  | mk g ts =>
    cases g with
    | i n => unfold own at h; dsimp only at h; split at h <;> cases h
    | s x =>
      rw [put_s]
      unfold own at h ⊢
      dsimp only at h ⊢
      split at h
      · rename_i hx
        rw [if_pos hx]
        split at h
        · rename_i hf; first | rfl | rw [hf]
        · rename_i f hf
          try rw [hf]
          try dsimp only
          split at h
          · rename_i hl
            rw [puts_len, if_pos hl]
          · rename_i hl
            split at h <;> cases h
      · rename_i hx; rw [if_neg hx]
theorem own_none' {t : Tm} (h : own P t = none) : ∃ x y n rs ts, t = .mk (.s x) ts ∧ isFn x = true ∧ fnOf P x = some (.cases y n rs) ∧ n ≤ ts.length := by
  cases t with
  | mk g ts =>
    cases g with
    | i n => unfold own at h; dsimp only at h; cases h
    | s x =>
      unfold own at h
      dsimp only at h
      split at h
      · rename_i hx
        split at h
        · cases h
        · rename_i f hf
          split at h
          · cases h
          · rename_i hl
            split at h
            · cases h
            · rename_i _ y n rs
              exact ⟨x, y, n, rs, ts, rfl, hx, hf, by have : Fn.n (.cases y n rs) = n := rfl; omega⟩
      · cases h
theorem own_mk_none {x y : Str} {n : Nat} {rs : List Rl} {ts : List Tm} (hx : isFn x = true) (hf : fnOf P x = some (.cases y n rs)) (hl : n ≤ ts.length) : own P (.mk (.s x) ts) = none := by
  unfold own
  dsimp only
  rw [if_pos hx, hf]
  dsimp only
  rw [if_neg (by have : Fn.n (.cases y n rs) = n := rfl; omega)]
theorem outer_nv {t : Tm} {d : Dem} : outer P t d ≠ .val := by
  cases t with
  | mk h ts =>
    unfold outer
    intro e
    cases d with
    | step u => cases e
    | err => cases e
    | needs m x => cases e
    | stuck m => cases e
    | unk m => dsimp only at e; cases h <;> cases e
    | val =>
      dsimp only at e
      cases h with
      | i n => cases e
      | s x =>
        dsimp only at e
        split at e
        · cases ts with
          | nil => cases e
          | cons a us =>
            dsimp only at e
            unfold ruleDem at e
            split at e
            · split at e
              · cases e
              · split at e <;> cases e
            · cases e
        · cases e
theorem dem_val_own {t : Tm} (h : dem P t = .val) : own P t = some .val := by
  cases t with
  | mk g ts =>
    cases ts with
    | nil =>
      rw [dem_nil] at h
      cases o : own P (.mk g []) with
      | none => rw [o] at h; cases h
      | some d => rw [o] at h; exact congrArg some h
    | cons a us =>
      rw [dem_cons] at h
      cases o : own P (.mk g (a :: us)) with
      | none => rw [o] at h; exact absurd h outer_nv
      | some d => rw [o] at h; exact congrArg some h
theorem own_val_s {t : Tm} (h : own P t = some .val) : ∃ c vs, t = .mk (.s c) vs := by
  cases t with
  | mk g ts =>
    cases g with
    | i n => unfold own at h; dsimp only at h; split at h <;> cases h
    | s x => exact ⟨x, ts, rfl⟩
/-- the step of a term in which parts are put -/
theorem dem_put (C : PgCl P) {G : Pts} : ∀ (n : Nat) (t u : Tm), t.size ≤ n → dem P t = .step u → dem P (t.put G) = .step (u.put G)
  | 0, t, u, hn, _ => by have := t.size_pos; omega
  | n + 1, .mk h ts, u, hn, e => by
    cases o : own P (.mk h ts) with
    | some d =>
      rw [dem_own o] at e
      subst e
      exact dem_own (own_put_step C o)
    | none =>
      obtain ⟨x, y, m, rs, ts', e1, hx, hf, hl⟩ := own_none' o
      cases e1
      have cs := C.cs _ _ _ (fnOf_mem hf).1
      cases ts with
      | nil => have := cs.1; simp at hl; omega
      | cons a us =>
        rw [dem_cons, o] at e
        dsimp only at e
        rw [put_s, Tm.puts_cons]
        have o2 : own P (.mk (.s x) (a.put G :: Tm.puts G us)) = none := own_mk_none hx hf (by simp only [List.length_cons, puts_len] at hl ⊢; exact hl)
        rw [dem_cons, o2]
        dsimp only
        rw [Tm.size_mk, Tm.sizes_cons] at hn
        unfold outer at e ⊢
        cases da : dem P a with
        | step v =>
          rw [da] at e
          dsimp only at e
          cases e
          rw [dem_put C n a v (by omega) da]
          dsimp only
          rw [put_s, Tm.puts_cons, List.drop_succ_cons, List.drop_zero, List.drop_succ_cons, List.drop_zero]
        | val =>
          rw [da] at e
          have oa := dem_val_own da
          obtain ⟨c, vs, rfl⟩ := own_val_s oa
          rw [dem_own (own_put_val (G := G) oa)]
          dsimp only at e ⊢
          rw [hf] at e ⊢
          dsimp only at e ⊢
          unfold ruleDem at e ⊢
          rw [put_s]
          dsimp only at e ⊢
          split at e
          · cases e
          · rename_i hc
            rw [if_neg hc, puts_len]
            split at e
            · rename_i r hr
              cases e
              try rw [hr]
              try dsimp only
              have hrm := rlOf_mem hr
              have hcl := cs.2 r hrm.1
              rw [opn_put (by
                rw [List.length_append, List.length_drop, List.length_take, Nat.min_eq_left hl, ← hrm.2.2]
                exact hcl)]
              rw [Tm.puts_app, puts_drop, puts_take, puts_drop, Tm.puts_cons, put_s]
            · cases e
        | unk v => rw [da] at e; dsimp only at e; cases e
        | err => rw [da] at e; cases e
        | needs v y => rw [da] at e; cases e
        | stuck v => rw [da] at e; cases e
/-- what a term needs -/
theorem dem_unk {t : Tm} {m : Int} (h : dem P t = .unk m) : t = .mk (.i m) [] := by
  cases t with
  | mk g ts =>
    have key : own P (.mk g ts) = some (.unk m) → Tm.mk g ts = .mk (.i m) [] := fun o => by
      cases g with
      | i n =>
        unfold own at o
        dsimp only at o
        split at o
        · rename_i c; cases o; rw [c]
        · cases o
      | s x =>
        unfold own at o
        dsimp only at o
        split at o
        · split at o
          · cases o
          · split at o
            · cases o
            · split at o <;> cases o
        · cases o
    cases ts with
    | nil =>
      rw [dem_nil] at h
      cases o : own P (.mk g []) with
      | none => rw [o] at h; cases h
      | some d => rw [o] at h; exact key (by rw [o]; exact congrArg some h)
    | cons a us =>
      rw [dem_cons] at h
      cases o : own P (.mk g (a :: us)) with
      | some d => rw [o] at h; exact key (by rw [o]; exact congrArg some h)
      | none =>
        rw [o] at h
        dsimp only at h
        unfold outer at h
        obtain ⟨x, y, n, rs, ts', e1, hx, hf, hl⟩ := own_none' o
        cases e1
        cases da : dem P a with
        | unk v => rw [da] at h; cases h
        | step v => rw [da] at h; cases h
        | err => rw [da] at h; cases h
        | needs v y => rw [da] at h; cases h
        | stuck v => rw [da] at h; cases h
        | val =>
          rw [da] at h
          dsimp only at h
          rw [hf] at h
          dsimp only at h
          unfold ruleDem at h
          split at h
          · split at h
            · cases h
            · split at h <;> cases h
          · cases h
theorem own_nn {t : Tm} {m : Int} {x : Str} : own P t ≠ some (.needs m x) := by
  intro o
  cases t with
  | mk g ts =>
    cases g with
    | i n => unfold own at o; dsimp only at o; split at o <;> cases o
    | s x =>
      unfold own at o
      dsimp only at o
      split at o
      · split at o
        · cases o
        · split at o
          · cases o
          · split at o <;> cases o
      · cases o
theorem dem_needs (pos : ∀ x n rs, Fn.cases x n rs ∈ P → 1 ≤ n) : ∀ (k : Nat) (t : Tm) (m : Int) (x : Str), t.size ≤ k → dem P t = .needs m x → Hd.i m ∈ t.hds ∧ ∃ y n rs, fnOf P x = some (.cases y n rs) ∧
    ∀ (c : Str) (vs : List Tm) (G : Pts), isFn c = false → atP G m = some (.mk (.s c) vs) → (∃ r, rlOf rs c vs.length = some r) → ∃ u, dem P (t.put G) = .step u
  | 0, t, m, x, hn, _ => by have := t.size_pos; omega
  | k + 1, .mk g ts, m, x, hn, e => by
    cases o : own P (.mk g ts) with
    | some d => rw [dem_own o] at e; exact absurd (by rw [o, e]) (own_nn (t := .mk g ts) (m := m) (x := x))
    | none =>
      obtain ⟨x', y, n, rs, ts', e1, hx, hf, hl⟩ := own_none' o
      cases e1
      have hp := pos _ _ _ (fnOf_mem hf).1
      cases ts with
      | nil => simp at hl; omega
      | cons a us =>
        rw [dem_cons, o] at e
        dsimp only at e
        rw [Tm.size_mk, Tm.sizes_cons] at hn
        have o2 : ∀ G : Pts, own P (.mk (.s x') (a.put G :: Tm.puts G us)) = none := fun G => own_mk_none hx hf (by simp only [List.length_cons, puts_len] at hl ⊢; exact hl)
        unfold outer at e
        cases da : dem P a with
        | unk v =>
          rw [da] at e
          dsimp only at e
          cases e
          have := dem_unk da
          subst this
          refine ⟨by rw [Tm.hds_mk, Tm.hdss_cons, Tm.hds_mk]; simp, y, n, rs, hf, fun c vs G hc hG hr => ?_⟩
          obtain ⟨r, hr⟩ := hr
          have ea : (Tm.mk (.i m) []).put G = .mk (.s c) vs := by
            rw [Tm.put_mk, Tm.puts_nil]
            unfold putHd
            dsimp only
            rw [hG]
            dsimp only
            rw [List.append_nil]
          have ov : own P (.mk (.s c) vs) = some .val := by unfold own; dsimp only; rw [if_neg (by rw [hc]; decide)]
          refine ⟨opn r.body (vs ++ (((Tm.mk (.s c) vs :: Tm.puts G us).take n)).drop 1) ((Tm.mk (.s c) vs :: Tm.puts G us).drop n), ?_⟩
          have o3 := o2 G
          rw [ea] at o3
          rw [put_s, Tm.puts_cons, ea, dem_cons, o3]
          dsimp only
          unfold outer
          rw [dem_own ov]
          dsimp only
          rw [hf]
          dsimp only
          unfold ruleDem
          dsimp only
          rw [if_neg (by rw [hc]; decide), hr]
        | needs v z =>
          rw [da] at e
          dsimp only at e
          cases e
          obtain ⟨i1, y2, n2, rs2, hf2, ih⟩ := dem_needs pos k a m x (by omega) da
          refine ⟨by rw [Tm.hds_mk, Tm.hdss_cons]; exact List.mem_cons_of_mem _ (List.mem_append_left _ i1), y2, n2, rs2, hf2, fun c vs G hc hG hr => ?_⟩
          obtain ⟨u, eu⟩ := ih c vs G hc hG hr
          refine ⟨.mk (.s x') (u :: (a.put G :: Tm.puts G us).drop 1), ?_⟩
          rw [put_s, Tm.puts_cons, dem_cons, o2 G]
          dsimp only
          unfold outer
          rw [eu]
        | step v => rw [da] at e; cases e
        | err => rw [da] at e; cases e
        | stuck v => rw [da] at e; cases e
        | val =>
          rw [da] at e
          dsimp only at e
          rw [hf] at e
          dsimp only at e
          unfold ruleDem at e
          split at e
          · split at e
            · cases e
            · split at e <;> cases e
          · cases e
mutual
theorem Tm.all_hd {p : Hd → Prop} : ∀ t : Tm, t.all p → ∀ h ∈ t.hds, p h
  | .mk g ts, a, h, m => by
    rw [Tm.all_mk] at a
    rw [Tm.hds_mk] at m
    rcases List.mem_cons.mp m with rfl | m
    · exact a.1
    · exact Tm.alls_hd ts a.2 h m
theorem Tm.alls_hd {p : Hd → Prop} : ∀ ts : List Tm, Tm.alls p ts → ∀ h ∈ Tm.hdss ts, p h
  | [], _, h, m => by rw [Tm.hdss_nil] at m; cases m
  | t :: ts, a, h, m => by
    rw [Tm.alls_cons] at a
    rw [Tm.hdss_cons] at m
    rcases List.mem_append.mp m with m | m
    · exact Tm.all_hd t a.1 h m
    · exact Tm.alls_hd ts a.2 h m
end
/-! ### driving -/
def frsh (first : Int) (n : Nat) : List Tm := (List.range n).map fun k => .mk (.i (first + (k : Nat))) []
def enumI (first : Int) : List Tm → Pts
  | [] => []
  | t :: ts => (first, t) :: enumI (first + 1) ts
theorem enumI_at : ∀ (ts : List Tm) (f n : Int), atP (enumI f ts) n = if f ≤ n then ts[(n - f).toNat]? else none
  | [], f, n => by unfold enumI atP; split <;> simp
  | t :: ts, f, n => by
    unfold enumI atP
    rw [List.find?_cons]
    dsimp only
    by_cases c : f = n
    · subst c
      rw [decide_eq_true rfl]
      simp
    · rw [decide_eq_false c]
      dsimp only
      have ih := enumI_at ts (f + 1) n
      unfold atP at ih
      rw [ih]
      by_cases c2 : f + 1 ≤ n
      · have e : (n - f).toNat = (n - (f + 1)).toNat + 1 := by omega
        rw [if_pos c2, if_pos (by omega), e, List.getElem?_cons_succ]
      · rw [if_neg c2]
        by_cases c3 : f ≤ n
        · omega
        · rw [if_neg c3]
def Dem.out : Dem → Tm
  | .step u => u
  | _ => .mk (.i 0) []
def lrnT (t : Tm) (m first : Int) (c : Str) (n : Nat) : Tm := t.put [(m, .mk (.s c) (frsh first n))]
theorem atP_app2 (F G : Pts) (u : Int) : atP (F ++ G) u = match atP F u with
  | some y => some y
  | none => atP G u := by
  unfold atP
  rw [List.find?_append]
  cases F.find? fun p => decide (p.1 = u) <;> rfl
theorem puts_fresh {others : Pts} {first : Int} {vs : List Tm} (h : ∀ p ∈ others, p.1 < first) : Tm.puts (others ++ enumI first vs) (frsh first vs.length) = vs := by
  rw [Tm.puts_map]
  unfold frsh
  rw [List.map_map]
  apply List.ext_getElem?
  intro i
  rw [List.getElem?_map]
  by_cases c : i < vs.length
  · rw [List.getElem?_range c, List.getElem?_eq_getElem c]
    show some ((Tm.mk (.i (first + (i : Nat))) []).put _) = _
    rw [Tm.put_mk, Tm.puts_nil]
    unfold putHd
    dsimp only
    rw [atP_app2]
    have : atP others (first + (i : Nat)) = none := by
      unfold atP
      rw [List.find?_eq_none.mpr]
      · rfl
      · intro p hp
        have := h p hp
        simp; omega
    rw [this]
    dsimp only
    rw [enumI_at, if_pos (by omega), show (first + (i : Nat) - first).toNat = i by omega, List.getElem?_eq_getElem c]
    try dsimp only
    generalize vs[i] = w
    cases w with
    | mk g us => dsimp only; rw [List.append_nil]
  · rw [List.getElem?_eq_none (by simpa using c), List.getElem?_eq_none (by omega)]
    rfl
/-- the driven term at the drawn parts -/
theorem drive_put {t : Tm} {m first : Int} {c : Str} {others : Pts} {vs : List Tm} (ht : ∀ v, Hd.i v ∈ t.hds → v < first) (ho : ∀ p ∈ others, p.1 < first ∧ p.1 ≠ m) :
    (lrnT t m first c vs.length).put (others ++ enumI first vs) = t.put (others ++ [(m, .mk (.s c) vs)]) := by
  unfold lrnT
  refine Tm.put_put fun v hv => ?_
  have e1 : atP [(m, Tm.mk (.s c) (frsh first vs.length))] v = if m = v then some (.mk (.s c) (frsh first vs.length)) else none := by
    unfold atP
    rw [List.find?_cons]
    dsimp only
    by_cases q : m = v
    · rw [decide_eq_true q, if_pos q]; rfl
    · rw [decide_eq_false q, if_neg q]; rfl
  have e2 : atP [(m, Tm.mk (.s c) vs)] v = if m = v then some (.mk (.s c) vs) else none := by
    unfold atP
    rw [List.find?_cons]
    dsimp only
    by_cases q : m = v
    · rw [decide_eq_true q, if_pos q]; rfl
    · rw [decide_eq_false q, if_neg q]; rfl
  rw [e1, atP_app2, e2, atP_app2]
  by_cases q : m = v
  · rw [if_pos q, if_pos q]
    dsimp only
    have : atP others v = none := by
      unfold atP
      rw [List.find?_eq_none.mpr]
      · rfl
      · intro p hp
        have := (ho p hp).2
        simp; omega
    rw [this]
    dsimp only
    rw [put_s, puts_fresh fun p hp => (ho p hp).1]
  · rw [if_neg q, if_neg q]
    dsimp only
    cases atP others v with
    | some y => rfl
    | none =>
      dsimp only
      have := ht v hv
      rw [enumI_at, if_neg (by omega)]
end
end Mi

namespace Mi
open PySem PySem.Spec PyProof.Rows L2
/-! ### the sum of some whole numbers -/
def biSum : OpN
  | [d], st => match seqL st d with
    | some xs => (intsD xs).map fun ns => (.int ns.sum, st)
    | none => none
  | _, _ => none
variable {X : Cx} {W : WX}
theorem c_sum (hc : X.calm = true) : ClM X (.builtin "sum") biSum := by
  intro pins s σ H xs us Q I rs ⟨r, st, as, d, st', hr, pa, e, q⟩
  unfold biSum at e
  split at e
  · rename_i a
    obtain ⟨v, rfl, ra⟩ := rpl1 pa
    split at e
    · rename_i ys ey
      obtain ⟨ns, ei, e2⟩ := Option.map_eq_some_iff.mp e
      cases e2
      obtain ⟨l, vs, rfl, sq, ls⟩ := hr.seqL ey ra
      have := intsD_rel ei ls
      subst this
      exact cr_sum hc pins s σ H _ us Q I rs ⟨l, ns, rfl, sq, fin0 hr q (Rp.int_iff.mpr rfl)⟩
    · cases e
  · cases e
theorem sum_ints {q : Nat} {zs : List Int} {st : Store} (e : lstAt st q = some (zs.map D.int)) : biSum [.adr q] st = some (.int zs.sum, st) := by
  have : seqL st (.adr q) = some (zs.map D.int) := e
  show (match seqL st (.adr q) with
    | some xs => (intsD xs).map fun (ns : List Int) => (D.int ns.sum, st)
    | none => none) = _
  rw [this]
  dsimp only
  rw [intsD_map]
  rfl
theorem mg_int {K : PySem.W.Frag} {h : Heap} {mg : Str → Option Value} {x : Str} {n : Int} {t : Tok} (X : K.In h) (G : h.Ns mainGlobals mg) (e : PySem.W.nsIn K mainGlobals x = some (some (.int n t))) : ∃ t, mg x = some (.int n t) := ⟨t, PySem.W.mg_of X G e⟩
theorem set_of {i : Nat} {f : Ex} {env : MEnv} {st s : Store} {d : D} {P : Pst} (h : f env st = .ok d s) (q : P.nx (env.set i (some d)) s) : (sSet i f env st).wps P := by
  unfold sSet
  rw [h]
  simp only [wps_toOut, wp_ok, wps_nx]
  exact q
theorem call1_of {C : Calls} {i : Nat} {fa : Ex} {env : MEnv} {st s1 : Store} {a : D} {r : Rs D} (h1 : fa env st = .ok a s1) (h3 : C i [a] s1 = r) : eCall C i (aCons fa aNil) env st = r := by
  unfold eCall aCons aNil
  simp only [Rs.bind_ok, h1, h3]
theorem call2_of {C : Calls} {i : Nat} {fa fb : Ex} {env : MEnv} {st s1 s2 : Store} {a b : D} {r : Rs D} (h1 : fa env st = .ok a s1) (h2 : fb env s1 = .ok b s2) (h3 : C i [a, b] s2 = r) : eCall C i (aCons fa (aCons fb aNil)) env st = r := by
  unfold eCall aCons aNil
  simp only [Rs.bind_ok, h1, h2, h3]
theorem bin_of {op : Op2} {fa fb : Ex} {env : MEnv} {st s1 s2 : Store} {a b : D} (h1 : fa env st = .ok a s1) (h2 : fb env s1 = .ok b s2) : eBin op fa fb env st = Rs.ofO (op a b s2) := by
  unfold eBin
  rw [h1, Rs.bind_ok, h2, Rs.bind_ok]
end Mi

namespace Mi
open PySem PySem.Spec PyProof.Rows L2
noncomputable section
open Classical
/-! ### runs -/
inductive Nw where
  | whole (s : Tm) | step (u : Tm) | stop (d : Dem)
inductive Nws where
  | whole (ss : List Tm) | step (us : List Tm) | stop (d : Dem)
def starT : Tm := .mk (.s "*") []
def Nws.up (h : Hd) : Nws → Nw
  | .whole ss => .whole (.mk h ss)
  | .step us => .step (.mk h us)
  | .stop d => .stop d
def Nws.cons (t s : Tm) : Nws → Nws
  | .whole ss => .whole (s :: ss)
  | .step us => .step (t :: us)
  | .stop d => .stop d
def Nw.more (t : Tm) (ts : List Tm) (r : Nws) : Nw → Nws
  | .whole s => r.cons t s
  | .step u => .step (u :: ts)
  | .stop d => .stop d
def Dem.nw (d : Dem) (v : Nw) : Nw := match d with
  | .val => v
  | .step u => .step u
  | d => .stop d
mutual
def nw (P : List Fn) : Tm → Nw
  | .mk h ts => (dem P (.mk h ts)).nw (if h.isFn = true then .whole starT else (nws P ts).up h)
def nws (P : List Fn) : List Tm → Nws
  | [] => .whole []
  | t :: ts => (nw P t).more t ts (nws P ts)
end
theorem nw_mk (P : List Fn) (h : Hd) (ts : List Tm) : nw P (.mk h ts) = (dem P (.mk h ts)).nw (if h.isFn = true then .whole starT else (nws P ts).up h) := by rw [nw]
theorem nws_nil (P : List Fn) : nws P [] = .whole [] := by rw [nws]
theorem nws_cons (P : List Fn) (t : Tm) (ts : List Tm) : nws P (t :: ts) = (nw P t).more t ts (nws P ts) := by rw [nws]
mutual
def sh : Tm → Tm
  | .mk h ts => if h.isFn = true then starT else .mk h (shs ts)
def shs : List Tm → List Tm
  | [] => []
  | t :: ts => sh t :: shs ts
end
theorem sh_mk (h : Hd) (ts : List Tm) : sh (.mk h ts) = if h.isFn = true then starT else .mk h (shs ts) := by rw [sh]
theorem shs_map : ∀ ts : List Tm, shs ts = ts.map sh
  | [] => by rw [shs]; rfl
  | t :: ts => by rw [shs, shs_map ts]; rfl
mutual
theorem nw_sh {P : List Fn} : ∀ (t s : Tm), nw P t = .whole s → s = sh t
  | .mk h ts, s, e => by
    rw [nw_mk] at e
    rw [sh_mk]
    unfold Dem.nw at e
    split at e
    · by_cases c : h.isFn = true
      · rw [if_pos c] at e ⊢
        cases e; rfl
      · rw [if_neg c] at e ⊢
        unfold Nws.up at e
        split at e
        · rename_i ss hs
          cases e
          rw [nws_sh ts ss hs]
        · cases e
        · cases e
    · cases e
    · cases e
theorem nws_sh {P : List Fn} : ∀ (ts ss : List Tm), nws P ts = .whole ss → ss = shs ts
  | [], ss, e => by rw [nws_nil] at e; cases e; rw [shs]
  | t :: ts, ss, e => by
    rw [nws_cons] at e
    rw [shs]
    unfold Nw.more at e
    split at e
    · rename_i s hs
      unfold Nws.cons at e
      split at e
      · rename_i ss' hss
        cases e
        rw [nw_sh t s hs, nws_sh ts ss' hss]
      · cases e
      · cases e
    · cases e
    · cases e
end
/-- the stop's word -/
def Dem.odd : Dem → Prop
  | .val => False
  | .step _ => False
  | _ => True
mutual
theorem nw_stop {P : List Fn} : ∀ (t : Tm) (d : Dem), nw P t = .stop d → d.odd
  | .mk h ts, d, e => by
    rw [nw_mk] at e
    cases hd : dem P (.mk h ts) with
    | val =>
      rw [hd] at e
      unfold Dem.nw at e
      dsimp only at e
      split at e
      · cases e
      · unfold Nws.up at e
        split at e
        · cases e
        · cases e
        · rename_i d' hs
          cases e
          exact nws_stop ts _ hs
    | step u => rw [hd] at e; cases e
    | err => rw [hd] at e; cases e; trivial
    | unk m => rw [hd] at e; cases e; trivial
    | needs m x => rw [hd] at e; cases e; trivial
    | stuck m => rw [hd] at e; cases e; trivial
theorem nws_stop {P : List Fn} : ∀ (ts : List Tm) (d : Dem), nws P ts = .stop d → d.odd
  | [], d, e => by rw [nws_nil] at e; cases e
  | t :: ts, d, e => by
    rw [nws_cons] at e
    unfold Nw.more at e
    split at e
    · rename_i s hs
      unfold Nws.cons at e
      split at e
      · cases e
      · cases e
      · rename_i d' hss
        cases e
        exact nws_stop ts _ hss
    · cases e
    · rename_i d' hs
      cases e
      exact nw_stop t _ hs
end
theorem nws_app {P : List Fn} {ys : List Tm} : ∀ {xs ss : List Tm}, nws P xs = .whole ss → nws P (xs ++ ys) = match nws P ys with
    | .whole zs => .whole (ss ++ zs)
    | .step us => .step (xs ++ us)
    | .stop d => .stop d
  | [], ss, e => by
    rw [nws_nil] at e
    cases e
    show nws P ys = _
    cases nws P ys <;> rfl
  | x :: xs, ss, e => by
    rw [nws_cons] at e
    unfold Nw.more at e
    split at e
    · rename_i s hs
      unfold Nws.cons at e
      split at e
      · rename_i ss' hss
        cases e
        rw [List.cons_append, nws_cons, hs, nws_app hss]
        cases nws P ys <;> rfl
      · cases e
      · cases e
    · cases e
    · cases e
theorem nws_snoc {P : List Fn} {xs ss : List Tm} {t s : Tm} (e : nws P xs = .whole ss) (h : nw P t = .whole s) : nws P (xs ++ [t]) = .whole (ss ++ [s]) := by
  rw [nws_app e, nws_cons, h, nws_nil]
  rfl
theorem nws_at {P : List Fn} {xs ss ys : List Tm} {t : Tm} (e : nws P xs = .whole ss) : (∀ u, nw P t = .step u → nws P (xs ++ t :: ys) = .step (xs ++ u :: ys)) ∧ (∀ d, nw P t = .stop d → nws P (xs ++ t :: ys) = .stop d) :=
  ⟨fun u h => by rw [nws_app e, nws_cons, h]; rfl, fun d h => by rw [nws_app e, nws_cons, h]; rfl⟩
/- what a step keeps -/
mutual
theorem nw_keep {P : List Fn} {p : Hd → Prop} (hP : ∀ f ∈ P, ∀ b ∈ f.bodies, b.all p) : ∀ (t u : Tm), t.all p → nw P t = .step u → u.all p
  | .mk h ts, u, a, e => by
    rw [nw_mk] at e
    cases hd : dem P (.mk h ts) with
    | val =>
      rw [hd] at e
      unfold Dem.nw at e
      dsimp only at e
      split at e
      · cases e
      · unfold Nws.up at e
        split at e
        · cases e
        · rename_i us hs
          cases e
          rw [Tm.all_mk] at a ⊢
          exact ⟨a.1, nws_keep hP ts us a.2 hs⟩
        · cases e
    | step v => rw [hd] at e; cases e; exact dem_all hP _ _ _ (Nat.le_refl _) a hd
    | err => rw [hd] at e; cases e
    | unk m => rw [hd] at e; cases e
    | needs m x => rw [hd] at e; cases e
    | stuck m => rw [hd] at e; cases e
theorem nws_keep {P : List Fn} {p : Hd → Prop} (hP : ∀ f ∈ P, ∀ b ∈ f.bodies, b.all p) : ∀ (ts us : List Tm), Tm.alls p ts → nws P ts = .step us → Tm.alls p us
  | [], us, _, e => by rw [nws_nil] at e; cases e
  | t :: ts, us, a, e => by
    rw [nws_cons] at e
    rw [Tm.alls_cons] at a
    unfold Nw.more at e
    split at e
    · unfold Nws.cons at e
      split at e
      · cases e
      · rename_i us' hss
        cases e
        rw [Tm.alls_cons]
        exact ⟨a.1, nws_keep hP ts _ a.2 hss⟩
      · cases e
    · rename_i u hu
      cases e
      rw [Tm.alls_cons]
      exact ⟨nw_keep hP t u a.1 hu, a.2⟩
    · cases e
end
mutual
theorem nw_size {P : List Fn} {B : Nat} (hD : ∀ t u, dem P t = .step u → u.size ≤ (t.size + 1) * B + t.size) : ∀ (t u : Tm), nw P t = .step u → u.size ≤ (t.size + 1) * B + t.size
  | .mk h ts, u, e => by
    rw [nw_mk] at e
    cases hd : dem P (.mk h ts) with
    | val =>
      rw [hd] at e
      unfold Dem.nw at e
      dsimp only at e
      split at e
      · cases e
      · unfold Nws.up at e
        split at e
        · cases e
        · rename_i us hs
          cases e
          have := nws_size hD ts us hs
          rw [Tm.size_mk, Tm.size_mk]
          have e2 : (Tm.sizes ts + 1) * B ≤ (1 + Tm.sizes ts + 1) * B := Nat.mul_le_mul_right _ (by omega)
          have e3 : (Tm.sizes ts + 1 + 1) * B = (1 + Tm.sizes ts + 1) * B := by rw [show Tm.sizes ts + 1 + 1 = 1 + Tm.sizes ts + 1 by omega]
          omega
        · cases e
    | step v => rw [hd] at e; cases e; exact hD _ _ hd
    | err => rw [hd] at e; cases e
    | unk m => rw [hd] at e; cases e
    | needs m x => rw [hd] at e; cases e
    | stuck m => rw [hd] at e; cases e
theorem nws_size {P : List Fn} {B : Nat} (hD : ∀ t u, dem P t = .step u → u.size ≤ (t.size + 1) * B + t.size) : ∀ (ts us : List Tm), nws P ts = .step us → Tm.sizes us ≤ (Tm.sizes ts + 1) * B + Tm.sizes ts
  | [], us, e => by rw [nws_nil] at e; cases e
  | t :: ts, us, e => by
    rw [nws_cons] at e
    rw [Tm.sizes_cons]
    unfold Nw.more at e
    split at e
    · unfold Nws.cons at e
      split at e
      · cases e
      · rename_i us' hss
        cases e
        have := nws_size hD ts _ hss
        have e2 : (Tm.sizes ts + 1) * B ≤ (t.size + Tm.sizes ts + 1) * B := Nat.mul_le_mul_right _ (by omega)
        rw [Tm.sizes_cons]
        omega
      · cases e
    · rename_i u hu
      cases e
      have := nw_size hD t u hu
      have e2 : (t.size + 1) * B ≤ (t.size + Tm.sizes ts + 1) * B := Nat.mul_le_mul_right _ (by omega)
      rw [Tm.sizes_cons]
      omega
    · cases e
end
mutual
theorem nw_dep {P : List Fn} {B : Nat} (hD : ∀ t u, dem P t = .step u → u.depth ≤ t.depth + B) : ∀ (t u : Tm), nw P t = .step u → u.depth ≤ t.depth + B
  | .mk h ts, u, e => by
    rw [nw_mk] at e
    cases hd : dem P (.mk h ts) with
    | val =>
      rw [hd] at e
      unfold Dem.nw at e
      dsimp only at e
      split at e
      · cases e
      · unfold Nws.up at e
        split at e
        · cases e
        · rename_i us hs
          cases e
          have := nws_dep hD ts us hs
          rw [Tm.depth_mk, Tm.depth_mk]
          omega
        · cases e
    | step v => rw [hd] at e; cases e; exact hD _ _ hd
    | err => rw [hd] at e; cases e
    | unk m => rw [hd] at e; cases e
    | needs m x => rw [hd] at e; cases e
    | stuck m => rw [hd] at e; cases e
theorem nws_dep {P : List Fn} {B : Nat} (hD : ∀ t u, dem P t = .step u → u.depth ≤ t.depth + B) : ∀ (ts us : List Tm), nws P ts = .step us → Tm.depths us ≤ Tm.depths ts + B
  | [], us, e => by rw [nws_nil] at e; cases e
  | t :: ts, us, e => by
    rw [nws_cons] at e
    rw [Tm.depths_cons]
    unfold Nw.more at e
    split at e
    · unfold Nws.cons at e
      split at e
      · cases e
      · rename_i us' hss
        cases e
        have := nws_dep hD ts _ hss
        rw [Tm.depths_cons]
        omega
      · cases e
    · rename_i u hu
      cases e
      have := nw_dep hD t u hu
      rw [Tm.depths_cons]
      omega
    · cases e
end
mutual
theorem sh_size : ∀ t : Tm, (sh t).size ≤ t.size
  | .mk h ts => by
    rw [sh_mk, Tm.size_mk]
    split
    · unfold starT; rw [Tm.size_mk, Tm.sizes_nil]; omega
    · rw [Tm.size_mk]
      have := shs_size ts
      omega
theorem shs_size : ∀ ts : List Tm, Tm.sizes (shs ts) ≤ Tm.sizes ts
  | [] => by rw [shs]; exact Nat.le_refl _
  | t :: ts => by
    rw [shs, Tm.sizes_cons, Tm.sizes_cons]
    have := sh_size t
    have := shs_size ts
    omega
end
/-! the run -/
inductive Rn where
  | value (s : Tm) (d : Nat) | error (d : Nat) | opn (d : Nat) | large (d : Nat)
def Nw.rn (r : Rn) (d : Nat) (f : Tm → Rn) : Nw → Rn
  | .whole s => .value s d
  | .stop _ => .error d
  | .step u => f u
def rn (P : List Fn) : Nat → Tm → Nat → Rn
  | 0, t, d => if 250 < t.size then .large d else (nw P t).rn (.opn d) d fun _ => .opn d
  | n + 1, t, d => if 250 < t.size then .large d else (nw P t).rn (.opn d) d fun u => rn P n u (d + 1)
def Rn.fin : Rn → Option Nat
  | .value _ d => some d
  | .error d => some d
  | _ => none
theorem rn_more {P : List Fn} : ∀ (n m : Nat) (t : Tm) (d e : Nat), (rn P n t d).fin = some e → n ≤ m → rn P m t d = rn P n t d
  | 0, m, t, d, e, h, _ => by
    have key : ∀ f : Tm → Rn, rn P 0 t d = if 250 < t.size then .large d else (nw P t).rn (.opn d) d f := fun f => by
      unfold rn at h ⊢
      split at h
      · cases h
      · rename_i c
        rw [if_neg c, if_neg c]
        cases hn : nw P t with
        | whole s => rfl
        | stop x => rfl
        | step u => rw [hn] at h; cases h
    cases m with
    | zero => rfl
    | succ m => rw [key fun u => rn P m u (d + 1)]; rfl
  | n + 1, 0, t, d, e, h, hm => by omega
  | n + 1, m + 1, t, d, e, h, hm => by
    unfold rn at h ⊢
    split at h
    · cases h
    · rename_i c
      rw [if_neg c, if_neg c]
      cases hn : nw P t with
      | whole s => rfl
      | stop x => rfl
      | step u =>
        rw [hn] at h
        exact rn_more n m u (d + 1) e h (by omega)
theorem rn_less {P : List Fn} : ∀ (n : Nat) (t : Tm) (d e : Nat), (rn P n t d).fin = some e → d ≤ e ∧ e ≤ d + n ∧ ∀ m, d + m < e → rn P m t d = .opn (d + m)
  | 0, t, d, e, h => by
    unfold rn at h
    split at h
    · cases h
    · cases hn : nw P t with
      | whole s => rw [hn] at h; cases h; exact ⟨Nat.le_refl _, by omega, fun m hm => by omega⟩
      | stop x => rw [hn] at h; cases h; exact ⟨Nat.le_refl _, by omega, fun m hm => by omega⟩
      | step u => rw [hn] at h; cases h
  | n + 1, t, d, e, h => by
    unfold rn at h
    split at h
    · cases h
    · rename_i c
      cases hn : nw P t with
      | whole s => rw [hn] at h; cases h; exact ⟨Nat.le_refl _, by omega, fun m hm => by omega⟩
      | stop x => rw [hn] at h; cases h; exact ⟨Nat.le_refl _, by omega, fun m hm => by omega⟩
      | step u =>
        rw [hn] at h
        obtain ⟨h1, h2, h3⟩ := rn_less n u (d + 1) e h
        refine ⟨by omega, by omega, fun m hm => ?_⟩
        cases m with
        | zero => unfold rn; rw [if_neg c, hn]; rfl
        | succ m =>
          have := h3 m (by omega)
          unfold rn
          rw [if_neg c, hn]
          show rn P m u (d + 1) = _
          rw [this]
          congr 1
          omega
theorem rn_opn {P : List Fn} : ∀ (n : Nat) (t : Tm) (d e : Nat), rn P n t d = .opn e → e = d + n
  | 0, t, d, e, h => by
    unfold rn at h
    split at h
    · cases h
    · cases hn : nw P t with
      | whole s => rw [hn] at h; cases h
      | stop x => rw [hn] at h; cases h
      | step u => rw [hn] at h; cases h; rfl
  | n + 1, t, d, e, h => by
    unfold rn at h
    split at h
    · cases h
    · cases hn : nw P t with
      | whole s => rw [hn] at h; cases h
      | stop x => rw [hn] at h; cases h
      | step u =>
        rw [hn] at h
        have := rn_opn n u (d + 1) e h
        omega
theorem rn_val {P : List Fn} : ∀ (n : Nat) (t : Tm) (d e : Nat) (s : Tm), rn P n t d = .value s e → s.size ≤ 250
  | 0, t, d, e, s, h => by
    unfold rn at h
    split at h
    · cases h
    · rename_i c
      cases hn : nw P t with
      | whole s => rw [hn] at h; cases h; have := nw_sh _ _ hn; have := sh_size t; subst s; omega
      | stop x => rw [hn] at h; cases h
      | step u => rw [hn] at h; cases h
  | n + 1, t, d, e, s, h => by
    unfold rn at h
    split at h
    · cases h
    · rename_i c
      cases hn : nw P t with
      | whole s => rw [hn] at h; cases h; have := nw_sh _ _ hn; have := sh_size t; subst s; omega
      | stop x => rw [hn] at h; cases h
      | step u => rw [hn] at h; exact rn_val n u (d + 1) e s h
/- an enumerated list, cut -/
theorem enumP_split : ∀ (ts : List Tm) (i : Nat) (dn rs : Pts) (p : Int × Tm), enumP i ts = dn ++ p :: rs → p.1 = ((i + dn.length : Nat) : Int) ∧ ts = dn.map (·.2) ++ p.2 :: rs.map (·.2)
  | [], i, dn, rs, p, h => by
    unfold enumP at h
    simp at h
  | t :: ts, i, dn, rs, p, h => by
    unfold enumP at h
    cases dn with
    | nil =>
      obtain ⟨h1, h2⟩ := List.cons.inj h
      subst h1 h2
      refine ⟨by simp, ?_⟩
      have : ∀ (ts : List Tm) (i : Nat), (enumP i ts).map (·.2) = ts := fun ts => by
        induction ts with
        | nil => intro i; rfl
        | cons t ts ih => intro i; unfold enumP; rw [List.map_cons, ih]
      rw [this]
      rfl
    | cons q dn =>
      obtain ⟨h1, h2⟩ := List.cons.inj h
      subst h1
      obtain ⟨e1, e2⟩ := enumP_split ts (i + 1) dn rs p h2
      refine ⟨by rw [e1, List.length_cons]; omega, ?_⟩
      rw [List.map_cons, List.cons_append, ← e2]
def Nw.d1 : Nw → D
  | .whole _ => .tup [.str "whole"]
  | .step u => .tup [.str "step", u.d]
  | .stop d => d.d
theorem Nw.noa1 (r : Nw) : noa r.d1 = true := by
  cases r with
  | whole s => simp [Nw.d1, Mi.noa, Mi.noas]
  | step u => simp [Nw.d1, Mi.noa, Mi.noas, Tm.noa]
  | stop d => exact Dem.noa d
theorem odd_d {d : Dem} (h : d.odd) : ∃ (g : Str) (r : List D), d.d = .tup (.str g :: r) ∧ ¬ g = "value" ∧ ¬ g = "step" ∧ ¬ g = "whole" := by
  cases d with
  | val => cases h
  | step u => cases h
  | err => exact ⟨_, _, rfl, by decide, by decide, by decide⟩
  | unk m => exact ⟨_, _, rfl, by decide, by decide, by decide⟩
  | needs m x => exact ⟨_, _, rfl, by decide, by decide, by decide⟩
  | stuck m => exact ⟨_, _, rfl, by decide, by decide, by decide⟩
theorem nv_d {d : Dem} (h : d ≠ .val) : (∃ (g : Str) (r : List D), d.d = .tup (.str g :: r) ∧ ¬ g = "value") ∧ ∀ v : Nw, (d.nw v).d1 = d.d := by
  cases d with
  | val => exact absurd rfl h
  | step u => exact ⟨⟨_, _, rfl, by decide⟩, fun _ => rfl⟩
  | err => exact ⟨⟨_, _, rfl, by decide⟩, fun _ => rfl⟩
  | unk m => exact ⟨⟨_, _, rfl, by decide⟩, fun _ => rfl⟩
  | needs m x => exact ⟨⟨_, _, rfl, by decide⟩, fun _ => rfl⟩
  | stuck m => exact ⟨⟨_, _, rfl, by decide⟩, fun _ => rfl⟩
def Nw.d2 : Nw → D
  | .whole s => .tup [.str "whole", s.d]
  | .step u => .tup [.str "step", u.d]
  | .stop d => d.d
theorem Nw.noa2 (r : Nw) : noa r.d2 = true := by
  cases r with
  | whole s => simp [Nw.d2, Mi.noa, Mi.noas, Tm.noa]
  | step u => simp [Nw.d2, Mi.noa, Mi.noas, Tm.noa]
  | stop d => exact Dem.noa d
theorem nv_d2 {d : Dem} (h : d ≠ .val) : ∀ v : Nw, (d.nw v).d2 = d.d := by
  cases d with
  | val => exact absurd rfl h
  | step u => exact fun _ => rfl
  | err => exact fun _ => rfl
  | unk m => exact fun _ => rfl
  | needs m x => exact fun _ => rfl
  | stuck m => exact fun _ => rfl
/-- run's answer, and the law's -/
def Rn.d1 : Rn → D
  | .value s d => .tup [.str "value", s.d, .int (d : Nat)]
  | .error d => .tup [.str "error", .non, .int (d : Nat)]
  | .opn d => .tup [.str "open", .non, .int (d : Nat)]
  | .large d => .tup [.str "open", .non, .int (d : Nat)]
def Rn.d2 : Rn → D
  | .value s d => .tup [.str "value", s.d, .int (d : Nat)]
  | .error d => .tup [.str "error", .non, .int (d : Nat)]
  | .opn d => .tup [.str "open", .non, .int (d : Nat)]
  | .large d => .tup [.str "large", .non, .int (d : Nat)]
theorem Rn.noa1 (r : Rn) : noa r.d1 = true := by cases r <;> simp [Rn.d1, Mi.noa, Mi.noas, Tm.noa]
theorem Rn.noa2 (r : Rn) : noa r.d2 = true := by cases r <;> simp [Rn.d2, Mi.noa, Mi.noas, Tm.noa]
end
end Mi

namespace Mi
open PySem PySem.Spec PyProof.Rows L2
/-! ### sorted, of fewer than 64 whole numbers -/
def insI (n : Int) : List Int → List Int
  | [] => [n]
  | m :: ms => if n ≤ m then n :: m :: ms else m :: insI n ms
def sortI : List Int → List Int
  | [] => []
  | n :: ns => insI n (sortI ns)
theorem insI_perm (n : Int) : ∀ ms : List Int, (insI n ms).Perm (n :: ms)
  | [] => List.Perm.refl _
  | m :: ms => by
    unfold insI
    split
    · exact List.Perm.refl _
    · exact ((insI_perm n ms).cons m).trans (List.Perm.swap n m ms)
theorem insI_srt (n : Int) : ∀ ms : List Int, ms.Pairwise (· ≤ ·) → (insI n ms).Pairwise (· ≤ ·)
  | [], _ => by unfold insI; simp
  | m :: ms, h => by
    rw [List.pairwise_cons] at h
    unfold insI
    split
    · rename_i c
      rw [List.pairwise_cons, List.pairwise_cons]
      refine ⟨fun y hy => ?_, h⟩
      rcases List.mem_cons.mp hy with rfl | hy
      · exact c
      · have := h.1 y hy; omega
    · rename_i c
      rw [List.pairwise_cons]
      refine ⟨fun y hy => ?_, insI_srt n ms h.2⟩
      rcases List.mem_cons.mp ((insI_perm n ms).mem_iff.mp hy) with rfl | hy
      · omega
      · exact h.1 y hy
theorem sortI_perm : ∀ ns : List Int, (sortI ns).Perm ns
  | [] => List.Perm.refl _
  | n :: ns => (insI_perm n _).trans ((sortI_perm ns).cons n)
theorem sortI_srt : ∀ ns : List Int, (sortI ns).Pairwise (· ≤ ·)
  | [] => List.Pairwise.nil
  | n :: ns => insI_srt n _ (sortI_srt ns)
theorem srt_uniq : ∀ xs ys : List Int, xs.Perm ys → xs.Pairwise (· ≤ ·) → ys.Pairwise (· ≤ ·) → xs = ys
  | [], ys, p, _, _ => by rw [List.nil_perm.mp p]
  | x :: xs, [], p, _, _ => by have := List.perm_nil.mp p; cases this
  | x :: xs, y :: ys, p, h1, h2 => by
    rw [List.pairwise_cons] at h1 h2
    have a : x ≤ y := by
      rcases List.mem_cons.mp (p.mem_iff.mpr List.mem_cons_self) with e | e
      · omega
      · exact h1.1 y e
    have b : y ≤ x := by
      rcases List.mem_cons.mp (p.mem_iff.mp List.mem_cons_self) with e | e
      · omega
      · exact h2.1 x e
    have e : x = y := by omega
    subst e
    rw [srt_uniq xs ys ((List.perm_cons x).mp p) h1.2 h2.2]
theorem sortI_eq {ms ns : List Int} (p : ms.Perm ns) : sortI ms = sortI ns := srt_uniq _ _ ((sortI_perm ms).trans (p.trans (sortI_perm ns).symm)) (sortI_srt ms) (sortI_srt ns)
def biSorted : OpN
  | [d], st => match seqL st d with
    | some xs => match intsD xs with
      | some ns => if ns.length < 64 then some (.adr st.length, st ++ [.lst ((sortI ns).map D.int)]) else none
      | none => none
    | none => none
  | _, _ => none
variable {X : Cx} {W : WX}
theorem c_sorted : ClM X (.builtin "sorted") biSorted := by
  intro pins s σ H xs us Q I rs ⟨r, st, as, d, st', hr, pa, e, q⟩
  unfold biSorted at e
  split at e
  · rename_i a
    obtain ⟨v, rfl, ra⟩ := rpl1 pa
    split at e
    · rename_i ys ey
      split at e
      · rename_i ns ei
        by_cases hn : ns.length < 64
        · rw [if_pos hn] at e
          cases e
          obtain ⟨l, vs, rfl, sq, ls⟩ := hr.seqL ey ra
          have := intsD_rel ei ls
          subst this
          refine cr_sorted pins s σ H _ us Q I rs ⟨l, ns, rfl, sq, hn, fun ns' p h1 h2 hp => ?_⟩
          have e3 : ns' = sortI ns := srt_uniq _ _ (h1.trans (sortI_perm ns).symm) h2 (sortI_srt ns)
          subst e3
          exact finL hr q (rpl_ints _) hp
        · rw [if_neg hn] at e; cases e
      · cases e
    · cases e
  · cases e
theorem sorted_ints {q : Nat} {zs : List Int} {st : Store} (e : lstAt st q = some (zs.map D.int)) (h : zs.length < 64) : biSorted [.adr q] st = some (.adr st.length, st ++ [.lst ((sortI zs).map D.int)]) := by
  have : seqL st (.adr q) = some (zs.map D.int) := e
  show (match seqL st (.adr q) with
    | some xs => (match intsD xs with
      | some ns => if ns.length < 64 then some (D.adr st.length, st ++ [O.lst ((sortI ns).map D.int)]) else none
      | none => none)
    | none => none) = _
  rw [this]
  dsimp only
  rw [intsD_map]
  dsimp only
  rw [if_pos h]
end Mi

namespace Mi
open PySem PySem.Spec PyProof.Rows L2
noncomputable section
open Classical
/-! ### parts put in one after another: sizes and unknowns -/
theorem atP_cons' (p : Int × Tm) (ps : Pts) (n : Int) : atP (p :: ps) n = if p.1 = n then some p.2 else atP ps n := by
  unfold atP
  rw [List.find?_cons]
  by_cases c : p.1 = n <;> simp [c]
theorem atP_none {ps : Pts} {n : Int} : atP ps n = none ↔ n ∉ ps.map (·.1) := by
  induction ps with
  | nil => simp [atP]
  | cons p ps ih =>
    rw [atP_cons', List.map_cons, List.mem_cons, not_or]
    by_cases c : p.1 = n
    · rw [if_pos c]; simp [c]
    · rw [if_neg c, ih]; exact ⟨fun h => ⟨fun z => c z.symm, h⟩, fun h => h.2⟩
theorem atP_nd {ps : Pts} {n : Int} {x : Tm} (nd : (ps.map (·.1)).Nodup) : atP ps n = some x ↔ (n, x) ∈ ps := by
  induction ps with
  | nil => simp [atP]
  | cons p ps ih =>
    rw [List.map_cons, List.nodup_cons] at nd
    rw [atP_cons', List.mem_cons]
    by_cases c : p.1 = n
    · rw [if_pos c]
      constructor
      · intro h
        cases h
        exact .inl (by cases p; cases c; rfl)
      · rintro (h | h)
        · rw [← h]
        · exact absurd (c ▸ List.mem_map_of_mem (f := (·.1)) h) nd.1
    · rw [if_neg c, ih nd.2]
      constructor
      · exact .inr
      · rintro (h | h)
        · exact absurd (by rw [← h]) c
        · exact h
def cnt (n : Int) (hs : List Hd) : Nat := (hs.filter fun h => decide (h = .i n)).length
theorem cnt_cons (n : Int) (h : Hd) (hs : List Hd) : cnt n (h :: hs) = (if h = .i n then 1 else 0) + cnt n hs := by
  unfold cnt
  rw [List.filter_cons]
  by_cases c : h = .i n
  · simp [c]; omega
  · simp [c]
theorem cnt_pos {n : Int} {hs : List Hd} : 0 < cnt n hs ↔ Hd.i n ∈ hs := by
  unfold cnt
  rw [List.length_pos_iff_exists_mem]
  constructor
  · rintro ⟨h, hm⟩
    obtain ⟨h1, h2⟩ := List.mem_filter.mp hm
    have := of_decide_eq_true h2
    exact this ▸ h1
  · intro h
    exact ⟨_, List.mem_filter.mpr ⟨h, by simp⟩⟩
def totL (hs : List Hd) : Pts → Int
  | [] => 0
  | p :: ps => (cnt p.1 hs : Int) * ((p.2.size : Int) - 1) + totL hs ps
theorem totL_snoc (hs : List Hd) (p : Int × Tm) : ∀ ps : Pts, totL hs (ps ++ [p]) = totL hs ps + (cnt p.1 hs : Int) * ((p.2.size : Int) - 1)
  | [] => by simp [totL]
  | q :: ps => by
    rw [List.cons_append, totL, totL, totL_snoc hs p ps]
    omega
def Wt1 (ps : Pts) (h : Hd) : Int := match h with
  | .i n => (match atP ps n with | some x => (x.size : Int) - 1 | none => 0)
  | .s _ => 0
theorem totL_nil (ps : Pts) : totL [] ps = 0 := by
  induction ps with
  | nil => rfl
  | cons p ps ih => rw [totL, ih]; simp [cnt]
theorem totL_cons (h : Hd) (hs : List Hd) : ∀ ps : Pts, (ps.map (·.1)).Nodup → totL (h :: hs) ps = Wt1 ps h + totL hs ps
  | [], _ => by cases h <;> simp [totL, Wt1, atP]
  | p :: ps, nd => by
    rw [List.map_cons, List.nodup_cons] at nd
    have ih := totL_cons h hs ps nd.2
    rw [totL, totL, ih, cnt_cons]
    cases h with
    | s x => simp [Wt1]
    | i n =>
      unfold Wt1
      dsimp only
      rw [atP_cons']
      by_cases c : p.1 = n
      · have : atP ps n = none := atP_none.mpr (c ▸ nd.1)
        rw [if_pos c, this, if_pos (by rw [c])]
        dsimp only
        rw [Int.natCast_add, Int.add_mul]
        simp
        omega
      · rw [if_neg c, if_neg (by intro z; cases z; exact c rfl)]
        simp
        omega
theorem totL_app (ps : Pts) (nd : (ps.map (·.1)).Nodup) : ∀ xs ys : List Hd, totL (xs ++ ys) ps = totL xs ps + totL ys ps
  | [], ys => by rw [totL_nil]; simp
  | x :: xs, ys => by rw [List.cons_append, totL_cons _ _ _ nd, totL_cons _ _ _ nd, totL_app ps nd xs ys]; omega
theorem put_size_eq {ps : Pts} (nd : (ps.map (·.1)).Nodup) (t : Tm) : ((t.put ps).size : Int) = t.size + totL t.hds ps := by
  refine Tm.ind (P := fun t => ((t.put ps).size : Int) = t.size + totL t.hds ps) (fun h => ?_) (fun t x h1 h2 => ?_) t
  · rw [Tm.put_mk, Tm.puts_nil, Tm.hds_mk, Tm.hdss_nil, totL_cons _ _ _ nd, totL_nil, Tm.size_mk, Tm.sizes_nil]
    unfold putHd Wt1
    cases h with
    | s x => dsimp only; rw [Tm.size_mk, Tm.sizes_nil]; omega
    | i n =>
      dsimp only
      cases atP ps n with
      | none => dsimp only; rw [Tm.size_mk, Tm.sizes_nil]; omega
      | some x =>
        cases x with
        | mk g us => dsimp only; rw [List.append_nil]; omega
  · rw [Tm.put_snoc, Tm.size_snoc, Tm.size_snoc, Tm.hds_snoc, totL_app ps nd]
    omega
theorem put_hds {ps : Pts} {v : Int} (t : Tm) : Hd.i v ∈ (t.put ps).hds ↔ ∃ w, Hd.i w ∈ t.hds ∧ ((atP ps w = none ∧ v = w) ∨ ∃ x, atP ps w = some x ∧ Hd.i v ∈ x.hds) := by
  refine Tm.ind (P := fun t => Hd.i v ∈ (t.put ps).hds ↔ ∃ w, Hd.i w ∈ t.hds ∧ ((atP ps w = none ∧ v = w) ∨ ∃ x, atP ps w = some x ∧ Hd.i v ∈ x.hds)) (fun h => ?_) (fun t x h1 h2 => ?_) t
  · rw [Tm.put_mk, Tm.puts_nil]
    unfold putHd
    cases h with
    | s x => dsimp only; rw [Tm.hds_mk, Tm.hdss_nil]; simp
    | i n =>
      dsimp only
      cases e : atP ps n with
      | none =>
        dsimp only
        rw [Tm.hds_mk, Tm.hdss_nil]
        constructor
        · intro h
          simp at h
          exact ⟨n, by simp, .inl ⟨e, h⟩⟩
        · rintro ⟨w, hw, h | ⟨x, hx, _⟩⟩
          · simp at hw; simp [h.2, hw]
          · simp at hw; subst hw; rw [e] at hx; cases hx
      | some y =>
        cases y with
        | mk g us =>
          dsimp only
          rw [List.append_nil]
          constructor
          · intro h
            exact ⟨n, by rw [Tm.hds_mk]; simp, .inr ⟨_, e, h⟩⟩
          · rintro ⟨w, hw, h | ⟨x, hx, hv⟩⟩
            · rw [Tm.hds_mk, Tm.hdss_nil] at hw; simp at hw; subst hw; rw [e] at h; cases h.1
            · rw [Tm.hds_mk, Tm.hdss_nil] at hw; simp at hw; subst hw; rw [e] at hx; cases hx; exact hv
  · rw [Tm.put_snoc, Tm.hds_snoc, List.mem_append, h1, h2, Tm.hds_snoc]
    constructor
    · rintro (⟨w, hw, h⟩ | ⟨w, hw, h⟩)
      · exact ⟨w, List.mem_append_left _ hw, h⟩
      · exact ⟨w, List.mem_append_right _ hw, h⟩
    · rintro ⟨w, hw, h⟩
      rcases List.mem_append.mp hw with hw | hw
      · exact .inl ⟨w, hw, h⟩
      · exact .inr ⟨w, hw, h⟩
/-- the parts in one -/
def bothP (F G : Pts) : Pts := F.map (fun p => (p.1, p.2.put G)) ++ G.filter fun p => !decide (p.1 ∈ F.map (·.1))
theorem atP_map (G : Pts) (n : Int) : ∀ F : Pts, atP (F.map fun p => (p.1, p.2.put G)) n = (atP F n).map (Tm.put G)
  | [] => rfl
  | p :: F => by
    rw [List.map_cons, atP_cons', atP_cons', atP_map G n F]
    by_cases c : p.1 = n <;> simp [c]
theorem atP_filter (q : Int → Bool) (n : Int) (h : q n = true) : ∀ G : Pts, atP (G.filter fun p => q p.1) n = atP G n
  | [] => rfl
  | p :: G => by
    rw [List.filter_cons, atP_cons']
    by_cases c : p.1 = n
    · rw [if_pos (by rw [c, h]), atP_cons', if_pos c, if_pos c]
    · by_cases d : q p.1 = true
      · rw [if_pos d, atP_cons', if_neg c, if_neg c, atP_filter q n h G]
      · rw [if_neg d, if_neg c, atP_filter q n h G]
theorem atP_both {F G : Pts} {n : Int} : atP (bothP F G) n = match atP F n with | some x => some (x.put G) | none => atP G n := by
  unfold bothP
  have e : ∀ A B : Pts, atP (A ++ B) n = match atP A n with | some y => some y | none => atP B n := fun A B => by
    unfold atP
    rw [List.find?_append]
    cases A.find? fun p => decide (p.1 = n) <;> rfl
  rw [e, atP_map]
  cases h : atP F n with
  | some x => rfl
  | none =>
    dsimp only [Option.map_none]
    exact atP_filter (fun m => !decide (m ∈ F.map (·.1))) n (by rw [decide_eq_false (atP_none.mp h)]; rfl) G
theorem put_both (F G : Pts) (t : Tm) : (t.put F).put G = t.put (bothP F G) := Tm.put_put fun v _ => atP_both
theorem both_nd {F G : Pts} (h1 : (F.map (·.1)).Nodup) (h2 : (G.map (·.1)).Nodup) : ((bothP F G).map (·.1)).Nodup := by
  unfold bothP
  rw [List.map_append, List.map_map, List.nodup_append]
  refine ⟨h1, ?_, fun a ha b hb => ?_⟩
  · exact h2.sublist (List.Sublist.map _ (List.filter_sublist))
  · obtain ⟨p, hp, rfl⟩ := List.mem_map.mp ha
    obtain ⟨q, hq, rfl⟩ := List.mem_map.mp hb
    have := (List.mem_filter.mp hq).2
    intro z
    simp at this
    have hz : p.1 = q.1 := z
    exact this p.2 (by rw [← hz]; exact hp)
end
end Mi

namespace Mi
open PySem PySem.Spec PyProof.Rows L2
/-! ### fields of own objects -/
def fldD (f : Str) : List (Str × D) → Option D
  | [] => none
  | (g, d) :: fs => if g = f then some d else fldD f fs
def setF (f : Str) (d : D) : List (Str × D) → List (Str × D)
  | [] => [(f, d)]
  | (g, e) :: fs => if g = f then (g, d) :: fs else (g, e) :: setF f d fs
def insAt (st : Store) (n : Nat) : Option (Str × List (Str × D)) := match st[n]? with
  | some (.ins c fs) => some (c, fs)
  | _ => none
theorem insAt_iff {st : Store} {n : Nat} {c : Str} {fs : List (Str × D)} : insAt st n = some (c, fs) ↔ st[n]? = some (.ins c fs) := by
  unfold insAt
  cases st[n]? with
  | none => simp
  | some o => cases o <;> simp
section
variable {K : PySem.W.Frag} {mg : Str → Option Value} {H : Hp} {r : List Addr}
theorem RpP.nil_iff' {ws : List (Str × V)} : RpP K H r ([] : List (Str × D)) ws → ws = [] := fun h => by
  have := h.1
  cases ws with
  | nil => rfl
  | cons w ws => simp at this
theorem RpP.cons_iff' {g : Str} {d : D} {fs : List (Str × D)} {ws : List (Str × V)} (h : RpP K H r ((g, d) :: fs) ws) : ∃ v vs, ws = (g, v) :: vs ∧ Rp K H r d v ∧ RpP K H r fs vs := by
  obtain ⟨h1, h2⟩ := h
  cases ws with
  | nil => simp at h1
  | cons w ws =>
    obtain ⟨g', v⟩ := w
    rw [List.map_cons, List.map_cons] at h1 h2
    obtain ⟨e1, e2⟩ := List.cons.inj h1
    obtain ⟨v', vs', e3, r1, r2⟩ := RpL.cons_iff.mp h2
    obtain ⟨e4, e5⟩ := List.cons.inj e3
    dsimp only at e1 e4
    subst e1 e4 e5
    exact ⟨v, ws, rfl, r1, e2, r2⟩
theorem fld_rel {f : Str} : ∀ {fs : List (Str × D)} {ws : List (Str × V)} {d : D}, RpP K H r fs ws → fldD f fs = some d → ∃ v, ws.lookup f = some v ∧ Rp K H r d v
  | [], ws, d, _, e => by cases e
  | (g, d') :: fs, ws, d, h, e => by
    obtain ⟨v, vs, rfl, r1, r2⟩ := h.cons_iff'
    unfold fldD at e
    by_cases c : g = f
    · rw [if_pos c] at e
      cases e
      subst c
      exact ⟨v, by simp [List.lookup], r1⟩
    · rw [if_neg c] at e
      obtain ⟨w, e1, e2⟩ := fld_rel r2 e
      exact ⟨w, by rw [List.lookup_cons, show (f == g) = false from beq_eq_false_iff_ne.mpr fun z => c z.symm]; exact e1, e2⟩
theorem setF_rel {f : Str} {d : D} {v : V} (hd : Rp K H r d v) : ∀ {fs : List (Str × D)} {ws : List (Str × V)}, RpP K H r fs ws → RpP K H r (setF f d fs) (putF f v ws)
  | [], ws, h => by
    have := h.nil_iff'
    subst this
    exact ⟨rfl, RpL.cons hd RpL.nil⟩
  | (g, d') :: fs, ws, h => by
    obtain ⟨w, vs, rfl, r1, r2⟩ := h.cons_iff'
    unfold setF putF
    by_cases c : g = f
    · rw [if_pos c, if_pos c]
      exact ⟨by rw [List.map_cons, List.map_cons, r2.1], by rw [List.map_cons, List.map_cons]; exact RpL.cons hd r2.2⟩
    · rw [if_neg c, if_neg c]
      have ih := setF_rel (f := f) hd r2
      exact ⟨by rw [List.map_cons, List.map_cons, ih.1], by rw [List.map_cons, List.map_cons]; exact RpL.cons r1 ih.2⟩
theorem HR.ins {st : Store} (h : HR K mg H r st) {n : Nat} {c : Str} {fs : List (Str × D)} (e : insAt st n = some (c, fs)) : ∃ a C dx ws, r[n]? = some a ∧ mg c = some (.ref C) ∧ H a = some (.ins C dx ws) ∧ RpP K H r fs ws := by
  obtain ⟨a, e1, C, dx, ws, e0, e2, e3⟩ := h.at (insAt_iff.mp e)
  exact ⟨a, C, dx, ws, e1, e0, e2, e3⟩
end
/-- the class c has plain fields, f is no attribute of it -/
def FdOk (K : PySem.W.Frag) (mg : Str → Option Value) (c f : Str) : Prop := ∃ C, mg c = some (.ref C) ∧ Cls K C ∧ NoAttr K C f
def eFld (c f : Str) (fa : Ex) : Ex := fun env st => (fa env st).bind fun d s => match d with
  | .adr n => match insAt s n with
    | some (c', fs) => if c' = c then Rs.ofO ((fldD f fs).map fun v => (v, s)) else .no
    | none => .no
  | _ => .no
variable {X : Cx} {W : WX}
theorem m_fld {c f : Str} {e : Expr} {fa : Ex} {pos : Pos} (F : FdOk X.K X.mg c f) (h : PEm X W e fa) (hb : attributeBase e f X.env (eval e X.env) = eval e X.env := by rfl) : PEm X W (.Attribute e f pos) (eFld c f fa) :=
  PE.imp (pe_fld h hb) fun σ H Q q => by
    refine tG_seq (Ra := RV X) q fun d x H1 env r st er hr rd p => ?_
    cases d with
    | adr n =>
      dsimp only at p
      cases hi : insAt st n with
      | none => rw [hi] at p; exact p.elim
      | some y =>
        obtain ⟨c', fs⟩ := y
        rw [hi] at p
        dsimp only at p
        by_cases hc : c' = c
        · rw [if_pos hc] at p
          subst hc
          obtain ⟨a, C, dx, ws, e1, e2, e3, e4⟩ := hr.ins hi
          obtain ⟨a', g1, rfl⟩ := Rp.adr_iff.mp rd
          rw [e1] at g1; cases g1
          obtain ⟨C', f1, f2, f3⟩ := F
          rw [e2] at f1; cases f1
          obtain ⟨v, st', ev, q2⟩ := ofO_fin p
          obtain ⟨v0, ev0, e5⟩ := Option.map_eq_some_iff.mp ev
          cases e5
          obtain ⟨w, l1, l2⟩ := fld_rel e4 ev0
          exact ⟨a, C, dx, ws, w, rfl, e3, f2, f3, l1, fin0 hr q2 l2⟩
        · rw [if_neg hc] at p; exact p.elim
    | _ => exact p.elim
/-- o.f = e -/
def setFl (c f : Str) (o d : D) (st : Store) : Option Store := match o with
  | .adr n => match insAt st n with
    | some (c', fs) => if c' = c ∧ fs.length < 1000 then some (st.set n (.ins c (setF f d fs))) else none
    | none => none
  | _ => none
def sFldS (c f : Str) (fo fv : Ex) : Sx := fun env st => (fv env st).toOut env fun d s1 => (fo env s1).toOut env fun o s2 => match setFl c f o d s2 with
  | some s' => .nx env s'
  | none => .no
theorem m_sfld {c f : Str} {o e : Expr} {fo fv : Ex} {pos pos' : Pos} (F : FdOk X.K X.mg c f) (ho : PEm X W o fo) (he : PEm X W e fv) (hs : swapsWith e (some (.Attribute o f pos')) pos.line X.env = pure false := by rfl) : PSm X W (.Assign [.Attribute o f pos'] e pos) (sFldS c f fo fv) :=
  PS.imp (ps_fld ho he hs) fun Dn σ H q =>
    tS_seq (R := RV X) q fun d v H1 env r st er hr rd p => by
      refine tS_then (Ra := RV X) er hr p fun o x H2 r2 s2 e1 e2 er2 hr2 ro p2 => ?_
      cases hp : setFl c f o d s2 with
      | none => rw [hp] at p2; exact p2.elim
      | some s4 =>
        rw [hp] at p2
        unfold setFl at hp
        cases o with
        | adr n =>
          dsimp only at hp
          cases hi : insAt s2 n with
          | none => rw [hi] at hp; cases hp
          | some y =>
            obtain ⟨c', fs⟩ := y
            rw [hi] at hp
            dsimp only at hp
            obtain ⟨⟨hc, hl⟩, hs4⟩ := ite_some hp
            subst hc hs4
            obtain ⟨a, C, dx, ws, g1, g2, g3, g4⟩ := hr2.ins hi
            obtain ⟨a', h1, rfl⟩ := Rp.adr_iff.mp ro
            rw [g1] at h1; cases h1
            obtain ⟨C', f1, f2, f3⟩ := F
            rw [g2] at f1; cases f1
            have wl : ws.length < 1000 := by have := congrArg List.length g4.1; simp at this; omega
            refine ⟨a, C, dx, ws, rfl, g3, f2, f3, wl, ?_⟩
            have x : Ext X.K H2 (upd H2 a (.ins C dx (putF f v ws))) := Ext.write g3 trivial
            have hr3 := hr2.put g1 (o := .ins c' (setF f d fs)) ⟨C, dx, putF f v ws, g2, upd_same, (setF_rel (Rp.mono e1 e2 _ _ rd) g4).mono x (List.prefix_refl _)⟩
            exact p2 σ _ r2 ⟨x, List.prefix_refl _, hr3⟩ (er2.mono x (List.prefix_refl _))
        | _ => cases hp
end Mi

namespace Mi
open PySem PySem.Spec PyProof.Rows L2
/-! ### own methods -/
theorem fld_none {K : PySem.W.Frag} {H : Hp} {r : List Addr} {f : Str} : ∀ {fs : List (Str × D)} {ws : List (Str × V)}, RpP K H r fs ws → fldD f fs = none → ws.lookup f = none
  | [], ws, h, _ => by rw [h.nil_iff']; rfl
  | (g, d) :: fs, ws, h, e => by
    obtain ⟨v, vs, rfl, _, r2⟩ := h.cons_iff'
    unfold fldD at e
    by_cases c : g = f
    · rw [if_pos c] at e; cases e
    · rw [if_neg c] at e
      rw [List.lookup_cons, show (f == g) = false from beq_eq_false_iff_ne.mpr fun z => c z.symm]
      exact fld_none r2 e
def eMth (C : Calls) (cn m : Str) (fid : Nat) (fo : Ex) (fa : Fx (List D)) : Ex := fun env st => (fo env st).bind fun o s1 => match o with
  | .adr n => match insAt s1 n with
    | some (c, fs) => if c = cn ∧ fldD m fs = none then (fa env s1).bind fun as s2 => C fid (.adr n :: as) s2 else .no
    | none => .no
  | _ => .no
section
variable {X : Cx} {W : WX} {T : List FnI} {k : Nat}
/-- what the object's reading asks -/
theorem mth_red {cn m : Str} {fid : Nat} {d : FnI} {fo : Ex} {fa : Fx (List D)} {σ : L2.St} {H : Hp} {Q : VK} {C : Addr} {na : Nat} (hC : X.mg cn = some (.ref C)) (hla : ∀ env st as s1, fa env st = .ok as s1 → as.length = na) (hlen : na + 1 = d.ps.length)
    (h : tM X W (eMth (callK T k) cn m fid fo fa) σ H Q) :
    tM X W fo σ H fun x H1 => ∃ a dx ws, x = .ref a ∧ H1 a = some (.ins C dx ws) ∧ ws.lookup m = none ∧ tA X W fa σ H1 fun vs H2 => spM X.K X.mg d.ps.length (callK T k fid) (.ref a :: vs) H2 Q fun c d H' => W c d σ H' := by
  refine tG_seq (Ra := RV X) h fun o x H1 env r st er hr ro p => ?_
  cases o with
  | adr n =>
    dsimp only at p
    cases hi : insAt st n with
    | none => rw [hi] at p; exact p.elim
    | some y =>
      obtain ⟨c, fs⟩ := y
      rw [hi] at p
      dsimp only at p
      by_cases hc : c = cn ∧ fldD m fs = none
      · rw [if_pos hc] at p
        obtain ⟨rfl, hf⟩ := hc
        obtain ⟨a, C', dx, ws, e1, e2, e3, e4⟩ := hr.ins hi
        obtain ⟨a', g1, rfl⟩ := Rp.adr_iff.mp ro
        rw [e1] at g1; cases g1
        rw [hC] at e2; cases e2
        refine ⟨a, dx, ws, rfl, e3, fld_none e4 hf, env, r, st, er, hr, ?_⟩
        cases ef : fa env st with
        | no => rw [ef] at p; exact p
        | ex z s1 => rw [ef] at p; exact p
        | ok as s1 =>
          rw [ef] at p
          intro vs H2 r1 g rl
          refine ⟨?_, r1, s1, .adr n :: as, g.2.2, RpL.cons (Rp.mono g.1 g.2.1 _ _ (Rp.adr_iff.mpr ⟨a, e1, rfl⟩)) rl, ?_⟩
          · rw [List.length_cons, RpL.length rl, hla _ _ _ _ ef, hlen]
          · have p2 := PstG.base p g
            simp only [Rs.bind_ok] at p2
            cases ec : callK T k fid (.adr n :: as) s1 with
            | no => rw [ec] at p2; exact p2
            | ex z s2 => rw [ec] at p2; exact p2
            | ok z s2 => rw [ec] at p2; exact p2
      · rw [if_neg hc] at p; exact p.elim
  | _ => exact p.elim
theorem m_mth {fid na : Nat} {d : FnI} {cn m : Str} {o e : Expr} {es : List Expr} {fo : Ex} {fa : Fx (List D)} {apos pos : Pos} {pl : Sem Bool} (c : Ctx X T k W) (hT : T[fid]? = some d) (hx : d.name = m) (hcl : d.cls = some cn) (ho : PEm X W o fo) (ha : PAm X W (e :: es) fa)
    (hla : ∀ env st as s1, fa env st = .ok as s1 → as.length = na) (hlen : na + 1 = d.ps.length)
    (hst : starEach (e :: es) X.env = (false, eval e X.env) :: starEach es X.env := by rfl) (hpl : (backTo pos (starEach es X.env)).any (·.1) = false := by rfl)
    (ht : eval (.Call (.Attribute o m apos) (e :: es) [] pos) X.env = (do let ov ← eval o X.env; standAt apos.atName; let (f, first) ← holding [ov] (getMethod ov m pl); callWith pos f first (backTo pos (starEach (e :: es) X.env)) (backToKw pos (keywordEach [] X.env))) := by rfl) (hh : d.hot = false := by rfl) :
    PEm X W (.Call (.Attribute o m apos) (e :: es) [] pos) (eMth (callK T k) cn m fid fo fa) := by
  obtain ⟨f, fd, hm, hk, hb, F⟩ := c.fns fid d hT
  rw [hh] at F
  obtain ⟨C, hC, cl, at_, fn⟩ := hm.some hcl
  subst hx
  refine ⟨fun pins s σ H Q I h => ?_⟩
  have h2 := mth_red hC hla hlen h
  refine PySem.W.methodCall_KW (pl := pl) (thn (ho.run pins s σ H _ I h2) fun u s1 ⟨x, H1, I1, rx, a, dx, ws, ex, ea, lk, q⟩ => ?_) ht
  subst ex
  cases rx
  refine getmeth_ok I1 ea cl ⟨at_, fn, hk⟩ lk ?_
  exact PySem.W.callWith_K (first := [.ref a]) (h₀ := X.base) I.ok.mod.kin hk (thn (ha.run pos pins s1 σ H1 _ I1 q) fun us s2 ⟨vs, H2, I2, rv, q2⟩ => ⟨I2.kIn, run_m (us := .ref a :: us) (vs := .ref a :: vs) (F k (Nat.le_refl k)) c.room hb c.tk I2 (.cons rfl rv) q2⟩) hst hpl
theorem m_mth0 {fid : Nat} {d : FnI} {cn m : Str} {o : Expr} {fo : Ex} {apos pos : Pos} {pl : Sem Bool} (c : Ctx X T k W) (hT : T[fid]? = some d) (hx : d.name = m) (hcl : d.cls = some cn) (ho : PEm X W o fo) (hlen : d.ps.length = 1)
    (ht : eval (.Call (.Attribute o m apos) [] [] pos) X.env = (do let ov ← eval o X.env; standAt apos.atName; let (f, first) ← holding [ov] (getMethod ov m pl); callWith pos f first (backTo pos (starEach [] X.env)) (backToKw pos (keywordEach [] X.env))) := by rfl) (hh : d.hot = false := by rfl) :
    PEm X W (.Call (.Attribute o m apos) [] [] pos) (eMth (callK T k) cn m fid fo aNil) := by
  obtain ⟨f, fd, hm, hk, hb, F⟩ := c.fns fid d hT
  rw [hh] at F
  obtain ⟨C, hC, cl, at_, fn⟩ := hm.some hcl
  subst hx
  refine ⟨fun pins s σ H Q I h => ?_⟩
  have h2 := mth_red (na := 0) hC (fun env st as s1 h => by cases h; rfl) (by rw [hlen]) h
  refine PySem.W.methodCall_KW (pl := pl) (thn (ho.run pins s σ H _ I h2) fun u s1 ⟨x, H1, I1, rx, a, dx, ws, ex, ea, lk, q⟩ => ?_) ht
  subst ex
  cases rx
  refine getmeth_ok I1 ea cl ⟨at_, fn, hk⟩ lk ?_
  obtain ⟨env, r, st, er, hr, p⟩ := q
  exact PySem.W.callWith_K0 (first := [.ref a]) I1.kIn hk (run_m (us := [.ref a]) (vs := [.ref a]) (F k (Nat.le_refl k)) c.room hb c.tk I1 (.cons rfl .nil) (p [] H1 r (Grow.refl hr) RpL.nil))
end
end Mi

namespace Mi
open PySem PySem.Spec PyProof.Rows L2
/-! ### making an own object -/
theorem RoomM.make {k : Nat} {A : Around} (r : RoomM (k + 1) A) (C : Addr) (us : List Value) : RoomM k (A.under (.builtin "type.__call__" ⟨.ref C :: us, []⟩)) :=
  ⟨r.hd, by have := r.dp; rw [make_depth]; omega, by have := r.un; rw [make_units]; omega⟩
/-- the class may be made -/
def MkOk (K : PySem.W.Frag) (mg : Str → Option Value) (cn : Str) : Prop := ∃ C, mg cn = some (.ref C) ∧ PySem.W.makesIn K C = true ∧ PySem.W.keepIn K (.ref C) = true
section
variable {X : Cx} {W : WX} {T : List FnI} {k : Nat}
theorem run_mk {pins : List (Addr × Obj)} {σ : L2.St} {H : Hp} {s : Shared} {Q : VK} {us : List Value} {vs : List V} {f C : Addr} {fd : FuncData} {ps : List Str} {sp : Sp} (hm : PySem.W.makesIn X.K C = true) (hi : PySem.W.findIn X.K (.ref C) "__init__" = some (some (.ref f))) (hf : PySem.W.isFn X.K (.ref f) = true)
    (F : FnM X.prog X.w X.K X.mg X.base k f fd ps sp) (hr : RoomM (k + 1) X.A) (hb : Binds X.K fd ps []) (tk : Takes X W) (I : Inv X pins σ H s) (r : Vals vs us)
    (h : ∀ x dx, H x = none → H dx = none → dx ≠ x → sp (.ref x :: vs) (upd (upd H dx (.own x)) x (.ins C dx [])) (fun v H2 => v = .non ∧ Q (.ref x) H2) (fun c d H' => W c d σ H')) :
    wpAny (model X.prog X.w) X.A (call (.ref C) us) (EP X pins σ Q) X.xe s := by
  have hq := h (s.heap.objs.size + 1) s.heap.objs.size (I.hok.fresh (Nat.le_succ _)) (I.hok.fresh (Nat.le_refl _)) (Nat.ne_of_lt (Nat.lt_succ_self _))
  have J := Inv.made (C := C) I
  have r2 : Vals (V.ref (s.heap.objs.size + 1) :: vs) (Value.ref (s.heap.objs.size + 1) :: us) := .cons rfl r
  have hl : ((Value.ref (s.heap.objs.size + 1) :: us) ++ []).length = ps.length := by
    rw [List.append_nil, ← r2.length]
    exact F.len _ _ _ _ hq
  have hb' := hb _ (Value.ref (s.heap.objs.size + 1) :: us) J.kIn hl
  rw [List.append_nil] at hb'
  refine wpAny_call (make_map (f := f) I.kIn hm hi (beq_iff_eq.mp hf) (codeAny_mono (F.run _ X.stack _ _ ⟨Value.ref (s.heap.objs.size + 1) :: us, []⟩ (Value.ref (s.heap.objs.size + 1) :: us) _ _ _ (hr.make C us) (fun z => Bool.noConfusion z) (J.env0.make C us []) hb' r2 hq) fun rr s' hz => ?_))
  cases rr with
  | error e => exact tk _ _ (XE.of_call J (fun _ _ _ z => z) hz)
  | ok fl =>
    cases fl with
    | ret u =>
      obtain ⟨v, H', I3, rv, ev, q3⟩ := J.after hz
      subst ev
      exact ⟨rv, ⟨V.ref (s.heap.objs.size + 1), H', I3, rfl, q3⟩⟩
    | next => exact False.elim hz
    | brk => exact False.elim hz
    | cont => exact False.elim hz
theorem make_red {cn : Str} {fid na : Nat} {d : FnI} {fa : Fx (List D)} {σ : L2.St} {H : Hp} {Q : VK} {C : Addr} (hC : X.mg cn = some (.ref C)) (hT : T[fid]? = some d) (hN : T[1000 + fid]? = none) (hcl : d.cls = some cn) (hla : ∀ env st as s1, fa env st = .ok as s1 → as.length = na) (hlen : na + 1 = d.ps.length)
    (h : tM X W (eCall (callK T k) (1000 + fid) fa) σ H Q) :
    tA X W fa σ H fun vs H1 => ∃ k', k = k' + 1 ∧ ∀ x dx, H1 x = none → H1 dx = none → dx ≠ x → spM X.K X.mg d.ps.length (callK T k' fid) (.ref x :: vs) (upd (upd H1 dx (.own x)) x (.ins C dx [])) (fun v H2 => v = .non ∧ Q (.ref x) H2) (fun c e H' => W c e σ H') := by
  obtain ⟨env, r, st, er, hr, p⟩ := h
  refine ⟨env, r, st, er, hr, ?_⟩
  unfold eCall at p
  cases ef : fa env st with
  | no => rw [ef] at p; exact p
  | ex z s1 => rw [ef] at p; exact p
  | ok as s1 =>
    rw [ef] at p
    intro vs H1 r1 g rl
    have p2 := PstG.base p g
    simp only [Rs.bind_ok] at p2
    cases k with
    | zero => exact p2.elim
    | succ k =>
      have ec : callK T (k + 1) (1000 + fid) as s1 = mkC (callK T k fid) (some cn) as s1 := by
        rw [callK, hN]
        dsimp only
        rw [show 1000 + fid - 1000 = fid by omega, hT]
        show mkC _ d.cls _ _ = _
        rw [hcl]
      rw [ec] at p2
      unfold mkC at p2
      dsimp only at p2
      refine ⟨k, rfl, fun x dx n1 n2 ne => ?_⟩
      have e1 : Ext X.K H1 (upd H1 dx (.own x)) := Ext.fresh n2
      have n3 : upd H1 dx (.own x) x = none := by rw [upd_ne ne.symm]; exact n1
      have hr1 := g.2.2.keep (H' := upd H1 dx (.own x)) e1 fun a ha => by
        obtain ⟨i, hi⟩ := List.getElem?_of_mem ha
        obtain ⟨u, q, _⟩ := g.2.2.has hi
        exact upd_ne (ne_of_none q n2)
      have e2 : Ext X.K (upd H1 dx (.own x)) (upd (upd H1 dx (.own x)) x (.ins C dx [])) := Ext.fresh n3
      have hr2 := hr1.new n3 (o := .ins cn []) ⟨C, dx, [], hC, upd_same, rfl, RpL.nil⟩
      have ax : (r1 ++ [x])[s1.length]? = some x := by rw [← g.2.2.len]; simp
      refine ⟨?_, r1 ++ [x], s1 ++ [.ins cn []], .adr s1.length :: as, hr2, RpL.cons (Rp.adr_iff.mpr ⟨x, ax, rfl⟩) (RpL.mono (e1.trans e2) ⟨[x], rfl⟩ _ _ rl), ?_⟩
      · rw [List.length_cons, RpL.length rl, hla _ _ _ _ ef, hlen]
      · cases ek : callK T k fid (.adr s1.length :: as) (s1 ++ [.ins cn []]) with
        | no => rw [ek] at p2; exact p2
        | ex z s2 =>
          rw [ek] at p2
          exact fun c dd H' r' g' q => p2 c dd H' r' ⟨(e1.trans e2).trans g'.1, (show r1 <+: r1 ++ [x] from ⟨[x], rfl⟩).trans g'.2.1, g'.2.2⟩ q
        | ok z s2 =>
          rw [ek] at p2
          simp only [Rs.bind_ok] at p2
          cases z with
          | non =>
            intro v H' r' g' q
            refine ⟨Rp.non_iff.mp q, p2 (.ref x) H' r' ⟨(e1.trans e2).trans g'.1, (show r1 <+: r1 ++ [x] from ⟨[x], rfl⟩).trans g'.2.1, g'.2.2⟩ (Rp.adr_iff.mpr ⟨x, ?_, rfl⟩)⟩
            exact pre_get g'.2.1 ax
          | _ => exact p2.elim
theorem m_make {fid na : Nat} {d : FnI} {cn : Str} {e : Expr} {es : List Expr} {fa : Fx (List D)} {p pos : Pos} (c : Ctx X T k W) (MO : MkOk X.K X.mg cn) (hT : T[fid]? = some d) (hN : T[1000 + fid]? = none) (hx : d.name = "__init__") (hcl : d.cls = some cn) (hg : Gl X cn) (ha : PAm X W (e :: es) fa)
    (hla : ∀ env st as s1, fa env st = .ok as s1 → as.length = na) (hlen : na + 1 = d.ps.length)
    (hdb : (cn == ("__debug__" : Str)) = false := by decide) (he : starEach (e :: es) X.env = (false, eval e X.env) :: starEach es X.env := by rfl) (hpl : (backTo pos (starEach es X.env)).any (·.1) = false := by rfl) (hh : d.hot = false := by rfl) :
    PEm X W (.Call (.Name cn p) (e :: es) [] pos) (eCall (callK T k) (1000 + fid) fa) := by
  obtain ⟨f, fd, hm, hk, hb, F⟩ := c.fns fid d hT
  rw [hh] at F
  obtain ⟨C, hC, cl, at_, fn⟩ := hm.some hcl
  rw [hx] at at_
  obtain ⟨C', hC', mk, kp⟩ := MO
  rw [hC] at hC'
  cases hC'
  refine ⟨fun pins s σ H Q I h => ?_⟩
  have h2 := make_red hC hT hN hcl hla hlen h
  refine wpAny_Call_Name_kw (ld_glob I hg hC ?_ hdb)
  refine PySem.W.callWith_K (h₀ := X.base) I.ok.mod.kin kp (thn (ha.run pos pins s σ H _ I h2) fun us s1 ⟨vs, H1, I1, r, k', ek, q⟩ => ⟨I1.kIn, ?_⟩) he hpl
  subst ek
  exact run_mk mk at_ fn (F k' (Nat.le_succ _)) c.room hb c.tk I1 r q
end
end Mi

namespace Mi
open PySem PySem.Spec PyProof.Rows L2
/-! ### what the top gives of own classes; a def by another name -/
section
variable {K : PySem.W.Frag} {h : Heap} {mg : Str → Option Value} {c f : Str} {C : Addr}
theorem fd_mk (X : K.In h) (G : h.Ns mainGlobals mg) (a : PySem.W.nsIn K mainGlobals c = some (some (.ref C))) (pg : PySem.W.plainGet K C Str.empty = true) (hd : PySem.W.hasDictIn K C = true) (po : PySem.W.plainOver K C = true)
    (sa : PySem.W.findIn K (.ref C) "__setattr__" = some (some (.builtin "object.__setattr__"))) (na : PySem.W.findIn K (.ref C) f = some none) : FdOk K mg c f := ⟨C, PySem.W.mg_of X G a, ⟨pg, hd, po, sa⟩, na⟩
theorem mk_mk (X : K.In h) (G : h.Ns mainGlobals mg) (a : PySem.W.nsIn K mainGlobals c = some (some (.ref C))) (mk : PySem.W.makesIn K C = true) (kp : PySem.W.keepIn K (.ref C) = true) : MkOk K mg c := ⟨C, PySem.W.mg_of X G a, mk, kp⟩
end
section
variable {X : Cx} {W : WX} {T : List FnI} {k : Nat}
theorem m_callA {fid : Nat} {d : FnI} {x : Str} {e : Expr} {es : List Expr} {fa : Fx (List D)} {p pos : Pos} (c : Ctx X T k W) (hx : X.mg x = X.mg d.name) (hT : T[fid]? = some d) (hg : Gl X x) (ha : PAm X W (e :: es) fa) (hlen : (e :: es).length = d.ps.length)
    (hla : ∀ env st as s1, fa env st = .ok as s1 → as.length = (e :: es).length)
    (hdb : (x == ("__debug__" : Str)) = false := by decide) (he : starEach (e :: es) X.env = (false, eval e X.env) :: starEach es X.env := by rfl) (hpl : (backTo pos (starEach es X.env)).any (·.1) = false := by rfl) (hcl : d.cls = none := by rfl) (hh : d.hot = false := by rfl) :
    PEm X W (.Call (.Name x p) (e :: es) [] pos) (eCall (callK T k) fid fa) := by
  obtain ⟨f, fd, hm, hk, hb, F⟩ := c.fns fid d hT
  rw [hh] at F
  replace hm := hx.trans (hm.none hcl)
  refine ⟨fun pins s σ H Q I h => ?_⟩
  refine wpAny_Call_Name_kw (ld_glob I hg hm ?_ hdb)
  have h2 : tA X W fa σ H (fun vs H1 => spM X.K X.mg d.ps.length (callK T k fid) vs H1 Q (fun c d H' => W c d σ H')) := by
    obtain ⟨env, r, st, er, hr, p⟩ := h
    refine ⟨env, r, st, er, hr, ?_⟩
    unfold eCall at p
    cases ef : fa env st with
    | no => rw [ef] at p; exact p
    | ex a s1 => rw [ef] at p; exact p
    | ok as s1 =>
      rw [ef] at p
      intro vs H1 r1 g rl
      refine ⟨?_, r1, s1, as, g.2.2, rl, ?_⟩
      · rw [RpL.length rl, hla _ _ _ _ ef, hlen]
      · have p2 := PstG.base p g
        simp only [Rs.bind_ok] at p2
        cases ec : callK T k fid as s1 with
        | no => rw [ec] at p2; exact p2
        | ex a s2 => rw [ec] at p2; exact p2
        | ok a s2 => rw [ec] at p2; exact p2
  refine PySem.W.callWith_K (h₀ := X.base) I.ok.mod.kin hk (thn (ha.run pos pins s σ H _ I h2) fun us s1 ⟨vs, H1, I1, r, q⟩ => ⟨I1.kIn, ?_⟩) he hpl
  exact run_m (F k (Nat.le_refl k)) c.room hb c.tk I1 r q
end
end Mi

namespace Mi
open PySem PySem.Spec PyProof.Rows L2
open PySem.W (ks_superIn ks_superObj ksFn ksEnv)

section
variable {prog : Program} {w : World} {A : Around} {E : Value → Shared → Prop} {h : Heap} {g : Array GenState} {d : Drawn} {t : Nat} {os : OsState}
/-- the bound ValueError.__init__ is called -/
theorem call_mw {u e t0 C : Addr} {rest : List Value} {Q : Value → Shared → Prop} {nm q : Str} {N : Addr} {bs bm : List Value} {hdct : Bool} {sn : List Str} {sub : List Value} {ab : Bool} {col : Option Bool} {dd : Option Addr} {k0 k1 k2 k3 k5 : Option Value}
    (hC : h.get? C = some (excClassObj nm q C N bs bm hdct sn sub ab col dd k0 k1 k2 k3 k5 "ValueError.__new__")) (he : h.get? e = some (PySem.HandSPX.excO C t0)) (hu : h.get? u = some (PySem.W.kxs_mw "ValueError.__init__" e)) (hrest : rest.length ≤ sizeLine)
    (hq : ∀ h' t1, (∀ b o, b ≠ e → h.get? b = some o → h'.get? b = some o) → h'.get? e = some (PySem.HandSPX.excO C t1) → Q .none ⟨h', g, d, t, os⟩) :
    wpAny (model prog w) A (call (.ref u) rest) Q E ⟨h, g, d, t, os⟩ := by
  refine wpAny_call (codeAny_of_tree (?_ : wpAny _ A.in1 (callAny (.ref u) ⟨rest, []⟩) _ _ _))
  simp only [callAny]
  refine wpAny_bind (wpAny_load hu ?_)
  simp only [PySem.W.kxs_mw, show (Value.type "method-wrapper" == Value.type "method" || Value.type "method-wrapper" == Value.type "builtin_function_or_method" || Value.type "method-wrapper" == Value.type "method-wrapper") = true by decide, if_true]
  refine PySem.W.KFB.if_so (by decide) (wpAny_bind (PySem.W.check_bound_init F.excBase_ValueError.toExcCallFacts hC he rfl (wpAny_bind (wpAny_pure (wpAny_pure ⟨plainId_quiet F.excBase_ValueError.init.plain _, codeAny_builtin F.excBase_ValueError.initEntry ?_⟩)))))
  wp_walk
  refine hq _ h.objs.size (fun b o hb ho => ?_) ?_
  all_goals first | rw [Heap.get?_update_other _ _ (Ne.symm hb)]; exact Heap.get?_push_of_some _ ho | (rw [Heap.get?_update_self _ (Heap.get?_push_of_some _ he) rfl]; rfl)
end

/-- X(v): __init__(self, x): super().__init__(lit); self.f = x -/
structure SupFn (P : Program) (K : PySem.W.Frag) (C : Addr) (f sn x : Str) (fI : Addr) (fd : FuncData) : Prop where
  ex : ∃ (qual lit file : Str) (params : Arguments) (body : List Stmt) (scope : Scope) (kV doc pm ct oc cl ccl : Value) (an od cld cdd : Option Addr) (osl csl ccs : Array (Option Value)) (cda cc : Addr) (vs : Array Value) (tf : Tok) (ar : Arg) (j : Nat) (p0 p1 p2 p3 p4 p5 q0 q1 q2 q3 : Pos),
    fd = ksFn "__init__" qual params body scope .none kV doc pm an (.ref cda) ct cc ∧ K.lookup fI = some ⟨oc, od, .func fd, osl⟩ ∧ PySem.W.codeIn K (.ref cda) qual = true ∧
    body = [.Expr (.Call (.Attribute (.Call (.Name "super" p0) [] [] p1) "__init__" p2) [.Constant (.str lit) j p3] [] p4) p5, .Assign [.Attribute (.Name sn q0) f q1] (.Name x q2) q3] ∧
    (params.posonlyargs ++ params.args).head? = some ar ∧ ar.arg = sn ∧ K.lookup cda = some ⟨ccl, cdd, .fields vs, ccs⟩ ∧ vs[2]? = some (.str file tf) ∧ ((P.main.file : Str) == file) = true ∧
    K.lookup cc = some ⟨cl, cld, .cell (some (.ref C)), csl⟩ ∧ scope.names.lookup ("super" : Str) = some .globalImplicit ∧ scope.names.lookup ("__class__" : Str) = some .free ∧ scope.names.lookup sn = some .local ∧ scope.names.lookup x = some .local ∧
    scope.kind = .function ∧ scope.isCoroutine = false ∧ scope.isGenerator = false ∧ (∀ n ∈ scope.names, n.2 ≠ .cell) ∧
    (∀ L, ∃ pl, eval (.Call (.Attribute (.Call (.Name "super" p0) [] [] p1) "__init__" p2) [.Constant (.str lit) j p3] [] p4) (ksEnv qual scope L fI (.ref cda) cc) = (do
      let ov ← attributeBase (.Call (.Name "super" p0) [] [] p1) "__init__" (ksEnv qual scope L fI (.ref cda) cc) (eval (.Call (.Name "super" p0) [] [] p1) (ksEnv qual scope L fI (.ref cda) cc))
      standAt p2.atName
      let (f, first) ← holding [ov] (getMethod ov "__init__" pl)
      callWith p4 f first (backTo p4 (starEach [.Constant (.str lit) j p3] (ksEnv qual scope L fI (.ref cda) cc))) [])) 
  ne : sn ≠ x
  dbg : (sn == ("__debug__" : Str)) = false ∧ (x == ("__debug__" : Str)) = false
  top : (P.main.scope.names.lookup ("super" : Str)).isSome = false
  opq : PySem.W.nsIn K cStatics "thirdparty.any" = some none
  sup : ks_superIn K C C "__init__" = some (some (.builtin "ValueError.__init__"))
  sub : PySem.W.subIn K (.ref C) (.type "ValueError") = some true
  fno : PySem.W.findIn K (.ref C) f = some none
  oex : OexC K C
def spSup (C : Addr) (f : Str) : Sp := fun vs H Q _ => ∃ a y, vs = [.ref a, y] ∧ H a = some (exo a C none) ∧ ∀ d, H d = none → d ≠ a → Q .non (upd (upd H d (exd d [(f, y)])) a (exo a C (some d)))
theorem int_off {env : Env} (h : env.scope.kind = .function) : interactive env = false := by
  unfold interactive
  rw [h]
  rfl
theorem boot_super : bootBuiltins "super" = some (.type "super") := by decide +kernel
theorem run_sup {P : Program} {w : World} {K : PySem.W.Frag} {mg : Str → Option Value} {base : Heap} {C fI : Addr} {f sn x : Str} {fd : FuncData} (S : SupFn P K C f sn x fI fd) (hsu : mg "super" = none) :
    FnOk P w K mg base (L2.CX P w) 0 fI fd [sn, x] (spSup C f) := by
  obtain ⟨qual, lit, file, params, body, scope, kV, doc, pm, ct, oc, cl, ccl, an, od, cld, cdd, osl, csl, ccs, cda, cc, vs, tf, ar, j, p0, p1, p2, p3, p4, p5, q0, q1, q2, q3, rfl, lk, hcd, rfl, hp, rfl, lcda, hvs, hfile, lcc, s1, s2, s3, s4, s5, s6, s7, s8, s9⟩ := S.ex
  refine ⟨fun vs H Q E ⟨a, y, e, _⟩ => by rw [e]; rfl, fun A outer s H args us vs' Q E hr e0 hb r hsp => ?_⟩
  obtain ⟨a, y, rfl, ea, q⟩ := hsp
  have T := S.oex
  obtain ⟨nm, qn, N, bs, bm, sn', sub, ab, col, dd, k0, k1, k2, k3, k5, lC, hbm⟩ := T.cls
  obtain ⟨t0, ho⟩ := exo_at e0.hok ea
  have bk : ∀ b o, base.get? b = some o → s.heap.get? b = some o := fun b o e => (e0.bs b o e).1
  have KX : K.In s.heap := e0.mod.kin.keeps bk
  have lim : s.heap.NoLimit := e0.mod.nolimit.keeps bk
  have hcl : PySem.W.clsIn K C = some { name := nm, bases := bs, mro := .ref C :: bm, ns := N, qualname := qn, hasDict := true, slotNames := sn', subclasses := sub, abstract := ab, collection := col, hasDel := false } := by unfold PySem.W.clsIn; rw [lC] <;> rfl
  obtain ⟨mb, hbl, hbm2⟩ := e0.mod.blt
  cases r with
  | @cons _ u0 _ ur ra rw' =>
  obtain rfl : u0 = Value.ref a := ra
  cases rw' with
  | @cons _ u _ ur ry rw2 =>
  cases rw2
  have hac : a ≠ C := fun z => by
    subst z
    have e := KX _ _ lC
    rw [ho] at e
    cases e
  have I0 : ∀ {h : Heap} {t : Addr}, h.get? a = some (PySem.HandSPX.excO C t) → PySem.W.InstAt h a (PySem.HandSPX.excO C t) C none := fun e => ⟨e, rfl, rfl, trivial⟩
  have hI : ∀ {h : Heap} {t : Addr}, K.In h → h.get? a = some (PySem.HandSPX.excO C t) → PySem.W.Looks (model P w) h (isInstance (.ref a) (.type "ValueError")) true := fun KY e => (I0 e).type.andThen (PySem.W.looks_subIn KY S.sub)
  refine ks_codeAny_call_defAt hr.depth (KX _ _ lk) rfl lim (PySem.W.codeRec_of KX hcd) rfl hb s8 (fun z hz => ?_) (fun h₁ hns hk₁ => ?_) s6 s7 s5
  · rcases List.mem_cons.mp hz with rfl | hz
    · exact s3
    · rcases List.mem_cons.mp hz with rfl | hz
      · exact s4
      · cases hz
  have KX1 : K.In h₁ := KX.keeps hk₁
  have bk1 : ∀ b o, base.get? b = some o → h₁.get? b = some o := fun b o e => hk₁ b o (bk b o e)
  have hself : (fun z => ([ar.arg, x].zip [Value.ref a, u]).reverse.lookup z) ar.arg = some (.ref a) := by
    simp [List.lookup, show (ar.arg == x) = false by simpa using S.ne]
  have hx : (fun z => ([ar.arg, x].zip [Value.ref a, u]).reverse.lookup z) x = some u := by
    simp [List.lookup]
  obtain ⟨pl, s9⟩ := s9 s.heap.objs.size
  refine ks_wpAt_execs_cons (ks_wpAt_Expr_any (ks_wpAt_MethodCall (pl := pl) ?_ s9) (int_off s5) rfl)
  refine ks_wpAt_super_base (env := ksEnv qual scope s.heap.objs.size fI (.ref cda) cc) s1 s2 (by decide) rfl (KX1 _ _ lk) rfl hp rfl (KX1 _ _ lcda) rfl hvs hfile S.top ?_
  refine PySem.W.ks_loadName_global s5 s1 (Calls.loadGlobal_builtin (env := ksEnv qual scope s.heap.objs.size fI (.ref cda) cc) (e0.mod.glob.keeps bk1) hsu (hbl.keeps bk1) ((hbm2 "super" (by decide)).trans boot_super) ⟨rfl, ?_⟩)
  refine wpAny_loadName_free s5 s2 rfl ⟨_, KX1 _ _ lcc, rfl⟩ ?_
  refine wpAny_loadName_local s5 s3 hns hself ?_
  refine ks_wpAny_isType_cls (KX1 _ _ lC) rfl ⟨rfl, ?_⟩
  have ho1 := hk₁ _ _ ho
  obtain ⟨h0, g, dr, tk, os⟩ := s
  refine ks_wpAny_call_super (KX1 _ _ lC) rfl ho1 rfl (fun c e => by cases e) (PySem.W.looks_mroIn KX1 (by unfold PySem.W.mroIn; rw [hcl]; simp)) (fun h2 e2 hk₂ => ?_)
  have KX2 : K.In h2 := KX1.keeps hk₂
  have ho2 := hk₂ _ _ ho1
  refine PySem.W.kxs_getMethod PySem.W.kxs_ValueError e2 (PySem.W.looks_opaque KX2 S.opq) (l₀ := .ref C :: bm) ((PySem.W.looks_clsIn KX2 hcl).andThen .now) rfl KX2 (by have z := S.sup; unfold ks_superIn at z; rw [hcl] at z; exact z) (hI KX2 ho2) hac (by decide) ?_
  have hk₃ : ∀ b o, h2.get? b = some o → (h2.push (PySem.W.kxs_mw "ValueError.__init__" a)).get? b = some o := fun b o e => Heap.get?_push_of_some _ e
  have ho3 := hk₃ _ _ ho2
  have hu3 : (h2.push (PySem.W.kxs_mw "ValueError.__init__" a)).get? h2.objs.size = some (PySem.W.kxs_mw "ValueError.__init__" a) := Heap.get?_push_at rfl rfl
  refine PySem.W.kxs_callWith (i := "ValueError.__init__") (x := a) rfl (Calls.evalArgs_plain (x := eval (.Constant (.str lit) j p3) (ksEnv qual scope h0.objs.size fI (.ref cda) cc)) (rest := []) (Calls.spliced_cons (Calls.Constant_str (Calls.spliced_nil ⟨hu3, ?_⟩))))
  refine call_mw (hk₃ _ _ (KX2 _ _ lC)) ho3 hu3 (show 1 ≤ sizeLine by decide) fun h4 t4 hk₄ ho4 => ?_
  have hk04 : ∀ b o, b ≠ a → h0.get? b = some o → h4.get? b = some o := fun b o n e => hk₄ b o n (hk₃ b o (hk₂ b o (hk₁ b o e)))
  have KX4 : K.In h4 := fun b o e => hk₄ b o (fun z => by
    subst z
    have z := KX _ _ e
    rw [ho] at z
    cases z
    have z2 := (e0.bs _ _ (e0.mod.kin _ _ e)).2
    rw [ea] at z2
    cases z2) (hk₃ _ _ (KX2 _ _ e))
  have hla : h0.objs.size ≠ a := fun z => by
    have y := Heap.lt_size ho
    rw [← z] at y
    exact absurd y (Nat.lt_irrefl _)
  have hns4 : h4.Ns h0.objs.size (fun z => ([ar.arg, x].zip [Value.ref a, u]).reverse.lookup z) := by
    obtain ⟨o, es, ep, e, r⟩ := hns
    exact ⟨o, es, ep, hk₄ _ _ hla (hk₃ _ _ (hk₂ _ _ e)), r⟩
  refine ks_wpAt_execs_cons (_root_.PySem.wpAt_of_wpAny (plainObj_wpAny_Assign_Attribute (wpAny_Name (wpAny_loadName_local s5 s4 hns4 hx (wpAny_Name (wpAny_loadName_local s5 s3 hns4 hself ?_) S.dbg.1)) S.dbg.2)))
  refine PySem.W.set_plain KX4 (I0 ho4) T.sa ?_
  refine PySem.HandSPX.exc_osa KX4 ho4 hcl (show PySem.HandSPX.refsVE (.ref C :: bm) = true from hbm) rfl S.fno (fun h5 tk5 dx hk₅ dn dne hx5 hn5 => ?_)
  refine _root_.PySem.wpAt_of_wpAny (wpAny_execs_nil ?_)
  have hk05 : ∀ b o, b ≠ a → h0.get? b = some o → h5.get? b = some o := fun b o n e => hk₅ b o n (hk04 b o n e)
  have sz : h0.objs.size ≤ h4.objs.size := by
    obtain ⟨o, es, ep, e, r⟩ := hns4
    exact Nat.le_of_lt (Heap.lt_size e)
  have hnd : H dx = none := e0.hok.fresh (Nat.le_trans sz dn)
  have na : ∀ {b : Addr}, H b = none → b ≠ a := fun {b} n z => by
    rw [z, ea] at n
    cases n
  have nd : ∀ {b : Addr} {o : Obj}, h0.get? b = some o → b ≠ dx := fun {b o} q => Nat.ne_of_lt (Nat.lt_of_lt_of_le (Heap.lt_size q) (Nat.le_trans sz dn))
  refine ⟨.non, upd (upd H dx (exd dx [(f, y)])) a (exo a C (some dx)), rfl, e0.bare, ?_, ?_, rfl, q dx hnd dne⟩
  · exact {
      keep := fun b o q n _ _ => hk05 b o (na n) q
      slot := fun b o q n _ _ => ⟨o.slots, hk05 b o (na n) q⟩
      free := fun b o q n _ => by rw [upd_ne (na n), upd_ne (nd q)]; exact n
      there := fun b o q _ => by
        by_cases hb : b = a
        · exact ⟨_, by rw [hb]; exact hx5⟩
        · exact ⟨o, hk05 b o hb q⟩
      tups := fun b xs q => by rw [upd_ne (at_ne ea q exo_tup), upd_ne (ne_of_none q hnd)]; exact q
      frzs := fun b o v q => by rw [upd_ne (at_ne ea q exo_frz), upd_ne (ne_of_none q hnd)]; exact q
      tbls := fun b ps q => ⟨#[], by rw [upd_ne (at_ne ea q exo_tbl), upd_ne (ne_of_none q hnd), q]; simp⟩ }
  · intro b o q
    by_cases hb : b = a
    · subst hb
      rw [upd_same] at q
      cases q
      exact exo_ok hx5
    · rw [upd_ne hb] at q
      by_cases hd : b = dx
      · subst hd
        rw [upd_same] at q
        cases q
        exact exd_ok hn5 (relO_put (fs := []) ry fun g => True.intro)
      · rw [upd_ne hd] at q
        exact (e0.hok b o q).stay (fun c v hc z => hk05 c v (by
            rcases hc with hc | hc
            · rw [hc]
              exact hb
            · exact at_ne ea hc exo_own) z)
          (fun c hc => by rw [upd_ne (at_ne ea hc exo_own), upd_ne (ne_of_none hc hnd)]; exact hc) (fun c xs hc => by rw [upd_ne (at_ne ea hc exo_tup), upd_ne (ne_of_none hc hnd)]; exact hc)

theorem lk_put {α : Type} (f g : Str) (y : α) (fs : List (Str × α)) : ((f, y) :: fs).lookup g = if g = f then some y else fs.lookup g := by
  by_cases h : g = f
  · rw [if_pos h, h]; simp [List.lookup]
  · rw [if_neg h]; simp [List.lookup, show (g == f) = false by simpa using h]
theorem rpp_lookup {K : PySem.W.Frag} {H : Hp} {r : List Addr} {f : Str} {v : D} : ∀ {fs : List (Str × D)} {ws : List (Str × V)}, RpP K H r fs ws → fs.lookup f = some v → ∃ u, ws.lookup f = some u ∧ Rp K H r v u
  | [], _, _, h => by cases h
  | (g, x) :: fs, [], h, _ => by cases h.1
  | (g, x) :: fs, (g', y) :: ws, h, e => by
    obtain ⟨h1, h2⟩ := h
    simp only [List.map_cons, List.cons.injEq] at h1
    obtain ⟨rfl, h1⟩ := h1
    rw [List.map_cons, List.map_cons, RpL.cons_iff] at h2
    obtain ⟨v', us, e2, a, b⟩ := h2
    cases e2
    rw [lk_put] at e
    rw [lk_put]
    by_cases hg : f = g
    · rw [if_pos hg] at e
      cases e
      exact ⟨y, if_pos hg, a⟩
    · rw [if_neg hg] at e
      rw [if_neg hg]
      exact rpp_lookup ⟨h1, b⟩ e
/-! ### raise X(v) -/
def sRaise (c f : Str) (fa : Fx (List D)) : Sx := fun env st => (fa env st).toOut env fun as s1 => match as with
  | [v] => .ex ⟨c, [(f, v)]⟩ env s1
  | _ => .no
structure RaiseOk (P : Program) (K : PySem.W.Frag) (mg : Str → Option Value) (c f : Str) : Prop where
  ex : ∃ (C fI : Addr) (fd : FuncData) (sn x : Str), mg c = some (.ref C) ∧ SupFn P K C f sn x fI fd ∧ PySem.W.findIn K (.ref C) "__init__" = some (some (.ref fI)) ∧ PySem.W.typeIn K (.ref fI) = some (.type "function") ∧ Binds K fd [sn, x] [] ∧ XfC K C
  su : mg "super" = none
/-- a class that an except clause names -/
structure CatchOk (K : PySem.W.Frag) (mg : Str → Option Value) (c : Str) : Prop where
  ex : ∃ C, mg c = some (.ref C) ∧ PySem.W.exmOne K (.ref C) (.ref C) = some true
section
variable {X : Cx} {W : WX} {T : List FnI} {k : Nat}
theorem RoomM.one {A : Around} (r : RoomM k A) : Room (0 + 1) A := ⟨r.hd, by have := r.dp; omega, by have := r.un; omega⟩
theorem m_raise {c f : Str} {e : Expr} {fa : Fx (List D)} {p pos pos' : Pos} (cx : Ctx X T k W) (R : RaiseOk X.prog X.K X.mg c f) (hg : Gl X c) (ha : PAm X W [e] fa)
    (hdb : (c == ("__debug__" : Str)) = false := by decide) (he : starEach [e] X.env = (false, eval e X.env) :: starEach [] X.env := by rfl) (hpl : (backTo pos (starEach [] X.env)).any (·.1) = false := by rfl) :
    PSm X W (.Raise (some (.Call (.Name c p) [e] [] pos)) none pos') (sRaise c f fa) := by
  obtain ⟨C, fI, fd, sn, x, hm, S, iC, tI, hb, _⟩ := R.ex
  refine PS.imp (ps_raise cx.calm cx.tk (pmk_oex S.oex iC tI (run_sup S R.su) cx.room.one hb .nil (fun pins σ H s e' s' I z => cx.tk _ _ (XE.of_call I (fun _ _ _ q => q.elim) z)) hg hm ha hdb he hpl)) fun Dn σ H h => ?_
  obtain ⟨env, r, st, er, hr, q⟩ := h
  refine ⟨env, r, st, er, hr, ?_⟩
  unfold sRaise at q
  cases ef : fa env st with
  | no => rw [ef] at q; exact q.elim
  | ex a s1 => rw [ef] at q; exact fun c d H' r' g ex => q c d σ H' r' g (er.mono g.1 g.2.1) ex
  | ok as s1 =>
    rw [ef] at q
    simp only [Rs.toOut_ok] at q
    intro vs H1 r1 g rl
    match as, q, rl with
    | [v], q, rl =>
      obtain ⟨v0, ws, rfl, rv, rn⟩ := RpL.cons_iff.mp rl
      rw [RpL.nil_iff] at rn; subst rn
      refine ⟨by simp, fun a ha0 => ⟨a, v0, rfl, upd_same, fun d hd hda => ⟨rfl, d, [(f, v0)], upd_same, (upd_ne hda).trans upd_same, ?_, ?_⟩⟩⟩
      · rw [upd_ne hda] at hd
        exact hd
      · rw [upd_ne hda] at hd
        have e3 : upd (del (upd (upd (upd H1 a (exo a C none)) d (exd d [(f, v0)])) a (exo a C (some d))) a) d (.xd [(f, v0)]) = upd H1 d (.xd [(f, v0)]) := by
          funext b
          by_cases hbd : b = d
          · rw [hbd, upd_same, upd_same]
          · rw [upd_ne hbd, upd_ne hbd]
            by_cases hba : b = a
            · rw [hba, del_same, ha0]
            · rw [del_ne hba, upd_ne hba, upd_ne hbd, upd_ne hba]
        rw [e3]
        have g2 : Grow X.K X.mg H r s1 (upd H1 d (.xd [(f, v0)])) r1 := ⟨g.1.trans (Ext.fresh hd), g.2.1, g.2.2.tup hd⟩
        refine q _ _ σ _ r1 g2 (er.mono g2.1 g2.2.1) ⟨C, hm, rfl, fun _ => ⟨d, [(f, v0)], rfl, upd_same, rfl, ?_⟩⟩
        exact RpL.mono (Ext.fresh hd) (List.prefix_refl _) _ _ rl
    | [], q, _ => exact q.elim
    | _ :: _ :: _, q, _ => exact q.elim

/-! ### try .. except X -/
theorem Ctx.tr (c : Ctx X T k W) {W' : WX} {pn : List (Addr × Obj)} {xe : Value → Shared → Prop} (tk : Takes (X.tr pn xe) W') : Ctx (X.tr pn xe) T k W' := ⟨c.calm, c.room, tk, c.fns⟩
def Out.noX : Out → Out
  | .ex _ _ _ => .no
  | o => o
def sTry (c : Str) (f g : Sx) : Sx := fun env st => match f env st with
  | .ex e env' st' => if e.c = c then (g env' st').noX else .no
  | o => o
/-- .. as n: return n.f -/
def sTryF (i : Nat) (c : Str) (f : Sx) (fl : Str) : Sx := fun env st => match f env st with
  | .ex e env' st' => if e.c = c ∧ i < env'.length then (match e.fs.lookup fl with | some v => .rt v st' | none => .no) else .no
  | o => o
theorem m_try {x : Str} {body suite : List Stmt} {b₀ : Stmt} {f g : Sx} {np pos pos' : Pos} (c : Ctx X T k W) (R : CatchOk X.K X.mg x) (hs : X.stack = X.env :: X.outer) (hf : X.env.frame = some X.env.locals) (hg : Gl X x)
    (hb : ∀ (W' : WX) (pn : List (Addr × Obj)) (xe : Value → Shared → Prop), Ctx (X.tr pn xe) T k W' → PSsm (X.tr pn xe) W' body f)
    (hsu : ∀ (a : Addr) (oe : Obj) (pn : List (Addr × Obj)), PSsm (X.suite a ((a, oe) :: pn)) W0 (b₀ :: suite) g) (hdb : (x == ("__debug__" : Str)) = false := by decide) :
    PSm X W (.Try body [.ExceptHandler (some (.Name x np)) none (b₀ :: suite) pos'] [] [] pos) (sTry x f g) := by
  obtain ⟨C, hm, hx⟩ := R.ex
  refine PS.imp (ps_try_only (tb := fun W' => tSx X W' f) (ts := fun _ _ _ => tSx X W0 g) hs hf ⟨hg, hdb, .inl hm⟩ c.tk (fun W' pn xe tk _ => hb W' pn xe (c.tr tk)) (fun a oe cls d pn _ _ => hsu a oe pn)) fun Dn σ H h => ?_
  obtain ⟨env, r, st, er, hr, q⟩ := h
  refine ⟨env, r, st, er, hr, ?_⟩
  unfold sTry at q
  cases ef : f env st with
  | nx env' st' => rw [ef] at q; exact q
  | bk env' st' => rw [ef] at q; exact q
  | ct env' st' => rw [ef] at q; exact q
  | rt d st' => rw [ef] at q; exact q
  | no => rw [ef] at q; exact q.elim
  | ex e env' st' =>
    rw [ef] at q
    intro cls d σ' H' r' gr er' ex
    obtain ⟨C', m', rfl, _⟩ := ex
    by_cases hc : e.c = x
    · simp only [if_pos hc] at q
      rw [hc, hm] at m'
      cases m'
      refine ⟨true, hx, fun _ a _ => ⟨env', r', st', er', gr.2.2, ?_⟩, fun z => Bool.noConfusion z⟩
      have q2 := q.base gr
      cases eg : g env' st' with
      | ex e2 env2 st2 => rw [eg] at q2; exact q2.elim
      | nx env2 st2 => rw [eg] at q2; exact q2
      | bk env2 st2 => rw [eg] at q2; exact q2
      | ct env2 st2 => rw [eg] at q2; exact q2
      | rt d2 st2 => rw [eg] at q2; exact q2
      | no => rw [eg] at q2; exact q2
    · simp only [if_neg hc] at q
      exact q.elim
theorem m_tryF {x n fl : Str} {i : Nat} {body : List Stmt} {f : Sx} {np pn1 pa pr pos pos' : Pos} (c : Ctx X T k W) (R : CatchOk X.K X.mg x) (R2 : RaiseOk X.prog X.K X.mg x fl) (hs : X.stack = X.env :: X.outer) (hf : X.env.frame = some X.env.locals) (hN : X.N.Nodup) (hi : X.N[i]? = some n) (hln : X.env.kindOf n = some .local) (hg : Gl X x)
    (hb : ∀ (W' : WX) (pn : List (Addr × Obj)) (xe : Value → Shared → Prop), Ctx (X.tr pn xe) T k W' → PSsm (X.tr pn xe) W' body f)
    (hdb : (x == ("__debug__" : Str)) = false := by decide) (hdn : (n == ("__debug__" : Str)) = false := by decide) (hdc : (n == ("__classdict__" : Str)) = false := by decide) (hba : attributeBase (.Name n pn1) fl X.env (eval (.Name n pn1) X.env) = eval (.Name n pn1) X.env := by rfl) :
    PSm X W (.Try body [.ExceptHandler (some (.Name x np)) (some n) [.Return (some (.Attribute (.Name n pn1) fl pa)) pr] pos'] [] [] pos) (sTryF i x f fl) := by
  obtain ⟨C, hm, hx⟩ := R.ex
  obtain ⟨C2, fI, fd, sn, y, hm2, S, iC, tI, hbb, xf⟩ := R2.ex
  rw [hm] at hm2
  cases hm2
  refine PS.imp (ps_try_as (tb := fun W' => tSx X W' f) (ts := fun a cls d => tRet (tXf a cls d C fl (tVar i))) hs hf hN hi hln ⟨hg, hdb, .inl hm⟩ c.tk (fun W' pn xe tk _ => hb W' pn xe (c.tr tk)) (fun a oe cls d pn hz hv => pss_one (ps_ret (pe_xf xf S.fno hz hv (pe_var hi (.inl hln) hdn hdc) hba)))) fun Dn σ H h => ?_
  obtain ⟨env, r, st, er, hr, q⟩ := h
  refine ⟨env, r, st, er, hr, ?_⟩
  unfold sTryF at q
  cases ef : f env st with
  | nx env' st' => rw [ef] at q; exact q
  | bk env' st' => rw [ef] at q; exact q
  | ct env' st' => rw [ef] at q; exact q
  | rt d st' => rw [ef] at q; exact q
  | no => rw [ef] at q; exact q.elim
  | ex e env' st' =>
    rw [ef] at q
    intro cls d σ' H' r' gr er' ex
    obtain ⟨C', m', rfl, hfs⟩ := ex
    by_cases hc : e.c = x ∧ i < env'.length
    · simp only [if_pos hc] at q
      rw [hc.1, hm] at m'
      cases m'
      cases el : e.fs.lookup fl with
      | none => rw [el] at q; exact q.elim
      | some v =>
        rw [el] at q
        have hne : e.fs ≠ [] := fun z => by rw [z] at el; cases el
        obtain ⟨dx, ws, rfl, hd, rp⟩ := hfs hne
        obtain ⟨u, hu, ru⟩ := rpp_lookup rp el
        refine ⟨true, hx, fun _ a _ => ?_, fun z => Bool.noConfusion z⟩
        have hln2 : i < σ'.length := by
          rw [← er'.len]
          exact hc.2
        refine ⟨_, List.getElem?_set_self hln2, rfl, rfl, dx, ws, u, rfl, hd, hu, ?_⟩
        exact q _ H' r' gr ru
    · simp only [if_neg hc] at q
      exact q.elim
end
end Mi

namespace Mi
open PySem PySem.Spec PyProof.Rows L2
open PySem.W (ks_superIn ks_superObj ksFn ksEnv)
/-! ### what the top gives of an own exception class -/
section
variable {K : PySem.W.Frag} {h : Heap} {mg : Str → Option Value}
theorem exm_me {C : Addr} (b : PySem.W.subIn K (.ref C) (.type "BaseException") = some true) (i : PySem.W.isClsIn K C = true) (t : PySem.W.typeIn K (.ref C) = some (.type "type")) (s : PySem.W.subIn K (.ref C) (.ref C) = some true) : PySem.W.exmOne K (.ref C) (.ref C) = some true := by
  have i' : (PySem.W.clsIn K C).isSome = true := i
  unfold PySem.W.exmOne PySem.W.kitCls
  rw [b, if_pos (by rfl)]
  simp only [i', t]
  rw [if_pos (by rfl)]
  exact s
theorem ct_mk {c : Str} {C : Addr} (X : K.In h) (G : h.Ns mainGlobals mg) (a : PySem.W.nsIn K mainGlobals c = some (some (.ref C))) (b : PySem.W.subIn K (.ref C) (.type "BaseException") = some true) (i : PySem.W.isClsIn K C = true) (t : PySem.W.typeIn K (.ref C) = some (.type "type")) (s : PySem.W.subIn K (.ref C) (.ref C) = some true) :
    CatchOk K mg c := ⟨C, PySem.W.mg_of X G a, exm_me b i t s⟩
/-- the shape of its __init__ -/
def supBody (lit f sn x : Str) (j : Nat) (p0 p1 p2 p3 p4 p5 q0 q1 q2 q3 : Pos) : List Stmt := [.Expr (.Call (.Attribute (.Call (.Name "super" p0) [] [] p1) "__init__" p2) [.Constant (.str lit) j p3] [] p4) p5, .Assign [.Attribute (.Name sn q0) f q1] (.Name x q2) q3]
theorem rx_mk {P : Program} {c f sn x lit file q nm qn : Str} {C fI cda cc N : Addr} {st : Stmt} {bs bm sub : List Value} {sl : List Str} {ab : Bool} {col : Option Bool} {dd od an cld cdd : Option Addr} {k0 k1 k2 k3 k5 : Option Value} {oc kV doc pm ct cl ccl : Value} {osl csl ccs : Array (Option Value)} {vs : Array Value} {tf : Tok} {ar : Arg} {j : Nat} {p0 p1 p2 p3 p4 p5 q0 q1 q2 q3 : Pos}
    (X : K.In h) (G : h.Ns mainGlobals mg) (hb : defBody st = supBody lit f sn x j p0 p1 p2 p3 p4 p5 q0 q1 q2 q3) (hp : ((defArgs st).posonlyargs ++ (defArgs st).args).head? = some ar) (har : ar.arg = sn)
    (bd : ∀ (kV doc pm : Value) (an : Option Addr) (cdv ct : Value) (cc : Addr) (us : List Value), us.length = 2 → bindArgs (ksFn "__init__" q (defArgs st) (defBody st) (defScope st) .none kV doc pm an cdv ct cc) ⟨us, []⟩ = pure ([sn, x].zip us))
    (s1 : (defScope st).names.lookup ("super" : Str) = some .globalImplicit) (s2 : (defScope st).names.lookup ("__class__" : Str) = some .free) (s3 : (defScope st).names.lookup sn = some .local) (s4 : (defScope st).names.lookup x = some .local)
    (s5 : (defScope st).kind = .function) (s6 : (defScope st).isCoroutine = false) (s7 : (defScope st).isGenerator = false) (s8 : ∀ n ∈ (defScope st).names, n.2 ≠ .cell)
    (s9 : ∀ L fI cda cc, ∃ pl, eval (.Call (.Attribute (.Call (.Name "super" p0) [] [] p1) "__init__" p2) [.Constant (.str lit) j p3] [] p4) (ksEnv q (defScope st) L fI (.ref cda) cc) = (do
      let ov ← attributeBase (.Call (.Name "super" p0) [] [] p1) "__init__" (ksEnv q (defScope st) L fI (.ref cda) cc) (eval (.Call (.Name "super" p0) [] [] p1) (ksEnv q (defScope st) L fI (.ref cda) cc))
      standAt p2.atName
      let (f, first) ← holding [ov] (getMethod ov "__init__" pl)
      callWith p4 f first (backTo p4 (starEach [.Constant (.str lit) j p3] (ksEnv q (defScope st) L fI (.ref cda) cc))) []))
    (ne : sn ≠ x) (d1 : (sn == ("__debug__" : Str)) = false) (d2 : (x == ("__debug__" : Str)) = false) (top : (P.main.scope.names.lookup ("super" : Str)).isSome = false) (hvs : vs[2]? = some (.str file tf)) (hfile : ((P.main.file : Str) == file) = true)
    (a : PySem.W.nsIn K mainGlobals c = some (some (.ref C))) (su : PySem.W.nsIn K mainGlobals "super" = some none)
    (lC : K.lookup C = some (excClassObj nm qn C N bs bm true sl sub ab col dd k0 k1 k2 k3 k5 "ValueError.__new__")) (hbm : PySem.HandSPX.refsVE bm = true)
    (sa : PySem.W.findIn K (.ref C) "__setattr__" = some (some (.builtin "object.__setattr__"))) (ga : PySem.W.findIn K (.ref C) "__getattribute__" = some (some (.builtin "BaseException.__getattribute__"))) (gg : PySem.W.findIn K (.ref C) "__getattr__" = some none) (fno : PySem.W.findIn K (.ref C) f = some none)
    (eC : PySem.W.subIn K (.ref C) (.type "BaseException") = some true) (vC : PySem.W.subIn K (.ref C) (.type "ValueError") = some true) (tC : PySem.W.typeIn K (.ref C) = some (.type "type")) (kC : PySem.W.keepIn K (.ref C) = true) (hC : PySem.W.hasDictIn K C = true)
    (iC : PySem.W.findIn K (.ref C) "__init__" = some (some (.ref fI))) (tI : PySem.W.typeIn K (.ref fI) = some (.type "function"))
    (l : K.lookup fI = some ⟨oc, od, .func (ksFn "__init__" q (defArgs st) (defBody st) (defScope st) .none kV doc pm an (.ref cda) ct cc), osl⟩) (hcd : PySem.W.codeIn K (.ref cda) q = true)
    (lcda : K.lookup cda = some ⟨ccl, cdd, .fields vs, ccs⟩) (lcc : K.lookup cc = some ⟨cl, cld, .cell (some (.ref C)), csl⟩)
    (opq : PySem.W.nsIn K cStatics "thirdparty.any" = some none) (sup : ks_superIn K C C "__init__" = some (some (.builtin "ValueError.__init__"))) : RaiseOk P K mg c f := by
  refine ⟨⟨C, fI, _, sn, x, PySem.W.mg_of X G a, ⟨⟨q, lit, file, _, _, _, kV, doc, pm, ct, oc, cl, ccl, an, od, cld, cdd, osl, csl, ccs, cda, cc, vs, tf, ar, j, p0, p1, p2, p3, p4, p5, q0, q1, q2, q3, rfl, l, hcd, hb, hp, har, lcda, hvs, hfile, lcc, s1, s2, s3, s4, s5, s6, s7, s8, fun L => s9 L fI cda cc⟩, ne, ⟨d1, d2⟩, top, opq, sup, vC, fno, ⟨⟨_, _, _, _, _, _, _, _, _, _, _, _, _, _, _, lC, hbm⟩, sa, eC, tC, kC⟩⟩, iC, tI, .all (bd kV doc pm an (.ref cda) ct cc), ⟨ga, gg, eC, hC⟩⟩, PySem.W.mg_none_of X G su⟩
end
end Mi

namespace Mi
open PySem PySem.Spec PyProof.Rows L2
noncomputable section
open Classical
/-! ### fields and methods, as steps -/
def fldR (c f : Str) (d : D) (s : Store) : Rs D := match d with
  | .adr n => match insAt s n with
    | some (c', fs) => if c' = c then Rs.ofO ((fldD f fs).map fun v => (v, s)) else .no
    | none => .no
  | _ => .no
theorem eFldE {c f : Str} {fa : Ex} {env : MEnv} {st : Store} : eFld c f fa env st = (fa env st).bind (fldR c f) := rfl
def setR (c f : Str) (o d : D) (s : Store) : Rs D := match setFl c f o d s with
  | some s' => .ok .non s'
  | none => .no
theorem sFldSE {c f : Str} {fo fv : Ex} {env : MEnv} {st : Store} : sFldS c f fo fv env st = (fv env st).toOut env fun d s1 => (fo env s1).toOut env fun o s2 => (setR c f o d s2).toOut env fun _ s3 => .nx env s3 := by
  unfold sFldS setR
  cases fv env st with
  | ok d s1 =>
    simp only [Rs.toOut_ok]
    cases fo env s1 with
    | ok o s2 =>
      simp only [Rs.toOut_ok]
      cases setFl c f o d s2 <;> rfl
    | ex e s => rfl
    | no => rfl
  | ex e s => rfl
  | no => rfl
def mthR (cn m : Str) (o : D) (s : Store) : Rs D := match o with
  | .adr n => match insAt s n with
    | some (c, fs) => if c = cn ∧ fldD m fs = none then .ok .non s else .no
    | none => .no
  | _ => .no
theorem eMthE {C : Calls} {cn m : Str} {fid : Nat} {fo : Ex} {fa : Fx (List D)} {env : MEnv} {st : Store} : eMth C cn m fid fo fa env st = (fo env st).bind fun o s1 => (mthR cn m o s1).bind fun _ s1 => (fa env s1).bind fun as s2 => C fid (o :: as) s2 := by
  unfold eMth mthR
  cases fo env st with
  | ok o s1 =>
    simp only [Rs.bind_ok]
    cases o with
    | adr n =>
      dsimp only
      cases insAt s1 n with
      | none => rfl
      | some p =>
        obtain ⟨c, fs⟩ := p
        dsimp only
        by_cases h : c = cn ∧ fldD m fs = none
        · rw [if_pos h, if_pos h]; rfl
        · rw [if_neg h, if_neg h]; rfl
    | _ => rfl
  | ex e s => rfl
  | no => rfl
theorem fldR_at {c f : Str} {n : Nat} {fs : List (Str × D)} {v : D} {s : Store} (i : s[n]? = some (.ins c fs)) (e : fldD f fs = some v) : fldR c f (.adr n) s = .ok v s := by
  unfold fldR
  dsimp only
  rw [insAt_iff.mpr i]
  dsimp only
  rw [if_pos rfl, e]
  rfl
theorem mthR_at {c m : Str} {n : Nat} {fs : List (Str × D)} {s : Store} (i : s[n]? = some (.ins c fs)) (e : fldD m fs = none) : mthR c m (.adr n) s = .ok .non s := by
  unfold mthR
  dsimp only
  rw [insAt_iff.mpr i]
  dsimp only
  rw [if_pos ⟨rfl, e⟩]

theorem setR_at {c f : Str} {n : Nat} {fs : List (Str × D)} {d : D} {s : Store} (i : s[n]? = some (.ins c fs)) (hl : fs.length < 1000) : setR c f (.adr n) d s = .ok .non (s.set n (.ins c (setF f d fs))) := by
  unfold setR setFl
  dsimp only
  rw [insAt_iff.mpr i]
  dsimp only
  rw [if_pos ⟨rfl, hl⟩]

/-! ### sessions -/
structure Nd where
  tm : Tm
  par : Option Nat
  kind : Str
  ch : List Nat
  tg : Option Nat
  un : List Int
def optN : Option Nat → D
  | none => .non
  | some n => .int (n : Nat)
def natsD (l : List Nat) : D := .tup (l.map fun (n : Nat) => D.int (n : Nat))
def unsD (l : List Int) : D := .tup (l.map D.int)
def Nd.fs (n : Nd) : List (Str × D) := [("term", n.tm.d), ("parent", optN n.par), ("kind", .str n.kind), ("children", natsD n.ch), ("target", optN n.tg), ("unknowns", unsD n.un)]
def Nd.o (n : Nd) : O := .ins "Node" n.fs
structure Ss where
  prog : List Fn
  nodes : List Nd
  deeds : List D
structure Lay where
  ln : Nat
  ld : Nat
  as : List Nat
def Lay.own (L : Lay) (a : Nat) : List Nat := a :: L.ln :: L.ld :: L.as
def Ss.fs (S : Ss) (L : Lay) : List (Str × D) := [("program", pgD S.prog), ("nodes", .adr L.ln), ("deeds", .adr L.ld)]
structure Ses (st : Store) (a : Nat) (L : Lay) (S : Ss) : Prop where
  hd : st[a]? = some (.ins "Session" (S.fs L))
  nl : st[L.ln]? = some (.lst (L.as.map D.adr))
  dl : st[L.ld]? = some (.lst S.deeds)
  ne : L.ln ≠ L.ld
  nd : L.as.Nodup
  len : L.as.length = S.nodes.length
  at_ : ∀ (i : Nat) (n : Nd) (b : Nat), S.nodes[i]? = some n → L.as[i]? = some b → st[b]? = some n.o
section
variable {st st' : Store} {a : Nat} {L L1 L2 : Lay} {S S' : Ss}
theorem Nd.f_term {n : Nd} : fldD "term" n.fs = some n.tm.d := by unfold Nd.fs; simp [fldD]
theorem Nd.f_parent {n : Nd} : fldD "parent" n.fs = some (optN n.par) := by unfold Nd.fs; simp [fldD, show ¬ (("term" : Str) = "parent") by decide]
theorem Nd.f_kind {n : Nd} : fldD "kind" n.fs = some (.str n.kind) := by unfold Nd.fs; simp [fldD, show ¬ (("term" : Str) = "kind") by decide, show ¬ (("parent" : Str) = "kind") by decide]
theorem Nd.f_children {n : Nd} : fldD "children" n.fs = some (natsD n.ch) := by unfold Nd.fs; simp [fldD, show ¬ (("term" : Str) = "children") by decide, show ¬ (("parent" : Str) = "children") by decide, show ¬ (("kind" : Str) = "children") by decide]
theorem Nd.f_target {n : Nd} : fldD "target" n.fs = some (optN n.tg) := by unfold Nd.fs; simp [fldD, show ¬ (("term" : Str) = "target") by decide, show ¬ (("parent" : Str) = "target") by decide, show ¬ (("kind" : Str) = "target") by decide, show ¬ (("children" : Str) = "target") by decide]
theorem Nd.f_unknowns {n : Nd} : fldD "unknowns" n.fs = some (unsD n.un) := by unfold Nd.fs; simp [fldD, show ¬ (("term" : Str) = "unknowns") by decide, show ¬ (("parent" : Str) = "unknowns") by decide, show ¬ (("kind" : Str) = "unknowns") by decide, show ¬ (("children" : Str) = "unknowns") by decide, show ¬ (("target" : Str) = "unknowns") by decide]
theorem Nd.s_kind {n : Nd} {k : Str} : setF "kind" (.str k) n.fs = { n with kind := k : Nd }.fs := by unfold Nd.fs; simp [setF, show ¬ (("term" : Str) = "kind") by decide, show ¬ (("parent" : Str) = "kind") by decide]
theorem Nd.s_children {n : Nd} {l : List Nat} : setF "children" (natsD l) n.fs = { n with ch := l : Nd }.fs := by unfold Nd.fs; simp [setF, show ¬ (("term" : Str) = "children") by decide, show ¬ (("parent" : Str) = "children") by decide, show ¬ (("kind" : Str) = "children") by decide]
theorem Nd.s_target {n : Nd} {l : Option Nat} : setF "target" (optN l) n.fs = { n with tg := l : Nd }.fs := by unfold Nd.fs; simp [setF, show ¬ (("term" : Str) = "target") by decide, show ¬ (("parent" : Str) = "target") by decide, show ¬ (("kind" : Str) = "target") by decide, show ¬ (("children" : Str) = "target") by decide]
theorem Nd.s_unknowns {n : Nd} {l : List Int} : setF "unknowns" (unsD l) n.fs = { n with un := l : Nd }.fs := by unfold Nd.fs; simp [setF, show ¬ (("term" : Str) = "unknowns") by decide, show ¬ (("parent" : Str) = "unknowns") by decide, show ¬ (("kind" : Str) = "unknowns") by decide, show ¬ (("children" : Str) = "unknowns") by decide, show ¬ (("target" : Str) = "unknowns") by decide]
theorem Nd.fs_len {n : Nd} : n.fs.length < 1000 := by unfold Nd.fs; simp
/-- a node is read, written -/
theorem nd_term {b : Nat} {n : Nd} (h : st[b]? = some n.o) : fldR "Node" "term" (.adr b) st = .ok n.tm.d st := fldR_at h Nd.f_term
theorem nd_parent {b : Nat} {n : Nd} (h : st[b]? = some n.o) : fldR "Node" "parent" (.adr b) st = .ok (optN n.par) st := fldR_at h Nd.f_parent
theorem nd_kind {b : Nat} {n : Nd} (h : st[b]? = some n.o) : fldR "Node" "kind" (.adr b) st = .ok (.str n.kind) st := fldR_at h Nd.f_kind
theorem nd_children {b : Nat} {n : Nd} (h : st[b]? = some n.o) : fldR "Node" "children" (.adr b) st = .ok (natsD n.ch) st := fldR_at h Nd.f_children
theorem nd_target {b : Nat} {n : Nd} (h : st[b]? = some n.o) : fldR "Node" "target" (.adr b) st = .ok (optN n.tg) st := fldR_at h Nd.f_target
theorem nd_unknowns {b : Nat} {n : Nd} (h : st[b]? = some n.o) : fldR "Node" "unknowns" (.adr b) st = .ok (unsD n.un) st := fldR_at h Nd.f_unknowns
theorem nd_set {b : Nat} {n : Nd} {f : Str} {d : D} (h : st[b]? = some n.o) : setR "Node" f (.adr b) d st = .ok .non (st.set b (.ins "Node" (setF f d n.fs))) := setR_at h Nd.fs_len
theorem Ses.fprog (h : Ses st a L S) : fldR "Session" "program" (.adr a) st = .ok (pgD S.prog) st := fldR_at h.hd (by unfold Ss.fs; simp [fldD])
theorem Ses.fnodes (h : Ses st a L S) : fldR "Session" "nodes" (.adr a) st = .ok (.adr L.ln) st := fldR_at h.hd (by unfold Ss.fs; simp [fldD, show ¬ (("program" : Str) = "nodes") by decide])
theorem Ses.fdeeds (h : Ses st a L S) : fldR "Session" "deeds" (.adr a) st = .ok (.adr L.ld) st := fldR_at h.hd (by unfold Ss.fs; simp [fldD, show ¬ (("program" : Str) = "deeds") by decide, show ¬ (("nodes" : Str) = "deeds") by decide])
theorem Ses.mth (h : Ses st a L S) (m : Str) (h1 : ("program" : Str) ≠ m) (h2 : ("nodes" : Str) ≠ m) (h3 : ("deeds" : Str) ≠ m) : mthR "Session" m (.adr a) st = .ok .non st := mthR_at h.hd (by unfold Ss.fs; simp [fldD, h1, h2, h3])
theorem Ses.lst (h : Ses st a L S) : lstAt st L.ln = some (L.as.map D.adr) := lstAt_iff.mpr h.nl
theorem Ses.dst (h : Ses st a L S) : lstAt st L.ld = some S.deeds := lstAt_iff.mpr h.dl
theorem get_lt {st : Store} {i : Nat} {o : O} (h : st[i]? = some o) : i < st.length := (List.getElem?_eq_some_iff.mp h).1
theorem Ses.addr (h : Ses st a L S) {i : Nat} {n : Nd} (e : S.nodes[i]? = some n) : ∃ b, L.as[i]? = some b ∧ st[b]? = some n.o := by
  have hi : i < L.as.length := by rw [h.len]; exact (List.getElem?_eq_some_iff.mp e).1
  exact ⟨_, List.getElem?_eq_getElem hi, h.at_ i n _ e (List.getElem?_eq_getElem hi)⟩
theorem Ses.node (h : Ses st a L S) {i b : Nat} (e : L.as[i]? = some b) : ∃ n, S.nodes[i]? = some n ∧ st[b]? = some n.o := by
  have hi : i < S.nodes.length := by rw [← h.len]; exact (List.getElem?_eq_some_iff.mp e).1
  exact ⟨_, List.getElem?_eq_getElem hi, h.at_ i _ b (List.getElem?_eq_getElem hi) e⟩
theorem Ses.own_lt (h : Ses st a L S) : ∀ b ∈ L.own a, b < st.length := by
  intro b hb
  unfold Lay.own at hb
  rcases List.mem_cons.mp hb with rfl | hb
  · exact get_lt h.hd
  rcases List.mem_cons.mp hb with rfl | hb
  · exact get_lt h.nl
  rcases List.mem_cons.mp hb with rfl | hb
  · exact get_lt h.dl
  obtain ⟨i, hi⟩ := List.getElem?_of_mem hb
  obtain ⟨n, _, e⟩ := h.node hi
  exact get_lt e
theorem Ses.ix (h : Ses st a L S) {i b : Nat} (e : L.as[i]? = some b) : opIx (.adr L.ln) (.int (i : Nat)) st = some (.adr b, st) := by
  rw [ix_lst h.lst, atI_of (d := .adr b) (by rw [List.getElem?_map, e]; rfl)]
  rfl
theorem Ses.not_node (h : Ses st a L S) {b : Nat} (hb : b ∈ L.as) : b ≠ a ∧ b ≠ L.ln ∧ b ≠ L.ld := by
  obtain ⟨i, hi⟩ := List.getElem?_of_mem hb
  obtain ⟨n, _, e⟩ := h.node hi
  refine ⟨fun z => ?_, fun z => ?_, fun z => ?_⟩
  · rw [z, h.hd] at e
    have := Option.some.inj e
    unfold Nd.o at this
    exact absurd (O.ins.inj this).1 (by decide)
  · rw [z, h.nl] at e
    cases e
  · rw [z, h.dl] at e
    cases e
theorem Ses.hd_ne (h : Ses st a L S) : a ≠ L.ln ∧ a ≠ L.ld := ⟨fun z => (by have e := h.hd; rw [z, h.nl] at e; cases e), fun z => (by have e := h.hd; rw [z, h.dl] at e; cases e)⟩
/-- the store has changed elsewhere -/
theorem Ses.to (h : Ses st a L S) (k : ∀ b ∈ L.own a, st'[b]? = st[b]?) : Ses st' a L S := by
  have m : ∀ {b}, b ∈ L.as → b ∈ L.own a := fun hb => List.mem_cons_of_mem _ (List.mem_cons_of_mem _ (List.mem_cons_of_mem _ hb))
  refine ⟨(k a (List.mem_cons_self ..)).trans h.hd, (k L.ln (by unfold Lay.own; simp)).trans h.nl, (k L.ld (by unfold Lay.own; simp)).trans h.dl, h.ne, h.nd, h.len, fun i n b e1 e2 => (k b (m (List.mem_of_getElem? e2))).trans (h.at_ i n b e1 e2)⟩
theorem Ses.old (h : Ses st a L S) (o : Old st st') : Ses st' a L S := h.to fun b hb => by
  have := h.own_lt b hb
  rw [o.at (List.getElem?_eq_getElem this), List.getElem?_eq_getElem this]
/-- a node is written -/
theorem Ses.setNode (h : Ses st a L S) {i b : Nat} {n : Nd} (e : L.as[i]? = some b) : Ses (st.set b n.o) a L { S with nodes := S.nodes.set i n } := by
  have hb := h.not_node (List.mem_of_getElem? e)
  obtain ⟨n0, e0, e1⟩ := h.node e
  have hi := (List.getElem?_eq_some_iff.mp e0).1
  refine ⟨?_, ?_, ?_, h.ne, h.nd, by rw [h.len]; simp, fun j m c f1 f2 => ?_⟩
  · rw [List.getElem?_set_ne hb.1]; exact h.hd
  · rw [List.getElem?_set_ne hb.2.1]; exact h.nl
  · rw [List.getElem?_set_ne hb.2.2]; exact h.dl
  · by_cases hj : i = j
    · subst hj
      rw [e] at f2; cases f2
      rw [List.getElem?_set_self (get_lt e1)]
      dsimp only at f1
      rw [List.getElem?_set_self hi] at f1
      cases f1; rfl
    · dsimp only at f1
      rw [List.getElem?_set_ne hj] at f1
      have hc : b ≠ c := fun z => by
        subst z
        have l1 := (List.getElem?_eq_some_iff.mp e)
        have l2 := (List.getElem?_eq_some_iff.mp f2)
        exact hj ((List.getElem_inj h.nd).mp (l1.2.trans l2.2.symm))
      rw [List.getElem?_set_ne hc]
      exact h.at_ j m c f1 f2
/-- a new node's place is put into the list -/
theorem Ses.addNode (h : Ses st a L S) {b : Nat} {n : Nd} (e : st[b]? = some n.o) (hb : b ∉ L.as) : Ses (st.set L.ln (.lst ((L.as ++ [b]).map D.adr))) a { L with as := L.as ++ [b] } { S with nodes := S.nodes ++ [n] } := by
  have hn : b ≠ L.ln := fun z => by rw [z, h.nl] at e; cases e
  refine ⟨?_, ?_, ?_, h.ne, ?_, by simp [h.len], fun j m c f1 f2 => ?_⟩
  · rw [List.getElem?_set_ne h.hd_ne.1.symm]; exact h.hd
  · rw [List.getElem?_set_self (get_lt h.nl)]
  · rw [List.getElem?_set_ne h.ne]; exact h.dl
  · rw [List.nodup_append]
    exact ⟨h.nd, by simp, fun x hx y hy => by rw [List.mem_singleton] at hy; subst hy; exact fun z => hb (z ▸ hx)⟩
  · dsimp only at f1 f2
    by_cases hj : j < L.as.length
    · rw [List.getElem?_append_left hj] at f2
      rw [List.getElem?_append_left (by rw [← h.len]; exact hj)] at f1
      rw [List.getElem?_set_ne (h.not_node (List.mem_of_getElem? f2)).2.1.symm]
      exact h.at_ j m c f1 f2
    · have hj2 : j = L.as.length := by
        have := (List.getElem?_eq_some_iff.mp f2).1
        rw [List.length_append, List.length_singleton] at this
        omega
      subst hj2
      rw [List.getElem?_append_right (Nat.le_refl _), Nat.sub_self] at f2
      rw [h.len, List.getElem?_append_right (Nat.le_refl _), Nat.sub_self] at f1
      simp at f1 f2
      subst f1 f2
      rw [List.getElem?_set_ne hn.symm]
      exact e
theorem Ses.addDeed (h : Ses st a L S) {d : D} : Ses (st.set L.ld (.lst (S.deeds ++ [d]))) a L { S with deeds := S.deeds ++ [d] } := by
  refine ⟨?_, ?_, ?_, h.ne, h.nd, h.len, fun i n b f1 f2 => ?_⟩
  · rw [List.getElem?_set_ne h.hd_ne.2.symm]; exact h.hd
  · rw [List.getElem?_set_ne h.ne.symm]; exact h.nl
  · rw [List.getElem?_set_self (get_lt h.dl)]
  · rw [List.getElem?_set_ne (h.not_node (List.mem_of_getElem? f2)).2.2.symm]
    exact h.at_ i n b f1 f2

/-! ### moves -/
/-- only the session's own objects were written, new nodes are new objects -/
structure Mv (st st' : Store) (a : Nat) (L L1 : Lay) : Prop where
  len : st.length ≤ st'.length
  keep : ∀ i, i < st.length → i ∉ L.own a → st'[i]? = st[i]?
  ln : L1.ln = L.ln
  ld : L1.ld = L.ld
  as : ∃ more, L1.as = L.as ++ more ∧ ∀ b ∈ more, st.length ≤ b
theorem Mv.refl : Mv st st a L L := ⟨Nat.le_refl _, fun _ _ _ => rfl, rfl, rfl, [], by simp, by simp⟩
theorem Mv.own (m : Mv st st' a L L1) {i : Nat} (hi : i < st.length) (h : i ∉ L.own a) : i ∉ L1.own a := by
  obtain ⟨more, e, hm⟩ := m.as
  unfold Lay.own at h ⊢
  rw [m.ln, m.ld, e]
  simp only [List.mem_cons, List.mem_append, not_or] at h ⊢
  refine ⟨h.1, h.2.1, h.2.2.1, h.2.2.2, fun z => ?_⟩
  have := hm i z
  omega
theorem Mv.trans {st2 : Store} (m : Mv st st' a L L1) (m' : Mv st' st2 a L1 L2) : Mv st st2 a L L2 := by
  refine ⟨Nat.le_trans m.len m'.len, fun i hi ho => ?_, m'.ln.trans m.ln, m'.ld.trans m.ld, ?_⟩
  · rw [m'.keep i (Nat.lt_of_lt_of_le hi m.len) (m.own hi ho)]
    exact m.keep i hi ho
  · obtain ⟨x, e1, h1⟩ := m.as
    obtain ⟨y, e2, h2⟩ := m'.as
    refine ⟨x ++ y, by rw [e2, e1, List.append_assoc], fun b hb => ?_⟩
    rcases List.mem_append.mp hb with hb | hb
    · exact h1 b hb
    · exact Nat.le_trans m.len (h2 b hb)
theorem Mv.set (h : Ses st a L S) {b : Nat} {o : O} (hb : b ∈ L.own a) : Mv st (st.set b o) a L L := ⟨by simp, fun i hi ho => by rw [List.getElem?_set_ne (fun z => ho (by rw [← z]; exact hb))], rfl, rfl, [], by simp, by simp⟩
theorem Mv.app {g : Store} : Mv st (st ++ g) a L L := ⟨by simp, fun i hi ho => List.getElem?_append_left hi, rfl, rfl, [], by simp, by simp⟩
theorem Mv.old (o : Old st st') : Mv st st' a L L := by obtain ⟨g, rfl⟩ := o; exact Mv.app
theorem Mv.more (m : Mv st st' a L L1) {b : Nat} (hb : st.length ≤ b) : Mv st st' a L { L1 with as := L1.as ++ [b] } := by
  obtain ⟨x, e, h⟩ := m.as
  refine ⟨m.len, m.keep, m.ln, m.ld, x ++ [b], by simp [e], fun c hc => ?_⟩
  rcases List.mem_append.mp hc with hc | hc
  · exact h c hc
  · rw [List.mem_singleton] at hc; subst hc; exact hb
theorem low_adr {n m : Nat} (h : lowD n (.adr m) = true) : m < n := of_decide_eq_true (by unfold lowD at h; exact h)
theorem lows_mem {n : Nat} {x : D} : ∀ {xs : List D}, lowDs n xs = true → x ∈ xs → lowD n x = true
  | [], _, hx => by cases hx
  | y :: ys, h, hx => by
    unfold lowDs at h
    rw [Bool.and_eq_true] at h
    rcases List.mem_cons.mp hx with rfl | hx
    · exact h.1
    · exact lows_mem h.2 hx
/-- behind a method -/
theorem Ses.gc {d : D} (h : Ses st a L S) (h' : Ses st' a L1 S') (m : Mv st st' a L L1) (hn : Mi.noa d = true) : ∃ s2, gcO st d st' = (d, s2) ∧ Ses s2 a L1 S' ∧ Mv st s2 a L L1 := by
  by_cases hk : keepOk st st'
  · rw [gc_pure hk hn]
    have la := get_lt h.hd
    have lnl := get_lt h.nl
    have ldl := get_lt h.dl
    have las : ∀ b ∈ L1.as, b < st.length := by
      rcases hk L.ln lnl with e | ⟨o, e, lo⟩
      · rw [← m.ln, h'.nl, m.ln, h.nl] at e
        have e2 := O.lst.inj (Option.some.inj e)
        have e3 : L1.as = L.as := (List.map_inj_right (fun x y z => D.adr.inj z)).mp e2
        intro b hb
        rw [e3] at hb
        exact h.own_lt b (by unfold Lay.own; simp [hb])
      · rw [← m.ln, h'.nl] at e
        cases e
        intro b hb
        exact low_adr (lows_mem lo (List.mem_map_of_mem hb))
    refine ⟨_, rfl, h'.to fun b hb => ?_, ⟨by rw [List.length_take]; have := m.len; omega, fun i hi ho => by rw [List.getElem?_take_of_lt hi]; exact m.keep i hi ho, m.ln, m.ld, m.as⟩⟩
    have : b < st.length := by
      unfold Lay.own at hb
      rw [m.ln, m.ld] at hb
      simp only [List.mem_cons] at hb
      rcases hb with rfl | rfl | rfl | hb
      · exact la
      · exact lnl
      · exact ldl
      · exact las b hb
    rw [List.getElem?_take_of_lt this]
  · refine ⟨st', ?_, h', m⟩
    unfold gcO
    rw [if_neg hk]
end
def nd0 (t : Tm) (p : Option Nat) : Nd := ⟨t, p, "open", [], none, []⟩
theorem Nd.clean (n : Nd) : cleanO n.o = true := by
  unfold Nd.o Nd.fs cleanO
  have h1 : ∀ p : Option Nat, Mi.noa (optN p) = true := fun p => by cases p <;> rfl
  have h2 : ∀ l : List Nat, Mi.noa (natsD l) = true := fun l => by unfold natsD Mi.noa; exact noas_map (fun _ => rfl) l
  have h3 : ∀ l : List Int, Mi.noa (unsD l) = true := fun l => by unfold unsD Mi.noa; exact noas_map (fun _ => rfl) l
  simp [Mi.noas, Tm.noa, h1, h2, h3, Mi.noa]
def Nd.row (n : Nd) : D := .tup [n.tm.d, .str n.kind, optN n.par, natsD n.ch, optN n.tg, unsD n.un]
theorem natsD_noa (l : List Nat) : noa (natsD l) = true := by unfold natsD Mi.noa; exact noas_map (fun _ => rfl) l
theorem unsD_noa (l : List Int) : noa (unsD l) = true := by unfold unsD Mi.noa; exact noas_map (fun _ => rfl) l
theorem optN_noa (l : Option Nat) : noa (optN l) = true := by cases l <;> rfl
theorem Nd.row_noa (n : Nd) : noa n.row = true := by
  unfold Nd.row
  simp [Mi.noa, Mi.noas, Tm.noa, natsD_noa, unsD_noa, optN_noa]
end
end Mi

namespace Mi
open PySem PySem.Spec PyProof.Rows L2
noncomputable section
open Classical
/-! ### sessions, plainly: ways -/
def wayN (ns : List Nd) : Nat → Option Nat → List Nat
  | 0, _ => []
  | _ + 1, none => []
  | f + 1, some p => p :: wayN ns f ((ns[p]?).bind Nd.par)
def way (S : Ss) (i : Nat) : List Nat := wayN S.nodes S.nodes.length ((S.nodes[i]?).bind Nd.par)
def Dem.kd : Dem → Str
  | .val => "value"
  | .step _ => "step"
  | .err => "error"
  | .unk _ => "unknown"
  | .needs _ _ => "needs"
  | .stuck _ => "stuck"
theorem Dem.ix0 (d : Dem) {st : Store} : opIx d.d (.int 0) st = some (.str d.kd, st) := by cases d <;> simp [Dem.d, Dem.kd, ix_tup, atI_0]
def mayX (d : Dem) : Prop := d.kd ∈ (["value", "unknown", "stuck"] : List Str)
def mayD (d : Dem) : Prop := d.kd ∈ (["step", "needs"] : List Str)
def seqsOf : List Str → List D := List.map D.str
theorem in_strs (x : Str) (l : List Str) {st : Store} : opIn (.str x) (.tup (l.map D.str)) st = some (.bl (decide (x ∈ l)), st) ∧ opNotIn (.str x) (.tup (l.map D.str)) st = some (.bl (!decide (x ∈ l)), st) := by
  have hp : purs (l.map D.str) = true := by
    induction l with
    | nil => rfl
    | cons b bs ih => rw [List.map_cons, purs, ih]; rfl
  have ha : ((l.map D.str).any fun y => eqD y (.str x)) = decide (x ∈ l) := by
    induction l with
    | nil => simp
    | cons b bs ih =>
      rw [List.map_cons, List.any_cons, ih (by rw [List.map_cons, purs, Bool.and_eq_true] at hp; exact hp.2), eqD_str]
      by_cases h : b = x
      · subst h; simp
      · simp [h, show ¬ x = b from fun z => h z.symm]
  have hi : inO (.str x) (.tup (l.map D.str)) st = some (decide (x ∈ l)) := by
    unfold inO
    simp only [seqOf]
    rw [if_pos ⟨rfl, hp, by simp [Mi.dep]; decide⟩, ha]
  unfold opIn opNotIn
  rw [hi]
  exact ⟨rfl, rfl⟩
theorem isnot_opt {o : Option Nat} {st : Store} : opIsNot (optN o) .non st = some (.bl o.isSome, st) := by cases o <;> rfl
theorem is_opt {o : Option Nat} {st : Store} : opIs (optN o) .non st = some (.bl (!o.isSome), st) := by cases o <;> rfl
end
end Mi

namespace Mi
open PySem PySem.Spec PyProof.Rows L2
/-! ### enumerate of a list or a tuple; a module's tuple -/
section
variable {X : Cx} {W : WX}
theorem pi_enB {elts : List Expr} {kk : Nat} {tpos p pos : Pos} {e : Expr} {te : TE} (hg : Gl X "enumerate") (hm : X.mg "enumerate" = none) (he : PE X e te) (hs : starEach [e] X.env = (false, eval e X.env) :: starEach [] X.env := by rfl) :
    PI X (.Tuple elts kk tpos) (.Call (.Name "enumerate" p) [e] [] pos) (fun σ H R => te σ H fun x H1 => ∃ a, x = .ref a ∧ (((∃ xs, SqL X.K H1 a xs) ∧ R (Ite X.K a) H1) ∨ ((∃ xs, SqT X.K H1 a xs) ∧ R (IteT X.K a) H1))) := by
  refine ⟨fun pins s σ H R I h => ?_⟩
  refine Call_ (ld_blt I hg hm PyProof.Rows.boot_enumerate (PyProof.Rows.callWith_type1 (one_arg he I h (fun v s1 x H1 I1 rx q => ?_) hs) hs))
  obtain ⟨a, rfl, q⟩ := q
  cases rx
  have fin : ∀ {h' : Heap}, Inv X pins σ H1 { s1 with heap := h' } → ∀ b ∈ [s1.heap.objs.size + 1, s1.heap.objs.size], _ := fun {h'} _ b hb => by
    have e' : b = s1.heap.objs.size + 1 ∨ b = s1.heap.objs.size := by simpa using hb
    have hle : s1.heap.objs.size ≤ b := by omega
    exact I1.fpOk hle (I1.hok.fresh hle)
  rcases q with ⟨⟨xs, hq⟩, q⟩ | ⟨⟨xs, hq⟩, q⟩
  · obtain ⟨its, rv, p', hz⟩ := I1.list hq
    refine call_enumerate_list p'.isList fun h' hen hit hsz hk => wpAny_pyIter_enum hen ?_
    have I2 : Inv X pins σ H1 { s1 with heap := h' } := I1.kept (t' := s1.toks) hk
    exact ⟨s1.heap.objs.size + 1, [s1.heap.objs.size + 1, s1.heap.objs.size], _, _, H1, rfl, I2, turn_enum a (s1.heap.objs.size + 1) s1.heap.objs.size, ⟨⟨.none, hen⟩, hit, Nat.succ_ne_self _⟩, fin I2, q⟩
  · obtain ⟨its, rv, p', hz⟩ := I1.tuple hq
    have pT : s1.heap.IsTuple a its.toArray := p'
    have al : a < s1.heap.objs.size := by obtain ⟨o, q, _⟩ := pT; exact Heap.lt_size q
    refine call_enumT (begins_tuple a its.toArray) pT fun h' hen ho hsz hk => wpAny_pyIter_enum hen ?_
    have I2 : Inv X pins σ H1 { s1 with heap := h' } := I1.kept (t' := s1.toks) hk
    exact ⟨s1.heap.objs.size + 1, [s1.heap.objs.size + 1, s1.heap.objs.size], _, _, H1, rfl, I2, turn_enumT a (s1.heap.objs.size + 1) s1.heap.objs.size, ⟨⟨.none, hen⟩, ⟨_, ho, rfl, rfl⟩, Nat.succ_ne_self _, Nat.ne_of_gt (Nat.lt_succ_of_lt al), Nat.ne_of_lt al⟩, fin I2, q⟩
theorem walks_enL {is : List Nat} {a : Addr} {n : Nat} {xs : List D} {H0 : Hp} {r0 : List Addr} (t : r0[n]? = some a) : Walks X (.tp is) (Ite X.K a) (enD xs) (some (GN.e n)) H0 r0 := fun i H r st ex pf hr hg => by
  obtain ⟨ys, hg1, hg2⟩ := hg
  obtain ⟨a', vs, e1, e2, e3⟩ := hr.lst (lstAt_iff.mpr hg1)
  rw [pre_get pf t] at e1
  cases e1
  have t' : SqL X.K H a vs := SqL.of e2
  have el : xs.length = ys.length := by rw [← enD_len xs, hg2, enD_len]
  refine ⟨fun _ hi => ⟨vs, t', by rw [e3.length, hi, enD_len, el]; exact Nat.le_refl _⟩, fun d hd => ?_⟩
  rw [hg2] at hd
  obtain ⟨x, f0, rfl⟩ := enD_get hd
  obtain ⟨v, f1, f2⟩ := e3.get f0
  refine ⟨⟨vs, v, t', f1⟩, ?_⟩
  rintro x' H' ⟨T, y, rfl, hn, rfl, hy⟩
  have ey := hy vs t'
  rw [f1] at ey
  cases ey
  have x1 := Ext.fresh (K := X.K) (o := .tup [.int (i : Nat), v]) hn
  exact ⟨x1, hr.tup hn, T, [.int (i : Nat), v], rfl, .inl (.inl upd_same), RpL.cons (Rp.int_iff.mpr rfl) (RpL.one (Rp.mono x1 (List.prefix_refl _) _ _ f2))⟩
def srcEnB (f : Ex) : Src := fun env st => (f env st).bind fun d s => match d with
  | .tup ds => .ok (enD ds, none) s
  | .adr n => match lstAt s n with
    | some xs => .ok (enD xs, some (GN.e n)) s
    | none => .no
  | _ => .no
theorem i_enB {is : List Nat} {elts : List Expr} {kk : Nat} {tpos p pos : Pos} {e : Expr} {f : Ex} (hg : Gl X "enumerate") (hm : X.mg "enumerate" = none) (h : PEm X W e f) (hs : starEach [e] X.env = (false, eval e X.env) :: starEach [] X.env := by rfl) :
    PIm X W (.tp is) (.Tuple elts kk tpos) (.Call (.Name "enumerate" p) [e] [] pos) (srcEnB f) := PI.imp (pi_enB hg hm h hs) fun σ H R q =>
  tG_seq (Ra := RV X) q fun d x H1 env r st er hr rd p => by
    cases d with
    | tup ds =>
      obtain ⟨a, vs, rfl, t, l⟩ := Rp.tup_iff.mp rd
      exact ⟨a, rfl, .inr ⟨⟨vs, t.seq⟩, pst_ok (v := IteT X.K a) hr p (walks_enT t l)⟩⟩
    | adr n =>
      obtain ⟨a, e1, rfl⟩ := Rp.adr_iff.mp rd
      dsimp only at p
      cases hl : lstAt st n with
      | none => rw [hl] at p; exact p.elim
      | some xs =>
        rw [hl] at p
        obtain ⟨a', vs, q1, q2, q3⟩ := hr.lst hl
        rw [e1] at q1; cases q1
        exact ⟨a, rfl, .inl ⟨⟨vs, SqL.of q2⟩, pst_ok (v := Ite X.K a) hr p (walks_enL e1)⟩⟩
    | _ => exact p.elim
/-- a name of the module that holds a tuple -/
def CTup (K : PySem.W.Frag) (mg : Str → Option Value) (x : Str) (ds : List D) : Prop := ∃ (a : Addr) (its : List Value) (n : Nat) (vs : List V), mg x = some (.ref a) ∧ K.lookup a = some (tupO its n) ∧ its.length ≤ sizeLine ∧ Vals vs its ∧ ∀ H r, RpL K H r ds vs
theorem m_ctup {x : Str} {ds : List D} {pos : Pos} (hg : Gl X x) (h : CTup X.K X.mg x ds) (hd : (x == ("__debug__" : Str)) = false := by decide) : PEm X W (.Name x pos) (eC (.tup ds)) := by
  obtain ⟨a, its, n, vs, e1, e2, hl, rv, rl⟩ := h
  exact m_c (pe_glob (v := .ref a) hg e1 rfl hd) fun H r => Rp.tup_iff.mpr ⟨a, vs, rfl, .inr ⟨its, n, e2, hl, rv⟩, rl H r⟩
theorem ctup_strs {K : PySem.W.Frag} {h : Heap} {mg : Str → Option Value} {x : Str} {a : Addr} {its : List Value} {n : Nat} (ss : List Str) (X : K.In h) (G : h.Ns mainGlobals mg) (e : PySem.W.nsIn K mainGlobals x = some (some (.ref a))) (l : K.lookup a = some (tupO its n)) (hl : its.length ≤ sizeLine) (rv : Vals (ss.map V.str) its) : CTup K mg x (ss.map D.str) :=
  ⟨a, its, n, ss.map V.str, PySem.W.mg_of X G e, l, hl, rv, fun H r => by
    induction ss generalizing its with
    | nil => exact RpL.nil
    | cons s ss ih =>
      refine RpL.cons (Rp.str_iff.mpr rfl) ?_
      clear ih l hl rv
      induction ss with
      | nil => exact RpL.nil
      | cons s ss ih => exact RpL.cons (Rp.str_iff.mpr rfl) ih⟩
end
/-! ### steps of specs -/
theorem ret_of {f : Ex} {env : MEnv} {st s : Store} {d : D} {P : Pst} (h : f env st = .ok d s) (q : P.rt d s) : (sRet f env st).wps P := by
  unfold sRet
  rw [wps_toOut, h, wp_ok, wps_rt]
  exact q
theorem and_of {fa fb : Ex} {env : MEnv} {st s : Store} {r : Rs D} (h1 : fa env st = .ok (.bl true) s) (h2 : fb env s = r) : eAnd fa fb env st = r := by
  unfold eAnd
  rw [h1]
  simp only [Rs.bind_ok, truD, Option.map_some, Rs.ofO_some, if_true]
  exact h2
theorem tup2_of {fa fb : Ex} {env : MEnv} {st s1 s2 : Store} {a b : D} (h1 : fa env st = .ok a s1) (h2 : fb env s1 = .ok b s2) : eTup (aCons fa (aCons fb aNil)) env st = .ok (.tup [a, b]) s2 := by
  unfold eTup aCons aNil
  rw [h1]
  simp only [Rs.bind_ok]
  rw [h2]
  rfl
/-- try .. except X as n: return n.f -/
theorem tryF_wp {i : Nat} {c fl : Str} {f : Sx} {env : MEnv} {st : Store} {P : Pst} (h : (f env st).wps { P with ex := fun e env' s => e.c = c ∧ i < env'.length ∧ ∃ v, e.fs.lookup fl = some v ∧ P.rt v s }) : (sTryF i c f fl env st).wps P := by
  unfold sTryF
  rw [wps_def] at h
  cases e : f env st with
  | nx a s => rw [e] at h; dsimp only; rw [wps_nx]; exact h
  | rt a s => rw [e] at h; dsimp only; rw [wps_rt]; exact h
  | bk a s => rw [e] at h; dsimp only; rw [wps_bk]; exact h
  | ct a s => rw [e] at h; dsimp only; rw [wps_ct]; exact h
  | no => rw [e] at h; exact h.elim
  | ex x a s =>
    rw [e] at h
    obtain ⟨h1, h2, v, h3, h4⟩ := h
    dsimp only
    rw [if_pos ⟨h1, h2⟩, h3]
    dsimp only
    rw [wps_rt]
    exact h4
theorem max_ints {q : Nat} {zs : List Int} {st : Store} {w : Int} (e : lstAt st q = some (zs.map D.int)) (wm : w ∈ zs) (wle : ∀ z ∈ zs, z ≤ w) : biMax [.adr q] st = some (.int w, st) := by
  have : seqL st (.adr q) = some (zs.map D.int) := e
  show (match seqL st (.adr q) with
    | some xs => (match intsD xs with
      | some (n :: ns) => some (D.int (maxI n ns), st)
      | _ => none)
    | none => none) = _
  rw [this]
  dsimp only
  rw [intsD_map]
  cases zs with
  | nil => cases wm
  | cons z zs =>
    dsimp only
    rw [← maxI_eq wm wle]
theorem tcmp_of {op : Op2} {fa fb : Ex} {env : MEnv} {st s : Store} {b : Bool} (h : eBin op fa fb env st = .ok (.bl b) s) : Mi.tCmp op fa fb env st = .ok b s := by
  unfold Mi.tCmp
  rw [h]
  rfl
theorem sIf_tt {c : Fx Bool} {f g : Sx} {env : MEnv} {st s : Store} {P : Pst} (h : c env st = .ok true s) (q : (f env s).wps P) : (sIf c f g env st).wps P := by
  refine sIf_t ?_
  rw [h, wp_ok, if_pos rfl]
  exact q
theorem sIf_ff {c : Fx Bool} {f g : Sx} {env : MEnv} {st s : Store} {P : Pst} (h : c env st = .ok false s) (q : (g env s).wps P) : (sIf c f g env st).wps P := by
  refine sIf_t ?_
  rw [h, wp_ok, if_neg Bool.false_ne_true]
  exact q
end Mi

namespace Mi
open PySem PySem.Spec PyProof.Rows L2
/-! ### texts: str(..), f-strings, join, split, startswith, count, the signs of a text -/
section
variable {X : Cx} {W : WX}
def biStr : OpN
  | [.int i], st => if i.natAbs.log2 < 1920 then some (.str (toString i), st) else none
  | [.str a], st => some (.str a, st)
  | _, _ => none
theorem c_str : ClM X (.type "str") biStr := by
  intro pins s σ H xs us Q I rs ⟨r, st, as, d, st', hr, pa, e, q⟩
  unfold biStr at e
  split at e
  · rename_i i
    obtain ⟨c, e⟩ := ite_some e
    cases e
    obtain ⟨v, rfl, ra⟩ := rpl1 pa
    replace ra := Rp.int_iff.mp ra
    subst ra
    exact call_str_int pins s σ H _ us Q I rs ⟨_, rfl, c, fin0 hr q (Rp.str_iff.mpr rfl)⟩
  · cases e
    obtain ⟨v, rfl, ra⟩ := rpl1 pa
    replace ra := Rp.str_iff.mp ra
    subst ra
    exact SkE.call_str_str pins s σ H _ us Q I rs ⟨_, rfl, fin0 hr q (Rp.str_iff.mpr rfl)⟩
  · cases e
def eFmt (f : Ex) : Ex := fun env st => (f env st).bind fun d s => match d with
  | .str y => if y.length ≤ sizeLine then .ok (.str y) s else .no
  | .int i => if i.natAbs.log2 < 1920 then .ok (.str (toString i)) s else .no
  | _ => .no
theorem m_fmt {e : Expr} {f : Ex} {pos : Pos} (h : PEm X W e f) : PEm X W (.FormattedValue e (-1) none pos) (eFmt f) := PE.imp (pe_fmt h) fun σ H Q q => by
  refine tG_seq (Ra := RV X) q fun d x H1 env r st er hr rd p => ?_
  cases d with
  | str y =>
    dsimp only at p
    by_cases c : y.length ≤ sizeLine
    · rw [if_pos c] at p
      exact .inl ⟨y, Rp.str_iff.mp rd, c, pst_ok (v := V.str y) hr p (Rp.str_iff.mpr rfl)⟩
    · rw [if_neg c] at p; exact p.elim
  | int i =>
    dsimp only at p
    by_cases c : i.natAbs.log2 < 1920
    · rw [if_pos c] at p
      exact .inr ⟨i, Rp.int_iff.mp rd, c, pst_ok (v := V.str (toString i)) hr p (Rp.str_iff.mpr rfl)⟩
    · rw [if_neg c] at p; exact p.elim
  | _ => exact p.elim
def eJs : List Ex → Str → Ex
  | [], acc => fun _ st => .ok (.str acc) st
  | f :: fs, acc => fun env st => (f env st).bind fun d s => match d with
    | .str y => if (acc ++ y).length ≤ sizeLine then eJs fs (acc ++ y) env s else .no
    | _ => .no
theorem js_imp : ∀ (fs : List Ex) (acc : Str) (σ : L2.St) (H : Hp) (Q : VK), tM X W (eJs fs acc) σ H Q → tJs (fs.map (tM X W)) acc σ H fun out H1 => Q (.str out) H1
  | [], acc, σ, H, Q, q => by
    obtain ⟨env, r, st, er, hr, p⟩ := q
    exact pst_ok (v := V.str acc) hr p (Rp.str_iff.mpr rfl)
  | f :: fs, acc, σ, H, Q, q => by
    show tM X W f σ H _
    refine tG_seq (Ra := RV X) q fun d x H1 env r st er hr rd p => ?_
    cases d with
    | str y =>
      dsimp only at p
      by_cases c : (acc ++ y).length ≤ sizeLine
      · rw [if_pos c] at p
        exact ⟨y, Rp.str_iff.mp rd, c, js_imp fs (acc ++ y) σ H1 Q ⟨env, r, st, er, hr, p⟩⟩
      · rw [if_neg c] at p; exact p.elim
    | _ => exact p.elim
theorem m_joined {v1 v2 : Expr} {rest : List Expr} {fs : List Ex} {pos : Pos} (h : PJ X (v1 :: v2 :: rest) (fs.map (tM X W))) : PEm X W (.JoinedStr (v1 :: v2 :: rest) pos) (eJs fs Str.empty) :=
  PE.imp (pe_joined h) fun σ H Q q => js_imp fs Str.empty σ H Q q
def strsD : List D → Option (List Str)
  | [] => some []
  | .str a :: ds => (strsD ds).map (a :: ·)
  | _ :: _ => none
theorem strsD_map : ∀ ys : List Str, strsD (ys.map D.str) = some ys
  | [] => rfl
  | y :: ys => by rw [List.map_cons, strsD, strsD_map ys]; rfl
theorem strsD_rel {K : PySem.W.Frag} {H : Hp} {r : List Addr} : ∀ {ds : List D} {ys : List Str} {vs : List V}, strsD ds = some ys → RpL K H r ds vs → vs = ys.map V.str
  | [], ys, vs, e, h => by cases e; exact RpL.nil_iff.mp h
  | .str a :: ds, ys, vs, e, h => by
    rw [strsD] at e
    obtain ⟨zs, e1, rfl⟩ := Option.map_eq_some_iff.mp e
    obtain ⟨v, ws, rfl, r1, r2⟩ := RpL.cons_iff.mp h
    rw [Rp.str_iff.mp r1, strsD_rel e1 r2]
    rfl
  | .non :: _, _, _, e, _ | .bl _ :: _, _, _, e, _ | .int _ :: _, _, _, e, _ | .tup _ :: _, _, _, e, _ | .fro _ :: _, _, _, e, _ | .adr _ :: _, _, _, e, _ => by cases e
theorem rpl_strs {K : PySem.W.Frag} {H : Hp} {r : List Addr} : ∀ ys : List Str, RpL K H r (ys.map D.str) (ys.map V.str)
  | [] => RpL.nil
  | y :: ys => RpL.cons (Rp.str_iff.mpr rfl) (rpl_strs ys)
def joinTo (a : Str) (ys : List Str) (st : Store) : Option (D × Store) :=
  if (ys.map (·.length)).sum + ys.length * a.length ≤ 16777216 then some (.str (Txt.join a ys), st) else none
def mdJoin (o : D) : OpN := fun as st => match o, as with
  | .str a, [.adr n] => match lstAt st n with
    | some xs => match strsD xs with
      | some ys => joinTo a ys st
      | none => none
    | none => none
  | .str a, [.tup xs] => match strsD xs with
    | some ys => joinTo a ys st
    | none => none
  | _, _ => none
theorem md_join : MdM X "str.join" mdJoin := by
  intro pins s σ H x xs v us Q I rx rs ⟨r, st, a, as, d, st', hr, pa, pas, e, q⟩
  unfold mdJoin joinTo at e
  split at e
  · rename_i z n
    obtain ⟨w, rfl, ry⟩ := rpl1 pas
    replace pa := Rp.str_iff.mp pa
    subst pa
    split at e
    · rename_i ds hl
      split at e
      · rename_i ys hs
        obtain ⟨c, e⟩ := ite_some e
        cases e
        obtain ⟨p, vs, f1, f2, f3⟩ := hr.lst hl
        obtain ⟨p', g1, rfl⟩ := Rp.adr_iff.mp ry
        rw [f1] at g1; cases g1
        have := strsD_rel hs f3
        subst this
        exact mt_join pins s σ H _ _ v us Q I rx rs ⟨z, p, ys, rfl, rfl, .inl (SqL.of f2), c, fin0 hr q (Rp.str_iff.mpr rfl)⟩
      · cases e
    · cases e
  · rename_i z ds
    obtain ⟨w, rfl, ry⟩ := rpl1 pas
    replace pa := Rp.str_iff.mp pa
    subst pa
    split at e
    · rename_i ys hs
      obtain ⟨c, e⟩ := ite_some e
      cases e
      obtain ⟨p, vs, rfl, t, l⟩ := Rp.tup_iff.mp ry
      have := strsD_rel hs l
      subst this
      exact mt_join pins s σ H _ _ v us Q I rx rs ⟨z, p, ys, rfl, rfl, .inr t.seq, c, fin0 hr q (Rp.str_iff.mpr rfl)⟩
    · cases e
  · cases e
def mdSplit (o : D) : OpN := fun as st => match o, as with
  | .str a, [.str b] => if (b.length == 0) = false ∧ a.length + 2 ≤ sizeLine then some (.adr st.length, st ++ [.lst ((Txt.split a b).map D.str)]) else none
  | _, _ => none
theorem md_split : MdM X "str.split" mdSplit := by
  intro pins s σ H x xs v us Q I rx rs ⟨r, st, a, as, d, st', hr, pa, pas, e, q⟩
  unfold mdSplit at e
  split at e
  · rename_i z y
    obtain ⟨w, rfl, ry⟩ := rpl1 pas
    replace pa := Rp.str_iff.mp pa
    subst pa
    replace ry := Rp.str_iff.mp ry
    subst ry
    obtain ⟨c, e⟩ := ite_some e
    cases e
    exact mt_split pins s σ H _ _ v us Q I rx rs ⟨z, y, rfl, rfl, c.1, c.2, fun p hp => finL hr q (rpl_strs _) hp⟩
  · cases e
def mdStarts (o : D) : OpN := fun as st => match o, as with
  | .str a, [.str b] => some (.bl (Txt.startswith a b), st)
  | _, _ => none
theorem md_starts : MdM X "str.startswith" mdStarts := by
  intro pins s σ H x xs v us Q I rx rs ⟨r, st, a, as, d, st', hr, pa, pas, e, q⟩
  unfold mdStarts at e
  split at e
  · rename_i z y
    obtain ⟨w, rfl, ry⟩ := rpl1 pas
    replace pa := Rp.str_iff.mp pa
    subst pa
    replace ry := Rp.str_iff.mp ry
    subst ry
    cases e
    exact mt_startswith pins s σ H _ _ v us Q I rx rs ⟨z, y, rfl, rfl, fin0 hr q (Rp.bl_iff.mpr rfl)⟩
  · cases e
def mdCount (o : D) : OpN := fun as st => match o, as with
  | .str a, [.str b] => some (.int (Txt.count a b), st)
  | _, _ => none
theorem md_count : MdM X "str.count" mdCount := by
  intro pins s σ H x xs v us Q I rx rs ⟨r, st, a, as, d, st', hr, pa, pas, e, q⟩
  unfold mdCount at e
  split at e
  · rename_i z y
    obtain ⟨w, rfl, ry⟩ := rpl1 pas
    replace pa := Rp.str_iff.mp pa
    subst pa
    replace ry := Rp.str_iff.mp ry
    subst ry
    cases e
    exact mt_count pins s σ H _ _ v us Q I rx rs ⟨z, y, rfl, rfl, fin0 hr q (Rp.int_iff.mpr rfl)⟩
  · cases e
/-- int(text) -/
def biIntS : OpN
  | [.str a], st => match PySem.intText? a with
    | some n => if a.length ≤ 640 then some (.int n, st) else none
    | none => none
  | _, _ => none
theorem c_intS : ClM X (.type "int") biIntS := by
  intro pins s σ H xs us Q I rs ⟨r, st, as, d, st', hr, pa, e, q⟩
  unfold biIntS at e
  split at e
  · rename_i a
    obtain ⟨v, rfl, ra⟩ := rpl1 pa
    replace ra := Rp.str_iff.mp ra
    subst ra
    split at e
    · rename_i n hn
      obtain ⟨c, e⟩ := ite_some e
      cases e
      exact call_int_str pins s σ H _ us Q I rs ⟨_, n, rfl, hn, c, fin0 hr q (Rp.int_iff.mpr rfl)⟩
    · cases e
  · cases e
/-- the signs of a text -/
def chD (x : Str) : List D := x.cps.toList.map fun c => D.str ⟨#[c]⟩
def srcStr (f : Ex) : Src := fun env st => (f env st).bind fun d s => match d with
  | .str x => .ok (chD x, none) s
  | _ => .no
theorem walks_str {tt : Tgt} {x : Str} {H0 : Hp} {r0 : List Addr} : Walks X tt (Its x) (chD x) none H0 r0 := fun i H r st ex pf hr _ => by
  have hl : (chD x).length = x.cps.size := by unfold chD; simp
  refine ⟨fun _ hi => by rw [hl] at hi; exact Nat.le_of_eq hi.symm, fun d hd => ?_⟩
  unfold chD at hd
  rw [List.getElem?_map, Array.getElem?_toList] at hd
  cases e : x.cps[i]? with
  | none => rw [e] at hd; cases hd
  | some c =>
    rw [e] at hd
    cases hd
    refine ⟨(Array.getElem?_eq_some_iff.mp e).1, fun y H' ⟨eh, c', ec, ev⟩ => ?_⟩
    rw [e] at ec; cases ec
    subst eh ev
    exact ⟨Ext.refl _ _, hr, RpT.of (Rp.str_iff.mpr rfl)⟩
theorem i_str {tt : Tgt} {tg e : Expr} {f : Ex} (h : PEm X W e f) : PIm X W tt tg e (srcStr f) := PI.imp (pi_str h) fun σ H R q =>
  tG_seq (Ra := RV X) q fun d x H1 env r st er hr rd p => by
    cases d with
    | str z => exact ⟨z, Rp.str_iff.mp rd, pst_ok (v := Its z) hr p walks_str⟩
    | _ => exact p.elim
end
end Mi

namespace Mi
open PySem PySem.Spec PyProof.Rows L2
/-! ### a token is out: what leans on it (T), what brings it (O) -/
section
variable {X : Cx} {W : WX}
theorem wp_kept {α : Type} {M : Model} {A : Around} {t : Sem α} {Q : α → Shared → Prop} {E : Value → Shared → Prop} {s : Shared} {n : Nat} (hn : n ≤ s.toks) (h : wpAny M A t Q E s) : wpAny M A t (fun a s' => n ≤ s'.toks ∧ Q a s') E s :=
  PySem.wpAny_mono (PySem.wpAny_toks_of hn h) (fun _ _ q => q) fun _ _ q => q.2
abbrev PEt (X : Cx) (W : WX) (e : Expr) (f : Ex) : Prop := PET X e (tM X W f)
abbrev PAt (X : Cx) (W : WX) (es : List Expr) (f : Fx (List D)) : Prop := PAT X es (tA X W f)
abbrev PSt (X : Cx) (W : WX) (st : Stmt) (f : Sx) : Prop := PST X st (tSx X W f)
abbrev PSst (X : Cx) (W : WX) (ss : List Stmt) (f : Sx) : Prop := PSsT X ss (tSx X W f)
def PTt (X : Cx) (W : WX) (e : Expr) (f : Fx Bool) : Prop :=
  ∀ (pins : List (Addr × Obj)) (s : Shared) (σ : L2.St) (H : Hp) (Q : Bool → Hp → Prop), 1 ≤ s.toks → Inv X pins σ H s → tT X W f σ H Q → wpAny (model X.prog X.w) X.A (isTrue e X.env (eval e X.env)) (TP X pins σ Q) X.xe s
def PWt (X : Cx) (W : WX) (e : Expr) (f : Fx Bool) : Prop :=
  ∀ (wh : Sem Value) (pins : List (Addr × Obj)) (s : Shared) (σ : L2.St) (H : Hp) (Q : Bool → Hp → Prop), 1 ≤ s.toks → Inv X pins σ H s → tT X W f σ H Q → wpAny (model X.prog X.w) X.A (isTrue e X.env wh) (TP X pins σ Q) X.xe s
def PEo (X : Cx) (W : WX) (e : Expr) (f : Ex) : Prop :=
  ∀ (pins : List (Addr × Obj)) (s : Shared) (σ : L2.St) (H : Hp) (Q : VK), Inv X pins σ H s → tM X W f σ H Q → wpAny (model X.prog X.w) X.A (eval e X.env) (fun v s1 => 1 ≤ s1.toks ∧ EP X pins σ Q v s1) X.xe s
def PAo (X : Cx) (W : WX) (es : List Expr) (f : Fx (List D)) : Prop :=
  ∀ (pos : Pos) (pins : List (Addr × Obj)) (s : Shared) (σ : L2.St) (H : Hp) (Q : List V → Hp → Prop), Inv X pins σ H s → tA X W f σ H Q → wpAny (model X.prog X.w) X.A (spliced (backTo pos (starEach es X.env))) (fun us s1 => 1 ≤ s1.toks ∧ AP X pins σ Q us s1) X.xe s
def PTo (X : Cx) (W : WX) (e : Expr) (f : Fx Bool) : Prop :=
  ∀ (pins : List (Addr × Obj)) (s : Shared) (σ : L2.St) (H : Hp) (Q : Bool → Hp → Prop), Inv X pins σ H s → tT X W f σ H Q → wpAny (model X.prog X.w) X.A (isTrue e X.env (eval e X.env)) (fun b s1 => 1 ≤ s1.toks ∧ TP X pins σ Q b s1) X.xe s
/-! #### O -/
theorem o_int {i : Int} {j pos} : PEo X W (.Constant (.int i) j pos) (eC (.int i)) := fun pins s σ H Q I ⟨env, r, st, er, hr, p⟩ =>
  wpAny_Constant_int ⟨by show 1 ≤ s.toks + 1; omega, .int i, H, I.tok _, ⟨_, rfl⟩, pst_ok (v := V.int i) hr p (Rp.int_iff.mpr rfl)⟩
theorem o_str {x : Str} {j pos} : PEo X W (.Constant (.str x) j pos) (eC (.str x)) := fun pins s σ H Q I ⟨env, r, st, er, hr, p⟩ =>
  Calls.Constant_str ⟨by show 1 ≤ s.toks + 1; omega, .str x, H, I.tok _, ⟨_, rfl⟩, pst_ok (v := V.str x) hr p (Rp.str_iff.mpr rfl)⟩
theorem o_ix {a b : Expr} {fa fb : Ex} {pos} (hu : X.A.units + 2000 < cLine) (ha : PEm X W a fa) (hb : PEo X W b fb) (hs : PlainIx b) : PEo X W (.Subscript a b pos) (eBin opIx fa fb) := fun pins s σ H Q I h =>
  Subscript_ (thn (PE.run ha pins s σ H _ I (bin_imp h)) fun v s1 ⟨x, H1, I1, r1, q1⟩ => thn (hb pins s1 σ H1 _ I1 q1) fun u s2 ⟨hk, y, H2, I2, r2, q2⟩ => wp_kept hk (m_ix hu a b pins s2 σ H2 x y v u Q I2 r1 r2 q2 (hs _ _)))
theorem acons_imp {fa : Ex} {fr : Fx (List D)} {σ : L2.St} {H : Hp} {Q : List V → Hp → Prop} (h : tA X W (aCons fa fr) σ H Q) : tCons (tM X W fa) (tA X W fr) σ H Q := by
  refine tG_seq h fun a x H1 env r st er hr ra p => ?_
  refine tG_then er hr p fun b y H2 r1 s1 e1 e2 er2 hr2 rb p2 => ?_
  exact pst_ok hr2 p2 (RpL.cons (Rp.mono e1 e2 _ _ ra) rb)
theorem o_acons {e : Expr} {es : List Expr} {fa : Ex} {fr : Fx (List D)} (ha : PEo X W e fa) (hr : PAm X W es fr) (hs : starEach (e :: es) X.env = (false, eval e X.env) :: starEach es X.env := by rfl) : PAo X W (e :: es) (aCons fa fr) := by
  intro pos pins s σ H Q I h
  rw [hs]
  show wpAny _ _ (spliced ((false, eval e X.env) :: backTo pos (starEach es X.env))) _ _ s
  exact Calls.spliced_cons (thn (ha pins s σ H _ I (acons_imp h)) fun v s1 ⟨hk, x, H1, I1, r1, q1⟩ => thn (wp_kept hk (PA.run hr pos pins s1 σ H1 _ I1 q1)) fun us s2 ⟨hk2, xs, H2, I2, r2, q2⟩ => ⟨hk2, x :: xs, H2, I2, .cons r1 r2, q2⟩)
theorem o_tcmp {o : CmpOp} {op : Op2} {a b : Expr} {fa fb : Ex} {pos} (ho : OpM X (compareOp o) op) (ha : PEm X W a fa) (hb : PEo X W b fb) (hm : behindInMarks o b = false) : PTo X W (.Compare a [o] [b] pos) (tCmp op fa fb) := by
  intro pins s σ H Q I h
  have h2 : tTest (tOp (rOp X.K X.mg op) (tM X W fa) (tM X W fb)) σ H Q := by
    refine bin_imp ?_
    refine tG_seq (Ra := RV X) h fun d x H1 env r st er hr rd p => ?_
    obtain ⟨b, e, q⟩ := ofB_fin hr p
    cases d with
    | bl k =>
      obtain rfl : k = b := Option.some.inj e
      replace rd := Rp.bl_iff.mp rd
      exact ⟨k, rd, q⟩
    | _ => cases e
  refine wpAny_isTrue_Compare1 (thn (PE.run ha pins s σ H _ I h2) fun v s1 ⟨x, H1, I1, r1, q1⟩ => thn (hb pins s1 σ H1 _ I1 q1) fun u s2 ⟨hk, y, H2, I2, r2, q2⟩ => thn (wp_kept hk (ho pins s2 σ H2 x y v u _ I2 r1 r2 q2)) fun c s3 ⟨hk3, z, H3, I3, r3, k, e, q3⟩ => ?_) hm
  subst e
  cases r3
  exact wpAny_truthy_bool ⟨hk3, H3, I3, q3⟩
/-! #### T -/
theorem t_eof {e : Expr} {f : Ex} (h : PEm X W e f) : PEt X W e f := fun pins s σ H Q _ I q => PE.run h pins s σ H Q I q
theorem t_anil : PAt X W [] aNil := fun pos pins s σ H Q _ I q => PA.run (m_anil (X := X) (W := W)) pos pins s σ H Q I q
theorem t_acons {e : Expr} {es : List Expr} {fa : Ex} {fr : Fx (List D)} (ha : PEt X W e fa) (hr : PAt X W es fr) (hs : starEach (e :: es) X.env = (false, eval e X.env) :: starEach es X.env := by rfl) : PAt X W (e :: es) (aCons fa fr) :=
  fun pos pins s σ H Q h0 I h => pat_cons ha hr hs pos pins s σ H Q h0 I (acons_imp h)
theorem t_tnot {a : Expr} {fa : Fx Bool} {pos} (ha : PTt X W a fa) : PTt X W (.UnaryOp .Not a pos) (tNot fa) := fun pins s σ H Q h0 I h =>
  isTrue_not (ha pins s σ H (fun c H1 => Q (!c) H1) h0 I (tG_seq (Ra := RB) h fun b x H1 env r st er hr rd p => by cases rd; exact pst_ok hr p rfl))
theorem t_tru {a : Expr} {fa : Ex} (ha : PEt X W a fa) (he : ∀ whole, isTrue a X.env whole = (do let v ← whole; standAt a.pos; holding [v] (truthy v)) := by intro _; rfl) : PTt X W a (tTru fa) := fun pins s σ H Q h0 I h => by
  have h2 : tM X W fa σ H (fun x H' => ∃ k, TruV X.K x H' k ∧ Q k H') := by
    refine tG_seq (Ra := RV X) h fun d x H1 env r st er hr rd p => ?_
    obtain ⟨b, e, q⟩ := ofB_fin hr p
    exact ⟨b, tru_of hr rd e, q⟩
  exact isTrue_plain (thn (ha pins s σ H _ h0 I h2) fun v s1 ⟨x, H1, I1, r1, q1⟩ => tru_ok pins s1 σ H1 x v Q I1 r1 q1) (he _)
theorem t_and1 {a : Expr} {fa : Fx Bool} {pos} (ha : PTt X W a fa) : PWt X W (.BoolOp .And [a] pos) fa := fun wh pins s σ H Q h0 I h => by
  refine isTrue_and (thn (ha pins s σ H Q h0 I h) fun c s1 e => ?_)
  cases c with
  | true => exact isTrue_and_nil e
  | false => exact e
theorem o_tand {a b : Expr} {rest : List Expr} {fa fb : Fx Bool} {pos} (ha : PTo X W a fa) (hb : PWt X W (.BoolOp .And (b :: rest) pos) fb) : PW X (.BoolOp .And (a :: b :: rest) pos) (tT X W (tAnd fa fb)) := ⟨fun wh pins s σ H Q I h => by
  have h2 : tT X W fa σ H (fun c H1 => if c = true then tT X W fb σ H1 Q else Q false H1) := by
    refine tG_seq (Ra := RB) h fun b x H1 env r st er hr rd p => ?_
    cases rd
    cases b with
    | true => exact ⟨env, r, st, er, hr, p⟩
    | false => exact pst_ok hr p rfl
  refine isTrue_and (thn (ha pins s σ H _ I h2) fun c s1 ⟨hk, H1, I1, q1⟩ => ?_)
  cases c with
  | true => exact hb wh pins s1 σ H1 Q hk I1 q1
  | false => exact ⟨H1, I1, q1⟩⟩
theorem seq_imp {f g : Sx} {Dn : Ends} {σ : L2.St} {H : Hp} (h : tSx X W (sSeq f g) Dn σ H) : tSeq (tSx X W f) (tSx X W g) Dn σ H := by
  obtain ⟨env, r, st, er, hr, p⟩ := h
  refine ⟨env, r, st, er, hr, ?_⟩
  unfold sSeq at p
  cases e : f env st with
  | nx e1 s1 =>
    rw [e] at p
    exact fun σ' H' r' g' er' => ⟨e1, r', s1, er', g'.2.2, PstS.base p g'⟩
  | rt d s1 => rw [e] at p; exact p
  | bk e1 s1 => rw [e] at p; exact p
  | ct e1 s1 => rw [e] at p; exact p
  | ex x e1 s1 => rw [e] at p; exact p
  | no => rw [e] at p; exact p
theorem t_sof {s : Stmt} {f : Sx} (h : PSm X W s f) : PSt X W s f := fun pins s σ H D _ I q => PS.run h pins s σ H D I q
theorem t_ssof {s : List Stmt} {f : Sx} (h : PSsm X W s f) : PSst X W s f := fun pins s σ H D _ I q => PSs.run h pins s σ H D I q
theorem t_cons {s : Stmt} {rest : List Stmt} {f g : Sx} (h1 : PSt X W s f) (h2 : PSst X W rest g) : PSst X W (s :: rest) (sSeq f g) := fun pins s σ H D h0 I q => psst_cons h1 h2 pins s σ H D h0 I (seq_imp q)
theorem t_ret {e : Expr} {f : Ex} {pos : Pos} (h : PEt X W e f) : PSt X W (.Return (some e) pos) (sRet f) := fun pins s σ H D h0 I q =>
  CwR.pst_ret h pins s σ H D h0 I (tS_seq (R := RV X) q fun d x H1 env r st er hr rd p => psts_rt hr p rd)
abbrev PIt (X : Cx) (W : WX) (t : Tgt) (tg e : Expr) (src : Src) : Prop := PIT X tg e (iM X W t src)
theorem t_for {tg iter : Expr} {body : List Stmt} {src : Src} {t : Tgt} {fb : Sx} {pos : Pos} (hp : PassesOwn (model X.prog X.w) X.A X.env X.xe) (hc : X.calm = true) (hi : PIt X W t tg iter src) (hg : PGm X tg t) (hb : PSsm X W body fb)
    (hs : ∀ x, foldedSetIterable iter X.env x = pure x := by intro _; rfl) : PSt X W (.For tg iter body [] pos) (sFor src t fb) := fun pins s σ H Dn h0 I q =>
  pst_for hp hc hi hg hb hs pins s σ H Dn h0 I <| tS_seq (R := RW_ X t) q fun pr J H0 env r0 st er hr wk p => by
    obtain ⟨xs, g⟩ := pr
    dsimp only at p
    refine ⟨fun i m σ H => i ≤ xs.length ∧ m = xs.length - i ∧ ∃ env r st, ER X.K H r env σ ∧ HR X.K X.mg H r st ∧ Ext X.K H0 H ∧ r0 <+: r ∧ PstS X.K X.mg W H r (forL g xs t fb (xs.drop i) env st) Dn, ⟨xs.length, Nat.zero_le _, rfl, env, r0, st, er, hr, Ext.refl _ _, List.prefix_refl _, p⟩, ?_⟩
    rintro i m σ H ⟨hi, hm, env, r, st, er, hr, ex, pf, p⟩
    by_cases hlt : i < xs.length
    · rw [List.drop_eq_getElem_cons hlt, forL] at p
      by_cases hg : guard g xs st
      · rw [if_pos hg] at p
        obtain ⟨_, w2⟩ := wk i H r st ex pf hr hg
        obtain ⟨go, yl⟩ := w2 _ (List.getElem?_eq_getElem hlt)
        refine .inr ⟨go, fun σ' H' => ∃ env r st, ER X.K H' r env σ' ∧ HR X.K X.mg H' r st ∧ Ext X.K H0 H' ∧ r0 <+: r ∧ PstS X.K X.mg W H' r (forL g xs t fb (xs.drop (i + 1)) env st) Dn, fun σ' H' q => ⟨xs.length - (i + 1), by omega, hlt, rfl, q⟩, fun x H' y => ?_⟩
        obtain ⟨e1, hr1, rx⟩ := yl x H' y
        cases ht : tgSet t xs[i] env with
        | none => rw [ht] at p; exact p.elim
        | some env1 =>
          rw [ht] at p
          refine ⟨env, r, xs[i], env1, er.mono e1 (List.prefix_refl _), rx, ht, fun σ2 _ er2 => ⟨env1, r, st, er2, hr1, ?_⟩⟩
          have p1 := PstS.base p (s1 := st) (H1 := H') (r1 := r) ⟨e1, List.prefix_refl _, hr1⟩
          dsimp only at p1
          cases e2 : fb env1 st with
          | nx e' s' => rw [e2] at p1; exact fun σ' H'' r' gr er' => ⟨e', r', s', er', gr.2.2, (ex.trans e1).trans gr.1, pf.trans gr.2.1, PstS.base p1 gr⟩
          | ct e' s' => rw [e2] at p1; exact fun σ' H'' r' gr er' => ⟨e', r', s', er', gr.2.2, (ex.trans e1).trans gr.1, pf.trans gr.2.1, PstS.base p1 gr⟩
          | bk e' s' => rw [e2] at p1; exact p1
          | rt d s' => rw [e2] at p1; exact p1
          | ex x e' s' => rw [e2] at p1; exact p1
          | no => rw [e2] at p1; exact p1
      · rw [if_neg hg] at p; exact p.elim
    · have e : i = xs.length := by omega
      subst e
      rw [List.drop_length, forL] at p
      by_cases hg : guard g xs st
      · rw [if_pos hg] at p
        exact .inl ⟨(wk _ H r st ex pf hr hg).1 (List.getElem?_eq_none (Nat.le_refl _)) rfl, psts_nx hr p er⟩
      · rw [if_neg hg] at p; exact p.elim
/-- a list that leans on a token is walked -/
theorem t_seqL {tt : Tgt} {tg e : Expr} {f : Ex} (h : PEt X W e f) (ho : ∀ env st d s, f env st = .ok d s → ∃ n, d = .adr n) : PIt X W tt tg e (srcSeq f) := fun pins s σ H R h0 I q =>
  pit_list h pins s σ H R h0 I <| by
    obtain ⟨env, r, st, er, hr, p⟩ := q
    refine ⟨env, r, st, er, hr, ?_⟩
    unfold srcSeq at p
    cases ef : f env st with
    | no => rw [ef] at p; exact p
    | ex a s => rw [ef] at p; exact p
    | ok d s1 =>
      rw [ef] at p
      obtain ⟨n, rfl⟩ := ho _ _ _ _ ef
      intro v H1 r1 g rd
      have p1 := PstG.base p g
      obtain ⟨a, e1, rfl⟩ := Rp.adr_iff.mp rd
      simp only [Rs.bind_ok] at p1
      cases hl : lstAt s1 n with
      | none => rw [hl] at p1; exact p1.elim
      | some xs =>
        rw [hl] at p1
        obtain ⟨a', vs, q1, q2, q3⟩ := g.2.2.lst hl
        rw [e1] at q1; cases q1
        exact ⟨a, rfl, ⟨vs, SqL.of q2⟩, pst_ok (v := Itl X.K a) g.2.2 p1 (walks_lst e1)⟩
theorem split_adr {fo : Ex} {fa : Fx (List D)} : ∀ env st d s, eMeth tyStr mdSplit fo fa env st = .ok d s → ∃ n, d = .adr n := fun env st d s h => by
  unfold eMeth at h
  cases e1 : fo env st with
  | no => rw [e1] at h; cases h
  | ex a s => rw [e1] at h; cases h
  | ok o s1 =>
    rw [e1] at h
    simp only [Rs.bind_ok] at h
    split at h
    · cases e2 : fa env s1 with
      | no => rw [e2] at h; cases h
      | ex a s => rw [e2] at h; cases h
      | ok as s2 =>
        rw [e2] at h
        simp only [Rs.bind_ok] at h
        unfold mdSplit at h
        split at h
        · split at h
          · cases h; exact ⟨_, rfl⟩
          · cases h
        · cases h
    · cases h
def eRepl (y z : Str) (f : Ex) : Ex := fun env st => (f env st).bind fun d s => match d with
  | .str x => if x.length + (x.length + 1) * z.length ≤ 16777216 then .ok (.str (Txt.replace x y z)) s else .no
  | _ => .no
theorem t_repl {o : Expr} {f : Ex} {y z : Str} {j k : Nat} {c0 c1 apos pos : Pos} (ho : PEt X W o f) (hyz : (y == z) = false := by decide)
    (hst : starEach [.Constant (.str y) j c0, .Constant (.str z) k c1] X.env = [(false, eval (.Constant (.str y) j c0) X.env), (false, eval (.Constant (.str z) k c1) X.env)] := by rfl)
    (hbase : attributeBase o "replace" X.env (eval o X.env) = eval o X.env := by rfl) (hline : (apos.endLine == pos.line) = true := by rfl) :
    PEt X W (.Call (.Attribute o "replace" apos) [.Constant (.str y) j c0, .Constant (.str z) k c1] [] pos) (eRepl y z f) := fun pins s σ H Q h0 I q =>
  CwR.pet_replT ho hyz hst hbase hline pins s σ H Q h0 I <| tG_seq (Ra := RV X) q fun d x H1 env r st er hr rd p => by
    cases d with
    | str x =>
      dsimp only at p
      by_cases c : x.length + (x.length + 1) * z.length ≤ 16777216
      · rw [if_pos c] at p
        exact ⟨x, Rp.str_iff.mp rd, c, pst_ok (v := V.str (Txt.replace x y z)) hr p (Rp.str_iff.mpr rfl)⟩
      · rw [if_neg c] at p; exact p.elim
    | _ => exact p.elim
theorem t_meth {T id : String} {name : Str} {ty : D → Store → Bool} {op : D → OpN} {o e : Expr} {es : List Expr} {fo : Ex} {fa : Fx (List D)} {apos cpos : Pos} (hT : TyM X T ty) (pa : PlainAttrs T) (slot : Slot T name id) (hty : typeOf (.builtin id) = pure (.type "method_descriptor")) (hm : MdM X id op)
    (ho : PEt X W o fo) (ha : PAm X W (e :: es) fa)
    (hbase : attributeBase o name X.env (eval o X.env) = eval o X.env := by rfl)
    (hfew : ((backTo cpos (starEach (e :: es) X.env)).all (fun x => !x.1) && (backToKw cpos (keywordEach [] X.env)).all (fun x => x.1.isSome)
      && decide ((e :: es).length + ([] : List Keyword).length + (if ([] : List Keyword).isEmpty then 0 else 1) < 30)) = true := by rfl)
    (hline : (apos.endLine == cpos.line) = true := by rfl) (hs : starEach (e :: es) X.env = (false, eval e X.env) :: starEach es X.env := by rfl) (hplain : (backTo cpos (starEach es X.env)).any (·.1) = false := by rfl) :
    PEt X W (.Call (.Attribute o name apos) (e :: es) [] cpos) (eMeth ty op fo fa) := fun pins s σ H Q h0 I h => by
  have h2 : tBM X.K T (fun x xs H Q => ∃ r st a as d st', HR X.K X.mg H r st ∧ Rp X.K H r a x ∧ RpL X.K H r as xs ∧ op a as st = some (d, st') ∧ ∀ v H' r', Grow X.K X.mg H r st' H' r' → Rp X.K H' r' d v → Q v H') (tM X W fo) (tA X W fa) σ H Q := by
    refine tG_seq (Ra := RV X) h fun a x H1 env r st er hr ra p => ?_
    split at p
    · rename_i hc
      refine ⟨hT a st H1 r x hr ra hc, ?_⟩
      refine tG_then (Ra := RVs X) er hr p fun b y H2 r1 s1 e1 e2 er2 hr2 rb p2 => ?_
      obtain ⟨d, st', e3, q⟩ := ofO_fin p2
      exact ⟨r1, s1, a, b, d, st', hr2, Rp.mono e1 e2 _ _ ra, rb, e3, q⟩
    · exact p.elim
  refine wpAny_Call_method_late hbase hfew hline rfl (thn (ho pins s σ H _ h0 I h2) fun v s1 ⟨x, H1, I1, rx, tx, q1⟩ => ?_)
  have is := tyV_is I1 rx tx
  refine ⟨T, id, pa, slot, hty, is.1, is.2, ?_⟩
  have hA := PA.run ha cpos pins s1 σ H1 _ I1 q1
  rw [hs] at hA ⊢
  refine Calls.callWith_builtin (show (false || (backTo cpos (starEach es X.env)).any (·.1)) = false by rw [hplain]; rfl) (Calls.evalArgs_plain (thn hA fun us s2 ⟨vs, H2, I2, r2, q2⟩ => ?_))
  exact hm pins s2 σ H2 x vs v us Q I2 rx r2 q2
variable {T : List FnI} {k : Nat}
theorem call_imp {fid : Nat} {np na : Nat} {fa : Fx (List D)} {σ : L2.St} {H : Hp} {Q : VK} (hlen : na = np) (hla : ∀ env st as s1, fa env st = .ok as s1 → as.length = na) (h : tM X W (eCall (callK T k) fid fa) σ H Q) :
    tA X W fa σ H (fun vs H1 => spM X.K X.mg np (callK T k fid) vs H1 Q (fun c d H' => W c d σ H')) := by
  obtain ⟨env, r, st, er, hr, p⟩ := h
  refine ⟨env, r, st, er, hr, ?_⟩
  unfold eCall at p
  cases ef : fa env st with
  | no => rw [ef] at p; exact p
  | ex a s1 => rw [ef] at p; exact p
  | ok as s1 =>
    rw [ef] at p
    intro vs H1 r1 g rl
    refine ⟨?_, r1, s1, as, g.2.2, rl, ?_⟩
    · rw [RpL.length rl, hla _ _ _ _ ef, hlen]
    · have p2 := PstG.base p g
      simp only [Rs.bind_ok] at p2
      cases ec : callK T k fid as s1 with
      | no => rw [ec] at p2; exact p2
      | ex a s2 => rw [ec] at p2; exact p2
      | ok a s2 => rw [ec] at p2; exact p2
/-- a call that leans on a token -/
theorem t_call {fid : Nat} {d : FnI} {x : Str} {e : Expr} {es : List Expr} {fa : Fx (List D)} {p pos : Pos} (c : Ctx X T k W) (hT : T[fid]? = some d) (hx : d.name = x) (hg : Gl X x) (ha : PAt X W (e :: es) fa) (hlen : (e :: es).length = d.ps.length)
    (hla : ∀ env st as s1, fa env st = .ok as s1 → as.length = (e :: es).length)
    (hdb : (x == ("__debug__" : Str)) = false := by decide) (he : starEach (e :: es) X.env = (false, eval e X.env) :: starEach es X.env := by rfl) (hpl : (backTo pos (starEach es X.env)).any (·.1) = false := by rfl) (hcl : d.cls = none := by rfl) :
    PEt X W (.Call (.Name x p) (e :: es) [] pos) (eCall (callK T k) fid fa) := by
  obtain ⟨f, fd, hm, hk, hb, F⟩ := c.fns fid d hT
  replace hm := hm.none hcl
  subst hx
  intro pins s σ H Q h0 I h
  refine wpAny_Call_Name_kw (ld_glob I hg hm ?_ hdb)
  refine PySem.W.callWith_K (h₀ := X.base) I.ok.mod.kin hk (thn (wp_kept h0 (ha pos pins s σ H _ h0 I (call_imp hlen hla h))) fun us s1 ⟨h1, vs, H1, I1, r, q⟩ => ⟨I1.kIn, ?_⟩) he hpl
  exact run_m (F k (Nat.le_refl k)) c.room hb c.tk I1 r q fun _ => h1
/-- a call whose arguments bring one -/
theorem o_call {fid : Nat} {d : FnI} {x : Str} {e : Expr} {es : List Expr} {fa : Fx (List D)} {p pos : Pos} (c : Ctx X T k W) (hT : T[fid]? = some d) (hx : d.name = x) (hg : Gl X x) (ha : PAo X W (e :: es) fa) (hlen : (e :: es).length = d.ps.length)
    (hla : ∀ env st as s1, fa env st = .ok as s1 → as.length = (e :: es).length)
    (hdb : (x == ("__debug__" : Str)) = false := by decide) (he : starEach (e :: es) X.env = (false, eval e X.env) :: starEach es X.env := by rfl) (hpl : (backTo pos (starEach es X.env)).any (·.1) = false := by rfl) (hcl : d.cls = none := by rfl) :
    PEm X W (.Call (.Name x p) (e :: es) [] pos) (eCall (callK T k) fid fa) := by
  obtain ⟨f, fd, hm, hk, hb, F⟩ := c.fns fid d hT
  replace hm := hm.none hcl
  subst hx
  refine ⟨fun pins s σ H Q I h => ?_⟩
  refine wpAny_Call_Name_kw (ld_glob I hg hm ?_ hdb)
  refine PySem.W.callWith_K (h₀ := X.base) I.ok.mod.kin hk (thn (ha pos pins s σ H _ I (call_imp hlen hla h)) fun us s1 ⟨h1, vs, H1, I1, r, q⟩ => ⟨I1.kIn, ?_⟩) he hpl
  exact run_m (F k (Nat.le_refl k)) c.room hb c.tk I1 r q fun _ => h1
/-! ### raise X('..'), X an own class over ValueError without an __init__ -/
def sRaiseP (c : Str) : Sx := fun env st => .ex ⟨c, []⟩ env st
structure RaisePOk (K : PySem.W.Frag) (mg : Str → Option Value) (c : Str) : Prop where
  ex : ∃ C, mg c = some (.ref C) ∧ PySem.W.excIn K C [.type "ValueError", .type "Exception", .type "BaseException", .type "object"] "ValueError.__new__" = true ∧ PySem.W.keepIn K (.ref C) = true ∧ PySem.W.subIn K (.ref C) (.type "BaseException") = some true ∧ PySem.W.typeIn K (.ref C) = some (.type "type")
theorem m_raiseP {c m : Str} {j : Nat} {p p2 pos pos' : Pos} (cx : Ctx X T k W) (R : RaisePOk X.K X.mg c) (hg : Gl X c) (hdb : (c == ("__debug__" : Str)) = false := by decide) :
    PSm X W (.Raise (some (.Call (.Name c p) [.Constant (.str m) j p2] [] pos)) none pos') (sRaiseP c) := by
  obtain ⟨C, hm, q, kC, b, t⟩ := R.ex
  refine PS.imp (ps_raise cx.calm cx.tk (pmk_own PySem.F.excBase_ValueError q hm kC (raises_own b t) hg hdb)) fun Dn σ H h => ?_
  obtain ⟨env, r, st, er, hr, w⟩ := h
  exact w _ _ σ H r (Grow.refl hr) er ⟨C, hm, rfl, fun z => absurd rfl z⟩
theorem rp_mk {K : PySem.W.Frag} {h : Heap} {mg : Str → Option Value} {c : Str} {C : Addr} (Y : K.In h) (G : h.Ns mainGlobals mg) (a : PySem.W.nsIn K mainGlobals c = some (some (.ref C))) (q : PySem.W.excIn K C [.type "ValueError", .type "Exception", .type "BaseException", .type "object"] "ValueError.__new__" = true)
    (kC : PySem.W.keepIn K (.ref C) = true) (b : PySem.W.subIn K (.ref C) (.type "BaseException") = some true) (t : PySem.W.typeIn K (.ref C) = some (.type "type")) : RaisePOk K mg c := ⟨C, PySem.W.mg_of Y G a, q, kC, b, t⟩
theorem mg_str {K : PySem.W.Frag} {h : Heap} {mg : Str → Option Value} {x n : Str} {t : Tok} (Y : K.In h) (G : h.Ns mainGlobals mg) (e : PySem.W.nsIn K mainGlobals x = some (some (.str n t))) : ∃ t, mg x = some (.str n t) := ⟨t, PySem.W.mg_of Y G e⟩
end
end Mi

namespace Mi
open PySem
open SX (S)
/-! ### terms as texts -/
def hdL : Hd → List Nat
  | .s x => x.cps.toList
  | .i v => 63 :: (toString v : Str).cps.toList
theorem hdL_nat {v : Int} (h : 0 ≤ v) : hdL (.i v) = 63 :: TL.numL v.toNat := by
  obtain ⟨n, rfl⟩ : ∃ n : Nat, v = (n : Int) := ⟨v.toNat, by omega⟩
  show 63 :: (Str.ofString (toString (n : Int))).cps.toList = _
  rw [show (Str.ofString (toString (n : Int))).cps.toList = TL.numL n from TL.tl_num n]
  rfl
def leafT : Tm → Bool
  | .mk _ ts => ts.isEmpty
mutual
def wr : Tm → List Nat
  | .mk h ts => hdL h ++ wrs ts
def wrs : List Tm → List Nat
  | [] => []
  | t :: ts => (if leafT t = true then 32 :: wr t else 32 :: 40 :: (wr t ++ [41])) ++ wrs ts
end
mutual
def tk : Tm → List (List Nat)
  | .mk h ts => hdL h :: tks ts
def tks : List Tm → List (List Nat)
  | [] => []
  | t :: ts => (if leafT t = true then tk t else [40] :: (tk t ++ [[41]])) ++ tks ts
end
theorem wr_mk (h : Hd) (ts : List Tm) : wr (.mk h ts) = hdL h ++ wrs ts := by rw [wr]
theorem wrs_nil : wrs [] = [] := by rw [wrs]
theorem wrs_cons (t : Tm) (ts : List Tm) : wrs (t :: ts) = (if leafT t = true then 32 :: wr t else 32 :: 40 :: (wr t ++ [41])) ++ wrs ts := by rw [wrs]
theorem tk_mk (h : Hd) (ts : List Tm) : tk (.mk h ts) = hdL h :: tks ts := by rw [tk]
theorem tks_nil : tks [] = [] := by rw [tks]
theorem tks_cons (t : Tm) (ts : List Tm) : tks (t :: ts) = (if leafT t = true then tk t else [40] :: (tk t ++ [[41]])) ++ tks ts := by rw [tks]
theorem leaf_mk (h : Hd) (ts : List Tm) : leafT (.mk h ts) = ts.isEmpty := rfl
/-! #### replace and split, sign by sign -/
def repl (c : Nat) (z : List Nat) (l : List Nat) : List Nat := l.flatMap fun a => if a = c then z else [a]
theorem repl_app (c : Nat) (z a b : List Nat) : repl c z (a ++ b) = repl c z a ++ repl c z b := by unfold repl; rw [List.flatMap_append]
theorem repl_free {c : Nat} {z : List Nat} : ∀ {l : List Nat}, c ∉ l → repl c z l = l
  | [], _ => rfl
  | a :: l, h => by
    have h1 : a ≠ c := fun e => h (e ▸ List.mem_cons_self ..)
    have ih := repl_free (c := c) (z := z) (l := l) fun m => h (List.mem_cons_of_mem _ m)
    unfold repl at ih ⊢
    rw [List.flatMap_cons, if_neg h1, ih]
    rfl
theorem spl_ne (s : Nat) : ∀ (l acc : List Nat), TL.spl [s] 0 acc l ≠ []
  | [], acc => by rw [TL.spl_nil]; simp
  | c :: r, acc => by
    cases e : TL.pre [s] (c :: r) with
    | true => rw [TL.spl_hit e]; simp
    | false => rw [TL.spl_miss e]; exact spl_ne s r _
theorem pre_one (s c : Nat) (r : List Nat) : TL.pre [s] (c :: r) = decide (c = s) := by
  by_cases h : c = s
  · subst h; simp [TL.pre]
  · rw [decide_eq_false h]
    simp [TL.pre]
    first
      | exact fun e => h e
      | exact fun e => h e.symm
theorem join_cons {z p : List Nat} {q : List (List Nat)} (h : q ≠ []) : TL.joinL z (p :: q) = p ++ (z ++ TL.joinL z q) := by
  cases q with
  | nil => exact absurd rfl h
  | cons a b => first | rfl | simp [TL.joinL]
theorem join_spl (s : Nat) (z : List Nat) : ∀ (l acc : List Nat), TL.joinL z (TL.spl [s] 0 acc l) = acc ++ repl s z l
  | [], acc => by rw [TL.spl_nil]; simp [TL.joinL, repl]
  | c :: r, acc => by
    by_cases h : c = s
    · rw [TL.spl_hit (by rw [pre_one]; exact decide_eq_true h)]
      show TL.joinL z (acc :: TL.spl [s] 0 [] r) = _
      rw [join_cons (spl_ne s r _), join_spl s z r []]
      simp [repl, h]
    · rw [TL.spl_miss (by rw [pre_one]; exact decide_eq_false h), join_spl s z r]
      simp [repl, h]
theorem rep_S {c : Nat} {z l : List Nat} (hc : c < 256) : Txt.replace (S l) (S [c]) (S z) = S (repl c z l) := by
  rw [StrLaws.replace_one]
  have e : Txt.split (S l) (⟨#[c]⟩ : Str) = (TL.spl [c] 0 [] l).map S := SX.split_S (a := l) (b := [c]) (by simp) (by simpa using hc)
  rw [e]
  have j := SX.join_S z (TL.spl [c] 0 [] l)
  rw [join_spl, List.nil_append] at j
  exact (StrLaws.glued_eq_join _ _).symm.trans j
def rp (l : List Nat) : List Nat := repl 41 [32, 41] (repl 40 [40, 32] l)
theorem rp_app (a b : List Nat) : rp (a ++ b) = rp a ++ rp b := by unfold rp; rw [repl_app, repl_app]
theorem rp_free {l : List Nat} (h : 40 ∉ l) (h2 : 41 ∉ l) : rp l = l := by unfold rp; rw [repl_free h, repl_free h2]
/-- each with a blank ahead -/
def pre32 (ws : List (List Nat)) : List Nat := ws.flatMap (32 :: ·)
theorem pre32_app (a b : List (List Nat)) : pre32 (a ++ b) = pre32 a ++ pre32 b := by unfold pre32; rw [List.flatMap_append]
theorem join32 (w : List Nat) : ∀ ws : List (List Nat), TL.joinL [32] (w :: ws) = w ++ pre32 ws
  | [] => by simp [TL.joinL, pre32]
  | v :: ws => by
    rw [join_cons (by simp), join32 v ws]
    simp [pre32]
/-- a head without blanks and parentheses -/
def ClnH (h : Hd) : Prop := 32 ∉ hdL h ∧ 40 ∉ hdL h ∧ 41 ∉ hdL h
mutual
theorem rp_wr : ∀ t : Tm, t.all ClnH → rp (wr t) = TL.joinL [32] (tk t)
  | .mk h ts, ha => by
    rw [Tm.all_mk] at ha
    rw [wr_mk, tk_mk, rp_app, rp_free ha.1.2.1 ha.1.2.2, rp_wrs ts ha.2, join32]
theorem rp_wrs : ∀ ts : List Tm, Tm.alls ClnH ts → rp (wrs ts) = pre32 (tks ts)
  | [], _ => by rw [wrs_nil, tks_nil]; rfl
  | t :: ts, ha => by
    rw [Tm.alls_cons] at ha
    have h1 := rp_wr t ha.1
    have h2 := rp_wrs ts ha.2
    have h3 : TL.joinL [32] (tk t) = (pre32 (tk t)).tail := by
      cases t with
      | mk g us => rw [tk_mk, join32]; simp [pre32]
    have h4 : 32 :: TL.joinL [32] (tk t) = pre32 (tk t) := by
      cases t with
      | mk g us => rw [tk_mk, join32]; simp [pre32]
    rw [wrs_cons, tks_cons, rp_app, h2, pre32_app]
    congr 1
    by_cases hl : leafT t = true
    · rw [if_pos hl, if_pos hl, show 32 :: wr t = [32] ++ wr t from rfl, rp_app, h1, ← h4]
      rfl
    · rw [if_neg hl, if_neg hl, show 32 :: 40 :: (wr t ++ [41]) = [32, 40] ++ (wr t ++ [41]) from rfl, rp_app, rp_app, h1]
      have e : pre32 ([40] :: (tk t ++ [[41]])) = [32, 40] ++ (pre32 (tk t) ++ [32, 41]) := by
        simp [pre32]
      rw [e, ← h4]
      rfl
end
/-! #### words that are heads -/
def capL (c : Nat) : Prop := (97 ≤ c ∧ c ≤ 122) ∨ (65 ≤ c ∧ c ≤ 90)
def digL (c : Nat) : Prop := 48 ≤ c ∧ c ≤ 57
instance (c : Nat) : Decidable (capL c) := by unfold capL; infer_instance
instance (c : Nat) : Decidable (digL c) := by unfold digL; infer_instance
def nameL : List Nat → Bool
  | [] => false
  | c :: r => decide (r.length ≤ 11) && decide (capL c) && (c :: r).all fun a => decide (capL a) || decide (digL a)
def numOf (r : List Nat) : Option Int :=
  if 1 ≤ r.length ∧ r.length ≤ 4 ∧ (∀ c ∈ r, digL c) ∧ ¬ (r.head? = some 48 ∧ r ≠ [48]) then some ((NumText.digitsVal r : Nat) : Int) else none
def headOf (w : List Nat) : Option Hd :=
  if nameL w = true then some (.s (S w)) else match w with
    | 63 :: r => (numOf r).map .i
    | _ => none
theorem num_head {n : Nat} : ∀ (k : Nat), n ≤ k → 1 ≤ n → (TL.numL n).head? ≠ some 48 ∧ TL.numL n ≠ [] := by
  intro k
  induction k generalizing n with
  | zero => intro h h1; omega
  | succ k ih =>
    intro h h1
    by_cases hn : n < 10
    · rw [TL.numL_lt hn]
      simp
      omega
    · rw [TL.numL_step (by omega)]
      obtain ⟨a, b⟩ := ih (n := n / 10) (by omega) (by omega)
      cases e : TL.numL (n / 10) with
      | nil => exact absurd e b
      | cons c r => rw [e] at a; simpa using a
theorem numOf_num {n : Nat} (h : n ≤ 9999) : numOf (TL.numL n) = some (n : Int) := by
  have c : 1 ≤ (TL.numL n).length ∧ (TL.numL n).length ≤ 4 ∧ (∀ c ∈ TL.numL n, digL c) ∧ ¬ ((TL.numL n).head? = some 48 ∧ TL.numL n ≠ [48]) := by
    refine ⟨?_, TL.numL_len (k := 4) (by decide) (by omega), fun c hc => TL.numL_digits n c hc, ?_⟩
    · have := TL.numL_ne n
      cases e : TL.numL n with
      | nil => exact absurd e this
      | cons c r => simp
    · rintro ⟨a, b⟩
      by_cases h1 : 1 ≤ n
      · exact (num_head n (Nat.le_refl _) h1).1 a
      · have : n = 0 := by omega
        subst this
        exact b (by rw [TL.numL_lt (by decide)])
  unfold numOf
  rw [if_pos c, TL.numL_val]
/-- a head that is written and read -/
def RdH : Hd → Prop
  | .i v => 0 ≤ v ∧ v ≤ 9999
  | .s x => nameL x.cps.toList = true
theorem headOf_hdL {h : Hd} (g : RdH h) : headOf (hdL h) = some h := by
  cases h with
  | s x =>
    unfold headOf
    rw [show hdL (.s x) = x.cps.toList from rfl, if_pos (show nameL x.cps.toList = true from g), SX.S_tl]
  | i v =>
    obtain ⟨g1, g2⟩ := g
    unfold headOf
    have e : nameL (63 :: TL.numL v.toNat) = false := by
      show (decide ((TL.numL v.toNat).length ≤ 11) && decide (capL 63) && _) = false
      rw [decide_eq_false (p := capL 63) (by unfold capL; omega)]
      simp
    rw [hdL_nat g1, if_neg (by rw [e]; simp)]
    show (numOf (TL.numL v.toNat)).map Hd.i = _
    rw [numOf_num (n := v.toNat) (by omega)]
    simp only [Option.map_some]
    congr 2
    omega
theorem nameL_cln {l : List Nat} (h : nameL l = true) {c : Nat} (hc : c ∈ l) : capL c ∨ digL c := by
  cases l with
  | nil => cases hc
  | cons a r =>
    unfold nameL at h
    rw [Bool.and_eq_true, List.all_eq_true] at h
    have := h.2 c hc
    simpa using this
theorem RdH.cln {h : Hd} (g : RdH h) : ClnH h := by
  have key : ∀ c ∈ hdL h, c = 63 ∨ capL c ∨ digL c := by
    intro c hc
    cases h with
    | s x => exact .inr (nameL_cln g hc)
    | i v =>
      rw [hdL_nat g.1] at hc
      rcases List.mem_cons.mp hc with hc | hc
      · exact .inl hc
      · exact .inr (.inr (TL.numL_digits v.toNat c hc))
  refine ⟨fun z => ?_, fun z => ?_, fun z => ?_⟩ <;>
    (have := key _ z; unfold capL digL at this; omega)
theorem RdH.ne {h : Hd} (g : RdH h) : hdL h ≠ [40] ∧ hdL h ≠ [41] := ⟨fun e => g.cln.2.1 (by rw [e]; simp), fun e => g.cln.2.2 (by rw [e]; simp)⟩
/-! #### the words of a term, read -/
abbrev Fr := Option (Hd × List Tm)
def stepW : List Fr → List Nat → Option (List Fr)
  | [], _ => none
  | f :: r, w =>
    if w = [40] then match f with
      | none => none
      | some p => some (none :: some p :: r)
    else if w = [41] then match f, r with
      | some (h, ts), some (h2, ts2) :: r2 => some (some (h2, ts2 ++ [.mk h ts]) :: r2)
      | _, _ => none
    else match headOf w, f with
      | none, _ => none
      | some h, none => some (some (h, []) :: r)
      | some h, some (h2, ts2) => some (some (h2, ts2 ++ [.mk h []]) :: r)
def runW : List Fr → List (List Nat) → Option (List Fr)
  | stk, [] => some stk
  | stk, w :: ws => (stepW stk w).bind fun s => runW s ws
mutual
theorem run_tk : ∀ (t : Tm) (r : List Fr) (ws : List (List Nat)), t.all RdH → runW (none :: r) (tk t ++ ws) = runW (some (match t with | .mk h _ => h, match t with | .mk _ ts => ts) :: r) ws
  | .mk h ts, r, ws, ha => by
    rw [Tm.all_mk] at ha
    rw [tk_mk, List.cons_append, runW]
    have e : stepW (none :: r) (hdL h) = some (some (h, []) :: r) := by
      unfold stepW
      dsimp only
      rw [if_neg ha.1.ne.1, if_neg ha.1.ne.2, headOf_hdL ha.1]
    rw [e]
    show runW (some (h, []) :: r) (tks ts ++ ws) = _
    rw [run_tks ts h [] r ws ha.2, List.nil_append]
theorem run_tks : ∀ (ts : List Tm) (h : Hd) (ts0 : List Tm) (r : List Fr) (ws : List (List Nat)), Tm.alls RdH ts → runW (some (h, ts0) :: r) (tks ts ++ ws) = runW (some (h, ts0 ++ ts) :: r) ws
  | [], h, ts0, r, ws, _ => by rw [tks_nil, List.nil_append, List.append_nil]
  | .mk g us :: ts, h, ts0, r, ws, ha => by
    rw [Tm.alls_cons] at ha
    rw [tks_cons]
    by_cases hl : leafT (.mk g us) = true
    · rw [if_pos hl]
      have hu : us = [] := by simpa [leafT] using hl
      subst hu
      have hg := ha.1
      rw [Tm.all_mk] at hg
      rw [tk_mk, tks_nil, List.append_assoc, List.cons_append, List.nil_append, runW]
      have e : stepW (some (h, ts0) :: r) (hdL g) = some (some (h, ts0 ++ [.mk g []]) :: r) := by
        unfold stepW
        dsimp only
        rw [if_neg hg.1.ne.1, if_neg hg.1.ne.2, headOf_hdL hg.1]
      rw [e]
      show runW (some (h, ts0 ++ [.mk g []]) :: r) (tks ts ++ ws) = _
      rw [run_tks ts h _ r ws ha.2, List.append_assoc]
      rfl
    · rw [if_neg hl, List.append_assoc, List.cons_append, runW]
      have e : stepW (some (h, ts0) :: r) [40] = some (none :: some (h, ts0) :: r) := by
        unfold stepW
        dsimp only
        rw [if_pos rfl]
      rw [e]
      show runW (none :: some (h, ts0) :: r) (tk (.mk g us) ++ [[41]] ++ (tks ts ++ ws)) = _
      rw [List.append_assoc, run_tk (.mk g us) _ _ ha.1]
      dsimp only
      rw [List.cons_append, List.nil_append, runW]
      have e2 : stepW (some (g, us) :: some (h, ts0) :: r) [41] = some (some (h, ts0 ++ [.mk g us]) :: r) := by
        unfold stepW
        dsimp only
        rw [if_neg (by decide), if_pos rfl]
      rw [e2]
      show runW (some (h, ts0 ++ [.mk g us]) :: r) (tks ts ++ ws) = _
      rw [run_tks ts h _ r ws ha.2, List.append_assoc]
      rfl
end
mutual
theorem tk_cln : ∀ t : Tm, t.all RdH → ∀ w ∈ tk t, 32 ∉ w
  | .mk h ts, ha, w, hw => by
    rw [Tm.all_mk] at ha
    rw [tk_mk] at hw
    rcases List.mem_cons.mp hw with rfl | hw
    · exact ha.1.cln.1
    · exact tks_cln ts ha.2 w hw
theorem tks_cln : ∀ ts : List Tm, Tm.alls RdH ts → ∀ w ∈ tks ts, 32 ∉ w
  | [], _, w, hw => by rw [tks_nil] at hw; cases hw
  | t :: ts, ha, w, hw => by
    rw [Tm.alls_cons] at ha
    rw [tks_cons] at hw
    rcases List.mem_append.mp hw with hw | hw
    · split at hw
      · exact tk_cln t ha.1 w hw
      · rcases List.mem_cons.mp hw with rfl | hw
        · decide
        · rcases List.mem_append.mp hw with hw | hw
          · exact tk_cln t ha.1 w hw
          · rw [List.mem_singleton] at hw; subst hw; decide
    · exact tks_cln ts ha.2 w hw
end
mutual
theorem all_mono {p q : Hd → Prop} (i : ∀ h, p h → q h) : ∀ t : Tm, t.all p → t.all q
  | .mk h ts, ha => by
    rw [Tm.all_mk] at ha ⊢
    exact ⟨i h ha.1, alls_mono i ts ha.2⟩
theorem alls_mono {p q : Hd → Prop} (i : ∀ h, p h → q h) : ∀ ts : List Tm, Tm.alls p ts → Tm.alls q ts
  | [], _ => Tm.alls_nil _
  | t :: ts, ha => by
    rw [Tm.alls_cons] at ha ⊢
    exact ⟨all_mono i t ha.1, alls_mono i ts ha.2⟩
end
/-- what a text says -/
def wordsL (l : List Nat) : List (List Nat) := TL.spl [32] 0 [] (rp l)
def readL (l : List Nat) : Option Tm := match runW [none] (wordsL l) with
  | some [some (h, ts)] => if wr (.mk h ts) = l then some (.mk h ts) else none
  | _ => none
theorem words_wr {t : Tm} (h : t.all RdH) : wordsL (wr t) = tk t := by
  unfold wordsL
  rw [rp_wr t (all_mono (fun _ g => g.cln) t h)]
  refine TL.spl_join ?_ (tk_cln t h)
  cases t with
  | mk g ts => rw [tk_mk]; simp
theorem read_wr {t : Tm} (h : t.all RdH) : readL (wr t) = some t := by
  unfold readL
  rw [words_wr h]
  have e := run_tk t [] [] h
  rw [List.append_nil] at e
  rw [e]
  cases t with
  | mk g ts =>
    show (if wr (.mk g ts) = wr (.mk g ts) then some (Tm.mk g ts) else none) = _
    rw [if_pos rfl]
theorem pop_l {n : Nat} {ys : List D} {y : D} {st : Store} (h : lstAt st n = some (ys ++ [y])) : mdPop (.adr n) [] st = some (y, st.set n (.lst ys)) := by
  unfold mdPop
  dsimp only
  rw [h]
  simp
theorem rev_t {xs : List D} {st : Store} : opRev (.tup xs) st = some (.tup xs.reverse, st) := rfl
theorem meth_of {ty : D → Store → Bool} {op : D → OpN} {fo : Ex} {fa : Fx (List D)} {env : MEnv} {st s1 s2 s3 : Store} {a d : D} {as : List D} (h1 : fo env st = .ok a s1) (ht : ty a s1 = true) (h2 : fa env s1 = .ok as s2) (h3 : op a as s2 = some (d, s3)) : eMeth ty op fo fa env st = .ok d s3 := by
  unfold eMeth
  rw [h1]
  simp only [Rs.bind_ok]
  rw [if_pos ht, h2]
  simp only [Rs.bind_ok]
  rw [h3]
  rfl
theorem arg1_of {f : Ex} {env : MEnv} {st s : Store} {a : D} (h : f env st = .ok a s) : aCons f aNil env st = .ok [a] s := by
  unfold aCons aNil
  rw [h]
  rfl
theorem expr_of {f : Ex} {env : MEnv} {st s : Store} {d : D} {P : Pst} (h : f env st = .ok d s) (q : P.nx env s) : (sExpr f env st).wps P := by
  unfold sExpr
  rw [h]
  simp only [wps_toOut, wp_ok, wps_nx]
  exact q
theorem ty_s {x : Str} {st : Store} : tyStr (.str x) st = true := rfl
end Mi

namespace Mi
open PySem
open SX (S)
noncomputable section
open Classical
/-! ### texts in the evaluator -/
theorem in_ch {c : Nat} {z : Str} {st : Store} : opIn (.str (S [c])) (.str z) st = some (.bl (decide (c ∈ z.cps.toList)), st) ∧ opNotIn (.str (S [c])) (.str z) st = some (.bl (!decide (c ∈ z.cps.toList)), st) := by
  have e : inO (.str (S [c])) (.str z) st = some (decide (c ∈ z.cps.toList)) := by
    have h : ∃ k, S [c] = (⟨#[k]⟩ : Str) := ⟨c, rfl⟩
    have hc : h.choose = c := by
      have := h.choose_spec
      have e2 := congrArg (fun x : Str => x.cps.toList) this
      simpa using e2.symm
    show (if h : ∃ k, S [c] = (⟨#[k]⟩ : Str) then some (decide (h.choose ∈ z.cps.toList)) else none) = _
    rw [dif_pos h, hc]
  unfold opIn opNotIn
  rw [e]
  exact ⟨rfl, rfl⟩
theorem len_S {l : List Nat} {st : Store} (h : l.length ≤ sizeLine) : biLen [.str (S l)] st = some (.int (l.length : Nat), st) := by
  show (lenD (.str (S l)) st).map _ = _
  have : lenD (.str (S l)) st = some l.length := by
    show (if (S l).length ≤ sizeLine then some (S l).length else none) = _
    rw [SX.S_len, if_pos h]
  rw [this]
  rfl
theorem ix0_S {c : Nat} {r : List Nat} {st : Store} (h : (c :: r).length ≤ sizeLine) : opIx (.str (S (c :: r))) (.int 0) st = some (.str (S [c]), st) := by
  show (if (S (c :: r)).length ≤ sizeLine then (L2.atI (S (c :: r)).cps.toList 0).map fun c => (D.str ⟨#[c]⟩, st) else none) = _
  rw [SX.S_len, if_pos h]
  have : L2.atI (S (c :: r)).cps.toList 0 = some c := atI_0 _ _
  rw [this]
  rfl
theorem sl_from {l : List Nat} {n : Nat} {st : Store} (h : l.length ≤ sizeLine) : opSl (.str (S l)) (some (n : Int)) none st = some (.str (S (l.drop n)), st) := by
  show (if (S l).length ≤ sizeLine then some (D.str (L2.cutS (S l) (some (n : Int)) none), st) else none) = _
  rw [SX.S_len, if_pos h, C8.cutS_slice, SX.slice_from (by omega), Int.toNat_natCast]
theorem sl_to {l : List Nat} {n : Nat} {st : Store} (h : l.length ≤ sizeLine) : opSl (.str (S l)) none (some (n : Int)) st = some (.str (S (l.take n)), st) := by
  show (if (S l).length ≤ sizeLine then some (D.str (L2.cutS (S l) none (some (n : Int))), st) else none) = _
  rw [SX.S_len, if_pos h, C8.cutS_slice, SX.slice_to (by omega), Int.toNat_natCast]
theorem chD_S (l : List Nat) : chD (S l) = l.map fun c => D.str (S [c]) := rfl
theorem S_eq {a b : List Nat} : (S a = S b) ↔ a = b := ⟨SX.S_inj, fun h => h ▸ rfl⟩
theorem dig_mem {c : Nat} : c ∈ ("0123456789" : Str).cps.toList ↔ digL c := by
  have e : ("0123456789" : Str).cps.toList = [48, 49, 50, 51, 52, 53, 54, 55, 56, 57] := by decide +kernel
  rw [e]
  unfold digL
  simp
  omega
theorem let_mem {c : Nat} : c ∈ ("abcdefghijklmnopqrstuvwxyzABCDEFGHIJKLMNOPQRSTUVWXYZ" : Str).cps.toList ↔ capL c := by
  have e : ("abcdefghijklmnopqrstuvwxyzABCDEFGHIJKLMNOPQRSTUVWXYZ" : Str).cps.toList = (List.range 26).map (97 + ·) ++ (List.range 26).map (65 + ·) := by decide +kernel
  rw [e]
  unfold capL
  simp only [List.mem_append, List.mem_map, List.mem_range]
  constructor
  · rintro (⟨a, h, rfl⟩ | ⟨a, h, rfl⟩) <;> omega
  · rintro (h | h)
    · exact .inl ⟨c - 97, by omega, by omega⟩
    · exact .inr ⟨c - 65, by omega, by omega⟩
theorem ex_wp {x : Rs D} {e : Exn} {s : Store} (h : x.wp (fun _ _ => False) (fun a b => a = e ∧ b = s)) : x = .ex e s := by
  rw [wp_def] at h
  cases x with
  | ok a b => exact h.elim
  | ex a b => obtain ⟨rfl, rfl⟩ := h; rfl
  | no => exact h.elim
theorem gcX_o {st s : Store} {c : Str} (o : Old st s) : gcX st ⟨c, []⟩ s = st := by
  obtain ⟨g, rfl⟩ := o
  unfold gcX
  rw [if_pos ⟨keep_app st g, rfl⟩]
  simp
theorem nameL_cons (c : Nat) (r : List Nat) : nameL (c :: r) = (decide (r.length ≤ 11) && decide (capL c) && (c :: r).all fun a => decide (capL a) || decide (digL a)) := rfl
theorem tor_f {fa fb : Fx Bool} {env : MEnv} {st s : Store} {r : Rs Bool} (h1 : fa env st = .ok false s) (h2 : fb env s = r) : Mi.tOr fa fb env st = r := by
  unfold Mi.tOr
  rw [h1]
  simp only [Rs.bind_ok]
  exact h2
theorem tor_t {fa fb : Fx Bool} {env : MEnv} {st s : Store} (h1 : fa env st = .ok true s) : Mi.tOr fa fb env st = .ok true s := by
  unfold Mi.tOr
  rw [h1]
  rfl
theorem tnot_of {fa : Fx Bool} {env : MEnv} {st s : Store} {b : Bool} (h1 : fa env st = .ok b s) : Mi.tNot fa env st = .ok (!b) s := by
  unfold Mi.tNot
  rw [h1]
  rfl
theorem tru_of1 {f : Ex} {env : MEnv} {st s : Store} {d : D} {b : Bool} (h1 : f env st = .ok d s) (h2 : truD d s = some b) : tTru f env st = .ok b s := by
  unfold tTru
  rw [h1]
  simp only [Rs.bind_ok]
  rw [h2]
  rfl
theorem cutD_tail (x : D) (xs : List D) : cutD (x :: xs) (some 1) none = xs := by
  unfold cutD
  have e : HT.sIx (x :: xs).length 0 (some 1) = 1 := by
    have := HT.sIx_nat (x :: xs).length 0 1
    rw [show ((1 : Nat) : Int) = 1 from rfl] at this
    rw [this]
    simp
  rw [e, HT.sIx_none]
  simp
/-! ### what was read is small and right -/
theorem dig_fold : ∀ (r : List Nat) (acc : Nat), (∀ c ∈ r, digL c) → r.foldl (fun acc c => acc * 10 + (c - 48)) acc + 1 ≤ (acc + 1) * 10 ^ r.length
  | [], acc, _ => by simp
  | c :: r, acc, h => by
    rw [List.foldl_cons, List.length_cons, Nat.pow_succ]
    have hc := h c (List.mem_cons_self ..)
    unfold digL at hc
    have ih := dig_fold r (acc * 10 + (c - 48)) fun a ha => h a (List.mem_cons_of_mem _ ha)
    refine Nat.le_trans ih ?_
    have e : (acc + 1) * (10 ^ r.length * 10) = (acc * 10 + 10) * 10 ^ r.length := by
      rw [← Nat.mul_assoc, Nat.mul_comm ((acc + 1) * 10 ^ r.length) 10, ← Nat.mul_assoc, Nat.mul_comm 10 (acc + 1), Nat.add_mul]
    rw [e]
    exact Nat.mul_le_mul_right _ (by omega)
theorem numOf_bd {r : List Nat} {v : Int} (h : numOf r = some v) : 0 ≤ v ∧ v ≤ 9999 := by
  unfold numOf at h
  split at h
  · rename_i c
    cases h
    have := dig_fold r 0 c.2.2.1
    have h4 : 10 ^ r.length ≤ 10 ^ 4 := Nat.pow_le_pow_right (by decide) c.2.1
    have : NumText.digitsVal r + 1 ≤ 10 ^ r.length := by simpa [NumText.digitsVal] using this
    omega
  · cases h
theorem headOf_rd {w : List Nat} {h : Hd} (e : headOf w = some h) : RdH h := by
  unfold headOf at e
  split at e
  · rename_i n
    cases e
    exact n
  · split at e
    · obtain ⟨v, e1, rfl⟩ := Option.map_eq_some_iff.mp e
      exact numOf_bd e1
    · cases e
theorem nameL_len {l : List Nat} (h : nameL l = true) : 1 ≤ l.length ∧ l.length ≤ 12 := by
  cases l with
  | nil => cases h
  | cons a r =>
    unfold nameL at h
    rw [Bool.and_eq_true, Bool.and_eq_true] at h
    have := of_decide_eq_true h.1.1
    rw [List.length_cons]
    omega
theorem RdH.len {h : Hd} (g : RdH h) : (hdL h).length ≤ 12 := by
  cases h with
  | s x => exact (nameL_len g).2
  | i v =>
    rw [hdL_nat g.1, List.length_cons]
    have g2 := g.2
    have := TL.numL_len (n := v.toNat) (k := 4) (by decide) (by omega)
    omega
mutual
theorem wr_small : ∀ t : Tm, t.all RdH → (wr t).length + 3 ≤ 16 * t.size
  | .mk h ts, ha => by
    rw [Tm.all_mk] at ha
    rw [wr_mk, List.length_append, Tm.size_mk]
    have := ha.1.len
    have := wrs_small ts ha.2
    omega
theorem wrs_small : ∀ ts : List Tm, Tm.alls RdH ts → (wrs ts).length ≤ 16 * Tm.sizes ts
  | [], _ => by rw [wrs_nil]; exact Nat.zero_le _
  | t :: ts, ha => by
    rw [Tm.alls_cons] at ha
    have h1 := wr_small t ha.1
    have h2 := wrs_small ts ha.2
    rw [wrs_cons, List.length_append, Tm.sizes_cons]
    split <;> simp <;> omega
end
def FrOk : Fr → Prop
  | none => True
  | some (h, ts) => RdH h ∧ Tm.alls RdH ts
def frN : Fr → Nat
  | none => 0
  | some (_, ts) => 1 + Tm.sizes ts
def stN (stk : List Fr) : Nat := (stk.map frN).sum
theorem step_ok {stk stk' : List Fr} {w : List Nat} (h : ∀ f ∈ stk, FrOk f) (e : stepW stk w = some stk') : (∀ f ∈ stk', FrOk f) ∧ stN stk' ≤ stN stk + 1 ∧ (stk' ≠ [] ∧ ∀ r, stk' = r ++ [none] → r ≠ [] ∨ False → r ≠ []) := by
  refine ⟨?_, ?_, ?_⟩
  · unfold stepW at e
    cases stk with
    | nil => cases e
    | cons f r =>
      dsimp only at e
      split at e
      · cases f with
        | none => cases e
        | some p =>
          cases e
          intro g hg
          rcases List.mem_cons.mp hg with rfl | hg
          · trivial
          · exact h g hg
      · split at e
        · split at e
          · rename_i h1 ts h2 ts2 r2
            cases e
            have a := h (some (h1, ts)) (List.mem_cons_self ..)
            have b := h (some (h2, ts2)) (List.mem_cons_of_mem _ (List.mem_cons_self ..))
            intro g hg
            rcases List.mem_cons.mp hg with rfl | hg
            · refine ⟨b.1, Tm.alls_iff.mpr fun t ht => ?_⟩
              rcases List.mem_append.mp ht with ht | ht
              · exact Tm.alls_iff.mp b.2 t ht
              · rw [List.mem_singleton] at ht; subst ht
                rw [Tm.all_mk]
                exact a
            · exact h g (List.mem_cons_of_mem _ (List.mem_cons_of_mem _ hg))
          · cases e
        · split at e
          · cases e
          · rename_i hd e1
            cases e
            intro g hg
            rcases List.mem_cons.mp hg with rfl | hg
            · exact ⟨headOf_rd e1, Tm.alls_nil _⟩
            · exact h g (List.mem_cons_of_mem _ hg)
          · rename_i hd h2 ts2 e1
            cases e
            have a := h _ (List.mem_cons_self ..)
            intro g hg
            rcases List.mem_cons.mp hg with rfl | hg
            · refine ⟨a.1, Tm.alls_iff.mpr fun t ht => ?_⟩
              rcases List.mem_append.mp ht with ht | ht
              · exact Tm.alls_iff.mp a.2 t ht
              · rw [List.mem_singleton] at ht; subst ht
                rw [Tm.all_mk]
                exact ⟨headOf_rd e1, Tm.alls_nil _⟩
            · exact h g (List.mem_cons_of_mem _ hg)
  · unfold stepW at e
    cases stk with
    | nil => cases e
    | cons f r =>
      dsimp only at e
      split at e
      · cases f with
        | none => cases e
        | some p => cases e; simp [stN, frN]
      · split at e
        · split at e
          · cases e
            simp [stN, frN, Tm.sizes_app, Tm.sizes_cons, Tm.sizes_nil, Tm.size_mk]
            omega
          · cases e
        · split at e
          · cases e
          · cases e
            simp [stN, frN, Tm.sizes_nil]
            omega
          · cases e
            simp [stN, frN, Tm.sizes_app, Tm.sizes_cons, Tm.sizes_nil, Tm.size_mk]
            omega
  · refine ⟨?_, fun r _ z => z.elim id fun z => z.elim⟩
    unfold stepW at e
    cases stk with
    | nil => cases e
    | cons f r =>
      dsimp only at e
      repeat' split at e
      all_goals (first | cases e | (cases e; simp))
      all_goals simp
theorem run_ok : ∀ (ws : List (List Nat)) {stk stk' : List Fr}, (∀ f ∈ stk, FrOk f) → runW stk ws = some stk' → (∀ f ∈ stk', FrOk f) ∧ stN stk' ≤ stN stk + ws.length
  | [], stk, stk', h, e => by cases e; exact ⟨h, by simp⟩
  | w :: ws, stk, stk', h, e => by
    rw [runW] at e
    obtain ⟨s, e1, e2⟩ := Option.bind_eq_some_iff.mp e
    obtain ⟨a, b, _⟩ := step_ok h e1
    obtain ⟨c, d⟩ := run_ok ws a e2
    refine ⟨c, ?_⟩
    rw [List.length_cons]
    omega
theorem run_app : ∀ (a b : List (List Nat)) (stk : List Fr), runW stk (a ++ b) = (runW stk a).bind fun s => runW s b
  | [], b, stk => rfl
  | w :: a, b, stk => by
    rw [List.cons_append, runW, runW]
    cases e : stepW stk w with
    | none => rfl
    | some s => exact run_app a b s
/-- the lowest row is never empty behind a word -/
def LowOk (stk : List Fr) : Prop := ∃ f, stk.getLast? = some (some f)
theorem step_low {stk stk' : List Fr} {w : List Nat} (h : stk = [none] ∨ LowOk stk) (e : stepW stk w = some stk') : LowOk stk' := by
  unfold stepW at e
  cases stk with
  | nil => cases e
  | cons f r =>
    have hl : ∀ {g : Fr}, (r = [] → ∃ p, g = some p) → LowOk (f :: r) ∨ (f :: r) = [none] → LowOk (g :: r) := fun {g} hg hh => by
      cases r with
      | nil =>
        obtain ⟨p, rfl⟩ := hg rfl
        exact ⟨p, rfl⟩
      | cons a b =>
        rcases hh with ⟨p, hp⟩ | z
        · exact ⟨p, by rw [List.getLast?_cons_cons] at hp ⊢; exact hp⟩
        · cases z
    dsimp only at e
    split at e
    · cases f with
      | none => cases e
      | some p =>
        cases e
        rcases h with z | ⟨q, hq⟩
        · cases z
        · exact ⟨q, by rw [List.getLast?_cons_cons]; exact hq⟩
    · split at e
      · split at e
        · rename_i h1 ts h2 ts2 r2
          cases e
          rcases h with z | ⟨q, hq⟩
          · cases z
          · cases r2 with
            | nil => exact ⟨_, rfl⟩
            | cons a b =>
              refine ⟨q, ?_⟩
              rw [List.getLast?_cons_cons, List.getLast?_cons_cons] at hq
              rw [List.getLast?_cons_cons]
              exact hq
        · cases e
      · split at e
        · cases e
        · cases e
          exact hl (fun _ => ⟨_, rfl⟩) h.symm
        · cases e
          exact hl (fun _ => ⟨_, rfl⟩) h.symm
theorem run_low : ∀ (ws : List (List Nat)) {stk stk' : List Fr}, LowOk stk → runW stk ws = some stk' → LowOk stk'
  | [], stk, stk', h, e => by cases e; exact h
  | w :: ws, stk, stk', h, e => by
    rw [runW] at e
    obtain ⟨s, e1, e2⟩ := Option.bind_eq_some_iff.mp e
    exact run_low ws (step_low (.inr h) e1) e2
theorem run_none {ws : List (List Nat)} {stk : List Fr} (hw : ws ≠ []) (e : runW [none] ws = some stk) : LowOk stk := by
  cases ws with
  | nil => exact absurd rfl hw
  | cons w ws =>
    rw [runW] at e
    obtain ⟨s, e1, e2⟩ := Option.bind_eq_some_iff.mp e
    exact run_low ws (step_low (.inl rfl) e1) e2
theorem repl_len {c : Nat} {z : List Nat} (hz : z.length ≤ 2) : ∀ l : List Nat, (repl c z l).length ≤ 2 * l.length
  | [] => by simp [repl]
  | a :: l => by
    have := repl_len (c := c) hz l
    unfold repl at this ⊢
    rw [List.flatMap_cons, List.length_append, List.length_cons]
    have h2 : (if a = c then z else [a]).length ≤ 2 := by
      split
      · exact hz
      · exact Nat.le_succ 1
    omega
theorem spl_cnt (s : Nat) : ∀ (l acc : List Nat), (TL.spl [s] 0 acc l).length ≤ l.length + 1
  | [], acc => by rw [TL.spl_nil]; simp
  | c :: r, acc => by
    cases e : TL.pre [s] (c :: r) with
    | true =>
      rw [TL.spl_hit e]
      have := spl_cnt s r []
      show (acc :: TL.spl [s] 0 [] r).length ≤ _
      simp
      exact this
    | false =>
      rw [TL.spl_miss e]
      have := spl_cnt s r (acc ++ [c])
      simp
      omega
theorem spl_part_len (s : Nat) : ∀ (l acc w : List Nat), w ∈ TL.spl [s] 0 acc l → w.length ≤ acc.length + l.length
  | [], acc, w, h => by rw [TL.spl_nil, List.mem_singleton] at h; subst h; simp
  | c :: r, acc, w, h => by
    cases e : TL.pre [s] (c :: r) with
    | true =>
      rw [TL.spl_hit e] at h
      rcases List.mem_cons.mp h with rfl | h
      · omega
      · have := spl_part_len s r [] w h
        simp at this ⊢
        omega
    | false =>
      rw [TL.spl_miss e] at h
      have := spl_part_len s r (acc ++ [c]) w h
      simp at this ⊢
      omega
theorem words_len (l : List Nat) : (wordsL l).length ≤ 4 * l.length + 1 ∧ ∀ w ∈ wordsL l, w.length ≤ 4 * l.length := by
  have h1 := repl_len (c := 40) (z := [40, 32]) (by decide) l
  have h2 := repl_len (c := 41) (z := [32, 41]) (by decide) (repl 40 [40, 32] l)
  unfold wordsL
  refine ⟨?_, fun w hw => ?_⟩
  · have := spl_cnt 32 (rp l) []
    unfold rp at *
    omega
  · have := spl_part_len 32 (rp l) [] w hw
    unfold rp at *
    simp at this
    omega
theorem words_ne (l : List Nat) : wordsL l ≠ [] := spl_ne 32 _ _
/-! ### the rows that wait, in the store -/
def frD : Fr → List D
  | none => []
  | some (h, ts) => h.d :: ts.map Tm.d
structure WtR (c n : Nat) (s : Store) (q : Nat) (as : List Nat) (stk : List Fr) : Prop where
  at_ : lstAt s q = some (as.reverse.map D.adr)
  fr : Fa2 (fun a f => lstAt s a = some (frD f)) as stk
  nd : (q :: as).Nodup
  lo : ∀ a ∈ q :: as, c ≤ a ∧ a ≠ n
theorem atI_2last {α : Type} (xs : List α) (x y : α) : L2.atI (xs ++ [x, y]) (-2) = some x := by
  unfold L2.atI L2.ixN
  rw [if_neg (by decide), if_pos (by simp; omega)]
  have e : (-2 + ((xs ++ [x, y]).length : Int)).toNat = xs.length := by simp; omega
  show (xs ++ [x, y])[(-2 + ((xs ++ [x, y]).length : Int)).toNat]? = some x
  rw [e]
  simp
theorem low_adrs {n : Nat} : ∀ l : List Nat, (∀ a ∈ l, a < n) → lowDs n (l.map D.adr) = true
  | [], _ => rfl
  | a :: l, h => by
    rw [List.map_cons, lowDs, lowD, decide_eq_true (h a (List.mem_cons_self ..)), low_adrs l fun b hb => h b (List.mem_cons_of_mem _ hb)]
    rfl
theorem frD_noas (f : Fr) : noas (frD f) = true := by
  cases f with
  | none => rfl
  | some p =>
    obtain ⟨h, ts⟩ := p
    unfold frD
    rw [noas, Hd.noa, noas_map Tm.noa ts]
    rfl
theorem Fa2.mono {α β : Type} {R R' : α → β → Prop} {as : List α} {bs : List β} (h : Fa2 R as bs) (i : ∀ a ∈ as, ∀ b, R a b → R' a b) : Fa2 R' as bs := by
  induction h with
  | nil => exact .nil
  | cons x t ih => exact .cons (i _ (List.mem_cons_self ..) _ x) (ih fun a ha => i a (List.mem_cons_of_mem _ ha))
theorem fa2_lt {s : Store} : ∀ {as : List Nat} {stk : List Fr}, Fa2 (fun a f => lstAt s a = some (frD f)) as stk → ∀ a ∈ as, a < s.length
  | _, _, .nil, a, ha => by cases ha
  | _, _, .cons x t, a, ha => by
    rcases List.mem_cons.mp ha with rfl | ha
    · exact lst_lt x
    · exact fa2_lt t a ha
section
variable {c n q : Nat} {s : Store} {as : List Nat} {stk : List Fr}
theorem WtR.lt (h : WtR c n s q as stk) : ∀ a ∈ q :: as, a < s.length := by
  intro a ha
  rcases List.mem_cons.mp ha with rfl | ha
  · exact lst_lt h.at_
  · exact fa2_lt h.fr a ha
theorem WtR.app (h : WtR c n s q as stk) (g : Store) : WtR c n (s ++ g) q as stk := ⟨lst_app h.at_, h.fr.mono fun _ _ _ x => lst_app x, h.nd, h.lo⟩
/-- a row more -/
theorem WtR.push (h : WtR c n s q as stk) (hn : n < s.length) : WtR c n ((s ++ [O.lst []]).set q (O.lst (as.reverse.map D.adr ++ [D.adr s.length]))) q (s.length :: as) (none :: stk) := by
  have hl := h.lt
  have hq := hl q (List.mem_cons_self ..)
  have nd := List.nodup_cons.mp h.nd
  have hc := (h.lo q (List.mem_cons_self ..)).1
  refine ⟨?_, .cons ?_ (h.fr.mono fun a ha _ x => ?_), ?_, ?_⟩
  · rw [lst_set (by simp; omega), List.reverse_cons, List.map_append]; rfl
  · rw [lst_set_ne (by omega)]; exact lst_new
  · rw [lst_set_ne (fun z => nd.1 (by rw [z]; exact ha))]; exact lst_app x
  · refine List.nodup_cons.mpr ⟨fun z => ?_, List.nodup_cons.mpr ⟨fun z => ?_, nd.2⟩⟩
    · rcases List.mem_cons.mp z with e | z
      · omega
      · exact nd.1 z
    · exact absurd (hl _ (List.mem_cons_of_mem _ z)) (Nat.lt_irrefl _)
  · intro a ha
    rcases List.mem_cons.mp ha with rfl | ha
    · exact h.lo a (List.mem_cons_self ..)
    · rcases List.mem_cons.mp ha with rfl | ha
      · exact ⟨by omega, by omega⟩
      · exact h.lo a (List.mem_cons_of_mem _ ha)
/-- the top row is written -/
theorem WtR.top {a : Nat} {f f' : Fr} (h : WtR c n s q (a :: as) (f :: stk)) : WtR c n (s.set a (O.lst (frD f'))) q (a :: as) (f' :: stk) := by
  have hl := h.lt
  have nd := List.nodup_cons.mp h.nd
  have nd2 := List.nodup_cons.mp nd.2
  obtain ⟨x, t⟩ : lstAt s a = some (frD f) ∧ Fa2 (fun a f => lstAt s a = some (frD f)) as stk := by cases h.fr with | cons x t => exact ⟨x, t⟩
  refine ⟨?_, .cons (lst_set (lst_lt x)) (t.mono fun b hb _ y => ?_), h.nd, h.lo⟩
  · rw [lst_set_ne (fun z => nd.1 (by rw [← z]; exact List.mem_cons_self ..))]; exact h.at_
  · rw [lst_set_ne (fun z => nd2.1 (by rw [z]; exact hb))]; exact y
/-- the two top rows are closed -/
theorem WtR.close {a b : Nat} {f f2 f' : Fr} (h : WtR c n s q (a :: b :: as) (f :: f2 :: stk)) (hn : n < s.length) : WtR c n (s.set b (O.lst (frD f')) ++ [O.lst ((b :: as).reverse.map D.adr)]) s.length (b :: as) (f' :: stk) := by
  have hl := h.lt
  have nd := List.nodup_cons.mp (List.nodup_cons.mp h.nd).2
  have nd2 := List.nodup_cons.mp nd.2
  have hc := (h.lo q (List.mem_cons_self ..)).1
  have hq := hl q (List.mem_cons_self ..)
  obtain ⟨y, t⟩ : lstAt s b = some (frD f2) ∧ Fa2 (fun a f => lstAt s a = some (frD f)) as stk := by
    cases h.fr with
    | cons x t => cases t with | cons y t => exact ⟨y, t⟩
  have e : (s.set b (.lst (frD f'))).length = s.length := List.length_set
  refine ⟨?_, .cons ?_ (t.mono fun d hd _ z => ?_), ?_, ?_⟩
  · have := lst_new (st := s.set b (.lst (frD f'))) (xs := (b :: as).reverse.map D.adr)
    rw [e] at this
    exact this
  · exact lst_app (lst_set (lst_lt y))
  · exact lst_app (by rw [lst_set_ne (fun w => nd2.1 (by rw [w]; exact hd))]; exact z)
  · refine List.nodup_cons.mpr ⟨fun z => absurd (hl _ (List.mem_cons_of_mem _ (List.mem_cons_of_mem _ z))) (Nat.lt_irrefl _), nd.2⟩
  · intro d hd
    rcases List.mem_cons.mp hd with rfl | hd
    · exact ⟨by omega, by omega⟩
    · exact h.lo d (List.mem_cons_of_mem _ (List.mem_cons_of_mem _ hd))
end
/-- the rows below the top have a head -/
def LowS (stk : List Fr) : Prop := ∀ f ∈ stk.tail, f ≠ none
theorem step_lowS {stk stk' : List Fr} {w : List Nat} (h : LowS stk) (e : stepW stk w = some stk') : LowS stk' := by
  unfold stepW at e
  cases stk with
  | nil => cases e
  | cons f r =>
    dsimp only at e
    split at e
    · cases f with
      | none => cases e
      | some p =>
        cases e
        intro g hg
        rcases List.mem_cons.mp hg with rfl | hg
        · exact fun z => by cases z
        · exact h g hg
    · split at e
      · split at e
        · cases e
          intro g hg
          exact h g (List.mem_cons_of_mem _ hg)
        · cases e
      · split at e
        · cases e
        · cases e; exact h
        · cases e; exact h
end
end Mi

set_option maxHeartbeats 4000000
namespace Lw
open PySem Mi
open L2 (atI ixN CMul CDivN CPow Key RgOk)
/-! ### the defs as they stand in the text -/
def topS (i : Nat) : Stmt := PySem.Challenge.pw_drivefold_k03_terms_written_and_read.main.body.getD i (.Pass ⟨0, 0, 0, 0⟩)
abbrev i_head_text : Nat := 0
abbrev i_write_term : Nat := 1
abbrev i_number_of : Nat := 2
abbrev i_is_name : Nat := 3
abbrev i_head_of : Nat := 4
abbrev i_closed : Nat := 5
abbrev i_read_term : Nat := 6
abbrev i_l_law_pick : Nat := 7
abbrev i_l_law_same : Nat := 8
abbrev i_l_law_name : Nat := 9
abbrev i_l_law_head : Nat := 10
abbrev i_l_law_pool : Nat := 11
abbrev i_l_law_any : Nat := 12
abbrev i_l_law_deep : Nat := 13
abbrev i_l_law_chain : Nat := 14
abbrev i_l_law_term : Nat := 15
abbrev i_l_law_heads : Nat := 16
abbrev i_l_law_written : Nat := 17
abbrev i_law : Nat := 18
noncomputable section
def b_head_text (C : Calls) : Sx := (sRet (eIf (tTru (eIs .str (eV 0))) (eV 0) (eJs ((eC (.str "?")) :: ((eFmt (eV 0)) :: [])) Str.empty)))
def b_write_term (C : Calls) : Sx := (sSeq (sSet 1 (eLst aNil))
    (sSeq (sSet 2 (eLst (aCons (eV 0) aNil)))
    (sSeq (sWh (tTru (eV 2)) (sSeq (sSet 3 (eMeth tyList mdPop (eV 2) aNil))
    (sIf (tTru (eIs .str (eV 3))) (sExpr (eMeth tyList mdAppend (eV 1) (aCons (eV 3) aNil))) (sSeq (sExpr (eMeth tyList mdAppend (eV 1) (aCons (eCall C i_head_text (aCons (eBin opIx (eV 3) (eC (.int 0))) aNil)) aNil)))
    (sFor (srcSeq (eUn opRev (eBin opIx (eV 3) (eC (.int 1))))) (.nm 4) (sExpr (eMeth tyList mdExtend (eV 2) (aCons (eIf (tTru (eBin opIx (eV 4) (eC (.int 1)))) (eLst (aCons (eC (.str ")")) (aCons (eV 4) (aCons (eC (.str " (")) aNil)))) (eLst (aCons (eV 4) (aCons (eC (.str " ")) aNil)))) aNil))))))))
    (sRet (eMeth tyStr mdJoin (eC (.str "")) (aCons (eV 1) aNil))))))
def b_number_of (C : Calls) : Sx := (sSeq (sIf (tOr (tNot (tOf (eChain opLe opLe (eC (.int 1)) (eBi biLen (aCons (eV 0) aNil)) (eC (.int 4))))) (tNot (tTru (eG (eBi biAll (aCons (eLc (srcStr (eV 0)) (.nm 1) tTrue (eBin opIn (eV 1) (eC (.str "0123456789"))) [1]) aNil)))))) (sRet (eC .non)) sNil)
    (sSeq (sIf (tAnd (tCmp opEq (eBin opIx (eV 0) (eC (.int 0))) (eC (.str "0"))) (tCmp opNe (eV 0) (eC (.str "0")))) (sRet (eC .non)) sNil)
    (sRet (eBi biIntS (aCons (eV 0) aNil)))))
def b_is_name (C : Calls) : Sx := (sSeq (sIf (tOr (tNot (tOf (eChain opLe opLe (eC (.int 1)) (eBi biLen (aCons (eV 0) aNil)) (eC (.int 12))))) (tCmp opNotIn (eBin opIx (eV 0) (eC (.int 0))) (eC (.str "abcdefghijklmnopqrstuvwxyzABCDEFGHIJKLMNOPQRSTUVWXYZ")))) (sRet (eC (.bl false))) sNil)
    (sRet (eG (eBi biAll (aCons (eLc (srcStr (eV 0)) (.nm 1) tTrue (eOr (eBin opIn (eV 1) (eC (.str "abcdefghijklmnopqrstuvwxyzABCDEFGHIJKLMNOPQRSTUVWXYZ"))) (eBin opIn (eV 1) (eC (.str "0123456789")))) [1]) aNil)))))
def b_head_of (C : Calls) : Sx := (sSeq (sIf (tTru (eCall C i_is_name (aCons (eV 0) aNil))) (sRet (eV 0)) sNil)
    (sSeq (sSet 1 (eCall C i_number_of (aCons (eSl (eV 0) (oSo (eC (.int 1))) oNo) aNil)))
    (sSeq (sIf (tOr (tCmp opNe (eSl (eV 0) oNo (oSo (eC (.int 1)))) (eC (.str "?"))) (tCmp opIs (eV 1) (eC .non))) (sRaiseP "BadTerm") sNil)
    (sRet (eV 1)))))
def b_closed (C : Calls) : Sx := (sSeq (sIf (tOr (tCmp opLt (eBi biLen (aCons (eV 0) aNil)) (eC (.int 2))) (tNot (tTru (eBin opIx (eV 0) (eUn opNeg (eC (.int 1))))))) (sRaiseP "BadTerm") sNil)
    (sSeq (sSet 1 (eBin opIx (eV 0) (eUn opNeg (eC (.int 1)))))
    (sSeq (sSet 2 (eBin opIx (eV 0) (eUn opNeg (eC (.int 2)))))
    (sSeq (sExpr (eMeth tyList mdAppend (eV 2) (aCons (eTup (aCons (eBin opIx (eV 1) (eC (.int 0))) (aCons (eBi biTuple (aCons (eSl (eV 1) (oSo (eC (.int 1))) oNo) aNil)) aNil))) aNil)))
    (sRet (eSl (eV 0) oNo (oSo (eUn opNeg (eC (.int 1))))))))))
def b_read_term (C : Calls) : Sx := (sSeq (sSet 1 (eLst (aCons (eLst aNil) aNil)))
    (sSeq (sFor (srcSeq (eMeth tyStr mdSplit (eRepl ")" " )" (eRepl "(" "( " (eV 0))) (aCons (eC (.str " ")) aNil))) (.nm 2) (sIf (tCmp opEq (eV 2) (eC (.str "("))) (sSeq (sIf (tNot (tTru (eBin opIx (eV 1) (eUn opNeg (eC (.int 1)))))) (sRaiseP "BadTerm") sNil)
    (sExpr (eMeth tyList mdAppend (eV 1) (aCons (eLst aNil) aNil)))) (sIf (tCmp opEq (eV 2) (eC (.str ")"))) (sSet 1 (eCall C i_closed (aCons (eV 1) aNil))) (sSeq (sSet 3 (eCall C i_head_of (aCons (eV 2) aNil)))
    (sExpr (eMeth tyList mdAppend (eBin opIx (eV 1) (eUn opNeg (eC (.int 1)))) (aCons (eIf (tTru (eBin opIx (eV 1) (eUn opNeg (eC (.int 1))))) (eTup (aCons (eV 3) (aCons (eTup aNil) aNil))) (eV 3)) aNil)))))))
    (sSeq (sIf (tCmp opNe (eBi biLen (aCons (eV 1) aNil)) (eC (.int 1))) (sRaiseP "BadTerm") sNil)
    (sSeq (sSet 4 (eTup (aCons (eBin opIx (eBin opIx (eV 1) (eC (.int 0))) (eC (.int 0))) (aCons (eBi biTuple (aCons (eSl (eBin opIx (eV 1) (eC (.int 0))) (oSo (eC (.int 1))) oNo) aNil)) aNil))))
    (sSeq (sIf (tCmp opNe (eCall C i_write_term (aCons (eV 4) aNil)) (eV 0)) (sRaiseP "BadTerm") sNil)
    (sRet (eV 4)))))))
def b_l_law_pick (C : Calls) : Sx := (sSeq (sIf (tCmp opGt (eBin opIx (eV 0) (eC (.int 1))) (eC (.int 0))) (sSeq (sSet 3 (eBin opMod (eBi biInt (aCons (eBin opIx (eV 0) (eC (.int 1))) aNil)) (eV 2)))
    (sSeq (sPut (eV 0) (eC (.int 1)) (eBin opDiv (eBin opIx (eV 0) (eC (.int 1))) (eV 2)))
    (sRet (eV 3)))) sNil)
    (sSeq (sSet 4 (eBin opIx (eV 0) (eC (.int 0))))
    (sSeq (sPut (eV 0) (eC (.int 0)) (eBin opAdd (eV 4) (eC (.int 1))))
    (sSeq (sIf (tCmp opLt (eV 4) (eBi biLen (aCons (eV 1) aNil))) (sSeq (sSet 5 (eBi biAbs (aCons (eBi biInt (aCons (eBin opIx (eV 1) (eV 4)) aNil)) aNil)))
    (sSeq (sIf (tCmp opGe (eV 5) (eBin opPow (eC (.int 10)) (eC (.int 18)))) (sSeq (sPut (eV 0) (eC (.int 1)) (eBin opDiv (eV 5) (eV 2)))
    (sRet (eBin opMod (eBi biInt (aCons (eV 5) aNil)) (eV 2)))) sNil)
    (sPut (eV 0) (eC (.int 2)) (eBin opMod (eBi biInt (aCons (eBin opAdd (eBin opAdd (eBin opMul (eBin opIx (eV 0) (eC (.int 2))) (eC (.int 40014))) (eBin opMul (eV 5) (eC (.int 69621)))) (eC (.int 17))) aNil)) (eC (.int 2147483563)))))) sNil)
    (sSeq (sPut (eV 0) (eC (.int 2)) (eBin opMod (eBi biInt (aCons (eBin opAdd (eBin opAdd (eBin opMul (eBin opIx (eV 0) (eC (.int 2))) (eC (.int 48271))) (eBin opMul (eC (.int 11)) (eV 4))) (eC (.int 5))) aNil)) (eC (.int 2147483647))))
    (sRet (eBin opMod (eBi biInt (aCons (eBin opDiv (eBin opMul (eBin opIx (eV 0) (eC (.int 2))) (eBin opIx (eV 0) (eC (.int 2)))) (eC (.int 8191))) aNil)) (eV 2))))))))
def b_l_law_same (C : Calls) : Sx := (sSeq (sIf (tCmp opIs (eV 1) (eC .non)) (sRet (eBin opIs (eV 0) (eC .non))) sNil)
    (sSeq (sIf (tTru (eIs .tuple (eV 1))) (sSeq (sIf (tOr (tNot (tTru (eIs .tuple (eV 0)))) (tCmp opNe (eBi biLen (aCons (eV 0) aNil)) (eBi biLen (aCons (eV 1) aNil)))) (sRet (eC (.bl false))) sNil)
    (sSeq (sFor (srcR1 (aCons (eBi biLen (aCons (eV 1) aNil)) aNil)) (.nm 2) (sIf (tNot (tTru (eCall C i_l_law_same (aCons (eBin opIx (eV 0) (eV 2)) (aCons (eBin opIx (eV 1) (eV 2)) aNil))))) (sRet (eC (.bl false))) sNil))
    (sRet (eC (.bl true))))) sNil)
    (sSeq (sIf (tTru (eIs .int (eV 1))) (sRet (eAnd (eIs .int (eV 0)) (eAnd (eNot (eIs .bool (eV 0))) (eBin opEq (eV 0) (eV 1))))) sNil)
    (sRet (eAnd (eIs .str (eV 0)) (eBin opEq (eV 0) (eV 1)))))))
def b_l_law_name (C : Calls) : Sx := (sSeq (sSet 3 (eC (.str "abcdefghijklmnopqrstuvwxyz")))
    (sSeq (sSet 4 (eBin opAdd (eBin opAdd (eV 3) (eMeth tyStr mdUpper (eV 3) aNil)) (eC (.str "0123456789"))))
    (sSeq (sSet 5 (eBin opAdd (eC (.int 1)) (eCall C i_l_law_pick (aCons (eV 0) (aCons (eV 1) (aCons (eC (.int 3)) aNil))))))
    (sSeq (sIf (tCmp opEq (eV 5) (eC (.int 3))) (sSet 5 (eBin opAdd (eC (.int 1)) (eCall C i_l_law_pick (aCons (eV 0) (aCons (eV 1) (aCons (eC (.int 12)) aNil)))))) sNil)
    (sSeq (sSet 6 (eBin opIx (eBin opIx (eLst (aCons (eV 3) (aCons (eMeth tyStr mdUpper (eV 3) aNil) aNil))) (eBi biInt (aCons (eV 2) aNil))) (eCall C i_l_law_pick (aCons (eV 0) (aCons (eV 1) (aCons (eC (.int 26)) aNil))))))
    (sSeq (sFor (srcR1 (aCons (eBin opSub (eV 5) (eC (.int 1))) aNil)) (.nm 7) (sSet 6 (eBin opAdd (eV 6) (eBin opIx (eV 4) (eCall C i_l_law_pick (aCons (eV 0) (aCons (eV 1) (aCons (eC (.int 62)) aNil))))))))
    (sRet (eV 6))))))))
def b_l_law_head (C : Calls) : Sx := (sSeq (sSet 3 (eCall C i_l_law_pick (aCons (eV 0) (aCons (eV 1) (aCons (eC (.int 8)) aNil)))))
    (sSeq (sIf (tCmp opLt (eV 3) (eC (.int 3))) (sRet (eCall C i_l_law_pick (aCons (eV 0) (aCons (eV 1) (aCons (eBin opIx (eLst (aCons (eC (.int 4)) (aCons (eC (.int 30)) (aCons (eC (.int 10000)) aNil)))) (eV 3)) aNil))))) sNil)
    (sSeq (sIf (tCmp opEq (eV 3) (eC (.int 3))) (sRet (eCall C i_l_law_name (aCons (eV 0) (aCons (eV 1) (aCons (eBin opEq (eCall C i_l_law_pick (aCons (eV 0) (aCons (eV 1) (aCons (eC (.int 2)) aNil)))) (eC (.int 0))) aNil))))) sNil)
    (sRet (eBin opIx (eV 2) (eCall C i_l_law_pick (aCons (eV 0) (aCons (eV 1) (aCons (eBi biLen (aCons (eV 2) aNil)) aNil)))))))))
def b_l_law_pool (C : Calls) : Sx := (sRet (eBin opAdd (eLc (srcR1 (aCons (eC (.int 5)) aNil)) (.nm 2) tTrue (eCall C i_l_law_name (aCons (eV 0) (aCons (eV 1) (aCons (eBin opLt (eV 2) (eC (.int 3))) aNil)))) [2]) (eLst (aCons (eC (.int 0)) (aCons (eC (.int 1)) (aCons (eC (.int 9999)) aNil))))))
def b_l_law_any (C : Calls) : Sx := (sSeq (sPut (eV 0) (eC (.int 3)) (eBin opSub (eBin opIx (eV 0) (eC (.int 3))) (eC (.int 1))))
    (sSeq (sSet 4 (eCall C i_l_law_head (aCons (eV 0) (aCons (eV 1) (aCons (eV 2) aNil)))))
    (sSeq (sSet 5 (eLst aNil))
    (sSeq (sSet 6 (eCall C i_l_law_pick (aCons (eV 0) (aCons (eV 1) (aCons (eBin opIx (eLst (aCons (eC (.int 4)) (aCons (eC (.int 2)) aNil))) (eBi biInt (aCons (eBin opGt (eV 3) (eC (.int 5))) aNil))) aNil)))))
    (sSeq (sFor (srcR1 (aCons (eV 6) aNil)) (.nm 7) (sIf (tAnd (tCmp opGt (eBin opIx (eV 0) (eC (.int 3))) (eC (.int 0))) (tCmp opLt (eV 3) (eC (.int 90)))) (sExpr (eMeth tyList mdAppend (eV 5) (aCons (eCall C i_l_law_any (aCons (eV 0) (aCons (eV 1) (aCons (eV 2) (aCons (eBin opAdd (eV 3) (eC (.int 1))) aNil))))) aNil))) sNil))
    (sRet (eTup (aCons (eV 4) (aCons (eBi biTuple (aCons (eV 5) aNil)) aNil)))))))))
def b_l_law_deep (C : Calls) : Sx := (sSeq (sSet 4 (eTup (aCons (eCall C i_l_law_head (aCons (eV 0) (aCons (eV 1) (aCons (eV 2) aNil)))) (aCons (eTup aNil) aNil))))
    (sSeq (sFor (srcR1 (aCons (eV 3) aNil)) (.nm 5) (sSeq (sSet 6 (eLst (aCons (eV 4) aNil)))
    (sSeq (sIf (tCmp opEq (eCall C i_l_law_pick (aCons (eV 0) (aCons (eV 1) (aCons (eC (.int 4)) aNil)))) (eC (.int 0))) (sExpr (eMeth tyList mdAppend (eV 6) (aCons (eTup (aCons (eCall C i_l_law_head (aCons (eV 0) (aCons (eV 1) (aCons (eV 2) aNil)))) (aCons (eTup aNil) aNil))) aNil))) sNil)
    (sSeq (sIf (tCmp opEq (eCall C i_l_law_pick (aCons (eV 0) (aCons (eV 1) (aCons (eC (.int 8)) aNil)))) (eC (.int 0))) (sSet 6 (eBin opAdd (eLst (aCons (eTup (aCons (eCall C i_l_law_head (aCons (eV 0) (aCons (eV 1) (aCons (eV 2) aNil)))) (aCons (eTup aNil) aNil))) aNil)) (eV 6))) sNil)
    (sSet 4 (eTup (aCons (eCall C i_l_law_head (aCons (eV 0) (aCons (eV 1) (aCons (eV 2) aNil)))) (aCons (eBi biTuple (aCons (eSl (eV 6) oNo (oSo (eC (.int 2)))) aNil)) aNil))))))))
    (sRet (eV 4))))
def b_l_law_chain (C : Calls) : Sx := (sSeq (sSet 4 (eTup (aCons (eCall C i_l_law_head (aCons (eV 0) (aCons (eV 1) (aCons (eV 2) aNil)))) (aCons (eTup aNil) aNil))))
    (sSeq (sFor (srcR1 (aCons (eBin opSub (eV 3) (eC (.int 1))) aNil)) (.nm 5) (sSet 4 (eTup (aCons (eCall C i_l_law_head (aCons (eV 0) (aCons (eV 1) (aCons (eV 2) aNil)))) (aCons (eTup (aCons (eV 4) aNil)) aNil)))))
    (sRet (eV 4))))
def b_l_law_term (C : Calls) : Sx := (sSeq (sIf (tCmp opEq (eCall C i_l_law_pick (aCons (eV 0) (aCons (eV 1) (aCons (eC (.int 10)) aNil)))) (eC (.int 0))) (sRet (eCall C i_l_law_chain (aCons (eV 0) (aCons (eV 1) (aCons (eV 2) (aCons (eBin opAdd (eC (.int 1)) (eCall C i_l_law_pick (aCons (eV 0) (aCons (eV 1) (aCons (eV 3) aNil))))) aNil)))))) sNil)
    (sSeq (sIf (tCmp opEq (eCall C i_l_law_pick (aCons (eV 0) (aCons (eV 1) (aCons (eC (.int 6)) aNil)))) (eC (.int 0))) (sRet (eCall C i_l_law_deep (aCons (eV 0) (aCons (eV 1) (aCons (eV 2) (aCons (eCall C i_l_law_pick (aCons (eV 0) (aCons (eV 1) (aCons (eBin opAdd (eBin opDiv (eBi biInt (aCons (eV 3) aNil)) (eC (.int 3))) (eC (.int 1))) aNil)))) aNil)))))) sNil)
    (sSeq (sPut (eV 0) (eC (.int 3)) (eCall C i_l_law_pick (aCons (eV 0) (aCons (eV 1) (aCons (eV 3) aNil)))))
    (sRet (eCall C i_l_law_any (aCons (eV 0) (aCons (eV 1) (aCons (eV 2) (aCons (eC (.int 0)) aNil)))))))))
def b_l_law_heads (C : Calls) : Sx := (sSeq (sSet 1 (eLst (aCons (eBin opIx (eV 0) (eC (.int 0))) aNil)))
    (sSeq (sFor (srcSeq (eBin opIx (eV 0) (eC (.int 1)))) (.nm 2) (sExpr (eMeth tyList mdExtend (eV 1) (aCons (eCall C i_l_law_heads (aCons (eV 2) aNil)) aNil))))
    (sRet (eV 1))))
def b_l_law_written (C : Calls) : Sx := (sSeq (sSet 1 (eBi biStr (aCons (eBin opIx (eV 0) (eC (.int 0))) aNil)))
    (sSeq (sIf (tTru (eIs .int (eBin opIx (eV 0) (eC (.int 0))))) (sSet 1 (eBin opAdd (eC (.str "?")) (eV 1))) sNil)
    (sSeq (sFor (srcSeq (eBin opIx (eV 0) (eC (.int 1)))) (.nm 2) (sSeq (sSet 3 (eCall C i_l_law_written (aCons (eV 2) aNil)))
    (sSeq (sIf (tCmp opGt (eBi biLen (aCons (eBin opIx (eV 2) (eC (.int 1))) aNil)) (eC (.int 0))) (sSet 3 (eBin opAdd (eBin opAdd (eC (.str "(")) (eV 3)) (eC (.str ")")))) sNil)
    (sSet 1 (eBin opAdd (eBin opAdd (eV 1) (eC (.str " "))) (eV 3))))))
    (sRet (eV 1)))))
def b_law (C : Calls) : Sx := (sSeq (sSet 1 (eLst (aCons (eC (.int 0)) (aCons (eC (.int 0)) (aCons (eC (.int 1)) (aCons (eC (.int 0)) aNil))))))
    (sSeq (sSet 2 (eCall C i_l_law_pool (aCons (eV 1) (aCons (eV 0) aNil))))
    (sSeq (sFor (srcR1 (aCons (eC (.int 3)) aNil)) (.nm 3) (sSeq (sSet 4 (eCall C i_l_law_term (aCons (eV 1) (aCons (eV 0) (aCons (eV 2) (aCons (eC (.int 120)) aNil))))))
    (sSeq (sIf (tCmp opEq (eCall C i_l_law_pick (aCons (eV 1) (aCons (eV 0) (aCons (eC (.int 5)) aNil)))) (eC (.int 0))) (sSet 4 (eCall C i_l_law_deep (aCons (eV 1) (aCons (eV 0) (aCons (eV 2) (aCons (eBin opAdd (eC (.int 40)) (eCall C i_l_law_pick (aCons (eV 1) (aCons (eV 0) (aCons (eC (.int 60)) aNil))))) aNil)))))) sNil)
    (sSeq (sIf (tCmp opEq (eCall C i_l_law_pick (aCons (eV 1) (aCons (eV 0) (aCons (eC (.int 5)) aNil)))) (eC (.int 0))) (sSet 4 (eCall C i_l_law_chain (aCons (eV 1) (aCons (eV 0) (aCons (eV 2) (aCons (eBin opAdd (eC (.int 90)) (eCall C i_l_law_pick (aCons (eV 1) (aCons (eV 0) (aCons (eC (.int 112)) aNil))))) aNil)))))) sNil)
    (sSeq (sSet 5 (eCall C i_l_law_written (aCons (eV 4) aNil)))
    (sSeq (sFor (srcR1 (aCons (eC (.int 200)) aNil)) (.nm 6) (sIf (tCmp opGt (eBi biLen (aCons (eV 5) aNil)) (eC (.int 2000))) (sSeq (sSet 4 (eBin opIx (eBin opIx (eV 4) (eC (.int 1))) (eC (.int 0))))
    (sSet 5 (eCall C i_l_law_written (aCons (eV 4) aNil)))) sNil))
    (sSeq (sIf (tAnd (tCmp opLe (eBi biLen (aCons (eCall C i_l_law_heads (aCons (eV 4) aNil)) aNil)) (eC (.int 100))) (tNot (tTru (eCall C i_l_law_same (aCons (eCall C i_write_term (aCons (eV 4) aNil)) (aCons (eV 5) aNil)))))) (sRet (eC (.bl false))) sNil)
    (sIf (tAnd (tCmp opLe (eBi biLen (aCons (eV 5) aNil)) (eC (.int 2000))) (tNot (tTru (eCall C i_l_law_same (aCons (eCall C i_read_term (aCons (eV 5) aNil)) (aCons (eV 4) aNil)))))) (sRet (eC (.bl false))) sNil))))))))
    (sRet (eC (.bl true))))))
def f_head_text : FnI := { name := "head_text", st := topS 8, ps := ["head"], N := ["head"], body := b_head_text }
def f_write_term : FnI := { name := "write_term", st := topS 9, ps := ["term"], N := ["term", "texts", "left", "item", "argument"], body := b_write_term }
def f_number_of : FnI := { name := "number_of", st := topS 10, ps := ["word"], N := ["word", "char"], body := b_number_of }
def f_is_name : FnI := { name := "is_name", st := topS 11, ps := ["word"], N := ["word", "char"], body := b_is_name }
def f_head_of : FnI := { name := "head_of", st := topS 12, ps := ["word"], N := ["word", "number"], body := b_head_of }
def f_closed : FnI := { name := "closed", st := topS 13, ps := ["waiting"], N := ["waiting", "inner", "outer"], body := b_closed }
def f_read_term : FnI := { name := "read_term", st := topS 14, ps := ["text"], N := ["text", "waiting", "word", "head", "term"], body := b_read_term, hot := true }
def f_l_law_pick : FnI := { name := "_law_pick", st := topS 16, ps := ["_law_state", "_law_script", "_law_many"], N := ["_law_state", "_law_script", "_law_many", "_law_number", "_law_place", "_law_cell"], body := b_l_law_pick }
def f_l_law_same : FnI := { name := "_law_same", st := topS 17, ps := ["_law_actual", "_law_due"], N := ["_law_actual", "_law_due", "_law_k"], body := b_l_law_same }
def f_l_law_name : FnI := { name := "_law_name", st := topS 18, ps := ["_law_state", "_law_script", "_law_large"], N := ["_law_state", "_law_script", "_law_large", "_law_small", "_law_chars", "_law_size", "_law_word", "_law_k"], body := b_l_law_name }
def f_l_law_head : FnI := { name := "_law_head", st := topS 19, ps := ["_law_state", "_law_script", "_law_pool_here"], N := ["_law_state", "_law_script", "_law_pool_here", "_law_choice"], body := b_l_law_head }
def f_l_law_pool : FnI := { name := "_law_pool", st := topS 20, ps := ["_law_state", "_law_script"], N := ["_law_state", "_law_script", "_law_k"], body := b_l_law_pool }
def f_l_law_any : FnI := { name := "_law_any", st := topS 21, ps := ["_law_state", "_law_script", "_law_pool_here", "_law_depth"], N := ["_law_state", "_law_script", "_law_pool_here", "_law_depth", "_law_head_here", "_law_arguments", "_law_many", "_law_k"], body := b_l_law_any }
def f_l_law_deep : FnI := { name := "_law_deep", st := topS 22, ps := ["_law_state", "_law_script", "_law_pool_here", "_law_many"], N := ["_law_state", "_law_script", "_law_pool_here", "_law_many", "_law_term_here", "_law_k", "_law_arguments"], body := b_l_law_deep }
def f_l_law_chain : FnI := { name := "_law_chain", st := topS 23, ps := ["_law_state", "_law_script", "_law_pool_here", "_law_many"], N := ["_law_state", "_law_script", "_law_pool_here", "_law_many", "_law_term_here", "_law_k"], body := b_l_law_chain }
def f_l_law_term : FnI := { name := "_law_term", st := topS 24, ps := ["_law_state", "_law_script", "_law_pool_here", "_law_most"], N := ["_law_state", "_law_script", "_law_pool_here", "_law_most"], body := b_l_law_term }
def f_l_law_heads : FnI := { name := "_law_heads", st := topS 25, ps := ["_law_term_here"], N := ["_law_term_here", "_law_found", "_law_argument"], body := b_l_law_heads }
def f_l_law_written : FnI := { name := "_law_written", st := topS 26, ps := ["_law_term_here"], N := ["_law_term_here", "_law_text", "_law_argument", "_law_part"], body := b_l_law_written }
def f_law : FnI := { name := "law", st := topS 27, ps := ["_law_script"], N := ["_law_script", "_law_state", "_law_pool_here", "_law_k", "_law_term_here", "_law_text", "_law_turn"], body := b_law }
def T : List FnI := [f_head_text, f_write_term, f_number_of, f_is_name, f_head_of, f_closed, f_read_term, f_l_law_pick, f_l_law_same, f_l_law_name, f_l_law_head, f_l_law_pool, f_l_law_any, f_l_law_deep, f_l_law_chain, f_l_law_term, f_l_law_heads, f_l_law_written, f_law]
theorem fb_head_text : f_head_text.body = b_head_text := rfl
theorem fb_write_term : f_write_term.body = b_write_term := rfl
theorem fb_number_of : f_number_of.body = b_number_of := rfl
theorem fb_is_name : f_is_name.body = b_is_name := rfl
theorem fb_head_of : f_head_of.body = b_head_of := rfl
theorem fb_closed : f_closed.body = b_closed := rfl
theorem fb_read_term : f_read_term.body = b_read_term := rfl
theorem fb_l_law_pick : f_l_law_pick.body = b_l_law_pick := rfl
theorem fb_l_law_same : f_l_law_same.body = b_l_law_same := rfl
theorem fb_l_law_name : f_l_law_name.body = b_l_law_name := rfl
theorem fb_l_law_head : f_l_law_head.body = b_l_law_head := rfl
theorem fb_l_law_pool : f_l_law_pool.body = b_l_law_pool := rfl
theorem fb_l_law_any : f_l_law_any.body = b_l_law_any := rfl
theorem fb_l_law_deep : f_l_law_deep.body = b_l_law_deep := rfl
theorem fb_l_law_chain : f_l_law_chain.body = b_l_law_chain := rfl
theorem fb_l_law_term : f_l_law_term.body = b_l_law_term := rfl
theorem fb_l_law_heads : f_l_law_heads.body = b_l_law_heads := rfl
theorem fb_l_law_written : f_l_law_written.body = b_l_law_written := rfl
theorem fb_law : f_law.body = b_law := rfl
theorem T_head_text : T[i_head_text]? = some f_head_text := rfl
theorem T_write_term : T[i_write_term]? = some f_write_term := rfl
theorem T_number_of : T[i_number_of]? = some f_number_of := rfl
theorem T_is_name : T[i_is_name]? = some f_is_name := rfl
theorem T_head_of : T[i_head_of]? = some f_head_of := rfl
theorem T_closed : T[i_closed]? = some f_closed := rfl
theorem T_read_term : T[i_read_term]? = some f_read_term := rfl
theorem T_l_law_pick : T[i_l_law_pick]? = some f_l_law_pick := rfl
theorem T_l_law_same : T[i_l_law_same]? = some f_l_law_same := rfl
theorem T_l_law_name : T[i_l_law_name]? = some f_l_law_name := rfl
theorem T_l_law_head : T[i_l_law_head]? = some f_l_law_head := rfl
theorem T_l_law_pool : T[i_l_law_pool]? = some f_l_law_pool := rfl
theorem T_l_law_any : T[i_l_law_any]? = some f_l_law_any := rfl
theorem T_l_law_deep : T[i_l_law_deep]? = some f_l_law_deep := rfl
theorem T_l_law_chain : T[i_l_law_chain]? = some f_l_law_chain := rfl
theorem T_l_law_term : T[i_l_law_term]? = some f_l_law_term := rfl
theorem T_l_law_heads : T[i_l_law_heads]? = some f_l_law_heads := rfl
theorem T_l_law_written : T[i_l_law_written]? = some f_l_law_written := rfl
theorem T_law : T[i_law]? = some f_law := rfl
end
noncomputable section
open Classical
/-! ### a term written -/
def IntH : Hd → Prop
  | .i v => v.natAbs.log2 < 1920
  | .s _ => True
theorem isS_s {x : Str} {st : Store} : isT .str (.str x) st = some true := rfl
theorem isS_i {x : Int} {st : Store} : isT .str (.int x) st = some false := rfl
theorem isS_t {x : List D} {st : Store} : isT .str (.tup x) st = some false := rfl
theorem q_S : (Str.empty ++ ("?" : Str)) = SX.S [63] := by decide +kernel
theorem S_len2 (a : List Nat) : (SX.S a : Str).length = a.length := SX.S_len a
theorem headtext_spec {k : Nat} {h : Hd} {st : Store} (hk : 1 ≤ k) (hi : IntH h) (hl : (hdL h).length ≤ 16000000) : callK T k i_head_text [h.d] st = .ok (.str (SX.S (hdL h))) st := by
  obtain ⟨k, rfl⟩ : ∃ j, k = j + 1 := ⟨k - 1, by omega⟩
  apply eq_of_wp
  refine call_wp (env := [some h.d]) T_head_text rfl rfl ?_
  rw [fb_head_text, b_head_text]
  cases h with
  | s x =>
    (try simp only [eV, eC, eBin, eUn, aNil, aCons, eTup, eLst, eBi, eMeth, tTru, Mi.tCmp, Mi.tAnd, Mi.tOr, Mi.tNot, eAnd, eOr, eNot, eIf, eChain, tOf, oNo, oSo, eSl, eCall, eIs, sSet, sExpr, sRet, sRetN, sNil, sAsg, sPut, sBrk, sCnt, tTrue, wp_bind, wp_ok, wps_nx, wps_rt, wps_bk, wps_ct, wps_toOut, Rs.bind_ok, Rs.ofO_some, Option.map_some, isB, List.getElem?_cons_zero, List.getElem?_cons_succ, List.set_cons_zero, List.set_cons_succ, decide_eq_true_eq, eq_int, eq_str, Option.map_none, Mi.add_int, Mi.add_str0, Mi.add_tup0, opSub, opNeg, cmpI, opIs, opIsNot, biInt, biAbs, isN, atI_0, atI_1, atI_2, atI_3, Mi.ix_tup, Mi.ix_fro, Out.seq_nx, Out.seq_rt, truD, List.set_set, tgSet, if_true, if_false, List.length_cons, List.length_nil, Nat.zero_add, Nat.reduceAdd, Nat.reduceLeDiff, Bool.false_eq_true, eq_self, decide_true, decide_false, Bool.not_true, Bool.not_false, Int.reduceNeg, eIs, Hd.d, isS_s])
    rw [gc_id rfl]
    exact ⟨by show D.str x = D.str (SX.S x.cps.toList); rw [SX.S_tl], rfl⟩
  | i v =>
    have l1 : (63 :: (toString v : Str).cps.toList).length ≤ 16000000 := hl
    rw [List.length_cons] at l1
    have e0 : (Str.empty ++ ("?" : Str)).length ≤ sizeLine := by rw [q_S]; decide
    have e1 : Str.empty ++ ("?" : Str) ++ (toString v : Str) = SX.S (hdL (.i v)) := by
      rw [q_S]
      have := SX.S_cat [63] (toString v : Str).cps.toList
      rw [SX.S_tl] at this
      exact this
    have e2 : (Str.empty ++ ("?" : Str) ++ (toString v : Str)).length ≤ sizeLine := by
      rw [e1, S_len2, PySem.sizeLine_eq]
      have : (hdL (.i v)).length = (63 :: (toString v : Str).cps.toList).length := rfl
      rw [this, List.length_cons]
      omega
    have hi' : v.natAbs.log2 < 1920 := hi
    (try simp only [eV, eC, eBin, eUn, aNil, aCons, eTup, eLst, eBi, eMeth, tTru, Mi.tCmp, Mi.tAnd, Mi.tOr, Mi.tNot, eAnd, eOr, eNot, eIf, eChain, tOf, oNo, oSo, eSl, eCall, eIs, sSet, sExpr, sRet, sRetN, sNil, sAsg, sPut, sBrk, sCnt, tTrue, wp_bind, wp_ok, wps_nx, wps_rt, wps_bk, wps_ct, wps_toOut, Rs.bind_ok, Rs.ofO_some, Option.map_some, isB, List.getElem?_cons_zero, List.getElem?_cons_succ, List.set_cons_zero, List.set_cons_succ, decide_eq_true_eq, eq_int, eq_str, Option.map_none, Mi.add_int, Mi.add_str0, Mi.add_tup0, opSub, opNeg, cmpI, opIs, opIsNot, biInt, biAbs, isN, atI_0, atI_1, atI_2, atI_3, Mi.ix_tup, Mi.ix_fro, Out.seq_nx, Out.seq_rt, truD, List.set_set, tgSet, if_true, if_false, List.length_cons, List.length_nil, Nat.zero_add, Nat.reduceAdd, Nat.reduceLeDiff, Bool.false_eq_true, eq_self, decide_true, decide_false, Bool.not_true, Bool.not_false, Int.reduceNeg, eIs, Hd.d, isS_i, eJs, eFmt, if_pos e0, if_pos hi', if_pos e2])
    rw [gc_id rfl, e1]
    exact ⟨rfl, rfl⟩
/-- what is still to be written -/
inductive WI where
  | t (u : Tm) | w (x : Str)
def WI.d : WI → D
  | .t u => u.d
  | .w x => .str x
def WI.o : WI → List Nat
  | .t u => wr u
  | .w x => x.cps.toList
def WI.m : WI → Nat
  | .t u => 3 * u.size - 2
  | .w _ => 1
def wis (u : Tm) : List WI := if leafT u = true then [.w " ", .t u] else [.w " (", .t u, .w ")"]
theorem wis_o (u : Tm) : (wis u).flatMap WI.o = if leafT u = true then 32 :: wr u else 32 :: 40 :: (wr u ++ [41]) := by
  unfold wis
  have e1 : (" " : Str).cps.toList = [32] := by decide +kernel
  have e2 : (" (" : Str).cps.toList = [32, 40] := by decide +kernel
  have e3 : (")" : Str).cps.toList = [41] := by decide +kernel
  split <;> simp [WI.o, e1, e2, e3]
theorem wrs_wis : ∀ ts : List Tm, (ts.flatMap wis).flatMap WI.o = wrs ts
  | [] => by rw [wrs_nil]; rfl
  | t :: ts => by
    rw [List.flatMap_cons, List.flatMap_append, wrs_wis ts, wis_o, wrs_cons]
theorem rev_wis : ∀ ts : List Tm, (ts.reverse.flatMap fun u => (wis u).reverse) = (ts.flatMap wis).reverse
  | [] => rfl
  | a :: b => by rw [List.reverse_cons, List.flatMap_append, rev_wis b, List.flatMap_cons]; simp
def wms (l : List WI) : Nat := (l.map WI.m).sum
theorem wms_app (a b : List WI) : wms (a ++ b) = wms a + wms b := by unfold wms; rw [List.map_append, List.sum_append]
theorem wms_wis (u : Tm) : wms (wis u) ≤ 3 * u.size := by
  have := u.size_pos
  unfold wis wms
  split <;> simp [WI.m] <;> omega
theorem wms_args : ∀ ts : List Tm, wms (ts.flatMap wis) ≤ 3 * Tm.sizes ts
  | [] => by simp [wms]
  | t :: ts => by
    rw [List.flatMap_cons, wms_app, Tm.sizes_cons]
    have := wms_wis t
    have := wms_args ts
    omega
theorem wms_len : ∀ l : List WI, l.length ≤ wms l
  | [] => Nat.zero_le _
  | x :: l => by
    have h := wms_len l
    have : 1 ≤ x.m := by
      cases x with
      | t u => have := u.size_pos; unfold WI.m; dsimp only; omega
      | w _ => exact Nat.le_refl _
    unfold wms at h ⊢
    rw [List.map_cons, List.sum_cons, List.length_cons]
    omega
theorem len_flat (ys : List (List Nat)) : ((ys.map SX.S).map (·.length)).sum = ys.flatten.length := by
  rw [SX.lens, List.length_flatten]
theorem join0 : ∀ ys : List (List Nat), TL.joinL [] ys = ys.flatten
  | [] => rfl
  | [a] => by simp [TL.joinL]
  | a :: b :: r => by rw [join_cons (by simp), join0 (b :: r)]; rfl
theorem write_spec {k : Nat} {t : Tm} {st : Store} (hk : 2 ≤ k) (ht : t.size ≤ 10000) (hw : (wr t).length ≤ 16000000) (hi : t.all IntH) : callK T k i_write_term [t.d] st = .ok (.str (SX.S (wr t))) st := by
  obtain ⟨k, rfl⟩ : ∃ j, k = j + 1 := ⟨k - 1, by omega⟩
  apply eq_of_wp
  refine call_wp (env := [some t.d, none, none, none, none]) T_write_term rfl rfl ?_
  rw [fb_write_term, b_write_term]
  refine seq_wp ?_
  (try simp only [eV, eC, eBin, eUn, aNil, aCons, eTup, eLst, eBi, eMeth, tTru, Mi.tCmp, Mi.tAnd, Mi.tOr, Mi.tNot, eAnd, eOr, eNot, eIf, eChain, tOf, oNo, oSo, eSl, eCall, eIs, sSet, sExpr, sRet, sRetN, sNil, sAsg, sPut, sBrk, sCnt, tTrue, wp_bind, wp_ok, wps_nx, wps_rt, wps_bk, wps_ct, wps_toOut, Rs.bind_ok, Rs.ofO_some, Option.map_some, isB, List.getElem?_cons_zero, List.getElem?_cons_succ, List.set_cons_zero, List.set_cons_succ, decide_eq_true_eq, eq_int, eq_str, Option.map_none, Mi.add_int, Mi.add_str0, Mi.add_tup0, opSub, opNeg, cmpI, opIs, opIsNot, biInt, biAbs, isN, atI_0, atI_1, atI_2, atI_3, Mi.ix_tup, Mi.ix_fro, Out.seq_nx, Out.seq_rt, truD, List.set_set, tgSet, if_true, if_false, List.length_cons, List.length_nil, Nat.zero_add, Nat.reduceAdd, Nat.reduceLeDiff, Bool.false_eq_true, eq_self, decide_true, decide_false, Bool.not_true, Bool.not_false, Int.reduceNeg])
  refine seq_wp ?_
  (try simp only [eV, eC, eBin, eUn, aNil, aCons, eTup, eLst, eBi, eMeth, tTru, Mi.tCmp, Mi.tAnd, Mi.tOr, Mi.tNot, eAnd, eOr, eNot, eIf, eChain, tOf, oNo, oSo, eSl, eCall, eIs, sSet, sExpr, sRet, sRetN, sNil, sAsg, sPut, sBrk, sCnt, tTrue, wp_bind, wp_ok, wps_nx, wps_rt, wps_bk, wps_ct, wps_toOut, Rs.bind_ok, Rs.ofO_some, Option.map_some, isB, List.getElem?_cons_zero, List.getElem?_cons_succ, List.set_cons_zero, List.set_cons_succ, decide_eq_true_eq, eq_int, eq_str, Option.map_none, Mi.add_int, Mi.add_str0, Mi.add_tup0, opSub, opNeg, cmpI, opIs, opIsNot, biInt, biAbs, isN, atI_0, atI_1, atI_2, atI_3, Mi.ix_tup, Mi.ix_fro, Out.seq_nx, Out.seq_rt, truD, List.set_set, tgSet, if_true, if_false, List.length_cons, List.length_nil, Nat.zero_add, Nat.reduceAdd, Nat.reduceLeDiff, Bool.false_eq_true, eq_self, decide_true, decide_false, Bool.not_true, Bool.not_false, Int.reduceNeg])
  generalize hn : (st ++ [O.lst ([] : List D)]).length = n2
  have hn2 : n2 = st.length + 1 := by rw [← hn]; simp
  have ne : st.length ≠ n2 := by omega
  have pos := t.size_pos
  refine seq_mid (I := fun env s => ∃ (x y z : Option D) (ys : List (List Nat)), env = [x, some (.adr st.length), some (.adr n2), y, z] ∧ Old st s ∧ lstAt s st.length = some ((ys.map SX.S).map D.str) ∧ ys.flatten = wr t) ?_ ?_
  · refine sWh_wp (I := fun m env s => ∃ (ys : List (List Nat)) (L : List WI) (y z : Option D), m = wms L ∧ env = [some t.d, some (.adr st.length), some (.adr n2), y, z] ∧ Old st s ∧ lstAt s st.length = some ((ys.map SX.S).map D.str) ∧ lstAt s n2 = some (L.reverse.map WI.d) ∧ ys.flatten ++ L.flatMap WI.o = wr t ∧ ys.length + wms L ≤ 3 * t.size ∧ (∀ u, WI.t u ∈ L → u.all IntH ∧ u.size ≤ t.size)) ?_ (wms [.t t]) _ _
      ⟨[], [.t t], none, none, rfl, rfl, (Old.app _ _).trans (Old.app _ _), lst_app lst_new, by rw [← hn, lst_new]; rfl, by simp [WI.o], by simp [wms, WI.m], fun u hu => by simp at hu; subst hu; exact ⟨hi, Nat.le_refl _⟩⟩
    rintro m _ s ⟨ys, L, y, z, rfl, rfl, o, q1, q2, e, lz, hL⟩
    have q2' := lstAt_iff.mp q2
    (try simp only [eV, eC, eBin, eUn, aNil, aCons, eTup, eLst, eBi, eMeth, tTru, Mi.tCmp, Mi.tAnd, Mi.tOr, Mi.tNot, eAnd, eOr, eNot, eIf, eChain, tOf, oNo, oSo, eSl, eCall, eIs, sSet, sExpr, sRet, sRetN, sNil, sAsg, sPut, sBrk, sCnt, tTrue, wp_bind, wp_ok, wps_nx, wps_rt, wps_bk, wps_ct, wps_toOut, Rs.bind_ok, Rs.ofO_some, Option.map_some, isB, List.getElem?_cons_zero, List.getElem?_cons_succ, List.set_cons_zero, List.set_cons_succ, decide_eq_true_eq, eq_int, eq_str, Option.map_none, Mi.add_int, Mi.add_str0, Mi.add_tup0, opSub, opNeg, cmpI, opIs, opIsNot, biInt, biAbs, isN, atI_0, atI_1, atI_2, atI_3, Mi.ix_tup, Mi.ix_fro, Out.seq_nx, Out.seq_rt, truD, List.set_set, tgSet, if_true, if_false, List.length_cons, List.length_nil, Nat.zero_add, Nat.reduceAdd, Nat.reduceLeDiff, Bool.false_eq_true, eq_self, decide_true, decide_false, Bool.not_true, Bool.not_false, Int.reduceNeg, q2', Option.some.injEq])
    cases L with
    | nil =>
      rw [if_neg (by simp)]
      rw [List.flatMap_nil, List.append_nil] at e
      exact ⟨_, _, _, ys, rfl, o, q1, e⟩
    | cons w L =>
      rw [if_pos (by simp)]
      have hwm : wms (w :: L) = w.m + wms L := by unfold wms; rw [List.map_cons, List.sum_cons]
      rw [hwm] at lz
      have q3 : lstAt s n2 = some (L.reverse.map WI.d ++ [w.d]) := by rw [q2, List.reverse_cons, List.map_append]; rfl
      have q4 : lstAt (s.set n2 (.lst (L.reverse.map WI.d))) st.length = some ((ys.map SX.S).map D.str) := by rw [lst_set_ne (Ne.symm ne)]; exact q1
      have q5 : lstAt (s.set n2 (.lst (L.reverse.map WI.d))) n2 = some (L.reverse.map WI.d) := lst_set (lst_lt q2)
      have o4 := o.set (n := n2) (o := .lst (L.reverse.map WI.d)) (by omega)
      have szy : ((ys.map SX.S).map D.str).length < sizeLine := by rw [List.length_map, List.length_map, PySem.sizeLine_eq]; omega
      rw [List.flatMap_cons] at e
      have hwl : (w.o).length ≤ (wr t).length := by rw [← e]; simp; omega
      refine seq_wp ?_
      (try simp only [eV, eC, eBin, eUn, aNil, aCons, eTup, eLst, eBi, eMeth, tTru, Mi.tCmp, Mi.tAnd, Mi.tOr, Mi.tNot, eAnd, eOr, eNot, eIf, eChain, tOf, oNo, oSo, eSl, eCall, eIs, sSet, sExpr, sRet, sRetN, sNil, sAsg, sPut, sBrk, sCnt, tTrue, wp_bind, wp_ok, wps_nx, wps_rt, wps_bk, wps_ct, wps_toOut, Rs.bind_ok, Rs.ofO_some, Option.map_some, isB, List.getElem?_cons_zero, List.getElem?_cons_succ, List.set_cons_zero, List.set_cons_succ, decide_eq_true_eq, eq_int, eq_str, Option.map_none, Mi.add_int, Mi.add_str0, Mi.add_tup0, opSub, opNeg, cmpI, opIs, opIsNot, biInt, biAbs, isN, atI_0, atI_1, atI_2, atI_3, Mi.ix_tup, Mi.ix_fro, Out.seq_nx, Out.seq_rt, truD, List.set_set, tgSet, if_true, if_false, List.length_cons, List.length_nil, Nat.zero_add, Nat.reduceAdd, Nat.reduceLeDiff, Bool.false_eq_true, eq_self, decide_true, decide_false, Bool.not_true, Bool.not_false, Int.reduceNeg, ty_lst q3, pop_l q3, setAll])
      generalize s.set n2 (O.lst (L.reverse.map WI.d)) = s4 at q4 q5 o4 ⊢
      cases w with
      | w x =>
        refine sIf_tt (s := s4) (by (try simp only [eV, eC, eBin, eUn, aNil, aCons, eTup, eLst, eBi, eMeth, tTru, Mi.tCmp, Mi.tAnd, Mi.tOr, Mi.tNot, eAnd, eOr, eNot, eIf, eChain, tOf, oNo, oSo, eSl, eCall, eIs, sSet, sExpr, sRet, sRetN, sNil, sAsg, sPut, sBrk, sCnt, tTrue, wp_bind, wp_ok, wps_nx, wps_rt, wps_bk, wps_ct, wps_toOut, Rs.bind_ok, Rs.ofO_some, Option.map_some, isB, List.getElem?_cons_zero, List.getElem?_cons_succ, List.set_cons_zero, List.set_cons_succ, decide_eq_true_eq, eq_int, eq_str, Option.map_none, Mi.add_int, Mi.add_str0, Mi.add_tup0, opSub, opNeg, cmpI, opIs, opIsNot, biInt, biAbs, isN, atI_0, atI_1, atI_2, atI_3, Mi.ix_tup, Mi.ix_fro, Out.seq_nx, Out.seq_rt, truD, List.set_set, tgSet, if_true, if_false, List.length_cons, List.length_nil, Nat.zero_add, Nat.reduceAdd, Nat.reduceLeDiff, Bool.false_eq_true, eq_self, decide_true, decide_false, Bool.not_true, Bool.not_false, Int.reduceNeg, WI.d, eIs, isS_s])) ?_
        (try simp only [eV, eC, eBin, eUn, aNil, aCons, eTup, eLst, eBi, eMeth, tTru, Mi.tCmp, Mi.tAnd, Mi.tOr, Mi.tNot, eAnd, eOr, eNot, eIf, eChain, tOf, oNo, oSo, eSl, eCall, eIs, sSet, sExpr, sRet, sRetN, sNil, sAsg, sPut, sBrk, sCnt, tTrue, wp_bind, wp_ok, wps_nx, wps_rt, wps_bk, wps_ct, wps_toOut, Rs.bind_ok, Rs.ofO_some, Option.map_some, isB, List.getElem?_cons_zero, List.getElem?_cons_succ, List.set_cons_zero, List.set_cons_succ, decide_eq_true_eq, eq_int, eq_str, Option.map_none, Mi.add_int, Mi.add_str0, Mi.add_tup0, opSub, opNeg, cmpI, opIs, opIsNot, biInt, biAbs, isN, atI_0, atI_1, atI_2, atI_3, Mi.ix_tup, Mi.ix_fro, Out.seq_nx, Out.seq_rt, truD, List.set_set, tgSet, if_true, if_false, List.length_cons, List.length_nil, Nat.zero_add, Nat.reduceAdd, Nat.reduceLeDiff, Bool.false_eq_true, eq_self, decide_true, decide_false, Bool.not_true, Bool.not_false, Int.reduceNeg, WI.d, ty_lst q4, app_lst q4 szy])
        have q7 : lstAt (s4.set st.length (.lst ((ys.map SX.S).map D.str ++ [D.str x]))) st.length = some (((ys ++ [x.cps.toList]).map SX.S).map D.str) := by
          rw [lst_set (lst_lt q4), List.map_append, List.map_append, List.map_singleton, List.map_singleton, SX.S_tl]
        exact ⟨wms L, by rw [hwm]; have : (WI.w x).m = 1 := rfl; omega, ys ++ [x.cps.toList], L, _, _, rfl, rfl, o4.set (Nat.le_refl _), q7, by rw [lst_set_ne ne]; exact q5, by rw [← e]; simp [WI.o], by rw [List.length_append, List.length_singleton]; have : (WI.w x).m = 1 := rfl; omega, fun u hu => hL u (List.mem_cons_of_mem _ hu)⟩
      | t u =>
        cases u with
        | mk h ts =>
        obtain ⟨ha, hz⟩ := hL (.mk h ts) (List.mem_cons_self ..)
        rw [Tm.all_mk] at ha
        rw [Tm.size_mk] at hz
        have hm : (WI.t (.mk h ts)).m = 3 * (Tm.sizes ts + 1) - 2 := by show 3 * (Tm.mk h ts).size - 2 = _; rw [Tm.size_mk]
        rw [hm] at lz
        have ho : (WI.t (.mk h ts)).o = hdL h ++ wrs ts := by show wr (.mk h ts) = _; rw [wr_mk]
        rw [ho, List.length_append] at hwl
        rw [ho] at e
        have eh := headtext_spec (k := k) (h := h) (st := s4) (by omega) ha.1 (by omega)
        have td : (WI.t (.mk h ts)).d = .tup [h.d, .tup (Tm.ds ts)] := by show (Tm.mk h ts).d = _; rw [Tm.d_mk]
        rw [td]
        refine sIf_ff (s := s4) (by (try simp only [eV, eC, eBin, eUn, aNil, aCons, eTup, eLst, eBi, eMeth, tTru, Mi.tCmp, Mi.tAnd, Mi.tOr, Mi.tNot, eAnd, eOr, eNot, eIf, eChain, tOf, oNo, oSo, eSl, eCall, eIs, sSet, sExpr, sRet, sRetN, sNil, sAsg, sPut, sBrk, sCnt, tTrue, wp_bind, wp_ok, wps_nx, wps_rt, wps_bk, wps_ct, wps_toOut, Rs.bind_ok, Rs.ofO_some, Option.map_some, isB, List.getElem?_cons_zero, List.getElem?_cons_succ, List.set_cons_zero, List.set_cons_succ, decide_eq_true_eq, eq_int, eq_str, Option.map_none, Mi.add_int, Mi.add_str0, Mi.add_tup0, opSub, opNeg, cmpI, opIs, opIsNot, biInt, biAbs, isN, atI_0, atI_1, atI_2, atI_3, Mi.ix_tup, Mi.ix_fro, Out.seq_nx, Out.seq_rt, truD, List.set_set, tgSet, if_true, if_false, List.length_cons, List.length_nil, Nat.zero_add, Nat.reduceAdd, Nat.reduceLeDiff, Bool.false_eq_true, eq_self, decide_true, decide_false, Bool.not_true, Bool.not_false, Int.reduceNeg, eIs, isS_t])) ?_
        refine seq_wp ?_
        (try simp only [eV, eC, eBin, eUn, aNil, aCons, eTup, eLst, eBi, eMeth, tTru, Mi.tCmp, Mi.tAnd, Mi.tOr, Mi.tNot, eAnd, eOr, eNot, eIf, eChain, tOf, oNo, oSo, eSl, eCall, eIs, sSet, sExpr, sRet, sRetN, sNil, sAsg, sPut, sBrk, sCnt, tTrue, wp_bind, wp_ok, wps_nx, wps_rt, wps_bk, wps_ct, wps_toOut, Rs.bind_ok, Rs.ofO_some, Option.map_some, isB, List.getElem?_cons_zero, List.getElem?_cons_succ, List.set_cons_zero, List.set_cons_succ, decide_eq_true_eq, eq_int, eq_str, Option.map_none, Mi.add_int, Mi.add_str0, Mi.add_tup0, opSub, opNeg, cmpI, opIs, opIsNot, biInt, biAbs, isN, atI_0, atI_1, atI_2, atI_3, Mi.ix_tup, Mi.ix_fro, Out.seq_nx, Out.seq_rt, truD, List.set_set, tgSet, if_true, if_false, List.length_cons, List.length_nil, Nat.zero_add, Nat.reduceAdd, Nat.reduceLeDiff, Bool.false_eq_true, eq_self, decide_true, decide_false, Bool.not_true, Bool.not_false, Int.reduceNeg, eh, ty_lst q4, app_lst q4 szy])
        have q6 : lstAt (s4.set st.length (.lst ((ys.map SX.S).map D.str ++ [D.str (SX.S (hdL h))]))) n2 = some (L.reverse.map WI.d) := by rw [lst_set_ne ne]; exact q5
        have q7 : lstAt (s4.set st.length (.lst ((ys.map SX.S).map D.str ++ [D.str (SX.S (hdL h))]))) st.length = some (((ys ++ [hdL h]).map SX.S).map D.str) := by
          rw [lst_set (lst_lt q4), List.map_append, List.map_append]; rfl
        have o5 := o4.set (n := st.length) (o := .lst ((ys.map SX.S).map D.str ++ [D.str (SX.S (hdL h))])) (Nat.le_refl _)
        generalize s4.set st.length (O.lst ((ys.map SX.S).map D.str ++ [D.str (SX.S (hdL h))])) = s5 at q6 q7 o5 ⊢
        have al := wms_args ts
        have lt := wms_len (ts.flatMap wis)
        have lL := wms_len L
        refine for_wp (as := ts.reverse) (enc := Tm.d) (g := none) (st0 := s5)
          (fun dn rs env s => ∃ z, env = [some t.d, some (.adr st.length), some (.adr n2), some (.tup [h.d, .tup (Tm.ds ts)]), z] ∧ Old st s ∧ lstAt s st.length = some (((ys ++ [hdL h]).map SX.S).map D.str) ∧ lstAt s n2 = some ((L.reverse ++ (dn.flatMap fun u => (wis u).reverse)).map WI.d))
          (src_tup (by (try simp only [eV, eC, eBin, eUn, aNil, aCons, eTup, eLst, eBi, eMeth, tTru, Mi.tCmp, Mi.tAnd, Mi.tOr, Mi.tNot, eAnd, eOr, eNot, eIf, eChain, tOf, oNo, oSo, eSl, eCall, eIs, sSet, sExpr, sRet, sRetN, sNil, sAsg, sPut, sBrk, sCnt, tTrue, wp_bind, wp_ok, wps_nx, wps_rt, wps_bk, wps_ct, wps_toOut, Rs.bind_ok, Rs.ofO_some, Option.map_some, isB, List.getElem?_cons_zero, List.getElem?_cons_succ, List.set_cons_zero, List.set_cons_succ, decide_eq_true_eq, eq_int, eq_str, Option.map_none, Mi.add_int, Mi.add_str0, Mi.add_tup0, opSub, opNeg, cmpI, opIs, opIsNot, biInt, biAbs, isN, atI_0, atI_1, atI_2, atI_3, Mi.ix_tup, Mi.ix_fro, Out.seq_nx, Out.seq_rt, truD, List.set_set, tgSet, if_true, if_false, List.length_cons, List.length_nil, Nat.zero_add, Nat.reduceAdd, Nat.reduceLeDiff, Bool.false_eq_true, eq_self, decide_true, decide_false, Bool.not_true, Bool.not_false, Int.reduceNeg, rev_t, Tm.ds_map]); rw [List.map_reverse])) ⟨_, rfl, o5, q7, by rw [q6]; simp⟩ (fun n z => by cases z) ?_ ?_
        · rintro dn u rs _ s hd ⟨z, rfl, o6, r1, r2⟩
          refine ⟨_, rfl, ?_⟩
          have hsz : wms ((dn.flatMap fun u => (wis u).reverse)) + wms (wis u) ≤ 3 * Tm.sizes ts := by
            have e1 : ts = (rs.reverse ++ [u]) ++ dn.reverse := by
              have := congrArg List.reverse hd
              rw [List.reverse_reverse] at this
              rw [this]; simp
            have e2 : wms (dn.flatMap fun u => (wis u).reverse) = wms (dn.reverse.flatMap wis) := by
              unfold wms
              clear hd r2 e1
              induction dn with
              | nil => rfl
              | cons a b ih =>
                rw [List.flatMap_cons, List.map_append, List.sum_append, ih, List.reverse_cons, List.flatMap_append, List.map_append, List.sum_append]
                simp
                omega
            rw [e2]
            refine Nat.le_trans ?_ al
            rw [e1, List.flatMap_append, List.flatMap_append, wms_app, wms_app]
            simp
            omega
          have l1 := wms_len (dn.flatMap fun u => (wis u).reverse)
          have l2 := wms_len (wis u)
          have ex : ∀ (s' : Store) (p : Nat) (_ : lstAt s' p = some ((wis u).reverse.map WI.d)) (_ : lstAt s' n2 = some ((L.reverse ++ (dn.flatMap fun u => (wis u).reverse)).map WI.d)), mdExtend (.adr n2) [.adr p] s' = some (.non, s'.set n2 (.lst ((L.reverse ++ ((dn ++ [u]).flatMap fun u => (wis u).reverse)).map WI.d))) := fun s' p hp hn => by
            have := ext_lst hn hp (by rw [List.length_map, List.length_map, List.length_append, List.length_reverse, List.length_reverse, PySem.sizeLine_eq]; omega)
            rw [this, List.flatMap_append]
            simp
          have fin : ∀ (s' : Store) (p : Nat), Old s s' → (∃ z : Option D, (some u.d) = z) → lstAt s' st.length = some (((ys ++ [hdL h]).map SX.S).map D.str) → lstAt s' n2 = some ((L.reverse ++ (dn.flatMap fun u => (wis u).reverse)).map WI.d) →
              ∃ z, [some t.d, some (.adr st.length), some (.adr n2), some (D.tup [h.d, .tup (Tm.ds ts)]), some u.d] = [some t.d, some (.adr st.length), some (.adr n2), some (D.tup [h.d, .tup (Tm.ds ts)]), z] ∧ Old st (s'.set n2 (.lst ((L.reverse ++ ((dn ++ [u]).flatMap fun u => (wis u).reverse)).map WI.d))) ∧ lstAt (s'.set n2 (.lst ((L.reverse ++ ((dn ++ [u]).flatMap fun u => (wis u).reverse)).map WI.d))) st.length = some (((ys ++ [hdL h]).map SX.S).map D.str) ∧ lstAt (s'.set n2 (.lst ((L.reverse ++ ((dn ++ [u]).flatMap fun u => (wis u).reverse)).map WI.d))) n2 = some ((L.reverse ++ ((dn ++ [u]).flatMap fun u => (wis u).reverse)).map WI.d) := fun s' p oo _ a1 a2 =>
            ⟨_, rfl, (o6.trans oo).set (by omega), by rw [lst_set_ne (Ne.symm ne)]; exact a1, lst_set (lst_lt a2)⟩
          by_cases hl : leafT u = true
          · have eu : (wis u).reverse.map WI.d = [u.d, .str " "] := by unfold wis; rw [if_pos hl]; rfl
            have tr : eBin opIx (eV 4) (eC (.int 1)) [some t.d, some (.adr st.length), some (.adr n2), some (.tup [h.d, .tup (Tm.ds ts)]), some u.d] s = .ok (.tup []) s := by
              cases u with
              | mk g us =>
                have : us = [] := by simpa [leafT] using hl
                subst this
                rw [Tm.d_mk, Tm.ds_nil]
                (try simp only [eV, eC, eBin, eUn, aNil, aCons, eTup, eLst, eBi, eMeth, tTru, Mi.tCmp, Mi.tAnd, Mi.tOr, Mi.tNot, eAnd, eOr, eNot, eIf, eChain, tOf, oNo, oSo, eSl, eCall, eIs, sSet, sExpr, sRet, sRetN, sNil, sAsg, sPut, sBrk, sCnt, tTrue, wp_bind, wp_ok, wps_nx, wps_rt, wps_bk, wps_ct, wps_toOut, Rs.bind_ok, Rs.ofO_some, Option.map_some, isB, List.getElem?_cons_zero, List.getElem?_cons_succ, List.set_cons_zero, List.set_cons_succ, decide_eq_true_eq, eq_int, eq_str, Option.map_none, Mi.add_int, Mi.add_str0, Mi.add_tup0, opSub, opNeg, cmpI, opIs, opIsNot, biInt, biAbs, isN, atI_0, atI_1, atI_2, atI_3, Mi.ix_tup, Mi.ix_fro, Out.seq_nx, Out.seq_rt, truD, List.set_set, tgSet, if_true, if_false, List.length_cons, List.length_nil, Nat.zero_add, Nat.reduceAdd, Nat.reduceLeDiff, Bool.false_eq_true, eq_self, decide_true, decide_false, Bool.not_true, Bool.not_false, Int.reduceNeg])
            have h1 : lstAt (s ++ [O.lst [u.d, .str " "]]) s.length = some ((wis u).reverse.map WI.d) := by rw [eu]; exact lst_new
            have h2 := lst_app (g := [O.lst [u.d, .str " "]]) r2
            have key : eIf (tTru (eBin opIx (eV 4) (eC (.int 1)))) (eLst (aCons (eC (.str ")")) (aCons (eV 4) (aCons (eC (.str " (")) aNil)))) (eLst (aCons (eV 4) (aCons (eC (.str " ")) aNil))) [some t.d, some (.adr st.length), some (.adr n2), some (.tup [h.d, .tup (Tm.ds ts)]), some u.d] s = .ok (.adr s.length) (s ++ [O.lst [u.d, .str " "]]) := by
              unfold eIf tTru
              rw [tr]
              rfl
            refine expr_of (d := .non) (meth_of (a := .adr n2) (s1 := s) (as := [.adr s.length]) (s2 := s ++ [O.lst [u.d, .str " "]]) (by (try simp only [eV, eC, eBin, eUn, aNil, aCons, eTup, eLst, eBi, eMeth, tTru, Mi.tCmp, Mi.tAnd, Mi.tOr, Mi.tNot, eAnd, eOr, eNot, eIf, eChain, tOf, oNo, oSo, eSl, eCall, eIs, sSet, sExpr, sRet, sRetN, sNil, sAsg, sPut, sBrk, sCnt, tTrue, wp_bind, wp_ok, wps_nx, wps_rt, wps_bk, wps_ct, wps_toOut, Rs.bind_ok, Rs.ofO_some, Option.map_some, isB, List.getElem?_cons_zero, List.getElem?_cons_succ, List.set_cons_zero, List.set_cons_succ, decide_eq_true_eq, eq_int, eq_str, Option.map_none, Mi.add_int, Mi.add_str0, Mi.add_tup0, opSub, opNeg, cmpI, opIs, opIsNot, biInt, biAbs, isN, atI_0, atI_1, atI_2, atI_3, Mi.ix_tup, Mi.ix_fro, Out.seq_nx, Out.seq_rt, truD, List.set_set, tgSet, if_true, if_false, List.length_cons, List.length_nil, Nat.zero_add, Nat.reduceAdd, Nat.reduceLeDiff, Bool.false_eq_true, eq_self, decide_true, decide_false, Bool.not_true, Bool.not_false, Int.reduceNeg])) (ty_lst r2) (arg1_of key) (ex _ _ h1 h2)) ?_
            exact fin _ 0 (Old.app _ _) ⟨_, rfl⟩ (lst_app r1) h2
          · have eu : (wis u).reverse.map WI.d = [.str ")", u.d, .str " ("] := by unfold wis; rw [if_neg hl]; rfl
            have tr : ∃ ds, eBin opIx (eV 4) (eC (.int 1)) [some t.d, some (.adr st.length), some (.adr n2), some (.tup [h.d, .tup (Tm.ds ts)]), some u.d] s = .ok (.tup ds) s ∧ ds ≠ [] := by
              cases u with
              | mk g us =>
                refine ⟨Tm.ds us, ?_, fun z => hl ?_⟩
                · rw [Tm.d_mk]
                  (try simp only [eV, eC, eBin, eUn, aNil, aCons, eTup, eLst, eBi, eMeth, tTru, Mi.tCmp, Mi.tAnd, Mi.tOr, Mi.tNot, eAnd, eOr, eNot, eIf, eChain, tOf, oNo, oSo, eSl, eCall, eIs, sSet, sExpr, sRet, sRetN, sNil, sAsg, sPut, sBrk, sCnt, tTrue, wp_bind, wp_ok, wps_nx, wps_rt, wps_bk, wps_ct, wps_toOut, Rs.bind_ok, Rs.ofO_some, Option.map_some, isB, List.getElem?_cons_zero, List.getElem?_cons_succ, List.set_cons_zero, List.set_cons_succ, decide_eq_true_eq, eq_int, eq_str, Option.map_none, Mi.add_int, Mi.add_str0, Mi.add_tup0, opSub, opNeg, cmpI, opIs, opIsNot, biInt, biAbs, isN, atI_0, atI_1, atI_2, atI_3, Mi.ix_tup, Mi.ix_fro, Out.seq_nx, Out.seq_rt, truD, List.set_set, tgSet, if_true, if_false, List.length_cons, List.length_nil, Nat.zero_add, Nat.reduceAdd, Nat.reduceLeDiff, Bool.false_eq_true, eq_self, decide_true, decide_false, Bool.not_true, Bool.not_false, Int.reduceNeg])
                · cases us with
                  | nil => rfl
                  | cons a b => rw [Tm.ds_cons] at z; cases z
            obtain ⟨ds, tr, dne⟩ := tr
            have h1 : lstAt (s ++ [O.lst [.str ")", u.d, .str " ("]]) s.length = some ((wis u).reverse.map WI.d) := by rw [eu]; exact lst_new
            have h2 := lst_app (g := [O.lst [.str ")", u.d, .str " ("]]) r2
            have key : eIf (tTru (eBin opIx (eV 4) (eC (.int 1)))) (eLst (aCons (eC (.str ")")) (aCons (eV 4) (aCons (eC (.str " (")) aNil)))) (eLst (aCons (eV 4) (aCons (eC (.str " ")) aNil))) [some t.d, some (.adr st.length), some (.adr n2), some (.tup [h.d, .tup (Tm.ds ts)]), some u.d] s = .ok (.adr s.length) (s ++ [O.lst [.str ")", u.d, .str " ("]]) := by
              unfold eIf tTru
              rw [tr]
              cases ds with
              | nil => exact absurd rfl dne
              | cons a b => rfl
            refine expr_of (d := .non) (meth_of (a := .adr n2) (s1 := s) (as := [.adr s.length]) (s2 := s ++ [O.lst [.str ")", u.d, .str " ("]]) (by (try simp only [eV, eC, eBin, eUn, aNil, aCons, eTup, eLst, eBi, eMeth, tTru, Mi.tCmp, Mi.tAnd, Mi.tOr, Mi.tNot, eAnd, eOr, eNot, eIf, eChain, tOf, oNo, oSo, eSl, eCall, eIs, sSet, sExpr, sRet, sRetN, sNil, sAsg, sPut, sBrk, sCnt, tTrue, wp_bind, wp_ok, wps_nx, wps_rt, wps_bk, wps_ct, wps_toOut, Rs.bind_ok, Rs.ofO_some, Option.map_some, isB, List.getElem?_cons_zero, List.getElem?_cons_succ, List.set_cons_zero, List.set_cons_succ, decide_eq_true_eq, eq_int, eq_str, Option.map_none, Mi.add_int, Mi.add_str0, Mi.add_tup0, opSub, opNeg, cmpI, opIs, opIsNot, biInt, biAbs, isN, atI_0, atI_1, atI_2, atI_3, Mi.ix_tup, Mi.ix_fro, Out.seq_nx, Out.seq_rt, truD, List.set_set, tgSet, if_true, if_false, List.length_cons, List.length_nil, Nat.zero_add, Nat.reduceAdd, Nat.reduceLeDiff, Bool.false_eq_true, eq_self, decide_true, decide_false, Bool.not_true, Bool.not_false, Int.reduceNeg])) (ty_lst r2) (arg1_of key) (ex _ _ h1 h2)) ?_
            exact fin _ 0 (Old.app _ _) ⟨_, rfl⟩ (lst_app r1) h2
        · rintro _ s ⟨z, rfl, o6, r1, r2⟩
          have er : L.reverse ++ (ts.reverse.flatMap fun u => (wis u).reverse) = (ts.flatMap wis ++ L).reverse := by
            rw [List.reverse_append, rev_wis]
          rw [er] at r2
          refine ⟨wms (ts.flatMap wis ++ L), by rw [wms_app, hwm, hm]; omega, ys ++ [hdL h], ts.flatMap wis ++ L, _, _, rfl, rfl, o6, r1, r2, ?_, ?_, ?_⟩
          · rw [List.flatMap_append, wrs_wis, ← e]; simp
          · rw [List.length_append, wms_app]; simp; omega
          · intro u hu
            rcases List.mem_append.mp hu with hu | hu
            · obtain ⟨v, hv, hu⟩ := List.mem_flatMap.mp hu
              have : u = v := by
                unfold wis at hu
                split at hu <;> simp at hu <;> exact hu
              subst this
              exact ⟨Tm.alls_iff.mp ha.2 u hv, by have := Tm.size_mem hv; omega⟩
            · exact hL u (List.mem_cons_of_mem _ hu)
  · rintro _ s ⟨x, y, z, ys, rfl, o, q, e⟩
    have hj : mdJoin (.str "") [.adr st.length] s = some (.str (SX.S (wr t)), s) := by
      unfold mdJoin joinTo
      dsimp only
      rw [q]
      dsimp only
      rw [strsD_map]
      dsimp only
      have e0 : ("" : Str) = SX.S [] := by decide +kernel
      rw [len_flat, e, e0, S_len2, if_pos (by simp; omega), SX.join_S, join0, e]
    (try simp only [eV, eC, eBin, eUn, aNil, aCons, eTup, eLst, eBi, eMeth, tTru, Mi.tCmp, Mi.tAnd, Mi.tOr, Mi.tNot, eAnd, eOr, eNot, eIf, eChain, tOf, oNo, oSo, eSl, eCall, eIs, sSet, sExpr, sRet, sRetN, sNil, sAsg, sPut, sBrk, sCnt, tTrue, wp_bind, wp_ok, wps_nx, wps_rt, wps_bk, wps_ct, wps_toOut, Rs.bind_ok, Rs.ofO_some, Option.map_some, isB, List.getElem?_cons_zero, List.getElem?_cons_succ, List.set_cons_zero, List.set_cons_succ, decide_eq_true_eq, eq_int, eq_str, Option.map_none, Mi.add_int, Mi.add_str0, Mi.add_tup0, opSub, opNeg, cmpI, opIs, opIsNot, biInt, biAbs, isN, atI_0, atI_1, atI_2, atI_3, Mi.ix_tup, Mi.ix_fro, Out.seq_nx, Out.seq_rt, truD, List.set_set, tgSet, if_true, if_false, List.length_cons, List.length_nil, Nat.zero_add, Nat.reduceAdd, Nat.reduceLeDiff, Bool.false_eq_true, eq_self, decide_true, decide_false, Bool.not_true, Bool.not_false, Int.reduceNeg, ty_s, hj])
    rw [o.gc rfl]
    exact ⟨rfl, rfl⟩
/-! ### the law's own text of a term -/
theorem wrs_app : ∀ a b : List Tm, wrs (a ++ b) = wrs a ++ wrs b
  | [], b => by rw [wrs_nil]; rfl
  | t :: a, b => by rw [List.cons_append, wrs_cons, wrs_cons, wrs_app a b, List.append_assoc]
theorem add_SS {a b : List Nat} {st : Store} (h : a.length + b.length ≤ 16000000) : opAdd (.str (SX.S a)) (.str (SX.S b)) st = some (.str (SX.S (a ++ b)), st) := by
  rw [Mi.add_str0, S_len2, S_len2, if_pos (by rw [PySem.sizeLine_eq]; omega), SX.S_cat]
theorem isI_i {x : Int} {st : Store} : isT .int (.int x) st = some true := rfl
theorem isI_s {x : Str} {st : Store} : isT .int (.str x) st = some false := rfl
theorem lwritten_step {k : Nat} {h : Hd} {ts : List Tm} {st : Store} (hw : (wr (.mk h ts)).length ≤ 16000000) (hi : IntH h) (ih : ∀ u ∈ ts, ∀ s, callK T k i_l_law_written [u.d] s = .ok (.str (SX.S (wr u))) s) : callK T (k + 1) i_l_law_written [(Tm.mk h ts).d] st = .ok (.str (SX.S (wr (.mk h ts)))) st := by
  apply eq_of_wp
  rw [Tm.d_mk]
  refine call_wp (env := [some (.tup [h.d, .tup (Tm.ds ts)]), none, none, none]) T_l_law_written rfl rfl ?_
  rw [fb_l_law_written, b_l_law_written]
  have q1 : ("?" : Str) = SX.S [63] := by decide +kernel
  have q2 : (" " : Str) = SX.S [32] := by decide +kernel
  have q3 : ("(" : Str) = SX.S [40] := by decide +kernel
  have q4 : (")" : Str) = SX.S [41] := by decide +kernel
  rw [wr_mk, List.length_append] at hw
  have head : ((sSeq (sSet 1 (eBi biStr (aCons (eBin opIx (eV 0) (eC (.int 0))) aNil))) (sIf (tTru (eIs .int (eBin opIx (eV 0) (eC (.int 0))))) (sSet 1 (eBin opAdd (eC (.str "?")) (eV 1))) sNil) : Sx) [some (.tup [h.d, .tup (Tm.ds ts)]), none, none, none] st).wps
      { nx := fun env s => env = [some (.tup [h.d, .tup (Tm.ds ts)]), some (.str (SX.S (hdL h))), none, none] ∧ s = st } := by
    refine seq_wp ?_
    cases h with
    | s x =>
      (try simp only [eV, eC, eBin, eUn, aNil, aCons, eTup, eLst, eBi, eMeth, tTru, Mi.tCmp, Mi.tAnd, Mi.tOr, Mi.tNot, eAnd, eOr, eNot, eIf, eChain, tOf, oNo, oSo, eSl, eCall, eIs, sSet, sExpr, sRet, sRetN, sNil, sAsg, sPut, sBrk, sCnt, tTrue, wp_bind, wp_ok, wps_nx, wps_rt, wps_bk, wps_ct, wps_toOut, Rs.bind_ok, Rs.ofO_some, Option.map_some, isB, List.getElem?_cons_zero, List.getElem?_cons_succ, List.set_cons_zero, List.set_cons_succ, decide_eq_true_eq, eq_int, eq_str, Option.map_none, Mi.add_int, Mi.add_str0, Mi.add_tup0, opSub, opNeg, cmpI, opIs, opIsNot, biInt, biAbs, isN, atI_0, atI_1, atI_2, atI_3, Mi.ix_tup, Mi.ix_fro, Out.seq_nx, Out.seq_rt, truD, List.set_set, tgSet, if_true, if_false, List.length_cons, List.length_nil, Nat.zero_add, Nat.reduceAdd, Nat.reduceLeDiff, Bool.false_eq_true, eq_self, decide_true, decide_false, Bool.not_true, Bool.not_false, Int.reduceNeg, Hd.d, biStr])
      refine sIf_ff (s := st) (by (try simp only [eV, eC, eBin, eUn, aNil, aCons, eTup, eLst, eBi, eMeth, tTru, Mi.tCmp, Mi.tAnd, Mi.tOr, Mi.tNot, eAnd, eOr, eNot, eIf, eChain, tOf, oNo, oSo, eSl, eCall, eIs, sSet, sExpr, sRet, sRetN, sNil, sAsg, sPut, sBrk, sCnt, tTrue, wp_bind, wp_ok, wps_nx, wps_rt, wps_bk, wps_ct, wps_toOut, Rs.bind_ok, Rs.ofO_some, Option.map_some, isB, List.getElem?_cons_zero, List.getElem?_cons_succ, List.set_cons_zero, List.set_cons_succ, decide_eq_true_eq, eq_int, eq_str, Option.map_none, Mi.add_int, Mi.add_str0, Mi.add_tup0, opSub, opNeg, cmpI, opIs, opIsNot, biInt, biAbs, isN, atI_0, atI_1, atI_2, atI_3, Mi.ix_tup, Mi.ix_fro, Out.seq_nx, Out.seq_rt, truD, List.set_set, tgSet, if_true, if_false, List.length_cons, List.length_nil, Nat.zero_add, Nat.reduceAdd, Nat.reduceLeDiff, Bool.false_eq_true, eq_self, decide_true, decide_false, Bool.not_true, Bool.not_false, Int.reduceNeg, Hd.d, eIs, isI_s])) ?_
      rw [sNil, wps_nx]
      refine ⟨?_, rfl⟩
      rw [show SX.S (hdL (.s x)) = x from SX.S_tl x]
    | i v =>
      have hi' : v.natAbs.log2 < 1920 := hi
      have lv : (hdL (.i v)).length = (63 :: (toString v : Str).cps.toList).length := rfl
      rw [lv, List.length_cons] at hw
      (try simp only [eV, eC, eBin, eUn, aNil, aCons, eTup, eLst, eBi, eMeth, tTru, Mi.tCmp, Mi.tAnd, Mi.tOr, Mi.tNot, eAnd, eOr, eNot, eIf, eChain, tOf, oNo, oSo, eSl, eCall, eIs, sSet, sExpr, sRet, sRetN, sNil, sAsg, sPut, sBrk, sCnt, tTrue, wp_bind, wp_ok, wps_nx, wps_rt, wps_bk, wps_ct, wps_toOut, Rs.bind_ok, Rs.ofO_some, Option.map_some, isB, List.getElem?_cons_zero, List.getElem?_cons_succ, List.set_cons_zero, List.set_cons_succ, decide_eq_true_eq, eq_int, eq_str, Option.map_none, Mi.add_int, Mi.add_str0, Mi.add_tup0, opSub, opNeg, cmpI, opIs, opIsNot, biInt, biAbs, isN, atI_0, atI_1, atI_2, atI_3, Mi.ix_tup, Mi.ix_fro, Out.seq_nx, Out.seq_rt, truD, List.set_set, tgSet, if_true, if_false, List.length_cons, List.length_nil, Nat.zero_add, Nat.reduceAdd, Nat.reduceLeDiff, Bool.false_eq_true, eq_self, decide_true, decide_false, Bool.not_true, Bool.not_false, Int.reduceNeg, Hd.d, biStr, if_pos hi'])
      refine sIf_tt (s := st) (by (try simp only [eV, eC, eBin, eUn, aNil, aCons, eTup, eLst, eBi, eMeth, tTru, Mi.tCmp, Mi.tAnd, Mi.tOr, Mi.tNot, eAnd, eOr, eNot, eIf, eChain, tOf, oNo, oSo, eSl, eCall, eIs, sSet, sExpr, sRet, sRetN, sNil, sAsg, sPut, sBrk, sCnt, tTrue, wp_bind, wp_ok, wps_nx, wps_rt, wps_bk, wps_ct, wps_toOut, Rs.bind_ok, Rs.ofO_some, Option.map_some, isB, List.getElem?_cons_zero, List.getElem?_cons_succ, List.set_cons_zero, List.set_cons_succ, decide_eq_true_eq, eq_int, eq_str, Option.map_none, Mi.add_int, Mi.add_str0, Mi.add_tup0, opSub, opNeg, cmpI, opIs, opIsNot, biInt, biAbs, isN, atI_0, atI_1, atI_2, atI_3, Mi.ix_tup, Mi.ix_fro, Out.seq_nx, Out.seq_rt, truD, List.set_set, tgSet, if_true, if_false, List.length_cons, List.length_nil, Nat.zero_add, Nat.reduceAdd, Nat.reduceLeDiff, Bool.false_eq_true, eq_self, decide_true, decide_false, Bool.not_true, Bool.not_false, Int.reduceNeg, Hd.d, eIs, isI_i])) ?_
      have e := add_SS (st := st) (a := [63]) (b := (toString v : Str).cps.toList) (by rw [List.length_singleton]; omega)
      rw [SX.S_tl, ← q1] at e
      (try simp only [eV, eC, eBin, eUn, aNil, aCons, eTup, eLst, eBi, eMeth, tTru, Mi.tCmp, Mi.tAnd, Mi.tOr, Mi.tNot, eAnd, eOr, eNot, eIf, eChain, tOf, oNo, oSo, eSl, eCall, eIs, sSet, sExpr, sRet, sRetN, sNil, sAsg, sPut, sBrk, sCnt, tTrue, wp_bind, wp_ok, wps_nx, wps_rt, wps_bk, wps_ct, wps_toOut, Rs.bind_ok, Rs.ofO_some, Option.map_some, isB, List.getElem?_cons_zero, List.getElem?_cons_succ, List.set_cons_zero, List.set_cons_succ, decide_eq_true_eq, eq_int, eq_str, Option.map_none, Mi.add_int, Mi.add_str0, Mi.add_tup0, opSub, opNeg, cmpI, opIs, opIsNot, biInt, biAbs, isN, atI_0, atI_1, atI_2, atI_3, Mi.ix_tup, Mi.ix_fro, Out.seq_nx, Out.seq_rt, truD, List.set_set, tgSet, if_true, if_false, List.length_cons, List.length_nil, Nat.zero_add, Nat.reduceAdd, Nat.reduceLeDiff, Bool.false_eq_true, eq_self, decide_true, decide_false, Bool.not_true, Bool.not_false, Int.reduceNeg, e])
      exact ⟨rfl, by trivial⟩
  rw [show ∀ (a b c d : Sx), sSeq a (sSeq b (sSeq c d)) = sSeq (sSeq a b) (sSeq c d) from fun a b c d => by funext env s; unfold sSeq; cases a env s <;> rfl]
  refine seq_mid (I := fun env s => env = [some (.tup [h.d, .tup (Tm.ds ts)]), some (.str (SX.S (hdL h))), none, none] ∧ s = st) (head.mono (fun _ _ z => z) (fun _ _ z => z.elim) (fun _ _ z => z.elim) (fun _ _ z => z.elim) (fun _ _ _ z => z.elim)) ?_
  rintro _ s ⟨rfl, hs⟩
  rw [hs]
  refine seq_mid (I := fun env s => ∃ z w, env = [some (.tup [h.d, .tup (Tm.ds ts)]), some (.str (SX.S (hdL h ++ wrs ts))), z, w] ∧ s = st) ?_ ?_
  · refine for_wp (as := ts) (enc := Tm.d) (g := none) (st0 := st) (fun dn rs env s => ∃ z w, env = [some (.tup [h.d, .tup (Tm.ds ts)]), some (.str (SX.S (hdL h ++ wrs dn))), z, w] ∧ s = st)
      (src_tup (by (try simp only [eV, eC, eBin, eUn, aNil, aCons, eTup, eLst, eBi, eMeth, tTru, Mi.tCmp, Mi.tAnd, Mi.tOr, Mi.tNot, eAnd, eOr, eNot, eIf, eChain, tOf, oNo, oSo, eSl, eCall, eIs, sSet, sExpr, sRet, sRetN, sNil, sAsg, sPut, sBrk, sCnt, tTrue, wp_bind, wp_ok, wps_nx, wps_rt, wps_bk, wps_ct, wps_toOut, Rs.bind_ok, Rs.ofO_some, Option.map_some, isB, List.getElem?_cons_zero, List.getElem?_cons_succ, List.set_cons_zero, List.set_cons_succ, decide_eq_true_eq, eq_int, eq_str, Option.map_none, Mi.add_int, Mi.add_str0, Mi.add_tup0, opSub, opNeg, cmpI, opIs, opIsNot, biInt, biAbs, isN, atI_0, atI_1, atI_2, atI_3, Mi.ix_tup, Mi.ix_fro, Out.seq_nx, Out.seq_rt, truD, List.set_set, tgSet, if_true, if_false, List.length_cons, List.length_nil, Nat.zero_add, Nat.reduceAdd, Nat.reduceLeDiff, Bool.false_eq_true, eq_self, decide_true, decide_false, Bool.not_true, Bool.not_false, Int.reduceNeg, Tm.ds_map]))) ⟨_, _, by rw [wrs_nil, List.append_nil], rfl⟩ (fun n z => by cases z) ?_ (fun _ _ z => z)
    rintro dn u rs _ s hd ⟨z, w, rfl, hs⟩
    rw [hs]
    refine ⟨[some (.tup [h.d, .tup (Tm.ds ts)]), some (.str (SX.S (hdL h ++ wrs dn))), some u.d, w], rfl, ?_⟩
    have e1 := ih u (by rw [hd]; simp) st
    have lens : (wrs ts).length = (wrs dn).length + ((wrs [u]).length + (wrs rs).length) := by
      rw [hd, show dn ++ u :: rs = dn ++ ([u] ++ rs) from rfl, wrs_app, wrs_app, List.length_append, List.length_append]
    have eu : wrs [u] = if leafT u = true then 32 :: wr u else 32 :: 40 :: (wr u ++ [41]) := by rw [wrs_cons, wrs_nil, List.append_nil]
    refine seq_wp ?_
    (try simp only [eV, eC, eBin, eUn, aNil, aCons, eTup, eLst, eBi, eMeth, tTru, Mi.tCmp, Mi.tAnd, Mi.tOr, Mi.tNot, eAnd, eOr, eNot, eIf, eChain, tOf, oNo, oSo, eSl, eCall, eIs, sSet, sExpr, sRet, sRetN, sNil, sAsg, sPut, sBrk, sCnt, tTrue, wp_bind, wp_ok, wps_nx, wps_rt, wps_bk, wps_ct, wps_toOut, Rs.bind_ok, Rs.ofO_some, Option.map_some, isB, List.getElem?_cons_zero, List.getElem?_cons_succ, List.set_cons_zero, List.set_cons_succ, decide_eq_true_eq, eq_int, eq_str, Option.map_none, Mi.add_int, Mi.add_str0, Mi.add_tup0, opSub, opNeg, cmpI, opIs, opIsNot, biInt, biAbs, isN, atI_0, atI_1, atI_2, atI_3, Mi.ix_tup, Mi.ix_fro, Out.seq_nx, Out.seq_rt, truD, List.set_set, tgSet, if_true, if_false, List.length_cons, List.length_nil, Nat.zero_add, Nat.reduceAdd, Nat.reduceLeDiff, Bool.false_eq_true, eq_self, decide_true, decide_false, Bool.not_true, Bool.not_false, Int.reduceNeg, e1])
    rw [wrs_app, eu]
    rw [eu] at lens
    have hlen : ∃ (ds : List D) (n : Nat), opIx u.d (.int 1) st = some (.tup ds, st) ∧ biLen [.tup ds] st = some (.int n, st) ∧ (n = 0 ↔ leafT u = true) := by
      clear hd e1 lens eu
      cases u with
      | mk g us =>
        refine ⟨Tm.ds us, us.length, by rw [Tm.d_mk]; rfl, by rw [len_tup, Tm.ds_map, List.length_map], ?_⟩
        rw [leaf_mk, List.isEmpty_iff, List.length_eq_zero_iff]
    obtain ⟨ds, n, hix, hlen, hn⟩ := hlen
    by_cases hl : leafT u = true
    · rw [if_pos hl] at lens ⊢
      rw [List.length_cons] at lens
      have : n = 0 := hn.mpr hl
      subst this
      refine seq_wp (sIf_ff (s := st) (by (try simp only [eV, eC, eBin, eUn, aNil, aCons, eTup, eLst, eBi, eMeth, tTru, Mi.tCmp, Mi.tAnd, Mi.tOr, Mi.tNot, eAnd, eOr, eNot, eIf, eChain, tOf, oNo, oSo, eSl, eCall, eIs, sSet, sExpr, sRet, sRetN, sNil, sAsg, sPut, sBrk, sCnt, tTrue, wp_bind, wp_ok, wps_nx, wps_rt, wps_bk, wps_ct, wps_toOut, Rs.bind_ok, Rs.ofO_some, Option.map_some, isB, List.getElem?_cons_zero, List.getElem?_cons_succ, List.set_cons_zero, List.set_cons_succ, decide_eq_true_eq, eq_int, eq_str, Option.map_none, Mi.add_int, Mi.add_str0, Mi.add_tup0, opSub, opNeg, cmpI, opIs, opIsNot, biInt, biAbs, isN, atI_0, atI_1, atI_2, atI_3, Mi.ix_tup, Mi.ix_fro, Out.seq_nx, Out.seq_rt, truD, List.set_set, tgSet, if_true, if_false, List.length_cons, List.length_nil, Nat.zero_add, Nat.reduceAdd, Nat.reduceLeDiff, Bool.false_eq_true, eq_self, decide_true, decide_false, Bool.not_true, Bool.not_false, Int.reduceNeg, hix, hlen, show ¬ ((0 : Int) < ((0 : Nat) : Int)) by decide])) ?_)
      rw [sNil, wps_nx]
      have a1 := add_SS (st := st) (a := hdL h ++ wrs dn) (b := [32]) (by rw [List.length_append]; simp; omega)
      have a2 := add_SS (st := st) (a := hdL h ++ wrs dn ++ [32]) (b := wr u) (by rw [List.length_append, List.length_append]; simp; omega)
      rw [← q2] at a1
      refine set_of (d := .str (SX.S (hdL h ++ wrs dn ++ [32] ++ wr u))) (s := st) (by rw [bin_of (s1 := st) (s2 := st) (show eBin opAdd (eV 1) (eC (.str " ")) _ st = .ok (.str (SX.S (hdL h ++ wrs dn ++ [32]))) st by rw [bin_of (s1 := st) (s2 := st) rfl rfl, a1]; rfl) rfl, a2]; rfl) ?_
      exact ⟨_, _, by rw [List.append_assoc, List.append_assoc]; rfl, rfl⟩
    · rw [if_neg hl] at lens ⊢
      rw [List.length_cons, List.length_cons, List.length_append, List.length_singleton] at lens
      have hp : 0 < n := by
        rcases Nat.eq_zero_or_pos n with z | z
        · exact absurd (hn.mp z) hl
        · exact z
      have b1 := add_SS (st := st) (a := [40]) (b := wr u) (by simp; omega)
      have b2 := add_SS (st := st) (a := [40] ++ wr u) (b := [41]) (by rw [List.length_append]; simp; omega)
      rw [← q3] at b1
      rw [← q4] at b2
      refine seq_wp (sIf_tt (s := st) (by (try simp only [eV, eC, eBin, eUn, aNil, aCons, eTup, eLst, eBi, eMeth, tTru, Mi.tCmp, Mi.tAnd, Mi.tOr, Mi.tNot, eAnd, eOr, eNot, eIf, eChain, tOf, oNo, oSo, eSl, eCall, eIs, sSet, sExpr, sRet, sRetN, sNil, sAsg, sPut, sBrk, sCnt, tTrue, wp_bind, wp_ok, wps_nx, wps_rt, wps_bk, wps_ct, wps_toOut, Rs.bind_ok, Rs.ofO_some, Option.map_some, isB, List.getElem?_cons_zero, List.getElem?_cons_succ, List.set_cons_zero, List.set_cons_succ, decide_eq_true_eq, eq_int, eq_str, Option.map_none, Mi.add_int, Mi.add_str0, Mi.add_tup0, opSub, opNeg, cmpI, opIs, opIsNot, biInt, biAbs, isN, atI_0, atI_1, atI_2, atI_3, Mi.ix_tup, Mi.ix_fro, Out.seq_nx, Out.seq_rt, truD, List.set_set, tgSet, if_true, if_false, List.length_cons, List.length_nil, Nat.zero_add, Nat.reduceAdd, Nat.reduceLeDiff, Bool.false_eq_true, eq_self, decide_true, decide_false, Bool.not_true, Bool.not_false, Int.reduceNeg, hix, hlen, show (0 : Int) < (n : Nat) by omega])) ?_)
      refine set_of (d := .str (SX.S ([40] ++ wr u ++ [41]))) (s := st) (by rw [bin_of (s1 := st) (s2 := st) (show eBin opAdd (eC (.str "(")) (eV 3) _ st = .ok (.str (SX.S ([40] ++ wr u))) st by rw [bin_of (s1 := st) (s2 := st) rfl rfl, b1]; rfl) rfl, b2]; rfl) ?_
      have a1 := add_SS (st := st) (a := hdL h ++ wrs dn) (b := [32]) (by rw [List.length_append]; simp; omega)
      have a2 := add_SS (st := st) (a := hdL h ++ wrs dn ++ [32]) (b := [40] ++ wr u ++ [41]) (by rw [List.length_append, List.length_append, List.length_append, List.length_append]; simp; omega)
      rw [← q2] at a1
      refine set_of (d := .str (SX.S (hdL h ++ wrs dn ++ [32] ++ ([40] ++ wr u ++ [41])))) (s := st) (by rw [bin_of (s1 := st) (s2 := st) (show eBin opAdd (eV 1) (eC (.str " ")) _ st = .ok (.str (SX.S (hdL h ++ wrs dn ++ [32]))) st by rw [bin_of (s1 := st) (s2 := st) rfl rfl, a1]; rfl) rfl, a2]; rfl) ?_
      exact ⟨some u.d, some (.str (SX.S ([40] ++ wr u ++ [41]))), by simp, rfl⟩
  · rintro _ s ⟨z, w, rfl, hs⟩
    rw [hs]
    (try simp only [eV, eC, eBin, eUn, aNil, aCons, eTup, eLst, eBi, eMeth, tTru, Mi.tCmp, Mi.tAnd, Mi.tOr, Mi.tNot, eAnd, eOr, eNot, eIf, eChain, tOf, oNo, oSo, eSl, eCall, eIs, sSet, sExpr, sRet, sRetN, sNil, sAsg, sPut, sBrk, sCnt, tTrue, wp_bind, wp_ok, wps_nx, wps_rt, wps_bk, wps_ct, wps_toOut, Rs.bind_ok, Rs.ofO_some, Option.map_some, isB, List.getElem?_cons_zero, List.getElem?_cons_succ, List.set_cons_zero, List.set_cons_succ, decide_eq_true_eq, eq_int, eq_str, Option.map_none, Mi.add_int, Mi.add_str0, Mi.add_tup0, opSub, opNeg, cmpI, opIs, opIsNot, biInt, biAbs, isN, atI_0, atI_1, atI_2, atI_3, Mi.ix_tup, Mi.ix_fro, Out.seq_nx, Out.seq_rt, truD, List.set_set, tgSet, if_true, if_false, List.length_cons, List.length_nil, Nat.zero_add, Nat.reduceAdd, Nat.reduceLeDiff, Bool.false_eq_true, eq_self, decide_true, decide_false, Bool.not_true, Bool.not_false, Int.reduceNeg])
    rw [gc_id rfl, wr_mk]
    exact ⟨rfl, rfl⟩
theorem wr_le {h : Hd} {ts : List Tm} {u : Tm} (hu : u ∈ ts) : (wr u).length ≤ (wr (.mk h ts)).length := by
  rw [wr_mk, List.length_append]
  obtain ⟨a, b, rfl⟩ := List.append_of_mem hu
  rw [show a ++ u :: b = a ++ ([u] ++ b) from rfl, wrs_app, wrs_app, wrs_cons, wrs_nil]
  split <;> simp <;> omega
theorem lwritten_spec : ∀ (k : Nat) (t : Tm) (st : Store), (wr t).length ≤ 16000000 → t.all IntH → t.depth ≤ k → callK T k i_l_law_written [t.d] st = .ok (.str (SX.S (wr t))) st
  | 0, .mk h ts, st, _, _, hd => by rw [Tm.depth_mk] at hd; omega
  | k + 1, .mk h ts, st, hw, hi, hd => by
    rw [Tm.all_mk] at hi
    rw [Tm.depth_mk] at hd
    exact lwritten_step hw hi.1 fun u hu s => lwritten_spec k u s (Nat.le_trans (wr_le hu) hw) (Tm.alls_iff.mp hi.2 u hu) (by have := Tm.depth_mem hu; omega)
/-! ### a word read as a head -/
section
variable {k : Nat} {st : Store}
theorem digs_spec {r : List Nat} {x : Option D} (hr : r.length ≤ 100000) : eG (eBi biAll (aCons (eLc (srcStr (eV 0)) (.nm 1) tTrue (eBin opIn (eV 1) (eC (.str "0123456789"))) [1]) aNil)) [some (.str (SX.S r)), x] st = .ok (.bl (r.all fun c => decide (digL c))) st := by
  have lc := lc_pure (src := srcStr (eV 0)) (t := .nm 1) (c := tTrue) (f := eBin opIn (eV 1) (eC (.str "0123456789"))) (own := [1]) (env := [some (.str (SX.S r)), x]) (st := st) (st0 := st) (as := r) (enc := fun c => D.str (SX.S [c])) (g := none) (fun _ => true) (fun c => .bl (decide (digL c)))
    (by unfold srcStr; rw [show eV 0 [some (.str (SX.S r)), x] st = .ok (.str (SX.S r)) st from rfl]; rfl) (fun n z => by cases z) (fun c _ s _ => ⟨[some (.str (SX.S r)), some (.str (SX.S [c]))], rfl, rfl, fun _ => by
      rw [bin_of (s1 := s) (s2 := s) (a := .str (SX.S [c])) (b := .str "0123456789") rfl rfl, in_ch.1]
      show Rs.ok (D.bl (decide (c ∈ ("0123456789" : Str).cps.toList))) s = _
      congr 2
      exact decide_eq_decide.mpr dig_mem⟩) (by rw [PySem.sizeLine_eq]; omega) (fun n z => by cases z)
  rw [List.filter_eq_self.mpr (fun _ _ => rfl)] at lc
  exact all_lc lc (Old.refl _)
theorem chain_len {lo hi n : Nat} {x : Option D} {r : List Nat} (hr : r.length ≤ 100000) : tOf (eChain opLe opLe (eC (.int lo)) (eBi biLen (aCons (eV 0) aNil)) (eC (.int hi))) [some (.str (SX.S r)), x] st = .ok (decide (lo ≤ r.length ∧ r.length ≤ hi)) st := by
  have e : eBi biLen (aCons (eV 0) aNil) [some (.str (SX.S r)), x] st = .ok (.int (r.length : Nat)) st := by
    (try simp only [eV, eC, eBin, eUn, aNil, aCons, eTup, eLst, eBi, eMeth, tTru, Mi.tCmp, Mi.tAnd, Mi.tOr, Mi.tNot, eAnd, eOr, eNot, eIf, eChain, tOf, oNo, oSo, eSl, eCall, eIs, sSet, sExpr, sRet, sRetN, sNil, sAsg, sPut, sBrk, sCnt, tTrue, wp_bind, wp_ok, wps_nx, wps_rt, wps_bk, wps_ct, wps_toOut, Rs.bind_ok, Rs.ofO_some, Option.map_some, isB, List.getElem?_cons_zero, List.getElem?_cons_succ, List.set_cons_zero, List.set_cons_succ, decide_eq_true_eq, eq_int, eq_str, Option.map_none, Mi.add_int, Mi.add_str0, Mi.add_tup0, opSub, opNeg, cmpI, opIs, opIsNot, biInt, biAbs, isN, atI_0, atI_1, atI_2, atI_3, Mi.ix_tup, Mi.ix_fro, Out.seq_nx, Out.seq_rt, truD, List.set_set, tgSet, if_true, if_false, List.length_cons, List.length_nil, Nat.zero_add, Nat.reduceAdd, Nat.reduceLeDiff, Bool.false_eq_true, eq_self, decide_true, decide_false, Bool.not_true, Bool.not_false, Int.reduceNeg, len_S (l := r) (st := st) (by rw [PySem.sizeLine_eq]; omega)])
  unfold tOf eChain
  rw [show ∀ i env s, eC (.int i) env s = .ok (.int i) s from fun _ _ _ => rfl]
  simp only [Rs.bind_ok]
  rw [e]
  by_cases h1 : lo ≤ r.length
  · by_cases h2 : r.length ≤ hi
    · (try simp only [eV, eC, eBin, eUn, aNil, aCons, eTup, eLst, eBi, eMeth, tTru, Mi.tCmp, Mi.tAnd, Mi.tOr, Mi.tNot, eAnd, eOr, eNot, eIf, eChain, tOf, oNo, oSo, eSl, eCall, eIs, sSet, sExpr, sRet, sRetN, sNil, sAsg, sPut, sBrk, sCnt, tTrue, wp_bind, wp_ok, wps_nx, wps_rt, wps_bk, wps_ct, wps_toOut, Rs.bind_ok, Rs.ofO_some, Option.map_some, isB, List.getElem?_cons_zero, List.getElem?_cons_succ, List.set_cons_zero, List.set_cons_succ, decide_eq_true_eq, eq_int, eq_str, Option.map_none, Mi.add_int, Mi.add_str0, Mi.add_tup0, opSub, opNeg, cmpI, opIs, opIsNot, biInt, biAbs, isN, atI_0, atI_1, atI_2, atI_3, Mi.ix_tup, Mi.ix_fro, Out.seq_nx, Out.seq_rt, truD, List.set_set, tgSet, if_true, if_false, List.length_cons, List.length_nil, Nat.zero_add, Nat.reduceAdd, Nat.reduceLeDiff, Bool.false_eq_true, eq_self, decide_true, decide_false, Bool.not_true, Bool.not_false, Int.reduceNeg, show ((lo : Nat) : Int) ≤ (r.length : Nat) by omega, show ((r.length : Nat) : Int) ≤ (hi : Nat) by omega, h1, h2, and_self])
    · (try simp only [eV, eC, eBin, eUn, aNil, aCons, eTup, eLst, eBi, eMeth, tTru, Mi.tCmp, Mi.tAnd, Mi.tOr, Mi.tNot, eAnd, eOr, eNot, eIf, eChain, tOf, oNo, oSo, eSl, eCall, eIs, sSet, sExpr, sRet, sRetN, sNil, sAsg, sPut, sBrk, sCnt, tTrue, wp_bind, wp_ok, wps_nx, wps_rt, wps_bk, wps_ct, wps_toOut, Rs.bind_ok, Rs.ofO_some, Option.map_some, isB, List.getElem?_cons_zero, List.getElem?_cons_succ, List.set_cons_zero, List.set_cons_succ, decide_eq_true_eq, eq_int, eq_str, Option.map_none, Mi.add_int, Mi.add_str0, Mi.add_tup0, opSub, opNeg, cmpI, opIs, opIsNot, biInt, biAbs, isN, atI_0, atI_1, atI_2, atI_3, Mi.ix_tup, Mi.ix_fro, Out.seq_nx, Out.seq_rt, truD, List.set_set, tgSet, if_true, if_false, List.length_cons, List.length_nil, Nat.zero_add, Nat.reduceAdd, Nat.reduceLeDiff, Bool.false_eq_true, eq_self, decide_true, decide_false, Bool.not_true, Bool.not_false, Int.reduceNeg, show ((lo : Nat) : Int) ≤ (r.length : Nat) by omega, show ¬ (((r.length : Nat) : Int) ≤ (hi : Nat)) by omega, h1, h2, and_false])
  · (try simp only [eV, eC, eBin, eUn, aNil, aCons, eTup, eLst, eBi, eMeth, tTru, Mi.tCmp, Mi.tAnd, Mi.tOr, Mi.tNot, eAnd, eOr, eNot, eIf, eChain, tOf, oNo, oSo, eSl, eCall, eIs, sSet, sExpr, sRet, sRetN, sNil, sAsg, sPut, sBrk, sCnt, tTrue, wp_bind, wp_ok, wps_nx, wps_rt, wps_bk, wps_ct, wps_toOut, Rs.bind_ok, Rs.ofO_some, Option.map_some, isB, List.getElem?_cons_zero, List.getElem?_cons_succ, List.set_cons_zero, List.set_cons_succ, decide_eq_true_eq, eq_int, eq_str, Option.map_none, Mi.add_int, Mi.add_str0, Mi.add_tup0, opSub, opNeg, cmpI, opIs, opIsNot, biInt, biAbs, isN, atI_0, atI_1, atI_2, atI_3, Mi.ix_tup, Mi.ix_fro, Out.seq_nx, Out.seq_rt, truD, List.set_set, tgSet, if_true, if_false, List.length_cons, List.length_nil, Nat.zero_add, Nat.reduceAdd, Nat.reduceLeDiff, Bool.false_eq_true, eq_self, decide_true, decide_false, Bool.not_true, Bool.not_false, Int.reduceNeg, show ¬ (((lo : Nat) : Int) ≤ (r.length : Nat)) by omega, h1, false_and])
theorem number_of_spec {r : List Nat} (hk : 1 ≤ k) (hr : r.length ≤ 100000) : callK T k i_number_of [.str (SX.S r)] st = .ok (match numOf r with | some v => .int v | none => .non) st := by
  obtain ⟨k, rfl⟩ : ∃ j, k = j + 1 := ⟨k - 1, by omega⟩
  apply eq_of_wp
  refine call_wp (env := [some (.str (SX.S r)), none]) T_number_of rfl rfl ?_
  rw [fb_number_of, b_number_of]
  have e1 := chain_len (lo := 1) (hi := 4) (n := 0) (x := none) (r := r) (st := st) hr
  have e2 := digs_spec (x := none) (r := r) (st := st) hr
  by_cases h1 : 1 ≤ r.length ∧ r.length ≤ 4
  · rw [decide_eq_true h1] at e1
    by_cases h2 : ∀ c ∈ r, digL c
    · rw [List.all_eq_true.mpr (fun c hc => decide_eq_true (h2 c hc))] at e2
      refine seq_wp (sIf_ff (s := st) (by unfold Mi.tOr Mi.tNot tTru; rw [show ((1 : Nat) : Int) = 1 from rfl, show ((4 : Nat) : Int) = 4 from rfl] at e1; rw [e1]; simp only [Rs.bind_ok]; rw [e2]; rfl) ?_)
      rw [sNil, wps_nx]
      obtain ⟨c, r', rfl⟩ : ∃ c r', r = c :: r' := by
        cases r with
        | nil => simp at h1
        | cons a b => exact ⟨a, b, rfl⟩
      have e3 := ix0_S (c := c) (r := r') (st := st) (by rw [PySem.sizeLine_eq]; omega)
      have q0 : ("0" : Str) = SX.S [48] := by decide +kernel
      by_cases h3 : c = 48 ∧ r' ≠ []
      · have hn : numOf (c :: r') = none := by
          unfold numOf
          rw [if_neg]
          rintro ⟨_, _, _, z⟩
          exact z ⟨by simp [h3.1], by rw [h3.1]; simp [h3.2]⟩
        rw [hn]
        have ne : SX.S (c :: r') ≠ SX.S [48] := fun z => h3.2 (by have := SX.S_inj z; simp at this; exact this.2)
        obtain ⟨hc, hne⟩ := h3
        subst hc
        refine seq_wp (sIf_tt (s := st) (by rw [q0]; (try simp only [eV, eC, eBin, eUn, aNil, aCons, eTup, eLst, eBi, eMeth, tTru, Mi.tCmp, Mi.tAnd, Mi.tOr, Mi.tNot, eAnd, eOr, eNot, eIf, eChain, tOf, oNo, oSo, eSl, eCall, eIs, sSet, sExpr, sRet, sRetN, sNil, sAsg, sPut, sBrk, sCnt, tTrue, wp_bind, wp_ok, wps_nx, wps_rt, wps_bk, wps_ct, wps_toOut, Rs.bind_ok, Rs.ofO_some, Option.map_some, isB, List.getElem?_cons_zero, List.getElem?_cons_succ, List.set_cons_zero, List.set_cons_succ, decide_eq_true_eq, eq_int, eq_str, Option.map_none, Mi.add_int, Mi.add_str0, Mi.add_tup0, opSub, opNeg, cmpI, opIs, opIsNot, biInt, biAbs, isN, atI_0, atI_1, atI_2, atI_3, Mi.ix_tup, Mi.ix_fro, Out.seq_nx, Out.seq_rt, truD, List.set_set, tgSet, if_true, if_false, List.length_cons, List.length_nil, Nat.zero_add, Nat.reduceAdd, Nat.reduceLeDiff, Bool.false_eq_true, eq_self, decide_true, decide_false, Bool.not_true, Bool.not_false, Int.reduceNeg, e3, ne_str, ne])) ?_)
        (try simp only [eV, eC, eBin, eUn, aNil, aCons, eTup, eLst, eBi, eMeth, tTru, Mi.tCmp, Mi.tAnd, Mi.tOr, Mi.tNot, eAnd, eOr, eNot, eIf, eChain, tOf, oNo, oSo, eSl, eCall, eIs, sSet, sExpr, sRet, sRetN, sNil, sAsg, sPut, sBrk, sCnt, tTrue, wp_bind, wp_ok, wps_nx, wps_rt, wps_bk, wps_ct, wps_toOut, Rs.bind_ok, Rs.ofO_some, Option.map_some, isB, List.getElem?_cons_zero, List.getElem?_cons_succ, List.set_cons_zero, List.set_cons_succ, decide_eq_true_eq, eq_int, eq_str, Option.map_none, Mi.add_int, Mi.add_str0, Mi.add_tup0, opSub, opNeg, cmpI, opIs, opIsNot, biInt, biAbs, isN, atI_0, atI_1, atI_2, atI_3, Mi.ix_tup, Mi.ix_fro, Out.seq_nx, Out.seq_rt, truD, List.set_set, tgSet, if_true, if_false, List.length_cons, List.length_nil, Nat.zero_add, Nat.reduceAdd, Nat.reduceLeDiff, Bool.false_eq_true, eq_self, decide_true, decide_false, Bool.not_true, Bool.not_false, Int.reduceNeg])
        rw [gc_id rfl]
        exact ⟨rfl, rfl⟩
      · have hn : numOf (c :: r') = some ((NumText.digitsVal (c :: r') : Nat) : Int) := by
          unfold numOf
          rw [if_pos ⟨h1.1, h1.2, h2, fun ⟨z1, z2⟩ => h3 ⟨by simpa using z1, fun z => z2 (by rw [z]; simpa using z1)⟩⟩]
        rw [hn]
        have hv : PySem.intText? (SX.S (c :: r')) = some ((NumText.digitsVal (c :: r') : Nat) : Int) := SX.int_S (List.all_eq_true.mpr fun a ha => by have := h2 a ha; unfold digL at this; simp; omega) (by simp) (by omega)
        have hl : (SX.S (c :: r') : Str).length ≤ 640 := by rw [S_len2]; omega
        refine seq_wp (sIf_ff (s := st) (by
          rw [q0]
          by_cases hc : c = 48
          · have hr' : r' = [] := Classical.byContradiction fun z => h3 ⟨hc, z⟩
            subst hc hr'
            (try simp only [eV, eC, eBin, eUn, aNil, aCons, eTup, eLst, eBi, eMeth, tTru, Mi.tCmp, Mi.tAnd, Mi.tOr, Mi.tNot, eAnd, eOr, eNot, eIf, eChain, tOf, oNo, oSo, eSl, eCall, eIs, sSet, sExpr, sRet, sRetN, sNil, sAsg, sPut, sBrk, sCnt, tTrue, wp_bind, wp_ok, wps_nx, wps_rt, wps_bk, wps_ct, wps_toOut, Rs.bind_ok, Rs.ofO_some, Option.map_some, isB, List.getElem?_cons_zero, List.getElem?_cons_succ, List.set_cons_zero, List.set_cons_succ, decide_eq_true_eq, eq_int, eq_str, Option.map_none, Mi.add_int, Mi.add_str0, Mi.add_tup0, opSub, opNeg, cmpI, opIs, opIsNot, biInt, biAbs, isN, atI_0, atI_1, atI_2, atI_3, Mi.ix_tup, Mi.ix_fro, Out.seq_nx, Out.seq_rt, truD, List.set_set, tgSet, if_true, if_false, List.length_cons, List.length_nil, Nat.zero_add, Nat.reduceAdd, Nat.reduceLeDiff, Bool.false_eq_true, eq_self, decide_true, decide_false, Bool.not_true, Bool.not_false, Int.reduceNeg, e3, ne_str])
          · have : SX.S [c] ≠ SX.S [48] := fun z => hc (by have := SX.S_inj z; simpa using this)
            (try simp only [eV, eC, eBin, eUn, aNil, aCons, eTup, eLst, eBi, eMeth, tTru, Mi.tCmp, Mi.tAnd, Mi.tOr, Mi.tNot, eAnd, eOr, eNot, eIf, eChain, tOf, oNo, oSo, eSl, eCall, eIs, sSet, sExpr, sRet, sRetN, sNil, sAsg, sPut, sBrk, sCnt, tTrue, wp_bind, wp_ok, wps_nx, wps_rt, wps_bk, wps_ct, wps_toOut, Rs.bind_ok, Rs.ofO_some, Option.map_some, isB, List.getElem?_cons_zero, List.getElem?_cons_succ, List.set_cons_zero, List.set_cons_succ, decide_eq_true_eq, eq_int, eq_str, Option.map_none, Mi.add_int, Mi.add_str0, Mi.add_tup0, opSub, opNeg, cmpI, opIs, opIsNot, biInt, biAbs, isN, atI_0, atI_1, atI_2, atI_3, Mi.ix_tup, Mi.ix_fro, Out.seq_nx, Out.seq_rt, truD, List.set_set, tgSet, if_true, if_false, List.length_cons, List.length_nil, Nat.zero_add, Nat.reduceAdd, Nat.reduceLeDiff, Bool.false_eq_true, eq_self, decide_true, decide_false, Bool.not_true, Bool.not_false, Int.reduceNeg, e3, this])) ?_)
        rw [sNil, wps_nx]
        have b : biIntS [.str (SX.S (c :: r'))] st = some (.int ((NumText.digitsVal (c :: r') : Nat) : Int), st) := by
          show (match PySem.intText? (SX.S (c :: r')) with | some n => if (SX.S (c :: r') : Str).length ≤ 640 then some (D.int n, st) else none | none => none) = _
          rw [hv]
          dsimp only
          rw [if_pos hl]
        (try simp only [eV, eC, eBin, eUn, aNil, aCons, eTup, eLst, eBi, eMeth, tTru, Mi.tCmp, Mi.tAnd, Mi.tOr, Mi.tNot, eAnd, eOr, eNot, eIf, eChain, tOf, oNo, oSo, eSl, eCall, eIs, sSet, sExpr, sRet, sRetN, sNil, sAsg, sPut, sBrk, sCnt, tTrue, wp_bind, wp_ok, wps_nx, wps_rt, wps_bk, wps_ct, wps_toOut, Rs.bind_ok, Rs.ofO_some, Option.map_some, isB, List.getElem?_cons_zero, List.getElem?_cons_succ, List.set_cons_zero, List.set_cons_succ, decide_eq_true_eq, eq_int, eq_str, Option.map_none, Mi.add_int, Mi.add_str0, Mi.add_tup0, opSub, opNeg, cmpI, opIs, opIsNot, biInt, biAbs, isN, atI_0, atI_1, atI_2, atI_3, Mi.ix_tup, Mi.ix_fro, Out.seq_nx, Out.seq_rt, truD, List.set_set, tgSet, if_true, if_false, List.length_cons, List.length_nil, Nat.zero_add, Nat.reduceAdd, Nat.reduceLeDiff, Bool.false_eq_true, eq_self, decide_true, decide_false, Bool.not_true, Bool.not_false, Int.reduceNeg, b])
        rw [gc_id rfl]
        exact ⟨rfl, rfl⟩
    · have hn : numOf r = none := by unfold numOf; rw [if_neg fun z => h2 z.2.2.1]
      rw [hn]
      have h2' : (r.all fun c => decide (digL c)) = false := by
        rw [Bool.eq_false_iff]
        intro z
        exact h2 fun c hc => of_decide_eq_true (List.all_eq_true.mp z c hc)
      rw [h2'] at e2
      refine seq_wp (sIf_tt (s := st) (by unfold Mi.tOr Mi.tNot tTru; rw [show ((1 : Nat) : Int) = 1 from rfl, show ((4 : Nat) : Int) = 4 from rfl] at e1; rw [e1]; simp only [Rs.bind_ok]; rw [e2]; rfl) ?_)
      (try simp only [eV, eC, eBin, eUn, aNil, aCons, eTup, eLst, eBi, eMeth, tTru, Mi.tCmp, Mi.tAnd, Mi.tOr, Mi.tNot, eAnd, eOr, eNot, eIf, eChain, tOf, oNo, oSo, eSl, eCall, eIs, sSet, sExpr, sRet, sRetN, sNil, sAsg, sPut, sBrk, sCnt, tTrue, wp_bind, wp_ok, wps_nx, wps_rt, wps_bk, wps_ct, wps_toOut, Rs.bind_ok, Rs.ofO_some, Option.map_some, isB, List.getElem?_cons_zero, List.getElem?_cons_succ, List.set_cons_zero, List.set_cons_succ, decide_eq_true_eq, eq_int, eq_str, Option.map_none, Mi.add_int, Mi.add_str0, Mi.add_tup0, opSub, opNeg, cmpI, opIs, opIsNot, biInt, biAbs, isN, atI_0, atI_1, atI_2, atI_3, Mi.ix_tup, Mi.ix_fro, Out.seq_nx, Out.seq_rt, truD, List.set_set, tgSet, if_true, if_false, List.length_cons, List.length_nil, Nat.zero_add, Nat.reduceAdd, Nat.reduceLeDiff, Bool.false_eq_true, eq_self, decide_true, decide_false, Bool.not_true, Bool.not_false, Int.reduceNeg])
      rw [gc_id rfl]
      exact ⟨rfl, rfl⟩
  · rw [decide_eq_false h1] at e1
    have hn : numOf r = none := by unfold numOf; rw [if_neg fun z => h1 ⟨z.1, z.2.1⟩]
    rw [hn]
    refine seq_wp (sIf_tt (s := st) (by unfold Mi.tOr Mi.tNot tTru; rw [show ((1 : Nat) : Int) = 1 from rfl, show ((4 : Nat) : Int) = 4 from rfl] at e1; rw [e1]; rfl) ?_)
    (try simp only [eV, eC, eBin, eUn, aNil, aCons, eTup, eLst, eBi, eMeth, tTru, Mi.tCmp, Mi.tAnd, Mi.tOr, Mi.tNot, eAnd, eOr, eNot, eIf, eChain, tOf, oNo, oSo, eSl, eCall, eIs, sSet, sExpr, sRet, sRetN, sNil, sAsg, sPut, sBrk, sCnt, tTrue, wp_bind, wp_ok, wps_nx, wps_rt, wps_bk, wps_ct, wps_toOut, Rs.bind_ok, Rs.ofO_some, Option.map_some, isB, List.getElem?_cons_zero, List.getElem?_cons_succ, List.set_cons_zero, List.set_cons_succ, decide_eq_true_eq, eq_int, eq_str, Option.map_none, Mi.add_int, Mi.add_str0, Mi.add_tup0, opSub, opNeg, cmpI, opIs, opIsNot, biInt, biAbs, isN, atI_0, atI_1, atI_2, atI_3, Mi.ix_tup, Mi.ix_fro, Out.seq_nx, Out.seq_rt, truD, List.set_set, tgSet, if_true, if_false, List.length_cons, List.length_nil, Nat.zero_add, Nat.reduceAdd, Nat.reduceLeDiff, Bool.false_eq_true, eq_self, decide_true, decide_false, Bool.not_true, Bool.not_false, Int.reduceNeg])
    rw [gc_id rfl]
    exact ⟨rfl, rfl⟩
theorem is_name_spec {r : List Nat} (hk : 1 ≤ k) (hr : r.length ≤ 100000) : callK T k i_is_name [.str (SX.S r)] st = .ok (.bl (nameL r)) st := by
  obtain ⟨k, rfl⟩ : ∃ j, k = j + 1 := ⟨k - 1, by omega⟩
  apply eq_of_wp
  refine call_wp (env := [some (.str (SX.S r)), none]) T_is_name rfl rfl ?_
  rw [fb_is_name, b_is_name]
  have e1 := chain_len (lo := 1) (hi := 12) (n := 0) (x := none) (r := r) (st := st) hr
  rw [show ((1 : Nat) : Int) = 1 from rfl, show ((12 : Nat) : Int) = 12 from rfl] at e1
  by_cases h1 : 1 ≤ r.length ∧ r.length ≤ 12
  · rw [decide_eq_true h1] at e1
    obtain ⟨c, r', rfl⟩ : ∃ c r', r = c :: r' := by
      cases r with
      | nil => simp at h1
      | cons a b => exact ⟨a, b, rfl⟩
    have e3 := ix0_S (c := c) (r := r') (st := st) (by rw [PySem.sizeLine_eq]; omega)
    have e4 := (in_ch (c := c) (z := "abcdefghijklmnopqrstuvwxyzABCDEFGHIJKLMNOPQRSTUVWXYZ") (st := st)).2
    by_cases h2 : capL c
    · rw [decide_eq_true (let_mem.mpr h2)] at e4
      refine seq_wp (sIf_ff (s := st) (by
        unfold Mi.tOr Mi.tNot
        rw [e1]
        simp only [Rs.bind_ok]
        (try simp only [eV, eC, eBin, eUn, aNil, aCons, eTup, eLst, eBi, eMeth, tTru, Mi.tCmp, Mi.tAnd, Mi.tOr, Mi.tNot, eAnd, eOr, eNot, eIf, eChain, tOf, oNo, oSo, eSl, eCall, eIs, sSet, sExpr, sRet, sRetN, sNil, sAsg, sPut, sBrk, sCnt, tTrue, wp_bind, wp_ok, wps_nx, wps_rt, wps_bk, wps_ct, wps_toOut, Rs.bind_ok, Rs.ofO_some, Option.map_some, isB, List.getElem?_cons_zero, List.getElem?_cons_succ, List.set_cons_zero, List.set_cons_succ, decide_eq_true_eq, eq_int, eq_str, Option.map_none, Mi.add_int, Mi.add_str0, Mi.add_tup0, opSub, opNeg, cmpI, opIs, opIsNot, biInt, biAbs, isN, atI_0, atI_1, atI_2, atI_3, Mi.ix_tup, Mi.ix_fro, Out.seq_nx, Out.seq_rt, truD, List.set_set, tgSet, if_true, if_false, List.length_cons, List.length_nil, Nat.zero_add, Nat.reduceAdd, Nat.reduceLeDiff, Bool.false_eq_true, eq_self, decide_true, decide_false, Bool.not_true, Bool.not_false, Int.reduceNeg, e3, e4])) ?_)
      rw [sNil, wps_nx]
      have lc := lc_pure (src := srcStr (eV 0)) (t := .nm 1) (c := tTrue) (f := eOr (eBin opIn (eV 1) (eC (.str "abcdefghijklmnopqrstuvwxyzABCDEFGHIJKLMNOPQRSTUVWXYZ"))) (eBin opIn (eV 1) (eC (.str "0123456789")))) (own := [1]) (env := [some (.str (SX.S (c :: r'))), none]) (st := st) (st0 := st) (as := c :: r') (enc := fun c => D.str (SX.S [c])) (g := none) (fun _ => true) (fun c => .bl (decide (capL c) || decide (digL c)))
        (by unfold srcStr; rw [show eV 0 [some (.str (SX.S (c :: r'))), none] st = .ok (.str (SX.S (c :: r'))) st from rfl]; rfl) (fun n z => by cases z) (fun a _ s _ => ⟨[some (.str (SX.S (c :: r'))), some (.str (SX.S [a]))], rfl, rfl, fun _ => by
          have x1 : eBin opIn (eV 1) (eC (.str "abcdefghijklmnopqrstuvwxyzABCDEFGHIJKLMNOPQRSTUVWXYZ")) [some (.str (SX.S (c :: r'))), some (.str (SX.S [a]))] s = .ok (.bl (decide (capL a))) s := by
            rw [bin_of (s1 := s) (s2 := s) (a := .str (SX.S [a])) (b := .str "abcdefghijklmnopqrstuvwxyzABCDEFGHIJKLMNOPQRSTUVWXYZ") rfl rfl, in_ch.1]
            show Rs.ok (D.bl (decide (a ∈ ("abcdefghijklmnopqrstuvwxyzABCDEFGHIJKLMNOPQRSTUVWXYZ" : Str).cps.toList))) s = _
            congr 2
            exact decide_eq_decide.mpr let_mem
          have x2 : eBin opIn (eV 1) (eC (.str "0123456789")) [some (.str (SX.S (c :: r'))), some (.str (SX.S [a]))] s = .ok (.bl (decide (digL a))) s := by
            rw [bin_of (s1 := s) (s2 := s) (a := .str (SX.S [a])) (b := .str "0123456789") rfl rfl, in_ch.1]
            show Rs.ok (D.bl (decide (a ∈ ("0123456789" : Str).cps.toList))) s = _
            congr 2
            exact decide_eq_decide.mpr dig_mem
          unfold eOr
          rw [x1]
          simp only [Rs.bind_ok]
          cases hh : decide (capL a) with
          | true => rfl
          | false => exact x2⟩) (by rw [PySem.sizeLine_eq]; omega) (fun n z => by cases z)
      rw [List.filter_eq_self.mpr (fun _ _ => rfl)] at lc
      have al := all_lc lc (Old.refl _)
      refine ret_of al ?_
      show (gcO st (.bl _) st).1 = _ ∧ (gcO st (.bl _) st).2 = st
      rw [gc_id rfl]
      refine ⟨?_, rfl⟩
      rw [nameL_cons, decide_eq_true h2, decide_eq_true (show r'.length ≤ 11 by have := h1.2; simp at this; omega)]
      rfl
    · rw [decide_eq_false (fun z => h2 (let_mem.mp z))] at e4
      refine seq_wp (sIf_tt (s := st) (by
        unfold Mi.tOr Mi.tNot
        rw [e1]
        simp only [Rs.bind_ok]
        (try simp only [eV, eC, eBin, eUn, aNil, aCons, eTup, eLst, eBi, eMeth, tTru, Mi.tCmp, Mi.tAnd, Mi.tOr, Mi.tNot, eAnd, eOr, eNot, eIf, eChain, tOf, oNo, oSo, eSl, eCall, eIs, sSet, sExpr, sRet, sRetN, sNil, sAsg, sPut, sBrk, sCnt, tTrue, wp_bind, wp_ok, wps_nx, wps_rt, wps_bk, wps_ct, wps_toOut, Rs.bind_ok, Rs.ofO_some, Option.map_some, isB, List.getElem?_cons_zero, List.getElem?_cons_succ, List.set_cons_zero, List.set_cons_succ, decide_eq_true_eq, eq_int, eq_str, Option.map_none, Mi.add_int, Mi.add_str0, Mi.add_tup0, opSub, opNeg, cmpI, opIs, opIsNot, biInt, biAbs, isN, atI_0, atI_1, atI_2, atI_3, Mi.ix_tup, Mi.ix_fro, Out.seq_nx, Out.seq_rt, truD, List.set_set, tgSet, if_true, if_false, List.length_cons, List.length_nil, Nat.zero_add, Nat.reduceAdd, Nat.reduceLeDiff, Bool.false_eq_true, eq_self, decide_true, decide_false, Bool.not_true, Bool.not_false, Int.reduceNeg, e3, e4])) ?_)
      (try simp only [eV, eC, eBin, eUn, aNil, aCons, eTup, eLst, eBi, eMeth, tTru, Mi.tCmp, Mi.tAnd, Mi.tOr, Mi.tNot, eAnd, eOr, eNot, eIf, eChain, tOf, oNo, oSo, eSl, eCall, eIs, sSet, sExpr, sRet, sRetN, sNil, sAsg, sPut, sBrk, sCnt, tTrue, wp_bind, wp_ok, wps_nx, wps_rt, wps_bk, wps_ct, wps_toOut, Rs.bind_ok, Rs.ofO_some, Option.map_some, isB, List.getElem?_cons_zero, List.getElem?_cons_succ, List.set_cons_zero, List.set_cons_succ, decide_eq_true_eq, eq_int, eq_str, Option.map_none, Mi.add_int, Mi.add_str0, Mi.add_tup0, opSub, opNeg, cmpI, opIs, opIsNot, biInt, biAbs, isN, atI_0, atI_1, atI_2, atI_3, Mi.ix_tup, Mi.ix_fro, Out.seq_nx, Out.seq_rt, truD, List.set_set, tgSet, if_true, if_false, List.length_cons, List.length_nil, Nat.zero_add, Nat.reduceAdd, Nat.reduceLeDiff, Bool.false_eq_true, eq_self, decide_true, decide_false, Bool.not_true, Bool.not_false, Int.reduceNeg])
      rw [gc_id rfl]
      refine ⟨?_, rfl⟩
      rw [nameL_cons, decide_eq_false h2]
      simp
  · rw [decide_eq_false h1] at e1
    refine seq_wp (sIf_tt (s := st) (by unfold Mi.tOr Mi.tNot; rw [e1]; rfl) ?_)
    (try simp only [eV, eC, eBin, eUn, aNil, aCons, eTup, eLst, eBi, eMeth, tTru, Mi.tCmp, Mi.tAnd, Mi.tOr, Mi.tNot, eAnd, eOr, eNot, eIf, eChain, tOf, oNo, oSo, eSl, eCall, eIs, sSet, sExpr, sRet, sRetN, sNil, sAsg, sPut, sBrk, sCnt, tTrue, wp_bind, wp_ok, wps_nx, wps_rt, wps_bk, wps_ct, wps_toOut, Rs.bind_ok, Rs.ofO_some, Option.map_some, isB, List.getElem?_cons_zero, List.getElem?_cons_succ, List.set_cons_zero, List.set_cons_succ, decide_eq_true_eq, eq_int, eq_str, Option.map_none, Mi.add_int, Mi.add_str0, Mi.add_tup0, opSub, opNeg, cmpI, opIs, opIsNot, biInt, biAbs, isN, atI_0, atI_1, atI_2, atI_3, Mi.ix_tup, Mi.ix_fro, Out.seq_nx, Out.seq_rt, truD, List.set_set, tgSet, if_true, if_false, List.length_cons, List.length_nil, Nat.zero_add, Nat.reduceAdd, Nat.reduceLeDiff, Bool.false_eq_true, eq_self, decide_true, decide_false, Bool.not_true, Bool.not_false, Int.reduceNeg])
    rw [gc_id rfl]
    refine ⟨?_, rfl⟩
    congr 1
    cases hn : nameL r with
    | false => rfl
    | true => exact absurd (nameL_len hn) h1
theorem head_of_spec {r : List Nat} (hk : 2 ≤ k) (hr : r.length ≤ 100000) : callK T k i_head_of [.str (SX.S r)] st = match headOf r with | some h => .ok h.d st | none => .ex ⟨"BadTerm", []⟩ st := by
  obtain ⟨k, rfl⟩ : ∃ j, k = j + 1 := ⟨k - 1, by omega⟩
  have e1 := is_name_spec (k := k) (r := r) (st := st) (by omega) hr
  have q1 : ("?" : Str) = SX.S [63] := by decide +kernel
  by_cases hn : nameL r = true
  · rw [show headOf r = some (.s (SX.S r)) by unfold headOf; rw [if_pos hn]]
    apply eq_of_wp
    refine call_wp (env := [some (.str (SX.S r)), none]) T_head_of rfl rfl ?_
    rw [fb_head_of, b_head_of]
    rw [hn] at e1
    refine seq_wp (sIf_tt (s := st) (by (try simp only [eV, eC, eBin, eUn, aNil, aCons, eTup, eLst, eBi, eMeth, tTru, Mi.tCmp, Mi.tAnd, Mi.tOr, Mi.tNot, eAnd, eOr, eNot, eIf, eChain, tOf, oNo, oSo, eSl, eCall, eIs, sSet, sExpr, sRet, sRetN, sNil, sAsg, sPut, sBrk, sCnt, tTrue, wp_bind, wp_ok, wps_nx, wps_rt, wps_bk, wps_ct, wps_toOut, Rs.bind_ok, Rs.ofO_some, Option.map_some, isB, List.getElem?_cons_zero, List.getElem?_cons_succ, List.set_cons_zero, List.set_cons_succ, decide_eq_true_eq, eq_int, eq_str, Option.map_none, Mi.add_int, Mi.add_str0, Mi.add_tup0, opSub, opNeg, cmpI, opIs, opIsNot, biInt, biAbs, isN, atI_0, atI_1, atI_2, atI_3, Mi.ix_tup, Mi.ix_fro, Out.seq_nx, Out.seq_rt, truD, List.set_set, tgSet, if_true, if_false, List.length_cons, List.length_nil, Nat.zero_add, Nat.reduceAdd, Nat.reduceLeDiff, Bool.false_eq_true, eq_self, decide_true, decide_false, Bool.not_true, Bool.not_false, Int.reduceNeg, e1])) ?_)
    (try simp only [eV, eC, eBin, eUn, aNil, aCons, eTup, eLst, eBi, eMeth, tTru, Mi.tCmp, Mi.tAnd, Mi.tOr, Mi.tNot, eAnd, eOr, eNot, eIf, eChain, tOf, oNo, oSo, eSl, eCall, eIs, sSet, sExpr, sRet, sRetN, sNil, sAsg, sPut, sBrk, sCnt, tTrue, wp_bind, wp_ok, wps_nx, wps_rt, wps_bk, wps_ct, wps_toOut, Rs.bind_ok, Rs.ofO_some, Option.map_some, isB, List.getElem?_cons_zero, List.getElem?_cons_succ, List.set_cons_zero, List.set_cons_succ, decide_eq_true_eq, eq_int, eq_str, Option.map_none, Mi.add_int, Mi.add_str0, Mi.add_tup0, opSub, opNeg, cmpI, opIs, opIsNot, biInt, biAbs, isN, atI_0, atI_1, atI_2, atI_3, Mi.ix_tup, Mi.ix_fro, Out.seq_nx, Out.seq_rt, truD, List.set_set, tgSet, if_true, if_false, List.length_cons, List.length_nil, Nat.zero_add, Nat.reduceAdd, Nat.reduceLeDiff, Bool.false_eq_true, eq_self, decide_true, decide_false, Bool.not_true, Bool.not_false, Int.reduceNeg])
    rw [gc_id rfl]
    exact ⟨rfl, rfl⟩
  · have hn' : nameL r = false := by simpa using hn
    rw [hn'] at e1
    have e2 := number_of_spec (k := k) (r := r.drop 1) (st := st) (by omega) (by rw [List.length_drop]; omega)
    have s1 := sl_from (l := r) (n := 1) (st := st) (by rw [PySem.sizeLine_eq]; omega)
    have s2 := sl_to (l := r) (n := 1) (st := st) (by rw [PySem.sizeLine_eq]; omega)
    rw [show ((1 : Nat) : Int) = 1 from rfl] at s1 s2
    have low : ∀ {P : Rs D → Prop}, (∀ v, r.take 1 = [63] → numOf (r.drop 1) = some v → headOf r = some (.i v)) := fun {P} v h1 h2 => by
      unfold headOf
      rw [if_neg hn]
      cases r with
      | nil => cases h1
      | cons c r' =>
        simp at h1
        subst h1
        simp at h2
        show (numOf r').map Hd.i = _
        rw [h2]
        rfl
    have low2 : (r.take 1 ≠ [63] ∨ numOf (r.drop 1) = none) → headOf r = none := fun h => by
      unfold headOf
      rw [if_neg hn]
      cases r with
      | nil => rfl
      | cons c r' =>
        split
        · rename_i r'' e
          cases e
          rcases h with h | h
          · simp at h
          · simp at h; rw [h]; rfl
        · rfl
    by_cases hb : r.take 1 ≠ [63] ∨ numOf (r.drop 1) = none
    · rw [low2 hb]
      apply ex_wp
      refine call_wp (env := [some (.str (SX.S r)), none]) T_head_of rfl rfl ?_
      rw [fb_head_of, b_head_of]
      refine seq_wp (sIf_ff (s := st) (by (try simp only [eV, eC, eBin, eUn, aNil, aCons, eTup, eLst, eBi, eMeth, tTru, Mi.tCmp, Mi.tAnd, Mi.tOr, Mi.tNot, eAnd, eOr, eNot, eIf, eChain, tOf, oNo, oSo, eSl, eCall, eIs, sSet, sExpr, sRet, sRetN, sNil, sAsg, sPut, sBrk, sCnt, tTrue, wp_bind, wp_ok, wps_nx, wps_rt, wps_bk, wps_ct, wps_toOut, Rs.bind_ok, Rs.ofO_some, Option.map_some, isB, List.getElem?_cons_zero, List.getElem?_cons_succ, List.set_cons_zero, List.set_cons_succ, decide_eq_true_eq, eq_int, eq_str, Option.map_none, Mi.add_int, Mi.add_str0, Mi.add_tup0, opSub, opNeg, cmpI, opIs, opIsNot, biInt, biAbs, isN, atI_0, atI_1, atI_2, atI_3, Mi.ix_tup, Mi.ix_fro, Out.seq_nx, Out.seq_rt, truD, List.set_set, tgSet, if_true, if_false, List.length_cons, List.length_nil, Nat.zero_add, Nat.reduceAdd, Nat.reduceLeDiff, Bool.false_eq_true, eq_self, decide_true, decide_false, Bool.not_true, Bool.not_false, Int.reduceNeg, e1])) ?_)
      rw [sNil, wps_nx]
      refine seq_wp ?_
      (try simp only [eV, eC, eBin, eUn, aNil, aCons, eTup, eLst, eBi, eMeth, tTru, Mi.tCmp, Mi.tAnd, Mi.tOr, Mi.tNot, eAnd, eOr, eNot, eIf, eChain, tOf, oNo, oSo, eSl, eCall, eIs, sSet, sExpr, sRet, sRetN, sNil, sAsg, sPut, sBrk, sCnt, tTrue, wp_bind, wp_ok, wps_nx, wps_rt, wps_bk, wps_ct, wps_toOut, Rs.bind_ok, Rs.ofO_some, Option.map_some, isB, List.getElem?_cons_zero, List.getElem?_cons_succ, List.set_cons_zero, List.set_cons_succ, decide_eq_true_eq, eq_int, eq_str, Option.map_none, Mi.add_int, Mi.add_str0, Mi.add_tup0, opSub, opNeg, cmpI, opIs, opIsNot, biInt, biAbs, isN, atI_0, atI_1, atI_2, atI_3, Mi.ix_tup, Mi.ix_fro, Out.seq_nx, Out.seq_rt, truD, List.set_set, tgSet, if_true, if_false, List.length_cons, List.length_nil, Nat.zero_add, Nat.reduceAdd, Nat.reduceLeDiff, Bool.false_eq_true, eq_self, decide_true, decide_false, Bool.not_true, Bool.not_false, Int.reduceNeg, s1, e2])
      refine seq_wp (sIf_tt (s := st) (by
        rw [q1]
        by_cases h1 : r.take 1 = [63]
        · have h2 : numOf (r.drop 1) = none := by rcases hb with z | z; exact absurd h1 z; exact z
          rw [h2]
          (try simp only [eV, eC, eBin, eUn, aNil, aCons, eTup, eLst, eBi, eMeth, tTru, Mi.tCmp, Mi.tAnd, Mi.tOr, Mi.tNot, eAnd, eOr, eNot, eIf, eChain, tOf, oNo, oSo, eSl, eCall, eIs, sSet, sExpr, sRet, sRetN, sNil, sAsg, sPut, sBrk, sCnt, tTrue, wp_bind, wp_ok, wps_nx, wps_rt, wps_bk, wps_ct, wps_toOut, Rs.bind_ok, Rs.ofO_some, Option.map_some, isB, List.getElem?_cons_zero, List.getElem?_cons_succ, List.set_cons_zero, List.set_cons_succ, decide_eq_true_eq, eq_int, eq_str, Option.map_none, Mi.add_int, Mi.add_str0, Mi.add_tup0, opSub, opNeg, cmpI, opIs, opIsNot, biInt, biAbs, isN, atI_0, atI_1, atI_2, atI_3, Mi.ix_tup, Mi.ix_fro, Out.seq_nx, Out.seq_rt, truD, List.set_set, tgSet, if_true, if_false, List.length_cons, List.length_nil, Nat.zero_add, Nat.reduceAdd, Nat.reduceLeDiff, Bool.false_eq_true, eq_self, decide_true, decide_false, Bool.not_true, Bool.not_false, Int.reduceNeg, s2, h1, ne_str])
        · have : SX.S (r.take 1) ≠ SX.S [63] := fun z => h1 (SX.S_inj z)
          (try simp only [eV, eC, eBin, eUn, aNil, aCons, eTup, eLst, eBi, eMeth, tTru, Mi.tCmp, Mi.tAnd, Mi.tOr, Mi.tNot, eAnd, eOr, eNot, eIf, eChain, tOf, oNo, oSo, eSl, eCall, eIs, sSet, sExpr, sRet, sRetN, sNil, sAsg, sPut, sBrk, sCnt, tTrue, wp_bind, wp_ok, wps_nx, wps_rt, wps_bk, wps_ct, wps_toOut, Rs.bind_ok, Rs.ofO_some, Option.map_some, isB, List.getElem?_cons_zero, List.getElem?_cons_succ, List.set_cons_zero, List.set_cons_succ, decide_eq_true_eq, eq_int, eq_str, Option.map_none, Mi.add_int, Mi.add_str0, Mi.add_tup0, opSub, opNeg, cmpI, opIs, opIsNot, biInt, biAbs, isN, atI_0, atI_1, atI_2, atI_3, Mi.ix_tup, Mi.ix_fro, Out.seq_nx, Out.seq_rt, truD, List.set_set, tgSet, if_true, if_false, List.length_cons, List.length_nil, Nat.zero_add, Nat.reduceAdd, Nat.reduceLeDiff, Bool.false_eq_true, eq_self, decide_true, decide_false, Bool.not_true, Bool.not_false, Int.reduceNeg, s2, ne_str, this, ne_eq])) ?_)
      unfold sRaiseP
      refine ⟨rfl, ?_⟩
      exact gcX_o (Old.refl _)
    · have h1 : r.take 1 = [63] := Classical.byContradiction fun z => hb (.inl z)
      obtain ⟨v, h2⟩ : ∃ v, numOf (r.drop 1) = some v := by
        cases e : numOf (r.drop 1) with
        | none => exact absurd (.inr e) hb
        | some v => exact ⟨v, rfl⟩
      rw [low (P := fun _ => True) v h1 h2]
      apply eq_of_wp
      refine call_wp (env := [some (.str (SX.S r)), none]) T_head_of rfl rfl ?_
      rw [fb_head_of, b_head_of]
      refine seq_wp (sIf_ff (s := st) (by (try simp only [eV, eC, eBin, eUn, aNil, aCons, eTup, eLst, eBi, eMeth, tTru, Mi.tCmp, Mi.tAnd, Mi.tOr, Mi.tNot, eAnd, eOr, eNot, eIf, eChain, tOf, oNo, oSo, eSl, eCall, eIs, sSet, sExpr, sRet, sRetN, sNil, sAsg, sPut, sBrk, sCnt, tTrue, wp_bind, wp_ok, wps_nx, wps_rt, wps_bk, wps_ct, wps_toOut, Rs.bind_ok, Rs.ofO_some, Option.map_some, isB, List.getElem?_cons_zero, List.getElem?_cons_succ, List.set_cons_zero, List.set_cons_succ, decide_eq_true_eq, eq_int, eq_str, Option.map_none, Mi.add_int, Mi.add_str0, Mi.add_tup0, opSub, opNeg, cmpI, opIs, opIsNot, biInt, biAbs, isN, atI_0, atI_1, atI_2, atI_3, Mi.ix_tup, Mi.ix_fro, Out.seq_nx, Out.seq_rt, truD, List.set_set, tgSet, if_true, if_false, List.length_cons, List.length_nil, Nat.zero_add, Nat.reduceAdd, Nat.reduceLeDiff, Bool.false_eq_true, eq_self, decide_true, decide_false, Bool.not_true, Bool.not_false, Int.reduceNeg, e1])) ?_)
      rw [sNil, wps_nx]
      rw [h2] at e2
      refine seq_wp ?_
      (try simp only [eV, eC, eBin, eUn, aNil, aCons, eTup, eLst, eBi, eMeth, tTru, Mi.tCmp, Mi.tAnd, Mi.tOr, Mi.tNot, eAnd, eOr, eNot, eIf, eChain, tOf, oNo, oSo, eSl, eCall, eIs, sSet, sExpr, sRet, sRetN, sNil, sAsg, sPut, sBrk, sCnt, tTrue, wp_bind, wp_ok, wps_nx, wps_rt, wps_bk, wps_ct, wps_toOut, Rs.bind_ok, Rs.ofO_some, Option.map_some, isB, List.getElem?_cons_zero, List.getElem?_cons_succ, List.set_cons_zero, List.set_cons_succ, decide_eq_true_eq, eq_int, eq_str, Option.map_none, Mi.add_int, Mi.add_str0, Mi.add_tup0, opSub, opNeg, cmpI, opIs, opIsNot, biInt, biAbs, isN, atI_0, atI_1, atI_2, atI_3, Mi.ix_tup, Mi.ix_fro, Out.seq_nx, Out.seq_rt, truD, List.set_set, tgSet, if_true, if_false, List.length_cons, List.length_nil, Nat.zero_add, Nat.reduceAdd, Nat.reduceLeDiff, Bool.false_eq_true, eq_self, decide_true, decide_false, Bool.not_true, Bool.not_false, Int.reduceNeg, s1, e2])
      refine seq_wp (sIf_ff (s := st) (by rw [q1]; (try simp only [eV, eC, eBin, eUn, aNil, aCons, eTup, eLst, eBi, eMeth, tTru, Mi.tCmp, Mi.tAnd, Mi.tOr, Mi.tNot, eAnd, eOr, eNot, eIf, eChain, tOf, oNo, oSo, eSl, eCall, eIs, sSet, sExpr, sRet, sRetN, sNil, sAsg, sPut, sBrk, sCnt, tTrue, wp_bind, wp_ok, wps_nx, wps_rt, wps_bk, wps_ct, wps_toOut, Rs.bind_ok, Rs.ofO_some, Option.map_some, isB, List.getElem?_cons_zero, List.getElem?_cons_succ, List.set_cons_zero, List.set_cons_succ, decide_eq_true_eq, eq_int, eq_str, Option.map_none, Mi.add_int, Mi.add_str0, Mi.add_tup0, opSub, opNeg, cmpI, opIs, opIsNot, biInt, biAbs, isN, atI_0, atI_1, atI_2, atI_3, Mi.ix_tup, Mi.ix_fro, Out.seq_nx, Out.seq_rt, truD, List.set_set, tgSet, if_true, if_false, List.length_cons, List.length_nil, Nat.zero_add, Nat.reduceAdd, Nat.reduceLeDiff, Bool.false_eq_true, eq_self, decide_true, decide_false, Bool.not_true, Bool.not_false, Int.reduceNeg, s2, h1, ne_str])) ?_)
      rw [sNil, wps_nx]
      (try simp only [eV, eC, eBin, eUn, aNil, aCons, eTup, eLst, eBi, eMeth, tTru, Mi.tCmp, Mi.tAnd, Mi.tOr, Mi.tNot, eAnd, eOr, eNot, eIf, eChain, tOf, oNo, oSo, eSl, eCall, eIs, sSet, sExpr, sRet, sRetN, sNil, sAsg, sPut, sBrk, sCnt, tTrue, wp_bind, wp_ok, wps_nx, wps_rt, wps_bk, wps_ct, wps_toOut, Rs.bind_ok, Rs.ofO_some, Option.map_some, isB, List.getElem?_cons_zero, List.getElem?_cons_succ, List.set_cons_zero, List.set_cons_succ, decide_eq_true_eq, eq_int, eq_str, Option.map_none, Mi.add_int, Mi.add_str0, Mi.add_tup0, opSub, opNeg, cmpI, opIs, opIsNot, biInt, biAbs, isN, atI_0, atI_1, atI_2, atI_3, Mi.ix_tup, Mi.ix_fro, Out.seq_nx, Out.seq_rt, truD, List.set_set, tgSet, if_true, if_false, List.length_cons, List.length_nil, Nat.zero_add, Nat.reduceAdd, Nat.reduceLeDiff, Bool.false_eq_true, eq_self, decide_true, decide_false, Bool.not_true, Bool.not_false, Int.reduceNeg])
      rw [gc_id rfl]
      exact ⟨rfl, rfl⟩
end
/-! ### a text read as a term -/
abbrev btX : Exn := ⟨"BadTerm", []⟩
section
variable {k c n q : Nat} {s : Store} {as : List Nat} {stk : List Fr}
theorem wt_last {a : Nat} (h : WtR c n s q (a :: as) stk) : opIx (.adr q) (.int (-1)) s = some (.adr a, s) := by
  have e := h.at_
  rw [List.reverse_cons, List.map_append] at e
  show (match seqOf s (.adr q) with | some xs => (L2.atI xs (-1)).map fun d => (d, s) | none => _) = _
  rw [show seqOf s (.adr q) = some (as.reverse.map D.adr ++ [D.adr a]) from e]
  dsimp only
  rw [atI_last]
  rfl
theorem wt_2last {a b : Nat} (h : WtR c n s q (a :: b :: as) stk) : opIx (.adr q) (.int (-2)) s = some (.adr b, s) := by
  have e := h.at_
  rw [List.reverse_cons, List.reverse_cons, List.map_append, List.map_append, List.append_assoc] at e
  show (match seqOf s (.adr q) with | some xs => (L2.atI xs (-2)).map fun d => (d, s) | none => _) = _
  rw [show seqOf s (.adr q) = some (as.reverse.map D.adr ++ [D.adr b, D.adr a]) from e]
  dsimp only
  rw [atI_2last]
  rfl
theorem tru_row {a : Nat} {f : Fr} (e : lstAt s a = some (frD f)) : truD (.adr a) s = some f.isSome := by
  show (match s[a]? with | some (O.lst xs) => some (!xs.isEmpty) | some (O.dct xs) => some (!xs.isEmpty) | _ => none) = _
  rw [lstAt_iff.mp e]
  cases f with
  | none => rfl
  | some p => rfl
theorem closed_spec (hk : 1 ≤ k) (h : WtR c n s q as stk) (hn : n < s.length) (lw : LowS stk) (hz : stN stk ≤ 100000) :
    (match stepW stk [41] with
      | some stk' => ∃ as' s', callK T k i_closed [.adr q] s = .ok (.adr s.length) s' ∧ WtR c n s' s.length as' stk' ∧ (∀ i, i < c ∨ i = n → s'[i]? = s[i]?) ∧ s.length ≤ s'.length
      | none => callK T k i_closed [.adr q] s = .ex btX s) := by
  obtain ⟨k, rfl⟩ : ∃ j, k = j + 1 := ⟨k - 1, by omega⟩
  have lens := h.fr.len
  have hlen : biLen [.adr q] s = some (.int (stk.length : Nat), s) := by rw [len_lst h.at_, List.length_map, List.length_reverse, lens]
  have bad1 : stk.length < 2 → callK T (k + 1) i_closed [.adr q] s = .ex btX s := fun hl => by
    apply ex_wp
    refine call_wp (env := [some (.adr q), none, none]) T_closed rfl rfl ?_
    rw [fb_closed, b_closed]
    refine seq_wp (sIf_tt (s := s) (by (try simp only [eV, eC, eBin, eUn, aNil, aCons, eTup, eLst, eBi, eMeth, tTru, Mi.tCmp, Mi.tAnd, Mi.tOr, Mi.tNot, eAnd, eOr, eNot, eIf, eChain, tOf, oNo, oSo, eSl, eCall, eIs, sSet, sExpr, sRet, sRetN, sNil, sAsg, sPut, sBrk, sCnt, tTrue, wp_bind, wp_ok, wps_nx, wps_rt, wps_bk, wps_ct, wps_toOut, Rs.bind_ok, Rs.ofO_some, Option.map_some, isB, List.getElem?_cons_zero, List.getElem?_cons_succ, List.set_cons_zero, List.set_cons_succ, decide_eq_true_eq, eq_int, eq_str, Option.map_none, Mi.add_int, Mi.add_str0, Mi.add_tup0, opSub, opNeg, cmpI, opIs, opIsNot, biInt, biAbs, isN, atI_0, atI_1, atI_2, atI_3, Mi.ix_tup, Mi.ix_fro, Out.seq_nx, Out.seq_rt, truD, List.set_set, tgSet, if_true, if_false, List.length_cons, List.length_nil, Nat.zero_add, Nat.reduceAdd, Nat.reduceLeDiff, Bool.false_eq_true, eq_self, decide_true, decide_false, Bool.not_true, Bool.not_false, Int.reduceNeg, hlen, show ((stk.length : Nat) : Int) < 2 by omega])) ?_)
    unfold sRaiseP
    exact ⟨rfl, gcX_o (Old.refl _)⟩
  cases stk with
  | nil => exact bad1 (by simp)
  | cons f r =>
    cases r with
    | nil =>
      have e : stepW [f] [41] = none := by
        unfold stepW
        dsimp only
        rw [if_neg (by decide), if_pos rfl]
        cases f with
        | none => rfl
        | some p => rfl
      rw [e]
      exact bad1 (by simp)
    | cons f2 r2 =>
      obtain ⟨a, b, as2, rfl⟩ : ∃ a b as2, as = a :: b :: as2 := by
        cases as with
        | nil => simp at lens
        | cons a as => cases as with
          | nil => simp at lens
          | cons b as => exact ⟨a, b, as, rfl⟩
      have fr := h.fr
      obtain ⟨x1, x2, x3⟩ : lstAt s a = some (frD f) ∧ lstAt s b = some (frD f2) ∧ True := by
        cases fr with | cons x t => cases t with | cons y t => exact ⟨x, y, trivial⟩
      have w1 := wt_last h
      have w2 := wt_2last h
      have t1 := tru_row x1
      cases f with
      | none =>
        have e : stepW (none :: f2 :: r2) [41] = none := by
          unfold stepW
          dsimp only
          rw [if_neg (by decide), if_pos rfl]
        rw [e]
        apply ex_wp
        refine call_wp (env := [some (.adr q), none, none]) T_closed rfl rfl ?_
        rw [fb_closed, b_closed]
        refine seq_wp (sIf_tt (s := s) (tor_f (s := s) (by (try simp only [eV, eC, eBin, eUn, aNil, aCons, eTup, eLst, eBi, eMeth, tTru, Mi.tCmp, Mi.tAnd, Mi.tOr, Mi.tNot, eAnd, eOr, eNot, eIf, eChain, tOf, oNo, oSo, eSl, eCall, eIs, sSet, sExpr, sRet, sRetN, sNil, sAsg, sPut, sBrk, sCnt, tTrue, wp_bind, wp_ok, wps_nx, wps_rt, wps_bk, wps_ct, wps_toOut, Rs.bind_ok, Rs.ofO_some, Option.map_some, isB, List.getElem?_cons_zero, List.getElem?_cons_succ, List.set_cons_zero, List.set_cons_succ, decide_eq_true_eq, eq_int, eq_str, Option.map_none, Mi.add_int, Mi.add_str0, Mi.add_tup0, opSub, opNeg, cmpI, opIs, opIsNot, biInt, biAbs, isN, atI_0, atI_1, atI_2, atI_3, Mi.ix_tup, Mi.ix_fro, Out.seq_nx, Out.seq_rt, truD, List.set_set, tgSet, if_true, if_false, List.length_cons, List.length_nil, Nat.zero_add, Nat.reduceAdd, Nat.reduceLeDiff, Bool.false_eq_true, eq_self, decide_true, decide_false, Bool.not_true, Bool.not_false, Int.reduceNeg, hlen, show ¬ (((r2.length + 1 + 1 : Nat)) : Int) < 2 by omega])) (tnot_of (tru_of1 (d := .adr a) (s := s) (by (try simp only [eV, eC, eBin, eUn, aNil, aCons, eTup, eLst, eBi, eMeth, tTru, Mi.tCmp, Mi.tAnd, Mi.tOr, Mi.tNot, eAnd, eOr, eNot, eIf, eChain, tOf, oNo, oSo, eSl, eCall, eIs, sSet, sExpr, sRet, sRetN, sNil, sAsg, sPut, sBrk, sCnt, tTrue, wp_bind, wp_ok, wps_nx, wps_rt, wps_bk, wps_ct, wps_toOut, Rs.bind_ok, Rs.ofO_some, Option.map_some, isB, List.getElem?_cons_zero, List.getElem?_cons_succ, List.set_cons_zero, List.set_cons_succ, decide_eq_true_eq, eq_int, eq_str, Option.map_none, Mi.add_int, Mi.add_str0, Mi.add_tup0, opSub, opNeg, cmpI, opIs, opIsNot, biInt, biAbs, isN, atI_0, atI_1, atI_2, atI_3, Mi.ix_tup, Mi.ix_fro, Out.seq_nx, Out.seq_rt, truD, List.set_set, tgSet, if_true, if_false, List.length_cons, List.length_nil, Nat.zero_add, Nat.reduceAdd, Nat.reduceLeDiff, Bool.false_eq_true, eq_self, decide_true, decide_false, Bool.not_true, Bool.not_false, Int.reduceNeg, w1])) t1))) ?_)
        unfold sRaiseP
        exact ⟨rfl, gcX_o (Old.refl _)⟩
      | some p =>
        obtain ⟨h1, ts⟩ := p
        obtain ⟨h2, ts2, rfl⟩ : ∃ h2 ts2, f2 = some (h2, ts2) := by
          cases f2 with
          | none => exact absurd rfl (lw none (by simp))
          | some p => exact ⟨p.1, p.2, rfl⟩
        have e : stepW (some (h1, ts) :: some (h2, ts2) :: r2) [41] = some (some (h2, ts2 ++ [.mk h1 ts]) :: r2) := by
          unfold stepW
          dsimp only
          rw [if_neg (by decide), if_pos rfl]
        rw [e]
        have hl := h.lt
        have nd := List.nodup_cons.mp h.nd
        have nd2 := List.nodup_cons.mp nd.2
        have hla := hl a (by simp)
        have hlb := hl b (by simp)
        have hlq := hl q (by simp)
        have lob := h.lo b (by simp)
        have ne_ab : a ≠ b := fun z => nd2.1 (by rw [z]; exact List.mem_cons_self ..)
        have ne_bq : b ≠ q := fun z => nd.1 (by rw [← z]; simp)
        have ls := Tm.len_sizes ts2
        have ls0 := Tm.len_sizes ts
        have hz2 : 1 + Tm.sizes ts + (1 + Tm.sizes ts2) ≤ 100000 := by
          unfold stN at hz
          rw [List.map_cons, List.map_cons, List.sum_cons, List.sum_cons] at hz
          simp only [frN] at hz
          omega
        -- what the body does
        have W : (callK T (k + 1) i_closed [.adr q] s).wp (fun d s' => d = .adr s.length ∧ s' = s.set b (O.lst (frD (some (h2, ts2 ++ [Tm.mk h1 ts])))) ++ [O.lst ((b :: as2).reverse.map D.adr)]) NoX := by
          refine call_wp (env := [some (.adr q), none, none]) T_closed rfl rfl ?_
          rw [fb_closed, b_closed]
          refine seq_wp (sIf_ff (s := s) (tor_f (s := s) (by (try simp only [eV, eC, eBin, eUn, aNil, aCons, eTup, eLst, eBi, eMeth, tTru, Mi.tCmp, Mi.tAnd, Mi.tOr, Mi.tNot, eAnd, eOr, eNot, eIf, eChain, tOf, oNo, oSo, eSl, eCall, eIs, sSet, sExpr, sRet, sRetN, sNil, sAsg, sPut, sBrk, sCnt, tTrue, wp_bind, wp_ok, wps_nx, wps_rt, wps_bk, wps_ct, wps_toOut, Rs.bind_ok, Rs.ofO_some, Option.map_some, isB, List.getElem?_cons_zero, List.getElem?_cons_succ, List.set_cons_zero, List.set_cons_succ, decide_eq_true_eq, eq_int, eq_str, Option.map_none, Mi.add_int, Mi.add_str0, Mi.add_tup0, opSub, opNeg, cmpI, opIs, opIsNot, biInt, biAbs, isN, atI_0, atI_1, atI_2, atI_3, Mi.ix_tup, Mi.ix_fro, Out.seq_nx, Out.seq_rt, truD, List.set_set, tgSet, if_true, if_false, List.length_cons, List.length_nil, Nat.zero_add, Nat.reduceAdd, Nat.reduceLeDiff, Bool.false_eq_true, eq_self, decide_true, decide_false, Bool.not_true, Bool.not_false, Int.reduceNeg, hlen, show ¬ (((r2.length + 1 + 1 : Nat)) : Int) < 2 by omega])) (tnot_of (tru_of1 (d := .adr a) (s := s) (by (try simp only [eV, eC, eBin, eUn, aNil, aCons, eTup, eLst, eBi, eMeth, tTru, Mi.tCmp, Mi.tAnd, Mi.tOr, Mi.tNot, eAnd, eOr, eNot, eIf, eChain, tOf, oNo, oSo, eSl, eCall, eIs, sSet, sExpr, sRet, sRetN, sNil, sAsg, sPut, sBrk, sCnt, tTrue, wp_bind, wp_ok, wps_nx, wps_rt, wps_bk, wps_ct, wps_toOut, Rs.bind_ok, Rs.ofO_some, Option.map_some, isB, List.getElem?_cons_zero, List.getElem?_cons_succ, List.set_cons_zero, List.set_cons_succ, decide_eq_true_eq, eq_int, eq_str, Option.map_none, Mi.add_int, Mi.add_str0, Mi.add_tup0, opSub, opNeg, cmpI, opIs, opIsNot, biInt, biAbs, isN, atI_0, atI_1, atI_2, atI_3, Mi.ix_tup, Mi.ix_fro, Out.seq_nx, Out.seq_rt, truD, List.set_set, tgSet, if_true, if_false, List.length_cons, List.length_nil, Nat.zero_add, Nat.reduceAdd, Nat.reduceLeDiff, Bool.false_eq_true, eq_self, decide_true, decide_false, Bool.not_true, Bool.not_false, Int.reduceNeg, w1])) t1))) ?_)
          rw [sNil, wps_nx]
          refine seq_wp (set_of (d := .adr a) (s := s) (by (try simp only [eV, eC, eBin, eUn, aNil, aCons, eTup, eLst, eBi, eMeth, tTru, Mi.tCmp, Mi.tAnd, Mi.tOr, Mi.tNot, eAnd, eOr, eNot, eIf, eChain, tOf, oNo, oSo, eSl, eCall, eIs, sSet, sExpr, sRet, sRetN, sNil, sAsg, sPut, sBrk, sCnt, tTrue, wp_bind, wp_ok, wps_nx, wps_rt, wps_bk, wps_ct, wps_toOut, Rs.bind_ok, Rs.ofO_some, Option.map_some, isB, List.getElem?_cons_zero, List.getElem?_cons_succ, List.set_cons_zero, List.set_cons_succ, decide_eq_true_eq, eq_int, eq_str, Option.map_none, Mi.add_int, Mi.add_str0, Mi.add_tup0, opSub, opNeg, cmpI, opIs, opIsNot, biInt, biAbs, isN, atI_0, atI_1, atI_2, atI_3, Mi.ix_tup, Mi.ix_fro, Out.seq_nx, Out.seq_rt, truD, List.set_set, tgSet, if_true, if_false, List.length_cons, List.length_nil, Nat.zero_add, Nat.reduceAdd, Nat.reduceLeDiff, Bool.false_eq_true, eq_self, decide_true, decide_false, Bool.not_true, Bool.not_false, Int.reduceNeg, w1])) ?_)
          refine seq_wp (set_of (d := .adr b) (s := s) (by (try simp only [eV, eC, eBin, eUn, aNil, aCons, eTup, eLst, eBi, eMeth, tTru, Mi.tCmp, Mi.tAnd, Mi.tOr, Mi.tNot, eAnd, eOr, eNot, eIf, eChain, tOf, oNo, oSo, eSl, eCall, eIs, sSet, sExpr, sRet, sRetN, sNil, sAsg, sPut, sBrk, sCnt, tTrue, wp_bind, wp_ok, wps_nx, wps_rt, wps_bk, wps_ct, wps_toOut, Rs.bind_ok, Rs.ofO_some, Option.map_some, isB, List.getElem?_cons_zero, List.getElem?_cons_succ, List.set_cons_zero, List.set_cons_succ, decide_eq_true_eq, eq_int, eq_str, Option.map_none, Mi.add_int, Mi.add_str0, Mi.add_tup0, opSub, opNeg, cmpI, opIs, opIsNot, biInt, biAbs, isN, atI_0, atI_1, atI_2, atI_3, Mi.ix_tup, Mi.ix_fro, Out.seq_nx, Out.seq_rt, truD, List.set_set, tgSet, if_true, if_false, List.length_cons, List.length_nil, Nat.zero_add, Nat.reduceAdd, Nat.reduceLeDiff, Bool.false_eq_true, eq_self, decide_true, decide_false, Bool.not_true, Bool.not_false, Int.reduceNeg, w2])) ?_)
          have i0 : opIx (.adr a) (.int 0) s = some (h1.d, s) := by
            show (match seqOf s (.adr a) with | some xs => (L2.atI xs 0).map fun d => (d, s) | none => _) = _
            rw [show seqOf s (.adr a) = some (h1.d :: ts.map Tm.d) from x1]
            dsimp only
            rw [atI_0]
            rfl
          have sl : opSl (.adr a) (some 1) none s = some (.adr s.length, s ++ [O.lst (ts.map Tm.d)]) := by
            show (lstAt s a).map _ = _
            rw [show lstAt s a = some (h1.d :: ts.map Tm.d) from x1]
            show some _ = _
            dsimp only
            rw [cutD_tail]
          have tp : biTuple [.adr s.length] (s ++ [O.lst (ts.map Tm.d)]) = some (.tup (ts.map Tm.d), s ++ [O.lst (ts.map Tm.d)]) := tup_lst lst_new
          have ap : mdAppend (.adr b) [.tup [h1.d, .tup (ts.map Tm.d)]] (s ++ [O.lst (ts.map Tm.d)]) = some (.non, (s ++ [O.lst (ts.map Tm.d)]).set b (O.lst (frD (some (h2, ts2 ++ [Tm.mk h1 ts]))))) := by
            have := app_lst (d := .tup [h1.d, .tup (ts.map Tm.d)]) (lst_app (g := [O.lst (ts.map Tm.d)]) x2) (by simp [frD]; rw [PySem.sizeLine_eq]; omega)
            rw [this]
            simp [frD, Tm.d_mk, Tm.ds_map]
          refine seq_wp (expr_of (d := .non) (s := (s ++ [O.lst (ts.map Tm.d)]).set b (O.lst (frD (some (h2, ts2 ++ [Tm.mk h1 ts]))))) (meth_of (a := .adr b) (s1 := s) (as := [.tup [h1.d, .tup (ts.map Tm.d)]]) (s2 := s ++ [O.lst (ts.map Tm.d)]) (by (try simp only [eV, eC, eBin, eUn, aNil, aCons, eTup, eLst, eBi, eMeth, tTru, Mi.tCmp, Mi.tAnd, Mi.tOr, Mi.tNot, eAnd, eOr, eNot, eIf, eChain, tOf, oNo, oSo, eSl, eCall, eIs, sSet, sExpr, sRet, sRetN, sNil, sAsg, sPut, sBrk, sCnt, tTrue, wp_bind, wp_ok, wps_nx, wps_rt, wps_bk, wps_ct, wps_toOut, Rs.bind_ok, Rs.ofO_some, Option.map_some, isB, List.getElem?_cons_zero, List.getElem?_cons_succ, List.set_cons_zero, List.set_cons_succ, decide_eq_true_eq, eq_int, eq_str, Option.map_none, Mi.add_int, Mi.add_str0, Mi.add_tup0, opSub, opNeg, cmpI, opIs, opIsNot, biInt, biAbs, isN, atI_0, atI_1, atI_2, atI_3, Mi.ix_tup, Mi.ix_fro, Out.seq_nx, Out.seq_rt, truD, List.set_set, tgSet, if_true, if_false, List.length_cons, List.length_nil, Nat.zero_add, Nat.reduceAdd, Nat.reduceLeDiff, Bool.false_eq_true, eq_self, decide_true, decide_false, Bool.not_true, Bool.not_false, Int.reduceNeg])) (ty_lst x2) (arg1_of (by (try simp only [eV, eC, eBin, eUn, aNil, aCons, eTup, eLst, eBi, eMeth, tTru, Mi.tCmp, Mi.tAnd, Mi.tOr, Mi.tNot, eAnd, eOr, eNot, eIf, eChain, tOf, oNo, oSo, eSl, eCall, eIs, sSet, sExpr, sRet, sRetN, sNil, sAsg, sPut, sBrk, sCnt, tTrue, wp_bind, wp_ok, wps_nx, wps_rt, wps_bk, wps_ct, wps_toOut, Rs.bind_ok, Rs.ofO_some, Option.map_some, isB, List.getElem?_cons_zero, List.getElem?_cons_succ, List.set_cons_zero, List.set_cons_succ, decide_eq_true_eq, eq_int, eq_str, Option.map_none, Mi.add_int, Mi.add_str0, Mi.add_tup0, opSub, opNeg, cmpI, opIs, opIsNot, biInt, biAbs, isN, atI_0, atI_1, atI_2, atI_3, Mi.ix_tup, Mi.ix_fro, Out.seq_nx, Out.seq_rt, truD, List.set_set, tgSet, if_true, if_false, List.length_cons, List.length_nil, Nat.zero_add, Nat.reduceAdd, Nat.reduceLeDiff, Bool.false_eq_true, eq_self, decide_true, decide_false, Bool.not_true, Bool.not_false, Int.reduceNeg, i0, sl, tp]))) ap) ?_)
          have eqs : (s ++ [O.lst (ts.map Tm.d)]).set b (O.lst (frD (some (h2, ts2 ++ [Tm.mk h1 ts])))) = s.set b (O.lst (frD (some (h2, ts2 ++ [Tm.mk h1 ts])))) ++ [O.lst (ts.map Tm.d)] := List.set_append_left _ _ hlb
          rw [eqs]
          have x4 : lstAt (s.set b (O.lst (frD (some (h2, ts2 ++ [Tm.mk h1 ts])))) ++ [O.lst (ts.map Tm.d)]) q = some ((b :: as2).reverse.map D.adr ++ [.adr a]) := by
            refine lst_app ?_
            rw [lst_set_ne ne_bq, h.at_, List.reverse_cons (a := a), List.map_append]
            rfl
          have sl2 : ∀ s' : Store, lstAt s' q = some ((b :: as2).reverse.map D.adr ++ [.adr a]) → opSl (.adr q) none (some (-1)) s' = some (.adr s'.length, s' ++ [O.lst ((b :: as2).reverse.map D.adr)]) := fun s' e => by
            show (lstAt s' q).map _ = _
            rw [e]
            show some _ = _
            dsimp only
            rw [cutD_init]
          refine ret_of (d := .adr (s.length + 1)) (s := (s.set b (O.lst (frD (some (h2, ts2 ++ [Tm.mk h1 ts])))) ++ [O.lst (ts.map Tm.d)]) ++ [O.lst ((b :: as2).reverse.map D.adr)]) (by
            have := sl2 _ x4
            rw [show (s.set b (O.lst (frD (some (h2, ts2 ++ [Tm.mk h1 ts])))) ++ [O.lst (ts.map Tm.d)]).length = s.length + 1 by simp] at this
            (try simp only [eV, eC, eBin, eUn, aNil, aCons, eTup, eLst, eBi, eMeth, tTru, Mi.tCmp, Mi.tAnd, Mi.tOr, Mi.tNot, eAnd, eOr, eNot, eIf, eChain, tOf, oNo, oSo, eSl, eCall, eIs, sSet, sExpr, sRet, sRetN, sNil, sAsg, sPut, sBrk, sCnt, tTrue, wp_bind, wp_ok, wps_nx, wps_rt, wps_bk, wps_ct, wps_toOut, Rs.bind_ok, Rs.ofO_some, Option.map_some, isB, List.getElem?_cons_zero, List.getElem?_cons_succ, List.set_cons_zero, List.set_cons_succ, decide_eq_true_eq, eq_int, eq_str, Option.map_none, Mi.add_int, Mi.add_str0, Mi.add_tup0, opSub, opNeg, cmpI, opIs, opIsNot, biInt, biAbs, isN, atI_0, atI_1, atI_2, atI_3, Mi.ix_tup, Mi.ix_fro, Out.seq_nx, Out.seq_rt, truD, List.set_set, tgSet, if_true, if_false, List.length_cons, List.length_nil, Nat.zero_add, Nat.reduceAdd, Nat.reduceLeDiff, Bool.false_eq_true, eq_self, decide_true, decide_false, Bool.not_true, Bool.not_false, Int.reduceNeg, this])) ?_
          have gc := gc_newL (st := s) (m := s.length + 1) (st' := (s.set b (O.lst (frD (some (h2, ts2 ++ [Tm.mk h1 ts])))) ++ [O.lst (ts.map Tm.d)]) ++ [O.lst ((b :: as2).reverse.map D.adr)]) (o := .lst ((b :: as2).reverse.map D.adr)) (fun i hi => by
            by_cases hib : i = b
            · refine .inr ⟨O.lst (frD (some (h2, ts2 ++ [Tm.mk h1 ts]))), ?_, lows_noas _ _ (frD_noas _)⟩
              subst hib
              rw [List.getElem?_append_left (by simp; omega), List.getElem?_append_left (by simp; omega), List.getElem?_set_self hlb]
            · refine .inl ?_
              rw [List.getElem?_append_left (by simp; omega), List.getElem?_append_left (by simp; omega), List.getElem?_set_ne (Ne.symm hib)]) (by omega) (by
            rw [List.getElem?_append_right (by simp)]
            simp) (by
            refine low_adrs _ fun d hd => hl d ?_
            rw [List.mem_reverse] at hd
            exact List.mem_cons_of_mem _ (List.mem_cons_of_mem _ hd))
          show (gcO s _ _).1 = _ ∧ (gcO s _ _).2 = _
          rw [gc]
          refine ⟨rfl, ?_⟩
          congr 1
          rw [List.append_assoc, List.take_left' (by simp)]
        obtain ⟨d, s', ec, rfl, rfl⟩ := W.ok
        refine ⟨b :: as2, _, ec, h.close (f' := some (h2, ts2 ++ [.mk h1 ts])) hn, fun i hi => ?_, by simp⟩
        have hib : i ≠ b := by rcases hi with z | z <;> omega
        have his : i < s.length := by
          rcases hi with z | z
          · omega
          · omega
        rw [List.getElem?_append_left (by simp; omega), List.getElem?_set_ne (Ne.symm hib)]
end
theorem fr_len : ∀ t : List Fr, (∀ f ∈ t, f ≠ none) → t.length ≤ stN t
  | [], _ => Nat.zero_le _
  | b :: c, h => by
    have ih := fr_len c fun f hf => h f (List.mem_cons_of_mem _ hf)
    have hb := h b (List.mem_cons_self ..)
    unfold stN at ih ⊢
    rw [List.map_cons, List.sum_cons, List.length_cons]
    cases b with
    | none => exact absurd rfl hb
    | some p =>
      have : 1 ≤ frN (some p) := by unfold frN; dsimp only; omega
      omega
theorem low_len : ∀ stk : List Fr, LowS stk → stk.length ≤ stN stk + 1
  | [], _ => Nat.zero_le _
  | g :: t, h => by
    have := fr_len t h
    unfold stN at this ⊢
    rw [List.map_cons, List.sum_cons, List.length_cons]
    omega
section
variable {k : Nat} {st : Store}
theorem runW_snoc {dn : List (List Nat)} {w : List Nat} {stk : List Fr} (e : runW [none] dn = some stk) : runW [none] (dn ++ [w]) = stepW stk w := by
  rw [run_app, e]
  show (stepW stk w).bind (fun s => some s) = _
  cases stepW stk w <;> rfl
theorem run_dead {dn rs : List (List Nat)} {w : List Nat} {stk : List Fr} (e : runW [none] dn = some stk) (e2 : stepW stk w = none) : runW [none] (dn ++ w :: rs) = none := by
  rw [run_app, e]
  show runW stk (w :: rs) = none
  rw [runW, e2]
  rfl
theorem read_wp {l : List Nat} (hk : 3 ≤ k) (hl : l.length ≤ 2400) : (callK T k i_read_term [.str (SX.S l)] st).wp (fun d s => ∃ t, readL l = some t ∧ d = t.d ∧ s = st) (fun e s => readL l = none ∧ e = btX ∧ s = st) := by
  obtain ⟨k, rfl⟩ : ∃ j, k = j + 1 := ⟨k - 1, by omega⟩
  refine call_wp (env := [some (.str (SX.S l)), none, none, none, none]) T_read_term rfl rfl ?_
  rw [fb_read_term, b_read_term]
  obtain ⟨wl1, wl2⟩ := words_len l
  have wne := words_ne l
  have q40 : ("(" : Str) = SX.S [40] := by decide +kernel
  have q41 : (")" : Str) = SX.S [41] := by decide +kernel
  have q40b : ("( " : Str) = SX.S [40, 32] := by decide +kernel
  have q41b : (" )" : Str) = SX.S [32, 41] := by decide +kernel
  have q32 : (" " : Str) = SX.S [32] := by decide +kernel
  -- waiting = [[]]
  refine seq_wp (set_of (d := .adr (st.length + 1)) (s := st ++ [O.lst []] ++ [O.lst [.adr st.length]]) (by (try simp only [eV, eC, eBin, eUn, aNil, aCons, eTup, eLst, eBi, eMeth, tTru, Mi.tCmp, Mi.tAnd, Mi.tOr, Mi.tNot, eAnd, eOr, eNot, eIf, eChain, tOf, oNo, oSo, eSl, eCall, eIs, sSet, sExpr, sRet, sRetN, sNil, sAsg, sPut, sBrk, sCnt, tTrue, wp_bind, wp_ok, wps_nx, wps_rt, wps_bk, wps_ct, wps_toOut, Rs.bind_ok, Rs.ofO_some, Option.map_some, isB, List.getElem?_cons_zero, List.getElem?_cons_succ, List.set_cons_zero, List.set_cons_succ, decide_eq_true_eq, eq_int, eq_str, Option.map_none, Mi.add_int, Mi.add_str0, Mi.add_tup0, opSub, opNeg, cmpI, opIs, opIsNot, biInt, biAbs, isN, atI_0, atI_1, atI_2, atI_3, Mi.ix_tup, Mi.ix_fro, Out.seq_nx, Out.seq_rt, truD, List.set_set, tgSet, if_true, if_false, List.length_cons, List.length_nil, Nat.zero_add, Nat.reduceAdd, Nat.reduceLeDiff, Bool.false_eq_true, eq_self, decide_true, decide_false, Bool.not_true, Bool.not_false, Int.reduceNeg]); simp) ?_)
  have w0 : WtR st.length (st.length + 2) (st ++ [O.lst []] ++ [O.lst [.adr st.length]]) (st.length + 1) [st.length] [none] := by
    refine ⟨?_, .cons (lst_app lst_new) .nil, by simp, fun a ha => ?_⟩
    · have := lst_new (st := st ++ [O.lst []]) (xs := [D.adr st.length])
      rw [show (st ++ [O.lst []]).length = st.length + 1 by simp] at this
      exact this
    · simp at ha; omega
  have o0 : Old st (st ++ [O.lst []] ++ [O.lst [.adr st.length]]) := (Old.app _ _).trans (Old.app _ _)
  have hlen0 : (st ++ [O.lst []] ++ [O.lst [.adr st.length]]).length = st.length + 2 := by simp
  generalize st ++ [O.lst []] ++ [O.lst [.adr st.length]] = s0 at w0 o0 hlen0 ⊢
  show ((sSeq _ _) [some (.str (SX.S l)), some (.adr (st.length + 1)), none, none, none] s0).wps _
  -- the words
  have hr1 : (repl 40 [40, 32] l).length ≤ 2 * l.length := repl_len (by decide) l
  have hr2 : (rp l).length ≤ 2 * (repl 40 [40, 32] l).length := repl_len (by decide) _
  have e1 : eRepl "(" "( " (eV 0) [some (.str (SX.S l)), some (.adr (st.length + 1)), none, none, none] s0 = .ok (.str (SX.S (repl 40 [40, 32] l))) s0 := by
    unfold eRepl
    rw [show eV 0 [some (.str (SX.S l)), some (.adr (st.length + 1)), none, none, none] s0 = .ok (.str (SX.S l)) s0 from rfl]
    simp only [Rs.bind_ok]
    rw [q40, q40b, S_len2, S_len2, rep_S (by decide), if_pos (by simp; omega)]
  have e2 : eRepl ")" " )" (eRepl "(" "( " (eV 0)) [some (.str (SX.S l)), some (.adr (st.length + 1)), none, none, none] s0 = .ok (.str (SX.S (rp l))) s0 := by
    unfold eRepl at e1 ⊢
    rw [e1]
    simp only [Rs.bind_ok]
    rw [q41, q41b, S_len2, S_len2, rep_S (by decide), if_pos (by simp; omega)]
    rfl
  have e3 : mdSplit (.str (SX.S (rp l))) [.str " "] s0 = some (.adr s0.length, s0 ++ [.lst ((wordsL l).map fun w => D.str (SX.S w))]) := by
    unfold mdSplit
    dsimp only
    rw [q32, if_pos ⟨rfl, by rw [S_len2, PySem.sizeLine_eq]; omega⟩, SX.split_S (by simp) (by decide), List.map_map]
    rfl
  have e4 : eMeth tyStr mdSplit (eRepl ")" " )" (eRepl "(" "( " (eV 0))) (aCons (eC (.str " ")) aNil) [some (.str (SX.S l)), some (.adr (st.length + 1)), none, none, none] s0 = .ok (.adr s0.length) (s0 ++ [.lst ((wordsL l).map fun w => D.str (SX.S w))]) :=
    meth_of e2 rfl (arg1_of rfl) e3
  rw [hlen0] at e4
  have qw : lstAt (s0 ++ [O.lst ((wordsL l).map fun w => D.str (SX.S w))]) (st.length + 2) = some ((wordsL l).map fun w => D.str (SX.S w)) := by
    rw [← hlen0]; exact lst_new
  refine seq_mid (I := fun env s => ∃ q as stk y z, env = [some (.str (SX.S l)), some (.adr q), y, z, none] ∧ WtR st.length (st.length + 2) s q as stk ∧ runW [none] (wordsL l) = some stk ∧ Old st s) ?_ ?_
  · refine for_wp (as := wordsL l) (enc := fun w => D.str (SX.S w)) (g := some (GN.l (st.length + 2))) (st0 := s0 ++ [O.lst ((wordsL l).map fun w => D.str (SX.S w))])
      (fun dn rs env s => ∃ q as stk y z, env = [some (.str (SX.S l)), some (.adr q), y, z, none] ∧ WtR st.length (st.length + 2) s q as stk ∧ runW [none] dn = some stk ∧ LowS stk ∧ Old st s ∧ lstAt s (st.length + 2) = some ((wordsL l).map fun w => D.str (SX.S w)))
      (src_lst e4 qw) ⟨_, _, [none], _, _, rfl, w0.app _, rfl, (fun f hf => by cases hf), o0.trans (Old.app _ _), qw⟩ (fun n hn dn rs env s ⟨_, _, _, _, _, _, _, _, _, _, h⟩ => by cases hn; exact h) ?_ (fun _ _ ⟨q, as, stk, y, z, h1, h2, h3, _, h5, _⟩ => ⟨q, as, stk, y, z, h1, h2, h3, h5⟩)
    rintro dn w rs _ s hd ⟨q, as, stk, y, z, rfl, wt, run, low, o, qn⟩
    refine ⟨[some (.str (SX.S l)), some (.adr q), some (.str (SX.S w)), z, none], rfl, ?_⟩
    have hw : w ∈ wordsL l := by rw [hd]; simp
    have hwl := wl2 w hw
    have hn := lst_lt qn
    obtain ⟨fok, fn⟩ := run_ok dn (stk := [none]) (fun f hf => by rw [List.mem_singleton] at hf; subst hf; trivial) run
    have hdl : (wordsL l).length = dn.length + (rs.length + 1) := by rw [hd]; simp
    have hfn : stN stk ≤ 20000 := by
      have : stN [none] = 0 := rfl
      omega
    have dead : stepW stk w = none → readL l = none := fun h => by
      unfold readL
      rw [hd, run_dead run h]
    have hstk : stk ≠ [] := by
      intro z
      rw [z] at run
      cases dn with
      | nil => cases run
      | cons a b =>
        have := run_none (by simp) run
        obtain ⟨f, hf⟩ := this
        cases hf
    obtain ⟨f, r, rfl⟩ : ∃ f r, stk = f :: r := by
      cases stk with
      | nil => exact absurd rfl hstk
      | cons f r => exact ⟨f, r, rfl⟩
    obtain ⟨a, as2, rfl⟩ : ∃ a as2, as = a :: as2 := by
      have := wt.fr.len
      cases as with
      | nil => simp at this
      | cons a b => exact ⟨a, b, rfl⟩
    have x1 : lstAt s a = some (frD f) := by cases wt.fr with | cons x t => exact x
    have hla := wt.lt a (by simp)
    have hlq := wt.lt q (by simp)
    have loa := wt.lo a (by simp)
    have loq := wt.lo q (by simp)
    have w1 := wt_last wt
    have t1 := tru_row x1
    have snoc := runW_snoc (w := w) run
    have ps : ∀ stk', stepW (f :: r) w = some stk' → runW [none] (dn ++ [w]) = some stk' ∧ LowS stk' := fun stk' e => ⟨by rw [snoc, e], step_lowS low e⟩
    by_cases h1 : w = [40]
    · subst h1
      refine sIf_tt (s := s) (by rw [q40]; (try simp only [eV, eC, eBin, eUn, aNil, aCons, eTup, eLst, eBi, eMeth, tTru, Mi.tCmp, Mi.tAnd, Mi.tOr, Mi.tNot, eAnd, eOr, eNot, eIf, eChain, tOf, oNo, oSo, eSl, eCall, eIs, sSet, sExpr, sRet, sRetN, sNil, sAsg, sPut, sBrk, sCnt, tTrue, wp_bind, wp_ok, wps_nx, wps_rt, wps_bk, wps_ct, wps_toOut, Rs.bind_ok, Rs.ofO_some, Option.map_some, isB, List.getElem?_cons_zero, List.getElem?_cons_succ, List.set_cons_zero, List.set_cons_succ, decide_eq_true_eq, eq_int, eq_str, Option.map_none, Mi.add_int, Mi.add_str0, Mi.add_tup0, opSub, opNeg, cmpI, opIs, opIsNot, biInt, biAbs, isN, atI_0, atI_1, atI_2, atI_3, Mi.ix_tup, Mi.ix_fro, Out.seq_nx, Out.seq_rt, truD, List.set_set, tgSet, if_true, if_false, List.length_cons, List.length_nil, Nat.zero_add, Nat.reduceAdd, Nat.reduceLeDiff, Bool.false_eq_true, eq_self, decide_true, decide_false, Bool.not_true, Bool.not_false, Int.reduceNeg])) ?_
      cases f with
      | none =>
        have e : stepW (none :: r) [40] = none := by unfold stepW; dsimp only; rw [if_pos rfl]
        refine seq_wp (sIf_tt (s := s) (tnot_of (tru_of1 (d := .adr a) (s := s) (by (try simp only [eV, eC, eBin, eUn, aNil, aCons, eTup, eLst, eBi, eMeth, tTru, Mi.tCmp, Mi.tAnd, Mi.tOr, Mi.tNot, eAnd, eOr, eNot, eIf, eChain, tOf, oNo, oSo, eSl, eCall, eIs, sSet, sExpr, sRet, sRetN, sNil, sAsg, sPut, sBrk, sCnt, tTrue, wp_bind, wp_ok, wps_nx, wps_rt, wps_bk, wps_ct, wps_toOut, Rs.bind_ok, Rs.ofO_some, Option.map_some, isB, List.getElem?_cons_zero, List.getElem?_cons_succ, List.set_cons_zero, List.set_cons_succ, decide_eq_true_eq, eq_int, eq_str, Option.map_none, Mi.add_int, Mi.add_str0, Mi.add_tup0, opSub, opNeg, cmpI, opIs, opIsNot, biInt, biAbs, isN, atI_0, atI_1, atI_2, atI_3, Mi.ix_tup, Mi.ix_fro, Out.seq_nx, Out.seq_rt, truD, List.set_set, tgSet, if_true, if_false, List.length_cons, List.length_nil, Nat.zero_add, Nat.reduceAdd, Nat.reduceLeDiff, Bool.false_eq_true, eq_self, decide_true, decide_false, Bool.not_true, Bool.not_false, Int.reduceNeg, w1])) t1)) ?_)
        unfold sRaiseP
        exact ⟨dead e, rfl, gcX_o o⟩
      | some p =>
        have e : stepW (some p :: r) [40] = some (none :: some p :: r) := by unfold stepW; dsimp only; rw [if_pos rfl]
        refine seq_wp (sIf_ff (s := s) (tnot_of (tru_of1 (d := .adr a) (s := s) (by (try simp only [eV, eC, eBin, eUn, aNil, aCons, eTup, eLst, eBi, eMeth, tTru, Mi.tCmp, Mi.tAnd, Mi.tOr, Mi.tNot, eAnd, eOr, eNot, eIf, eChain, tOf, oNo, oSo, eSl, eCall, eIs, sSet, sExpr, sRet, sRetN, sNil, sAsg, sPut, sBrk, sCnt, tTrue, wp_bind, wp_ok, wps_nx, wps_rt, wps_bk, wps_ct, wps_toOut, Rs.bind_ok, Rs.ofO_some, Option.map_some, isB, List.getElem?_cons_zero, List.getElem?_cons_succ, List.set_cons_zero, List.set_cons_succ, decide_eq_true_eq, eq_int, eq_str, Option.map_none, Mi.add_int, Mi.add_str0, Mi.add_tup0, opSub, opNeg, cmpI, opIs, opIsNot, biInt, biAbs, isN, atI_0, atI_1, atI_2, atI_3, Mi.ix_tup, Mi.ix_fro, Out.seq_nx, Out.seq_rt, truD, List.set_set, tgSet, if_true, if_false, List.length_cons, List.length_nil, Nat.zero_add, Nat.reduceAdd, Nat.reduceLeDiff, Bool.false_eq_true, eq_self, decide_true, decide_false, Bool.not_true, Bool.not_false, Int.reduceNeg, w1])) t1)) ?_)
        rw [sNil, wps_nx]
        have wt2 := wt.push hn
        have hla2 := wt.fr.len
        have ap : mdAppend (.adr q) [.adr s.length] (s ++ [O.lst []]) = some (.non, (s ++ [O.lst []]).set q (.lst ((a :: as2).reverse.map D.adr ++ [D.adr s.length]))) := app_lst (lst_app wt.at_) (by
          have := fok
          have l2 : (some p :: r : List Fr).length ≤ 20001 + 1 := by
            have := low_len _ low
            omega
          rw [List.length_map, List.length_reverse, ← hla2, PySem.sizeLine_eq]
          omega)
        refine expr_of (d := .non) (meth_of (a := .adr q) (s1 := s) (as := [.adr s.length]) (s2 := s ++ [O.lst []]) (by (try simp only [eV, eC, eBin, eUn, aNil, aCons, eTup, eLst, eBi, eMeth, tTru, Mi.tCmp, Mi.tAnd, Mi.tOr, Mi.tNot, eAnd, eOr, eNot, eIf, eChain, tOf, oNo, oSo, eSl, eCall, eIs, sSet, sExpr, sRet, sRetN, sNil, sAsg, sPut, sBrk, sCnt, tTrue, wp_bind, wp_ok, wps_nx, wps_rt, wps_bk, wps_ct, wps_toOut, Rs.bind_ok, Rs.ofO_some, Option.map_some, isB, List.getElem?_cons_zero, List.getElem?_cons_succ, List.set_cons_zero, List.set_cons_succ, decide_eq_true_eq, eq_int, eq_str, Option.map_none, Mi.add_int, Mi.add_str0, Mi.add_tup0, opSub, opNeg, cmpI, opIs, opIsNot, biInt, biAbs, isN, atI_0, atI_1, atI_2, atI_3, Mi.ix_tup, Mi.ix_fro, Out.seq_nx, Out.seq_rt, truD, List.set_set, tgSet, if_true, if_false, List.length_cons, List.length_nil, Nat.zero_add, Nat.reduceAdd, Nat.reduceLeDiff, Bool.false_eq_true, eq_self, decide_true, decide_false, Bool.not_true, Bool.not_false, Int.reduceNeg])) (ty_lst wt.at_) (arg1_of (by (try simp only [eV, eC, eBin, eUn, aNil, aCons, eTup, eLst, eBi, eMeth, tTru, Mi.tCmp, Mi.tAnd, Mi.tOr, Mi.tNot, eAnd, eOr, eNot, eIf, eChain, tOf, oNo, oSo, eSl, eCall, eIs, sSet, sExpr, sRet, sRetN, sNil, sAsg, sPut, sBrk, sCnt, tTrue, wp_bind, wp_ok, wps_nx, wps_rt, wps_bk, wps_ct, wps_toOut, Rs.bind_ok, Rs.ofO_some, Option.map_some, isB, List.getElem?_cons_zero, List.getElem?_cons_succ, List.set_cons_zero, List.set_cons_succ, decide_eq_true_eq, eq_int, eq_str, Option.map_none, Mi.add_int, Mi.add_str0, Mi.add_tup0, opSub, opNeg, cmpI, opIs, opIsNot, biInt, biAbs, isN, atI_0, atI_1, atI_2, atI_3, Mi.ix_tup, Mi.ix_fro, Out.seq_nx, Out.seq_rt, truD, List.set_set, tgSet, if_true, if_false, List.length_cons, List.length_nil, Nat.zero_add, Nat.reduceAdd, Nat.reduceLeDiff, Bool.false_eq_true, eq_self, decide_true, decide_false, Bool.not_true, Bool.not_false, Int.reduceNeg]))) ap) ?_
        obtain ⟨p1, p2⟩ := ps _ e
        refine ⟨q, _, _, _, _, rfl, wt2, p1, p2, (o.trans (Old.app _ _)).set (by omega), ?_⟩
        rw [lst_set_ne (by omega)]
        exact lst_app qn
    · have n1 : SX.S w ≠ SX.S [40] := fun z => h1 (SX.S_inj z)
      refine sIf_ff (s := s) (by rw [q40]; (try simp only [eV, eC, eBin, eUn, aNil, aCons, eTup, eLst, eBi, eMeth, tTru, Mi.tCmp, Mi.tAnd, Mi.tOr, Mi.tNot, eAnd, eOr, eNot, eIf, eChain, tOf, oNo, oSo, eSl, eCall, eIs, sSet, sExpr, sRet, sRetN, sNil, sAsg, sPut, sBrk, sCnt, tTrue, wp_bind, wp_ok, wps_nx, wps_rt, wps_bk, wps_ct, wps_toOut, Rs.bind_ok, Rs.ofO_some, Option.map_some, isB, List.getElem?_cons_zero, List.getElem?_cons_succ, List.set_cons_zero, List.set_cons_succ, decide_eq_true_eq, eq_int, eq_str, Option.map_none, Mi.add_int, Mi.add_str0, Mi.add_tup0, opSub, opNeg, cmpI, opIs, opIsNot, biInt, biAbs, isN, atI_0, atI_1, atI_2, atI_3, Mi.ix_tup, Mi.ix_fro, Out.seq_nx, Out.seq_rt, truD, List.set_set, tgSet, if_true, if_false, List.length_cons, List.length_nil, Nat.zero_add, Nat.reduceAdd, Nat.reduceLeDiff, Bool.false_eq_true, eq_self, decide_true, decide_false, Bool.not_true, Bool.not_false, Int.reduceNeg, n1])) ?_
      by_cases h2 : w = [41]
      · subst h2
        refine sIf_tt (s := s) (by rw [q41]; (try simp only [eV, eC, eBin, eUn, aNil, aCons, eTup, eLst, eBi, eMeth, tTru, Mi.tCmp, Mi.tAnd, Mi.tOr, Mi.tNot, eAnd, eOr, eNot, eIf, eChain, tOf, oNo, oSo, eSl, eCall, eIs, sSet, sExpr, sRet, sRetN, sNil, sAsg, sPut, sBrk, sCnt, tTrue, wp_bind, wp_ok, wps_nx, wps_rt, wps_bk, wps_ct, wps_toOut, Rs.bind_ok, Rs.ofO_some, Option.map_some, isB, List.getElem?_cons_zero, List.getElem?_cons_succ, List.set_cons_zero, List.set_cons_succ, decide_eq_true_eq, eq_int, eq_str, Option.map_none, Mi.add_int, Mi.add_str0, Mi.add_tup0, opSub, opNeg, cmpI, opIs, opIsNot, biInt, biAbs, isN, atI_0, atI_1, atI_2, atI_3, Mi.ix_tup, Mi.ix_fro, Out.seq_nx, Out.seq_rt, truD, List.set_set, tgSet, if_true, if_false, List.length_cons, List.length_nil, Nat.zero_add, Nat.reduceAdd, Nat.reduceLeDiff, Bool.false_eq_true, eq_self, decide_true, decide_false, Bool.not_true, Bool.not_false, Int.reduceNeg])) ?_
        have cs := closed_spec (k := k) (by omega) wt hn low (by omega)
        cases e : stepW (f :: r) [41] with
        | none =>
          rw [e] at cs
          dsimp only at cs
          (try simp only [eV, eC, eBin, eUn, aNil, aCons, eTup, eLst, eBi, eMeth, tTru, Mi.tCmp, Mi.tAnd, Mi.tOr, Mi.tNot, eAnd, eOr, eNot, eIf, eChain, tOf, oNo, oSo, eSl, eCall, eIs, sSet, sExpr, sRet, sRetN, sNil, sAsg, sPut, sBrk, sCnt, tTrue, wp_bind, wp_ok, wps_nx, wps_rt, wps_bk, wps_ct, wps_toOut, Rs.bind_ok, Rs.ofO_some, Option.map_some, isB, List.getElem?_cons_zero, List.getElem?_cons_succ, List.set_cons_zero, List.set_cons_succ, decide_eq_true_eq, eq_int, eq_str, Option.map_none, Mi.add_int, Mi.add_str0, Mi.add_tup0, opSub, opNeg, cmpI, opIs, opIsNot, biInt, biAbs, isN, atI_0, atI_1, atI_2, atI_3, Mi.ix_tup, Mi.ix_fro, Out.seq_nx, Out.seq_rt, truD, List.set_set, tgSet, if_true, if_false, List.length_cons, List.length_nil, Nat.zero_add, Nat.reduceAdd, Nat.reduceLeDiff, Bool.false_eq_true, eq_self, decide_true, decide_false, Bool.not_true, Bool.not_false, Int.reduceNeg, cs])
          exact ⟨dead e, rfl, gcX_o o⟩
        | some stk' =>
          rw [e] at cs
          obtain ⟨as', s', ec, wt', keep, le⟩ := cs
          (try simp only [eV, eC, eBin, eUn, aNil, aCons, eTup, eLst, eBi, eMeth, tTru, Mi.tCmp, Mi.tAnd, Mi.tOr, Mi.tNot, eAnd, eOr, eNot, eIf, eChain, tOf, oNo, oSo, eSl, eCall, eIs, sSet, sExpr, sRet, sRetN, sNil, sAsg, sPut, sBrk, sCnt, tTrue, wp_bind, wp_ok, wps_nx, wps_rt, wps_bk, wps_ct, wps_toOut, Rs.bind_ok, Rs.ofO_some, Option.map_some, isB, List.getElem?_cons_zero, List.getElem?_cons_succ, List.set_cons_zero, List.set_cons_succ, decide_eq_true_eq, eq_int, eq_str, Option.map_none, Mi.add_int, Mi.add_str0, Mi.add_tup0, opSub, opNeg, cmpI, opIs, opIsNot, biInt, biAbs, isN, atI_0, atI_1, atI_2, atI_3, Mi.ix_tup, Mi.ix_fro, Out.seq_nx, Out.seq_rt, truD, List.set_set, tgSet, if_true, if_false, List.length_cons, List.length_nil, Nat.zero_add, Nat.reduceAdd, Nat.reduceLeDiff, Bool.false_eq_true, eq_self, decide_true, decide_false, Bool.not_true, Bool.not_false, Int.reduceNeg, ec])
          obtain ⟨p1, p2⟩ := ps _ e
          refine ⟨_, _, _, _, _, rfl, wt', p1, p2, ?_, ?_⟩
          · obtain ⟨g, rfl⟩ := o
            refine ⟨s'.drop st.length, ?_⟩
            refine List.ext_getElem? fun i => ?_
            by_cases hi : i < st.length
            · rw [List.getElem?_append_left hi, keep i (.inl hi), List.getElem?_append_left hi]
            · rw [List.getElem?_append_right (by omega), List.getElem?_drop]
              congr 1
              omega
          · rw [lstAt_iff, keep _ (.inr rfl), ← lstAt_iff]
            exact qn
      · have n2 : SX.S w ≠ SX.S [41] := fun z => h2 (SX.S_inj z)
        refine sIf_ff (s := s) (by rw [q41]; (try simp only [eV, eC, eBin, eUn, aNil, aCons, eTup, eLst, eBi, eMeth, tTru, Mi.tCmp, Mi.tAnd, Mi.tOr, Mi.tNot, eAnd, eOr, eNot, eIf, eChain, tOf, oNo, oSo, eSl, eCall, eIs, sSet, sExpr, sRet, sRetN, sNil, sAsg, sPut, sBrk, sCnt, tTrue, wp_bind, wp_ok, wps_nx, wps_rt, wps_bk, wps_ct, wps_toOut, Rs.bind_ok, Rs.ofO_some, Option.map_some, isB, List.getElem?_cons_zero, List.getElem?_cons_succ, List.set_cons_zero, List.set_cons_succ, decide_eq_true_eq, eq_int, eq_str, Option.map_none, Mi.add_int, Mi.add_str0, Mi.add_tup0, opSub, opNeg, cmpI, opIs, opIsNot, biInt, biAbs, isN, atI_0, atI_1, atI_2, atI_3, Mi.ix_tup, Mi.ix_fro, Out.seq_nx, Out.seq_rt, truD, List.set_set, tgSet, if_true, if_false, List.length_cons, List.length_nil, Nat.zero_add, Nat.reduceAdd, Nat.reduceLeDiff, Bool.false_eq_true, eq_self, decide_true, decide_false, Bool.not_true, Bool.not_false, Int.reduceNeg, n2])) ?_
        have hs := head_of_spec (k := k) (r := w) (st := s) (by omega) (by omega)
        cases eh : headOf w with
        | none =>
          rw [eh] at hs
          dsimp only at hs
          have e : stepW (f :: r) w = none := by unfold stepW; dsimp only; rw [if_neg h1, if_neg h2, eh]
          refine seq_wp ?_
          (try simp only [eV, eC, eBin, eUn, aNil, aCons, eTup, eLst, eBi, eMeth, tTru, Mi.tCmp, Mi.tAnd, Mi.tOr, Mi.tNot, eAnd, eOr, eNot, eIf, eChain, tOf, oNo, oSo, eSl, eCall, eIs, sSet, sExpr, sRet, sRetN, sNil, sAsg, sPut, sBrk, sCnt, tTrue, wp_bind, wp_ok, wps_nx, wps_rt, wps_bk, wps_ct, wps_toOut, Rs.bind_ok, Rs.ofO_some, Option.map_some, isB, List.getElem?_cons_zero, List.getElem?_cons_succ, List.set_cons_zero, List.set_cons_succ, decide_eq_true_eq, eq_int, eq_str, Option.map_none, Mi.add_int, Mi.add_str0, Mi.add_tup0, opSub, opNeg, cmpI, opIs, opIsNot, biInt, biAbs, isN, atI_0, atI_1, atI_2, atI_3, Mi.ix_tup, Mi.ix_fro, Out.seq_nx, Out.seq_rt, truD, List.set_set, tgSet, if_true, if_false, List.length_cons, List.length_nil, Nat.zero_add, Nat.reduceAdd, Nat.reduceLeDiff, Bool.false_eq_true, eq_self, decide_true, decide_false, Bool.not_true, Bool.not_false, Int.reduceNeg, hs])
          exact ⟨dead e, rfl, gcX_o o⟩
        | some h =>
          rw [eh] at hs
          dsimp only at hs
          refine seq_wp (set_of (d := h.d) (s := s) (by (try simp only [eV, eC, eBin, eUn, aNil, aCons, eTup, eLst, eBi, eMeth, tTru, Mi.tCmp, Mi.tAnd, Mi.tOr, Mi.tNot, eAnd, eOr, eNot, eIf, eChain, tOf, oNo, oSo, eSl, eCall, eIs, sSet, sExpr, sRet, sRetN, sNil, sAsg, sPut, sBrk, sCnt, tTrue, wp_bind, wp_ok, wps_nx, wps_rt, wps_bk, wps_ct, wps_toOut, Rs.bind_ok, Rs.ofO_some, Option.map_some, isB, List.getElem?_cons_zero, List.getElem?_cons_succ, List.set_cons_zero, List.set_cons_succ, decide_eq_true_eq, eq_int, eq_str, Option.map_none, Mi.add_int, Mi.add_str0, Mi.add_tup0, opSub, opNeg, cmpI, opIs, opIsNot, biInt, biAbs, isN, atI_0, atI_1, atI_2, atI_3, Mi.ix_tup, Mi.ix_fro, Out.seq_nx, Out.seq_rt, truD, List.set_set, tgSet, if_true, if_false, List.length_cons, List.length_nil, Nat.zero_add, Nat.reduceAdd, Nat.reduceLeDiff, Bool.false_eq_true, eq_self, decide_true, decide_false, Bool.not_true, Bool.not_false, Int.reduceNeg, hs])) ?_)
          show ((sExpr _) [some (.str (SX.S l)), some (.adr q), some (.str (SX.S w)), some h.d, none] s).wps _
          cases f with
          | none =>
            have e : stepW (none :: r) w = some (some (h, []) :: r) := by unfold stepW; dsimp only; rw [if_neg h1, if_neg h2, eh]
            have key : eIf (tTru (eBin opIx (eV 1) (eUn opNeg (eC (.int 1))))) (eTup (aCons (eV 3) (aCons (eTup aNil) aNil))) (eV 3) [some (.str (SX.S l)), some (.adr q), some (.str (SX.S w)), some h.d, none] s = .ok h.d s := by
              unfold eIf
              rw [tru_of1 (d := .adr a) (s := s) (b := false) (by (try simp only [eV, eC, eBin, eUn, aNil, aCons, eTup, eLst, eBi, eMeth, tTru, Mi.tCmp, Mi.tAnd, Mi.tOr, Mi.tNot, eAnd, eOr, eNot, eIf, eChain, tOf, oNo, oSo, eSl, eCall, eIs, sSet, sExpr, sRet, sRetN, sNil, sAsg, sPut, sBrk, sCnt, tTrue, wp_bind, wp_ok, wps_nx, wps_rt, wps_bk, wps_ct, wps_toOut, Rs.bind_ok, Rs.ofO_some, Option.map_some, isB, List.getElem?_cons_zero, List.getElem?_cons_succ, List.set_cons_zero, List.set_cons_succ, decide_eq_true_eq, eq_int, eq_str, Option.map_none, Mi.add_int, Mi.add_str0, Mi.add_tup0, opSub, opNeg, cmpI, opIs, opIsNot, biInt, biAbs, isN, atI_0, atI_1, atI_2, atI_3, Mi.ix_tup, Mi.ix_fro, Out.seq_nx, Out.seq_rt, truD, List.set_set, tgSet, if_true, if_false, List.length_cons, List.length_nil, Nat.zero_add, Nat.reduceAdd, Nat.reduceLeDiff, Bool.false_eq_true, eq_self, decide_true, decide_false, Bool.not_true, Bool.not_false, Int.reduceNeg, w1])) t1]
              rfl
            have ap : mdAppend (.adr a) [h.d] s = some (.non, s.set a (.lst (frD (some (h, []))))) := by
              have := app_lst (d := h.d) x1 (by simp [frD]; rw [PySem.sizeLine_eq]; omega)
              rw [this]
              rfl
            refine expr_of (d := .non) (meth_of (a := .adr a) (s1 := s) (as := [h.d]) (s2 := s) (by (try simp only [eV, eC, eBin, eUn, aNil, aCons, eTup, eLst, eBi, eMeth, tTru, Mi.tCmp, Mi.tAnd, Mi.tOr, Mi.tNot, eAnd, eOr, eNot, eIf, eChain, tOf, oNo, oSo, eSl, eCall, eIs, sSet, sExpr, sRet, sRetN, sNil, sAsg, sPut, sBrk, sCnt, tTrue, wp_bind, wp_ok, wps_nx, wps_rt, wps_bk, wps_ct, wps_toOut, Rs.bind_ok, Rs.ofO_some, Option.map_some, isB, List.getElem?_cons_zero, List.getElem?_cons_succ, List.set_cons_zero, List.set_cons_succ, decide_eq_true_eq, eq_int, eq_str, Option.map_none, Mi.add_int, Mi.add_str0, Mi.add_tup0, opSub, opNeg, cmpI, opIs, opIsNot, biInt, biAbs, isN, atI_0, atI_1, atI_2, atI_3, Mi.ix_tup, Mi.ix_fro, Out.seq_nx, Out.seq_rt, truD, List.set_set, tgSet, if_true, if_false, List.length_cons, List.length_nil, Nat.zero_add, Nat.reduceAdd, Nat.reduceLeDiff, Bool.false_eq_true, eq_self, decide_true, decide_false, Bool.not_true, Bool.not_false, Int.reduceNeg, w1])) (ty_lst x1) (arg1_of key) ap) ?_
            obtain ⟨p1, p2⟩ := ps _ e
            exact ⟨q, _, _, _, _, rfl, wt.top, p1, p2, o.set loa.1, by rw [lst_set_ne loa.2]; exact qn⟩
          | some p =>
            obtain ⟨g, ts⟩ := p
            have e : stepW (some (g, ts) :: r) w = some (some (g, ts ++ [.mk h []]) :: r) := by unfold stepW; dsimp only; rw [if_neg h1, if_neg h2, eh]
            have key : eIf (tTru (eBin opIx (eV 1) (eUn opNeg (eC (.int 1))))) (eTup (aCons (eV 3) (aCons (eTup aNil) aNil))) (eV 3) [some (.str (SX.S l)), some (.adr q), some (.str (SX.S w)), some h.d, none] s = .ok (.tup [h.d, .tup []]) s := by
              unfold eIf
              rw [tru_of1 (d := .adr a) (s := s) (b := true) (by (try simp only [eV, eC, eBin, eUn, aNil, aCons, eTup, eLst, eBi, eMeth, tTru, Mi.tCmp, Mi.tAnd, Mi.tOr, Mi.tNot, eAnd, eOr, eNot, eIf, eChain, tOf, oNo, oSo, eSl, eCall, eIs, sSet, sExpr, sRet, sRetN, sNil, sAsg, sPut, sBrk, sCnt, tTrue, wp_bind, wp_ok, wps_nx, wps_rt, wps_bk, wps_ct, wps_toOut, Rs.bind_ok, Rs.ofO_some, Option.map_some, isB, List.getElem?_cons_zero, List.getElem?_cons_succ, List.set_cons_zero, List.set_cons_succ, decide_eq_true_eq, eq_int, eq_str, Option.map_none, Mi.add_int, Mi.add_str0, Mi.add_tup0, opSub, opNeg, cmpI, opIs, opIsNot, biInt, biAbs, isN, atI_0, atI_1, atI_2, atI_3, Mi.ix_tup, Mi.ix_fro, Out.seq_nx, Out.seq_rt, truD, List.set_set, tgSet, if_true, if_false, List.length_cons, List.length_nil, Nat.zero_add, Nat.reduceAdd, Nat.reduceLeDiff, Bool.false_eq_true, eq_self, decide_true, decide_false, Bool.not_true, Bool.not_false, Int.reduceNeg, w1])) t1]
              simp only [Rs.bind_ok, if_true]
              (try simp only [eV, eC, eBin, eUn, aNil, aCons, eTup, eLst, eBi, eMeth, tTru, Mi.tCmp, Mi.tAnd, Mi.tOr, Mi.tNot, eAnd, eOr, eNot, eIf, eChain, tOf, oNo, oSo, eSl, eCall, eIs, sSet, sExpr, sRet, sRetN, sNil, sAsg, sPut, sBrk, sCnt, tTrue, wp_bind, wp_ok, wps_nx, wps_rt, wps_bk, wps_ct, wps_toOut, Rs.bind_ok, Rs.ofO_some, Option.map_some, isB, List.getElem?_cons_zero, List.getElem?_cons_succ, List.set_cons_zero, List.set_cons_succ, decide_eq_true_eq, eq_int, eq_str, Option.map_none, Mi.add_int, Mi.add_str0, Mi.add_tup0, opSub, opNeg, cmpI, opIs, opIsNot, biInt, biAbs, isN, atI_0, atI_1, atI_2, atI_3, Mi.ix_tup, Mi.ix_fro, Out.seq_nx, Out.seq_rt, truD, List.set_set, tgSet, if_true, if_false, List.length_cons, List.length_nil, Nat.zero_add, Nat.reduceAdd, Nat.reduceLeDiff, Bool.false_eq_true, eq_self, decide_true, decide_false, Bool.not_true, Bool.not_false, Int.reduceNeg])
            have hts : ts.length ≤ 20000 := by
              have := Tm.len_sizes ts
              unfold stN at hfn
              rw [List.map_cons, List.sum_cons] at hfn
              unfold frN at hfn
              dsimp only at hfn
              omega
            have ap : mdAppend (.adr a) [.tup [h.d, .tup []]] s = some (.non, s.set a (.lst (frD (some (g, ts ++ [.mk h []]))))) := by
              have := app_lst (d := .tup [h.d, .tup []]) x1 (by simp [frD]; rw [PySem.sizeLine_eq]; omega)
              rw [this]
              simp [frD, Tm.d_mk, Tm.ds_nil]
            refine expr_of (d := .non) (meth_of (a := .adr a) (s1 := s) (as := [.tup [h.d, .tup []]]) (s2 := s) (by (try simp only [eV, eC, eBin, eUn, aNil, aCons, eTup, eLst, eBi, eMeth, tTru, Mi.tCmp, Mi.tAnd, Mi.tOr, Mi.tNot, eAnd, eOr, eNot, eIf, eChain, tOf, oNo, oSo, eSl, eCall, eIs, sSet, sExpr, sRet, sRetN, sNil, sAsg, sPut, sBrk, sCnt, tTrue, wp_bind, wp_ok, wps_nx, wps_rt, wps_bk, wps_ct, wps_toOut, Rs.bind_ok, Rs.ofO_some, Option.map_some, isB, List.getElem?_cons_zero, List.getElem?_cons_succ, List.set_cons_zero, List.set_cons_succ, decide_eq_true_eq, eq_int, eq_str, Option.map_none, Mi.add_int, Mi.add_str0, Mi.add_tup0, opSub, opNeg, cmpI, opIs, opIsNot, biInt, biAbs, isN, atI_0, atI_1, atI_2, atI_3, Mi.ix_tup, Mi.ix_fro, Out.seq_nx, Out.seq_rt, truD, List.set_set, tgSet, if_true, if_false, List.length_cons, List.length_nil, Nat.zero_add, Nat.reduceAdd, Nat.reduceLeDiff, Bool.false_eq_true, eq_self, decide_true, decide_false, Bool.not_true, Bool.not_false, Int.reduceNeg, w1])) (ty_lst x1) (arg1_of key) ap) ?_
            obtain ⟨p1, p2⟩ := ps _ e
            exact ⟨q, _, _, _, _, rfl, wt.top, p1, p2, o.set loa.1, by rw [lst_set_ne loa.2]; exact qn⟩
  · rintro _ s ⟨q, as, stk, y, z, rfl, wt, run, o⟩
    obtain ⟨fok, fn⟩ := run_ok (wordsL l) (stk := [none]) (fun f hf => by rw [List.mem_singleton] at hf; subst hf; trivial) run
    have hlen : biLen [.adr q] s = some (.int (stk.length : Nat), s) := by rw [len_lst wt.at_, List.length_map, List.length_reverse, wt.fr.len]
    by_cases h1 : stk.length = 1
    · obtain ⟨f, rfl⟩ : ∃ f, stk = [f] := by
        cases stk with
        | nil => simp at h1
        | cons a b => cases b with
          | nil => exact ⟨a, rfl⟩
          | cons c d => simp at h1
      obtain ⟨⟨h, ts⟩, rfl⟩ : ∃ p, f = some p := by
        obtain ⟨p, hp⟩ := run_none wne run
        simp at hp
        exact ⟨p, hp⟩
      obtain ⟨a, rfl⟩ : ∃ a, as = [a] := by
        have := wt.fr.len
        cases as with
        | nil => simp at this
        | cons a b => cases b with
          | nil => exact ⟨a, rfl⟩
          | cons c d => simp at this
      have x1 : lstAt s a = some (h.d :: ts.map Tm.d) := by cases wt.fr with | cons x t => exact x
      refine seq_wp (sIf_ff (s := s) (by (try simp only [eV, eC, eBin, eUn, aNil, aCons, eTup, eLst, eBi, eMeth, tTru, Mi.tCmp, Mi.tAnd, Mi.tOr, Mi.tNot, eAnd, eOr, eNot, eIf, eChain, tOf, oNo, oSo, eSl, eCall, eIs, sSet, sExpr, sRet, sRetN, sNil, sAsg, sPut, sBrk, sCnt, tTrue, wp_bind, wp_ok, wps_nx, wps_rt, wps_bk, wps_ct, wps_toOut, Rs.bind_ok, Rs.ofO_some, Option.map_some, isB, List.getElem?_cons_zero, List.getElem?_cons_succ, List.set_cons_zero, List.set_cons_succ, decide_eq_true_eq, eq_int, eq_str, Option.map_none, Mi.add_int, Mi.add_str0, Mi.add_tup0, opSub, opNeg, cmpI, opIs, opIsNot, biInt, biAbs, isN, atI_0, atI_1, atI_2, atI_3, Mi.ix_tup, Mi.ix_fro, Out.seq_nx, Out.seq_rt, truD, List.set_set, tgSet, if_true, if_false, List.length_cons, List.length_nil, Nat.zero_add, Nat.reduceAdd, Nat.reduceLeDiff, Bool.false_eq_true, eq_self, decide_true, decide_false, Bool.not_true, Bool.not_false, Int.reduceNeg, hlen, ne_int, show ((1 : Nat) : Int) = (1 : Int) from rfl])) ?_)
      rw [sNil, wps_nx]
      have i0 : opIx (.adr q) (.int 0) s = some (.adr a, s) := by
        show (match seqOf s (.adr q) with | some xs => (L2.atI xs 0).map fun d => (d, s) | none => _) = _
        rw [show seqOf s (.adr q) = some [D.adr a] from wt.at_]
        dsimp only
        rw [atI_0]
        rfl
      have i1 : opIx (.adr a) (.int 0) s = some (h.d, s) := by
        show (match seqOf s (.adr a) with | some xs => (L2.atI xs 0).map fun d => (d, s) | none => _) = _
        rw [show seqOf s (.adr a) = some (h.d :: ts.map Tm.d) from x1]
        dsimp only
        rw [atI_0]
        rfl
      have sl : opSl (.adr a) (some 1) none s = some (.adr s.length, s ++ [O.lst (ts.map Tm.d)]) := by
        show (lstAt s a).map _ = _
        rw [x1]
        show some _ = _
        dsimp only
        rw [cutD_tail]
      have tp : biTuple [.adr s.length] (s ++ [O.lst (ts.map Tm.d)]) = some (.tup (ts.map Tm.d), s ++ [O.lst (ts.map Tm.d)]) := tup_lst lst_new
      have td : (Tm.mk h ts).d = .tup [h.d, .tup (ts.map Tm.d)] := by rw [Tm.d_mk, Tm.ds_map]
      have hok := fok _ (List.mem_singleton.mpr rfl)
      have hall : (Tm.mk h ts).all RdH := by rw [Tm.all_mk]; exact hok
      have hsz : (Tm.mk h ts).size ≤ 10000 := by
        have : stN [some (h, ts)] = 1 + Tm.sizes ts := by simp [stN, frN]
        rw [this, show stN [none] = 0 from rfl] at fn
        rw [Tm.size_mk]
        omega
      have hws := wr_small _ hall
      have ww := write_spec (k := k) (t := .mk h ts) (st := s ++ [O.lst (ts.map Tm.d)]) (by omega) (by omega) (by omega) (all_mono (fun h g => by
        cases h with
        | s x => trivial
        | i v =>
          show v.natAbs.log2 < 1920
          have : v.natAbs < 2 ^ 14 := by have := g.1; have := g.2; omega
          by_cases hz : v.natAbs = 0
          · rw [hz]; decide
          · exact Nat.lt_trans ((Nat.log2_lt hz).mpr this) (by decide)) _ hall)
      refine seq_wp (set_of (d := (Tm.mk h ts).d) (s := s ++ [O.lst (ts.map Tm.d)]) (by rw [td]; (try simp only [eV, eC, eBin, eUn, aNil, aCons, eTup, eLst, eBi, eMeth, tTru, Mi.tCmp, Mi.tAnd, Mi.tOr, Mi.tNot, eAnd, eOr, eNot, eIf, eChain, tOf, oNo, oSo, eSl, eCall, eIs, sSet, sExpr, sRet, sRetN, sNil, sAsg, sPut, sBrk, sCnt, tTrue, wp_bind, wp_ok, wps_nx, wps_rt, wps_bk, wps_ct, wps_toOut, Rs.bind_ok, Rs.ofO_some, Option.map_some, isB, List.getElem?_cons_zero, List.getElem?_cons_succ, List.set_cons_zero, List.set_cons_succ, decide_eq_true_eq, eq_int, eq_str, Option.map_none, Mi.add_int, Mi.add_str0, Mi.add_tup0, opSub, opNeg, cmpI, opIs, opIsNot, biInt, biAbs, isN, atI_0, atI_1, atI_2, atI_3, Mi.ix_tup, Mi.ix_fro, Out.seq_nx, Out.seq_rt, truD, List.set_set, tgSet, if_true, if_false, List.length_cons, List.length_nil, Nat.zero_add, Nat.reduceAdd, Nat.reduceLeDiff, Bool.false_eq_true, eq_self, decide_true, decide_false, Bool.not_true, Bool.not_false, Int.reduceNeg, i0, i1, sl, tp])) ?_)
      show ((sSeq _ _) [some (.str (SX.S l)), some (.adr q), y, z, some (Tm.mk h ts).d] (s ++ [O.lst (ts.map Tm.d)])).wps _
      have rl : readL l = if wr (.mk h ts) = l then some (.mk h ts) else none := by
        unfold readL
        rw [run]
      by_cases hwr : wr (.mk h ts) = l
      · rw [if_pos hwr] at rl
        refine seq_wp (sIf_ff (s := s ++ [O.lst (ts.map Tm.d)]) (by (try simp only [eV, eC, eBin, eUn, aNil, aCons, eTup, eLst, eBi, eMeth, tTru, Mi.tCmp, Mi.tAnd, Mi.tOr, Mi.tNot, eAnd, eOr, eNot, eIf, eChain, tOf, oNo, oSo, eSl, eCall, eIs, sSet, sExpr, sRet, sRetN, sNil, sAsg, sPut, sBrk, sCnt, tTrue, wp_bind, wp_ok, wps_nx, wps_rt, wps_bk, wps_ct, wps_toOut, Rs.bind_ok, Rs.ofO_some, Option.map_some, isB, List.getElem?_cons_zero, List.getElem?_cons_succ, List.set_cons_zero, List.set_cons_succ, decide_eq_true_eq, eq_int, eq_str, Option.map_none, Mi.add_int, Mi.add_str0, Mi.add_tup0, opSub, opNeg, cmpI, opIs, opIsNot, biInt, biAbs, isN, atI_0, atI_1, atI_2, atI_3, Mi.ix_tup, Mi.ix_fro, Out.seq_nx, Out.seq_rt, truD, List.set_set, tgSet, if_true, if_false, List.length_cons, List.length_nil, Nat.zero_add, Nat.reduceAdd, Nat.reduceLeDiff, Bool.false_eq_true, eq_self, decide_true, decide_false, Bool.not_true, Bool.not_false, Int.reduceNeg, ww, ne_str, hwr])) ?_)
        rw [sNil, wps_nx]
        refine ret_of (d := (Tm.mk h ts).d) (s := s ++ [O.lst (ts.map Tm.d)]) rfl ?_
        show ∃ t, readL l = some t ∧ (gcO st _ _).1 = t.d ∧ (gcO st _ _).2 = st
        rw [(o.trans (Old.app _ _)).gc (Tm.noa _)]
        exact ⟨_, rl, rfl, rfl⟩
      · rw [if_neg hwr] at rl
        have ne : SX.S (wr (.mk h ts)) ≠ SX.S l := fun z => hwr (SX.S_inj z)
        refine seq_wp (sIf_tt (s := s ++ [O.lst (ts.map Tm.d)]) (by (try simp only [eV, eC, eBin, eUn, aNil, aCons, eTup, eLst, eBi, eMeth, tTru, Mi.tCmp, Mi.tAnd, Mi.tOr, Mi.tNot, eAnd, eOr, eNot, eIf, eChain, tOf, oNo, oSo, eSl, eCall, eIs, sSet, sExpr, sRet, sRetN, sNil, sAsg, sPut, sBrk, sCnt, tTrue, wp_bind, wp_ok, wps_nx, wps_rt, wps_bk, wps_ct, wps_toOut, Rs.bind_ok, Rs.ofO_some, Option.map_some, isB, List.getElem?_cons_zero, List.getElem?_cons_succ, List.set_cons_zero, List.set_cons_succ, decide_eq_true_eq, eq_int, eq_str, Option.map_none, Mi.add_int, Mi.add_str0, Mi.add_tup0, opSub, opNeg, cmpI, opIs, opIsNot, biInt, biAbs, isN, atI_0, atI_1, atI_2, atI_3, Mi.ix_tup, Mi.ix_fro, Out.seq_nx, Out.seq_rt, truD, List.set_set, tgSet, if_true, if_false, List.length_cons, List.length_nil, Nat.zero_add, Nat.reduceAdd, Nat.reduceLeDiff, Bool.false_eq_true, eq_self, decide_true, decide_false, Bool.not_true, Bool.not_false, Int.reduceNeg, ww, ne_str, ne])) ?_)
        unfold sRaiseP
        exact ⟨rl, rfl, gcX_o (o.trans (Old.app _ _))⟩
    · have rl : readL l = none := by
        unfold readL
        rw [run]
        split
        · rename_i e
          cases e
          simp at h1
        · rfl
      refine seq_wp (sIf_tt (s := s) (by (try simp only [eV, eC, eBin, eUn, aNil, aCons, eTup, eLst, eBi, eMeth, tTru, Mi.tCmp, Mi.tAnd, Mi.tOr, Mi.tNot, eAnd, eOr, eNot, eIf, eChain, tOf, oNo, oSo, eSl, eCall, eIs, sSet, sExpr, sRet, sRetN, sNil, sAsg, sPut, sBrk, sCnt, tTrue, wp_bind, wp_ok, wps_nx, wps_rt, wps_bk, wps_ct, wps_toOut, Rs.bind_ok, Rs.ofO_some, Option.map_some, isB, List.getElem?_cons_zero, List.getElem?_cons_succ, List.set_cons_zero, List.set_cons_succ, decide_eq_true_eq, eq_int, eq_str, Option.map_none, Mi.add_int, Mi.add_str0, Mi.add_tup0, opSub, opNeg, cmpI, opIs, opIsNot, biInt, biAbs, isN, atI_0, atI_1, atI_2, atI_3, Mi.ix_tup, Mi.ix_fro, Out.seq_nx, Out.seq_rt, truD, List.set_set, tgSet, if_true, if_false, List.length_cons, List.length_nil, Nat.zero_add, Nat.reduceAdd, Nat.reduceLeDiff, Bool.false_eq_true, eq_self, decide_true, decide_false, Bool.not_true, Bool.not_false, Int.reduceNeg, hlen, ne_int, show ¬ (((stk.length : Nat) : Int) = 1) by omega])) ?_)
      unfold sRaiseP
      exact ⟨rl, rfl, gcX_o o⟩
theorem read_ok {l : List Nat} {t : Tm} (hk : 3 ≤ k) (hl : l.length ≤ 2400) (h : readL l = some t) : callK T k i_read_term [.str (SX.S l)] st = .ok t.d st := by
  have w := read_wp (st := st) hk hl
  rw [wp_def] at w
  cases e : callK T k i_read_term [.str (SX.S l)] st with
  | ok d s =>
    rw [e] at w
    obtain ⟨t', h1, rfl, rfl⟩ := w
    rw [h] at h1
    cases h1
    rfl
  | ex x s => rw [e] at w; obtain ⟨h1, _⟩ := w; rw [h] at h1; cases h1
  | no => rw [e] at w; exact w.elim
theorem read_bad {l : List Nat} (hk : 3 ≤ k) (hl : l.length ≤ 2400) (h : readL l = none) : callK T k i_read_term [.str (SX.S l)] st = .ex btX st := by
  have w := read_wp (st := st) hk hl
  rw [wp_def] at w
  cases e : callK T k i_read_term [.str (SX.S l)] st with
  | ok d s =>
    rw [e] at w
    obtain ⟨t', h1, _⟩ := w
    rw [h] at h1
    cases h1
  | ex x s => rw [e] at w; obtain ⟨_, rfl, rfl⟩ := w; rfl
  | no => rw [e] at w; exact w.elim
end
/-! ### draws -/
section
variable {ns : List Int} {a : Nat} {st : Store} {b : Int} {k : Nat}
theorem pick_spec (hk : 1 ≤ k) (m : Int) (h1 : 1 ≤ m) (h2 : m < 1073741824) (h : StG a st b) : ∃ v st', callK T k i_l_law_pick [.adr a, .fro (ns.map .int), .int m] st = .ok (.int v) st' ∧ Dr a st st' b ∧ st'.length = st.length ∧ 0 ≤ v ∧ v < m := by
  obtain ⟨k, rfl⟩ : ∃ j, k = j + 1 := ⟨k - 1, by omega⟩
  obtain ⟨p, r, s, e, hp, hs, hs2⟩ := h
  have ha := lst_lt e
  have fin : ∀ (v p' r' s' : Int), 0 ≤ v → v < m → 0 ≤ p' → 0 ≤ s' → s' < 2147483648 → ∀ st1, st1 = st.set a (.lst [.int p', .int r', .int s', .int b]) → ∃ v' : Int, (gcO st (.int v) st1).1 = .int v' ∧ Dr a st (gcO st (.int v) st1).2 b ∧ (gcO st (.int v) st1).2.length = st.length ∧ 0 ≤ v' ∧ v' < m := by
    intro v p' r' s' v1 v2 p1 s1 s2 st1 e1
    subst e1
    rw [gc_pure (keep_set (by rfl)) rfl]
    have e2 : (st.set a (.lst [.int p', .int r', .int s', .int b])).take st.length = st.set a (.lst [.int p', .int r', .int s', .int b]) := List.take_of_length_le (by simp)
    rw [e2]
    exact ⟨v, rfl, Dr.set ⟨p', r', s', lst_set ha, p1, s1, s2⟩, by simp, v1, v2⟩
  have m0 : m ≠ 0 := by omega
  have nz7 : (2147483647 : Int) ≠ 0 := by decide
  have nz3 : (2147483563 : Int) ≠ 0 := by decide
  have md0 : ∀ x : Int, 0 ≤ x.fmod m := fun x => Int.fmod_nonneg_of_pos x (by omega)
  have md1 : ∀ x : Int, x.fmod m < m := fun x => Int.fmod_lt_of_pos x (by omega)
  have dv : CDivN r m := ⟨m0, by omega⟩
  have w : (callK T (k + 1) i_l_law_pick [.adr a, .fro (ns.map .int), .int m] st).wp (fun d s' => ∃ v' : Int, d = .int v' ∧ Dr a st s' b ∧ s'.length = st.length ∧ 0 ≤ v' ∧ v' < m) NoX := by
    refine call_wp (env := [some (.adr a), some (.fro (ns.map .int)), some (.int m), none, none, none]) T_l_law_pick rfl rfl ?_
    rw [fb_l_law_pick, b_l_law_pick]
    refine seq_wp (sIf_t ?_)
    (try simp only [eV, eC, eBin, eUn, aNil, aCons, eTup, eLst, eBi, eMeth, tTru, Mi.tCmp, Mi.tAnd, Mi.tOr, Mi.tNot, eAnd, eOr, eNot, eIf, eChain, tOf, oNo, oSo, eSl, eCall, eIs, sSet, sExpr, sRet, sRetN, sNil, sAsg, sPut, sBrk, sCnt, tTrue, wp_bind, wp_ok, wps_nx, wps_rt, wps_bk, wps_ct, wps_toOut, Rs.bind_ok, Rs.ofO_some, Option.map_some, isB, List.getElem?_cons_zero, List.getElem?_cons_succ, List.set_cons_zero, List.set_cons_succ, decide_eq_true_eq, eq_int, eq_str, Option.map_none, Mi.add_int, Mi.add_str0, Mi.add_tup0, opSub, opNeg, cmpI, opIs, opIsNot, biInt, biAbs, isN, atI_0, atI_1, atI_2, atI_3, Mi.ix_tup, Mi.ix_fro, Out.seq_nx, Out.seq_rt, truD, List.set_set, tgSet, if_true, if_false, List.length_cons, List.length_nil, Nat.zero_add, Nat.reduceAdd, Nat.reduceLeDiff, Bool.false_eq_true, eq_self, decide_true, decide_false, Bool.not_true, Bool.not_false, Int.reduceNeg, ix_lst e])
    split
    · refine seq_wp ?_
      (try simp only [eV, eC, eBin, eUn, aNil, aCons, eTup, eLst, eBi, eMeth, tTru, Mi.tCmp, Mi.tAnd, Mi.tOr, Mi.tNot, eAnd, eOr, eNot, eIf, eChain, tOf, oNo, oSo, eSl, eCall, eIs, sSet, sExpr, sRet, sRetN, sNil, sAsg, sPut, sBrk, sCnt, tTrue, wp_bind, wp_ok, wps_nx, wps_rt, wps_bk, wps_ct, wps_toOut, Rs.bind_ok, Rs.ofO_some, Option.map_some, isB, List.getElem?_cons_zero, List.getElem?_cons_succ, List.set_cons_zero, List.set_cons_succ, decide_eq_true_eq, eq_int, eq_str, Option.map_none, Mi.add_int, Mi.add_str0, Mi.add_tup0, opSub, opNeg, cmpI, opIs, opIsNot, biInt, biAbs, isN, atI_0, atI_1, atI_2, atI_3, Mi.ix_tup, Mi.ix_fro, Out.seq_nx, Out.seq_rt, truD, List.set_set, tgSet, if_true, if_false, List.length_cons, List.length_nil, Nat.zero_add, Nat.reduceAdd, Nat.reduceLeDiff, Bool.false_eq_true, eq_self, decide_true, decide_false, Bool.not_true, Bool.not_false, Int.reduceNeg, ix_lst e, opMod, if_pos m0])
      refine seq_wp ?_
      (try simp only [eV, eC, eBin, eUn, aNil, aCons, eTup, eLst, eBi, eMeth, tTru, Mi.tCmp, Mi.tAnd, Mi.tOr, Mi.tNot, eAnd, eOr, eNot, eIf, eChain, tOf, oNo, oSo, eSl, eCall, eIs, sSet, sExpr, sRet, sRetN, sNil, sAsg, sPut, sBrk, sCnt, tTrue, wp_bind, wp_ok, wps_nx, wps_rt, wps_bk, wps_ct, wps_toOut, Rs.bind_ok, Rs.ofO_some, Option.map_some, isB, List.getElem?_cons_zero, List.getElem?_cons_succ, List.set_cons_zero, List.set_cons_succ, decide_eq_true_eq, eq_int, eq_str, Option.map_none, Mi.add_int, Mi.add_str0, Mi.add_tup0, opSub, opNeg, cmpI, opIs, opIsNot, biInt, biAbs, isN, atI_0, atI_1, atI_2, atI_3, Mi.ix_tup, Mi.ix_fro, Out.seq_nx, Out.seq_rt, truD, List.set_set, tgSet, if_true, if_false, List.length_cons, List.length_nil, Nat.zero_add, Nat.reduceAdd, Nat.reduceLeDiff, Bool.false_eq_true, eq_self, decide_true, decide_false, Bool.not_true, Bool.not_false, Int.reduceNeg, ix_lst e, opDiv, if_pos dv, put_1 e])
      exact fin _ p _ s (md0 _) (md1 _) hp hs hs2 _ rfl
    · (try simp only [eV, eC, eBin, eUn, aNil, aCons, eTup, eLst, eBi, eMeth, tTru, Mi.tCmp, Mi.tAnd, Mi.tOr, Mi.tNot, eAnd, eOr, eNot, eIf, eChain, tOf, oNo, oSo, eSl, eCall, eIs, sSet, sExpr, sRet, sRetN, sNil, sAsg, sPut, sBrk, sCnt, tTrue, wp_bind, wp_ok, wps_nx, wps_rt, wps_bk, wps_ct, wps_toOut, Rs.bind_ok, Rs.ofO_some, Option.map_some, isB, List.getElem?_cons_zero, List.getElem?_cons_succ, List.set_cons_zero, List.set_cons_succ, decide_eq_true_eq, eq_int, eq_str, Option.map_none, Mi.add_int, Mi.add_str0, Mi.add_tup0, opSub, opNeg, cmpI, opIs, opIsNot, biInt, biAbs, isN, atI_0, atI_1, atI_2, atI_3, Mi.ix_tup, Mi.ix_fro, Out.seq_nx, Out.seq_rt, truD, List.set_set, tgSet, if_true, if_false, List.length_cons, List.length_nil, Nat.zero_add, Nat.reduceAdd, Nat.reduceLeDiff, Bool.false_eq_true, eq_self, decide_true, decide_false, Bool.not_true, Bool.not_false, Int.reduceNeg])
      refine seq_wp ?_
      (try simp only [eV, eC, eBin, eUn, aNil, aCons, eTup, eLst, eBi, eMeth, tTru, Mi.tCmp, Mi.tAnd, Mi.tOr, Mi.tNot, eAnd, eOr, eNot, eIf, eChain, tOf, oNo, oSo, eSl, eCall, eIs, sSet, sExpr, sRet, sRetN, sNil, sAsg, sPut, sBrk, sCnt, tTrue, wp_bind, wp_ok, wps_nx, wps_rt, wps_bk, wps_ct, wps_toOut, Rs.bind_ok, Rs.ofO_some, Option.map_some, isB, List.getElem?_cons_zero, List.getElem?_cons_succ, List.set_cons_zero, List.set_cons_succ, decide_eq_true_eq, eq_int, eq_str, Option.map_none, Mi.add_int, Mi.add_str0, Mi.add_tup0, opSub, opNeg, cmpI, opIs, opIsNot, biInt, biAbs, isN, atI_0, atI_1, atI_2, atI_3, Mi.ix_tup, Mi.ix_fro, Out.seq_nx, Out.seq_rt, truD, List.set_set, tgSet, if_true, if_false, List.length_cons, List.length_nil, Nat.zero_add, Nat.reduceAdd, Nat.reduceLeDiff, Bool.false_eq_true, eq_self, decide_true, decide_false, Bool.not_true, Bool.not_false, Int.reduceNeg, ix_lst e])
      refine seq_wp ?_
      (try simp only [eV, eC, eBin, eUn, aNil, aCons, eTup, eLst, eBi, eMeth, tTru, Mi.tCmp, Mi.tAnd, Mi.tOr, Mi.tNot, eAnd, eOr, eNot, eIf, eChain, tOf, oNo, oSo, eSl, eCall, eIs, sSet, sExpr, sRet, sRetN, sNil, sAsg, sPut, sBrk, sCnt, tTrue, wp_bind, wp_ok, wps_nx, wps_rt, wps_bk, wps_ct, wps_toOut, Rs.bind_ok, Rs.ofO_some, Option.map_some, isB, List.getElem?_cons_zero, List.getElem?_cons_succ, List.set_cons_zero, List.set_cons_succ, decide_eq_true_eq, eq_int, eq_str, Option.map_none, Mi.add_int, Mi.add_str0, Mi.add_tup0, opSub, opNeg, cmpI, opIs, opIsNot, biInt, biAbs, isN, atI_0, atI_1, atI_2, atI_3, Mi.ix_tup, Mi.ix_fro, Out.seq_nx, Out.seq_rt, truD, List.set_set, tgSet, if_true, if_false, List.length_cons, List.length_nil, Nat.zero_add, Nat.reduceAdd, Nat.reduceLeDiff, Bool.false_eq_true, eq_self, decide_true, decide_false, Bool.not_true, Bool.not_false, Int.reduceNeg, put_0 e])
      have e4 := lst_set (xs := [.int (p + 1), .int r, .int s, .int b]) ha
      have fin2 : ∀ s1 : Int, 0 ≤ s1 → s1 < 2147483648 → ∀ (cell : Option D), (sSeq (sPut (eV 0) (eC (.int 2)) (eBin opMod (eBi biInt (aCons (eBin opAdd (eBin opAdd (eBin opMul (eBin opIx (eV 0) (eC (.int 2))) (eC (.int 48271))) (eBin opMul (eC (.int 11)) (eV 4))) (eC (.int 5))) aNil)) (eC (.int 2147483647))))
          (sRet (eBin opMod (eBi biInt (aCons (eBin opDiv (eBin opMul (eBin opIx (eV 0) (eC (.int 2))) (eBin opIx (eV 0) (eC (.int 2)))) (eC (.int 8191))) aNil)) (eV 2))) [some (.adr a), some (.fro (ns.map .int)), some (.int m), none, some (.int p), cell] (st.set a (.lst [.int (p + 1), .int r, .int s1, .int b]))).wps
          { nx := fun _ s => ∃ v' : Int, (gcO st .non s).1 = .int v' ∧ Dr a st (gcO st .non s).2 b ∧ (gcO st .non s).2.length = st.length ∧ 0 ≤ v' ∧ v' < m, rt := fun v s => ∃ v' : Int, (gcO st v s).1 = .int v' ∧ Dr a st (gcO st v s).2 b ∧ (gcO st v s).2.length = st.length ∧ 0 ≤ v' ∧ v' < m, ex := fun e _ s => NoX e (gcX st e s) } := by
        intro s1 q1 q2 cell
        have e5 := lst_set (xs := [.int (p + 1), .int r, .int s1, .int b]) ha
        have ha' : a < (st.set a (.lst [.int (p + 1), .int r, .int s1, .int b])).length := by simpa using ha
        refine seq_wp ?_
        have c1 : CMul s1 48271 := .inr (by decide)
        have c2 : CMul 11 p := .inl (by decide)
        (try simp only [eV, eC, eBin, eUn, aNil, aCons, eTup, eLst, eBi, eMeth, tTru, Mi.tCmp, Mi.tAnd, Mi.tOr, Mi.tNot, eAnd, eOr, eNot, eIf, eChain, tOf, oNo, oSo, eSl, eCall, eIs, sSet, sExpr, sRet, sRetN, sNil, sAsg, sPut, sBrk, sCnt, tTrue, wp_bind, wp_ok, wps_nx, wps_rt, wps_bk, wps_ct, wps_toOut, Rs.bind_ok, Rs.ofO_some, Option.map_some, isB, List.getElem?_cons_zero, List.getElem?_cons_succ, List.set_cons_zero, List.set_cons_succ, decide_eq_true_eq, eq_int, eq_str, Option.map_none, Mi.add_int, Mi.add_str0, Mi.add_tup0, opSub, opNeg, cmpI, opIs, opIsNot, biInt, biAbs, isN, atI_0, atI_1, atI_2, atI_3, Mi.ix_tup, Mi.ix_fro, Out.seq_nx, Out.seq_rt, truD, List.set_set, tgSet, if_true, if_false, List.length_cons, List.length_nil, Nat.zero_add, Nat.reduceAdd, Nat.reduceLeDiff, Bool.false_eq_true, eq_self, decide_true, decide_false, Bool.not_true, Bool.not_false, Int.reduceNeg, ix_lst e5, opMul, if_pos c1, if_pos c2, opMod, if_pos nz7, put_2 e5])
        have n1 : 0 ≤ (s1 * 48271 + 11 * p + 5).fmod 2147483647 := Int.fmod_nonneg_of_pos _ (by decide)
        have n2 : (s1 * 48271 + 11 * p + 5).fmod 2147483647 < 2147483647 := Int.fmod_lt_of_pos _ (by decide)
        generalize hs' : (s1 * 48271 + 11 * p + 5).fmod 2147483647 = s2 at *
        have e7 := lst_set (xs := [.int (p + 1), .int r, .int s2, .int b]) ha
        have c3 : CMul s2 s2 := .inl ⟨by omega, by omega⟩
        have c4 : CDivN (s2 * s2) 8191 := ⟨by decide, by decide⟩
        (try simp only [eV, eC, eBin, eUn, aNil, aCons, eTup, eLst, eBi, eMeth, tTru, Mi.tCmp, Mi.tAnd, Mi.tOr, Mi.tNot, eAnd, eOr, eNot, eIf, eChain, tOf, oNo, oSo, eSl, eCall, eIs, sSet, sExpr, sRet, sRetN, sNil, sAsg, sPut, sBrk, sCnt, tTrue, wp_bind, wp_ok, wps_nx, wps_rt, wps_bk, wps_ct, wps_toOut, Rs.bind_ok, Rs.ofO_some, Option.map_some, isB, List.getElem?_cons_zero, List.getElem?_cons_succ, List.set_cons_zero, List.set_cons_succ, decide_eq_true_eq, eq_int, eq_str, Option.map_none, Mi.add_int, Mi.add_str0, Mi.add_tup0, opSub, opNeg, cmpI, opIs, opIsNot, biInt, biAbs, isN, atI_0, atI_1, atI_2, atI_3, Mi.ix_tup, Mi.ix_fro, Out.seq_nx, Out.seq_rt, truD, List.set_set, tgSet, if_true, if_false, List.length_cons, List.length_nil, Nat.zero_add, Nat.reduceAdd, Nat.reduceLeDiff, Bool.false_eq_true, eq_self, decide_true, decide_false, Bool.not_true, Bool.not_false, Int.reduceNeg, ix_lst e7, opMul, if_pos c3, opDiv, if_pos c4, opMod, if_pos m0])
        exact fin _ _ _ s2 (md0 _) (md1 _) (by omega) n1 (by omega) _ rfl
      refine seq_wp (sIf_t ?_)
      (try simp only [eV, eC, eBin, eUn, aNil, aCons, eTup, eLst, eBi, eMeth, tTru, Mi.tCmp, Mi.tAnd, Mi.tOr, Mi.tNot, eAnd, eOr, eNot, eIf, eChain, tOf, oNo, oSo, eSl, eCall, eIs, sSet, sExpr, sRet, sRetN, sNil, sAsg, sPut, sBrk, sCnt, tTrue, wp_bind, wp_ok, wps_nx, wps_rt, wps_bk, wps_ct, wps_toOut, Rs.bind_ok, Rs.ofO_some, Option.map_some, isB, List.getElem?_cons_zero, List.getElem?_cons_succ, List.set_cons_zero, List.set_cons_succ, decide_eq_true_eq, eq_int, eq_str, Option.map_none, Mi.add_int, Mi.add_str0, Mi.add_tup0, opSub, opNeg, cmpI, opIs, opIsNot, biInt, biAbs, isN, atI_0, atI_1, atI_2, atI_3, Mi.ix_tup, Mi.ix_fro, Out.seq_nx, Out.seq_rt, truD, List.set_set, tgSet, if_true, if_false, List.length_cons, List.length_nil, Nat.zero_add, Nat.reduceAdd, Nat.reduceLeDiff, Bool.false_eq_true, eq_self, decide_true, decide_false, Bool.not_true, Bool.not_false, Int.reduceNeg, biLen, lenD, seqOf, seqL, List.length_map])
      split
      · rename_i hlt
        obtain ⟨pn, rfl⟩ := Int.eq_ofNat_of_zero_le hp
        have hpl : pn < ns.length := by omega
        have e5 : atI (ns.map D.int) (pn : Int) = some (.int ns[pn]) := atI_of (by simp [hpl])
        refine seq_wp ?_
        (try simp only [eV, eC, eBin, eUn, aNil, aCons, eTup, eLst, eBi, eMeth, tTru, Mi.tCmp, Mi.tAnd, Mi.tOr, Mi.tNot, eAnd, eOr, eNot, eIf, eChain, tOf, oNo, oSo, eSl, eCall, eIs, sSet, sExpr, sRet, sRetN, sNil, sAsg, sPut, sBrk, sCnt, tTrue, wp_bind, wp_ok, wps_nx, wps_rt, wps_bk, wps_ct, wps_toOut, Rs.bind_ok, Rs.ofO_some, Option.map_some, isB, List.getElem?_cons_zero, List.getElem?_cons_succ, List.set_cons_zero, List.set_cons_succ, decide_eq_true_eq, eq_int, eq_str, Option.map_none, Mi.add_int, Mi.add_str0, Mi.add_tup0, opSub, opNeg, cmpI, opIs, opIsNot, biInt, biAbs, isN, atI_0, atI_1, atI_2, atI_3, Mi.ix_tup, Mi.ix_fro, Out.seq_nx, Out.seq_rt, truD, List.set_set, tgSet, if_true, if_false, List.length_cons, List.length_nil, Nat.zero_add, Nat.reduceAdd, Nat.reduceLeDiff, Bool.false_eq_true, eq_self, decide_true, decide_false, Bool.not_true, Bool.not_false, Int.reduceNeg, e5])
        generalize (if ns[pn] < 0 then -ns[pn] else ns[pn]) = c
        refine seq_wp (sIf_t ?_)
        have c5 : CPow 10 18 := ⟨by decide, by decide, by decide⟩
        (try simp only [eV, eC, eBin, eUn, aNil, aCons, eTup, eLst, eBi, eMeth, tTru, Mi.tCmp, Mi.tAnd, Mi.tOr, Mi.tNot, eAnd, eOr, eNot, eIf, eChain, tOf, oNo, oSo, eSl, eCall, eIs, sSet, sExpr, sRet, sRetN, sNil, sAsg, sPut, sBrk, sCnt, tTrue, wp_bind, wp_ok, wps_nx, wps_rt, wps_bk, wps_ct, wps_toOut, Rs.bind_ok, Rs.ofO_some, Option.map_some, isB, List.getElem?_cons_zero, List.getElem?_cons_succ, List.set_cons_zero, List.set_cons_succ, decide_eq_true_eq, eq_int, eq_str, Option.map_none, Mi.add_int, Mi.add_str0, Mi.add_tup0, opSub, opNeg, cmpI, opIs, opIsNot, biInt, biAbs, isN, atI_0, atI_1, atI_2, atI_3, Mi.ix_tup, Mi.ix_fro, Out.seq_nx, Out.seq_rt, truD, List.set_set, tgSet, if_true, if_false, List.length_cons, List.length_nil, Nat.zero_add, Nat.reduceAdd, Nat.reduceLeDiff, Bool.false_eq_true, eq_self, decide_true, decide_false, Bool.not_true, Bool.not_false, Int.reduceNeg, opPow, if_pos c5])
        split
        · refine seq_wp ?_
          have c6 : CDivN c m := ⟨m0, by omega⟩
          (try simp only [eV, eC, eBin, eUn, aNil, aCons, eTup, eLst, eBi, eMeth, tTru, Mi.tCmp, Mi.tAnd, Mi.tOr, Mi.tNot, eAnd, eOr, eNot, eIf, eChain, tOf, oNo, oSo, eSl, eCall, eIs, sSet, sExpr, sRet, sRetN, sNil, sAsg, sPut, sBrk, sCnt, tTrue, wp_bind, wp_ok, wps_nx, wps_rt, wps_bk, wps_ct, wps_toOut, Rs.bind_ok, Rs.ofO_some, Option.map_some, isB, List.getElem?_cons_zero, List.getElem?_cons_succ, List.set_cons_zero, List.set_cons_succ, decide_eq_true_eq, eq_int, eq_str, Option.map_none, Mi.add_int, Mi.add_str0, Mi.add_tup0, opSub, opNeg, cmpI, opIs, opIsNot, biInt, biAbs, isN, atI_0, atI_1, atI_2, atI_3, Mi.ix_tup, Mi.ix_fro, Out.seq_nx, Out.seq_rt, truD, List.set_set, tgSet, if_true, if_false, List.length_cons, List.length_nil, Nat.zero_add, Nat.reduceAdd, Nat.reduceLeDiff, Bool.false_eq_true, eq_self, decide_true, decide_false, Bool.not_true, Bool.not_false, Int.reduceNeg, opDiv, if_pos c6, put_1 e4, opMod, if_pos m0])
          exact fin _ _ _ s (md0 _) (md1 _) (by omega) hs hs2 _ rfl
        · (try simp only [eV, eC, eBin, eUn, aNil, aCons, eTup, eLst, eBi, eMeth, tTru, Mi.tCmp, Mi.tAnd, Mi.tOr, Mi.tNot, eAnd, eOr, eNot, eIf, eChain, tOf, oNo, oSo, eSl, eCall, eIs, sSet, sExpr, sRet, sRetN, sNil, sAsg, sPut, sBrk, sCnt, tTrue, wp_bind, wp_ok, wps_nx, wps_rt, wps_bk, wps_ct, wps_toOut, Rs.bind_ok, Rs.ofO_some, Option.map_some, isB, List.getElem?_cons_zero, List.getElem?_cons_succ, List.set_cons_zero, List.set_cons_succ, decide_eq_true_eq, eq_int, eq_str, Option.map_none, Mi.add_int, Mi.add_str0, Mi.add_tup0, opSub, opNeg, cmpI, opIs, opIsNot, biInt, biAbs, isN, atI_0, atI_1, atI_2, atI_3, Mi.ix_tup, Mi.ix_fro, Out.seq_nx, Out.seq_rt, truD, List.set_set, tgSet, if_true, if_false, List.length_cons, List.length_nil, Nat.zero_add, Nat.reduceAdd, Nat.reduceLeDiff, Bool.false_eq_true, eq_self, decide_true, decide_false, Bool.not_true, Bool.not_false, Int.reduceNeg])
          have c6 : CMul s 40014 := .inr (by decide)
          have c7 : CMul c 69621 := .inr (by decide)
          (try simp only [eV, eC, eBin, eUn, aNil, aCons, eTup, eLst, eBi, eMeth, tTru, Mi.tCmp, Mi.tAnd, Mi.tOr, Mi.tNot, eAnd, eOr, eNot, eIf, eChain, tOf, oNo, oSo, eSl, eCall, eIs, sSet, sExpr, sRet, sRetN, sNil, sAsg, sPut, sBrk, sCnt, tTrue, wp_bind, wp_ok, wps_nx, wps_rt, wps_bk, wps_ct, wps_toOut, Rs.bind_ok, Rs.ofO_some, Option.map_some, isB, List.getElem?_cons_zero, List.getElem?_cons_succ, List.set_cons_zero, List.set_cons_succ, decide_eq_true_eq, eq_int, eq_str, Option.map_none, Mi.add_int, Mi.add_str0, Mi.add_tup0, opSub, opNeg, cmpI, opIs, opIsNot, biInt, biAbs, isN, atI_0, atI_1, atI_2, atI_3, Mi.ix_tup, Mi.ix_fro, Out.seq_nx, Out.seq_rt, truD, List.set_set, tgSet, if_true, if_false, List.length_cons, List.length_nil, Nat.zero_add, Nat.reduceAdd, Nat.reduceLeDiff, Bool.false_eq_true, eq_self, decide_true, decide_false, Bool.not_true, Bool.not_false, Int.reduceNeg, ix_lst e4, opMul, if_pos c6, if_pos c7, opMod, if_pos nz3, put_2 e4])
          have n1 : 0 ≤ (s * 40014 + c * 69621 + 17).fmod 2147483563 := Int.fmod_nonneg_of_pos _ (by decide)
          have n2 : (s * 40014 + c * 69621 + 17).fmod 2147483563 < 2147483563 := Int.fmod_lt_of_pos _ (by decide)
          exact fin2 _ n1 (by omega) _
      · (try simp only [eV, eC, eBin, eUn, aNil, aCons, eTup, eLst, eBi, eMeth, tTru, Mi.tCmp, Mi.tAnd, Mi.tOr, Mi.tNot, eAnd, eOr, eNot, eIf, eChain, tOf, oNo, oSo, eSl, eCall, eIs, sSet, sExpr, sRet, sRetN, sNil, sAsg, sPut, sBrk, sCnt, tTrue, wp_bind, wp_ok, wps_nx, wps_rt, wps_bk, wps_ct, wps_toOut, Rs.bind_ok, Rs.ofO_some, Option.map_some, isB, List.getElem?_cons_zero, List.getElem?_cons_succ, List.set_cons_zero, List.set_cons_succ, decide_eq_true_eq, eq_int, eq_str, Option.map_none, Mi.add_int, Mi.add_str0, Mi.add_tup0, opSub, opNeg, cmpI, opIs, opIsNot, biInt, biAbs, isN, atI_0, atI_1, atI_2, atI_3, Mi.ix_tup, Mi.ix_fro, Out.seq_nx, Out.seq_rt, truD, List.set_set, tgSet, if_true, if_false, List.length_cons, List.length_nil, Nat.zero_add, Nat.reduceAdd, Nat.reduceLeDiff, Bool.false_eq_true, eq_self, decide_true, decide_false, Bool.not_true, Bool.not_false, Int.reduceNeg])
        exact fin2 _ hs hs2 _
  obtain ⟨d, s', e1, v, rfl, q⟩ := w.ok
  exact ⟨v, s', e1, q⟩
end
section
variable {ns : List Int} {a : Nat} {st : Store} {b : Int} {k : Nat}
theorem name_spec (hk : 2 ≤ k) (large : Bool) (h : StG a st b) : ∃ x st', callK T k i_l_law_name [.adr a, .fro (ns.map .int), .bl large] st = .ok (.str x) st' ∧ Dr a st st' b ∧ st'.length = st.length ∧ NmOk large x := by
  obtain ⟨k, rfl⟩ : ∃ j, k = j + 1 := ⟨k - 1, by omega⟩
  have ha := h.lt
  have w : (callK T (k + 1) i_l_law_name [.adr a, .fro (ns.map .int), .bl large] st).wp (fun d s' => ∃ x : Str, d = .str x ∧ Dr a st s' b ∧ s'.length = st.length ∧ NmOk large x) NoX := by
    refine call_wp (env := [some (.adr a), some (.fro (ns.map .int)), some (.bl large), none, none, none, none, none]) T_l_law_name rfl rfl ?_
    rw [fb_l_law_name, b_l_law_name]
    refine seq_wp ?_
    (try simp only [eV, eC, eBin, eUn, aNil, aCons, eTup, eLst, eBi, eMeth, tTru, Mi.tCmp, Mi.tAnd, Mi.tOr, Mi.tNot, eAnd, eOr, eNot, eIf, eChain, tOf, oNo, oSo, eSl, eCall, eIs, sSet, sExpr, sRet, sRetN, sNil, sAsg, sPut, sBrk, sCnt, tTrue, wp_bind, wp_ok, wps_nx, wps_rt, wps_bk, wps_ct, wps_toOut, Rs.bind_ok, Rs.ofO_some, Option.map_some, isB, List.getElem?_cons_zero, List.getElem?_cons_succ, List.set_cons_zero, List.set_cons_succ, decide_eq_true_eq, eq_int, eq_str, Option.map_none, Mi.add_int, Mi.add_str0, Mi.add_tup0, opSub, opNeg, cmpI, opIs, opIsNot, biInt, biAbs, isN, atI_0, atI_1, atI_2, atI_3, Mi.ix_tup, Mi.ix_fro, Out.seq_nx, Out.seq_rt, truD, List.set_set, tgSet, if_true, if_false, List.length_cons, List.length_nil, Nat.zero_add, Nat.reduceAdd, Nat.reduceLeDiff, Bool.false_eq_true, eq_self, decide_true, decide_false, Bool.not_true, Bool.not_false, Int.reduceNeg])
    refine seq_wp ?_
    have c1 : (("abcdefghijklmnopqrstuvwxyz" : Str)).length ≤ 5592405 := by decide +kernel
    have c2 : (("abcdefghijklmnopqrstuvwxyz" : Str)).length + (("ABCDEFGHIJKLMNOPQRSTUVWXYZ" : Str)).length ≤ sizeLine := by decide +kernel
    have c3 : ((("abcdefghijklmnopqrstuvwxyz" : Str)) ++ (("ABCDEFGHIJKLMNOPQRSTUVWXYZ" : Str))).length + (("0123456789" : Str)).length ≤ sizeLine := by decide +kernel
    have c4 : ((("abcdefghijklmnopqrstuvwxyz" : Str)) ++ (("ABCDEFGHIJKLMNOPQRSTUVWXYZ" : Str))) ++ (("0123456789" : Str)) = "abcdefghijklmnopqrstuvwxyzABCDEFGHIJKLMNOPQRSTUVWXYZ0123456789" := by decide +kernel
    (try simp only [eV, eC, eBin, eUn, aNil, aCons, eTup, eLst, eBi, eMeth, tTru, Mi.tCmp, Mi.tAnd, Mi.tOr, Mi.tNot, eAnd, eOr, eNot, eIf, eChain, tOf, oNo, oSo, eSl, eCall, eIs, sSet, sExpr, sRet, sRetN, sNil, sAsg, sPut, sBrk, sCnt, tTrue, wp_bind, wp_ok, wps_nx, wps_rt, wps_bk, wps_ct, wps_toOut, Rs.bind_ok, Rs.ofO_some, Option.map_some, isB, List.getElem?_cons_zero, List.getElem?_cons_succ, List.set_cons_zero, List.set_cons_succ, decide_eq_true_eq, eq_int, eq_str, Option.map_none, Mi.add_int, Mi.add_str0, Mi.add_tup0, opSub, opNeg, cmpI, opIs, opIsNot, biInt, biAbs, isN, atI_0, atI_1, atI_2, atI_3, Mi.ix_tup, Mi.ix_fro, Out.seq_nx, Out.seq_rt, truD, List.set_set, tgSet, if_true, if_false, List.length_cons, List.length_nil, Nat.zero_add, Nat.reduceAdd, Nat.reduceLeDiff, Bool.false_eq_true, eq_self, decide_true, decide_false, Bool.not_true, Bool.not_false, Int.reduceNeg, tyStr, mdUpper, if_pos c1, upper_small, if_pos c2, if_pos c3, c4])
    refine seq_wp ?_
    (try simp only [eV, eC, eBin, eUn, aNil, aCons, eTup, eLst, eBi, eMeth, tTru, Mi.tCmp, Mi.tAnd, Mi.tOr, Mi.tNot, eAnd, eOr, eNot, eIf, eChain, tOf, oNo, oSo, eSl, eCall, eIs, sSet, sExpr, sRet, sRetN, sNil, sAsg, sPut, sBrk, sCnt, tTrue, wp_bind, wp_ok, wps_nx, wps_rt, wps_bk, wps_ct, wps_toOut, Rs.bind_ok, Rs.ofO_some, Option.map_some, isB, List.getElem?_cons_zero, List.getElem?_cons_succ, List.set_cons_zero, List.set_cons_succ, decide_eq_true_eq, eq_int, eq_str, Option.map_none, Mi.add_int, Mi.add_str0, Mi.add_tup0, opSub, opNeg, cmpI, opIs, opIsNot, biInt, biAbs, isN, atI_0, atI_1, atI_2, atI_3, Mi.ix_tup, Mi.ix_fro, Out.seq_nx, Out.seq_rt, truD, List.set_set, tgSet, if_true, if_false, List.length_cons, List.length_nil, Nat.zero_add, Nat.reduceAdd, Nat.reduceLeDiff, Bool.false_eq_true, eq_self, decide_true, decide_false, Bool.not_true, Bool.not_false, Int.reduceNeg])
    obtain ⟨v, s1, e1, d1, l1, v0, v1⟩ := pick_spec (k := k) (ns := ns) (by omega) 3 (by decide) (by decide) h
    rw [e1]
    (try simp only [eV, eC, eBin, eUn, aNil, aCons, eTup, eLst, eBi, eMeth, tTru, Mi.tCmp, Mi.tAnd, Mi.tOr, Mi.tNot, eAnd, eOr, eNot, eIf, eChain, tOf, oNo, oSo, eSl, eCall, eIs, sSet, sExpr, sRet, sRetN, sNil, sAsg, sPut, sBrk, sCnt, tTrue, wp_bind, wp_ok, wps_nx, wps_rt, wps_bk, wps_ct, wps_toOut, Rs.bind_ok, Rs.ofO_some, Option.map_some, isB, List.getElem?_cons_zero, List.getElem?_cons_succ, List.set_cons_zero, List.set_cons_succ, decide_eq_true_eq, eq_int, eq_str, Option.map_none, Mi.add_int, Mi.add_str0, Mi.add_tup0, opSub, opNeg, cmpI, opIs, opIsNot, biInt, biAbs, isN, atI_0, atI_1, atI_2, atI_3, Mi.ix_tup, Mi.ix_fro, Out.seq_nx, Out.seq_rt, truD, List.set_set, tgSet, if_true, if_false, List.length_cons, List.length_nil, Nat.zero_add, Nat.reduceAdd, Nat.reduceLeDiff, Bool.false_eq_true, eq_self, decide_true, decide_false, Bool.not_true, Bool.not_false, Int.reduceNeg])
    refine seq_mid (I := fun env s => ∃ z : Int, env = [some (.adr a), some (.fro (ns.map .int)), some (.bl large), some (.str "abcdefghijklmnopqrstuvwxyz"), some (.str "abcdefghijklmnopqrstuvwxyzABCDEFGHIJKLMNOPQRSTUVWXYZ0123456789"), some (.int z), none, none] ∧ 1 ≤ z ∧ z ≤ 12 ∧ Dr a st s b) (sIf_t ?_) ?_
    · (try simp only [eV, eC, eBin, eUn, aNil, aCons, eTup, eLst, eBi, eMeth, tTru, Mi.tCmp, Mi.tAnd, Mi.tOr, Mi.tNot, eAnd, eOr, eNot, eIf, eChain, tOf, oNo, oSo, eSl, eCall, eIs, sSet, sExpr, sRet, sRetN, sNil, sAsg, sPut, sBrk, sCnt, tTrue, wp_bind, wp_ok, wps_nx, wps_rt, wps_bk, wps_ct, wps_toOut, Rs.bind_ok, Rs.ofO_some, Option.map_some, isB, List.getElem?_cons_zero, List.getElem?_cons_succ, List.set_cons_zero, List.set_cons_succ, decide_eq_true_eq, eq_int, eq_str, Option.map_none, Mi.add_int, Mi.add_str0, Mi.add_tup0, opSub, opNeg, cmpI, opIs, opIsNot, biInt, biAbs, isN, atI_0, atI_1, atI_2, atI_3, Mi.ix_tup, Mi.ix_fro, Out.seq_nx, Out.seq_rt, truD, List.set_set, tgSet, if_true, if_false, List.length_cons, List.length_nil, Nat.zero_add, Nat.reduceAdd, Nat.reduceLeDiff, Bool.false_eq_true, eq_self, decide_true, decide_false, Bool.not_true, Bool.not_false, Int.reduceNeg])
      split
      · obtain ⟨v, s2, e2, d2, l2, v0, v1⟩ := pick_spec (k := k) (ns := ns) (by omega) 12 (by decide) (by decide) d1.ok
        (try simp only [eV, eC, eBin, eUn, aNil, aCons, eTup, eLst, eBi, eMeth, tTru, Mi.tCmp, Mi.tAnd, Mi.tOr, Mi.tNot, eAnd, eOr, eNot, eIf, eChain, tOf, oNo, oSo, eSl, eCall, eIs, sSet, sExpr, sRet, sRetN, sNil, sAsg, sPut, sBrk, sCnt, tTrue, wp_bind, wp_ok, wps_nx, wps_rt, wps_bk, wps_ct, wps_toOut, Rs.bind_ok, Rs.ofO_some, Option.map_some, isB, List.getElem?_cons_zero, List.getElem?_cons_succ, List.set_cons_zero, List.set_cons_succ, decide_eq_true_eq, eq_int, eq_str, Option.map_none, Mi.add_int, Mi.add_str0, Mi.add_tup0, opSub, opNeg, cmpI, opIs, opIsNot, biInt, biAbs, isN, atI_0, atI_1, atI_2, atI_3, Mi.ix_tup, Mi.ix_fro, Out.seq_nx, Out.seq_rt, truD, List.set_set, tgSet, if_true, if_false, List.length_cons, List.length_nil, Nat.zero_add, Nat.reduceAdd, Nat.reduceLeDiff, Bool.false_eq_true, eq_self, decide_true, decide_false, Bool.not_true, Bool.not_false, Int.reduceNeg, e2])
        exact ⟨_, rfl, by omega, by omega, d1.trans d2⟩
      · (try simp only [eV, eC, eBin, eUn, aNil, aCons, eTup, eLst, eBi, eMeth, tTru, Mi.tCmp, Mi.tAnd, Mi.tOr, Mi.tNot, eAnd, eOr, eNot, eIf, eChain, tOf, oNo, oSo, eSl, eCall, eIs, sSet, sExpr, sRet, sRetN, sNil, sAsg, sPut, sBrk, sCnt, tTrue, wp_bind, wp_ok, wps_nx, wps_rt, wps_bk, wps_ct, wps_toOut, Rs.bind_ok, Rs.ofO_some, Option.map_some, isB, List.getElem?_cons_zero, List.getElem?_cons_succ, List.set_cons_zero, List.set_cons_succ, decide_eq_true_eq, eq_int, eq_str, Option.map_none, Mi.add_int, Mi.add_str0, Mi.add_tup0, opSub, opNeg, cmpI, opIs, opIsNot, biInt, biAbs, isN, atI_0, atI_1, atI_2, atI_3, Mi.ix_tup, Mi.ix_fro, Out.seq_nx, Out.seq_rt, truD, List.set_set, tgSet, if_true, if_false, List.length_cons, List.length_nil, Nat.zero_add, Nat.reduceAdd, Nat.reduceLeDiff, Bool.false_eq_true, eq_self, decide_true, decide_false, Bool.not_true, Bool.not_false, Int.reduceNeg])
        exact ⟨_, rfl, by omega, by omega, d1⟩
    · rintro _ s1 ⟨z, rfl, z1, z2, d1⟩
      refine seq_wp ?_
      have e3 : ∃ c : Nat, ∃ s2 : Store, (eBin opIx (eBin opIx (eLst (aCons (eV 3) (aCons (eMeth tyStr mdUpper (eV 3) aNil) aNil))) (eBi biInt (aCons (eV 2) aNil))) (eCall (callK T k) i_l_law_pick (aCons (eV 0) (aCons (eV 1) (aCons (eC (.int 26)) aNil)))))
          [some (.adr a), some (.fro (ns.map .int)), some (.bl large), some (.str "abcdefghijklmnopqrstuvwxyz"), some (.str "abcdefghijklmnopqrstuvwxyzABCDEFGHIJKLMNOPQRSTUVWXYZ0123456789"), some (.int z), none, none] s1 = .ok (.str ⟨#[c]⟩) s2 ∧ Dr a st s2 b ∧ c ∈ (if large = true then uppS else lowS) := by
        obtain ⟨v, s2, e2, d2, l2, v0, v1⟩ := pick_spec (k := k) (ns := ns) (st := s1 ++ [.lst [.str "abcdefghijklmnopqrstuvwxyz", .str "ABCDEFGHIJKLMNOPQRSTUVWXYZ"]]) (by omega) 26 (by decide) (by decide) (d1.ok.old (Old.app _ _))
        have h1 : ("abcdefghijklmnopqrstuvwxyz" : Str).length ≤ sizeLine := by decide +kernel
        have h2 : ("ABCDEFGHIJKLMNOPQRSTUVWXYZ" : Str).length ≤ sizeLine := by decide +kernel
        have n1 : ("abcdefghijklmnopqrstuvwxyz" : Str).cps.toList.length = 26 := by decide +kernel
        have n2 : ("ABCDEFGHIJKLMNOPQRSTUVWXYZ" : Str).cps.toList.length = 26 := by decide +kernel
        cases large with
        | true =>
          obtain ⟨c, m1, m2⟩ := atI_mem (xs := ("ABCDEFGHIJKLMNOPQRSTUVWXYZ" : Str).cps.toList) v0 (by rw [n2]; exact v1)
          refine ⟨c, s2, ?_, (d1.old (Old.app _ _)).trans d2, m2⟩
          (try simp only [eV, eC, eBin, eUn, aNil, aCons, eTup, eLst, eBi, eMeth, tTru, Mi.tCmp, Mi.tAnd, Mi.tOr, Mi.tNot, eAnd, eOr, eNot, eIf, eChain, tOf, oNo, oSo, eSl, eCall, eIs, sSet, sExpr, sRet, sRetN, sNil, sAsg, sPut, sBrk, sCnt, tTrue, wp_bind, wp_ok, wps_nx, wps_rt, wps_bk, wps_ct, wps_toOut, Rs.bind_ok, Rs.ofO_some, Option.map_some, isB, List.getElem?_cons_zero, List.getElem?_cons_succ, List.set_cons_zero, List.set_cons_succ, decide_eq_true_eq, eq_int, eq_str, Option.map_none, Mi.add_int, Mi.add_str0, Mi.add_tup0, opSub, opNeg, cmpI, opIs, opIsNot, biInt, biAbs, isN, atI_0, atI_1, atI_2, atI_3, Mi.ix_tup, Mi.ix_fro, Out.seq_nx, Out.seq_rt, truD, List.set_set, tgSet, if_true, if_false, List.length_cons, List.length_nil, Nat.zero_add, Nat.reduceAdd, Nat.reduceLeDiff, Bool.false_eq_true, eq_self, decide_true, decide_false, Bool.not_true, Bool.not_false, Int.reduceNeg, tyStr, mdUpper, if_pos c1, upper_small, List.length_cons, List.length_nil, ix_lst lst_new, e2, ix_str h2, m1])
        | false =>
          obtain ⟨c, m1, m2⟩ := atI_mem (xs := ("abcdefghijklmnopqrstuvwxyz" : Str).cps.toList) v0 (by rw [n1]; exact v1)
          refine ⟨c, s2, ?_, (d1.old (Old.app _ _)).trans d2, m2⟩
          (try simp only [eV, eC, eBin, eUn, aNil, aCons, eTup, eLst, eBi, eMeth, tTru, Mi.tCmp, Mi.tAnd, Mi.tOr, Mi.tNot, eAnd, eOr, eNot, eIf, eChain, tOf, oNo, oSo, eSl, eCall, eIs, sSet, sExpr, sRet, sRetN, sNil, sAsg, sPut, sBrk, sCnt, tTrue, wp_bind, wp_ok, wps_nx, wps_rt, wps_bk, wps_ct, wps_toOut, Rs.bind_ok, Rs.ofO_some, Option.map_some, isB, List.getElem?_cons_zero, List.getElem?_cons_succ, List.set_cons_zero, List.set_cons_succ, decide_eq_true_eq, eq_int, eq_str, Option.map_none, Mi.add_int, Mi.add_str0, Mi.add_tup0, opSub, opNeg, cmpI, opIs, opIsNot, biInt, biAbs, isN, atI_0, atI_1, atI_2, atI_3, Mi.ix_tup, Mi.ix_fro, Out.seq_nx, Out.seq_rt, truD, List.set_set, tgSet, if_true, if_false, List.length_cons, List.length_nil, Nat.zero_add, Nat.reduceAdd, Nat.reduceLeDiff, Bool.false_eq_true, eq_self, decide_true, decide_false, Bool.not_true, Bool.not_false, Int.reduceNeg, tyStr, mdUpper, if_pos c1, upper_small, List.length_cons, List.length_nil, ix_lst lst_new, e2, ix_str h1, m1])
      obtain ⟨c, s2, e3, d2, hc⟩ := e3
      rw [sSet, e3]
      (try simp only [eV, eC, eBin, eUn, aNil, aCons, eTup, eLst, eBi, eMeth, tTru, Mi.tCmp, Mi.tAnd, Mi.tOr, Mi.tNot, eAnd, eOr, eNot, eIf, eChain, tOf, oNo, oSo, eSl, eCall, eIs, sSet, sExpr, sRet, sRetN, sNil, sAsg, sPut, sBrk, sCnt, tTrue, wp_bind, wp_ok, wps_nx, wps_rt, wps_bk, wps_ct, wps_toOut, Rs.bind_ok, Rs.ofO_some, Option.map_some, isB, List.getElem?_cons_zero, List.getElem?_cons_succ, List.set_cons_zero, List.set_cons_succ, decide_eq_true_eq, eq_int, eq_str, Option.map_none, Mi.add_int, Mi.add_str0, Mi.add_tup0, opSub, opNeg, cmpI, opIs, opIsNot, biInt, biAbs, isN, atI_0, atI_1, atI_2, atI_3, Mi.ix_tup, Mi.ix_fro, Out.seq_nx, Out.seq_rt, truD, List.set_set, tgSet, if_true, if_false, List.length_cons, List.length_nil, Nat.zero_add, Nat.reduceAdd, Nat.reduceLeDiff, Bool.false_eq_true, eq_self, decide_true, decide_false, Bool.not_true, Bool.not_false, Int.reduceNeg])
      refine seq_mid (I := fun env s => ∃ (cs : List Nat) (y : Option D), env = [some (.adr a), some (.fro (ns.map .int)), some (.bl large), some (.str "abcdefghijklmnopqrstuvwxyz"), some (.str "abcdefghijklmnopqrstuvwxyzABCDEFGHIJKLMNOPQRSTUVWXYZ0123456789"), some (.int z), some (.str ⟨(c :: cs).toArray⟩), y] ∧ (cs.length : Int) = z - 1 ∧ (∀ d ∈ cs, d ∈ chrS) ∧ Dr a st s b) (sFor_wp ?_) ?_
      · rw [srcR1_of (j := z - 1) (st' := s2) (by (try simp only [eV, eC, eBin, eUn, aNil, aCons, eTup, eLst, eBi, eMeth, tTru, Mi.tCmp, Mi.tAnd, Mi.tOr, Mi.tNot, eAnd, eOr, eNot, eIf, eChain, tOf, oNo, oSo, eSl, eCall, eIs, sSet, sExpr, sRet, sRetN, sNil, sAsg, sPut, sBrk, sCnt, tTrue, wp_bind, wp_ok, wps_nx, wps_rt, wps_bk, wps_ct, wps_toOut, Rs.bind_ok, Rs.ofO_some, Option.map_some, isB, List.getElem?_cons_zero, List.getElem?_cons_succ, List.set_cons_zero, List.set_cons_succ, decide_eq_true_eq, eq_int, eq_str, Option.map_none, Mi.add_int, Mi.add_str0, Mi.add_tup0, opSub, opNeg, cmpI, opIs, opIsNot, biInt, biAbs, isN, atI_0, atI_1, atI_2, atI_3, Mi.ix_tup, Mi.ix_fro, Out.seq_nx, Out.seq_rt, truD, List.set_set, tgSet, if_true, if_false, List.length_cons, List.length_nil, Nat.zero_add, Nat.reduceAdd, Nat.reduceLeDiff, Bool.false_eq_true, eq_self, decide_true, decide_false, Bool.not_true, Bool.not_false, Int.reduceNeg])) (by omega) (by omega)]
        rw [wp_ok]
        refine forR_wp (I := fun i env s => ∃ (cs : List Nat) (y : Option D), env = [some (.adr a), some (.fro (ns.map .int)), some (.bl large), some (.str "abcdefghijklmnopqrstuvwxyz"), some (.str "abcdefghijklmnopqrstuvwxyzABCDEFGHIJKLMNOPQRSTUVWXYZ0123456789"), some (.int z), some (.str ⟨(c :: cs).toArray⟩), y] ∧ (cs.length : Int) = i ∧ (∀ d ∈ cs, d ∈ chrS) ∧ Dr a st s b) (hi := z - 1) ?_ ?_ _ 0 _ _ (by omega) ⟨[], none, rfl, rfl, by simp, d2⟩
        · rintro i _ s3 ⟨cs, y, rfl, q1, q2, d3⟩ hi
          refine ⟨_, rfl, ?_⟩
          have h3 : ("abcdefghijklmnopqrstuvwxyzABCDEFGHIJKLMNOPQRSTUVWXYZ0123456789" : Str).length ≤ sizeLine := by decide +kernel
          have n3 : ("abcdefghijklmnopqrstuvwxyzABCDEFGHIJKLMNOPQRSTUVWXYZ0123456789" : Str).cps.toList.length = 62 := by decide +kernel
          obtain ⟨v, s4, e4, d4, l4, v0, v1⟩ := pick_spec (k := k) (ns := ns) (by omega) 62 (by decide) (by decide) d3.ok
          obtain ⟨c', m1, m2⟩ := atI_mem (xs := ("abcdefghijklmnopqrstuvwxyzABCDEFGHIJKLMNOPQRSTUVWXYZ0123456789" : Str).cps.toList) v0 (by rw [n3]; exact v1)
          have sz : Str.length ⟨(c :: cs).toArray⟩ + Str.length ⟨#[c']⟩ ≤ sizeLine := by
            have : sizeLine = 16777216 := by decide
            simp [Str.length]; omega
          (try simp only [eV, eC, eBin, eUn, aNil, aCons, eTup, eLst, eBi, eMeth, tTru, Mi.tCmp, Mi.tAnd, Mi.tOr, Mi.tNot, eAnd, eOr, eNot, eIf, eChain, tOf, oNo, oSo, eSl, eCall, eIs, sSet, sExpr, sRet, sRetN, sNil, sAsg, sPut, sBrk, sCnt, tTrue, wp_bind, wp_ok, wps_nx, wps_rt, wps_bk, wps_ct, wps_toOut, Rs.bind_ok, Rs.ofO_some, Option.map_some, isB, List.getElem?_cons_zero, List.getElem?_cons_succ, List.set_cons_zero, List.set_cons_succ, decide_eq_true_eq, eq_int, eq_str, Option.map_none, Mi.add_int, Mi.add_str0, Mi.add_tup0, opSub, opNeg, cmpI, opIs, opIsNot, biInt, biAbs, isN, atI_0, atI_1, atI_2, atI_3, Mi.ix_tup, Mi.ix_fro, Out.seq_nx, Out.seq_rt, truD, List.set_set, tgSet, if_true, if_false, List.length_cons, List.length_nil, Nat.zero_add, Nat.reduceAdd, Nat.reduceLeDiff, Bool.false_eq_true, eq_self, decide_true, decide_false, Bool.not_true, Bool.not_false, Int.reduceNeg, e4, ix_str h3, m1, if_pos sz])
          have e5 : (⟨(c :: cs).toArray⟩ ++ ⟨#[c']⟩ : Str) = ⟨(c :: (cs ++ [c'])).toArray⟩ := str_ext (by rw [str_app]; simp)
          rw [e5]
          refine ⟨cs ++ [c'], some (.int i), rfl, by simp; omega, ?_, d3.trans d4⟩
          · intro d hd
            rcases List.mem_append.mp hd with hd | hd
            · exact q2 d hd
            · rw [List.mem_singleton] at hd; subst hd; exact m2
        · rintro _ s3 ⟨cs, y, rfl, q1, q2, d3⟩
          exact ⟨cs, y, rfl, q1, q2, d3⟩
      · rintro _ s3 ⟨cs, y, rfl, q1, q2, d3⟩
        (try simp only [eV, eC, eBin, eUn, aNil, aCons, eTup, eLst, eBi, eMeth, tTru, Mi.tCmp, Mi.tAnd, Mi.tOr, Mi.tNot, eAnd, eOr, eNot, eIf, eChain, tOf, oNo, oSo, eSl, eCall, eIs, sSet, sExpr, sRet, sRetN, sNil, sAsg, sPut, sBrk, sCnt, tTrue, wp_bind, wp_ok, wps_nx, wps_rt, wps_bk, wps_ct, wps_toOut, Rs.bind_ok, Rs.ofO_some, Option.map_some, isB, List.getElem?_cons_zero, List.getElem?_cons_succ, List.set_cons_zero, List.set_cons_succ, decide_eq_true_eq, eq_int, eq_str, Option.map_none, Mi.add_int, Mi.add_str0, Mi.add_tup0, opSub, opNeg, cmpI, opIs, opIsNot, biInt, biAbs, isN, atI_0, atI_1, atI_2, atI_3, Mi.ix_tup, Mi.ix_fro, Out.seq_nx, Out.seq_rt, truD, List.set_set, tgSet, if_true, if_false, List.length_cons, List.length_nil, Nat.zero_add, Nat.reduceAdd, Nat.reduceLeDiff, Bool.false_eq_true, eq_self, decide_true, decide_false, Bool.not_true, Bool.not_false, Int.reduceNeg])
        obtain ⟨s4, e4, d4, l4⟩ := d3.gc ha (d := .str ⟨(c :: cs).toArray⟩) rfl
        rw [e4]
        exact ⟨_, rfl, d4, l4, c, cs, rfl, by omega, hc, q2⟩
  obtain ⟨d, s', e1, x, rfl, q⟩ := w.ok
  exact ⟨x, s', e1, q⟩
end
section
variable {ns : List Int} {a q : Nat} {hs : List Hd} {st : Store} {b : Int} {k : Nat}
theorem head_spec (hk : 3 ≤ k) (h : StG a st b) (hp : Pool a q hs st) : ∃ (g : Hd) (st' : Store), callK T k i_l_law_head [.adr a, .fro (ns.map .int), .adr q] st = .ok g.d st' ∧ Dr a st st' b ∧ st'.length = st.length ∧ HdOk g := by
  obtain ⟨k, rfl⟩ : ∃ j, k = j + 1 := ⟨k - 1, by omega⟩
  have ha := h.lt
  have fin : ∀ {s : Store} (g : Hd), Dr a st s b → HdOk g → ∃ g' : Hd, (gcO st g.d s).1 = g'.d ∧ Dr a st (gcO st g.d s).2 b ∧ (gcO st g.d s).2.length = st.length ∧ HdOk g' := fun {s} g d hg => by
    obtain ⟨s4, e4, d4, l4⟩ := d.gc ha g.noa
    rw [e4]
    exact ⟨g, rfl, d4, l4, hg⟩
  have w : (callK T (k + 1) i_l_law_head [.adr a, .fro (ns.map .int), .adr q] st).wp (fun d s' => ∃ g : Hd, d = g.d ∧ Dr a st s' b ∧ s'.length = st.length ∧ HdOk g) NoX := by
    refine call_wp (env := [some (.adr a), some (.fro (ns.map .int)), some (.adr q), none]) T_l_law_head rfl rfl ?_
    rw [fb_l_law_head, b_l_law_head]
    refine seq_wp ?_
    (try simp only [eV, eC, eBin, eUn, aNil, aCons, eTup, eLst, eBi, eMeth, tTru, Mi.tCmp, Mi.tAnd, Mi.tOr, Mi.tNot, eAnd, eOr, eNot, eIf, eChain, tOf, oNo, oSo, eSl, eCall, eIs, sSet, sExpr, sRet, sRetN, sNil, sAsg, sPut, sBrk, sCnt, tTrue, wp_bind, wp_ok, wps_nx, wps_rt, wps_bk, wps_ct, wps_toOut, Rs.bind_ok, Rs.ofO_some, Option.map_some, isB, List.getElem?_cons_zero, List.getElem?_cons_succ, List.set_cons_zero, List.set_cons_succ, decide_eq_true_eq, eq_int, eq_str, Option.map_none, Mi.add_int, Mi.add_str0, Mi.add_tup0, opSub, opNeg, cmpI, opIs, opIsNot, biInt, biAbs, isN, atI_0, atI_1, atI_2, atI_3, Mi.ix_tup, Mi.ix_fro, Out.seq_nx, Out.seq_rt, truD, List.set_set, tgSet, if_true, if_false, List.length_cons, List.length_nil, Nat.zero_add, Nat.reduceAdd, Nat.reduceLeDiff, Bool.false_eq_true, eq_self, decide_true, decide_false, Bool.not_true, Bool.not_false, Int.reduceNeg])
    obtain ⟨v, s1, e1, d1, l1, v0, v1⟩ := pick_spec (k := k) (ns := ns) (by omega) 8 (by decide) (by decide) h
    rw [e1]
    (try simp only [eV, eC, eBin, eUn, aNil, aCons, eTup, eLst, eBi, eMeth, tTru, Mi.tCmp, Mi.tAnd, Mi.tOr, Mi.tNot, eAnd, eOr, eNot, eIf, eChain, tOf, oNo, oSo, eSl, eCall, eIs, sSet, sExpr, sRet, sRetN, sNil, sAsg, sPut, sBrk, sCnt, tTrue, wp_bind, wp_ok, wps_nx, wps_rt, wps_bk, wps_ct, wps_toOut, Rs.bind_ok, Rs.ofO_some, Option.map_some, isB, List.getElem?_cons_zero, List.getElem?_cons_succ, List.set_cons_zero, List.set_cons_succ, decide_eq_true_eq, eq_int, eq_str, Option.map_none, Mi.add_int, Mi.add_str0, Mi.add_tup0, opSub, opNeg, cmpI, opIs, opIsNot, biInt, biAbs, isN, atI_0, atI_1, atI_2, atI_3, Mi.ix_tup, Mi.ix_fro, Out.seq_nx, Out.seq_rt, truD, List.set_set, tgSet, if_true, if_false, List.length_cons, List.length_nil, Nat.zero_add, Nat.reduceAdd, Nat.reduceLeDiff, Bool.false_eq_true, eq_self, decide_true, decide_false, Bool.not_true, Bool.not_false, Int.reduceNeg])
    refine seq_wp (sIf_t ?_)
    (try simp only [eV, eC, eBin, eUn, aNil, aCons, eTup, eLst, eBi, eMeth, tTru, Mi.tCmp, Mi.tAnd, Mi.tOr, Mi.tNot, eAnd, eOr, eNot, eIf, eChain, tOf, oNo, oSo, eSl, eCall, eIs, sSet, sExpr, sRet, sRetN, sNil, sAsg, sPut, sBrk, sCnt, tTrue, wp_bind, wp_ok, wps_nx, wps_rt, wps_bk, wps_ct, wps_toOut, Rs.bind_ok, Rs.ofO_some, Option.map_some, isB, List.getElem?_cons_zero, List.getElem?_cons_succ, List.set_cons_zero, List.set_cons_succ, decide_eq_true_eq, eq_int, eq_str, Option.map_none, Mi.add_int, Mi.add_str0, Mi.add_tup0, opSub, opNeg, cmpI, opIs, opIsNot, biInt, biAbs, isN, atI_0, atI_1, atI_2, atI_3, Mi.ix_tup, Mi.ix_fro, Out.seq_nx, Out.seq_rt, truD, List.set_set, tgSet, if_true, if_false, List.length_cons, List.length_nil, Nat.zero_add, Nat.reduceAdd, Nat.reduceLeDiff, Bool.false_eq_true, eq_self, decide_true, decide_false, Bool.not_true, Bool.not_false, Int.reduceNeg])
    split
    · rename_i hv
      have hv' : v = 0 ∨ v = 1 ∨ v = 2 := by omega
      rcases hv' with rfl | rfl | rfl
      · obtain ⟨v, s2, e2, d2, l2, v0, v1⟩ := pick_spec (k := k) (ns := ns) (st := s1 ++ [.lst [.int 4, .int 30, .int 10000]]) (by omega) 4 (by decide) (by decide) (d1.ok.old (Old.app _ _))
        (try simp only [eV, eC, eBin, eUn, aNil, aCons, eTup, eLst, eBi, eMeth, tTru, Mi.tCmp, Mi.tAnd, Mi.tOr, Mi.tNot, eAnd, eOr, eNot, eIf, eChain, tOf, oNo, oSo, eSl, eCall, eIs, sSet, sExpr, sRet, sRetN, sNil, sAsg, sPut, sBrk, sCnt, tTrue, wp_bind, wp_ok, wps_nx, wps_rt, wps_bk, wps_ct, wps_toOut, Rs.bind_ok, Rs.ofO_some, Option.map_some, isB, List.getElem?_cons_zero, List.getElem?_cons_succ, List.set_cons_zero, List.set_cons_succ, decide_eq_true_eq, eq_int, eq_str, Option.map_none, Mi.add_int, Mi.add_str0, Mi.add_tup0, opSub, opNeg, cmpI, opIs, opIsNot, biInt, biAbs, isN, atI_0, atI_1, atI_2, atI_3, Mi.ix_tup, Mi.ix_fro, Out.seq_nx, Out.seq_rt, truD, List.set_set, tgSet, if_true, if_false, List.length_cons, List.length_nil, Nat.zero_add, Nat.reduceAdd, Nat.reduceLeDiff, Bool.false_eq_true, eq_self, decide_true, decide_false, Bool.not_true, Bool.not_false, Int.reduceNeg, ix_lst lst_new, e2])
        exact fin (.i v) ((d1.old (Old.app _ _)).trans d2) ⟨v0, by omega⟩
      · obtain ⟨v, s2, e2, d2, l2, v0, v1⟩ := pick_spec (k := k) (ns := ns) (st := s1 ++ [.lst [.int 4, .int 30, .int 10000]]) (by omega) 30 (by decide) (by decide) (d1.ok.old (Old.app _ _))
        (try simp only [eV, eC, eBin, eUn, aNil, aCons, eTup, eLst, eBi, eMeth, tTru, Mi.tCmp, Mi.tAnd, Mi.tOr, Mi.tNot, eAnd, eOr, eNot, eIf, eChain, tOf, oNo, oSo, eSl, eCall, eIs, sSet, sExpr, sRet, sRetN, sNil, sAsg, sPut, sBrk, sCnt, tTrue, wp_bind, wp_ok, wps_nx, wps_rt, wps_bk, wps_ct, wps_toOut, Rs.bind_ok, Rs.ofO_some, Option.map_some, isB, List.getElem?_cons_zero, List.getElem?_cons_succ, List.set_cons_zero, List.set_cons_succ, decide_eq_true_eq, eq_int, eq_str, Option.map_none, Mi.add_int, Mi.add_str0, Mi.add_tup0, opSub, opNeg, cmpI, opIs, opIsNot, biInt, biAbs, isN, atI_0, atI_1, atI_2, atI_3, Mi.ix_tup, Mi.ix_fro, Out.seq_nx, Out.seq_rt, truD, List.set_set, tgSet, if_true, if_false, List.length_cons, List.length_nil, Nat.zero_add, Nat.reduceAdd, Nat.reduceLeDiff, Bool.false_eq_true, eq_self, decide_true, decide_false, Bool.not_true, Bool.not_false, Int.reduceNeg, ix_lst lst_new, e2])
        exact fin (.i v) ((d1.old (Old.app _ _)).trans d2) ⟨v0, by omega⟩
      · obtain ⟨v, s2, e2, d2, l2, v0, v1⟩ := pick_spec (k := k) (ns := ns) (st := s1 ++ [.lst [.int 4, .int 30, .int 10000]]) (by omega) 10000 (by decide) (by decide) (d1.ok.old (Old.app _ _))
        (try simp only [eV, eC, eBin, eUn, aNil, aCons, eTup, eLst, eBi, eMeth, tTru, Mi.tCmp, Mi.tAnd, Mi.tOr, Mi.tNot, eAnd, eOr, eNot, eIf, eChain, tOf, oNo, oSo, eSl, eCall, eIs, sSet, sExpr, sRet, sRetN, sNil, sAsg, sPut, sBrk, sCnt, tTrue, wp_bind, wp_ok, wps_nx, wps_rt, wps_bk, wps_ct, wps_toOut, Rs.bind_ok, Rs.ofO_some, Option.map_some, isB, List.getElem?_cons_zero, List.getElem?_cons_succ, List.set_cons_zero, List.set_cons_succ, decide_eq_true_eq, eq_int, eq_str, Option.map_none, Mi.add_int, Mi.add_str0, Mi.add_tup0, opSub, opNeg, cmpI, opIs, opIsNot, biInt, biAbs, isN, atI_0, atI_1, atI_2, atI_3, Mi.ix_tup, Mi.ix_fro, Out.seq_nx, Out.seq_rt, truD, List.set_set, tgSet, if_true, if_false, List.length_cons, List.length_nil, Nat.zero_add, Nat.reduceAdd, Nat.reduceLeDiff, Bool.false_eq_true, eq_self, decide_true, decide_false, Bool.not_true, Bool.not_false, Int.reduceNeg, ix_lst lst_new, e2])
        exact fin (.i v) ((d1.old (Old.app _ _)).trans d2) ⟨v0, by omega⟩
    · (try simp only [eV, eC, eBin, eUn, aNil, aCons, eTup, eLst, eBi, eMeth, tTru, Mi.tCmp, Mi.tAnd, Mi.tOr, Mi.tNot, eAnd, eOr, eNot, eIf, eChain, tOf, oNo, oSo, eSl, eCall, eIs, sSet, sExpr, sRet, sRetN, sNil, sAsg, sPut, sBrk, sCnt, tTrue, wp_bind, wp_ok, wps_nx, wps_rt, wps_bk, wps_ct, wps_toOut, Rs.bind_ok, Rs.ofO_some, Option.map_some, isB, List.getElem?_cons_zero, List.getElem?_cons_succ, List.set_cons_zero, List.set_cons_succ, decide_eq_true_eq, eq_int, eq_str, Option.map_none, Mi.add_int, Mi.add_str0, Mi.add_tup0, opSub, opNeg, cmpI, opIs, opIsNot, biInt, biAbs, isN, atI_0, atI_1, atI_2, atI_3, Mi.ix_tup, Mi.ix_fro, Out.seq_nx, Out.seq_rt, truD, List.set_set, tgSet, if_true, if_false, List.length_cons, List.length_nil, Nat.zero_add, Nat.reduceAdd, Nat.reduceLeDiff, Bool.false_eq_true, eq_self, decide_true, decide_false, Bool.not_true, Bool.not_false, Int.reduceNeg])
      refine seq_wp (sIf_t ?_)
      (try simp only [eV, eC, eBin, eUn, aNil, aCons, eTup, eLst, eBi, eMeth, tTru, Mi.tCmp, Mi.tAnd, Mi.tOr, Mi.tNot, eAnd, eOr, eNot, eIf, eChain, tOf, oNo, oSo, eSl, eCall, eIs, sSet, sExpr, sRet, sRetN, sNil, sAsg, sPut, sBrk, sCnt, tTrue, wp_bind, wp_ok, wps_nx, wps_rt, wps_bk, wps_ct, wps_toOut, Rs.bind_ok, Rs.ofO_some, Option.map_some, isB, List.getElem?_cons_zero, List.getElem?_cons_succ, List.set_cons_zero, List.set_cons_succ, decide_eq_true_eq, eq_int, eq_str, Option.map_none, Mi.add_int, Mi.add_str0, Mi.add_tup0, opSub, opNeg, cmpI, opIs, opIsNot, biInt, biAbs, isN, atI_0, atI_1, atI_2, atI_3, Mi.ix_tup, Mi.ix_fro, Out.seq_nx, Out.seq_rt, truD, List.set_set, tgSet, if_true, if_false, List.length_cons, List.length_nil, Nat.zero_add, Nat.reduceAdd, Nat.reduceLeDiff, Bool.false_eq_true, eq_self, decide_true, decide_false, Bool.not_true, Bool.not_false, Int.reduceNeg])
      split
      · obtain ⟨v, s2, e2, d2, l2, v0, v1⟩ := pick_spec (k := k) (ns := ns) (by omega) 2 (by decide) (by decide) d1.ok
        (try simp only [eV, eC, eBin, eUn, aNil, aCons, eTup, eLst, eBi, eMeth, tTru, Mi.tCmp, Mi.tAnd, Mi.tOr, Mi.tNot, eAnd, eOr, eNot, eIf, eChain, tOf, oNo, oSo, eSl, eCall, eIs, sSet, sExpr, sRet, sRetN, sNil, sAsg, sPut, sBrk, sCnt, tTrue, wp_bind, wp_ok, wps_nx, wps_rt, wps_bk, wps_ct, wps_toOut, Rs.bind_ok, Rs.ofO_some, Option.map_some, isB, List.getElem?_cons_zero, List.getElem?_cons_succ, List.set_cons_zero, List.set_cons_succ, decide_eq_true_eq, eq_int, eq_str, Option.map_none, Mi.add_int, Mi.add_str0, Mi.add_tup0, opSub, opNeg, cmpI, opIs, opIsNot, biInt, biAbs, isN, atI_0, atI_1, atI_2, atI_3, Mi.ix_tup, Mi.ix_fro, Out.seq_nx, Out.seq_rt, truD, List.set_set, tgSet, if_true, if_false, List.length_cons, List.length_nil, Nat.zero_add, Nat.reduceAdd, Nat.reduceLeDiff, Bool.false_eq_true, eq_self, decide_true, decide_false, Bool.not_true, Bool.not_false, Int.reduceNeg, e2])
        obtain ⟨x, s3, e3, d3, l3, hx⟩ := name_spec (k := k) (ns := ns) (by omega) (decide (v = 0)) d2.ok
        (try simp only [eV, eC, eBin, eUn, aNil, aCons, eTup, eLst, eBi, eMeth, tTru, Mi.tCmp, Mi.tAnd, Mi.tOr, Mi.tNot, eAnd, eOr, eNot, eIf, eChain, tOf, oNo, oSo, eSl, eCall, eIs, sSet, sExpr, sRet, sRetN, sNil, sAsg, sPut, sBrk, sCnt, tTrue, wp_bind, wp_ok, wps_nx, wps_rt, wps_bk, wps_ct, wps_toOut, Rs.bind_ok, Rs.ofO_some, Option.map_some, isB, List.getElem?_cons_zero, List.getElem?_cons_succ, List.set_cons_zero, List.set_cons_succ, decide_eq_true_eq, eq_int, eq_str, Option.map_none, Mi.add_int, Mi.add_str0, Mi.add_tup0, opSub, opNeg, cmpI, opIs, opIsNot, biInt, biAbs, isN, atI_0, atI_1, atI_2, atI_3, Mi.ix_tup, Mi.ix_fro, Out.seq_nx, Out.seq_rt, truD, List.set_set, tgSet, if_true, if_false, List.length_cons, List.length_nil, Nat.zero_add, Nat.reduceAdd, Nat.reduceLeDiff, Bool.false_eq_true, eq_self, decide_true, decide_false, Bool.not_true, Bool.not_false, Int.reduceNeg, e3])
        exact fin (.s x) ((d1.trans d2).trans d3) ⟨_, hx⟩
      · (try simp only [eV, eC, eBin, eUn, aNil, aCons, eTup, eLst, eBi, eMeth, tTru, Mi.tCmp, Mi.tAnd, Mi.tOr, Mi.tNot, eAnd, eOr, eNot, eIf, eChain, tOf, oNo, oSo, eSl, eCall, eIs, sSet, sExpr, sRet, sRetN, sNil, sAsg, sPut, sBrk, sCnt, tTrue, wp_bind, wp_ok, wps_nx, wps_rt, wps_bk, wps_ct, wps_toOut, Rs.bind_ok, Rs.ofO_some, Option.map_some, isB, List.getElem?_cons_zero, List.getElem?_cons_succ, List.set_cons_zero, List.set_cons_succ, decide_eq_true_eq, eq_int, eq_str, Option.map_none, Mi.add_int, Mi.add_str0, Mi.add_tup0, opSub, opNeg, cmpI, opIs, opIsNot, biInt, biAbs, isN, atI_0, atI_1, atI_2, atI_3, Mi.ix_tup, Mi.ix_fro, Out.seq_nx, Out.seq_rt, truD, List.set_set, tgSet, if_true, if_false, List.length_cons, List.length_nil, Nat.zero_add, Nat.reduceAdd, Nat.reduceLeDiff, Bool.false_eq_true, eq_self, decide_true, decide_false, Bool.not_true, Bool.not_false, Int.reduceNeg])
        obtain ⟨v, s2, e2, d2, l2, v0, v1⟩ := pick_spec (k := k) (ns := ns) (by omega) (hs.length : Int) (by have := hp.pos; omega) (by have := hp.le; omega) d1.ok
        obtain ⟨d, m1, m2⟩ := atI_mem (xs := hs.map Hd.d) v0 (by rw [List.length_map]; exact v1)
        (try simp only [eV, eC, eBin, eUn, aNil, aCons, eTup, eLst, eBi, eMeth, tTru, Mi.tCmp, Mi.tAnd, Mi.tOr, Mi.tNot, eAnd, eOr, eNot, eIf, eChain, tOf, oNo, oSo, eSl, eCall, eIs, sSet, sExpr, sRet, sRetN, sNil, sAsg, sPut, sBrk, sCnt, tTrue, wp_bind, wp_ok, wps_nx, wps_rt, wps_bk, wps_ct, wps_toOut, Rs.bind_ok, Rs.ofO_some, Option.map_some, isB, List.getElem?_cons_zero, List.getElem?_cons_succ, List.set_cons_zero, List.set_cons_succ, decide_eq_true_eq, eq_int, eq_str, Option.map_none, Mi.add_int, Mi.add_str0, Mi.add_tup0, opSub, opNeg, cmpI, opIs, opIsNot, biInt, biAbs, isN, atI_0, atI_1, atI_2, atI_3, Mi.ix_tup, Mi.ix_fro, Out.seq_nx, Out.seq_rt, truD, List.set_set, tgSet, if_true, if_false, List.length_cons, List.length_nil, Nat.zero_add, Nat.reduceAdd, Nat.reduceLeDiff, Bool.false_eq_true, eq_self, decide_true, decide_false, Bool.not_true, Bool.not_false, Int.reduceNeg, biLen, lenD, seqOf, seqL, (hp.dr d1).at_, List.length_map, e2, ix_lst ((hp.dr d1).dr d2).at_, m1])
        obtain ⟨g, hg, rfl⟩ := List.mem_map.mp m2
        exact fin g (d1.trans d2) (hp.ok g hg)
  obtain ⟨d, s', e1, x, rfl, q⟩ := w.ok
  exact ⟨x, s', e1, q⟩
theorem pool_spec (hk : 3 ≤ k) (h : StG a st b) : ∃ (hs : List Hd) (st' : Store), callK T k i_l_law_pool [.adr a, .fro (ns.map .int)] st = .ok (.adr st.length) st' ∧ Dr a st st' b ∧ st'.length = st.length + 1 ∧ Pool a st.length hs st' := by
  obtain ⟨k, rfl⟩ : ∃ j, k = j + 1 := ⟨k - 1, by omega⟩
  have ha := h.lt
  have w : (callK T (k + 1) i_l_law_pool [.adr a, .fro (ns.map .int)] st).wp (fun d s' => d = .adr st.length ∧ ∃ hs, Dr a st s' b ∧ s'.length = st.length + 1 ∧ Pool a st.length hs s') NoX := by
    refine call_wp (env := [some (.adr a), some (.fro (ns.map .int)), none]) T_l_law_pool rfl rfl ?_
    rw [fb_l_law_pool, b_l_law_pool]
    have e1 : ∃ (hs : List Hd) (s' : Store), (eLc (srcR1 (aCons (eC (.int 5)) aNil)) (.nm 2) tTrue (eCall (callK T k) i_l_law_name (aCons (eV 0) (aCons (eV 1) (aCons (eBin opLt (eV 2) (eC (.int 3))) aNil)))) [2]) [some (.adr a), some (.fro (ns.map .int)), none] st = .ok (.adr st.length) s' ∧ Dr a st s' b ∧ lstAt s' st.length = some (hs.map Hd.d) ∧ hs.length = 5 ∧ (∀ g ∈ hs, HdOk g) := by
      unfold eLc
      rw [srcR1_of (j := 5) (st' := st) (by (try simp only [eV, eC, eBin, eUn, aNil, aCons, eTup, eLst, eBi, eMeth, tTru, Mi.tCmp, Mi.tAnd, Mi.tOr, Mi.tNot, eAnd, eOr, eNot, eIf, eChain, tOf, oNo, oSo, eSl, eCall, eIs, sSet, sExpr, sRet, sRetN, sNil, sAsg, sPut, sBrk, sCnt, tTrue, wp_bind, wp_ok, wps_nx, wps_rt, wps_bk, wps_ct, wps_toOut, Rs.bind_ok, Rs.ofO_some, Option.map_some, isB, List.getElem?_cons_zero, List.getElem?_cons_succ, List.set_cons_zero, List.set_cons_succ, decide_eq_true_eq, eq_int, eq_str, Option.map_none, Mi.add_int, Mi.add_str0, Mi.add_tup0, opSub, opNeg, cmpI, opIs, opIsNot, biInt, biAbs, isN, atI_0, atI_1, atI_2, atI_3, Mi.ix_tup, Mi.ix_fro, Out.seq_nx, Out.seq_rt, truD, List.set_set, tgSet, if_true, if_false, List.length_cons, List.length_nil, Nat.zero_add, Nat.reduceAdd, Nat.reduceLeDiff, Bool.false_eq_true, eq_self, decide_true, decide_false, Bool.not_true, Bool.not_false, Int.reduceNeg])) (by omega) (by omega)]
      rw [Rs.bind_ok]
      refine (cmL_wp (g := none) (all := rngD 0 (5 : Int).toNat) (t := .nm 2) (c := tTrue) (em := emL st.length (eCall (callK T k) i_l_law_name (aCons (eV 0) (aCons (eV 1) (aCons (eBin opLt (eV 2) (eC (.int 3))) aNil))))) (envw := wipeE [some (.adr a), some (.fro (ns.map .int)), none] [2])
        (I := fun xs s => ∃ (hs : List Hd) (i : Int), xs = rngD i xs.length ∧ hs.length + xs.length = 5 ∧ Dr a st s b ∧ lstAt s st.length = some (hs.map Hd.d) ∧ (∀ g ∈ hs, HdOk g)) (fun _ _ _ => trivial) ?_ (rngD 0 (5 : Int).toNat) (st ++ [.lst []]) ⟨[], 0, rfl, rfl, (Dr.ofOld h (Old.app _ _)), lst_new, by simp⟩).elim ?_
      · rintro x xs s ⟨hs, i, q1, q2, q3, q4, q5⟩
        rw [List.length_cons, rngD_succ] at q1
        have q0 := (List.cons.inj q1).1
        replace q1 := (List.cons.inj q1).2
        subst q0
        refine ⟨_, rfl, ?_⟩
        show (Rs.ok true s).wp _ _
        rw [wp_ok, if_pos rfl]
        refine emL_wp ?_
        obtain ⟨y, s3, e3, d3, l3, hy⟩ := name_spec (k := k) (ns := ns) (by omega) (decide (i < 3)) q3.ok
        (try simp only [eV, eC, eBin, eUn, aNil, aCons, eTup, eLst, eBi, eMeth, tTru, Mi.tCmp, Mi.tAnd, Mi.tOr, Mi.tNot, eAnd, eOr, eNot, eIf, eChain, tOf, oNo, oSo, eSl, eCall, eIs, sSet, sExpr, sRet, sRetN, sNil, sAsg, sPut, sBrk, sCnt, tTrue, wp_bind, wp_ok, wps_nx, wps_rt, wps_bk, wps_ct, wps_toOut, Rs.bind_ok, Rs.ofO_some, Option.map_some, isB, List.getElem?_cons_zero, List.getElem?_cons_succ, List.set_cons_zero, List.set_cons_succ, decide_eq_true_eq, eq_int, eq_str, Option.map_none, Mi.add_int, Mi.add_str0, Mi.add_tup0, opSub, opNeg, cmpI, opIs, opIsNot, biInt, biAbs, isN, atI_0, atI_1, atI_2, atI_3, Mi.ix_tup, Mi.ix_fro, Out.seq_nx, Out.seq_rt, truD, List.set_set, tgSet, if_true, if_false, List.length_cons, List.length_nil, Nat.zero_add, Nat.reduceAdd, Nat.reduceLeDiff, Bool.false_eq_true, eq_self, decide_true, decide_false, Bool.not_true, Bool.not_false, Int.reduceNeg, wipeE, e3])
        have q6 := d3.lst q4 (by omega)
        refine ⟨_, q6, ?_, hs ++ [.s y], i + 1, q1, by simp at q2 ⊢; omega, (q3.trans d3).loc ha (Nat.le_refl _), ?_, ?_⟩
        · rw [List.length_map]
          have : sizeLine = 16777216 := by decide
          rw [List.length_cons] at q2
          omega
        · rw [lst_set (lst_lt q6)]
          simp [Hd.d]
        · intro g hg
          rcases List.mem_append.mp hg with hg | hg
          · exact q5 g hg
          · rw [List.mem_singleton] at hg; subst hg; exact ⟨_, hy⟩
      · rintro s' ⟨e, hs, i, _, q2, q3, q4, q5⟩
        dsimp only
        rw [e]
        exact ⟨hs, s', rfl, q3, q4, by simpa using q2, q5⟩
    obtain ⟨hs, s1, e1, d1, p1, n1, o1⟩ := e1
    have sz : (hs.map Hd.d).length + 3 ≤ sizeLine := by
      have : sizeLine = 16777216 := by decide
      rw [List.length_map]; omega
    rw [sRet, wps_toOut, eBin, e1]
    (try simp only [eV, eC, eBin, eUn, aNil, aCons, eTup, eLst, eBi, eMeth, tTru, Mi.tCmp, Mi.tAnd, Mi.tOr, Mi.tNot, eAnd, eOr, eNot, eIf, eChain, tOf, oNo, oSo, eSl, eCall, eIs, sSet, sExpr, sRet, sRetN, sNil, sAsg, sPut, sBrk, sCnt, tTrue, wp_bind, wp_ok, wps_nx, wps_rt, wps_bk, wps_ct, wps_toOut, Rs.bind_ok, Rs.ofO_some, Option.map_some, isB, List.getElem?_cons_zero, List.getElem?_cons_succ, List.set_cons_zero, List.set_cons_succ, decide_eq_true_eq, eq_int, eq_str, Option.map_none, Mi.add_int, Mi.add_str0, Mi.add_tup0, opSub, opNeg, cmpI, opIs, opIsNot, biInt, biAbs, isN, atI_0, atI_1, atI_2, atI_3, Mi.ix_tup, Mi.ix_fro, Out.seq_nx, Out.seq_rt, truD, List.set_set, tgSet, if_true, if_false, List.length_cons, List.length_nil, Nat.zero_add, Nat.reduceAdd, Nat.reduceLeDiff, Bool.false_eq_true, eq_self, decide_true, decide_false, Bool.not_true, Bool.not_false, Int.reduceNeg, (lst_app p1), lst_new, if_pos sz, opAdd])
    have d2 : Dr a st ((s1 ++ [O.lst [D.int 0, D.int 1, D.int 9999]]) ++ [.lst (hs.map Hd.d ++ [D.int 0, D.int 1, D.int 9999])]) b := (d1.old (Old.app _ _)).old (Old.app _ _)
    obtain ⟨s4, e4, d4, l4, p4⟩ := d2.gcn ha (m := (s1 ++ [O.lst [D.int 0, D.int 1, D.int 9999]]).length) (by have := d1.le; simp; omega) lst_new (by
      have : ∀ hs : List Hd, noas (hs.map Hd.d ++ [D.int 0, D.int 1, D.int 9999]) = true := fun hs => by
        induction hs with
        | nil => rfl
        | cons x xs ih => rw [List.map_cons, List.cons_append, noas, ih, Hd.noa]; rfl
      exact this hs)
    rw [e4]
    refine ⟨rfl, hs ++ [.i 0, .i 1, .i 9999], d4, l4, ?_, by omega, by simp, by simp [n1], ?_⟩
    · rw [p4, List.map_append]
      rfl
    · intro g hg
      rcases List.mem_append.mp hg with hg | hg
      · exact o1 g hg
      · have : g = .i 0 ∨ g = .i 1 ∨ g = .i 9999 := by simpa using hg
        rcases this with rfl | rfl | rfl
        · exact ⟨by decide, by decide⟩
        · exact ⟨by decide, by decide⟩
        · exact ⟨by decide, by decide⟩
  obtain ⟨d, s', e1, rfl, hs, q⟩ := w.ok
  exact ⟨hs, s', e1, q⟩
end
section
variable {ns : List Int} {a q : Nat} {hs : List Hd} {st : Store} {b : Int} {k : Nat}
/-- what a drawn term is -/
structure AnyR (a : Nat) (st st' : Store) (b b' : Int) (t : Tm) : Prop where
  dr : Dr a st st' b'
  ln : st'.length = st.length
  ok : t.all HdOk
  bd : b' = b - t.size
  b1 : 1 ≤ b → 0 ≤ b'
  b0 : b ≤ 0 → t.size = 1
theorem any_step (hk : 4 ≤ k + 1) {dpt : Int} (h0 : 0 ≤ dpt) (hb : b ≤ 1000000) (h : StG a st b) (hp : Pool a q hs st)
    (ih : dpt < 90 → ∀ st1 b1, b1 ≤ 1000000 → StG a st1 b1 → Pool a q hs st1 → ∃ t st' b', callK T k i_l_law_any [.adr a, .fro (ns.map .int), .adr q, .int (dpt + 1)] st1 = .ok t.d st' ∧ AnyR a st1 st' b1 b' t) :
    ∃ t st' b', callK T (k + 1) i_l_law_any [.adr a, .fro (ns.map .int), .adr q, .int dpt] st = .ok t.d st' ∧ AnyR a st st' b b' t := by
  have ha := h.lt
  have hq := hp.lt
  have w : (callK T (k + 1) i_l_law_any [.adr a, .fro (ns.map .int), .adr q, .int dpt] st).wp (fun d s' => ∃ t b', d = t.d ∧ AnyR a st s' b b' t) NoX := by
    refine call_wp (env := [some (.adr a), some (.fro (ns.map .int)), some (.adr q), some (.int dpt), none, none, none, none]) T_l_law_any rfl rfl ?_
    rw [fb_l_law_any, b_l_law_any]
    refine seq_wp ?_
    obtain ⟨s0, e0, d0, l0⟩ := h.put3 (b - 1)
    (try simp only [eV, eC, eBin, eUn, aNil, aCons, eTup, eLst, eBi, eMeth, tTru, Mi.tCmp, Mi.tAnd, Mi.tOr, Mi.tNot, eAnd, eOr, eNot, eIf, eChain, tOf, oNo, oSo, eSl, eCall, eIs, sSet, sExpr, sRet, sRetN, sNil, sAsg, sPut, sBrk, sCnt, tTrue, wp_bind, wp_ok, wps_nx, wps_rt, wps_bk, wps_ct, wps_toOut, Rs.bind_ok, Rs.ofO_some, Option.map_some, isB, List.getElem?_cons_zero, List.getElem?_cons_succ, List.set_cons_zero, List.set_cons_succ, decide_eq_true_eq, eq_int, eq_str, Option.map_none, Mi.add_int, Mi.add_str0, Mi.add_tup0, opSub, opNeg, cmpI, opIs, opIsNot, biInt, biAbs, isN, atI_0, atI_1, atI_2, atI_3, Mi.ix_tup, Mi.ix_fro, Out.seq_nx, Out.seq_rt, truD, List.set_set, tgSet, if_true, if_false, List.length_cons, List.length_nil, Nat.zero_add, Nat.reduceAdd, Nat.reduceLeDiff, Bool.false_eq_true, eq_self, decide_true, decide_false, Bool.not_true, Bool.not_false, Int.reduceNeg, h.at3, e0])
    refine seq_wp ?_
    (try simp only [eV, eC, eBin, eUn, aNil, aCons, eTup, eLst, eBi, eMeth, tTru, Mi.tCmp, Mi.tAnd, Mi.tOr, Mi.tNot, eAnd, eOr, eNot, eIf, eChain, tOf, oNo, oSo, eSl, eCall, eIs, sSet, sExpr, sRet, sRetN, sNil, sAsg, sPut, sBrk, sCnt, tTrue, wp_bind, wp_ok, wps_nx, wps_rt, wps_bk, wps_ct, wps_toOut, Rs.bind_ok, Rs.ofO_some, Option.map_some, isB, List.getElem?_cons_zero, List.getElem?_cons_succ, List.set_cons_zero, List.set_cons_succ, decide_eq_true_eq, eq_int, eq_str, Option.map_none, Mi.add_int, Mi.add_str0, Mi.add_tup0, opSub, opNeg, cmpI, opIs, opIsNot, biInt, biAbs, isN, atI_0, atI_1, atI_2, atI_3, Mi.ix_tup, Mi.ix_fro, Out.seq_nx, Out.seq_rt, truD, List.set_set, tgSet, if_true, if_false, List.length_cons, List.length_nil, Nat.zero_add, Nat.reduceAdd, Nat.reduceLeDiff, Bool.false_eq_true, eq_self, decide_true, decide_false, Bool.not_true, Bool.not_false, Int.reduceNeg])
    obtain ⟨g, s1, e1, d1, l1, hg⟩ := head_spec (k := k) (ns := ns) (by omega) d0.ok (hp.dr d0)
    rw [e1]
    (try simp only [eV, eC, eBin, eUn, aNil, aCons, eTup, eLst, eBi, eMeth, tTru, Mi.tCmp, Mi.tAnd, Mi.tOr, Mi.tNot, eAnd, eOr, eNot, eIf, eChain, tOf, oNo, oSo, eSl, eCall, eIs, sSet, sExpr, sRet, sRetN, sNil, sAsg, sPut, sBrk, sCnt, tTrue, wp_bind, wp_ok, wps_nx, wps_rt, wps_bk, wps_ct, wps_toOut, Rs.bind_ok, Rs.ofO_some, Option.map_some, isB, List.getElem?_cons_zero, List.getElem?_cons_succ, List.set_cons_zero, List.set_cons_succ, decide_eq_true_eq, eq_int, eq_str, Option.map_none, Mi.add_int, Mi.add_str0, Mi.add_tup0, opSub, opNeg, cmpI, opIs, opIsNot, biInt, biAbs, isN, atI_0, atI_1, atI_2, atI_3, Mi.ix_tup, Mi.ix_fro, Out.seq_nx, Out.seq_rt, truD, List.set_set, tgSet, if_true, if_false, List.length_cons, List.length_nil, Nat.zero_add, Nat.reduceAdd, Nat.reduceLeDiff, Bool.false_eq_true, eq_self, decide_true, decide_false, Bool.not_true, Bool.not_false, Int.reduceNeg])
 
    refine seq_wp ?_
    (try simp only [eV, eC, eBin, eUn, aNil, aCons, eTup, eLst, eBi, eMeth, tTru, Mi.tCmp, Mi.tAnd, Mi.tOr, Mi.tNot, eAnd, eOr, eNot, eIf, eChain, tOf, oNo, oSo, eSl, eCall, eIs, sSet, sExpr, sRet, sRetN, sNil, sAsg, sPut, sBrk, sCnt, tTrue, wp_bind, wp_ok, wps_nx, wps_rt, wps_bk, wps_ct, wps_toOut, Rs.bind_ok, Rs.ofO_some, Option.map_some, isB, List.getElem?_cons_zero, List.getElem?_cons_succ, List.set_cons_zero, List.set_cons_succ, decide_eq_true_eq, eq_int, eq_str, Option.map_none, Mi.add_int, Mi.add_str0, Mi.add_tup0, opSub, opNeg, cmpI, opIs, opIsNot, biInt, biAbs, isN, atI_0, atI_1, atI_2, atI_3, Mi.ix_tup, Mi.ix_fro, Out.seq_nx, Out.seq_rt, truD, List.set_set, tgSet, if_true, if_false, List.length_cons, List.length_nil, Nat.zero_add, Nat.reduceAdd, Nat.reduceLeDiff, Bool.false_eq_true, eq_self, decide_true, decide_false, Bool.not_true, Bool.not_false, Int.reduceNeg])
    refine seq_wp ?_
    have d1' := d0.trans d1
    have n1 : s1.length = st.length := by omega
    have pk : ∃ (v : Int) (s3 : Store), (eCall (callK T k) i_l_law_pick (aCons (eV 0) (aCons (eV 1) (aCons (eBin opIx (eLst (aCons (eC (.int 4)) (aCons (eC (.int 2)) aNil))) (eBi biInt (aCons (eBin opGt (eV 3) (eC (.int 5))) aNil))) aNil))))
        [some (.adr a), some (.fro (ns.map .int)), some (.adr q), some (.int dpt), some g.d, some (.adr s1.length), none, none] (s1 ++ [.lst []]) = .ok (.int v) s3 ∧ Dr a st s3 (b - 1) ∧ lstAt s3 s1.length = some [] ∧ 0 ≤ v ∧ v < 4 := by
      have d2 := (d1'.old (Old.app s1 [.lst []])).old (Old.app _ [.lst [D.int 4, .int 2]])
      have q2 : lstAt ((s1 ++ [.lst []]) ++ [.lst [D.int 4, .int 2]]) s1.length = some [] := lst_app lst_new
      by_cases h5 : 5 < dpt
      · obtain ⟨v, s3, e3, d3, l3, v0, v1⟩ := pick_spec (k := k) (ns := ns) (by omega) 2 (by decide) (by decide) d2.ok
        refine ⟨v, s3, ?_, d2.trans d3, d3.lst q2 (by omega), v0, by omega⟩
        (try simp only [eV, eC, eBin, eUn, aNil, aCons, eTup, eLst, eBi, eMeth, tTru, Mi.tCmp, Mi.tAnd, Mi.tOr, Mi.tNot, eAnd, eOr, eNot, eIf, eChain, tOf, oNo, oSo, eSl, eCall, eIs, sSet, sExpr, sRet, sRetN, sNil, sAsg, sPut, sBrk, sCnt, tTrue, wp_bind, wp_ok, wps_nx, wps_rt, wps_bk, wps_ct, wps_toOut, Rs.bind_ok, Rs.ofO_some, Option.map_some, isB, List.getElem?_cons_zero, List.getElem?_cons_succ, List.set_cons_zero, List.set_cons_succ, decide_eq_true_eq, eq_int, eq_str, Option.map_none, Mi.add_int, Mi.add_str0, Mi.add_tup0, opSub, opNeg, cmpI, opIs, opIsNot, biInt, biAbs, isN, atI_0, atI_1, atI_2, atI_3, Mi.ix_tup, Mi.ix_fro, Out.seq_nx, Out.seq_rt, truD, List.set_set, tgSet, if_true, if_false, List.length_cons, List.length_nil, Nat.zero_add, Nat.reduceAdd, Nat.reduceLeDiff, Bool.false_eq_true, eq_self, decide_true, decide_false, Bool.not_true, Bool.not_false, Int.reduceNeg, decide_eq_true h5, if_true, ix_lst lst_new, e3])
      · obtain ⟨v, s3, e3, d3, l3, v0, v1⟩ := pick_spec (k := k) (ns := ns) (by omega) 4 (by decide) (by decide) d2.ok
        refine ⟨v, s3, ?_, d2.trans d3, d3.lst q2 (by omega), v0, by omega⟩
        (try simp only [eV, eC, eBin, eUn, aNil, aCons, eTup, eLst, eBi, eMeth, tTru, Mi.tCmp, Mi.tAnd, Mi.tOr, Mi.tNot, eAnd, eOr, eNot, eIf, eChain, tOf, oNo, oSo, eSl, eCall, eIs, sSet, sExpr, sRet, sRetN, sNil, sAsg, sPut, sBrk, sCnt, tTrue, wp_bind, wp_ok, wps_nx, wps_rt, wps_bk, wps_ct, wps_toOut, Rs.bind_ok, Rs.ofO_some, Option.map_some, isB, List.getElem?_cons_zero, List.getElem?_cons_succ, List.set_cons_zero, List.set_cons_succ, decide_eq_true_eq, eq_int, eq_str, Option.map_none, Mi.add_int, Mi.add_str0, Mi.add_tup0, opSub, opNeg, cmpI, opIs, opIsNot, biInt, biAbs, isN, atI_0, atI_1, atI_2, atI_3, Mi.ix_tup, Mi.ix_fro, Out.seq_nx, Out.seq_rt, truD, List.set_set, tgSet, if_true, if_false, List.length_cons, List.length_nil, Nat.zero_add, Nat.reduceAdd, Nat.reduceLeDiff, Bool.false_eq_true, eq_self, decide_true, decide_false, Bool.not_true, Bool.not_false, Int.reduceNeg, decide_eq_false h5, if_false, ix_lst lst_new, e3])
    obtain ⟨v, s3, e3, d3, q3, v0, v1⟩ := pk
    rw [sSet, wps_toOut, e3, wp_ok]
    (try simp only [eV, eC, eBin, eUn, aNil, aCons, eTup, eLst, eBi, eMeth, tTru, Mi.tCmp, Mi.tAnd, Mi.tOr, Mi.tNot, eAnd, eOr, eNot, eIf, eChain, tOf, oNo, oSo, eSl, eCall, eIs, sSet, sExpr, sRet, sRetN, sNil, sAsg, sPut, sBrk, sCnt, tTrue, wp_bind, wp_ok, wps_nx, wps_rt, wps_bk, wps_ct, wps_toOut, Rs.bind_ok, Rs.ofO_some, Option.map_some, isB, List.getElem?_cons_zero, List.getElem?_cons_succ, List.set_cons_zero, List.set_cons_succ, decide_eq_true_eq, eq_int, eq_str, Option.map_none, Mi.add_int, Mi.add_str0, Mi.add_tup0, opSub, opNeg, cmpI, opIs, opIsNot, biInt, biAbs, isN, atI_0, atI_1, atI_2, atI_3, Mi.ix_tup, Mi.ix_fro, Out.seq_nx, Out.seq_rt, truD, List.set_set, tgSet, if_true, if_false, List.length_cons, List.length_nil, Nat.zero_add, Nat.reduceAdd, Nat.reduceLeDiff, Bool.false_eq_true, eq_self, decide_true, decide_false, Bool.not_true, Bool.not_false, Int.reduceNeg])
    refine seq_mid (I := fun env s => ∃ (ts : List Tm) (y : Option D) (b1 : Int), env = [some (.adr a), some (.fro (ns.map .int)), some (.adr q), some (.int dpt), some g.d, some (.adr s1.length), some (.int v), y] ∧ lstAt s s1.length = some (Tm.ds ts) ∧ Dr a st s b1 ∧ Tm.alls HdOk ts ∧ b1 = b - 1 - Tm.sizes ts ∧ (1 ≤ b → 0 ≤ b1) ∧ (b ≤ 0 → ts = [])) (sFor_wp ?_) ?_
    · rw [srcR1_of (j := v) (st' := s3) (by (try simp only [eV, eC, eBin, eUn, aNil, aCons, eTup, eLst, eBi, eMeth, tTru, Mi.tCmp, Mi.tAnd, Mi.tOr, Mi.tNot, eAnd, eOr, eNot, eIf, eChain, tOf, oNo, oSo, eSl, eCall, eIs, sSet, sExpr, sRet, sRetN, sNil, sAsg, sPut, sBrk, sCnt, tTrue, wp_bind, wp_ok, wps_nx, wps_rt, wps_bk, wps_ct, wps_toOut, Rs.bind_ok, Rs.ofO_some, Option.map_some, isB, List.getElem?_cons_zero, List.getElem?_cons_succ, List.set_cons_zero, List.set_cons_succ, decide_eq_true_eq, eq_int, eq_str, Option.map_none, Mi.add_int, Mi.add_str0, Mi.add_tup0, opSub, opNeg, cmpI, opIs, opIsNot, biInt, biAbs, isN, atI_0, atI_1, atI_2, atI_3, Mi.ix_tup, Mi.ix_fro, Out.seq_nx, Out.seq_rt, truD, List.set_set, tgSet, if_true, if_false, List.length_cons, List.length_nil, Nat.zero_add, Nat.reduceAdd, Nat.reduceLeDiff, Bool.false_eq_true, eq_self, decide_true, decide_false, Bool.not_true, Bool.not_false, Int.reduceNeg])) (by omega) (by omega), wp_ok]
      refine forR_wp (I := fun _ env s => ∃ (ts : List Tm) (y : Option D) (b1 : Int), env = [some (.adr a), some (.fro (ns.map .int)), some (.adr q), some (.int dpt), some g.d, some (.adr s1.length), some (.int v), y] ∧ lstAt s s1.length = some (Tm.ds ts) ∧ Dr a st s b1 ∧ Tm.alls HdOk ts ∧ b1 = b - 1 - Tm.sizes ts ∧ (1 ≤ b → 0 ≤ b1) ∧ (b ≤ 0 → ts = [])) (hi := v) ?_ ?_ _ 0 _ _ (by omega) ⟨[], none, b - 1, rfl, by rw [q3, Tm.ds_nil], d3, Tm.alls_nil _, by rw [Tm.sizes_nil]; simp, by omega, fun _ => rfl⟩
      · rintro i _ s ⟨ts, y, b1, rfl, q4, d4, o4, z1, z2, z3⟩ hi
        refine ⟨_, rfl, sIf_t ?_⟩
        (try simp only [eV, eC, eBin, eUn, aNil, aCons, eTup, eLst, eBi, eMeth, tTru, Mi.tCmp, Mi.tAnd, Mi.tOr, Mi.tNot, eAnd, eOr, eNot, eIf, eChain, tOf, oNo, oSo, eSl, eCall, eIs, sSet, sExpr, sRet, sRetN, sNil, sAsg, sPut, sBrk, sCnt, tTrue, wp_bind, wp_ok, wps_nx, wps_rt, wps_bk, wps_ct, wps_toOut, Rs.bind_ok, Rs.ofO_some, Option.map_some, isB, List.getElem?_cons_zero, List.getElem?_cons_succ, List.set_cons_zero, List.set_cons_succ, decide_eq_true_eq, eq_int, eq_str, Option.map_none, Mi.add_int, Mi.add_str0, Mi.add_tup0, opSub, opNeg, cmpI, opIs, opIsNot, biInt, biAbs, isN, atI_0, atI_1, atI_2, atI_3, Mi.ix_tup, Mi.ix_fro, Out.seq_nx, Out.seq_rt, truD, List.set_set, tgSet, if_true, if_false, List.length_cons, List.length_nil, Nat.zero_add, Nat.reduceAdd, Nat.reduceLeDiff, Bool.false_eq_true, eq_self, decide_true, decide_false, Bool.not_true, Bool.not_false, Int.reduceNeg, d4.ok.at3])
        split
        · rename_i hb1
          (try simp only [eV, eC, eBin, eUn, aNil, aCons, eTup, eLst, eBi, eMeth, tTru, Mi.tCmp, Mi.tAnd, Mi.tOr, Mi.tNot, eAnd, eOr, eNot, eIf, eChain, tOf, oNo, oSo, eSl, eCall, eIs, sSet, sExpr, sRet, sRetN, sNil, sAsg, sPut, sBrk, sCnt, tTrue, wp_bind, wp_ok, wps_nx, wps_rt, wps_bk, wps_ct, wps_toOut, Rs.bind_ok, Rs.ofO_some, Option.map_some, isB, List.getElem?_cons_zero, List.getElem?_cons_succ, List.set_cons_zero, List.set_cons_succ, decide_eq_true_eq, eq_int, eq_str, Option.map_none, Mi.add_int, Mi.add_str0, Mi.add_tup0, opSub, opNeg, cmpI, opIs, opIsNot, biInt, biAbs, isN, atI_0, atI_1, atI_2, atI_3, Mi.ix_tup, Mi.ix_fro, Out.seq_nx, Out.seq_rt, truD, List.set_set, tgSet, if_true, if_false, List.length_cons, List.length_nil, Nat.zero_add, Nat.reduceAdd, Nat.reduceLeDiff, Bool.false_eq_true, eq_self, decide_true, decide_false, Bool.not_true, Bool.not_false, Int.reduceNeg])
          split
          · rename_i hd
            obtain ⟨t, s5, b5, e5, r5⟩ := ih hd s b1 (by omega) d4.ok (hp.dr d4)
            have q5 := r5.dr.lst q4 (by omega)
            have hl : (Tm.ds ts).length < sizeLine := by
              rw [Tm.ds_map, List.length_map, PySem.sizeLine_eq]
              have := Tm.len_sizes ts
              by_cases hb0 : b ≤ 0
              · rw [z3 hb0]; decide
              · omega
            (try simp only [eV, eC, eBin, eUn, aNil, aCons, eTup, eLst, eBi, eMeth, tTru, Mi.tCmp, Mi.tAnd, Mi.tOr, Mi.tNot, eAnd, eOr, eNot, eIf, eChain, tOf, oNo, oSo, eSl, eCall, eIs, sSet, sExpr, sRet, sRetN, sNil, sAsg, sPut, sBrk, sCnt, tTrue, wp_bind, wp_ok, wps_nx, wps_rt, wps_bk, wps_ct, wps_toOut, Rs.bind_ok, Rs.ofO_some, Option.map_some, isB, List.getElem?_cons_zero, List.getElem?_cons_succ, List.set_cons_zero, List.set_cons_succ, decide_eq_true_eq, eq_int, eq_str, Option.map_none, Mi.add_int, Mi.add_str0, Mi.add_tup0, opSub, opNeg, cmpI, opIs, opIsNot, biInt, biAbs, isN, atI_0, atI_1, atI_2, atI_3, Mi.ix_tup, Mi.ix_fro, Out.seq_nx, Out.seq_rt, truD, List.set_set, tgSet, if_true, if_false, List.length_cons, List.length_nil, Nat.zero_add, Nat.reduceAdd, Nat.reduceLeDiff, Bool.false_eq_true, eq_self, decide_true, decide_false, Bool.not_true, Bool.not_false, Int.reduceNeg, ty_lst q4, e5, app_lst q5 hl])
            have := r5.bd
            have := r5.b1 (by omega)
            refine ⟨ts ++ [t], some (.int i), b5, rfl, ?_, (d4.trans r5.dr).loc ha (by omega), ?_, ?_, by omega, fun hb0 => ?_⟩
            · rw [lst_set (lst_lt q5), Tm.ds_app, Tm.ds_cons, Tm.ds_nil]
            · exact Tm.alls_app o4 (by rw [Tm.alls_cons]; exact ⟨r5.ok, Tm.alls_nil _⟩)
            · rw [Tm.sizes_app, Tm.sizes_cons, Tm.sizes_nil]; push_cast; omega
            · have z := z3 hb0
              rw [z, Tm.sizes_nil] at z1
              omega
          · (try simp only [eV, eC, eBin, eUn, aNil, aCons, eTup, eLst, eBi, eMeth, tTru, Mi.tCmp, Mi.tAnd, Mi.tOr, Mi.tNot, eAnd, eOr, eNot, eIf, eChain, tOf, oNo, oSo, eSl, eCall, eIs, sSet, sExpr, sRet, sRetN, sNil, sAsg, sPut, sBrk, sCnt, tTrue, wp_bind, wp_ok, wps_nx, wps_rt, wps_bk, wps_ct, wps_toOut, Rs.bind_ok, Rs.ofO_some, Option.map_some, isB, List.getElem?_cons_zero, List.getElem?_cons_succ, List.set_cons_zero, List.set_cons_succ, decide_eq_true_eq, eq_int, eq_str, Option.map_none, Mi.add_int, Mi.add_str0, Mi.add_tup0, opSub, opNeg, cmpI, opIs, opIsNot, biInt, biAbs, isN, atI_0, atI_1, atI_2, atI_3, Mi.ix_tup, Mi.ix_fro, Out.seq_nx, Out.seq_rt, truD, List.set_set, tgSet, if_true, if_false, List.length_cons, List.length_nil, Nat.zero_add, Nat.reduceAdd, Nat.reduceLeDiff, Bool.false_eq_true, eq_self, decide_true, decide_false, Bool.not_true, Bool.not_false, Int.reduceNeg])
            exact ⟨ts, some (.int i), b1, rfl, q4, d4, o4, z1, z2, z3⟩
        · (try simp only [eV, eC, eBin, eUn, aNil, aCons, eTup, eLst, eBi, eMeth, tTru, Mi.tCmp, Mi.tAnd, Mi.tOr, Mi.tNot, eAnd, eOr, eNot, eIf, eChain, tOf, oNo, oSo, eSl, eCall, eIs, sSet, sExpr, sRet, sRetN, sNil, sAsg, sPut, sBrk, sCnt, tTrue, wp_bind, wp_ok, wps_nx, wps_rt, wps_bk, wps_ct, wps_toOut, Rs.bind_ok, Rs.ofO_some, Option.map_some, isB, List.getElem?_cons_zero, List.getElem?_cons_succ, List.set_cons_zero, List.set_cons_succ, decide_eq_true_eq, eq_int, eq_str, Option.map_none, Mi.add_int, Mi.add_str0, Mi.add_tup0, opSub, opNeg, cmpI, opIs, opIsNot, biInt, biAbs, isN, atI_0, atI_1, atI_2, atI_3, Mi.ix_tup, Mi.ix_fro, Out.seq_nx, Out.seq_rt, truD, List.set_set, tgSet, if_true, if_false, List.length_cons, List.length_nil, Nat.zero_add, Nat.reduceAdd, Nat.reduceLeDiff, Bool.false_eq_true, eq_self, decide_true, decide_false, Bool.not_true, Bool.not_false, Int.reduceNeg])
          exact ⟨ts, some (.int i), b1, rfl, q4, d4, o4, z1, z2, z3⟩
      · rintro _ s ⟨ts, y, b1, rfl, q4, d4, o4, z1, z2, z3⟩
        exact ⟨ts, y, b1, rfl, q4, d4, o4, z1, z2, z3⟩
    · rintro _ s ⟨ts, y, b1, rfl, q4, d4, o4, z1, z2, z3⟩
      (try simp only [eV, eC, eBin, eUn, aNil, aCons, eTup, eLst, eBi, eMeth, tTru, Mi.tCmp, Mi.tAnd, Mi.tOr, Mi.tNot, eAnd, eOr, eNot, eIf, eChain, tOf, oNo, oSo, eSl, eCall, eIs, sSet, sExpr, sRet, sRetN, sNil, sAsg, sPut, sBrk, sCnt, tTrue, wp_bind, wp_ok, wps_nx, wps_rt, wps_bk, wps_ct, wps_toOut, Rs.bind_ok, Rs.ofO_some, Option.map_some, isB, List.getElem?_cons_zero, List.getElem?_cons_succ, List.set_cons_zero, List.set_cons_succ, decide_eq_true_eq, eq_int, eq_str, Option.map_none, Mi.add_int, Mi.add_str0, Mi.add_tup0, opSub, opNeg, cmpI, opIs, opIsNot, biInt, biAbs, isN, atI_0, atI_1, atI_2, atI_3, Mi.ix_tup, Mi.ix_fro, Out.seq_nx, Out.seq_rt, truD, List.set_set, tgSet, if_true, if_false, List.length_cons, List.length_nil, Nat.zero_add, Nat.reduceAdd, Nat.reduceLeDiff, Bool.false_eq_true, eq_self, decide_true, decide_false, Bool.not_true, Bool.not_false, Int.reduceNeg, tup_lst q4])
      obtain ⟨s6, e6, d6, l6⟩ := d4.gc ha (Tm.noa (.mk g ts))
      rw [Tm.d_mk] at e6
      rw [e6]
      refine ⟨.mk g ts, b1, (Tm.d_mk g ts).symm, d6, l6, ?_, ?_, z2, fun hb0 => ?_⟩
      · rw [Tm.all_mk]; exact ⟨hg, o4⟩
      · rw [Tm.size_mk]; push_cast; omega
      · rw [z3 hb0, Tm.size_mk, Tm.sizes_nil]
  obtain ⟨d, s', e1, t, b', rfl, r⟩ := w.ok
  exact ⟨t, s', b', e1, r⟩
theorem any_spec : ∀ (n k : Nat) (dpt : Int) (st : Store) (b : Int), 0 ≤ dpt → dpt + n = 90 → n + 4 ≤ k → b ≤ 1000000 → StG a st b → Pool a q hs st → ∃ t st' b', callK T k i_l_law_any [.adr a, .fro (ns.map .int), .adr q, .int dpt] st = .ok t.d st' ∧ AnyR a st st' b b' t
  | 0, k, dpt, st, b, h0, h1, hk, hb, h, hp => by
    obtain ⟨k, rfl⟩ : ∃ j, k = j + 1 := ⟨k - 1, by omega⟩
    exact any_step (by omega) h0 hb h hp fun hd => by omega
  | n + 1, k, dpt, st, b, h0, h1, hk, hb, h, hp => by
    obtain ⟨k, rfl⟩ : ∃ j, k = j + 1 := ⟨k - 1, by omega⟩
    exact any_step (by omega) h0 hb h hp fun hd st1 b1 hb1 g gp => any_spec n k (dpt + 1) st1 b1 (by omega) (by push_cast at h1; omega) (by omega) hb1 g gp
/-- what a term of at most so many heads is -/
structure TmR (a : Nat) (st st' : Store) (most : Int) (t : Tm) : Prop where
  dr : ∃ b', Dr a st st' b'
  ln : st'.length = st.length
  ok : t.all HdOk
  sz : (t.size : Int) ≤ most
theorem chain_spec (hk : 4 ≤ k) {many : Int} (hm1 : 1 ≤ many) (hm2 : many ≤ 1000000) (h : StG a st b) (hp : Pool a q hs st) : ∃ t st', callK T k i_l_law_chain [.adr a, .fro (ns.map .int), .adr q, .int many] st = .ok t.d st' ∧ TmR a st st' many t := by
  obtain ⟨k, rfl⟩ : ∃ j, k = j + 1 := ⟨k - 1, by omega⟩
  have ha := h.lt
  have w : (callK T (k + 1) i_l_law_chain [.adr a, .fro (ns.map .int), .adr q, .int many] st).wp (fun d s' => ∃ t, d = t.d ∧ TmR a st s' many t) NoX := by
    refine call_wp (env := [some (.adr a), some (.fro (ns.map .int)), some (.adr q), some (.int many), none, none]) T_l_law_chain rfl rfl ?_
    rw [fb_l_law_chain, b_l_law_chain]
    refine seq_wp ?_
    obtain ⟨g, s1, e1, d1, l1, hg⟩ := head_spec (k := k) (ns := ns) (by omega) h hp
    (try simp only [eV, eC, eBin, eUn, aNil, aCons, eTup, eLst, eBi, eMeth, tTru, Mi.tCmp, Mi.tAnd, Mi.tOr, Mi.tNot, eAnd, eOr, eNot, eIf, eChain, tOf, oNo, oSo, eSl, eCall, eIs, sSet, sExpr, sRet, sRetN, sNil, sAsg, sPut, sBrk, sCnt, tTrue, wp_bind, wp_ok, wps_nx, wps_rt, wps_bk, wps_ct, wps_toOut, Rs.bind_ok, Rs.ofO_some, Option.map_some, isB, List.getElem?_cons_zero, List.getElem?_cons_succ, List.set_cons_zero, List.set_cons_succ, decide_eq_true_eq, eq_int, eq_str, Option.map_none, Mi.add_int, Mi.add_str0, Mi.add_tup0, opSub, opNeg, cmpI, opIs, opIsNot, biInt, biAbs, isN, atI_0, atI_1, atI_2, atI_3, Mi.ix_tup, Mi.ix_fro, Out.seq_nx, Out.seq_rt, truD, List.set_set, tgSet, if_true, if_false, List.length_cons, List.length_nil, Nat.zero_add, Nat.reduceAdd, Nat.reduceLeDiff, Bool.false_eq_true, eq_self, decide_true, decide_false, Bool.not_true, Bool.not_false, Int.reduceNeg, e1])
    refine seq_mid (I := fun env s => ∃ (t : Tm) (y : Option D), env = [some (.adr a), some (.fro (ns.map .int)), some (.adr q), some (.int many), some t.d, y] ∧ Dr a st s b ∧ t.all HdOk ∧ (t.size : Int) = many) (sFor_wp ?_) ?_
    · rw [srcR1_of (j := many - 1) (st' := s1) (by (try simp only [eV, eC, eBin, eUn, aNil, aCons, eTup, eLst, eBi, eMeth, tTru, Mi.tCmp, Mi.tAnd, Mi.tOr, Mi.tNot, eAnd, eOr, eNot, eIf, eChain, tOf, oNo, oSo, eSl, eCall, eIs, sSet, sExpr, sRet, sRetN, sNil, sAsg, sPut, sBrk, sCnt, tTrue, wp_bind, wp_ok, wps_nx, wps_rt, wps_bk, wps_ct, wps_toOut, Rs.bind_ok, Rs.ofO_some, Option.map_some, isB, List.getElem?_cons_zero, List.getElem?_cons_succ, List.set_cons_zero, List.set_cons_succ, decide_eq_true_eq, eq_int, eq_str, Option.map_none, Mi.add_int, Mi.add_str0, Mi.add_tup0, opSub, opNeg, cmpI, opIs, opIsNot, biInt, biAbs, isN, atI_0, atI_1, atI_2, atI_3, Mi.ix_tup, Mi.ix_fro, Out.seq_nx, Out.seq_rt, truD, List.set_set, tgSet, if_true, if_false, List.length_cons, List.length_nil, Nat.zero_add, Nat.reduceAdd, Nat.reduceLeDiff, Bool.false_eq_true, eq_self, decide_true, decide_false, Bool.not_true, Bool.not_false, Int.reduceNeg])) (by omega) (by omega), wp_ok]
      refine forR_wp (I := fun i env s => ∃ (t : Tm) (y : Option D), env = [some (.adr a), some (.fro (ns.map .int)), some (.adr q), some (.int many), some t.d, y] ∧ Dr a st s b ∧ t.all HdOk ∧ (t.size : Int) = i + 1) (hi := many - 1) ?_ ?_ _ 0 _ _ (by omega) ⟨.mk g [], none, by rw [Tm.d_mk, Tm.ds_nil], d1, by rw [Tm.all_mk]; exact ⟨hg, Tm.alls_nil _⟩, by rw [Tm.size_mk, Tm.sizes_nil]; rfl⟩
      · rintro i _ s ⟨t, y, rfl, d2, o2, z2⟩ hi
        refine ⟨_, rfl, ?_⟩
        obtain ⟨g, s3, e3, d3, l3, hg⟩ := head_spec (k := k) (ns := ns) (by omega) d2.ok (hp.dr d2)
        (try simp only [eV, eC, eBin, eUn, aNil, aCons, eTup, eLst, eBi, eMeth, tTru, Mi.tCmp, Mi.tAnd, Mi.tOr, Mi.tNot, eAnd, eOr, eNot, eIf, eChain, tOf, oNo, oSo, eSl, eCall, eIs, sSet, sExpr, sRet, sRetN, sNil, sAsg, sPut, sBrk, sCnt, tTrue, wp_bind, wp_ok, wps_nx, wps_rt, wps_bk, wps_ct, wps_toOut, Rs.bind_ok, Rs.ofO_some, Option.map_some, isB, List.getElem?_cons_zero, List.getElem?_cons_succ, List.set_cons_zero, List.set_cons_succ, decide_eq_true_eq, eq_int, eq_str, Option.map_none, Mi.add_int, Mi.add_str0, Mi.add_tup0, opSub, opNeg, cmpI, opIs, opIsNot, biInt, biAbs, isN, atI_0, atI_1, atI_2, atI_3, Mi.ix_tup, Mi.ix_fro, Out.seq_nx, Out.seq_rt, truD, List.set_set, tgSet, if_true, if_false, List.length_cons, List.length_nil, Nat.zero_add, Nat.reduceAdd, Nat.reduceLeDiff, Bool.false_eq_true, eq_self, decide_true, decide_false, Bool.not_true, Bool.not_false, Int.reduceNeg, e3])
        refine ⟨.mk g [t], some (.int i), by rw [Tm.d_mk, Tm.ds_cons, Tm.ds_nil], d2.trans d3, ?_, ?_⟩
        · rw [Tm.all_mk, Tm.alls_cons]; exact ⟨hg, o2, Tm.alls_nil _⟩
        · rw [Tm.size_mk, Tm.sizes_cons, Tm.sizes_nil]; push_cast; omega
      · rintro _ s ⟨t, y, rfl, d2, o2, z2⟩
        exact ⟨t, y, rfl, d2, o2, by omega⟩
    · rintro _ s ⟨t, y, rfl, d2, o2, z2⟩
      (try simp only [eV, eC, eBin, eUn, aNil, aCons, eTup, eLst, eBi, eMeth, tTru, Mi.tCmp, Mi.tAnd, Mi.tOr, Mi.tNot, eAnd, eOr, eNot, eIf, eChain, tOf, oNo, oSo, eSl, eCall, eIs, sSet, sExpr, sRet, sRetN, sNil, sAsg, sPut, sBrk, sCnt, tTrue, wp_bind, wp_ok, wps_nx, wps_rt, wps_bk, wps_ct, wps_toOut, Rs.bind_ok, Rs.ofO_some, Option.map_some, isB, List.getElem?_cons_zero, List.getElem?_cons_succ, List.set_cons_zero, List.set_cons_succ, decide_eq_true_eq, eq_int, eq_str, Option.map_none, Mi.add_int, Mi.add_str0, Mi.add_tup0, opSub, opNeg, cmpI, opIs, opIsNot, biInt, biAbs, isN, atI_0, atI_1, atI_2, atI_3, Mi.ix_tup, Mi.ix_fro, Out.seq_nx, Out.seq_rt, truD, List.set_set, tgSet, if_true, if_false, List.length_cons, List.length_nil, Nat.zero_add, Nat.reduceAdd, Nat.reduceLeDiff, Bool.false_eq_true, eq_self, decide_true, decide_false, Bool.not_true, Bool.not_false, Int.reduceNeg])
      obtain ⟨s6, e6, d6, l6⟩ := d2.gc ha (Tm.noa t)
      rw [e6]
      exact ⟨t, rfl, ⟨_, d6⟩, l6, o2, by omega⟩
  obtain ⟨d, s', e1, t, rfl, r⟩ := w.ok
  exact ⟨t, s', e1, r⟩
theorem leaf_d (g : Hd) : (D.tup [g.d, D.tup []]) = (Tm.mk g []).d := by rw [Tm.d_mk, Tm.ds_nil]
theorem leaf_ok {g : Hd} (hg : HdOk g) : (Tm.mk g []).all HdOk := by rw [Tm.all_mk]; exact ⟨hg, Tm.alls_nil _⟩
theorem leaf_size (g : Hd) : (Tm.mk g []).size = 1 := by rw [Tm.size_mk, Tm.sizes_nil]
theorem deep_spec (hk : 4 ≤ k) {many : Int} (hm1 : 0 ≤ many) (hm2 : many ≤ 1000000) (h : StG a st b) (hp : Pool a q hs st) : ∃ t st', callK T k i_l_law_deep [.adr a, .fro (ns.map .int), .adr q, .int many] st = .ok t.d st' ∧ TmR a st st' (1 + 2 * many) t := by
  obtain ⟨k, rfl⟩ : ∃ j, k = j + 1 := ⟨k - 1, by omega⟩
  have ha := h.lt
  have hq := hp.lt
  have w : (callK T (k + 1) i_l_law_deep [.adr a, .fro (ns.map .int), .adr q, .int many] st).wp (fun d s' => ∃ t, d = t.d ∧ TmR a st s' (1 + 2 * many) t) NoX := by
    refine call_wp (env := [some (.adr a), some (.fro (ns.map .int)), some (.adr q), some (.int many), none, none, none]) T_l_law_deep rfl rfl ?_
    rw [fb_l_law_deep, b_l_law_deep]
    refine seq_wp ?_
    obtain ⟨g, s1, e1, d1, l1, hg⟩ := head_spec (k := k) (ns := ns) (by omega) h hp
    (try simp only [eV, eC, eBin, eUn, aNil, aCons, eTup, eLst, eBi, eMeth, tTru, Mi.tCmp, Mi.tAnd, Mi.tOr, Mi.tNot, eAnd, eOr, eNot, eIf, eChain, tOf, oNo, oSo, eSl, eCall, eIs, sSet, sExpr, sRet, sRetN, sNil, sAsg, sPut, sBrk, sCnt, tTrue, wp_bind, wp_ok, wps_nx, wps_rt, wps_bk, wps_ct, wps_toOut, Rs.bind_ok, Rs.ofO_some, Option.map_some, isB, List.getElem?_cons_zero, List.getElem?_cons_succ, List.set_cons_zero, List.set_cons_succ, decide_eq_true_eq, eq_int, eq_str, Option.map_none, Mi.add_int, Mi.add_str0, Mi.add_tup0, opSub, opNeg, cmpI, opIs, opIsNot, biInt, biAbs, isN, atI_0, atI_1, atI_2, atI_3, Mi.ix_tup, Mi.ix_fro, Out.seq_nx, Out.seq_rt, truD, List.set_set, tgSet, if_true, if_false, List.length_cons, List.length_nil, Nat.zero_add, Nat.reduceAdd, Nat.reduceLeDiff, Bool.false_eq_true, eq_self, decide_true, decide_false, Bool.not_true, Bool.not_false, Int.reduceNeg, e1])
    refine seq_mid (I := fun env s => ∃ (t : Tm) (y z : Option D), env = [some (.adr a), some (.fro (ns.map .int)), some (.adr q), some (.int many), some t.d, y, z] ∧ Dr a st s b ∧ t.all HdOk ∧ (t.size : Int) ≤ 1 + 2 * many) (sFor_wp ?_) ?_
    · rw [srcR1_of (j := many) (st' := s1) (by (try simp only [eV, eC, eBin, eUn, aNil, aCons, eTup, eLst, eBi, eMeth, tTru, Mi.tCmp, Mi.tAnd, Mi.tOr, Mi.tNot, eAnd, eOr, eNot, eIf, eChain, tOf, oNo, oSo, eSl, eCall, eIs, sSet, sExpr, sRet, sRetN, sNil, sAsg, sPut, sBrk, sCnt, tTrue, wp_bind, wp_ok, wps_nx, wps_rt, wps_bk, wps_ct, wps_toOut, Rs.bind_ok, Rs.ofO_some, Option.map_some, isB, List.getElem?_cons_zero, List.getElem?_cons_succ, List.set_cons_zero, List.set_cons_succ, decide_eq_true_eq, eq_int, eq_str, Option.map_none, Mi.add_int, Mi.add_str0, Mi.add_tup0, opSub, opNeg, cmpI, opIs, opIsNot, biInt, biAbs, isN, atI_0, atI_1, atI_2, atI_3, Mi.ix_tup, Mi.ix_fro, Out.seq_nx, Out.seq_rt, truD, List.set_set, tgSet, if_true, if_false, List.length_cons, List.length_nil, Nat.zero_add, Nat.reduceAdd, Nat.reduceLeDiff, Bool.false_eq_true, eq_self, decide_true, decide_false, Bool.not_true, Bool.not_false, Int.reduceNeg])) (by omega) (by omega), wp_ok]
      refine forR_wp (I := fun i env s => ∃ (t : Tm) (y z : Option D), env = [some (.adr a), some (.fro (ns.map .int)), some (.adr q), some (.int many), some t.d, y, z] ∧ Dr a st s b ∧ t.all HdOk ∧ (t.size : Int) ≤ 1 + 2 * i) (hi := many) ?_ ?_ _ 0 _ _ (by omega) ⟨.mk g [], none, none, by rw [leaf_d], d1, leaf_ok hg, by rw [leaf_size]; decide⟩
      · rintro i _ s ⟨t, y, z, rfl, d2, o2, z2⟩ hi
        refine ⟨_, rfl, ?_⟩
        refine seq_wp ?_
        (try simp only [eV, eC, eBin, eUn, aNil, aCons, eTup, eLst, eBi, eMeth, tTru, Mi.tCmp, Mi.tAnd, Mi.tOr, Mi.tNot, eAnd, eOr, eNot, eIf, eChain, tOf, oNo, oSo, eSl, eCall, eIs, sSet, sExpr, sRet, sRetN, sNil, sAsg, sPut, sBrk, sCnt, tTrue, wp_bind, wp_ok, wps_nx, wps_rt, wps_bk, wps_ct, wps_toOut, Rs.bind_ok, Rs.ofO_some, Option.map_some, isB, List.getElem?_cons_zero, List.getElem?_cons_succ, List.set_cons_zero, List.set_cons_succ, decide_eq_true_eq, eq_int, eq_str, Option.map_none, Mi.add_int, Mi.add_str0, Mi.add_tup0, opSub, opNeg, cmpI, opIs, opIsNot, biInt, biAbs, isN, atI_0, atI_1, atI_2, atI_3, Mi.ix_tup, Mi.ix_fro, Out.seq_nx, Out.seq_rt, truD, List.set_set, tgSet, if_true, if_false, List.length_cons, List.length_nil, Nat.zero_add, Nat.reduceAdd, Nat.reduceLeDiff, Bool.false_eq_true, eq_self, decide_true, decide_false, Bool.not_true, Bool.not_false, Int.reduceNeg])
        have ts := t.size_pos
        refine seq_mid (I := fun env s => ∃ (n : Nat) (ts : List Tm), env = [some (.adr a), some (.fro (ns.map .int)), some (.adr q), some (.int many), some t.d, some (.int i), some (.adr n)] ∧ Dr a st s b ∧ st.length ≤ n ∧ lstAt s n = some (Tm.ds ts) ∧ Tm.alls HdOk ts ∧ (ts = [t] ∨ ∃ g, ts = [t, .mk g []])) (sIf_t ?_) ?_
        · obtain ⟨v, s3, e3, d3, l3, v0, v1⟩ := pick_spec (k := k) (ns := ns) (st := s ++ [.lst [t.d]]) (by omega) 4 (by decide) (by decide) (d2.ok.old (Old.app _ _))
          (try simp only [eV, eC, eBin, eUn, aNil, aCons, eTup, eLst, eBi, eMeth, tTru, Mi.tCmp, Mi.tAnd, Mi.tOr, Mi.tNot, eAnd, eOr, eNot, eIf, eChain, tOf, oNo, oSo, eSl, eCall, eIs, sSet, sExpr, sRet, sRetN, sNil, sAsg, sPut, sBrk, sCnt, tTrue, wp_bind, wp_ok, wps_nx, wps_rt, wps_bk, wps_ct, wps_toOut, Rs.bind_ok, Rs.ofO_some, Option.map_some, isB, List.getElem?_cons_zero, List.getElem?_cons_succ, List.set_cons_zero, List.set_cons_succ, decide_eq_true_eq, eq_int, eq_str, Option.map_none, Mi.add_int, Mi.add_str0, Mi.add_tup0, opSub, opNeg, cmpI, opIs, opIsNot, biInt, biAbs, isN, atI_0, atI_1, atI_2, atI_3, Mi.ix_tup, Mi.ix_fro, Out.seq_nx, Out.seq_rt, truD, List.set_set, tgSet, if_true, if_false, List.length_cons, List.length_nil, Nat.zero_add, Nat.reduceAdd, Nat.reduceLeDiff, Bool.false_eq_true, eq_self, decide_true, decide_false, Bool.not_true, Bool.not_false, Int.reduceNeg, e3])
          have d4 := (d2.old (Old.app _ _)).trans d3
          have q4 := d3.lst (lst_new (st := s) (xs := [t.d])) (by have := d2.le; omega)
          split
          · obtain ⟨g, s5, e5, d5, l5, hg⟩ := head_spec (k := k) (ns := ns) (by omega) d4.ok (hp.dr d4)
            have q5 := d5.lst q4 (by have := d2.le; omega)
            (try simp only [eV, eC, eBin, eUn, aNil, aCons, eTup, eLst, eBi, eMeth, tTru, Mi.tCmp, Mi.tAnd, Mi.tOr, Mi.tNot, eAnd, eOr, eNot, eIf, eChain, tOf, oNo, oSo, eSl, eCall, eIs, sSet, sExpr, sRet, sRetN, sNil, sAsg, sPut, sBrk, sCnt, tTrue, wp_bind, wp_ok, wps_nx, wps_rt, wps_bk, wps_ct, wps_toOut, Rs.bind_ok, Rs.ofO_some, Option.map_some, isB, List.getElem?_cons_zero, List.getElem?_cons_succ, List.set_cons_zero, List.set_cons_succ, decide_eq_true_eq, eq_int, eq_str, Option.map_none, Mi.add_int, Mi.add_str0, Mi.add_tup0, opSub, opNeg, cmpI, opIs, opIsNot, biInt, biAbs, isN, atI_0, atI_1, atI_2, atI_3, Mi.ix_tup, Mi.ix_fro, Out.seq_nx, Out.seq_rt, truD, List.set_set, tgSet, if_true, if_false, List.length_cons, List.length_nil, Nat.zero_add, Nat.reduceAdd, Nat.reduceLeDiff, Bool.false_eq_true, eq_self, decide_true, decide_false, Bool.not_true, Bool.not_false, Int.reduceNeg, ty_lst q4, e5, app_lst q5 (by simp [PySem.sizeLine_eq])])
            refine ⟨_, [t, .mk g []], rfl, (d4.trans d5).loc ha d2.le, d2.le, ?_, ?_, .inr ⟨g, rfl⟩⟩
            · rw [lst_set (lst_lt q5), Tm.ds_cons, Tm.ds_cons, Tm.ds_nil, leaf_d]; rfl
            · rw [Tm.alls_cons, Tm.alls_cons]; exact ⟨o2, leaf_ok hg, Tm.alls_nil _⟩
          · (try simp only [eV, eC, eBin, eUn, aNil, aCons, eTup, eLst, eBi, eMeth, tTru, Mi.tCmp, Mi.tAnd, Mi.tOr, Mi.tNot, eAnd, eOr, eNot, eIf, eChain, tOf, oNo, oSo, eSl, eCall, eIs, sSet, sExpr, sRet, sRetN, sNil, sAsg, sPut, sBrk, sCnt, tTrue, wp_bind, wp_ok, wps_nx, wps_rt, wps_bk, wps_ct, wps_toOut, Rs.bind_ok, Rs.ofO_some, Option.map_some, isB, List.getElem?_cons_zero, List.getElem?_cons_succ, List.set_cons_zero, List.set_cons_succ, decide_eq_true_eq, eq_int, eq_str, Option.map_none, Mi.add_int, Mi.add_str0, Mi.add_tup0, opSub, opNeg, cmpI, opIs, opIsNot, biInt, biAbs, isN, atI_0, atI_1, atI_2, atI_3, Mi.ix_tup, Mi.ix_fro, Out.seq_nx, Out.seq_rt, truD, List.set_set, tgSet, if_true, if_false, List.length_cons, List.length_nil, Nat.zero_add, Nat.reduceAdd, Nat.reduceLeDiff, Bool.false_eq_true, eq_self, decide_true, decide_false, Bool.not_true, Bool.not_false, Int.reduceNeg])
            refine ⟨_, [t], rfl, d4, d2.le, by rw [q4, Tm.ds_cons, Tm.ds_nil], ?_, .inl rfl⟩
            rw [Tm.alls_cons]; exact ⟨o2, Tm.alls_nil _⟩
        · rintro _ s ⟨n, ts, rfl, d3, n3, q3, o3, c3⟩
          have l3 : ts.length ≤ 2 := by rcases c3 with rfl | ⟨g, rfl⟩ <;> simp
          refine seq_mid (I := fun env s => ∃ (n : Nat) (ts : List Tm), env = [some (.adr a), some (.fro (ns.map .int)), some (.adr q), some (.int many), some t.d, some (.int i), some (.adr n)] ∧ Dr a st s b ∧ st.length ≤ n ∧ lstAt s n = some (Tm.ds ts) ∧ Tm.alls HdOk ts ∧ Tm.sizes (ts.take 2) ≤ t.size + 1 ∧ ts.length ≤ 3) (sIf_t ?_) ?_
          · obtain ⟨v, s4, e4, d4, l4, v0, v1⟩ := pick_spec (k := k) (ns := ns) (by omega) 8 (by decide) (by decide) d3.ok
            have q4 := d4.lst q3 (by omega)
            (try simp only [eV, eC, eBin, eUn, aNil, aCons, eTup, eLst, eBi, eMeth, tTru, Mi.tCmp, Mi.tAnd, Mi.tOr, Mi.tNot, eAnd, eOr, eNot, eIf, eChain, tOf, oNo, oSo, eSl, eCall, eIs, sSet, sExpr, sRet, sRetN, sNil, sAsg, sPut, sBrk, sCnt, tTrue, wp_bind, wp_ok, wps_nx, wps_rt, wps_bk, wps_ct, wps_toOut, Rs.bind_ok, Rs.ofO_some, Option.map_some, isB, List.getElem?_cons_zero, List.getElem?_cons_succ, List.set_cons_zero, List.set_cons_succ, decide_eq_true_eq, eq_int, eq_str, Option.map_none, Mi.add_int, Mi.add_str0, Mi.add_tup0, opSub, opNeg, cmpI, opIs, opIsNot, biInt, biAbs, isN, atI_0, atI_1, atI_2, atI_3, Mi.ix_tup, Mi.ix_fro, Out.seq_nx, Out.seq_rt, truD, List.set_set, tgSet, if_true, if_false, List.length_cons, List.length_nil, Nat.zero_add, Nat.reduceAdd, Nat.reduceLeDiff, Bool.false_eq_true, eq_self, decide_true, decide_false, Bool.not_true, Bool.not_false, Int.reduceNeg, e4])
            split
            · obtain ⟨g, s5, e5, d5, l5, hg⟩ := head_spec (k := k) (ns := ns) (by omega) d4.ok ((hp.dr d3).dr d4)
              have q5 := d5.lst q4 (by omega)
              (try simp only [eV, eC, eBin, eUn, aNil, aCons, eTup, eLst, eBi, eMeth, tTru, Mi.tCmp, Mi.tAnd, Mi.tOr, Mi.tNot, eAnd, eOr, eNot, eIf, eChain, tOf, oNo, oSo, eSl, eCall, eIs, sSet, sExpr, sRet, sRetN, sNil, sAsg, sPut, sBrk, sCnt, tTrue, wp_bind, wp_ok, wps_nx, wps_rt, wps_bk, wps_ct, wps_toOut, Rs.bind_ok, Rs.ofO_some, Option.map_some, isB, List.getElem?_cons_zero, List.getElem?_cons_succ, List.set_cons_zero, List.set_cons_succ, decide_eq_true_eq, eq_int, eq_str, Option.map_none, Mi.add_int, Mi.add_str0, Mi.add_tup0, opSub, opNeg, cmpI, opIs, opIsNot, biInt, biAbs, isN, atI_0, atI_1, atI_2, atI_3, Mi.ix_tup, Mi.ix_fro, Out.seq_nx, Out.seq_rt, truD, List.set_set, tgSet, if_true, if_false, List.length_cons, List.length_nil, Nat.zero_add, Nat.reduceAdd, Nat.reduceLeDiff, Bool.false_eq_true, eq_self, decide_true, decide_false, Bool.not_true, Bool.not_false, Int.reduceNeg, e5])
              have := lst_app (g := [O.lst [D.tup [g.d, D.tup []]]]) q5
              (try simp only [eV, eC, eBin, eUn, aNil, aCons, eTup, eLst, eBi, eMeth, tTru, Mi.tCmp, Mi.tAnd, Mi.tOr, Mi.tNot, eAnd, eOr, eNot, eIf, eChain, tOf, oNo, oSo, eSl, eCall, eIs, sSet, sExpr, sRet, sRetN, sNil, sAsg, sPut, sBrk, sCnt, tTrue, wp_bind, wp_ok, wps_nx, wps_rt, wps_bk, wps_ct, wps_toOut, Rs.bind_ok, Rs.ofO_some, Option.map_some, isB, List.getElem?_cons_zero, List.getElem?_cons_succ, List.set_cons_zero, List.set_cons_succ, decide_eq_true_eq, eq_int, eq_str, Option.map_none, Mi.add_int, Mi.add_str0, Mi.add_tup0, opSub, opNeg, cmpI, opIs, opIsNot, biInt, biAbs, isN, atI_0, atI_1, atI_2, atI_3, Mi.ix_tup, Mi.ix_fro, Out.seq_nx, Out.seq_rt, truD, List.set_set, tgSet, if_true, if_false, List.length_cons, List.length_nil, Nat.zero_add, Nat.reduceAdd, Nat.reduceLeDiff, Bool.false_eq_true, eq_self, decide_true, decide_false, Bool.not_true, Bool.not_false, Int.reduceNeg, this, lst_new, opAdd])
              rw [if_pos (by rw [Tm.ds_map, List.length_map, PySem.sizeLine_eq]; omega)]
              (try simp only [eV, eC, eBin, eUn, aNil, aCons, eTup, eLst, eBi, eMeth, tTru, Mi.tCmp, Mi.tAnd, Mi.tOr, Mi.tNot, eAnd, eOr, eNot, eIf, eChain, tOf, oNo, oSo, eSl, eCall, eIs, sSet, sExpr, sRet, sRetN, sNil, sAsg, sPut, sBrk, sCnt, tTrue, wp_bind, wp_ok, wps_nx, wps_rt, wps_bk, wps_ct, wps_toOut, Rs.bind_ok, Rs.ofO_some, Option.map_some, isB, List.getElem?_cons_zero, List.getElem?_cons_succ, List.set_cons_zero, List.set_cons_succ, decide_eq_true_eq, eq_int, eq_str, Option.map_none, Mi.add_int, Mi.add_str0, Mi.add_tup0, opSub, opNeg, cmpI, opIs, opIsNot, biInt, biAbs, isN, atI_0, atI_1, atI_2, atI_3, Mi.ix_tup, Mi.ix_fro, Out.seq_nx, Out.seq_rt, truD, List.set_set, tgSet, if_true, if_false, List.length_cons, List.length_nil, Nat.zero_add, Nat.reduceAdd, Nat.reduceLeDiff, Bool.false_eq_true, eq_self, decide_true, decide_false, Bool.not_true, Bool.not_false, Int.reduceNeg])
              refine ⟨_, .mk g [] :: ts, rfl, (((d3.trans d4).trans d5).old (Old.app _ _)).old (Old.app _ _), ?_, ?_, ?_, ?_, by simp; omega⟩
              · have := ((d3.trans d4).trans d5).le; simp; omega
              · rw [lst_new, Tm.ds_cons, leaf_d]; rfl
              · rw [Tm.alls_cons]; exact ⟨leaf_ok hg, o3⟩
              · rcases c3 with rfl | ⟨g', rfl⟩
                · simp [Tm.sizes_cons, Tm.sizes_nil, leaf_size]; omega
                · simp [Tm.sizes_cons, Tm.sizes_nil, leaf_size]; omega
            · (try simp only [eV, eC, eBin, eUn, aNil, aCons, eTup, eLst, eBi, eMeth, tTru, Mi.tCmp, Mi.tAnd, Mi.tOr, Mi.tNot, eAnd, eOr, eNot, eIf, eChain, tOf, oNo, oSo, eSl, eCall, eIs, sSet, sExpr, sRet, sRetN, sNil, sAsg, sPut, sBrk, sCnt, tTrue, wp_bind, wp_ok, wps_nx, wps_rt, wps_bk, wps_ct, wps_toOut, Rs.bind_ok, Rs.ofO_some, Option.map_some, isB, List.getElem?_cons_zero, List.getElem?_cons_succ, List.set_cons_zero, List.set_cons_succ, decide_eq_true_eq, eq_int, eq_str, Option.map_none, Mi.add_int, Mi.add_str0, Mi.add_tup0, opSub, opNeg, cmpI, opIs, opIsNot, biInt, biAbs, isN, atI_0, atI_1, atI_2, atI_3, Mi.ix_tup, Mi.ix_fro, Out.seq_nx, Out.seq_rt, truD, List.set_set, tgSet, if_true, if_false, List.length_cons, List.length_nil, Nat.zero_add, Nat.reduceAdd, Nat.reduceLeDiff, Bool.false_eq_true, eq_self, decide_true, decide_false, Bool.not_true, Bool.not_false, Int.reduceNeg])
              refine ⟨_, ts, rfl, d3.trans d4, n3, q4, o3, ?_, by omega⟩
              rcases c3 with rfl | ⟨g', rfl⟩
              · simp [Tm.sizes_cons, Tm.sizes_nil]
              · simp [Tm.sizes_cons, Tm.sizes_nil, leaf_size]
          · rintro _ s ⟨n, ts, rfl, d4, n4, q4, o4, c4, l4⟩
            obtain ⟨g, s5, e5, d5, l5, hg⟩ := head_spec (k := k) (ns := ns) (by omega) d4.ok (hp.dr d4)
            have q5 := d5.lst q4 (by omega)
            have e6 : opSl (.adr n) none (some 2) s5 = some (.adr s5.length, s5 ++ [.lst (Tm.ds (ts.take 2))]) := by
              show (lstAt s5 n).map _ = _
              rw [q5]
              show some _ = _
              dsimp only
              rw [cutD_take2, Tm.ds_map, Tm.ds_map, List.map_take]
            (try simp only [eV, eC, eBin, eUn, aNil, aCons, eTup, eLst, eBi, eMeth, tTru, Mi.tCmp, Mi.tAnd, Mi.tOr, Mi.tNot, eAnd, eOr, eNot, eIf, eChain, tOf, oNo, oSo, eSl, eCall, eIs, sSet, sExpr, sRet, sRetN, sNil, sAsg, sPut, sBrk, sCnt, tTrue, wp_bind, wp_ok, wps_nx, wps_rt, wps_bk, wps_ct, wps_toOut, Rs.bind_ok, Rs.ofO_some, Option.map_some, isB, List.getElem?_cons_zero, List.getElem?_cons_succ, List.set_cons_zero, List.set_cons_succ, decide_eq_true_eq, eq_int, eq_str, Option.map_none, Mi.add_int, Mi.add_str0, Mi.add_tup0, opSub, opNeg, cmpI, opIs, opIsNot, biInt, biAbs, isN, atI_0, atI_1, atI_2, atI_3, Mi.ix_tup, Mi.ix_fro, Out.seq_nx, Out.seq_rt, truD, List.set_set, tgSet, if_true, if_false, List.length_cons, List.length_nil, Nat.zero_add, Nat.reduceAdd, Nat.reduceLeDiff, Bool.false_eq_true, eq_self, decide_true, decide_false, Bool.not_true, Bool.not_false, Int.reduceNeg, e5, e6, tup_lst lst_new])
            refine ⟨.mk g (ts.take 2), some (.int i), some (.adr n), by rw [Tm.d_mk], (d4.trans d5).old (Old.app _ _), ?_, ?_⟩
            · rw [Tm.all_mk]
              exact ⟨hg, Tm.alls_iff.mpr fun t ht => Tm.alls_iff.mp o4 t (List.mem_of_mem_take ht)⟩
            · rw [Tm.size_mk]; push_cast; omega
      · rintro _ s ⟨t, y, z, rfl, d2, o2, z2⟩
        exact ⟨t, y, z, rfl, d2, o2, z2⟩
    · rintro _ s ⟨t, y, z, rfl, d2, o2, z2⟩
      (try simp only [eV, eC, eBin, eUn, aNil, aCons, eTup, eLst, eBi, eMeth, tTru, Mi.tCmp, Mi.tAnd, Mi.tOr, Mi.tNot, eAnd, eOr, eNot, eIf, eChain, tOf, oNo, oSo, eSl, eCall, eIs, sSet, sExpr, sRet, sRetN, sNil, sAsg, sPut, sBrk, sCnt, tTrue, wp_bind, wp_ok, wps_nx, wps_rt, wps_bk, wps_ct, wps_toOut, Rs.bind_ok, Rs.ofO_some, Option.map_some, isB, List.getElem?_cons_zero, List.getElem?_cons_succ, List.set_cons_zero, List.set_cons_succ, decide_eq_true_eq, eq_int, eq_str, Option.map_none, Mi.add_int, Mi.add_str0, Mi.add_tup0, opSub, opNeg, cmpI, opIs, opIsNot, biInt, biAbs, isN, atI_0, atI_1, atI_2, atI_3, Mi.ix_tup, Mi.ix_fro, Out.seq_nx, Out.seq_rt, truD, List.set_set, tgSet, if_true, if_false, List.length_cons, List.length_nil, Nat.zero_add, Nat.reduceAdd, Nat.reduceLeDiff, Bool.false_eq_true, eq_self, decide_true, decide_false, Bool.not_true, Bool.not_false, Int.reduceNeg])
      obtain ⟨s6, e6, d6, l6⟩ := d2.gc ha (Tm.noa t)
      rw [e6]
      exact ⟨t, rfl, ⟨_, d6⟩, l6, o2, z2⟩
  obtain ⟨d, s', e1, t, rfl, r⟩ := w.ok
  exact ⟨t, s', e1, r⟩
theorem term_spec (hk : 100 ≤ k) {most : Int} (hm1 : 1 ≤ most) (hm2 : most ≤ 1000) (h : StG a st b) (hp : Pool a q hs st) : ∃ t st', callK T k i_l_law_term [.adr a, .fro (ns.map .int), .adr q, .int most] st = .ok t.d st' ∧ TmR a st st' (most + 1) t := by
  obtain ⟨k, rfl⟩ : ∃ j, k = j + 1 := ⟨k - 1, by omega⟩
  have ha := h.lt
  have fin : ∀ {s s' : Store} {b1 m1 : Int} (t : Tm), Dr a st s b1 → TmR a s s' m1 t → m1 ≤ most + 1 → ∃ t', (gcO st t.d s').1 = Tm.d t' ∧ TmR a st (gcO st t.d s').2 (most + 1) t' := fun {s s' b1 m1} t d r hm => by
    obtain ⟨b2, d2⟩ := r.dr
    obtain ⟨s6, e6, d6, l6⟩ := (d.trans d2).gc ha (Tm.noa t)
    rw [e6]
    exact ⟨t, rfl, ⟨_, d6⟩, l6, r.ok, by have := r.sz; omega⟩
  have w : (callK T (k + 1) i_l_law_term [.adr a, .fro (ns.map .int), .adr q, .int most] st).wp (fun d s' => ∃ t, d = t.d ∧ TmR a st s' (most + 1) t) NoX := by
    refine call_wp (env := [some (.adr a), some (.fro (ns.map .int)), some (.adr q), some (.int most)]) T_l_law_term rfl rfl ?_
    rw [fb_l_law_term, b_l_law_term]
    refine seq_wp (sIf_t ?_)
    obtain ⟨v, s1, e1, d1, l1, v0, v1⟩ := pick_spec (k := k) (ns := ns) (by omega) 10 (by decide) (by decide) h
    (try simp only [eV, eC, eBin, eUn, aNil, aCons, eTup, eLst, eBi, eMeth, tTru, Mi.tCmp, Mi.tAnd, Mi.tOr, Mi.tNot, eAnd, eOr, eNot, eIf, eChain, tOf, oNo, oSo, eSl, eCall, eIs, sSet, sExpr, sRet, sRetN, sNil, sAsg, sPut, sBrk, sCnt, tTrue, wp_bind, wp_ok, wps_nx, wps_rt, wps_bk, wps_ct, wps_toOut, Rs.bind_ok, Rs.ofO_some, Option.map_some, isB, List.getElem?_cons_zero, List.getElem?_cons_succ, List.set_cons_zero, List.set_cons_succ, decide_eq_true_eq, eq_int, eq_str, Option.map_none, Mi.add_int, Mi.add_str0, Mi.add_tup0, opSub, opNeg, cmpI, opIs, opIsNot, biInt, biAbs, isN, atI_0, atI_1, atI_2, atI_3, Mi.ix_tup, Mi.ix_fro, Out.seq_nx, Out.seq_rt, truD, List.set_set, tgSet, if_true, if_false, List.length_cons, List.length_nil, Nat.zero_add, Nat.reduceAdd, Nat.reduceLeDiff, Bool.false_eq_true, eq_self, decide_true, decide_false, Bool.not_true, Bool.not_false, Int.reduceNeg, e1])
    split
    · obtain ⟨v, s2, e2, d2, l2, v0, v1⟩ := pick_spec (k := k) (ns := ns) (by omega) most hm1 (by omega) d1.ok
      (try simp only [eV, eC, eBin, eUn, aNil, aCons, eTup, eLst, eBi, eMeth, tTru, Mi.tCmp, Mi.tAnd, Mi.tOr, Mi.tNot, eAnd, eOr, eNot, eIf, eChain, tOf, oNo, oSo, eSl, eCall, eIs, sSet, sExpr, sRet, sRetN, sNil, sAsg, sPut, sBrk, sCnt, tTrue, wp_bind, wp_ok, wps_nx, wps_rt, wps_bk, wps_ct, wps_toOut, Rs.bind_ok, Rs.ofO_some, Option.map_some, isB, List.getElem?_cons_zero, List.getElem?_cons_succ, List.set_cons_zero, List.set_cons_succ, decide_eq_true_eq, eq_int, eq_str, Option.map_none, Mi.add_int, Mi.add_str0, Mi.add_tup0, opSub, opNeg, cmpI, opIs, opIsNot, biInt, biAbs, isN, atI_0, atI_1, atI_2, atI_3, Mi.ix_tup, Mi.ix_fro, Out.seq_nx, Out.seq_rt, truD, List.set_set, tgSet, if_true, if_false, List.length_cons, List.length_nil, Nat.zero_add, Nat.reduceAdd, Nat.reduceLeDiff, Bool.false_eq_true, eq_self, decide_true, decide_false, Bool.not_true, Bool.not_false, Int.reduceNeg, e2])
      obtain ⟨t, s3, e3, r3⟩ := chain_spec (k := k) (ns := ns) (many := 1 + v) (by omega) (by omega) (by omega) d2.ok ((hp.dr d1).dr d2)
      (try simp only [eV, eC, eBin, eUn, aNil, aCons, eTup, eLst, eBi, eMeth, tTru, Mi.tCmp, Mi.tAnd, Mi.tOr, Mi.tNot, eAnd, eOr, eNot, eIf, eChain, tOf, oNo, oSo, eSl, eCall, eIs, sSet, sExpr, sRet, sRetN, sNil, sAsg, sPut, sBrk, sCnt, tTrue, wp_bind, wp_ok, wps_nx, wps_rt, wps_bk, wps_ct, wps_toOut, Rs.bind_ok, Rs.ofO_some, Option.map_some, isB, List.getElem?_cons_zero, List.getElem?_cons_succ, List.set_cons_zero, List.set_cons_succ, decide_eq_true_eq, eq_int, eq_str, Option.map_none, Mi.add_int, Mi.add_str0, Mi.add_tup0, opSub, opNeg, cmpI, opIs, opIsNot, biInt, biAbs, isN, atI_0, atI_1, atI_2, atI_3, Mi.ix_tup, Mi.ix_fro, Out.seq_nx, Out.seq_rt, truD, List.set_set, tgSet, if_true, if_false, List.length_cons, List.length_nil, Nat.zero_add, Nat.reduceAdd, Nat.reduceLeDiff, Bool.false_eq_true, eq_self, decide_true, decide_false, Bool.not_true, Bool.not_false, Int.reduceNeg, e3])
      exact fin t (d1.trans d2) r3 (by omega)
    · (try simp only [eV, eC, eBin, eUn, aNil, aCons, eTup, eLst, eBi, eMeth, tTru, Mi.tCmp, Mi.tAnd, Mi.tOr, Mi.tNot, eAnd, eOr, eNot, eIf, eChain, tOf, oNo, oSo, eSl, eCall, eIs, sSet, sExpr, sRet, sRetN, sNil, sAsg, sPut, sBrk, sCnt, tTrue, wp_bind, wp_ok, wps_nx, wps_rt, wps_bk, wps_ct, wps_toOut, Rs.bind_ok, Rs.ofO_some, Option.map_some, isB, List.getElem?_cons_zero, List.getElem?_cons_succ, List.set_cons_zero, List.set_cons_succ, decide_eq_true_eq, eq_int, eq_str, Option.map_none, Mi.add_int, Mi.add_str0, Mi.add_tup0, opSub, opNeg, cmpI, opIs, opIsNot, biInt, biAbs, isN, atI_0, atI_1, atI_2, atI_3, Mi.ix_tup, Mi.ix_fro, Out.seq_nx, Out.seq_rt, truD, List.set_set, tgSet, if_true, if_false, List.length_cons, List.length_nil, Nat.zero_add, Nat.reduceAdd, Nat.reduceLeDiff, Bool.false_eq_true, eq_self, decide_true, decide_false, Bool.not_true, Bool.not_false, Int.reduceNeg])
      refine seq_wp (sIf_t ?_)
      obtain ⟨v, s2, e2, d2, l2, v0, v1⟩ := pick_spec (k := k) (ns := ns) (by omega) 6 (by decide) (by decide) d1.ok
      (try simp only [eV, eC, eBin, eUn, aNil, aCons, eTup, eLst, eBi, eMeth, tTru, Mi.tCmp, Mi.tAnd, Mi.tOr, Mi.tNot, eAnd, eOr, eNot, eIf, eChain, tOf, oNo, oSo, eSl, eCall, eIs, sSet, sExpr, sRet, sRetN, sNil, sAsg, sPut, sBrk, sCnt, tTrue, wp_bind, wp_ok, wps_nx, wps_rt, wps_bk, wps_ct, wps_toOut, Rs.bind_ok, Rs.ofO_some, Option.map_some, isB, List.getElem?_cons_zero, List.getElem?_cons_succ, List.set_cons_zero, List.set_cons_succ, decide_eq_true_eq, eq_int, eq_str, Option.map_none, Mi.add_int, Mi.add_str0, Mi.add_tup0, opSub, opNeg, cmpI, opIs, opIsNot, biInt, biAbs, isN, atI_0, atI_1, atI_2, atI_3, Mi.ix_tup, Mi.ix_fro, Out.seq_nx, Out.seq_rt, truD, List.set_set, tgSet, if_true, if_false, List.length_cons, List.length_nil, Nat.zero_add, Nat.reduceAdd, Nat.reduceLeDiff, Bool.false_eq_true, eq_self, decide_true, decide_false, Bool.not_true, Bool.not_false, Int.reduceNeg, e2])
      split
      · have cd : CDivN most 3 := ⟨by decide, by decide⟩
        have f3 : most.fdiv 3 = most / 3 := Int.fdiv_eq_ediv_of_nonneg _ (by decide)
        obtain ⟨v, s3, e3, d3, l3, v0, v1⟩ := pick_spec (k := k) (ns := ns) (by omega) (most / 3 + 1) (by omega) (by omega) d2.ok
        (try simp only [eV, eC, eBin, eUn, aNil, aCons, eTup, eLst, eBi, eMeth, tTru, Mi.tCmp, Mi.tAnd, Mi.tOr, Mi.tNot, eAnd, eOr, eNot, eIf, eChain, tOf, oNo, oSo, eSl, eCall, eIs, sSet, sExpr, sRet, sRetN, sNil, sAsg, sPut, sBrk, sCnt, tTrue, wp_bind, wp_ok, wps_nx, wps_rt, wps_bk, wps_ct, wps_toOut, Rs.bind_ok, Rs.ofO_some, Option.map_some, isB, List.getElem?_cons_zero, List.getElem?_cons_succ, List.set_cons_zero, List.set_cons_succ, decide_eq_true_eq, eq_int, eq_str, Option.map_none, Mi.add_int, Mi.add_str0, Mi.add_tup0, opSub, opNeg, cmpI, opIs, opIsNot, biInt, biAbs, isN, atI_0, atI_1, atI_2, atI_3, Mi.ix_tup, Mi.ix_fro, Out.seq_nx, Out.seq_rt, truD, List.set_set, tgSet, if_true, if_false, List.length_cons, List.length_nil, Nat.zero_add, Nat.reduceAdd, Nat.reduceLeDiff, Bool.false_eq_true, eq_self, decide_true, decide_false, Bool.not_true, Bool.not_false, Int.reduceNeg, opDiv, if_pos cd, f3, e3])
        obtain ⟨t, s4, e4, r4⟩ := deep_spec (k := k) (ns := ns) (many := v) (by omega) (by omega) (by omega) d3.ok (((hp.dr d1).dr d2).dr d3)
        (try simp only [eV, eC, eBin, eUn, aNil, aCons, eTup, eLst, eBi, eMeth, tTru, Mi.tCmp, Mi.tAnd, Mi.tOr, Mi.tNot, eAnd, eOr, eNot, eIf, eChain, tOf, oNo, oSo, eSl, eCall, eIs, sSet, sExpr, sRet, sRetN, sNil, sAsg, sPut, sBrk, sCnt, tTrue, wp_bind, wp_ok, wps_nx, wps_rt, wps_bk, wps_ct, wps_toOut, Rs.bind_ok, Rs.ofO_some, Option.map_some, isB, List.getElem?_cons_zero, List.getElem?_cons_succ, List.set_cons_zero, List.set_cons_succ, decide_eq_true_eq, eq_int, eq_str, Option.map_none, Mi.add_int, Mi.add_str0, Mi.add_tup0, opSub, opNeg, cmpI, opIs, opIsNot, biInt, biAbs, isN, atI_0, atI_1, atI_2, atI_3, Mi.ix_tup, Mi.ix_fro, Out.seq_nx, Out.seq_rt, truD, List.set_set, tgSet, if_true, if_false, List.length_cons, List.length_nil, Nat.zero_add, Nat.reduceAdd, Nat.reduceLeDiff, Bool.false_eq_true, eq_self, decide_true, decide_false, Bool.not_true, Bool.not_false, Int.reduceNeg, e4])
        exact fin t ((d1.trans d2).trans d3) r4 (by omega)
      · (try simp only [eV, eC, eBin, eUn, aNil, aCons, eTup, eLst, eBi, eMeth, tTru, Mi.tCmp, Mi.tAnd, Mi.tOr, Mi.tNot, eAnd, eOr, eNot, eIf, eChain, tOf, oNo, oSo, eSl, eCall, eIs, sSet, sExpr, sRet, sRetN, sNil, sAsg, sPut, sBrk, sCnt, tTrue, wp_bind, wp_ok, wps_nx, wps_rt, wps_bk, wps_ct, wps_toOut, Rs.bind_ok, Rs.ofO_some, Option.map_some, isB, List.getElem?_cons_zero, List.getElem?_cons_succ, List.set_cons_zero, List.set_cons_succ, decide_eq_true_eq, eq_int, eq_str, Option.map_none, Mi.add_int, Mi.add_str0, Mi.add_tup0, opSub, opNeg, cmpI, opIs, opIsNot, biInt, biAbs, isN, atI_0, atI_1, atI_2, atI_3, Mi.ix_tup, Mi.ix_fro, Out.seq_nx, Out.seq_rt, truD, List.set_set, tgSet, if_true, if_false, List.length_cons, List.length_nil, Nat.zero_add, Nat.reduceAdd, Nat.reduceLeDiff, Bool.false_eq_true, eq_self, decide_true, decide_false, Bool.not_true, Bool.not_false, Int.reduceNeg])
        refine seq_wp ?_
        obtain ⟨v, s3, e3, d3, l3, v0, v1⟩ := pick_spec (k := k) (ns := ns) (by omega) most hm1 (by omega) d2.ok
        obtain ⟨s4, e4, d4, l4⟩ := d3.ok.put3 v
        (try simp only [eV, eC, eBin, eUn, aNil, aCons, eTup, eLst, eBi, eMeth, tTru, Mi.tCmp, Mi.tAnd, Mi.tOr, Mi.tNot, eAnd, eOr, eNot, eIf, eChain, tOf, oNo, oSo, eSl, eCall, eIs, sSet, sExpr, sRet, sRetN, sNil, sAsg, sPut, sBrk, sCnt, tTrue, wp_bind, wp_ok, wps_nx, wps_rt, wps_bk, wps_ct, wps_toOut, Rs.bind_ok, Rs.ofO_some, Option.map_some, isB, List.getElem?_cons_zero, List.getElem?_cons_succ, List.set_cons_zero, List.set_cons_succ, decide_eq_true_eq, eq_int, eq_str, Option.map_none, Mi.add_int, Mi.add_str0, Mi.add_tup0, opSub, opNeg, cmpI, opIs, opIsNot, biInt, biAbs, isN, atI_0, atI_1, atI_2, atI_3, Mi.ix_tup, Mi.ix_fro, Out.seq_nx, Out.seq_rt, truD, List.set_set, tgSet, if_true, if_false, List.length_cons, List.length_nil, Nat.zero_add, Nat.reduceAdd, Nat.reduceLeDiff, Bool.false_eq_true, eq_self, decide_true, decide_false, Bool.not_true, Bool.not_false, Int.reduceNeg, e3, e4])
        obtain ⟨t, s5, b5, e5, r5⟩ := any_spec (ns := ns) 90 k 0 s4 v (by omega) (by omega) (by omega) (by omega) d4.ok ((((hp.dr d1).dr d2).dr d3).dr d4)
        (try simp only [eV, eC, eBin, eUn, aNil, aCons, eTup, eLst, eBi, eMeth, tTru, Mi.tCmp, Mi.tAnd, Mi.tOr, Mi.tNot, eAnd, eOr, eNot, eIf, eChain, tOf, oNo, oSo, eSl, eCall, eIs, sSet, sExpr, sRet, sRetN, sNil, sAsg, sPut, sBrk, sCnt, tTrue, wp_bind, wp_ok, wps_nx, wps_rt, wps_bk, wps_ct, wps_toOut, Rs.bind_ok, Rs.ofO_some, Option.map_some, isB, List.getElem?_cons_zero, List.getElem?_cons_succ, List.set_cons_zero, List.set_cons_succ, decide_eq_true_eq, eq_int, eq_str, Option.map_none, Mi.add_int, Mi.add_str0, Mi.add_tup0, opSub, opNeg, cmpI, opIs, opIsNot, biInt, biAbs, isN, atI_0, atI_1, atI_2, atI_3, Mi.ix_tup, Mi.ix_fro, Out.seq_nx, Out.seq_rt, truD, List.set_set, tgSet, if_true, if_false, List.length_cons, List.length_nil, Nat.zero_add, Nat.reduceAdd, Nat.reduceLeDiff, Bool.false_eq_true, eq_self, decide_true, decide_false, Bool.not_true, Bool.not_false, Int.reduceNeg, e5])
        refine fin (m1 := most + 1) t (((d1.trans d2).trans d3).trans d4) ⟨⟨_, r5.dr⟩, r5.ln, r5.ok, ?_⟩ (by omega)
        have := r5.bd
        have := r5.b0
        have := r5.b1
        by_cases hv : v ≤ 0
        · have := r5.b0 hv; omega
        · have := r5.b1 (by omega); omega
  obtain ⟨d, s', e1, t, rfl, r⟩ := w.ok
  exact ⟨t, s', e1, r⟩
end
/-! ### the law's own comparison, the heads -/
theorem same_tup {k : Nat} {xs : List D} {st : Store} (hz0 : xs.length ≤ sizeLine) (ih : ∀ x ∈ xs, callK T k i_l_law_same [x, x] st = .ok (.bl true) st) : callK T (k + 1) i_l_law_same [.tup xs, .tup xs] st = .ok (.bl true) st := by
  apply eq_of_wp
  refine call_wp (env := [some (.tup xs), some (.tup xs), none]) T_l_law_same rfl rfl ?_
  rw [fb_l_law_same, b_l_law_same]
  refine seq_wp (sIf_t ?_)
  (try simp only [eV, eC, eBin, eUn, aNil, aCons, eTup, eLst, eBi, eMeth, tTru, Mi.tCmp, Mi.tAnd, Mi.tOr, Mi.tNot, eAnd, eOr, eNot, eIf, eChain, tOf, oNo, oSo, eSl, eCall, eIs, sSet, sExpr, sRet, sRetN, sNil, sAsg, sPut, sBrk, sCnt, tTrue, wp_bind, wp_ok, wps_nx, wps_rt, wps_bk, wps_ct, wps_toOut, Rs.bind_ok, Rs.ofO_some, Option.map_some, isB, List.getElem?_cons_zero, List.getElem?_cons_succ, List.set_cons_zero, List.set_cons_succ, decide_eq_true_eq, eq_int, eq_str, Option.map_none, Mi.add_int, Mi.add_str0, Mi.add_tup0, opSub, opNeg, cmpI, opIs, opIsNot, biInt, biAbs, isN, atI_0, atI_1, atI_2, atI_3, Mi.ix_tup, Mi.ix_fro, Out.seq_nx, Out.seq_rt, truD, List.set_set, tgSet, if_true, if_false, List.length_cons, List.length_nil, Nat.zero_add, Nat.reduceAdd, Nat.reduceLeDiff, Bool.false_eq_true, eq_self, decide_true, decide_false, Bool.not_true, Bool.not_false, Int.reduceNeg, Bool.not_true, Bool.not_false])
  refine seq_wp (sIf_t ?_)
  (try simp only [eV, eC, eBin, eUn, aNil, aCons, eTup, eLst, eBi, eMeth, tTru, Mi.tCmp, Mi.tAnd, Mi.tOr, Mi.tNot, eAnd, eOr, eNot, eIf, eChain, tOf, oNo, oSo, eSl, eCall, eIs, sSet, sExpr, sRet, sRetN, sNil, sAsg, sPut, sBrk, sCnt, tTrue, wp_bind, wp_ok, wps_nx, wps_rt, wps_bk, wps_ct, wps_toOut, Rs.bind_ok, Rs.ofO_some, Option.map_some, isB, List.getElem?_cons_zero, List.getElem?_cons_succ, List.set_cons_zero, List.set_cons_succ, decide_eq_true_eq, eq_int, eq_str, Option.map_none, Mi.add_int, Mi.add_str0, Mi.add_tup0, opSub, opNeg, cmpI, opIs, opIsNot, biInt, biAbs, isN, atI_0, atI_1, atI_2, atI_3, Mi.ix_tup, Mi.ix_fro, Out.seq_nx, Out.seq_rt, truD, List.set_set, tgSet, if_true, if_false, List.length_cons, List.length_nil, Nat.zero_add, Nat.reduceAdd, Nat.reduceLeDiff, Bool.false_eq_true, eq_self, decide_true, decide_false, Bool.not_true, Bool.not_false, Int.reduceNeg, is_tup_tup])
  refine seq_wp (sIf_t ?_)
  (try simp only [eV, eC, eBin, eUn, aNil, aCons, eTup, eLst, eBi, eMeth, tTru, Mi.tCmp, Mi.tAnd, Mi.tOr, Mi.tNot, eAnd, eOr, eNot, eIf, eChain, tOf, oNo, oSo, eSl, eCall, eIs, sSet, sExpr, sRet, sRetN, sNil, sAsg, sPut, sBrk, sCnt, tTrue, wp_bind, wp_ok, wps_nx, wps_rt, wps_bk, wps_ct, wps_toOut, Rs.bind_ok, Rs.ofO_some, Option.map_some, isB, List.getElem?_cons_zero, List.getElem?_cons_succ, List.set_cons_zero, List.set_cons_succ, decide_eq_true_eq, eq_int, eq_str, Option.map_none, Mi.add_int, Mi.add_str0, Mi.add_tup0, opSub, opNeg, cmpI, opIs, opIsNot, biInt, biAbs, isN, atI_0, atI_1, atI_2, atI_3, Mi.ix_tup, Mi.ix_fro, Out.seq_nx, Out.seq_rt, truD, List.set_set, tgSet, if_true, if_false, List.length_cons, List.length_nil, Nat.zero_add, Nat.reduceAdd, Nat.reduceLeDiff, Bool.false_eq_true, eq_self, decide_true, decide_false, Bool.not_true, Bool.not_false, Int.reduceNeg, is_tup_tup, Bool.not_true, Bool.not_false, len_of (d := .tup xs) (xs := xs) rfl, Mi.len_ne])
  refine seq_mid (I := fun _ s => s = st) (sFor_wp ?_) ?_
  · rw [srcR1_of (j := (xs.length : Int)) (st' := st) (by (try simp only [eV, eC, eBin, eUn, aNil, aCons, eTup, eLst, eBi, eMeth, tTru, Mi.tCmp, Mi.tAnd, Mi.tOr, Mi.tNot, eAnd, eOr, eNot, eIf, eChain, tOf, oNo, oSo, eSl, eCall, eIs, sSet, sExpr, sRet, sRetN, sNil, sAsg, sPut, sBrk, sCnt, tTrue, wp_bind, wp_ok, wps_nx, wps_rt, wps_bk, wps_ct, wps_toOut, Rs.bind_ok, Rs.ofO_some, Option.map_some, isB, List.getElem?_cons_zero, List.getElem?_cons_succ, List.set_cons_zero, List.set_cons_succ, decide_eq_true_eq, eq_int, eq_str, Option.map_none, Mi.add_int, Mi.add_str0, Mi.add_tup0, opSub, opNeg, cmpI, opIs, opIsNot, biInt, biAbs, isN, atI_0, atI_1, atI_2, atI_3, Mi.ix_tup, Mi.ix_fro, Out.seq_nx, Out.seq_rt, truD, List.set_set, tgSet, if_true, if_false, List.length_cons, List.length_nil, Nat.zero_add, Nat.reduceAdd, Nat.reduceLeDiff, Bool.false_eq_true, eq_self, decide_true, decide_false, Bool.not_true, Bool.not_false, Int.reduceNeg, len_of (d := .tup xs) (xs := xs) rfl])) (by omega) (by rw [PySem.sizeLine_eq] at hz0; omega), wp_ok]
    refine forR_wp (I := fun i env s => 0 ≤ i ∧ s = st ∧ ∃ y, env = [some (.tup xs), some (.tup xs), y]) (hi := (xs.length : Int)) ?_ ?_ _ 0 _ _ (by simp) ⟨by omega, rfl, none, rfl⟩
    · rintro i _ s ⟨i0, rfl, y, rfl⟩ hi
      refine ⟨_, rfl, sIf_t ?_⟩
      obtain ⟨d, m1, m2⟩ := atI_mem (xs := xs) i0 hi
      (try simp only [eV, eC, eBin, eUn, aNil, aCons, eTup, eLst, eBi, eMeth, tTru, Mi.tCmp, Mi.tAnd, Mi.tOr, Mi.tNot, eAnd, eOr, eNot, eIf, eChain, tOf, oNo, oSo, eSl, eCall, eIs, sSet, sExpr, sRet, sRetN, sNil, sAsg, sPut, sBrk, sCnt, tTrue, wp_bind, wp_ok, wps_nx, wps_rt, wps_bk, wps_ct, wps_toOut, Rs.bind_ok, Rs.ofO_some, Option.map_some, isB, List.getElem?_cons_zero, List.getElem?_cons_succ, List.set_cons_zero, List.set_cons_succ, decide_eq_true_eq, eq_int, eq_str, Option.map_none, Mi.add_int, Mi.add_str0, Mi.add_tup0, opSub, opNeg, cmpI, opIs, opIsNot, biInt, biAbs, isN, atI_0, atI_1, atI_2, atI_3, Mi.ix_tup, Mi.ix_fro, Out.seq_nx, Out.seq_rt, truD, List.set_set, tgSet, if_true, if_false, List.length_cons, List.length_nil, Nat.zero_add, Nat.reduceAdd, Nat.reduceLeDiff, Bool.false_eq_true, eq_self, decide_true, decide_false, Bool.not_true, Bool.not_false, Int.reduceNeg, m1, ih d m2, Bool.not_true, Bool.not_false])
      exact ⟨by omega, trivial, _, rfl⟩
    · rintro env s ⟨_, rfl, _⟩
      rfl
  · rintro e s rfl
    (try simp only [eV, eC, eBin, eUn, aNil, aCons, eTup, eLst, eBi, eMeth, tTru, Mi.tCmp, Mi.tAnd, Mi.tOr, Mi.tNot, eAnd, eOr, eNot, eIf, eChain, tOf, oNo, oSo, eSl, eCall, eIs, sSet, sExpr, sRet, sRetN, sNil, sAsg, sPut, sBrk, sCnt, tTrue, wp_bind, wp_ok, wps_nx, wps_rt, wps_bk, wps_ct, wps_toOut, Rs.bind_ok, Rs.ofO_some, Option.map_some, isB, List.getElem?_cons_zero, List.getElem?_cons_succ, List.set_cons_zero, List.set_cons_succ, decide_eq_true_eq, eq_int, eq_str, Option.map_none, Mi.add_int, Mi.add_str0, Mi.add_tup0, opSub, opNeg, cmpI, opIs, opIsNot, biInt, biAbs, isN, atI_0, atI_1, atI_2, atI_3, Mi.ix_tup, Mi.ix_fro, Out.seq_nx, Out.seq_rt, truD, List.set_set, tgSet, if_true, if_false, List.length_cons, List.length_nil, Nat.zero_add, Nat.reduceAdd, Nat.reduceLeDiff, Bool.false_eq_true, eq_self, decide_true, decide_false, Bool.not_true, Bool.not_false, Int.reduceNeg])
    rw [gc_id rfl]
    exact ⟨rfl, rfl⟩
theorem same_int {k : Nat} {i : Int} {st : Store} : callK T (k + 1) i_l_law_same [.int i, .int i] st = .ok (.bl true) st := by
  apply eq_of_wp
  refine call_wp (env := [some (.int i), some (.int i), none]) T_l_law_same rfl rfl ?_
  rw [fb_l_law_same, b_l_law_same]
  refine seq_wp (sIf_t ?_)
  (try simp only [eV, eC, eBin, eUn, aNil, aCons, eTup, eLst, eBi, eMeth, tTru, Mi.tCmp, Mi.tAnd, Mi.tOr, Mi.tNot, eAnd, eOr, eNot, eIf, eChain, tOf, oNo, oSo, eSl, eCall, eIs, sSet, sExpr, sRet, sRetN, sNil, sAsg, sPut, sBrk, sCnt, tTrue, wp_bind, wp_ok, wps_nx, wps_rt, wps_bk, wps_ct, wps_toOut, Rs.bind_ok, Rs.ofO_some, Option.map_some, isB, List.getElem?_cons_zero, List.getElem?_cons_succ, List.set_cons_zero, List.set_cons_succ, decide_eq_true_eq, eq_int, eq_str, Option.map_none, Mi.add_int, Mi.add_str0, Mi.add_tup0, opSub, opNeg, cmpI, opIs, opIsNot, biInt, biAbs, isN, atI_0, atI_1, atI_2, atI_3, Mi.ix_tup, Mi.ix_fro, Out.seq_nx, Out.seq_rt, truD, List.set_set, tgSet, if_true, if_false, List.length_cons, List.length_nil, Nat.zero_add, Nat.reduceAdd, Nat.reduceLeDiff, Bool.false_eq_true, eq_self, decide_true, decide_false, Bool.not_true, Bool.not_false, Int.reduceNeg, Bool.not_true, Bool.not_false])
  refine seq_wp (sIf_t ?_)
  (try simp only [eV, eC, eBin, eUn, aNil, aCons, eTup, eLst, eBi, eMeth, tTru, Mi.tCmp, Mi.tAnd, Mi.tOr, Mi.tNot, eAnd, eOr, eNot, eIf, eChain, tOf, oNo, oSo, eSl, eCall, eIs, sSet, sExpr, sRet, sRetN, sNil, sAsg, sPut, sBrk, sCnt, tTrue, wp_bind, wp_ok, wps_nx, wps_rt, wps_bk, wps_ct, wps_toOut, Rs.bind_ok, Rs.ofO_some, Option.map_some, isB, List.getElem?_cons_zero, List.getElem?_cons_succ, List.set_cons_zero, List.set_cons_succ, decide_eq_true_eq, eq_int, eq_str, Option.map_none, Mi.add_int, Mi.add_str0, Mi.add_tup0, opSub, opNeg, cmpI, opIs, opIsNot, biInt, biAbs, isN, atI_0, atI_1, atI_2, atI_3, Mi.ix_tup, Mi.ix_fro, Out.seq_nx, Out.seq_rt, truD, List.set_set, tgSet, if_true, if_false, List.length_cons, List.length_nil, Nat.zero_add, Nat.reduceAdd, Nat.reduceLeDiff, Bool.false_eq_true, eq_self, decide_true, decide_false, Bool.not_true, Bool.not_false, Int.reduceNeg, is_tup_int])
  refine seq_wp (sIf_t ?_)
  (try simp only [eV, eC, eBin, eUn, aNil, aCons, eTup, eLst, eBi, eMeth, tTru, Mi.tCmp, Mi.tAnd, Mi.tOr, Mi.tNot, eAnd, eOr, eNot, eIf, eChain, tOf, oNo, oSo, eSl, eCall, eIs, sSet, sExpr, sRet, sRetN, sNil, sAsg, sPut, sBrk, sCnt, tTrue, wp_bind, wp_ok, wps_nx, wps_rt, wps_bk, wps_ct, wps_toOut, Rs.bind_ok, Rs.ofO_some, Option.map_some, isB, List.getElem?_cons_zero, List.getElem?_cons_succ, List.set_cons_zero, List.set_cons_succ, decide_eq_true_eq, eq_int, eq_str, Option.map_none, Mi.add_int, Mi.add_str0, Mi.add_tup0, opSub, opNeg, cmpI, opIs, opIsNot, biInt, biAbs, isN, atI_0, atI_1, atI_2, atI_3, Mi.ix_tup, Mi.ix_fro, Out.seq_nx, Out.seq_rt, truD, List.set_set, tgSet, if_true, if_false, List.length_cons, List.length_nil, Nat.zero_add, Nat.reduceAdd, Nat.reduceLeDiff, Bool.false_eq_true, eq_self, decide_true, decide_false, Bool.not_true, Bool.not_false, Int.reduceNeg, is_int_int, is_bool_int, Bool.not_true, Bool.not_false])
  rw [gc_id rfl]
  exact ⟨rfl, rfl⟩
theorem same_str {k : Nat} {i : Str} {st : Store} : callK T (k + 1) i_l_law_same [.str i, .str i] st = .ok (.bl true) st := by
  apply eq_of_wp
  refine call_wp (env := [some (.str i), some (.str i), none]) T_l_law_same rfl rfl ?_
  rw [fb_l_law_same, b_l_law_same]
  refine seq_wp (sIf_t ?_)
  (try simp only [eV, eC, eBin, eUn, aNil, aCons, eTup, eLst, eBi, eMeth, tTru, Mi.tCmp, Mi.tAnd, Mi.tOr, Mi.tNot, eAnd, eOr, eNot, eIf, eChain, tOf, oNo, oSo, eSl, eCall, eIs, sSet, sExpr, sRet, sRetN, sNil, sAsg, sPut, sBrk, sCnt, tTrue, wp_bind, wp_ok, wps_nx, wps_rt, wps_bk, wps_ct, wps_toOut, Rs.bind_ok, Rs.ofO_some, Option.map_some, isB, List.getElem?_cons_zero, List.getElem?_cons_succ, List.set_cons_zero, List.set_cons_succ, decide_eq_true_eq, eq_int, eq_str, Option.map_none, Mi.add_int, Mi.add_str0, Mi.add_tup0, opSub, opNeg, cmpI, opIs, opIsNot, biInt, biAbs, isN, atI_0, atI_1, atI_2, atI_3, Mi.ix_tup, Mi.ix_fro, Out.seq_nx, Out.seq_rt, truD, List.set_set, tgSet, if_true, if_false, List.length_cons, List.length_nil, Nat.zero_add, Nat.reduceAdd, Nat.reduceLeDiff, Bool.false_eq_true, eq_self, decide_true, decide_false, Bool.not_true, Bool.not_false, Int.reduceNeg, Bool.not_true, Bool.not_false])
  refine seq_wp (sIf_t ?_)
  (try simp only [eV, eC, eBin, eUn, aNil, aCons, eTup, eLst, eBi, eMeth, tTru, Mi.tCmp, Mi.tAnd, Mi.tOr, Mi.tNot, eAnd, eOr, eNot, eIf, eChain, tOf, oNo, oSo, eSl, eCall, eIs, sSet, sExpr, sRet, sRetN, sNil, sAsg, sPut, sBrk, sCnt, tTrue, wp_bind, wp_ok, wps_nx, wps_rt, wps_bk, wps_ct, wps_toOut, Rs.bind_ok, Rs.ofO_some, Option.map_some, isB, List.getElem?_cons_zero, List.getElem?_cons_succ, List.set_cons_zero, List.set_cons_succ, decide_eq_true_eq, eq_int, eq_str, Option.map_none, Mi.add_int, Mi.add_str0, Mi.add_tup0, opSub, opNeg, cmpI, opIs, opIsNot, biInt, biAbs, isN, atI_0, atI_1, atI_2, atI_3, Mi.ix_tup, Mi.ix_fro, Out.seq_nx, Out.seq_rt, truD, List.set_set, tgSet, if_true, if_false, List.length_cons, List.length_nil, Nat.zero_add, Nat.reduceAdd, Nat.reduceLeDiff, Bool.false_eq_true, eq_self, decide_true, decide_false, Bool.not_true, Bool.not_false, Int.reduceNeg, is_tup_str])
  refine seq_wp (sIf_t ?_)
  (try simp only [eV, eC, eBin, eUn, aNil, aCons, eTup, eLst, eBi, eMeth, tTru, Mi.tCmp, Mi.tAnd, Mi.tOr, Mi.tNot, eAnd, eOr, eNot, eIf, eChain, tOf, oNo, oSo, eSl, eCall, eIs, sSet, sExpr, sRet, sRetN, sNil, sAsg, sPut, sBrk, sCnt, tTrue, wp_bind, wp_ok, wps_nx, wps_rt, wps_bk, wps_ct, wps_toOut, Rs.bind_ok, Rs.ofO_some, Option.map_some, isB, List.getElem?_cons_zero, List.getElem?_cons_succ, List.set_cons_zero, List.set_cons_succ, decide_eq_true_eq, eq_int, eq_str, Option.map_none, Mi.add_int, Mi.add_str0, Mi.add_tup0, opSub, opNeg, cmpI, opIs, opIsNot, biInt, biAbs, isN, atI_0, atI_1, atI_2, atI_3, Mi.ix_tup, Mi.ix_fro, Out.seq_nx, Out.seq_rt, truD, List.set_set, tgSet, if_true, if_false, List.length_cons, List.length_nil, Nat.zero_add, Nat.reduceAdd, Nat.reduceLeDiff, Bool.false_eq_true, eq_self, decide_true, decide_false, Bool.not_true, Bool.not_false, Int.reduceNeg, is_int_str, is_str_str, Bool.not_true, Bool.not_false])
  rw [gc_id rfl]
  exact ⟨rfl, rfl⟩
theorem same_non {k : Nat} {st : Store} : callK T (k + 1) i_l_law_same [.non, .non] st = .ok (.bl true) st := by
  apply eq_of_wp
  refine call_wp (env := [some .non, some .non, none]) T_l_law_same rfl rfl ?_
  rw [fb_l_law_same, b_l_law_same]
  refine seq_wp (sIf_t ?_)
  (try simp only [eV, eC, eBin, eUn, aNil, aCons, eTup, eLst, eBi, eMeth, tTru, Mi.tCmp, Mi.tAnd, Mi.tOr, Mi.tNot, eAnd, eOr, eNot, eIf, eChain, tOf, oNo, oSo, eSl, eCall, eIs, sSet, sExpr, sRet, sRetN, sNil, sAsg, sPut, sBrk, sCnt, tTrue, wp_bind, wp_ok, wps_nx, wps_rt, wps_bk, wps_ct, wps_toOut, Rs.bind_ok, Rs.ofO_some, Option.map_some, isB, List.getElem?_cons_zero, List.getElem?_cons_succ, List.set_cons_zero, List.set_cons_succ, decide_eq_true_eq, eq_int, eq_str, Option.map_none, Mi.add_int, Mi.add_str0, Mi.add_tup0, opSub, opNeg, cmpI, opIs, opIsNot, biInt, biAbs, isN, atI_0, atI_1, atI_2, atI_3, Mi.ix_tup, Mi.ix_fro, Out.seq_nx, Out.seq_rt, truD, List.set_set, tgSet, if_true, if_false, List.length_cons, List.length_nil, Nat.zero_add, Nat.reduceAdd, Nat.reduceLeDiff, Bool.false_eq_true, eq_self, decide_true, decide_false, Bool.not_true, Bool.not_false, Int.reduceNeg, Bool.not_true, Bool.not_false])
  rw [gc_id rfl]
  exact ⟨rfl, rfl⟩
theorem same_spec : ∀ (n k : Nat) (d : D) (st : Store), Mi.plain d = true → dep d ≤ n → n + 1 ≤ k → callK T k i_l_law_same [d, d] st = .ok (.bl true) st
  | n, 0, _, _, _, _, h => by omega
  | n, k + 1, .non, st, _, _, _ => same_non
  | n, k + 1, .int i, st, _, _, _ => same_int
  | n, k + 1, .str i, st, _, _, _ => same_str
  | n, k + 1, .bl i, st, h, _, _ => by unfold Mi.plain at h; cases h
  | n, k + 1, .fro i, st, h, _, _ => by unfold Mi.plain at h; cases h
  | n, k + 1, .adr i, st, h, _, _ => by unfold Mi.plain at h; cases h
  | 0, k + 1, .tup xs, st, _, hd, _ => by unfold dep at hd; omega
  | n + 1, k + 1, .tup xs, st, hp, hd, hk => by
    unfold dep at hd
    unfold Mi.plain at hp
    rw [Bool.and_eq_true] at hp
    exact same_tup (of_decide_eq_true hp.2) fun x hm => same_spec n k x st (Mi.plains_mem hp.1 hm) (by have := deps_mem hm; omega) (by omega)
theorem heads_step {k : Nat} {h : Hd} {ts : List Tm} {st : Store} (hs : Tm.sizes ts + 1 ≤ sizeLine) (ih : ∀ t ∈ ts, ∀ s, callK T k i_l_law_heads [t.d] s = .ok (.adr s.length) (s ++ [.lst (t.hds.map Hd.d)])) : callK T (k + 1) i_l_law_heads [(Tm.mk h ts).d] st = .ok (.adr st.length) (st ++ [.lst ((Tm.mk h ts).hds.map Hd.d)]) := by
  apply eq_of_wp
  refine call_wp (env := [some (Tm.mk h ts).d, none, none]) T_l_law_heads rfl rfl ?_
  rw [fb_l_law_heads, b_l_law_heads]
  refine seq_wp ?_
  (try simp only [eV, eC, eBin, eUn, aNil, aCons, eTup, eLst, eBi, eMeth, tTru, Mi.tCmp, Mi.tAnd, Mi.tOr, Mi.tNot, eAnd, eOr, eNot, eIf, eChain, tOf, oNo, oSo, eSl, eCall, eIs, sSet, sExpr, sRet, sRetN, sNil, sAsg, sPut, sBrk, sCnt, tTrue, wp_bind, wp_ok, wps_nx, wps_rt, wps_bk, wps_ct, wps_toOut, Rs.bind_ok, Rs.ofO_some, Option.map_some, isB, List.getElem?_cons_zero, List.getElem?_cons_succ, List.set_cons_zero, List.set_cons_succ, decide_eq_true_eq, eq_int, eq_str, Option.map_none, Mi.add_int, Mi.add_str0, Mi.add_tup0, opSub, opNeg, cmpI, opIs, opIsNot, biInt, biAbs, isN, atI_0, atI_1, atI_2, atI_3, Mi.ix_tup, Mi.ix_fro, Out.seq_nx, Out.seq_rt, truD, List.set_set, tgSet, if_true, if_false, List.length_cons, List.length_nil, Nat.zero_add, Nat.reduceAdd, Nat.reduceLeDiff, Bool.false_eq_true, eq_self, decide_true, decide_false, Bool.not_true, Bool.not_false, Int.reduceNeg, Tm.d_mk])
  refine seq_mid (I := fun env s => ∃ x y, env = [x, some (.adr st.length), y] ∧ Old st s ∧ lstAt s st.length = some ((h :: Tm.hdss ts).map Hd.d)) (sFor_wp ?_) ?_
  · rw [src_tup (xs := Tm.ds ts) (st' := st ++ [.lst [h.d]]) (by (try simp only [eV, eC, eBin, eUn, aNil, aCons, eTup, eLst, eBi, eMeth, tTru, Mi.tCmp, Mi.tAnd, Mi.tOr, Mi.tNot, eAnd, eOr, eNot, eIf, eChain, tOf, oNo, oSo, eSl, eCall, eIs, sSet, sExpr, sRet, sRetN, sNil, sAsg, sPut, sBrk, sCnt, tTrue, wp_bind, wp_ok, wps_nx, wps_rt, wps_bk, wps_ct, wps_toOut, Rs.bind_ok, Rs.ofO_some, Option.map_some, isB, List.getElem?_cons_zero, List.getElem?_cons_succ, List.set_cons_zero, List.set_cons_succ, decide_eq_true_eq, eq_int, eq_str, Option.map_none, Mi.add_int, Mi.add_str0, Mi.add_tup0, opSub, opNeg, cmpI, opIs, opIsNot, biInt, biAbs, isN, atI_0, atI_1, atI_2, atI_3, Mi.ix_tup, Mi.ix_fro, Out.seq_nx, Out.seq_rt, truD, List.set_set, tgSet, if_true, if_false, List.length_cons, List.length_nil, Nat.zero_add, Nat.reduceAdd, Nat.reduceLeDiff, Bool.false_eq_true, eq_self, decide_true, decide_false, Bool.not_true, Bool.not_false, Int.reduceNeg])), wp_ok]
    refine forL_wp (g := none) (I := fun ys env s => ∃ dn rs y, ts = dn ++ rs ∧ ys = Tm.ds rs ∧ env = [some (.tup [h.d, .tup (Tm.ds ts)]), some (.adr st.length), y] ∧ Old st s ∧ lstAt s st.length = some ((h :: Tm.hdss dn).map Hd.d)) (fun _ _ _ _ => trivial) ?_ ?_ _ _ _ ⟨[], ts, none, rfl, rfl, rfl, Old.app _ _, by rw [lst_new, Tm.hdss_nil]; rfl⟩
    · rintro x xs _ s ⟨dn, rs, y, e1, e2, rfl, o, q⟩
      cases rs with
      | nil => rw [Tm.ds_nil] at e2; cases e2
      | cons t rs =>
        rw [Tm.ds_cons] at e2
        obtain ⟨e3, e4⟩ := List.cons.inj e2
        subst e3 e4
        refine ⟨_, rfl, ?_⟩
        have e5 := ih t (by rw [e1]; simp) s
        have q2 : lstAt (s ++ [O.lst (t.hds.map Hd.d)]) st.length = some ((h :: Tm.hdss dn).map Hd.d) := lst_app q
        have sz : ((h :: Tm.hdss dn).map Hd.d).length + (t.hds.map Hd.d).length ≤ sizeLine := by
          rw [List.length_map, List.length_map, List.length_cons, Tm.hdss_len, Tm.hds_len]
          rw [e1, Tm.sizes_app, Tm.sizes_cons] at hs
          omega
        (try simp only [eV, eC, eBin, eUn, aNil, aCons, eTup, eLst, eBi, eMeth, tTru, Mi.tCmp, Mi.tAnd, Mi.tOr, Mi.tNot, eAnd, eOr, eNot, eIf, eChain, tOf, oNo, oSo, eSl, eCall, eIs, sSet, sExpr, sRet, sRetN, sNil, sAsg, sPut, sBrk, sCnt, tTrue, wp_bind, wp_ok, wps_nx, wps_rt, wps_bk, wps_ct, wps_toOut, Rs.bind_ok, Rs.ofO_some, Option.map_some, isB, List.getElem?_cons_zero, List.getElem?_cons_succ, List.set_cons_zero, List.set_cons_succ, decide_eq_true_eq, eq_int, eq_str, Option.map_none, Mi.add_int, Mi.add_str0, Mi.add_tup0, opSub, opNeg, cmpI, opIs, opIsNot, biInt, biAbs, isN, atI_0, atI_1, atI_2, atI_3, Mi.ix_tup, Mi.ix_fro, Out.seq_nx, Out.seq_rt, truD, List.set_set, tgSet, if_true, if_false, List.length_cons, List.length_nil, Nat.zero_add, Nat.reduceAdd, Nat.reduceLeDiff, Bool.false_eq_true, eq_self, decide_true, decide_false, Bool.not_true, Bool.not_false, Int.reduceNeg, ty_lst q, e5, ext_lst q2 lst_new sz])
        refine ⟨dn ++ [t], rs, _, by rw [e1]; simp, rfl, rfl, (o.trans (Old.app _ _)).set (Nat.le_refl _), ?_⟩
        rw [lst_set (lst_lt q2), Tm.hdss_app, Tm.hdss_cons, Tm.hdss_nil]
        simp
    · rintro _ s ⟨dn, rs, y, e1, e2, rfl, o, q⟩
      cases rs with
      | nil => rw [List.append_nil] at e1; subst e1; exact ⟨_, _, rfl, o, q⟩
      | cons t rs => rw [Tm.ds_cons] at e2; cases e2
  · rintro _ s ⟨x, y, rfl, o, q⟩
    (try simp only [eV, eC, eBin, eUn, aNil, aCons, eTup, eLst, eBi, eMeth, tTru, Mi.tCmp, Mi.tAnd, Mi.tOr, Mi.tNot, eAnd, eOr, eNot, eIf, eChain, tOf, oNo, oSo, eSl, eCall, eIs, sSet, sExpr, sRet, sRetN, sNil, sAsg, sPut, sBrk, sCnt, tTrue, wp_bind, wp_ok, wps_nx, wps_rt, wps_bk, wps_ct, wps_toOut, Rs.bind_ok, Rs.ofO_some, Option.map_some, isB, List.getElem?_cons_zero, List.getElem?_cons_succ, List.set_cons_zero, List.set_cons_succ, decide_eq_true_eq, eq_int, eq_str, Option.map_none, Mi.add_int, Mi.add_str0, Mi.add_tup0, opSub, opNeg, cmpI, opIs, opIsNot, biInt, biAbs, isN, atI_0, atI_1, atI_2, atI_3, Mi.ix_tup, Mi.ix_fro, Out.seq_nx, Out.seq_rt, truD, List.set_set, tgSet, if_true, if_false, List.length_cons, List.length_nil, Nat.zero_add, Nat.reduceAdd, Nat.reduceLeDiff, Bool.false_eq_true, eq_self, decide_true, decide_false, Bool.not_true, Bool.not_false, Int.reduceNeg])
    rw [o.gcn (Nat.le_refl _) (lstAt_iff.mp q) (noas_hd (h :: Tm.hdss ts)), Tm.hds_mk]
    exact ⟨rfl, rfl⟩
theorem heads_spec : ∀ (k : Nat) (t : Tm) (st : Store), t.size ≤ sizeLine → t.depth ≤ k → callK T k i_l_law_heads [t.d] st = .ok (.adr st.length) (st ++ [.lst (t.hds.map Hd.d)])
  | 0, .mk h ts, st, _, hd => by rw [Tm.depth_mk] at hd; omega
  | k + 1, .mk h ts, st, hs, hd => by
    rw [Tm.depth_mk] at hd
    rw [Tm.size_mk] at hs
    exact heads_step hs fun t ht s => heads_spec k t s (by have := Tm.size_mem ht; omega) (by have := Tm.depth_mem ht; omega)
/-! ### law k03 -/
theorem nm_rd {l : Bool} {x : Str} (h : NmOk l x) : nameL x.cps.toList = true := by
  obtain ⟨c, cs, rfl, hl, hc, hs⟩ := h
  have ch : ∀ d ∈ chrS, capL d ∨ digL d := by decide +kernel
  have cu : ∀ d ∈ uppS, capL d := by decide +kernel
  have cl : ∀ d ∈ lowS, capL d := by decide +kernel
  have hcap : capL c := by
    cases l with
    | true => exact cu c hc
    | false => exact cl c hc
  show nameL (c :: cs) = true
  rw [nameL_cons, decide_eq_true hl, decide_eq_true hcap, Bool.true_and, Bool.true_and, List.all_eq_true]
  intro d hd
  rcases List.mem_cons.mp hd with rfl | hd
  · rw [decide_eq_true hcap]; rfl
  · rcases ch d (hs d hd) with z | z
    · rw [decide_eq_true z]; rfl
    · rw [decide_eq_true z]; simp
theorem hd_rd (h : Hd) (g : HdOk h) : RdH h := by
  cases h with
  | i v => exact g
  | s x => obtain ⟨l, g⟩ := g; exact nm_rd g
theorem rd_int (h : Hd) (g : RdH h) : IntH h := by
  cases h with
  | s x => trivial
  | i v =>
    show v.natAbs.log2 < 1920
    have : v.natAbs < 2 ^ 14 := by have := g.1; have := g.2; omega
    by_cases hz : v.natAbs = 0
    · rw [hz]; decide
    · exact Nat.lt_trans ((Nat.log2_lt hz).mpr this) (by decide)
theorem law_any (ns : List Int) (hl : ns.length ≤ 63) (k : Nat) (hk : 500 ≤ k) : ∃ st, callK T (k + 1) i_law [.fro (ns.map D.int)] [] = .ok (.bl true) st := by
  have w : (callK T (k + 1) i_law [.fro (ns.map D.int)] []).wp (fun d _ => d = .bl true) NoX := by
    refine call_wp (env := [some (.fro (ns.map .int)), none, none, none, none, none, none]) T_law rfl rfl ?_
    rw [fb_law, b_law]
    refine seq_wp ?_
    (try simp only [eV, eC, eBin, eUn, aNil, aCons, eTup, eLst, eBi, eMeth, tTru, Mi.tCmp, Mi.tAnd, Mi.tOr, Mi.tNot, eAnd, eOr, eNot, eIf, eChain, tOf, oNo, oSo, eSl, eCall, eIs, sSet, sExpr, sRet, sRetN, sNil, sAsg, sPut, sBrk, sCnt, tTrue, wp_bind, wp_ok, wps_nx, wps_rt, wps_bk, wps_ct, wps_toOut, Rs.bind_ok, Rs.ofO_some, Option.map_some, isB, List.getElem?_cons_zero, List.getElem?_cons_succ, List.set_cons_zero, List.set_cons_succ, decide_eq_true_eq, eq_int, eq_str, Option.map_none, Mi.add_int, Mi.add_str0, Mi.add_tup0, opSub, opNeg, cmpI, opIs, opIsNot, biInt, biAbs, isN, atI_0, atI_1, atI_2, atI_3, Mi.ix_tup, Mi.ix_fro, Out.seq_nx, Out.seq_rt, truD, List.set_set, tgSet, if_true, if_false, List.length_cons, List.length_nil, Nat.zero_add, Nat.reduceAdd, Nat.reduceLeDiff, Bool.false_eq_true, eq_self, decide_true, decide_false, Bool.not_true, Bool.not_false, Int.reduceNeg])
    have g0 : StG 0 ([] ++ [O.lst [D.int 0, D.int 0, D.int 1, D.int 0]]) 0 := ⟨0, 0, 1, rfl, by decide, by decide, by decide⟩
    refine seq_wp ?_
    obtain ⟨hs, s1, e1, d1, l1, p1⟩ := pool_spec (k := k) (ns := ns) (by omega) g0
    have e1' : callK T k i_l_law_pool [.adr 0, .fro (ns.map D.int)] ([] ++ [O.lst [D.int 0, D.int 0, D.int 1, D.int 0]]) = .ok (.adr 1) s1 := e1
    (try simp only [eV, eC, eBin, eUn, aNil, aCons, eTup, eLst, eBi, eMeth, tTru, Mi.tCmp, Mi.tAnd, Mi.tOr, Mi.tNot, eAnd, eOr, eNot, eIf, eChain, tOf, oNo, oSo, eSl, eCall, eIs, sSet, sExpr, sRet, sRetN, sNil, sAsg, sPut, sBrk, sCnt, tTrue, wp_bind, wp_ok, wps_nx, wps_rt, wps_bk, wps_ct, wps_toOut, Rs.bind_ok, Rs.ofO_some, Option.map_some, isB, List.getElem?_cons_zero, List.getElem?_cons_succ, List.set_cons_zero, List.set_cons_succ, decide_eq_true_eq, eq_int, eq_str, Option.map_none, Mi.add_int, Mi.add_str0, Mi.add_tup0, opSub, opNeg, cmpI, opIs, opIsNot, biInt, biAbs, isN, atI_0, atI_1, atI_2, atI_3, Mi.ix_tup, Mi.ix_fro, Out.seq_nx, Out.seq_rt, truD, List.set_set, tgSet, if_true, if_false, List.length_cons, List.length_nil, Nat.zero_add, Nat.reduceAdd, Nat.reduceLeDiff, Bool.false_eq_true, eq_self, decide_true, decide_false, Bool.not_true, Bool.not_false, Int.reduceNeg, e1'])
    refine seq_mid (I := fun _ _ => True) ?_ ?_
    · refine for_wp (as := List.range 3) (enc := fun (i : Nat) => .int (i : Int)) (g := none) (st0 := s1) (fun _ _ env s => ∃ (b : Int) (y z u v : Option D), env = [some (.fro (ns.map .int)), some (.adr 0), some (.adr 1), y, z, u, v] ∧ StG 0 s b ∧ Pool 0 1 hs s)
        (src_rng (j := 3) (by (try simp only [eV, eC, eBin, eUn, aNil, aCons, eTup, eLst, eBi, eMeth, tTru, Mi.tCmp, Mi.tAnd, Mi.tOr, Mi.tNot, eAnd, eOr, eNot, eIf, eChain, tOf, oNo, oSo, eSl, eCall, eIs, sSet, sExpr, sRet, sRetN, sNil, sAsg, sPut, sBrk, sCnt, tTrue, wp_bind, wp_ok, wps_nx, wps_rt, wps_bk, wps_ct, wps_toOut, Rs.bind_ok, Rs.ofO_some, Option.map_some, isB, List.getElem?_cons_zero, List.getElem?_cons_succ, List.set_cons_zero, List.set_cons_succ, decide_eq_true_eq, eq_int, eq_str, Option.map_none, Mi.add_int, Mi.add_str0, Mi.add_tup0, opSub, opNeg, cmpI, opIs, opIsNot, biInt, biAbs, isN, atI_0, atI_1, atI_2, atI_3, Mi.ix_tup, Mi.ix_fro, Out.seq_nx, Out.seq_rt, truD, List.set_set, tgSet, if_true, if_false, List.length_cons, List.length_nil, Nat.zero_add, Nat.reduceAdd, Nat.reduceLeDiff, Bool.false_eq_true, eq_self, decide_true, decide_false, Bool.not_true, Bool.not_false, Int.reduceNeg]); all_goals rfl) (by decide)) ⟨0, _, _, _, _, rfl, d1.ok, p1⟩ (fun n h => by cases h) ?_ (fun _ _ _ => trivial)
      rintro dn i rs _ s hd ⟨b, y, z, u, v, rfl, g, p⟩
      refine ⟨_, rfl, ?_⟩
      obtain ⟨t, s2, e2, r2⟩ := term_spec (k := k) (ns := ns) (most := 120) (by omega) (by decide) (by decide) g p
      obtain ⟨b2, d2⟩ := r2.dr
      have z2 := r2.sz
      refine seq_wp (set_of (d := t.d) (s := s2) (by (try simp only [eV, eC, eBin, eUn, aNil, aCons, eTup, eLst, eBi, eMeth, tTru, Mi.tCmp, Mi.tAnd, Mi.tOr, Mi.tNot, eAnd, eOr, eNot, eIf, eChain, tOf, oNo, oSo, eSl, eCall, eIs, sSet, sExpr, sRet, sRetN, sNil, sAsg, sPut, sBrk, sCnt, tTrue, wp_bind, wp_ok, wps_nx, wps_rt, wps_bk, wps_ct, wps_toOut, Rs.bind_ok, Rs.ofO_some, Option.map_some, isB, List.getElem?_cons_zero, List.getElem?_cons_succ, List.set_cons_zero, List.set_cons_succ, decide_eq_true_eq, eq_int, eq_str, Option.map_none, Mi.add_int, Mi.add_str0, Mi.add_tup0, opSub, opNeg, cmpI, opIs, opIsNot, biInt, biAbs, isN, atI_0, atI_1, atI_2, atI_3, Mi.ix_tup, Mi.ix_fro, Out.seq_nx, Out.seq_rt, truD, List.set_set, tgSet, if_true, if_false, List.length_cons, List.length_nil, Nat.zero_add, Nat.reduceAdd, Nat.reduceLeDiff, Bool.false_eq_true, eq_self, decide_true, decide_false, Bool.not_true, Bool.not_false, Int.reduceNeg, e2])) ?_)
      -- deep or not
      refine seq_mid (I := fun env s => ∃ (b : Int) (t : Tm), env = [some (.fro (ns.map .int)), some (.adr 0), some (.adr 1), some (.int (i : Nat)), some t.d, u, v] ∧ StG 0 s b ∧ Pool 0 1 hs s ∧ t.all HdOk ∧ t.size ≤ 240) ?_ ?_
      · obtain ⟨w1, s3, e3, d3, l3, a3, b3⟩ := pick_spec (k := k) (ns := ns) (by omega) 5 (by decide) (by decide) d2.ok
        by_cases h : w1 = 0
        · refine sIf_tt (s := s3) (by (try simp only [eV, eC, eBin, eUn, aNil, aCons, eTup, eLst, eBi, eMeth, tTru, Mi.tCmp, Mi.tAnd, Mi.tOr, Mi.tNot, eAnd, eOr, eNot, eIf, eChain, tOf, oNo, oSo, eSl, eCall, eIs, sSet, sExpr, sRet, sRetN, sNil, sAsg, sPut, sBrk, sCnt, tTrue, wp_bind, wp_ok, wps_nx, wps_rt, wps_bk, wps_ct, wps_toOut, Rs.bind_ok, Rs.ofO_some, Option.map_some, isB, List.getElem?_cons_zero, List.getElem?_cons_succ, List.set_cons_zero, List.set_cons_succ, decide_eq_true_eq, eq_int, eq_str, Option.map_none, Mi.add_int, Mi.add_str0, Mi.add_tup0, opSub, opNeg, cmpI, opIs, opIsNot, biInt, biAbs, isN, atI_0, atI_1, atI_2, atI_3, Mi.ix_tup, Mi.ix_fro, Out.seq_nx, Out.seq_rt, truD, List.set_set, tgSet, if_true, if_false, List.length_cons, List.length_nil, Nat.zero_add, Nat.reduceAdd, Nat.reduceLeDiff, Bool.false_eq_true, eq_self, decide_true, decide_false, Bool.not_true, Bool.not_false, Int.reduceNeg, e3, h])) ?_
          obtain ⟨w2, s4, e4, d4, l4, a4, b4⟩ := pick_spec (k := k) (ns := ns) (by omega) 60 (by decide) (by decide) d3.ok
          obtain ⟨t', s5, e5, r5⟩ := deep_spec (k := k) (ns := ns) (many := 40 + w2) (by omega) (by omega) (by omega) d4.ok (((p.dr d2).dr d3).dr d4)
          obtain ⟨b5, d5⟩ := r5.dr
          have z5 := r5.sz
          refine set_of (d := t'.d) (s := s5) (by (try simp only [eV, eC, eBin, eUn, aNil, aCons, eTup, eLst, eBi, eMeth, tTru, Mi.tCmp, Mi.tAnd, Mi.tOr, Mi.tNot, eAnd, eOr, eNot, eIf, eChain, tOf, oNo, oSo, eSl, eCall, eIs, sSet, sExpr, sRet, sRetN, sNil, sAsg, sPut, sBrk, sCnt, tTrue, wp_bind, wp_ok, wps_nx, wps_rt, wps_bk, wps_ct, wps_toOut, Rs.bind_ok, Rs.ofO_some, Option.map_some, isB, List.getElem?_cons_zero, List.getElem?_cons_succ, List.set_cons_zero, List.set_cons_succ, decide_eq_true_eq, eq_int, eq_str, Option.map_none, Mi.add_int, Mi.add_str0, Mi.add_tup0, opSub, opNeg, cmpI, opIs, opIsNot, biInt, biAbs, isN, atI_0, atI_1, atI_2, atI_3, Mi.ix_tup, Mi.ix_fro, Out.seq_nx, Out.seq_rt, truD, List.set_set, tgSet, if_true, if_false, List.length_cons, List.length_nil, Nat.zero_add, Nat.reduceAdd, Nat.reduceLeDiff, Bool.false_eq_true, eq_self, decide_true, decide_false, Bool.not_true, Bool.not_false, Int.reduceNeg, e4, e5])) ?_
          exact ⟨b5, t', rfl, d5.ok, (((p.dr d2).dr d3).dr d4).dr d5, r5.ok, by omega⟩
        · refine sIf_ff (s := s3) (by (try simp only [eV, eC, eBin, eUn, aNil, aCons, eTup, eLst, eBi, eMeth, tTru, Mi.tCmp, Mi.tAnd, Mi.tOr, Mi.tNot, eAnd, eOr, eNot, eIf, eChain, tOf, oNo, oSo, eSl, eCall, eIs, sSet, sExpr, sRet, sRetN, sNil, sAsg, sPut, sBrk, sCnt, tTrue, wp_bind, wp_ok, wps_nx, wps_rt, wps_bk, wps_ct, wps_toOut, Rs.bind_ok, Rs.ofO_some, Option.map_some, isB, List.getElem?_cons_zero, List.getElem?_cons_succ, List.set_cons_zero, List.set_cons_succ, decide_eq_true_eq, eq_int, eq_str, Option.map_none, Mi.add_int, Mi.add_str0, Mi.add_tup0, opSub, opNeg, cmpI, opIs, opIsNot, biInt, biAbs, isN, atI_0, atI_1, atI_2, atI_3, Mi.ix_tup, Mi.ix_fro, Out.seq_nx, Out.seq_rt, truD, List.set_set, tgSet, if_true, if_false, List.length_cons, List.length_nil, Nat.zero_add, Nat.reduceAdd, Nat.reduceLeDiff, Bool.false_eq_true, eq_self, decide_true, decide_false, Bool.not_true, Bool.not_false, Int.reduceNeg, e3, h])) ?_
          rw [sNil, wps_nx]
          exact ⟨_, t, rfl, d3.ok, (p.dr d2).dr d3, r2.ok, by omega⟩
      rintro _ s3 ⟨b3, t3, rfl, g3, p3, k3, z3⟩
      refine seq_mid (I := fun env s => ∃ (b : Int) (t : Tm), env = [some (.fro (ns.map .int)), some (.adr 0), some (.adr 1), some (.int (i : Nat)), some t.d, u, v] ∧ StG 0 s b ∧ Pool 0 1 hs s ∧ t.all HdOk ∧ t.size ≤ 240) ?_ ?_
      · obtain ⟨w1, s4, e4, d4, l4, a4, b4⟩ := pick_spec (k := k) (ns := ns) (by omega) 5 (by decide) (by decide) g3
        by_cases h : w1 = 0
        · refine sIf_tt (s := s4) (by (try simp only [eV, eC, eBin, eUn, aNil, aCons, eTup, eLst, eBi, eMeth, tTru, Mi.tCmp, Mi.tAnd, Mi.tOr, Mi.tNot, eAnd, eOr, eNot, eIf, eChain, tOf, oNo, oSo, eSl, eCall, eIs, sSet, sExpr, sRet, sRetN, sNil, sAsg, sPut, sBrk, sCnt, tTrue, wp_bind, wp_ok, wps_nx, wps_rt, wps_bk, wps_ct, wps_toOut, Rs.bind_ok, Rs.ofO_some, Option.map_some, isB, List.getElem?_cons_zero, List.getElem?_cons_succ, List.set_cons_zero, List.set_cons_succ, decide_eq_true_eq, eq_int, eq_str, Option.map_none, Mi.add_int, Mi.add_str0, Mi.add_tup0, opSub, opNeg, cmpI, opIs, opIsNot, biInt, biAbs, isN, atI_0, atI_1, atI_2, atI_3, Mi.ix_tup, Mi.ix_fro, Out.seq_nx, Out.seq_rt, truD, List.set_set, tgSet, if_true, if_false, List.length_cons, List.length_nil, Nat.zero_add, Nat.reduceAdd, Nat.reduceLeDiff, Bool.false_eq_true, eq_self, decide_true, decide_false, Bool.not_true, Bool.not_false, Int.reduceNeg, e4, h])) ?_
          obtain ⟨w2, s5, e5, d5, l5, a5, b5⟩ := pick_spec (k := k) (ns := ns) (by omega) 112 (by decide) (by decide) d4.ok
          obtain ⟨t', s6, e6, r6⟩ := chain_spec (k := k) (ns := ns) (many := 90 + w2) (by omega) (by omega) (by omega) d5.ok ((p3.dr d4).dr d5)
          obtain ⟨b6, d6⟩ := r6.dr
          have z6 := r6.sz
          refine set_of (d := t'.d) (s := s6) (by (try simp only [eV, eC, eBin, eUn, aNil, aCons, eTup, eLst, eBi, eMeth, tTru, Mi.tCmp, Mi.tAnd, Mi.tOr, Mi.tNot, eAnd, eOr, eNot, eIf, eChain, tOf, oNo, oSo, eSl, eCall, eIs, sSet, sExpr, sRet, sRetN, sNil, sAsg, sPut, sBrk, sCnt, tTrue, wp_bind, wp_ok, wps_nx, wps_rt, wps_bk, wps_ct, wps_toOut, Rs.bind_ok, Rs.ofO_some, Option.map_some, isB, List.getElem?_cons_zero, List.getElem?_cons_succ, List.set_cons_zero, List.set_cons_succ, decide_eq_true_eq, eq_int, eq_str, Option.map_none, Mi.add_int, Mi.add_str0, Mi.add_tup0, opSub, opNeg, cmpI, opIs, opIsNot, biInt, biAbs, isN, atI_0, atI_1, atI_2, atI_3, Mi.ix_tup, Mi.ix_fro, Out.seq_nx, Out.seq_rt, truD, List.set_set, tgSet, if_true, if_false, List.length_cons, List.length_nil, Nat.zero_add, Nat.reduceAdd, Nat.reduceLeDiff, Bool.false_eq_true, eq_self, decide_true, decide_false, Bool.not_true, Bool.not_false, Int.reduceNeg, e5, e6])) ?_
          exact ⟨b6, t', rfl, d6.ok, ((p3.dr d4).dr d5).dr d6, r6.ok, by omega⟩
        · refine sIf_ff (s := s4) (by (try simp only [eV, eC, eBin, eUn, aNil, aCons, eTup, eLst, eBi, eMeth, tTru, Mi.tCmp, Mi.tAnd, Mi.tOr, Mi.tNot, eAnd, eOr, eNot, eIf, eChain, tOf, oNo, oSo, eSl, eCall, eIs, sSet, sExpr, sRet, sRetN, sNil, sAsg, sPut, sBrk, sCnt, tTrue, wp_bind, wp_ok, wps_nx, wps_rt, wps_bk, wps_ct, wps_toOut, Rs.bind_ok, Rs.ofO_some, Option.map_some, isB, List.getElem?_cons_zero, List.getElem?_cons_succ, List.set_cons_zero, List.set_cons_succ, decide_eq_true_eq, eq_int, eq_str, Option.map_none, Mi.add_int, Mi.add_str0, Mi.add_tup0, opSub, opNeg, cmpI, opIs, opIsNot, biInt, biAbs, isN, atI_0, atI_1, atI_2, atI_3, Mi.ix_tup, Mi.ix_fro, Out.seq_nx, Out.seq_rt, truD, List.set_set, tgSet, if_true, if_false, List.length_cons, List.length_nil, Nat.zero_add, Nat.reduceAdd, Nat.reduceLeDiff, Bool.false_eq_true, eq_self, decide_true, decide_false, Bool.not_true, Bool.not_false, Int.reduceNeg, e4, h])) ?_
          rw [sNil, wps_nx]
          exact ⟨_, t3, rfl, d4.ok, p3.dr d4, k3, z3⟩
      rintro _ s4 ⟨b4, t4, rfl, g4, p4, k4, z4⟩
      have key : ∀ t : Tm, t.all HdOk → t.size ≤ 240 → t.all RdH ∧ (wr t).length ≤ 4000 ∧ t.all IntH ∧ t.depth ≤ 240 := fun t ha hz => by
        have h1 := all_mono hd_rd t ha
        have := wr_small t h1
        have := t.depth_le
        exact ⟨h1, by omega, all_mono rd_int t h1, by omega⟩
      obtain ⟨q1, q2, q3, q4⟩ := key t4 k4 z4
      have e5 := lwritten_spec k t4 s4 (by omega) q3 (by omega)
      refine seq_wp (set_of (d := .str (SX.S (wr t4))) (s := s4) (by (try simp only [eV, eC, eBin, eUn, aNil, aCons, eTup, eLst, eBi, eMeth, tTru, Mi.tCmp, Mi.tAnd, Mi.tOr, Mi.tNot, eAnd, eOr, eNot, eIf, eChain, tOf, oNo, oSo, eSl, eCall, eIs, sSet, sExpr, sRet, sRetN, sNil, sAsg, sPut, sBrk, sCnt, tTrue, wp_bind, wp_ok, wps_nx, wps_rt, wps_bk, wps_ct, wps_toOut, Rs.bind_ok, Rs.ofO_some, Option.map_some, isB, List.getElem?_cons_zero, List.getElem?_cons_succ, List.set_cons_zero, List.set_cons_succ, decide_eq_true_eq, eq_int, eq_str, Option.map_none, Mi.add_int, Mi.add_str0, Mi.add_tup0, opSub, opNeg, cmpI, opIs, opIsNot, biInt, biAbs, isN, atI_0, atI_1, atI_2, atI_3, Mi.ix_tup, Mi.ix_fro, Out.seq_nx, Out.seq_rt, truD, List.set_set, tgSet, if_true, if_false, List.length_cons, List.length_nil, Nat.zero_add, Nat.reduceAdd, Nat.reduceLeDiff, Bool.false_eq_true, eq_self, decide_true, decide_false, Bool.not_true, Bool.not_false, Int.reduceNeg, e5])) ?_)
      refine seq_mid (I := fun env s => ∃ (t : Tm) (v : Option D), env = [some (.fro (ns.map .int)), some (.adr 0), some (.adr 1), some (.int (i : Nat)), some t.d, some (.str (SX.S (wr t))), v] ∧ s = s4 ∧ t.all HdOk ∧ t.size ≤ 240) ?_ ?_
      · refine for_wp (as := List.range 200) (enc := fun (i : Nat) => .int (i : Int)) (g := none) (st0 := s4) (fun _ _ env s => ∃ (t : Tm) (v : Option D), env = [some (.fro (ns.map .int)), some (.adr 0), some (.adr 1), some (.int (i : Nat)), some t.d, some (.str (SX.S (wr t))), v] ∧ s = s4 ∧ t.all HdOk ∧ t.size ≤ 240)
          (src_rng (j := 200) (by (try simp only [eV, eC, eBin, eUn, aNil, aCons, eTup, eLst, eBi, eMeth, tTru, Mi.tCmp, Mi.tAnd, Mi.tOr, Mi.tNot, eAnd, eOr, eNot, eIf, eChain, tOf, oNo, oSo, eSl, eCall, eIs, sSet, sExpr, sRet, sRetN, sNil, sAsg, sPut, sBrk, sCnt, tTrue, wp_bind, wp_ok, wps_nx, wps_rt, wps_bk, wps_ct, wps_toOut, Rs.bind_ok, Rs.ofO_some, Option.map_some, isB, List.getElem?_cons_zero, List.getElem?_cons_succ, List.set_cons_zero, List.set_cons_succ, decide_eq_true_eq, eq_int, eq_str, Option.map_none, Mi.add_int, Mi.add_str0, Mi.add_tup0, opSub, opNeg, cmpI, opIs, opIsNot, biInt, biAbs, isN, atI_0, atI_1, atI_2, atI_3, Mi.ix_tup, Mi.ix_fro, Out.seq_nx, Out.seq_rt, truD, List.set_set, tgSet, if_true, if_false, List.length_cons, List.length_nil, Nat.zero_add, Nat.reduceAdd, Nat.reduceLeDiff, Bool.false_eq_true, eq_self, decide_true, decide_false, Bool.not_true, Bool.not_false, Int.reduceNeg]); all_goals rfl) (by decide)) ⟨t4, _, rfl, rfl, k4, z4⟩ (fun n h => by cases h) ?_ (fun _ _ z => z)
        rintro dn2 j rs2 _ s hd2 ⟨t5, v5, rfl, hs5, k5, z5⟩
        rw [hs5]
        refine ⟨[some (.fro (ns.map .int)), some (.adr 0), some (.adr 1), some (.int (i : Nat)), some t5.d, some (.str (SX.S (wr t5))), some (.int (j : Nat))], rfl, ?_⟩
        obtain ⟨r1, r2', r3, r4⟩ := key t5 k5 z5
        have ln := len_S (l := wr t5) (st := s4) (by rw [PySem.sizeLine_eq]; omega)
        by_cases hb : 2000 < (wr t5).length
        · refine sIf_tt (s := s4) (by (try simp only [eV, eC, eBin, eUn, aNil, aCons, eTup, eLst, eBi, eMeth, tTru, Mi.tCmp, Mi.tAnd, Mi.tOr, Mi.tNot, eAnd, eOr, eNot, eIf, eChain, tOf, oNo, oSo, eSl, eCall, eIs, sSet, sExpr, sRet, sRetN, sNil, sAsg, sPut, sBrk, sCnt, tTrue, wp_bind, wp_ok, wps_nx, wps_rt, wps_bk, wps_ct, wps_toOut, Rs.bind_ok, Rs.ofO_some, Option.map_some, isB, List.getElem?_cons_zero, List.getElem?_cons_succ, List.set_cons_zero, List.set_cons_succ, decide_eq_true_eq, eq_int, eq_str, Option.map_none, Mi.add_int, Mi.add_str0, Mi.add_tup0, opSub, opNeg, cmpI, opIs, opIsNot, biInt, biAbs, isN, atI_0, atI_1, atI_2, atI_3, Mi.ix_tup, Mi.ix_fro, Out.seq_nx, Out.seq_rt, truD, List.set_set, tgSet, if_true, if_false, List.length_cons, List.length_nil, Nat.zero_add, Nat.reduceAdd, Nat.reduceLeDiff, Bool.false_eq_true, eq_self, decide_true, decide_false, Bool.not_true, Bool.not_false, Int.reduceNeg, ln, show (2000 : Int) < ((wr t5).length : Nat) by omega])) ?_
          cases t5 with
          | mk g ts =>
            cases ts with
            | nil =>
              exfalso
              rw [Tm.all_mk] at r1
              rw [wr_mk, wrs_nil, List.append_nil] at hb
              have := r1.1.len
              omega
            | cons t6 us =>
              rw [Tm.all_mk, Tm.alls_cons] at k5
              rw [Tm.size_mk, Tm.sizes_cons] at z5
              obtain ⟨m1, m2, m3, m4⟩ := key t6 k5.2.1 (by omega)
              have e6 := lwritten_spec k t6 s4 (by omega) m3 (by omega)
              have i1 : opIx (Tm.mk g (t6 :: us)).d (.int 1) s4 = some (.tup (t6.d :: Tm.ds us), s4) := by rw [Tm.d_mk, Tm.ds_cons]; rfl
              refine seq_wp (set_of (d := t6.d) (s := s4) (by (try simp only [eV, eC, eBin, eUn, aNil, aCons, eTup, eLst, eBi, eMeth, tTru, Mi.tCmp, Mi.tAnd, Mi.tOr, Mi.tNot, eAnd, eOr, eNot, eIf, eChain, tOf, oNo, oSo, eSl, eCall, eIs, sSet, sExpr, sRet, sRetN, sNil, sAsg, sPut, sBrk, sCnt, tTrue, wp_bind, wp_ok, wps_nx, wps_rt, wps_bk, wps_ct, wps_toOut, Rs.bind_ok, Rs.ofO_some, Option.map_some, isB, List.getElem?_cons_zero, List.getElem?_cons_succ, List.set_cons_zero, List.set_cons_succ, decide_eq_true_eq, eq_int, eq_str, Option.map_none, Mi.add_int, Mi.add_str0, Mi.add_tup0, opSub, opNeg, cmpI, opIs, opIsNot, biInt, biAbs, isN, atI_0, atI_1, atI_2, atI_3, Mi.ix_tup, Mi.ix_fro, Out.seq_nx, Out.seq_rt, truD, List.set_set, tgSet, if_true, if_false, List.length_cons, List.length_nil, Nat.zero_add, Nat.reduceAdd, Nat.reduceLeDiff, Bool.false_eq_true, eq_self, decide_true, decide_false, Bool.not_true, Bool.not_false, Int.reduceNeg, i1])) ?_)
              refine set_of (d := .str (SX.S (wr t6))) (s := s4) (by (try simp only [eV, eC, eBin, eUn, aNil, aCons, eTup, eLst, eBi, eMeth, tTru, Mi.tCmp, Mi.tAnd, Mi.tOr, Mi.tNot, eAnd, eOr, eNot, eIf, eChain, tOf, oNo, oSo, eSl, eCall, eIs, sSet, sExpr, sRet, sRetN, sNil, sAsg, sPut, sBrk, sCnt, tTrue, wp_bind, wp_ok, wps_nx, wps_rt, wps_bk, wps_ct, wps_toOut, Rs.bind_ok, Rs.ofO_some, Option.map_some, isB, List.getElem?_cons_zero, List.getElem?_cons_succ, List.set_cons_zero, List.set_cons_succ, decide_eq_true_eq, eq_int, eq_str, Option.map_none, Mi.add_int, Mi.add_str0, Mi.add_tup0, opSub, opNeg, cmpI, opIs, opIsNot, biInt, biAbs, isN, atI_0, atI_1, atI_2, atI_3, Mi.ix_tup, Mi.ix_fro, Out.seq_nx, Out.seq_rt, truD, List.set_set, tgSet, if_true, if_false, List.length_cons, List.length_nil, Nat.zero_add, Nat.reduceAdd, Nat.reduceLeDiff, Bool.false_eq_true, eq_self, decide_true, decide_false, Bool.not_true, Bool.not_false, Int.reduceNeg, e6])) ?_
              exact ⟨t6, _, rfl, rfl, k5.2.1, by omega⟩
        · refine sIf_ff (s := s4) (by (try simp only [eV, eC, eBin, eUn, aNil, aCons, eTup, eLst, eBi, eMeth, tTru, Mi.tCmp, Mi.tAnd, Mi.tOr, Mi.tNot, eAnd, eOr, eNot, eIf, eChain, tOf, oNo, oSo, eSl, eCall, eIs, sSet, sExpr, sRet, sRetN, sNil, sAsg, sPut, sBrk, sCnt, tTrue, wp_bind, wp_ok, wps_nx, wps_rt, wps_bk, wps_ct, wps_toOut, Rs.bind_ok, Rs.ofO_some, Option.map_some, isB, List.getElem?_cons_zero, List.getElem?_cons_succ, List.set_cons_zero, List.set_cons_succ, decide_eq_true_eq, eq_int, eq_str, Option.map_none, Mi.add_int, Mi.add_str0, Mi.add_tup0, opSub, opNeg, cmpI, opIs, opIsNot, biInt, biAbs, isN, atI_0, atI_1, atI_2, atI_3, Mi.ix_tup, Mi.ix_fro, Out.seq_nx, Out.seq_rt, truD, List.set_set, tgSet, if_true, if_false, List.length_cons, List.length_nil, Nat.zero_add, Nat.reduceAdd, Nat.reduceLeDiff, Bool.false_eq_true, eq_self, decide_true, decide_false, Bool.not_true, Bool.not_false, Int.reduceNeg, ln, show ¬ ((2000 : Int) < ((wr t5).length : Nat)) by omega])) ?_
          rw [sNil, wps_nx]
          exact ⟨t5, _, rfl, rfl, k5, z5⟩
      rintro _ s5 ⟨t5, v5, rfl, hs5, k5, z5⟩
      rw [hs5]
      obtain ⟨r1, r2', r3, r4⟩ := key t5 k5 z5
      have eh := heads_spec k t5 s4 (by rw [PySem.sizeLine_eq]; omega) (by omega)
      have g5 := g4.old (Old.app s4 [.lst (t5.hds.map Hd.d)])
      have p5 := p4.old (Old.app s4 [.lst (t5.hds.map Hd.d)])
      have ql := len_lst (lst_new (st := s4) (xs := t5.hds.map Hd.d))
      rw [List.length_map, t5.hds_len] at ql
      have eh' : eBi biLen (aCons (eCall (callK T k) i_l_law_heads (aCons (eV 4) aNil)) aNil) [some (.fro (ns.map .int)), some (.adr 0), some (.adr 1), some (.int (i : Nat)), some t5.d, some (.str (SX.S (wr t5))), v5] s4 = .ok (.int (t5.size : Nat)) (s4 ++ [O.lst (t5.hds.map Hd.d)]) := by
        (try simp only [eV, eC, eBin, eUn, aNil, aCons, eTup, eLst, eBi, eMeth, tTru, Mi.tCmp, Mi.tAnd, Mi.tOr, Mi.tNot, eAnd, eOr, eNot, eIf, eChain, tOf, oNo, oSo, eSl, eCall, eIs, sSet, sExpr, sRet, sRetN, sNil, sAsg, sPut, sBrk, sCnt, tTrue, wp_bind, wp_ok, wps_nx, wps_rt, wps_bk, wps_ct, wps_toOut, Rs.bind_ok, Rs.ofO_some, Option.map_some, isB, List.getElem?_cons_zero, List.getElem?_cons_succ, List.set_cons_zero, List.set_cons_succ, decide_eq_true_eq, eq_int, eq_str, Option.map_none, Mi.add_int, Mi.add_str0, Mi.add_tup0, opSub, opNeg, cmpI, opIs, opIsNot, biInt, biAbs, isN, atI_0, atI_1, atI_2, atI_3, Mi.ix_tup, Mi.ix_fro, Out.seq_nx, Out.seq_rt, truD, List.set_set, tgSet, if_true, if_false, List.length_cons, List.length_nil, Nat.zero_add, Nat.reduceAdd, Nat.reduceLeDiff, Bool.false_eq_true, eq_self, decide_true, decide_false, Bool.not_true, Bool.not_false, Int.reduceNeg, eh, ql])
      generalize s4 ++ [O.lst (t5.hds.map Hd.d)] = s6 at g5 p5 eh' 
      have ew := write_spec (k := k) (t := t5) (st := s6) (by omega) (by omega) (by omega) r3
      have es : callK T k i_l_law_same [.str (SX.S (wr t5)), .str (SX.S (wr t5))] s6 = .ok (.bl true) s6 := same_spec 0 k _ s6 rfl (Nat.le_refl _) (by omega)
      refine seq_wp (sIf_ff (s := s6) (by
        unfold Mi.tAnd
        by_cases hz : t5.size ≤ 100
        · rw [tcmp_of (s := s6) (b := true) (by rw [bin_of eh' rfl]; (try simp only [eV, eC, eBin, eUn, aNil, aCons, eTup, eLst, eBi, eMeth, tTru, Mi.tCmp, Mi.tAnd, Mi.tOr, Mi.tNot, eAnd, eOr, eNot, eIf, eChain, tOf, oNo, oSo, eSl, eCall, eIs, sSet, sExpr, sRet, sRetN, sNil, sAsg, sPut, sBrk, sCnt, tTrue, wp_bind, wp_ok, wps_nx, wps_rt, wps_bk, wps_ct, wps_toOut, Rs.bind_ok, Rs.ofO_some, Option.map_some, isB, List.getElem?_cons_zero, List.getElem?_cons_succ, List.set_cons_zero, List.set_cons_succ, decide_eq_true_eq, eq_int, eq_str, Option.map_none, Mi.add_int, Mi.add_str0, Mi.add_tup0, opSub, opNeg, cmpI, opIs, opIsNot, biInt, biAbs, isN, atI_0, atI_1, atI_2, atI_3, Mi.ix_tup, Mi.ix_fro, Out.seq_nx, Out.seq_rt, truD, List.set_set, tgSet, if_true, if_false, List.length_cons, List.length_nil, Nat.zero_add, Nat.reduceAdd, Nat.reduceLeDiff, Bool.false_eq_true, eq_self, decide_true, decide_false, Bool.not_true, Bool.not_false, Int.reduceNeg, show ((t5.size : Nat) : Int) ≤ 100 by omega]))]
          (try simp only [eV, eC, eBin, eUn, aNil, aCons, eTup, eLst, eBi, eMeth, tTru, Mi.tCmp, Mi.tAnd, Mi.tOr, Mi.tNot, eAnd, eOr, eNot, eIf, eChain, tOf, oNo, oSo, eSl, eCall, eIs, sSet, sExpr, sRet, sRetN, sNil, sAsg, sPut, sBrk, sCnt, tTrue, wp_bind, wp_ok, wps_nx, wps_rt, wps_bk, wps_ct, wps_toOut, Rs.bind_ok, Rs.ofO_some, Option.map_some, isB, List.getElem?_cons_zero, List.getElem?_cons_succ, List.set_cons_zero, List.set_cons_succ, decide_eq_true_eq, eq_int, eq_str, Option.map_none, Mi.add_int, Mi.add_str0, Mi.add_tup0, opSub, opNeg, cmpI, opIs, opIsNot, biInt, biAbs, isN, atI_0, atI_1, atI_2, atI_3, Mi.ix_tup, Mi.ix_fro, Out.seq_nx, Out.seq_rt, truD, List.set_set, tgSet, if_true, if_false, List.length_cons, List.length_nil, Nat.zero_add, Nat.reduceAdd, Nat.reduceLeDiff, Bool.false_eq_true, eq_self, decide_true, decide_false, Bool.not_true, Bool.not_false, Int.reduceNeg, ew, es])
        · rw [tcmp_of (s := s6) (b := false) (by rw [bin_of eh' rfl]; (try simp only [eV, eC, eBin, eUn, aNil, aCons, eTup, eLst, eBi, eMeth, tTru, Mi.tCmp, Mi.tAnd, Mi.tOr, Mi.tNot, eAnd, eOr, eNot, eIf, eChain, tOf, oNo, oSo, eSl, eCall, eIs, sSet, sExpr, sRet, sRetN, sNil, sAsg, sPut, sBrk, sCnt, tTrue, wp_bind, wp_ok, wps_nx, wps_rt, wps_bk, wps_ct, wps_toOut, Rs.bind_ok, Rs.ofO_some, Option.map_some, isB, List.getElem?_cons_zero, List.getElem?_cons_succ, List.set_cons_zero, List.set_cons_succ, decide_eq_true_eq, eq_int, eq_str, Option.map_none, Mi.add_int, Mi.add_str0, Mi.add_tup0, opSub, opNeg, cmpI, opIs, opIsNot, biInt, biAbs, isN, atI_0, atI_1, atI_2, atI_3, Mi.ix_tup, Mi.ix_fro, Out.seq_nx, Out.seq_rt, truD, List.set_set, tgSet, if_true, if_false, List.length_cons, List.length_nil, Nat.zero_add, Nat.reduceAdd, Nat.reduceLeDiff, Bool.false_eq_true, eq_self, decide_true, decide_false, Bool.not_true, Bool.not_false, Int.reduceNeg, show ¬ (((t5.size : Nat) : Int) ≤ 100) by omega]))]
          rfl) ?_)
      rw [sNil, wps_nx]
      have ln := len_S (l := wr t5) (st := s6) (by rw [PySem.sizeLine_eq]; omega)
      refine sIf_ff (s := s6) (by
        by_cases hz : (wr t5).length ≤ 2000
        · have er := read_ok (k := k) (st := s6) (by omega) (by omega) (read_wr r1)
          have es2 : callK T k i_l_law_same [t5.d, t5.d] s6 = .ok (.bl true) s6 := same_spec (2 * t5.size) k _ s6 (Tm.plain t5 (by rw [PySem.sizeLine_eq]; omega)) (Tm.dep_le t5) (by omega)
          (try simp only [eV, eC, eBin, eUn, aNil, aCons, eTup, eLst, eBi, eMeth, tTru, Mi.tCmp, Mi.tAnd, Mi.tOr, Mi.tNot, eAnd, eOr, eNot, eIf, eChain, tOf, oNo, oSo, eSl, eCall, eIs, sSet, sExpr, sRet, sRetN, sNil, sAsg, sPut, sBrk, sCnt, tTrue, wp_bind, wp_ok, wps_nx, wps_rt, wps_bk, wps_ct, wps_toOut, Rs.bind_ok, Rs.ofO_some, Option.map_some, isB, List.getElem?_cons_zero, List.getElem?_cons_succ, List.set_cons_zero, List.set_cons_succ, decide_eq_true_eq, eq_int, eq_str, Option.map_none, Mi.add_int, Mi.add_str0, Mi.add_tup0, opSub, opNeg, cmpI, opIs, opIsNot, biInt, biAbs, isN, atI_0, atI_1, atI_2, atI_3, Mi.ix_tup, Mi.ix_fro, Out.seq_nx, Out.seq_rt, truD, List.set_set, tgSet, if_true, if_false, List.length_cons, List.length_nil, Nat.zero_add, Nat.reduceAdd, Nat.reduceLeDiff, Bool.false_eq_true, eq_self, decide_true, decide_false, Bool.not_true, Bool.not_false, Int.reduceNeg, ln, show (((wr t5).length : Nat) : Int) ≤ 2000 by omega, er, es2])
        · (try simp only [eV, eC, eBin, eUn, aNil, aCons, eTup, eLst, eBi, eMeth, tTru, Mi.tCmp, Mi.tAnd, Mi.tOr, Mi.tNot, eAnd, eOr, eNot, eIf, eChain, tOf, oNo, oSo, eSl, eCall, eIs, sSet, sExpr, sRet, sRetN, sNil, sAsg, sPut, sBrk, sCnt, tTrue, wp_bind, wp_ok, wps_nx, wps_rt, wps_bk, wps_ct, wps_toOut, Rs.bind_ok, Rs.ofO_some, Option.map_some, isB, List.getElem?_cons_zero, List.getElem?_cons_succ, List.set_cons_zero, List.set_cons_succ, decide_eq_true_eq, eq_int, eq_str, Option.map_none, Mi.add_int, Mi.add_str0, Mi.add_tup0, opSub, opNeg, cmpI, opIs, opIsNot, biInt, biAbs, isN, atI_0, atI_1, atI_2, atI_3, Mi.ix_tup, Mi.ix_fro, Out.seq_nx, Out.seq_rt, truD, List.set_set, tgSet, if_true, if_false, List.length_cons, List.length_nil, Nat.zero_add, Nat.reduceAdd, Nat.reduceLeDiff, Bool.false_eq_true, eq_self, decide_true, decide_false, Bool.not_true, Bool.not_false, Int.reduceNeg, ln, show ¬ ((((wr t5).length : Nat) : Int) ≤ 2000) by omega])) ?_
      rw [sNil, wps_nx]
      exact ⟨_, _, _, _, _, rfl, g5, p5⟩
    · intro env s _
      (try simp only [eV, eC, eBin, eUn, aNil, aCons, eTup, eLst, eBi, eMeth, tTru, Mi.tCmp, Mi.tAnd, Mi.tOr, Mi.tNot, eAnd, eOr, eNot, eIf, eChain, tOf, oNo, oSo, eSl, eCall, eIs, sSet, sExpr, sRet, sRetN, sNil, sAsg, sPut, sBrk, sCnt, tTrue, wp_bind, wp_ok, wps_nx, wps_rt, wps_bk, wps_ct, wps_toOut, Rs.bind_ok, Rs.ofO_some, Option.map_some, isB, List.getElem?_cons_zero, List.getElem?_cons_succ, List.set_cons_zero, List.set_cons_succ, decide_eq_true_eq, eq_int, eq_str, Option.map_none, Mi.add_int, Mi.add_str0, Mi.add_tup0, opSub, opNeg, cmpI, opIs, opIsNot, biInt, biAbs, isN, atI_0, atI_1, atI_2, atI_3, Mi.ix_tup, Mi.ix_fro, Out.seq_nx, Out.seq_rt, truD, List.set_set, tgSet, if_true, if_false, List.length_cons, List.length_nil, Nat.zero_add, Nat.reduceAdd, Nat.reduceLeDiff, Bool.false_eq_true, eq_self, decide_true, decide_false, Bool.not_true, Bool.not_false, Int.reduceNeg])
      exact gct _ _
  obtain ⟨d, s, e, rfl⟩ := w.ok
  exact ⟨s, e⟩
theorem law_true (ns : List Int) (hl : ns.length ≤ 63) : ∃ st, callK T 590 i_law [.fro (ns.map D.int)] [] = .ok (.bl true) st := law_any ns hl 589 (by decide)
end
end Lw
namespace Lw
open PySem PySem.Spec PyProof.Rows L2 Mi
/-! ### the links -/
structure Zs (P : Program) (K : PySem.W.Frag) (mg : Str → Option Value) : Prop where
  z_abs : mg "abs" = none
  z_all : mg "all" = none
  z_bool : mg "bool" = none
  z_int : mg "int" = none
  z_isinstance : mg "isinstance" = none
  z_len : mg "len" = none
  z_range : mg "range" = none
  z_str : mg "str" = none
  z_tuple : mg "tuple" = none
  g_DIGITS : ∃ t, mg "DIGITS" = some (.str "0123456789" t)
  g_LETTERS : ∃ t, mg "LETTERS" = some (.str "abcdefghijklmnopqrstuvwxyzABCDEFGHIJKLMNOPQRSTUVWXYZ" t)
  g_LONGEST_NAME : ∃ t, mg "LONGEST_NAME" = some (.int 12 t)
  g_LONGEST_NUMBER : ∃ t, mg "LONGEST_NUMBER" = some (.int 4 t)
  p_BadTerm : RaisePOk K mg "BadTerm"
theorem bb_abs : bootBuiltins "abs" = some (.builtin "abs") := by decide +kernel
theorem bb_all : bootBuiltins "all" = some (.builtin "all") := by decide +kernel
theorem bb_bool : bootBuiltins "bool" = some (.type "bool") := by decide +kernel
theorem bb_int : bootBuiltins "int" = some (.type "int") := by decide +kernel
theorem bb_isinstance : bootBuiltins "isinstance" = some (.builtin "isinstance") := by decide +kernel
theorem bb_len : bootBuiltins "len" = some (.builtin "len") := by decide +kernel
theorem bb_range : bootBuiltins "range" = some (.type "range") := by decide +kernel
theorem bb_str : bootBuiltins "str" = some (.type "str") := by decide +kernel
theorem bb_tuple : bootBuiltins "tuple" = some (.type "tuple") := by decide +kernel
theorem sc_head_text : FnScope f_head_text.N f_head_text.ps (defScope f_head_text.st) := ⟨rfl, rfl, rfl, by decide +kernel, rfl, by decide +kernel, by decide +kernel⟩
theorem sc_write_term : FnScope f_write_term.N f_write_term.ps (defScope f_write_term.st) := ⟨rfl, rfl, rfl, by decide +kernel, rfl, by decide +kernel, by decide +kernel⟩
theorem sc_number_of : FnScope f_number_of.N f_number_of.ps (defScope f_number_of.st) := ⟨rfl, rfl, rfl, by decide +kernel, rfl, by decide +kernel, by decide +kernel⟩
theorem sc_is_name : FnScope f_is_name.N f_is_name.ps (defScope f_is_name.st) := ⟨rfl, rfl, rfl, by decide +kernel, rfl, by decide +kernel, by decide +kernel⟩
theorem sc_head_of : FnScope f_head_of.N f_head_of.ps (defScope f_head_of.st) := ⟨rfl, rfl, rfl, by decide +kernel, rfl, by decide +kernel, by decide +kernel⟩
theorem sc_closed : FnScope f_closed.N f_closed.ps (defScope f_closed.st) := ⟨rfl, rfl, rfl, by decide +kernel, rfl, by decide +kernel, by decide +kernel⟩
theorem sc_read_term : FnScope f_read_term.N f_read_term.ps (defScope f_read_term.st) := ⟨rfl, rfl, rfl, by decide +kernel, rfl, by decide +kernel, by decide +kernel⟩
theorem sc_l_law_pick : FnScope f_l_law_pick.N f_l_law_pick.ps (defScope f_l_law_pick.st) := ⟨rfl, rfl, rfl, by decide +kernel, rfl, by decide +kernel, by decide +kernel⟩
theorem sc_l_law_same : FnScope f_l_law_same.N f_l_law_same.ps (defScope f_l_law_same.st) := ⟨rfl, rfl, rfl, by decide +kernel, rfl, by decide +kernel, by decide +kernel⟩
theorem sc_l_law_name : FnScope f_l_law_name.N f_l_law_name.ps (defScope f_l_law_name.st) := ⟨rfl, rfl, rfl, by decide +kernel, rfl, by decide +kernel, by decide +kernel⟩
theorem sc_l_law_head : FnScope f_l_law_head.N f_l_law_head.ps (defScope f_l_law_head.st) := ⟨rfl, rfl, rfl, by decide +kernel, rfl, by decide +kernel, by decide +kernel⟩
theorem sc_l_law_pool : FnScope f_l_law_pool.N f_l_law_pool.ps (defScope f_l_law_pool.st) := ⟨rfl, rfl, rfl, by decide +kernel, rfl, by decide +kernel, by decide +kernel⟩
theorem sc_l_law_any : FnScope f_l_law_any.N f_l_law_any.ps (defScope f_l_law_any.st) := ⟨rfl, rfl, rfl, by decide +kernel, rfl, by decide +kernel, by decide +kernel⟩
theorem sc_l_law_deep : FnScope f_l_law_deep.N f_l_law_deep.ps (defScope f_l_law_deep.st) := ⟨rfl, rfl, rfl, by decide +kernel, rfl, by decide +kernel, by decide +kernel⟩
theorem sc_l_law_chain : FnScope f_l_law_chain.N f_l_law_chain.ps (defScope f_l_law_chain.st) := ⟨rfl, rfl, rfl, by decide +kernel, rfl, by decide +kernel, by decide +kernel⟩
theorem sc_l_law_term : FnScope f_l_law_term.N f_l_law_term.ps (defScope f_l_law_term.st) := ⟨rfl, rfl, rfl, by decide +kernel, rfl, by decide +kernel, by decide +kernel⟩
theorem sc_l_law_heads : FnScope f_l_law_heads.N f_l_law_heads.ps (defScope f_l_law_heads.st) := ⟨rfl, rfl, rfl, by decide +kernel, rfl, by decide +kernel, by decide +kernel⟩
theorem sc_l_law_written : FnScope f_l_law_written.N f_l_law_written.ps (defScope f_l_law_written.st) := ⟨rfl, rfl, rfl, by decide +kernel, rfl, by decide +kernel, by decide +kernel⟩
theorem sc_law : FnScope f_law.N f_law.ps (defScope f_law.st) := ⟨rfl, rfl, rfl, by decide +kernel, rfl, by decide +kernel, by decide +kernel⟩
section
variable {P : Program} {w : World} {K : PySem.W.Frag} {mg : Str → Option Value} {base : Heap} {k : Nat} {f : Addr} {cdv : Value} {A : Around} {outer : List Env} {s : Shared} {H : Hp} {E : XK}
theorem lk_head_text (Z : Zs P K mg) (c : Ctx (cxM P w K mg base f_head_text f_head_text.qual f cdv A outer s H E) T k (WE E)) : PSsm (cxM P w K mg base f_head_text f_head_text.qual f cdv A outer s H E) (WE E) (defBody f_head_text.st) (b_head_text (callK T k)) := by
  unfold b_head_text
  exact (m_sone (m_ret (m_if (m_tru (m_isi (t := .str) (m_var (pv 0)) (by rfl) Z.z_isinstance bb_isinstance (by rfl) Z.z_str bb_str)) (m_var (pv 0)) (m_joined (.cons (m_str) (.cons (m_fmt (m_var (pv 0))) .nil))))))
theorem lk_write_term (Z : Zs P K mg) (c : Ctx (cxM P w K mg base f_write_term f_write_term.qual f cdv A outer s H E) T k (WE E)) : PSsm (cxM P w K mg base f_write_term f_write_term.qual f cdv A outer s H E) (WE E) (defBody f_write_term.st) (b_write_term (callK T k)) := by
  unfold b_write_term
  exact (m_cons (m_set (i := 1) (sc_write_term).nd rfl (by first | exact .inl rfl | exact .inr rfl) (m_lst m_anil))
    (m_cons (m_set (i := 2) (sc_write_term).nd rfl (by first | exact .inl rfl | exact .inr rfl) (m_lst (m_acons (m_var (pv 0)) m_anil)))
    (m_cons (m_wh (passes_of rfl) (m_tru (m_var (pv 2))) (m_cons (m_set (i := 3) (sc_write_term).nd rfl (by first | exact .inl rfl | exact .inr rfl) (m_meth0 tm_list PySem.F.plainAttrs_list PySem.F.slot_list_pop PySem.F.type_list_pop md_pop (m_var (pv 2))))
    (m_sone (m_ifs (m_tru (m_isi (t := .str) (m_var (pv 3)) (by rfl) Z.z_isinstance bb_isinstance (by rfl) Z.z_str bb_str)) (m_sone (m_expr (m_meth tm_list PySem.F.plainAttrs_list PySem.F.slot_list_append PySem.F.type_list_append md_append (m_var (pv 1)) (m_acons (m_var (pv 3)) m_anil)))) (m_cons (m_expr (m_meth tm_list PySem.F.plainAttrs_list PySem.F.slot_list_append PySem.F.type_list_append md_append (m_var (pv 1)) (m_acons (m_call c (T := T) (d := f_head_text) rfl rfl (by rfl) (m_acons (m_ixe (Ctx.hu c) (m_var (pv 3)) (m_int) (fun _ _ => rfl)) m_anil) rfl (len_cons (fun _ _ _ _ h => len_nil h))) m_anil)))
    (m_sone (m_for (passes_of rfl) (Ctx.calm c) (i_seq (m_rev (m_ixe (Ctx.hu c) (m_var (pv 3)) (m_int) (fun _ _ => rfl)))) (g_nm (pg_name (i := 4) (sc_write_term).nd rfl (by first | exact .inl rfl | exact .inr rfl))) (m_sone (m_expr (m_meth tm_list PySem.F.plainAttrs_list PySem.F.slot_list_extend PySem.F.type_list_extend md_extend (m_var (pv 2)) (m_acons (m_if (m_tru (m_ixe (Ctx.hu c) (m_var (pv 4)) (m_int) (fun _ _ => rfl))) (m_lst (m_acons (m_str) (m_acons (m_var (pv 4)) (m_acons (m_str) m_anil)))) (m_lst (m_acons (m_var (pv 4)) (m_acons (m_str) m_anil)))) m_anil)))))))))))
    (m_sone (m_ret (m_meth tm_str PySem.F.plainAttrs_str PySem.F.slot_str_join PySem.F.type_str_join md_join (m_str) (m_acons (m_var (pv 1)) m_anil)))))))
theorem lk_number_of (Z : Zs P K mg) (c : Ctx (cxM P w K mg base f_number_of f_number_of.qual f cdv A outer s H E) T k (WE E)) : PSsm (cxM P w K mg base f_number_of f_number_of.qual f cdv A outer s H E) (WE E) (defBody f_number_of.st) (b_number_of (callK T k)) := by
  unfold b_number_of
  exact (m_cons (m_ifs ((m_tor (m_tnot (m_tchain m_le m_le (m_int) (m_bi c_len (by rfl) Z.z_len bb_len (m_acons (m_var (pv 0)) m_anil)) (Exists.elim Z.g_LONGEST_NUMBER fun t e => m_c (pe_glob (v := .int 4) (by rfl) e ⟨_, rfl⟩) (fun _ _ => Rp.int_iff.mpr rfl)))) (m_or1 (m_tnot (m_tru (m_g (m_bi (c_all (Ctx.calm c)) (by rfl) Z.z_all bb_all (m_acons (m_lc (own := [("char", 1)]) (Ctx.calm c) (sc_number_of).nd (i_str (m_var (pv 0))) (blkOk_by (N := f_number_of.N) (sc := defScope f_number_of.st) (by decide +kernel)) (fun _ _ _ _ _ => (g_nm (pg_name (i := 1) (sc_number_of).nd rfl (by first | exact .inl rfl | exact .inr rfl)))) (fun _ _ _ _ _ => m_tsnil) (fun _ _ _ _ _ => (m_cmp (m_in (Ctx.hu c.blk)) (m_var (pv 1)) (Exists.elim Z.g_DIGITS fun t e => m_c (pe_glob (v := .str "0123456789") (by rfl) e ⟨_, rfl⟩) (fun _ _ => Rp.str_iff.mpr rfl)) (by rfl))) (by decide)) m_anil)))))))).pt (m_sone (m_ret (m_non))) m_nil)
    (m_cons (m_ifs ((m_tand (m_tcmp (m_eq (Ctx.hu c)) (m_ixe (Ctx.hu c) (m_var (pv 0)) (m_int) (fun _ _ => rfl)) (m_str) (nomark _)) (m_and1 (m_tcmp (m_ne (Ctx.hu c)) (m_var (pv 0)) (m_str) (nomark _))))).pt (m_sone (m_ret (m_non))) m_nil)
    (m_sone (m_ret (m_ty c_intS (by rfl) Z.z_int bb_int (m_acons (m_var (pv 0)) m_anil))))))
theorem lk_is_name (Z : Zs P K mg) (c : Ctx (cxM P w K mg base f_is_name f_is_name.qual f cdv A outer s H E) T k (WE E)) : PSsm (cxM P w K mg base f_is_name f_is_name.qual f cdv A outer s H E) (WE E) (defBody f_is_name.st) (b_is_name (callK T k)) := by
  unfold b_is_name
  exact (m_cons (m_ifs ((m_tor (m_tnot (m_tchain m_le m_le (m_int) (m_bi c_len (by rfl) Z.z_len bb_len (m_acons (m_var (pv 0)) m_anil)) (Exists.elim Z.g_LONGEST_NAME fun t e => m_c (pe_glob (v := .int 12) (by rfl) e ⟨_, rfl⟩) (fun _ _ => Rp.int_iff.mpr rfl)))) (m_or1 (m_tcmp (m_notin (Ctx.hu c)) (m_ixe (Ctx.hu c) (m_var (pv 0)) (m_int) (fun _ _ => rfl)) (Exists.elim Z.g_LETTERS fun t e => m_c (pe_glob (v := .str "abcdefghijklmnopqrstuvwxyzABCDEFGHIJKLMNOPQRSTUVWXYZ") (by rfl) e ⟨_, rfl⟩) (fun _ _ => Rp.str_iff.mpr rfl)) (by rfl))))).pt (m_sone (m_ret (m_bl))) m_nil)
    (m_sone (m_ret (m_g (m_bi (c_all (Ctx.calm c)) (by rfl) Z.z_all bb_all (m_acons (m_lc (own := [("char", 1)]) (Ctx.calm c) (sc_is_name).nd (i_str (m_var (pv 0))) (blkOk_by (N := f_is_name.N) (sc := defScope f_is_name.st) (by decide +kernel)) (fun _ _ _ _ _ => (g_nm (pg_name (i := 1) (sc_is_name).nd rfl (by first | exact .inl rfl | exact .inr rfl)))) (fun _ _ _ _ _ => m_tsnil) (fun _ _ _ _ _ => (m_or (m_cmp (m_in (Ctx.hu c.blk)) (m_var (pv 1)) (Exists.elim Z.g_LETTERS fun t e => m_c (pe_glob (v := .str "abcdefghijklmnopqrstuvwxyzABCDEFGHIJKLMNOPQRSTUVWXYZ") (by rfl) e ⟨_, rfl⟩) (fun _ _ => Rp.str_iff.mpr rfl)) (by rfl)) (m_one (m_cmp (m_in (Ctx.hu c.blk)) (m_var (pv 1)) (Exists.elim Z.g_DIGITS fun t e => m_c (pe_glob (v := .str "0123456789") (by rfl) e ⟨_, rfl⟩) (fun _ _ => Rp.str_iff.mpr rfl)) (by rfl))))) (by decide)) m_anil))))))
theorem lk_head_of (Z : Zs P K mg) (c : Ctx (cxM P w K mg base f_head_of f_head_of.qual f cdv A outer s H E) T k (WE E)) : PSsm (cxM P w K mg base f_head_of f_head_of.qual f cdv A outer s H E) (WE E) (defBody f_head_of.st) (b_head_of (callK T k)) := by
  unfold b_head_of
  exact (m_cons (m_ifs (m_tru (m_call c (T := T) (d := f_is_name) rfl rfl (by rfl) (m_acons (m_var (pv 0)) m_anil) rfl (len_cons (fun _ _ _ _ h => len_nil h)))) (m_sone (m_ret (m_var (pv 0)))) m_nil)
    (m_cons (m_set (i := 1) (sc_head_of).nd rfl (by first | exact .inl rfl | exact .inr rfl) (m_call c (T := T) (d := f_number_of) rfl rfl (by rfl) (m_acons (m_sle (m_var (pv 0)) (m_oso (m_int)) m_ono) m_anil) rfl (len_cons (fun _ _ _ _ h => len_nil h))))
    (m_cons (m_ifs ((m_tor (m_tcmp (m_ne (Ctx.hu c)) (m_sle (m_var (pv 0)) m_ono (m_oso (m_int))) (m_str) (nomark _)) (m_or1 (m_tcmp m_is (m_var (pv 1)) (m_non) (nomark _))))).pt (m_sone (m_raiseP c Z.p_BadTerm (by rfl))) m_nil)
    (m_sone (m_ret (m_var (pv 1)))))))
theorem lk_closed (Z : Zs P K mg) (c : Ctx (cxM P w K mg base f_closed f_closed.qual f cdv A outer s H E) T k (WE E)) : PSsm (cxM P w K mg base f_closed f_closed.qual f cdv A outer s H E) (WE E) (defBody f_closed.st) (b_closed (callK T k)) := by
  unfold b_closed
  exact (m_cons (m_ifs ((m_tor (m_tcmp m_lt (m_bi c_len (by rfl) Z.z_len bb_len (m_acons (m_var (pv 0)) m_anil)) (m_int) (nomark _)) (m_or1 (m_tnot (m_tru (m_ixe (Ctx.hu c) (m_var (pv 0)) (m_un m_neg (m_int)) (fun _ _ => rfl))))))).pt (m_sone (m_raiseP c Z.p_BadTerm (by rfl))) m_nil)
    (m_cons (m_set (i := 1) (sc_closed).nd rfl (by first | exact .inl rfl | exact .inr rfl) (m_ixe (Ctx.hu c) (m_var (pv 0)) (m_un m_neg (m_int)) (fun _ _ => rfl)))
    (m_cons (m_set (i := 2) (sc_closed).nd rfl (by first | exact .inl rfl | exact .inr rfl) (m_ixe (Ctx.hu c) (m_var (pv 0)) (m_un m_neg (m_int)) (fun _ _ => rfl)))
    (m_cons (m_expr (m_meth tm_list PySem.F.plainAttrs_list PySem.F.slot_list_append PySem.F.type_list_append md_append (m_var (pv 2)) (m_acons (m_tup (m_acons (m_ixe (Ctx.hu c) (m_var (pv 1)) (m_int) (fun _ _ => rfl)) (m_acons (m_ty c_tuple (by rfl) Z.z_tuple bb_tuple (m_acons (m_sle (m_var (pv 1)) (m_oso (m_int)) m_ono) m_anil)) m_anil))) m_anil)))
    (m_sone (m_ret (m_sle (m_var (pv 0)) m_ono (m_oso (m_un m_neg (m_int))))))))))
theorem lk_read_term (Z : Zs P K mg) (c : Ctx (cxM P w K mg base f_read_term f_read_term.qual f cdv A outer s H E) T k (WE E)) : PSst (cxM P w K mg base f_read_term f_read_term.qual f cdv A outer s H E) (WE E) (defBody f_read_term.st) (b_read_term (callK T k)) := by
  unfold b_read_term
  exact (t_cons (t_sof (m_set (i := 1) (sc_read_term).nd rfl (by first | exact .inl rfl | exact .inr rfl) (m_lst (m_acons (m_lst m_anil) m_anil))))
    (t_cons (t_for (passes_of rfl) (Ctx.calm c) (t_seqL (t_meth tm_str PySem.F.plainAttrs_str PySem.F.slot_str_split PySem.F.type_str_split md_split (t_repl (t_repl (t_eof (m_var (pv 0))))) (m_acons (m_str) m_anil)) split_adr) (g_nm (pg_name (i := 2) (sc_read_term).nd rfl (by first | exact .inl rfl | exact .inr rfl))) (m_sone (m_ifs (m_tcmp (m_eq (Ctx.hu c)) (m_var (pv 2)) (m_str) (nomark _)) (m_cons (m_ifs (m_tnot (m_tru (m_ixe (Ctx.hu c) (m_var (pv 1)) (m_un m_neg (m_int)) (fun _ _ => rfl)))) (m_sone (m_raiseP c Z.p_BadTerm (by rfl))) m_nil)
    (m_sone (m_expr (m_meth tm_list PySem.F.plainAttrs_list PySem.F.slot_list_append PySem.F.type_list_append md_append (m_var (pv 1)) (m_acons (m_lst m_anil) m_anil))))) (m_sone (m_ifs (m_tcmp (m_eq (Ctx.hu c)) (m_var (pv 2)) (m_str) (nomark _)) (m_sone (m_set (i := 1) (sc_read_term).nd rfl (by first | exact .inl rfl | exact .inr rfl) (m_call c (T := T) (d := f_closed) rfl rfl (by rfl) (m_acons (m_var (pv 1)) m_anil) rfl (len_cons (fun _ _ _ _ h => len_nil h))))) (m_cons (m_set (i := 3) (sc_read_term).nd rfl (by first | exact .inl rfl | exact .inr rfl) (m_call c (T := T) (d := f_head_of) rfl rfl (by rfl) (m_acons (m_var (pv 2)) m_anil) rfl (len_cons (fun _ _ _ _ h => len_nil h))))
    (m_sone (m_expr (m_meth tm_list PySem.F.plainAttrs_list PySem.F.slot_list_append PySem.F.type_list_append md_append (m_ixe (Ctx.hu c) (m_var (pv 1)) (m_un m_neg (m_int)) (fun _ _ => rfl)) (m_acons (m_if (m_tru (m_ixe (Ctx.hu c) (m_var (pv 1)) (m_un m_neg (m_int)) (fun _ _ => rfl))) (m_tup (m_acons (m_var (pv 3)) (m_acons (m_tup m_anil) m_anil))) (m_var (pv 3))) m_anil))))))))))
    (t_ssof (m_cons (m_ifs (m_tcmp (m_ne (Ctx.hu c)) (m_bi c_len (by rfl) Z.z_len bb_len (m_acons (m_var (pv 1)) m_anil)) (m_int) (nomark _)) (m_sone (m_raiseP c Z.p_BadTerm (by rfl))) m_nil)
    (m_cons (m_set (i := 4) (sc_read_term).nd rfl (by first | exact .inl rfl | exact .inr rfl) (m_tup (m_acons (m_ixe (Ctx.hu c) (m_ixe (Ctx.hu c) (m_var (pv 1)) (m_int) (fun _ _ => rfl)) (m_int) (fun _ _ => rfl)) (m_acons (m_ty c_tuple (by rfl) Z.z_tuple bb_tuple (m_acons (m_sle (m_ixe (Ctx.hu c) (m_var (pv 1)) (m_int) (fun _ _ => rfl)) (m_oso (m_int)) m_ono) m_anil)) m_anil))))
    (m_cons (m_ifs (m_tcmp (m_ne (Ctx.hu c)) (m_call c (T := T) (d := f_write_term) rfl rfl (by rfl) (m_acons (m_var (pv 4)) m_anil) rfl (len_cons (fun _ _ _ _ h => len_nil h))) (m_var (pv 0)) (nomark _)) (m_sone (m_raiseP c Z.p_BadTerm (by rfl))) m_nil)
    (m_sone (m_ret (m_var (pv 4))))))))))
theorem lk_l_law_pick (Z : Zs P K mg) (c : Ctx (cxM P w K mg base f_l_law_pick f_l_law_pick.qual f cdv A outer s H E) T k (WE E)) : PSsm (cxM P w K mg base f_l_law_pick f_l_law_pick.qual f cdv A outer s H E) (WE E) (defBody f_l_law_pick.st) (b_l_law_pick (callK T k)) := by
  unfold b_l_law_pick
  exact (m_cons (m_ifs (m_tcmp m_gt (m_ixe (Ctx.hu c) (m_var (pv 0)) (m_int) (fun _ _ => rfl)) (m_int) (nomark _)) (m_cons (m_set (i := 3) (sc_l_law_pick).nd rfl (by first | exact .inl rfl | exact .inr rfl) (m_bin m_mod (m_ty c_int (by rfl) Z.z_int bb_int (m_acons (m_ixe (Ctx.hu c) (m_var (pv 0)) (m_int) (fun _ _ => rfl)) m_anil)) (m_var (pv 2))))
    (m_cons (m_sput (Ctx.hu c) (m_bin m_div (m_ixe (Ctx.hu c) (m_var (pv 0)) (m_int) (fun _ _ => rfl)) (m_var (pv 2))) (m_var (pv 0)) (m_int))
    (m_sone (m_ret (m_var (pv 3)))))) m_nil)
    (m_cons (m_set (i := 4) (sc_l_law_pick).nd rfl (by first | exact .inl rfl | exact .inr rfl) (m_ixe (Ctx.hu c) (m_var (pv 0)) (m_int) (fun _ _ => rfl)))
    (m_cons (m_sput (Ctx.hu c) (m_bin m_add (m_var (pv 4)) (m_int)) (m_var (pv 0)) (m_int))
    (m_cons (m_ifs (m_tcmp m_lt (m_var (pv 4)) (m_bi c_len (by rfl) Z.z_len bb_len (m_acons (m_var (pv 1)) m_anil)) (nomark _)) (m_cons (m_set (i := 5) (sc_l_law_pick).nd rfl (by first | exact .inl rfl | exact .inr rfl) (m_bi c_abs (by rfl) Z.z_abs bb_abs (m_acons (m_ty c_int (by rfl) Z.z_int bb_int (m_acons (m_ixe (Ctx.hu c) (m_var (pv 1)) (m_var (pv 4)) (fun _ _ => rfl)) m_anil)) m_anil)))
    (m_cons (m_ifs (m_tcmp m_ge (m_var (pv 5)) (m_bin m_pow (m_int) (m_int)) (nomark _)) (m_cons (m_sput (Ctx.hu c) (m_bin m_div (m_var (pv 5)) (m_var (pv 2))) (m_var (pv 0)) (m_int))
    (m_sone (m_ret (m_bin m_mod (m_ty c_int (by rfl) Z.z_int bb_int (m_acons (m_var (pv 5)) m_anil)) (m_var (pv 2)))))) m_nil)
    (m_sone (m_sput (Ctx.hu c) (m_bin m_mod (m_ty c_int (by rfl) Z.z_int bb_int (m_acons (m_bin m_add (m_bin m_add (m_bin m_mul (m_ixe (Ctx.hu c) (m_var (pv 0)) (m_int) (fun _ _ => rfl)) (m_int)) (m_bin m_mul (m_var (pv 5)) (m_int))) (m_int)) m_anil)) (m_int)) (m_var (pv 0)) (m_int))))) m_nil)
    (m_cons (m_sput (Ctx.hu c) (m_bin m_mod (m_ty c_int (by rfl) Z.z_int bb_int (m_acons (m_bin m_add (m_bin m_add (m_bin m_mul (m_ixe (Ctx.hu c) (m_var (pv 0)) (m_int) (fun _ _ => rfl)) (m_int)) (m_bin m_mul (m_int) (m_var (pv 4)))) (m_int)) m_anil)) (m_int)) (m_var (pv 0)) (m_int))
    (m_sone (m_ret (m_bin m_mod (m_ty c_int (by rfl) Z.z_int bb_int (m_acons (m_bin m_div (m_bin m_mul (m_ixe (Ctx.hu c) (m_var (pv 0)) (m_int) (fun _ _ => rfl)) (m_ixe (Ctx.hu c) (m_var (pv 0)) (m_int) (fun _ _ => rfl))) (m_int)) m_anil)) (m_var (pv 2))))))))))
theorem lk_l_law_same (Z : Zs P K mg) (c : Ctx (cxM P w K mg base f_l_law_same f_l_law_same.qual f cdv A outer s H E) T k (WE E)) : PSsm (cxM P w K mg base f_l_law_same f_l_law_same.qual f cdv A outer s H E) (WE E) (defBody f_l_law_same.st) (b_l_law_same (callK T k)) := by
  unfold b_l_law_same
  exact (m_cons (m_ifs (m_tcmp m_is (m_var (pv 1)) (m_non) (nomark _)) (m_sone (m_ret (m_cmp m_is (m_var (pv 0)) (m_non) (nomark _)))) m_nil)
    (m_cons (m_ifs (m_tru (m_isi (t := .tuple) (m_var (pv 1)) (by rfl) Z.z_isinstance bb_isinstance (by rfl) Z.z_tuple bb_tuple)) (m_cons (m_ifs ((m_tor (m_tnot (m_tru (m_isi (t := .tuple) (m_var (pv 0)) (by rfl) Z.z_isinstance bb_isinstance (by rfl) Z.z_tuple bb_tuple))) (m_or1 (m_tcmp (m_ne (Ctx.hu c)) (m_bi c_len (by rfl) Z.z_len bb_len (m_acons (m_var (pv 0)) m_anil)) (m_bi c_len (by rfl) Z.z_len bb_len (m_acons (m_var (pv 1)) m_anil)) (nomark _))))).pt (m_sone (m_ret (m_bl))) m_nil)
    (m_cons (m_for (passes_of rfl) (Ctx.calm c) (i_r1 (by rfl) Z.z_range (m_acons (m_bi c_len (by rfl) Z.z_len bb_len (m_acons (m_var (pv 1)) m_anil)) m_anil)) (g_nm (pg_name (i := 2) (sc_l_law_same).nd rfl (by first | exact .inl rfl | exact .inr rfl))) (m_sone (m_ifs (m_tnot (m_tru (m_call c (T := T) (d := f_l_law_same) rfl rfl (by rfl) (m_acons (m_ixe (Ctx.hu c) (m_var (pv 0)) (m_var (pv 2)) (fun _ _ => rfl)) (m_acons (m_ixe (Ctx.hu c) (m_var (pv 1)) (m_var (pv 2)) (fun _ _ => rfl)) m_anil)) rfl (len_cons (len_cons (fun _ _ _ _ h => len_nil h)))))) (m_sone (m_ret (m_bl))) m_nil)))
    (m_sone (m_ret (m_bl))))) m_nil)
    (m_cons (m_ifs (m_tru (m_isi (t := .int) (m_var (pv 1)) (by rfl) Z.z_isinstance bb_isinstance (by rfl) Z.z_int bb_int)) (m_sone (m_ret (m_and (m_isi (t := .int) (m_var (pv 0)) (by rfl) Z.z_isinstance bb_isinstance (by rfl) Z.z_int bb_int) (m_and (m_not (m_isi (t := .bool) (m_var (pv 0)) (by rfl) Z.z_isinstance bb_isinstance (by rfl) Z.z_bool bb_bool)) (m_one (m_cmp (m_eq (Ctx.hu c)) (m_var (pv 0)) (m_var (pv 1)) (nomark _))))))) m_nil)
    (m_sone (m_ret (m_and (m_isi (t := .str) (m_var (pv 0)) (by rfl) Z.z_isinstance bb_isinstance (by rfl) Z.z_str bb_str) (m_one (m_cmp (m_eq (Ctx.hu c)) (m_var (pv 0)) (m_var (pv 1)) (nomark _)))))))))
theorem lk_l_law_name (Z : Zs P K mg) (c : Ctx (cxM P w K mg base f_l_law_name f_l_law_name.qual f cdv A outer s H E) T k (WE E)) : PSsm (cxM P w K mg base f_l_law_name f_l_law_name.qual f cdv A outer s H E) (WE E) (defBody f_l_law_name.st) (b_l_law_name (callK T k)) := by
  unfold b_l_law_name
  exact (m_cons (m_set (i := 3) (sc_l_law_name).nd rfl (by first | exact .inl rfl | exact .inr rfl) (m_str))
    (m_cons (m_set (i := 4) (sc_l_law_name).nd rfl (by first | exact .inl rfl | exact .inr rfl) (m_bin m_add (m_bin m_add (m_var (pv 3)) (m_meth0 tm_str PySem.F.plainAttrs_str PySem.F.slot_str_upper PySem.F.type_str_upper md_upper (m_var (pv 3)))) (m_str)))
    (m_cons (m_set (i := 5) (sc_l_law_name).nd rfl (by first | exact .inl rfl | exact .inr rfl) (m_bin m_add (m_int) (m_call c (T := T) (d := f_l_law_pick) rfl rfl (by rfl) (m_acons (m_var (pv 0)) (m_acons (m_var (pv 1)) (m_acons (m_int) m_anil))) rfl (len_cons (len_cons (len_cons (fun _ _ _ _ h => len_nil h)))))))
    (m_cons (m_ifs (m_tcmp (m_eq (Ctx.hu c)) (m_var (pv 5)) (m_int) (nomark _)) (m_sone (m_set (i := 5) (sc_l_law_name).nd rfl (by first | exact .inl rfl | exact .inr rfl) (m_bin m_add (m_int) (m_call c (T := T) (d := f_l_law_pick) rfl rfl (by rfl) (m_acons (m_var (pv 0)) (m_acons (m_var (pv 1)) (m_acons (m_int) m_anil))) rfl (len_cons (len_cons (len_cons (fun _ _ _ _ h => len_nil h)))))))) m_nil)
    (m_cons (m_set (i := 6) (sc_l_law_name).nd rfl (by first | exact .inl rfl | exact .inr rfl) (m_ixe (Ctx.hu c) (m_ixe (Ctx.hu c) (m_lst (m_acons (m_var (pv 3)) (m_acons (m_meth0 tm_str PySem.F.plainAttrs_str PySem.F.slot_str_upper PySem.F.type_str_upper md_upper (m_var (pv 3))) m_anil))) (m_ty c_int (by rfl) Z.z_int bb_int (m_acons (m_var (pv 2)) m_anil)) (fun _ _ => rfl)) (m_call c (T := T) (d := f_l_law_pick) rfl rfl (by rfl) (m_acons (m_var (pv 0)) (m_acons (m_var (pv 1)) (m_acons (m_int) m_anil))) rfl (len_cons (len_cons (len_cons (fun _ _ _ _ h => len_nil h))))) (fun _ _ => rfl)))
    (m_cons (m_for (passes_of rfl) (Ctx.calm c) (i_r1 (by rfl) Z.z_range (m_acons (m_bin m_sub (m_var (pv 5)) (m_int)) m_anil)) (g_nm (pg_name (i := 7) (sc_l_law_name).nd rfl (by first | exact .inl rfl | exact .inr rfl))) (m_sone (m_set (i := 6) (sc_l_law_name).nd rfl (by first | exact .inl rfl | exact .inr rfl) (m_bin m_add (m_var (pv 6)) (m_ixe (Ctx.hu c) (m_var (pv 4)) (m_call c (T := T) (d := f_l_law_pick) rfl rfl (by rfl) (m_acons (m_var (pv 0)) (m_acons (m_var (pv 1)) (m_acons (m_int) m_anil))) rfl (len_cons (len_cons (len_cons (fun _ _ _ _ h => len_nil h))))) (fun _ _ => rfl))))))
    (m_sone (m_ret (m_var (pv 6))))))))))
theorem lk_l_law_head (Z : Zs P K mg) (c : Ctx (cxM P w K mg base f_l_law_head f_l_law_head.qual f cdv A outer s H E) T k (WE E)) : PSsm (cxM P w K mg base f_l_law_head f_l_law_head.qual f cdv A outer s H E) (WE E) (defBody f_l_law_head.st) (b_l_law_head (callK T k)) := by
  unfold b_l_law_head
  exact (m_cons (m_set (i := 3) (sc_l_law_head).nd rfl (by first | exact .inl rfl | exact .inr rfl) (m_call c (T := T) (d := f_l_law_pick) rfl rfl (by rfl) (m_acons (m_var (pv 0)) (m_acons (m_var (pv 1)) (m_acons (m_int) m_anil))) rfl (len_cons (len_cons (len_cons (fun _ _ _ _ h => len_nil h))))))
    (m_cons (m_ifs (m_tcmp m_lt (m_var (pv 3)) (m_int) (nomark _)) (m_sone (m_ret (m_call c (T := T) (d := f_l_law_pick) rfl rfl (by rfl) (m_acons (m_var (pv 0)) (m_acons (m_var (pv 1)) (m_acons (m_ixe (Ctx.hu c) (m_lst (m_acons (m_int) (m_acons (m_int) (m_acons (m_int) m_anil)))) (m_var (pv 3)) (fun _ _ => rfl)) m_anil))) rfl (len_cons (len_cons (len_cons (fun _ _ _ _ h => len_nil h))))))) m_nil)
    (m_cons (m_ifs (m_tcmp (m_eq (Ctx.hu c)) (m_var (pv 3)) (m_int) (nomark _)) (m_sone (m_ret (m_call c (T := T) (d := f_l_law_name) rfl rfl (by rfl) (m_acons (m_var (pv 0)) (m_acons (m_var (pv 1)) (m_acons (m_cmp (m_eq (Ctx.hu c)) (m_call c (T := T) (d := f_l_law_pick) rfl rfl (by rfl) (m_acons (m_var (pv 0)) (m_acons (m_var (pv 1)) (m_acons (m_int) m_anil))) rfl (len_cons (len_cons (len_cons (fun _ _ _ _ h => len_nil h))))) (m_int) (nomark _)) m_anil))) rfl (len_cons (len_cons (len_cons (fun _ _ _ _ h => len_nil h))))))) m_nil)
    (m_sone (m_ret (m_ixe (Ctx.hu c) (m_var (pv 2)) (m_call c (T := T) (d := f_l_law_pick) rfl rfl (by rfl) (m_acons (m_var (pv 0)) (m_acons (m_var (pv 1)) (m_acons (m_bi c_len (by rfl) Z.z_len bb_len (m_acons (m_var (pv 2)) m_anil)) m_anil))) rfl (len_cons (len_cons (len_cons (fun _ _ _ _ h => len_nil h))))) (fun _ _ => rfl)))))))
theorem lk_l_law_pool (Z : Zs P K mg) (c : Ctx (cxM P w K mg base f_l_law_pool f_l_law_pool.qual f cdv A outer s H E) T k (WE E)) : PSsm (cxM P w K mg base f_l_law_pool f_l_law_pool.qual f cdv A outer s H E) (WE E) (defBody f_l_law_pool.st) (b_l_law_pool (callK T k)) := by
  unfold b_l_law_pool
  exact (m_sone (m_ret (m_bin m_add (m_lc (own := [("_law_k", 2)]) (Ctx.calm c) (sc_l_law_pool).nd (i_r1 (by rfl) Z.z_range (m_acons (m_int) m_anil)) (blkOk_by (N := f_l_law_pool.N) (sc := defScope f_l_law_pool.st) (by decide +kernel)) (fun _ _ _ _ _ => (g_nm (pg_name (i := 2) (sc_l_law_pool).nd rfl (by first | exact .inl rfl | exact .inr rfl)))) (fun _ _ _ _ _ => m_tsnil) (fun _ _ _ _ _ => (m_call c.blk (T := T) (d := f_l_law_name) rfl rfl (by rfl) (m_acons (m_var (pv 0)) (m_acons (m_var (pv 1)) (m_acons (m_cmp m_lt (m_var (pv 2)) (m_int) (nomark _)) m_anil))) rfl (len_cons (len_cons (len_cons (fun _ _ _ _ h => len_nil h)))))) (by decide)) (m_lst (m_acons (m_int) (m_acons (m_int) (m_acons (m_int) m_anil)))))))
theorem lk_l_law_any (Z : Zs P K mg) (c : Ctx (cxM P w K mg base f_l_law_any f_l_law_any.qual f cdv A outer s H E) T k (WE E)) : PSsm (cxM P w K mg base f_l_law_any f_l_law_any.qual f cdv A outer s H E) (WE E) (defBody f_l_law_any.st) (b_l_law_any (callK T k)) := by
  unfold b_l_law_any
  exact (m_cons (m_sput (Ctx.hu c) (m_bin m_sub (m_ixe (Ctx.hu c) (m_var (pv 0)) (m_int) (fun _ _ => rfl)) (m_int)) (m_var (pv 0)) (m_int))
    (m_cons (m_set (i := 4) (sc_l_law_any).nd rfl (by first | exact .inl rfl | exact .inr rfl) (m_call c (T := T) (d := f_l_law_head) rfl rfl (by rfl) (m_acons (m_var (pv 0)) (m_acons (m_var (pv 1)) (m_acons (m_var (pv 2)) m_anil))) rfl (len_cons (len_cons (len_cons (fun _ _ _ _ h => len_nil h))))))
    (m_cons (m_set (i := 5) (sc_l_law_any).nd rfl (by first | exact .inl rfl | exact .inr rfl) (m_lst m_anil))
    (m_cons (m_set (i := 6) (sc_l_law_any).nd rfl (by first | exact .inl rfl | exact .inr rfl) (m_call c (T := T) (d := f_l_law_pick) rfl rfl (by rfl) (m_acons (m_var (pv 0)) (m_acons (m_var (pv 1)) (m_acons (m_ixe (Ctx.hu c) (m_lst (m_acons (m_int) (m_acons (m_int) m_anil))) (m_ty c_int (by rfl) Z.z_int bb_int (m_acons (m_cmp m_gt (m_var (pv 3)) (m_int) (nomark _)) m_anil)) (fun _ _ => rfl)) m_anil))) rfl (len_cons (len_cons (len_cons (fun _ _ _ _ h => len_nil h))))))
    (m_cons (m_for (passes_of rfl) (Ctx.calm c) (i_r1 (by rfl) Z.z_range (m_acons (m_var (pv 6)) m_anil)) (g_nm (pg_name (i := 7) (sc_l_law_any).nd rfl (by first | exact .inl rfl | exact .inr rfl))) (m_sone (m_ifs ((m_tand (m_tcmp m_gt (m_ixe (Ctx.hu c) (m_var (pv 0)) (m_int) (fun _ _ => rfl)) (m_int) (nomark _)) (m_and1 (m_tcmp m_lt (m_var (pv 3)) (m_int) (nomark _))))).pt (m_sone (m_expr (m_meth tm_list PySem.F.plainAttrs_list PySem.F.slot_list_append PySem.F.type_list_append md_append (m_var (pv 5)) (m_acons (m_call c (T := T) (d := f_l_law_any) rfl rfl (by rfl) (m_acons (m_var (pv 0)) (m_acons (m_var (pv 1)) (m_acons (m_var (pv 2)) (m_acons (m_bin m_add (m_var (pv 3)) (m_int)) m_anil)))) rfl (len_cons (len_cons (len_cons (len_cons (fun _ _ _ _ h => len_nil h)))))) m_anil)))) m_nil)))
    (m_sone (m_ret (m_tup (m_acons (m_var (pv 4)) (m_acons (m_ty c_tuple (by rfl) Z.z_tuple bb_tuple (m_acons (m_var (pv 5)) m_anil)) m_anil))))))))))
theorem lk_l_law_deep (Z : Zs P K mg) (c : Ctx (cxM P w K mg base f_l_law_deep f_l_law_deep.qual f cdv A outer s H E) T k (WE E)) : PSsm (cxM P w K mg base f_l_law_deep f_l_law_deep.qual f cdv A outer s H E) (WE E) (defBody f_l_law_deep.st) (b_l_law_deep (callK T k)) := by
  unfold b_l_law_deep
  exact (m_cons (m_set (i := 4) (sc_l_law_deep).nd rfl (by first | exact .inl rfl | exact .inr rfl) (m_tup (m_acons (m_call c (T := T) (d := f_l_law_head) rfl rfl (by rfl) (m_acons (m_var (pv 0)) (m_acons (m_var (pv 1)) (m_acons (m_var (pv 2)) m_anil))) rfl (len_cons (len_cons (len_cons (fun _ _ _ _ h => len_nil h))))) (m_acons (m_tup m_anil) m_anil))))
    (m_cons (m_for (passes_of rfl) (Ctx.calm c) (i_r1 (by rfl) Z.z_range (m_acons (m_var (pv 3)) m_anil)) (g_nm (pg_name (i := 5) (sc_l_law_deep).nd rfl (by first | exact .inl rfl | exact .inr rfl))) (m_cons (m_set (i := 6) (sc_l_law_deep).nd rfl (by first | exact .inl rfl | exact .inr rfl) (m_lst (m_acons (m_var (pv 4)) m_anil)))
    (m_cons (m_ifs (m_tcmp (m_eq (Ctx.hu c)) (m_call c (T := T) (d := f_l_law_pick) rfl rfl (by rfl) (m_acons (m_var (pv 0)) (m_acons (m_var (pv 1)) (m_acons (m_int) m_anil))) rfl (len_cons (len_cons (len_cons (fun _ _ _ _ h => len_nil h))))) (m_int) (nomark _)) (m_sone (m_expr (m_meth tm_list PySem.F.plainAttrs_list PySem.F.slot_list_append PySem.F.type_list_append md_append (m_var (pv 6)) (m_acons (m_tup (m_acons (m_call c (T := T) (d := f_l_law_head) rfl rfl (by rfl) (m_acons (m_var (pv 0)) (m_acons (m_var (pv 1)) (m_acons (m_var (pv 2)) m_anil))) rfl (len_cons (len_cons (len_cons (fun _ _ _ _ h => len_nil h))))) (m_acons (m_tup m_anil) m_anil))) m_anil)))) m_nil)
    (m_cons (m_ifs (m_tcmp (m_eq (Ctx.hu c)) (m_call c (T := T) (d := f_l_law_pick) rfl rfl (by rfl) (m_acons (m_var (pv 0)) (m_acons (m_var (pv 1)) (m_acons (m_int) m_anil))) rfl (len_cons (len_cons (len_cons (fun _ _ _ _ h => len_nil h))))) (m_int) (nomark _)) (m_sone (m_set (i := 6) (sc_l_law_deep).nd rfl (by first | exact .inl rfl | exact .inr rfl) (m_bin m_add (m_lst (m_acons (m_tup (m_acons (m_call c (T := T) (d := f_l_law_head) rfl rfl (by rfl) (m_acons (m_var (pv 0)) (m_acons (m_var (pv 1)) (m_acons (m_var (pv 2)) m_anil))) rfl (len_cons (len_cons (len_cons (fun _ _ _ _ h => len_nil h))))) (m_acons (m_tup m_anil) m_anil))) m_anil)) (m_var (pv 6))))) m_nil)
    (m_sone (m_set (i := 4) (sc_l_law_deep).nd rfl (by first | exact .inl rfl | exact .inr rfl) (m_tup (m_acons (m_call c (T := T) (d := f_l_law_head) rfl rfl (by rfl) (m_acons (m_var (pv 0)) (m_acons (m_var (pv 1)) (m_acons (m_var (pv 2)) m_anil))) rfl (len_cons (len_cons (len_cons (fun _ _ _ _ h => len_nil h))))) (m_acons (m_ty c_tuple (by rfl) Z.z_tuple bb_tuple (m_acons (m_sle (m_var (pv 6)) m_ono (m_oso (m_int))) m_anil)) m_anil)))))))))
    (m_sone (m_ret (m_var (pv 4))))))
theorem lk_l_law_chain (Z : Zs P K mg) (c : Ctx (cxM P w K mg base f_l_law_chain f_l_law_chain.qual f cdv A outer s H E) T k (WE E)) : PSsm (cxM P w K mg base f_l_law_chain f_l_law_chain.qual f cdv A outer s H E) (WE E) (defBody f_l_law_chain.st) (b_l_law_chain (callK T k)) := by
  unfold b_l_law_chain
  exact (m_cons (m_set (i := 4) (sc_l_law_chain).nd rfl (by first | exact .inl rfl | exact .inr rfl) (m_tup (m_acons (m_call c (T := T) (d := f_l_law_head) rfl rfl (by rfl) (m_acons (m_var (pv 0)) (m_acons (m_var (pv 1)) (m_acons (m_var (pv 2)) m_anil))) rfl (len_cons (len_cons (len_cons (fun _ _ _ _ h => len_nil h))))) (m_acons (m_tup m_anil) m_anil))))
    (m_cons (m_for (passes_of rfl) (Ctx.calm c) (i_r1 (by rfl) Z.z_range (m_acons (m_bin m_sub (m_var (pv 3)) (m_int)) m_anil)) (g_nm (pg_name (i := 5) (sc_l_law_chain).nd rfl (by first | exact .inl rfl | exact .inr rfl))) (m_sone (m_set (i := 4) (sc_l_law_chain).nd rfl (by first | exact .inl rfl | exact .inr rfl) (m_tup (m_acons (m_call c (T := T) (d := f_l_law_head) rfl rfl (by rfl) (m_acons (m_var (pv 0)) (m_acons (m_var (pv 1)) (m_acons (m_var (pv 2)) m_anil))) rfl (len_cons (len_cons (len_cons (fun _ _ _ _ h => len_nil h))))) (m_acons (m_tup (m_acons (m_var (pv 4)) m_anil)) m_anil))))))
    (m_sone (m_ret (m_var (pv 4))))))
theorem lk_l_law_term (Z : Zs P K mg) (c : Ctx (cxM P w K mg base f_l_law_term f_l_law_term.qual f cdv A outer s H E) T k (WE E)) : PSsm (cxM P w K mg base f_l_law_term f_l_law_term.qual f cdv A outer s H E) (WE E) (defBody f_l_law_term.st) (b_l_law_term (callK T k)) := by
  unfold b_l_law_term
  exact (m_cons (m_ifs (m_tcmp (m_eq (Ctx.hu c)) (m_call c (T := T) (d := f_l_law_pick) rfl rfl (by rfl) (m_acons (m_var (pv 0)) (m_acons (m_var (pv 1)) (m_acons (m_int) m_anil))) rfl (len_cons (len_cons (len_cons (fun _ _ _ _ h => len_nil h))))) (m_int) (nomark _)) (m_sone (m_ret (m_call c (T := T) (d := f_l_law_chain) rfl rfl (by rfl) (m_acons (m_var (pv 0)) (m_acons (m_var (pv 1)) (m_acons (m_var (pv 2)) (m_acons (m_bin m_add (m_int) (m_call c (T := T) (d := f_l_law_pick) rfl rfl (by rfl) (m_acons (m_var (pv 0)) (m_acons (m_var (pv 1)) (m_acons (m_var (pv 3)) m_anil))) rfl (len_cons (len_cons (len_cons (fun _ _ _ _ h => len_nil h)))))) m_anil)))) rfl (len_cons (len_cons (len_cons (len_cons (fun _ _ _ _ h => len_nil h)))))))) m_nil)
    (m_cons (m_ifs (m_tcmp (m_eq (Ctx.hu c)) (m_call c (T := T) (d := f_l_law_pick) rfl rfl (by rfl) (m_acons (m_var (pv 0)) (m_acons (m_var (pv 1)) (m_acons (m_int) m_anil))) rfl (len_cons (len_cons (len_cons (fun _ _ _ _ h => len_nil h))))) (m_int) (nomark _)) (m_sone (m_ret (m_call c (T := T) (d := f_l_law_deep) rfl rfl (by rfl) (m_acons (m_var (pv 0)) (m_acons (m_var (pv 1)) (m_acons (m_var (pv 2)) (m_acons (m_call c (T := T) (d := f_l_law_pick) rfl rfl (by rfl) (m_acons (m_var (pv 0)) (m_acons (m_var (pv 1)) (m_acons (m_bin m_add (m_bin m_div (m_ty c_int (by rfl) Z.z_int bb_int (m_acons (m_var (pv 3)) m_anil)) (m_int)) (m_int)) m_anil))) rfl (len_cons (len_cons (len_cons (fun _ _ _ _ h => len_nil h))))) m_anil)))) rfl (len_cons (len_cons (len_cons (len_cons (fun _ _ _ _ h => len_nil h)))))))) m_nil)
    (m_cons (m_sput (Ctx.hu c) (m_call c (T := T) (d := f_l_law_pick) rfl rfl (by rfl) (m_acons (m_var (pv 0)) (m_acons (m_var (pv 1)) (m_acons (m_var (pv 3)) m_anil))) rfl (len_cons (len_cons (len_cons (fun _ _ _ _ h => len_nil h))))) (m_var (pv 0)) (m_int))
    (m_sone (m_ret (m_call c (T := T) (d := f_l_law_any) rfl rfl (by rfl) (m_acons (m_var (pv 0)) (m_acons (m_var (pv 1)) (m_acons (m_var (pv 2)) (m_acons (m_int) m_anil)))) rfl (len_cons (len_cons (len_cons (len_cons (fun _ _ _ _ h => len_nil h)))))))))))
theorem lk_l_law_heads (Z : Zs P K mg) (c : Ctx (cxM P w K mg base f_l_law_heads f_l_law_heads.qual f cdv A outer s H E) T k (WE E)) : PSsm (cxM P w K mg base f_l_law_heads f_l_law_heads.qual f cdv A outer s H E) (WE E) (defBody f_l_law_heads.st) (b_l_law_heads (callK T k)) := by
  unfold b_l_law_heads
  exact (m_cons (m_set (i := 1) (sc_l_law_heads).nd rfl (by first | exact .inl rfl | exact .inr rfl) (m_lst (m_acons (m_ixe (Ctx.hu c) (m_var (pv 0)) (m_int) (fun _ _ => rfl)) m_anil)))
    (m_cons (m_for (passes_of rfl) (Ctx.calm c) (i_seq (m_ixe (Ctx.hu c) (m_var (pv 0)) (m_int) (fun _ _ => rfl))) (g_nm (pg_name (i := 2) (sc_l_law_heads).nd rfl (by first | exact .inl rfl | exact .inr rfl))) (m_sone (m_expr (m_meth tm_list PySem.F.plainAttrs_list PySem.F.slot_list_extend PySem.F.type_list_extend md_extend (m_var (pv 1)) (m_acons (m_call c (T := T) (d := f_l_law_heads) rfl rfl (by rfl) (m_acons (m_var (pv 2)) m_anil) rfl (len_cons (fun _ _ _ _ h => len_nil h))) m_anil)))))
    (m_sone (m_ret (m_var (pv 1))))))
theorem lk_l_law_written (Z : Zs P K mg) (c : Ctx (cxM P w K mg base f_l_law_written f_l_law_written.qual f cdv A outer s H E) T k (WE E)) : PSsm (cxM P w K mg base f_l_law_written f_l_law_written.qual f cdv A outer s H E) (WE E) (defBody f_l_law_written.st) (b_l_law_written (callK T k)) := by
  unfold b_l_law_written
  exact (m_cons (m_set (i := 1) (sc_l_law_written).nd rfl (by first | exact .inl rfl | exact .inr rfl) (m_ty c_str (by rfl) Z.z_str bb_str (m_acons (m_ixe (Ctx.hu c) (m_var (pv 0)) (m_int) (fun _ _ => rfl)) m_anil)))
    (m_cons (m_ifs (m_tru (m_isi (t := .int) (m_ixe (Ctx.hu c) (m_var (pv 0)) (m_int) (fun _ _ => rfl)) (by rfl) Z.z_isinstance bb_isinstance (by rfl) Z.z_int bb_int)) (m_sone (m_set (i := 1) (sc_l_law_written).nd rfl (by first | exact .inl rfl | exact .inr rfl) (m_bin m_add (m_str) (m_var (pv 1))))) m_nil)
    (m_cons (m_for (passes_of rfl) (Ctx.calm c) (i_seq (m_ixe (Ctx.hu c) (m_var (pv 0)) (m_int) (fun _ _ => rfl))) (g_nm (pg_name (i := 2) (sc_l_law_written).nd rfl (by first | exact .inl rfl | exact .inr rfl))) (m_cons (m_set (i := 3) (sc_l_law_written).nd rfl (by first | exact .inl rfl | exact .inr rfl) (m_call c (T := T) (d := f_l_law_written) rfl rfl (by rfl) (m_acons (m_var (pv 2)) m_anil) rfl (len_cons (fun _ _ _ _ h => len_nil h))))
    (m_cons (m_ifs (m_tcmp m_gt (m_bi c_len (by rfl) Z.z_len bb_len (m_acons (m_ixe (Ctx.hu c) (m_var (pv 2)) (m_int) (fun _ _ => rfl)) m_anil)) (m_int) (nomark _)) (m_sone (m_set (i := 3) (sc_l_law_written).nd rfl (by first | exact .inl rfl | exact .inr rfl) (m_bin m_add (m_bin m_add (m_str) (m_var (pv 3))) (m_str)))) m_nil)
    (m_sone (m_set (i := 1) (sc_l_law_written).nd rfl (by first | exact .inl rfl | exact .inr rfl) (m_bin m_add (m_bin m_add (m_var (pv 1)) (m_str)) (m_var (pv 3))))))))
    (m_sone (m_ret (m_var (pv 1)))))))
theorem lk_law (Z : Zs P K mg) (c : Ctx (cxM P w K mg base f_law f_law.qual f cdv A outer s H E) T k (WE E)) : PSsm (cxM P w K mg base f_law f_law.qual f cdv A outer s H E) (WE E) (defBody f_law.st) (b_law (callK T k)) := by
  unfold b_law
  exact (m_cons (m_set (i := 1) (sc_law).nd rfl (by first | exact .inl rfl | exact .inr rfl) (m_lst (m_acons (m_int) (m_acons (m_int) (m_acons (m_int) (m_acons (m_int) m_anil))))))
    (m_cons (m_set (i := 2) (sc_law).nd rfl (by first | exact .inl rfl | exact .inr rfl) (m_call c (T := T) (d := f_l_law_pool) rfl rfl (by rfl) (m_acons (m_var (pv 1)) (m_acons (m_var (pv 0)) m_anil)) rfl (len_cons (len_cons (fun _ _ _ _ h => len_nil h)))))
    (m_cons (m_for (passes_of rfl) (Ctx.calm c) (i_r1 (by rfl) Z.z_range (m_acons (m_int) m_anil)) (g_nm (pg_name (i := 3) (sc_law).nd rfl (by first | exact .inl rfl | exact .inr rfl))) (m_cons (m_set (i := 4) (sc_law).nd rfl (by first | exact .inl rfl | exact .inr rfl) (m_call c (T := T) (d := f_l_law_term) rfl rfl (by rfl) (m_acons (m_var (pv 1)) (m_acons (m_var (pv 0)) (m_acons (m_var (pv 2)) (m_acons (m_int) m_anil)))) rfl (len_cons (len_cons (len_cons (len_cons (fun _ _ _ _ h => len_nil h)))))))
    (m_cons (m_ifs (m_tcmp (m_eq (Ctx.hu c)) (m_call c (T := T) (d := f_l_law_pick) rfl rfl (by rfl) (m_acons (m_var (pv 1)) (m_acons (m_var (pv 0)) (m_acons (m_int) m_anil))) rfl (len_cons (len_cons (len_cons (fun _ _ _ _ h => len_nil h))))) (m_int) (nomark _)) (m_sone (m_set (i := 4) (sc_law).nd rfl (by first | exact .inl rfl | exact .inr rfl) (m_call c (T := T) (d := f_l_law_deep) rfl rfl (by rfl) (m_acons (m_var (pv 1)) (m_acons (m_var (pv 0)) (m_acons (m_var (pv 2)) (m_acons (m_bin m_add (m_int) (m_call c (T := T) (d := f_l_law_pick) rfl rfl (by rfl) (m_acons (m_var (pv 1)) (m_acons (m_var (pv 0)) (m_acons (m_int) m_anil))) rfl (len_cons (len_cons (len_cons (fun _ _ _ _ h => len_nil h)))))) m_anil)))) rfl (len_cons (len_cons (len_cons (len_cons (fun _ _ _ _ h => len_nil h)))))))) m_nil)
    (m_cons (m_ifs (m_tcmp (m_eq (Ctx.hu c)) (m_call c (T := T) (d := f_l_law_pick) rfl rfl (by rfl) (m_acons (m_var (pv 1)) (m_acons (m_var (pv 0)) (m_acons (m_int) m_anil))) rfl (len_cons (len_cons (len_cons (fun _ _ _ _ h => len_nil h))))) (m_int) (nomark _)) (m_sone (m_set (i := 4) (sc_law).nd rfl (by first | exact .inl rfl | exact .inr rfl) (m_call c (T := T) (d := f_l_law_chain) rfl rfl (by rfl) (m_acons (m_var (pv 1)) (m_acons (m_var (pv 0)) (m_acons (m_var (pv 2)) (m_acons (m_bin m_add (m_int) (m_call c (T := T) (d := f_l_law_pick) rfl rfl (by rfl) (m_acons (m_var (pv 1)) (m_acons (m_var (pv 0)) (m_acons (m_int) m_anil))) rfl (len_cons (len_cons (len_cons (fun _ _ _ _ h => len_nil h)))))) m_anil)))) rfl (len_cons (len_cons (len_cons (len_cons (fun _ _ _ _ h => len_nil h)))))))) m_nil)
    (m_cons (m_set (i := 5) (sc_law).nd rfl (by first | exact .inl rfl | exact .inr rfl) (m_call c (T := T) (d := f_l_law_written) rfl rfl (by rfl) (m_acons (m_var (pv 4)) m_anil) rfl (len_cons (fun _ _ _ _ h => len_nil h))))
    (m_cons (m_for (passes_of rfl) (Ctx.calm c) (i_r1 (by rfl) Z.z_range (m_acons (m_int) m_anil)) (g_nm (pg_name (i := 6) (sc_law).nd rfl (by first | exact .inl rfl | exact .inr rfl))) (m_sone (m_ifs (m_tcmp m_gt (m_bi c_len (by rfl) Z.z_len bb_len (m_acons (m_var (pv 5)) m_anil)) (m_int) (nomark _)) (m_cons (m_set (i := 4) (sc_law).nd rfl (by first | exact .inl rfl | exact .inr rfl) (m_ixe (Ctx.hu c) (m_ixe (Ctx.hu c) (m_var (pv 4)) (m_int) (fun _ _ => rfl)) (m_int) (fun _ _ => rfl)))
    (m_sone (m_set (i := 5) (sc_law).nd rfl (by first | exact .inl rfl | exact .inr rfl) (m_call c (T := T) (d := f_l_law_written) rfl rfl (by rfl) (m_acons (m_var (pv 4)) m_anil) rfl (len_cons (fun _ _ _ _ h => len_nil h)))))) m_nil)))
    (m_cons (m_ifs ((m_tand (m_tcmp m_le (m_bi c_len (by rfl) Z.z_len bb_len (m_acons (m_call c (T := T) (d := f_l_law_heads) rfl rfl (by rfl) (m_acons (m_var (pv 4)) m_anil) rfl (len_cons (fun _ _ _ _ h => len_nil h))) m_anil)) (m_int) (nomark _)) (m_and1 (m_tnot (m_tru (m_call c (T := T) (d := f_l_law_same) rfl rfl (by rfl) (m_acons (m_call c (T := T) (d := f_write_term) rfl rfl (by rfl) (m_acons (m_var (pv 4)) m_anil) rfl (len_cons (fun _ _ _ _ h => len_nil h))) (m_acons (m_var (pv 5)) m_anil)) rfl (len_cons (len_cons (fun _ _ _ _ h => len_nil h))))))))).pt (m_sone (m_ret (m_bl))) m_nil)
    (m_sone (m_ifs (o_tand (o_tcmp m_le (m_bi c_len (by rfl) Z.z_len bb_len (m_acons (m_var (pv 5)) m_anil)) (o_int) (nomark _)) (t_and1 (t_tnot (t_tru (t_call c (T := T) (d := f_l_law_same) rfl rfl (by rfl) (t_acons (t_call c (T := T) (d := f_read_term) rfl rfl (by rfl) (t_acons (t_eof (m_var (pv 5))) t_anil) rfl (len_cons (fun _ _ _ _ h => len_nil h))) (t_acons (t_eof (m_var (pv 4))) t_anil)) rfl (len_cons (len_cons (fun _ _ _ _ h => len_nil h)))))))).pt (m_sone (m_ret (m_bl))) m_nil)))))))))
    (m_sone (m_ret (m_bl))))))
end
theorem lk_all {P : Program} {w : World} {K : PySem.W.Frag} {mg : Str → Option Value} {base : Heap} (Z : Zs P K mg) : ∀ (k fid : Nat) (d : FnI), T[fid]? = some d → ∀ (f : Addr) (cdv : Value) (A : Around) (outer : List Env) (s : Shared) (H : Hp) (E : XK), Ctx (cxM P w K mg base d d.qual f cdv A outer s H E) T k (WE E) → PBm d.hot (cxM P w K mg base d d.qual f cdv A outer s H E) (WE E) (defBody d.st) (d.body (callK T k))
  | _, 0, d, h => by cases (show some f_head_text = some d from h); exact fun _ _ _ _ _ _ _ c => lk_head_text Z c
  | _, 1, d, h => by cases (show some f_write_term = some d from h); exact fun _ _ _ _ _ _ _ c => lk_write_term Z c
  | _, 2, d, h => by cases (show some f_number_of = some d from h); exact fun _ _ _ _ _ _ _ c => lk_number_of Z c
  | _, 3, d, h => by cases (show some f_is_name = some d from h); exact fun _ _ _ _ _ _ _ c => lk_is_name Z c
  | _, 4, d, h => by cases (show some f_head_of = some d from h); exact fun _ _ _ _ _ _ _ c => lk_head_of Z c
  | _, 5, d, h => by cases (show some f_closed = some d from h); exact fun _ _ _ _ _ _ _ c => lk_closed Z c
  | _, 6, d, h => by cases (show some f_read_term = some d from h); exact fun _ _ _ _ _ _ _ c => lk_read_term Z c
  | _, 7, d, h => by cases (show some f_l_law_pick = some d from h); exact fun _ _ _ _ _ _ _ c => lk_l_law_pick Z c
  | _, 8, d, h => by cases (show some f_l_law_same = some d from h); exact fun _ _ _ _ _ _ _ c => lk_l_law_same Z c
  | _, 9, d, h => by cases (show some f_l_law_name = some d from h); exact fun _ _ _ _ _ _ _ c => lk_l_law_name Z c
  | _, 10, d, h => by cases (show some f_l_law_head = some d from h); exact fun _ _ _ _ _ _ _ c => lk_l_law_head Z c
  | _, 11, d, h => by cases (show some f_l_law_pool = some d from h); exact fun _ _ _ _ _ _ _ c => lk_l_law_pool Z c
  | _, 12, d, h => by cases (show some f_l_law_any = some d from h); exact fun _ _ _ _ _ _ _ c => lk_l_law_any Z c
  | _, 13, d, h => by cases (show some f_l_law_deep = some d from h); exact fun _ _ _ _ _ _ _ c => lk_l_law_deep Z c
  | _, 14, d, h => by cases (show some f_l_law_chain = some d from h); exact fun _ _ _ _ _ _ _ c => lk_l_law_chain Z c
  | _, 15, d, h => by cases (show some f_l_law_term = some d from h); exact fun _ _ _ _ _ _ _ c => lk_l_law_term Z c
  | _, 16, d, h => by cases (show some f_l_law_heads = some d from h); exact fun _ _ _ _ _ _ _ c => lk_l_law_heads Z c
  | _, 17, d, h => by cases (show some f_l_law_written = some d from h); exact fun _ _ _ _ _ _ _ c => lk_l_law_written Z c
  | _, 18, d, h => by cases (show some f_law = some d from h); exact fun _ _ _ _ _ _ _ c => lk_law Z c
  | _, n + 19, d, h => by cases (show none = some d from h)
theorem ft_all {K : PySem.W.Frag} {mg : Str → Option Value} (h_head_text : FnT K mg f_head_text) (h_write_term : FnT K mg f_write_term) (h_number_of : FnT K mg f_number_of) (h_is_name : FnT K mg f_is_name) (h_head_of : FnT K mg f_head_of) (h_closed : FnT K mg f_closed) (h_read_term : FnT K mg f_read_term) (h_l_law_pick : FnT K mg f_l_law_pick) (h_l_law_same : FnT K mg f_l_law_same) (h_l_law_name : FnT K mg f_l_law_name) (h_l_law_head : FnT K mg f_l_law_head) (h_l_law_pool : FnT K mg f_l_law_pool) (h_l_law_any : FnT K mg f_l_law_any) (h_l_law_deep : FnT K mg f_l_law_deep) (h_l_law_chain : FnT K mg f_l_law_chain) (h_l_law_term : FnT K mg f_l_law_term) (h_l_law_heads : FnT K mg f_l_law_heads) (h_l_law_written : FnT K mg f_l_law_written) (h_law : FnT K mg f_law) : ∀ (fid : Nat) (d : FnI), T[fid]? = some d → FnT K mg d
  | 0, d, h => by cases (show some f_head_text = some d from h); exact h_head_text
  | 1, d, h => by cases (show some f_write_term = some d from h); exact h_write_term
  | 2, d, h => by cases (show some f_number_of = some d from h); exact h_number_of
  | 3, d, h => by cases (show some f_is_name = some d from h); exact h_is_name
  | 4, d, h => by cases (show some f_head_of = some d from h); exact h_head_of
  | 5, d, h => by cases (show some f_closed = some d from h); exact h_closed
  | 6, d, h => by cases (show some f_read_term = some d from h); exact h_read_term
  | 7, d, h => by cases (show some f_l_law_pick = some d from h); exact h_l_law_pick
  | 8, d, h => by cases (show some f_l_law_same = some d from h); exact h_l_law_same
  | 9, d, h => by cases (show some f_l_law_name = some d from h); exact h_l_law_name
  | 10, d, h => by cases (show some f_l_law_head = some d from h); exact h_l_law_head
  | 11, d, h => by cases (show some f_l_law_pool = some d from h); exact h_l_law_pool
  | 12, d, h => by cases (show some f_l_law_any = some d from h); exact h_l_law_any
  | 13, d, h => by cases (show some f_l_law_deep = some d from h); exact h_l_law_deep
  | 14, d, h => by cases (show some f_l_law_chain = some d from h); exact h_l_law_chain
  | 15, d, h => by cases (show some f_l_law_term = some d from h); exact h_l_law_term
  | 16, d, h => by cases (show some f_l_law_heads = some d from h); exact h_l_law_heads
  | 17, d, h => by cases (show some f_l_law_written = some d from h); exact h_l_law_written
  | 18, d, h => by cases (show some f_law = some d from h); exact h_law
  | n + 19, d, h => by cases (show none = some d from h)
theorem bd_head_text : BdOk f_head_text := fun _ _ _ _ _ _ us hl => match us, hl with | [_], _ => rfl
theorem bd_write_term : BdOk f_write_term := fun _ _ _ _ _ _ us hl => match us, hl with | [_], _ => rfl
theorem bd_number_of : BdOk f_number_of := fun _ _ _ _ _ _ us hl => match us, hl with | [_], _ => rfl
theorem bd_is_name : BdOk f_is_name := fun _ _ _ _ _ _ us hl => match us, hl with | [_], _ => rfl
theorem bd_head_of : BdOk f_head_of := fun _ _ _ _ _ _ us hl => match us, hl with | [_], _ => rfl
theorem bd_closed : BdOk f_closed := fun _ _ _ _ _ _ us hl => match us, hl with | [_], _ => rfl
theorem bd_read_term : BdOk f_read_term := fun _ _ _ _ _ _ us hl => match us, hl with | [_], _ => rfl
theorem bd_l_law_pick : BdOk f_l_law_pick := fun _ _ _ _ _ _ us hl => match us, hl with | [_, _, _], _ => rfl
theorem bd_l_law_same : BdOk f_l_law_same := fun _ _ _ _ _ _ us hl => match us, hl with | [_, _], _ => rfl
theorem bd_l_law_name : BdOk f_l_law_name := fun _ _ _ _ _ _ us hl => match us, hl with | [_, _, _], _ => rfl
theorem bd_l_law_head : BdOk f_l_law_head := fun _ _ _ _ _ _ us hl => match us, hl with | [_, _, _], _ => rfl
theorem bd_l_law_pool : BdOk f_l_law_pool := fun _ _ _ _ _ _ us hl => match us, hl with | [_, _], _ => rfl
theorem bd_l_law_any : BdOk f_l_law_any := fun _ _ _ _ _ _ us hl => match us, hl with | [_, _, _, _], _ => rfl
theorem bd_l_law_deep : BdOk f_l_law_deep := fun _ _ _ _ _ _ us hl => match us, hl with | [_, _, _, _], _ => rfl
theorem bd_l_law_chain : BdOk f_l_law_chain := fun _ _ _ _ _ _ us hl => match us, hl with | [_, _, _, _], _ => rfl
theorem bd_l_law_term : BdOk f_l_law_term := fun _ _ _ _ _ _ us hl => match us, hl with | [_, _, _, _], _ => rfl
theorem bd_l_law_heads : BdOk f_l_law_heads := fun _ _ _ _ _ _ us hl => match us, hl with | [_], _ => rfl
theorem bd_l_law_written : BdOk f_l_law_written := fun _ _ _ _ _ _ us hl => match us, hl with | [_], _ => rfl
theorem bd_law : BdOk f_law := fun _ _ _ _ _ _ us hl => match us, hl with | [_], _ => rfl
theorem law_end {w : World} {K : PySem.W.Frag} {mg : Str → Option Value} {h : Heap} {fa : Addr} (hmg : mg "law" = some (.ref fa)) (Z : Zs PySem.Challenge.rw_drivefold_k03_terms_written_and_read.prog K mg) (h_head_text : FnT K mg f_head_text) (h_write_term : FnT K mg f_write_term) (h_number_of : FnT K mg f_number_of) (h_is_name : FnT K mg f_is_name) (h_head_of : FnT K mg f_head_of) (h_closed : FnT K mg f_closed) (h_read_term : FnT K mg f_read_term) (h_l_law_pick : FnT K mg f_l_law_pick) (h_l_law_same : FnT K mg f_l_law_same) (h_l_law_name : FnT K mg f_l_law_name) (h_l_law_head : FnT K mg f_l_law_head) (h_l_law_pool : FnT K mg f_l_law_pool) (h_l_law_any : FnT K mg f_l_law_any) (h_l_law_deep : FnT K mg f_l_law_deep) (h_l_law_chain : FnT K mg f_l_law_chain) (h_l_law_term : FnT K mg f_l_law_term) (h_l_law_heads : FnT K mg f_l_law_heads) (h_l_law_written : FnT K mg f_l_law_written) (h_law : FnT K mg f_law) : ∃ fd : FuncData, (∀ (s : Shared) (v : Value), BindsTo s fd ⟨[v], []⟩ [("_law_script", v)]) ∧ ∀ base : Heap, K.In base → base.Ns mainGlobals mg → FnOk PySem.Challenge.rw_drivefold_k03_terms_written_and_read.prog w K mg base (L2.CX PySem.Challenge.rw_drivefold_k03_terms_written_and_read.prog w) 231 fa fd ["_law_script"] (spEnd K (callK T 590 i_law)) := by
  have all := ft_all h_head_text h_write_term h_number_of h_is_name h_head_of h_closed h_read_term h_l_law_pick h_l_law_same h_l_law_name h_l_law_head h_l_law_pool h_l_law_any h_l_law_deep h_l_law_chain h_l_law_term h_l_law_heads h_l_law_written h_law
  exact law_of (d := f_law) all (fun base => lk_all (P := PySem.Challenge.rw_drivefold_k03_terms_written_and_read.prog) (base := base) Z) rfl rfl bd_law hmg
end Lw
open PySem PySem.W PyProof.Rows
set_option maxHeartbeats 0 in
theorem PySem.Challenge.cw_drivefold_k03_terms_written_and_read_holds : PySem.Challenge.rw_drivefold_k03_terms_written_and_read.Holds := by
  w_on; o_law; k_head; (case hw => w_witness2)
  k_fill
  refine L2.walk_of (l := PySem.Challenge.rw_drivefold_k03_terms_written_and_read) (n := 63) (k := 231) (x := "_law_script") (CX := fun w => L2.CX PySem.Challenge.rw_drivefold_k03_terms_written_and_read.prog w) (sp := fun w => Mi.spEnd _ (Mi.callK Lw.T 590 Lw.i_law)) rfl (by decide) rfl ⟨rfl, by decide, by decide⟩ (fun w h Y => PySem.W.kIn_of Y) ?F (fun _ _ a ns hl ho hS => Mi.end_of ho hS (Lw.law_true ns hl)) (fun _ _ _ _ _ h => Mi.cx_none h)
  case F =>
    intro w mg fa h KX G hmg
    refine' Lw.law_end (h := h) hmg ⟨PySem.W.mg_none_of KX G ?z_abs, PySem.W.mg_none_of KX G ?z_all, PySem.W.mg_none_of KX G ?z_bool, PySem.W.mg_none_of KX G ?z_int, PySem.W.mg_none_of KX G ?z_isinstance, PySem.W.mg_none_of KX G ?z_len, PySem.W.mg_none_of KX G ?z_range, PySem.W.mg_none_of KX G ?z_str, PySem.W.mg_none_of KX G ?z_tuple, Mi.mg_str KX G ?g_DIGITS, Mi.mg_str KX G ?g_LETTERS, Mi.mg_int KX G ?g_LONGEST_NAME, Mi.mg_int KX G ?g_LONGEST_NUMBER, ?p_BadTerm⟩ ?h_head_text ?h_write_term ?h_number_of ?h_is_name ?h_head_of ?h_closed ?h_read_term ?h_l_law_pick ?h_l_law_same ?h_l_law_name ?h_l_law_head ?h_l_law_pool ?h_l_law_any ?h_l_law_deep ?h_l_law_chain ?h_l_law_term ?h_l_law_heads ?h_l_law_written ?h_law
    (case z_abs => k_is)
    (case z_all => k_is)
    (case z_bool => k_is)
    (case z_int => k_is)
    (case z_isinstance => k_is)
    (case z_len => k_is)
    (case z_range => k_is)
    (case z_str => k_is)
    (case z_tuple => k_is)
    (case g_DIGITS => k_is)
    (case g_LETTERS => k_is)
    (case g_LONGEST_NAME => k_is)
    (case g_LONGEST_NUMBER => k_is)
    (case p_BadTerm => (refine' Mi.rp_mk KX G ?a ?b ?c ?d ?e; (case a => k_is); (case b => k_exc); (case c => k_is); (case d => k_is); (case e => k_is)))
    (case h_head_text => (refine' Mi.fnT_mk (x := "head_text") (st := Lw.topS 8) KX G Lw.sc_head_text Lw.bd_head_text rfl rfl ?a ?l ?c ?k; (case a => k_is); (case l => k_is); (case c => k_is); (case k => k_is)))
    (case h_write_term => (refine' Mi.fnT_mk (x := "write_term") (st := Lw.topS 9) KX G Lw.sc_write_term Lw.bd_write_term rfl rfl ?a ?l ?c ?k; (case a => k_is); (case l => k_is); (case c => k_is); (case k => k_is)))
    (case h_number_of => (refine' Mi.fnT_mk (x := "number_of") (st := Lw.topS 10) KX G Lw.sc_number_of Lw.bd_number_of rfl rfl ?a ?l ?c ?k; (case a => k_is); (case l => k_is); (case c => k_is); (case k => k_is)))
    (case h_is_name => (refine' Mi.fnT_mk (x := "is_name") (st := Lw.topS 11) KX G Lw.sc_is_name Lw.bd_is_name rfl rfl ?a ?l ?c ?k; (case a => k_is); (case l => k_is); (case c => k_is); (case k => k_is)))
    (case h_head_of => (refine' Mi.fnT_mk (x := "head_of") (st := Lw.topS 12) KX G Lw.sc_head_of Lw.bd_head_of rfl rfl ?a ?l ?c ?k; (case a => k_is); (case l => k_is); (case c => k_is); (case k => k_is)))
    (case h_closed => (refine' Mi.fnT_mk (x := "closed") (st := Lw.topS 13) KX G Lw.sc_closed Lw.bd_closed rfl rfl ?a ?l ?c ?k; (case a => k_is); (case l => k_is); (case c => k_is); (case k => k_is)))
    (case h_read_term => (refine' Mi.fnT_mk (x := "read_term") (st := Lw.topS 14) KX G Lw.sc_read_term Lw.bd_read_term rfl rfl ?a ?l ?c ?k; (case a => k_is); (case l => k_is); (case c => k_is); (case k => k_is)))
    (case h_l_law_pick => (refine' Mi.fnT_mk (x := "_law_pick") (st := Lw.topS 16) KX G Lw.sc_l_law_pick Lw.bd_l_law_pick rfl rfl ?a ?l ?c ?k; (case a => k_is); (case l => k_is); (case c => k_is); (case k => k_is)))
    (case h_l_law_same => (refine' Mi.fnT_mk (x := "_law_same") (st := Lw.topS 17) KX G Lw.sc_l_law_same Lw.bd_l_law_same rfl rfl ?a ?l ?c ?k; (case a => k_is); (case l => k_is); (case c => k_is); (case k => k_is)))
    (case h_l_law_name => (refine' Mi.fnT_mk (x := "_law_name") (st := Lw.topS 18) KX G Lw.sc_l_law_name Lw.bd_l_law_name rfl rfl ?a ?l ?c ?k; (case a => k_is); (case l => k_is); (case c => k_is); (case k => k_is)))
    (case h_l_law_head => (refine' Mi.fnT_mk (x := "_law_head") (st := Lw.topS 19) KX G Lw.sc_l_law_head Lw.bd_l_law_head rfl rfl ?a ?l ?c ?k; (case a => k_is); (case l => k_is); (case c => k_is); (case k => k_is)))
    (case h_l_law_pool => (refine' Mi.fnT_mk (x := "_law_pool") (st := Lw.topS 20) KX G Lw.sc_l_law_pool Lw.bd_l_law_pool rfl rfl ?a ?l ?c ?k; (case a => k_is); (case l => k_is); (case c => k_is); (case k => k_is)))
    (case h_l_law_any => (refine' Mi.fnT_mk (x := "_law_any") (st := Lw.topS 21) KX G Lw.sc_l_law_any Lw.bd_l_law_any rfl rfl ?a ?l ?c ?k; (case a => k_is); (case l => k_is); (case c => k_is); (case k => k_is)))
    (case h_l_law_deep => (refine' Mi.fnT_mk (x := "_law_deep") (st := Lw.topS 22) KX G Lw.sc_l_law_deep Lw.bd_l_law_deep rfl rfl ?a ?l ?c ?k; (case a => k_is); (case l => k_is); (case c => k_is); (case k => k_is)))
    (case h_l_law_chain => (refine' Mi.fnT_mk (x := "_law_chain") (st := Lw.topS 23) KX G Lw.sc_l_law_chain Lw.bd_l_law_chain rfl rfl ?a ?l ?c ?k; (case a => k_is); (case l => k_is); (case c => k_is); (case k => k_is)))
    (case h_l_law_term => (refine' Mi.fnT_mk (x := "_law_term") (st := Lw.topS 24) KX G Lw.sc_l_law_term Lw.bd_l_law_term rfl rfl ?a ?l ?c ?k; (case a => k_is); (case l => k_is); (case c => k_is); (case k => k_is)))
    (case h_l_law_heads => (refine' Mi.fnT_mk (x := "_law_heads") (st := Lw.topS 25) KX G Lw.sc_l_law_heads Lw.bd_l_law_heads rfl rfl ?a ?l ?c ?k; (case a => k_is); (case l => k_is); (case c => k_is); (case k => k_is)))
    (case h_l_law_written => (refine' Mi.fnT_mk (x := "_law_written") (st := Lw.topS 26) KX G Lw.sc_l_law_written Lw.bd_l_law_written rfl rfl ?a ?l ?c ?k; (case a => k_is); (case l => k_is); (case c => k_is); (case k => k_is)))
    (case h_law => (refine' Mi.fnT_mk (x := "law") (st := Lw.topS 27) KX G Lw.sc_law Lw.bd_law rfl rfl ?a ?l ?c ?k; (case a => k_is); (case l => k_is); (case c => k_is); (case k => k_is)))
