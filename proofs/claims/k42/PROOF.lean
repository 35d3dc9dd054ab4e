import PyProof.Rows.All
import Wide.All
import OpenK.AllK
import Wide.FinOn
import HandS.ForMost
import HandS.EndBits
import HandS.IsInst
import HandS.Style
import HandS.TupAny
import HandS.TupMul
import HandS.TupLe
import HandS.Flow
import HandS.Wide
import HandS.Zip
import HandS.Conv
import HandS.Deep
import KE.DataEq
import KE.DataCmp
import KE.DataMinMax
import KE.SortData
import KE.DataIsa
import KE.DataAny
import KE.DataFind
import HandS.RaiseMore
import HandS.More
import KE.GoesMore
import HandS.Iter
import HandS.Dict
import PyProof.StrOps2
import PyProof.Rows.StrInSeq
import PySem.Challenge.RW_mintscales_k42_whole_ingots_and_mixtures
set_option Elab.async false
set_option linter.all false
set_option maxRecDepth 100000
set_option maxHeartbeats 4000000
set_option autoImplicit false
namespace DL
open PySem PySem.Spec PyProof.Rows L2
noncomputable section
/-! ### data, results -/
abbrev D := PyData
structure Exc where
  cls : Str
  args : List Int
inductive Rs (α : Type) where
  | ok (a : α) | exc (e : Exc) | stuck
def Rs.bind {α β : Type} (x : Rs α) (f : α → Rs β) : Rs β := match x with
  | .ok a => f a
  | .exc e => .exc e
  | .stuck => .stuck
@[simp] theorem Rs.bind_ok {α β : Type} (a : α) (f : α → Rs β) : (Rs.ok a).bind f = f a := rfl
@[simp] theorem Rs.bind_exc {α β : Type} (e : Exc) (f : α → Rs β) : (Rs.exc e : Rs α).bind f = .exc e := rfl
@[simp] theorem Rs.bind_stuck {α β : Type} (f : α → Rs β) : (Rs.stuck : Rs α).bind f = .stuck := rfl
theorem Rs.of_bind {α β : Type} {x : Rs α} {f : α → Rs β} {b : β} (h : x.bind f = .ok b) : ∃ a, x = .ok a ∧ f a = .ok b := by
  cases x with
  | ok a => exact ⟨a, rfl, h⟩
  | exc e => cases h
  | stuck => cases h
/-- only if p -/
def Rs.grd {α : Type} (p : Prop) (x : Rs α) : Rs α := @ite _ p (Classical.propDecidable p) x .stuck
theorem Rs.of_grd {α : Type} {p : Prop} {x : Rs α} {a : α} (h : Rs.grd p x = .ok a) : p ∧ x = .ok a := by
  unfold Rs.grd at h
  split at h
  · exact ⟨by assumption, h⟩
  · cases h
theorem Rs.grd_pos {α : Type} {p : Prop} {x : Rs α} (h : p) : Rs.grd p x = x := if_pos h
inductive Slot where
  | val (d : D) | own (d : D)
abbrev DE := List (Option Slot)
/-- a name's content -/
def Slot.d : Slot → D
  | .val d => d
  | .own d => d
/-- an expression's meaning -/
abbrev SM (α : Type) := DE → Rs (α × DE)
def SM.andThen {α β : Type} (m : SM α) (f : α → SM β) : SM β := fun ρ => (m ρ).bind fun p => f p.1 p.2
/-! ### what a value holds -/
def keyD : Key → D
  | .inl i => .int i
  | .inr x => .str x
mutual
inductive Rp (K : PySem.W.Frag) (O : Addr → Prop) (H : Hp) : V → D → Prop
  | non : Rp K O H .non .none
  | bl (b : Bool) : Rp K O H (.bl b) (.bool b)
  | int (i : Int) : Rp K O H (.int i) (.int i)
  | str (x : Str) : Rp K O H (.str x) (.str x)
  | lst {a : Addr} {xs : List V} {ds : List D} : ((¬ O a ∧ Rd H a (.lst xs)) ∨ SqL K (fun _ => none) a xs) → RpAll K O H xs ds → Rp K O H (.ref a) (.list ds)
  | tup {a : Addr} {xs : List V} {ds : List D} : ((¬ O a ∧ Rd H a (.tup xs)) ∨ SqT K (fun _ => none) a xs) → RpAll K O H xs ds → Rp K O H (.ref a) (.tuple ds)
  | dic {a : Addr} {kvs : List (Key × V)} {es : List (D × D)} : ¬ O a → H a = some (.dK kvs) → es.map (·.1) = kvs.map (fun p => keyD p.1) → RpAll K O H (kvs.map (·.2)) (es.map (·.2)) → Rp K O H (.ref a) (.dict es)
  | dit {a : Addr} {kvs : List (List Key × V)} {es : List (D × D)} : ¬ O a → H a = some (.dT kvs) → es.map (·.1) = kvs.map (fun p => .tuple (p.1.map keyD)) → RpAll K O H (kvs.map (·.2)) (es.map (·.2)) → Rp K O H (.ref a) (.dict ((.none, .none) :: es))
inductive RpAll (K : PySem.W.Frag) (O : Addr → Prop) (H : Hp) : List V → List D → Prop
  | nil : RpAll K O H [] []
  | cons {v : V} {vs : List V} {d : D} {ds : List D} : Rp K O H v d → RpAll K O H vs ds → RpAll K O H (v :: vs) (d :: ds)
end
/-- all that is tracked and not owned is kept -/
def Ext (O : Addr → Prop) (H H' : Hp) : Prop := ∀ a o, H a = some o → ¬ O a → H' a = some o
def Ext0 (H H' : Hp) : Prop := ∀ a o, H a = some o → H' a = some o
theorem Ext0.refl {H : Hp} : Ext0 H H := fun _ _ h => h
theorem Ext0.trans {H H1 H2 : Hp} (a : Ext0 H H1) (b : Ext0 H1 H2) : Ext0 H H2 := fun x o h => b x o (a x o h)
theorem Ext0.ext {H H' : Hp} (e : Ext0 H H') {O : Addr → Prop} : Ext O H H' := fun a o h _ => e a o h
theorem Ext0.new {H : Hp} {p : Addr} {o : HO} (h : H p = none) : Ext0 H (upd H p o) := fun a u e => by
  rw [upd_ne (ne_of_none e h)]
  exact e
theorem Ext0.ne {H H' : Hp} (e : Ext0 H H') {a : Addr} (h : H a ≠ none) : H' a ≠ none := fun z => by
  cases q : H a with
  | none => exact h q
  | some o =>
    have := e a o q
    rw [z] at this
    cases this
theorem Ext.refl {O : Addr → Prop} {H : Hp} : Ext O H H := fun _ _ h _ => h
theorem Ext.rd {O : Addr → Prop} {H H' : Hp} (e : Ext O H H') {a : Addr} {u : HO} (h : Rd H a u) (n : ¬ O a) : Rd H' a u := by
  rcases h with h | ⟨o, h⟩
  · exact .inl (e a _ h n)
  · exact .inr ⟨o, e a _ h n⟩
theorem rd_ne {H : Hp} {a : Addr} {u : HO} (h : Rd H a u) : H a ≠ none := by
  rcases h with h | ⟨o, h⟩ <;> rw [h] <;> simp
section
variable {K : PySem.W.Frag} {O O' : Addr → Prop} {H H' : Hp}
mutual
theorem Rp.step (e : Ext O H H') (n : ∀ a, O' a → O a ∨ H a = none) : ∀ {v : V} {d : D}, Rp K O H v d → Rp K O' H' v d
  | _, _, .non => .non
  | _, _, .bl b => .bl b
  | _, _, .int i => .int i
  | _, _, .str x => .str x
  | _, _, .lst h ha => .lst (h.imp (fun h => ⟨fun z => (n _ z).elim h.1 fun q => rd_ne h.2 q, e.rd h.2 h.1⟩) id) (RpAll.step e n ha)
  | _, _, .tup h ha => .tup (h.imp (fun h => ⟨fun z => (n _ z).elim h.1 fun q => rd_ne h.2 q, e.rd h.2 h.1⟩) id) (RpAll.step e n ha)
  | _, _, .dic h1 h2 h3 ha => .dic (fun z => (n _ z).elim h1 fun q => by rw [h2] at q; cases q) (e _ _ h2 h1) h3 (RpAll.step e n ha)
  | _, _, .dit h1 h2 h3 ha => .dit (fun z => (n _ z).elim h1 fun q => by rw [h2] at q; cases q) (e _ _ h2 h1) h3 (RpAll.step e n ha)
theorem RpAll.step (e : Ext O H H') (n : ∀ a, O' a → O a ∨ H a = none) : ∀ {vs : List V} {ds : List D}, RpAll K O H vs ds → RpAll K O' H' vs ds
  | _, _, .nil => .nil
  | _, _, .cons h ha => .cons (Rp.step e n h) (RpAll.step e n ha)
end
theorem Rp.ext0 {v : V} {d : D} (h : Rp K O H v d) (e : Ext0 H H') : Rp K O H' v d := h.step e.ext fun _ z => .inl z
theorem RpAll.ext0 {v : List V} {d : List D} (h : RpAll K O H v d) (e : Ext0 H H') : RpAll K O H' v d := h.step e.ext fun _ z => .inl z
theorem Rp.less {v : V} {d : D} (h : Rp K O H v d) (n : ∀ a, O' a → O a) : Rp K O' H v d := h.step Ext.refl fun a z => .inl (n a z)
theorem RpAll.len : ∀ {vs : List V} {ds : List D}, RpAll K O H vs ds → vs.length = ds.length
  | _, _, .nil => rfl
  | _, _, .cons _ t => by rw [List.length_cons, List.length_cons, RpAll.len t]
theorem RpAll.get : ∀ {vs : List V} {ds : List D} {i : Nat} {d : D}, RpAll K O H vs ds → ds[i]? = some d → ∃ v, vs[i]? = some v ∧ Rp K O H v d
  | _, _, _, _, .nil, e => by simp at e
  | _, _, 0, _, .cons r _, e => by simp at e; subst e; exact ⟨_, rfl, r⟩
  | _, _, i + 1, _, .cons _ t, e => by
    obtain ⟨v, h1, h2⟩ := RpAll.get (i := i) t (by simpa using e)
    exact ⟨v, by simpa using h1, h2⟩
theorem RpAll.getV : ∀ {vs : List V} {ds : List D} {i : Nat} {v : V}, RpAll K O H vs ds → vs[i]? = some v → ∃ d, ds[i]? = some d ∧ Rp K O H v d
  | _, _, _, _, .nil, e => by simp at e
  | _, _, 0, _, .cons r _, e => by simp at e; subst e; exact ⟨_, rfl, r⟩
  | _, _, i + 1, _, .cons _ t, e => by
    obtain ⟨v, h1, h2⟩ := RpAll.getV (i := i) t (by simpa using e)
    exact ⟨v, by simpa using h1, h2⟩
theorem RpAll.append : ∀ {vs ws : List V} {ds es : List D}, RpAll K O H vs ds → RpAll K O H ws es → RpAll K O H (vs ++ ws) (ds ++ es)
  | _, _, _, _, .nil, s => s
  | _, _, _, _, .cons r t, s => .cons r (RpAll.append t s)
theorem RpAll.take : ∀ {vs : List V} {ds : List D} (n : Nat), RpAll K O H vs ds → RpAll K O H (vs.take n) (ds.take n)
  | _, _, 0, _ => .nil
  | _, _, _ + 1, .nil => .nil
  | _, _, n + 1, .cons r t => .cons r (RpAll.take n t)
theorem RpAll.drop : ∀ {vs : List V} {ds : List D} (n : Nat), RpAll K O H vs ds → RpAll K O H (vs.drop n) (ds.drop n)
  | _, _, 0, r => r
  | _, _, _ + 1, .nil => .nil
  | _, _, n + 1, .cons _ t => RpAll.drop n t
theorem RpAll.reverse {vs : List V} {ds : List D} (h : RpAll K O H vs ds) : RpAll K O H vs.reverse ds.reverse := by
  induction vs generalizing ds with
  | nil => cases h; exact .nil
  | cons v vs ih =>
    cases h with
    | cons r t =>
      rw [List.reverse_cons, List.reverse_cons]
      exact (ih t).append (.cons r .nil)
theorem RpAll.set {v : V} {d : D} (r : Rp K O H v d) : ∀ {vs : List V} {ds : List D} (i : Nat), RpAll K O H vs ds → RpAll K O H (vs.set i v) (ds.set i d)
  | _, _, _, .nil => .nil
  | _, _, 0, .cons _ t => .cons r t
  | _, _, i + 1, .cons q t => .cons q (RpAll.set r i t)
theorem RpAll.dropLast {vs : List V} {ds : List D} (h : RpAll K O H vs ds) : RpAll K O H vs.dropLast ds.dropLast := by
  rw [List.dropLast_eq_take, List.dropLast_eq_take, h.len]
  exact h.take _
theorem RpAll.eraseIdx : ∀ {vs : List V} {ds : List D} (i : Nat), RpAll K O H vs ds → RpAll K O H (vs.eraseIdx i) (ds.eraseIdx i)
  | _, _, _, .nil => .nil
  | _, _, 0, .cons _ t => t
  | _, _, i + 1, .cons q t => .cons q (RpAll.eraseIdx i t)
theorem RpAll.rep {vs : List V} {ds : List D} (h : RpAll K O H vs ds) : ∀ k : Nat, RpAll K O H (List.replicate k vs).flatten (List.replicate k ds).flatten
  | 0 => .nil
  | k + 1 => by
    rw [List.replicate_succ, List.replicate_succ, List.flatten_cons, List.flatten_cons]
    exact h.append (RpAll.rep h k)
theorem RpAll.ints : ∀ (ns : List Int), RpAll K O H (ns.map V.int) (ns.map PyData.int)
  | [] => .nil
  | n :: ns => .cons (.int n) (RpAll.ints ns)
theorem RpAll.ints_inv : ∀ {vs : List V} {ns : List Int}, RpAll K O H vs (ns.map PyData.int) → vs = ns.map V.int
  | _, [], h => by cases h; rfl
  | _, n :: ns, h => by
    cases h with
    | cons r t => cases r; rw [RpAll.ints_inv t]; rfl
theorem RpAll.bools_inv : ∀ {vs : List V} {ns : List Bool}, RpAll K O H vs (ns.map PyData.bool) → vs = ns.map V.bl
  | _, [], h => by cases h; rfl
  | _, n :: ns, h => by
    cases h with
    | cons r t => cases r; rw [RpAll.bools_inv t]; rfl
theorem RpAll.strs_inv : ∀ {vs : List V} {ns : List Str}, RpAll K O H vs (ns.map PyData.str) → vs = ns.map V.str
  | _, [], h => by cases h; rfl
  | _, n :: ns, h => by
    cases h with
    | cons r t => cases r; rw [RpAll.strs_inv t]; rfl
theorem RpAll.strs : ∀ (ns : List Str), RpAll K O H (ns.map V.str) (ns.map PyData.str)
  | [] => .nil
  | n :: ns => .cons (.str n) (RpAll.strs ns)
theorem RpAll.bools : ∀ (ns : List Bool), RpAll K O H (ns.map V.bl) (ns.map PyData.bool)
  | [] => .nil
  | n :: ns => .cons (.bl n) (RpAll.bools ns)
/-- at the top: a container that can be read (owned, too), its items strong -/
def Con (K : PySem.W.Frag) (O : Addr → Prop) (H : Hp) (v : V) : D → Prop
  | .list ds => ∃ a xs, v = .ref a ∧ SqL K H a xs ∧ RpAll K O H xs ds
  | .dict es => ∃ a, v = .ref a ∧ ((∃ kvs : List (Key × V), H a = some (.dK kvs) ∧ es.map (·.1) = kvs.map (fun p => keyD p.1) ∧ RpAll K O H (kvs.map (·.2)) (es.map (·.2))) ∨
      ∃ (kvs : List (List Key × V)) (es' : List (D × D)), es = (.none, .none) :: es' ∧ H a = some (.dT kvs) ∧ es'.map (·.1) = kvs.map (fun p => .tuple (p.1.map keyD)) ∧ RpAll K O H (kvs.map (·.2)) (es'.map (·.2)))
  | d => Rp K O H v d
theorem sqL_of {a : Addr} {xs : List V} (h : (¬ O a ∧ Rd H a (.lst xs)) ∨ SqL K (fun _ => none) a xs) : SqL K H a xs := by
  rcases h with ⟨_, h⟩ | h | h
  · exact .inl h
  · rcases h with h | ⟨_, h⟩ <;> cases h
  · exact .inr h
theorem sqT_of {a : Addr} {xs : List V} (h : (¬ O a ∧ Rd H a (.tup xs)) ∨ SqT K (fun _ => none) a xs) : SqT K H a xs := by
  rcases h with ⟨_, h⟩ | h | h
  · exact .inl h
  · rcases h with h | ⟨_, h⟩ <;> cases h
  · exact .inr h
theorem rp_tup {v : V} {ds : List D} (h : Rp K O H v (.tuple ds)) : ∃ a xs, v = .ref a ∧ SqT K H a xs ∧ RpAll K O H xs ds := by
  cases h with
  | tup h ha => exact ⟨_, _, rfl, sqT_of h, ha⟩
theorem Rp.con : ∀ {v : V} {d : D}, Rp K O H v d → Con K O H v d
  | _, _, .non => .non
  | _, _, .bl b => .bl b
  | _, _, .int i => .int i
  | _, _, .str x => .str x
  | _, _, .lst h ha => ⟨_, _, rfl, sqL_of h, ha⟩
  | _, _, .tup h ha => .tup h ha
  | _, _, .dic _ h2 h3 ha => ⟨_, rfl, .inl ⟨_, h2, h3, ha⟩⟩
  | _, _, .dit _ h2 h3 ha => ⟨_, rfl, .inr ⟨_, _, rfl, h2, h3, ha⟩⟩
end
/-! ### the state: names in slots, lists and dicts that this code alone may change -/
def Own (σ : L2.St) (ρ : DE) (a : Addr) : Prop := ∃ (i : Nat) (d : D), ρ[i]? = some (some (.own d)) ∧ σ[i]? = some (some (.ref a))
def OF (F : Addr → Prop) (σ : L2.St) (ρ : DE) (a : Addr) : Prop := F a ∨ Own σ ρ a
/-- an owned thing's content, as it stands -/
def Top (K : PySem.W.Frag) (O : Addr → Prop) (H : Hp) (a : Addr) : D → Prop
  | .list ds => ∃ xs, H a = some (.lst xs) ∧ RpAll K (fun b => O b ∨ b = a) H xs ds
  | .dict es => (∃ kvs : List (Key × V), H a = some (.dK kvs) ∧ es.map (·.1) = kvs.map (fun p => keyD p.1) ∧ RpAll K (fun b => O b ∨ b = a) H (kvs.map (·.2)) (es.map (·.2))) ∨
      ∃ (kvs : List (List Key × V)) (es' : List (D × D)), es = (.none, .none) :: es' ∧ H a = some (.dT kvs) ∧ es'.map (·.1) = kvs.map (fun p => .tuple (p.1.map keyD)) ∧ RpAll K (fun b => O b ∨ b = a) H (kvs.map (·.2)) (es'.map (·.2))
  | _ => False
section
variable {K : PySem.W.Frag} {O O' : Addr → Prop} {H H' : Hp}
theorem RpAll.less {v : List V} {d : List D} (h : RpAll K O H v d) (n : ∀ a, O' a → O a) : RpAll K O' H v d := h.step Ext.refl fun a z => .inl (n a z)
theorem Top.ne {a : Addr} {d : D} (h : Top K O H a d) : H a ≠ none := by
  cases d with
  | list ds => obtain ⟨xs, e, _⟩ := h; rw [e]; simp
  | dict es =>
    rcases h with ⟨kvs, e, _⟩ | ⟨kvs, es', _, e, _⟩ <;> rw [e] <;> simp
  | _ => exact h.elim
theorem Top.con {a : Addr} {d : D} (h : Top K O H a d) : Con K O H (.ref a) d := by
  cases d with
  | list ds => obtain ⟨xs, e, r⟩ := h; exact ⟨a, xs, rfl, .of e, r.less fun _ z => .inl z⟩
  | dict es =>
    rcases h with ⟨kvs, e, r1, r⟩ | ⟨kvs, es', rfl, e, r1, r⟩
    · exact ⟨a, rfl, .inl ⟨kvs, e, r1, r.less fun _ z => .inl z⟩⟩
    · exact ⟨a, rfl, .inr ⟨kvs, es', rfl, e, r1, r.less fun _ z => .inl z⟩⟩
  | _ => exact h.elim
/-- let go: it never changes from here -/
theorem Top.rp {a : Addr} {d : D} (h : Top K O H a d) (n : ∀ b, O' b → O b) (hn : ¬ O' a) : Rp K O' H (.ref a) d := by
  cases d with
  | list ds => obtain ⟨xs, e, r⟩ := h; exact .lst (.inl ⟨hn, .inl e⟩) (r.less fun b z => .inl (n b z))
  | dict es =>
    rcases h with ⟨kvs, e, r1, r⟩ | ⟨kvs, es', rfl, e, r1, r⟩
    · exact .dic hn e r1 (r.less fun b z => .inl (n b z))
    · exact .dit hn e r1 (r.less fun b z => .inl (n b z))
  | _ => exact h.elim
theorem Top.step' {a : Addr} {d : D} (h : Top K O H a d) (e : Ext (fun b => O b ∨ b = a) H H') (ea : ∀ o, H a = some o → H' a = some o) (n : ∀ b, O' b → (O b ∨ b = a) ∨ H b = none) : Top K O' H' a d := by
  have n2 : ∀ b, O' b ∨ b = a → (O b ∨ b = a) ∨ H b = none := fun b z => z.elim (n b) fun z => .inl (.inr z)
  cases d with
  | list ds => obtain ⟨xs, e1, r⟩ := h; exact ⟨xs, ea _ e1, r.step e n2⟩
  | dict es =>
    rcases h with ⟨kvs, e1, r1, r⟩ | ⟨kvs, es', e0, e1, r1, r⟩
    · exact .inl ⟨kvs, ea _ e1, r1, r.step e n2⟩
    · exact .inr ⟨kvs, es', e0, ea _ e1, r1, r.step e n2⟩
  | _ => exact h.elim
theorem Top.step {a : Addr} {d : D} (h : Top K O H a d) (e : Ext O H H') (ea : ∀ o, H a = some o → H' a = some o) (n : ∀ b, O' b → O b ∨ H b = none) : Top K O' H' a d :=
  h.step' (fun b o q z => e b o q fun y => z (.inl y)) ea fun b z => (n b z).imp .inl id
end
structure Rel (K : PySem.W.Frag) (F : Addr → Prop) (H : Hp) (σ : L2.St) (ρ : DE) : Prop where
  len : σ.length = ρ.length
  val : ∀ (i : Nat) (d : D), ρ[i]? = some (some (.val d)) → ∃ v, σ[i]? = some (some v) ∧ Rp K (OF F σ ρ) H v d
  mt : ∀ (i : Nat) (d : D), ρ[i]? = some (some (.own d)) → ∃ a, σ[i]? = some (some (.ref a)) ∧ Top K (OF F σ ρ) H a d
  inj : ∀ (i j : Nat) (d e : D) (a : Addr), ρ[i]? = some (some (.own d)) → ρ[j]? = some (some (.own e)) → σ[i]? = some (some (.ref a)) → σ[j]? = some (some (.ref a)) → i = j
  fre : ∀ a, F a → H a ≠ none ∧ ¬ Own σ ρ a
section
variable {K : PySem.W.Frag} {F : Addr → Prop} {H H' H'' : Hp} {σ : L2.St} {ρ ρ' ρ'' : DE}
theorem Rel.own_some (r : Rel K F H σ ρ) {a : Addr} (h : Own σ ρ a) : H a ≠ none := by
  obtain ⟨i, d, h1, h2⟩ := h
  obtain ⟨b, e1, t⟩ := r.mt i d h1
  rw [h2] at e1
  cases e1
  exact t.ne
theorem Rel.of_some (r : Rel K F H σ ρ) {a : Addr} (h : OF F σ ρ a) : H a ≠ none := h.elim (fun h => (r.fre a h).1) r.own_some
/-- new things alone -/
theorem Rel.ext0 (r : Rel K F H σ ρ) (e : Ext0 H H') : Rel K F H' σ ρ where
  len := r.len
  val := fun i d h => let ⟨v, h1, h2⟩ := r.val i d h; ⟨v, h1, h2.ext0 e⟩
  mt := fun i d h => let ⟨a, h1, h2⟩ := r.mt i d h; ⟨a, h1, h2.step e.ext (fun o q => e _ o q) fun b z => .inl z⟩
  inj := r.inj
  fre := fun a h => ⟨e.ne (r.fre a h).1, (r.fre a h).2⟩
/-- a new thing of somebody else's -/
theorem Rel.addF (r : Rel K F H σ ρ) {p : Addr} (n : H p = none) (x : Ext0 H H') (ep : H' p ≠ none) : Rel K (fun b => F b ∨ b = p) H' σ ρ := by
  have na : ¬ OF F σ ρ p := fun z => r.of_some z n
  have st : ∀ b, OF (fun b => F b ∨ b = p) σ ρ b → OF F σ ρ b ∨ H b = none := fun b z => by
    rcases z with (z | z) | z
    · exact .inl (.inl z)
    · exact .inr (by rw [z]; exact n)
    · exact .inl (.inr z)
  refine ⟨r.len, fun i d hd => ?_, fun i d hd => ?_, r.inj, fun b z => ?_⟩
  · obtain ⟨v, h1, h2⟩ := r.val i d hd
    exact ⟨v, h1, h2.step x.ext st⟩
  · obtain ⟨b, h1, h2⟩ := r.mt i d hd
    exact ⟨b, h1, h2.step x.ext (fun o q => x _ o q) st⟩
  · rcases z with z | z
    · exact ⟨x.ne (r.fre b z).1, (r.fre b z).2⟩
    · subst z
      exact ⟨ep, fun z => na (.inr z)⟩
theorem Rel.dropF {F' : Addr → Prop} (r : Rel K F' H σ ρ) (h : ∀ b, F b → F' b) : Rel K F H σ ρ := by
  have st : ∀ b, OF F σ ρ b → OF F' σ ρ b := fun b z => z.imp (h b) id
  refine ⟨r.len, fun i d hd => ?_, fun i d hd => ?_, r.inj, fun b z => r.fre b (h b z)⟩
  · obtain ⟨v, h1, h2⟩ := r.val i d hd
    exact ⟨v, h1, h2.less st⟩
  · obtain ⟨b, h1, h2⟩ := r.mt i d hd
    exact ⟨b, h1, h2.step Ext.refl (fun o q => q) fun b z => .inl (st b z)⟩
/-- behind an expression -/
structure EPost (K : PySem.W.Frag) (F : Addr → Prop) (σ : L2.St) (H : Hp) (ρ : DE) (H' : Hp) (ρ' : DE) : Prop where
  rel : Rel K F H' σ ρ'
  ext : Ext (Own σ ρ) H H'
  sub : ∀ a, Own σ ρ' a → Own σ ρ a
theorem EPost.refl (r : Rel K F H σ ρ) : EPost K F σ H ρ H ρ := ⟨r, Ext.refl, fun _ z => z⟩
theorem EPost.trans (a : EPost K F σ H ρ H' ρ') (b : EPost K F σ H' ρ' H'' ρ'') : EPost K F σ H ρ H'' ρ'' :=
  ⟨b.rel, fun x o h n => b.ext x o (a.ext x o h n) fun z => n (a.sub x z), fun x z => a.sub x (b.sub x z)⟩
theorem EPost.new (a : EPost K F σ H ρ H' ρ') (e : Ext0 H' H'') : EPost K F σ H ρ H'' ρ' :=
  ⟨a.rel.ext0 e, fun x o h n => e x o (a.ext x o h n), a.sub⟩
theorem EPost.of_new (r : Rel K F H σ ρ) (e : Ext0 H H') : EPost K F σ H ρ H' ρ := (EPost.refl r).new e
theorem EPost.dropF {F' : Addr → Prop} (a : EPost K F' σ H ρ H' ρ') (h : ∀ b, F b → F' b) : EPost K F σ H ρ H' ρ' := ⟨a.rel.dropF h, a.ext, a.sub⟩
/-- a value is carried over -/
theorem EPost.rp (a : EPost K F σ H ρ H' ρ') {v : V} {d : D} (h : Rp K (OF F σ ρ) H v d) : Rp K (OF F σ ρ') H' v d :=
  h.step (fun x o q n => a.ext x o q fun z => n (.inr z)) fun x z => .inl (z.imp id (a.sub x))
theorem EPost.rpAll (a : EPost K F σ H ρ H' ρ') {v : List V} {d : List D} (h : RpAll K (OF F σ ρ) H v d) : RpAll K (OF F σ ρ') H' v d :=
  h.step (fun x o q n => a.ext x o q fun z => n (.inr z)) fun x z => .inl (z.imp id (a.sub x))
end
/-! ### expressions -/
section
variable (K : PySem.W.Frag)
/-- the reading te does what m says -/
def DenE (te : TE) (m : SM D) : Prop := ∀ (F : Addr → Prop) (H : Hp) (σ : L2.St) (ρ ρ' : DE) (d : D) (Q : VK), Rel K F H σ ρ → m ρ = .ok (d, ρ') →
  (∀ v H', EPost K F σ H ρ H' ρ' → Rp K (OF F σ ρ') H' v d → Q v H') → te σ H Q
/-- the same for what is looked at at once -/
def DenC (te : TE) (m : SM D) : Prop := ∀ (F : Addr → Prop) (H : Hp) (σ : L2.St) (ρ ρ' : DE) (d : D) (Q : VK), Rel K F H σ ρ → m ρ = .ok (d, ρ') →
  (∀ v H', EPost K F σ H ρ H' ρ' → Con K (OF F σ ρ') H' v d → Q v H') → te σ H Q
def DenT (tt : TT) (m : SM Bool) : Prop := ∀ (F : Addr → Prop) (H : Hp) (σ : L2.St) (ρ ρ' : DE) (b : Bool) (Q : Bool → Hp → Prop), Rel K F H σ ρ → m ρ = .ok (b, ρ') →
  (∀ H', EPost K F σ H ρ H' ρ' → Q b H') → tt σ H Q
def DenL (ta : TA) (m : SM (List D)) : Prop := ∀ (F : Addr → Prop) (H : Hp) (σ : L2.St) (ρ ρ' : DE) (ds : List D) (Q : List V → Hp → Prop), Rel K F H σ ρ → m ρ = .ok (ds, ρ') →
  (∀ vs H', EPost K F σ H ρ H' ρ' → RpAll K (OF F σ ρ') H' vs ds → Q vs H') → ta σ H Q
/-- a new list (dict), nobody else's -/
def DenF (te : TE) (m : SM D) : Prop := ∀ (F : Addr → Prop) (H : Hp) (σ : L2.St) (ρ ρ' : DE) (d : D) (Q : VK), Rel K F H σ ρ → m ρ = .ok (d, ρ') →
  (∀ a H1 H', EPost K F σ H ρ H1 ρ' → H1 a = none → Ext0 H1 H' → Top K (OF F σ ρ') H' a d → Q (.ref a) H') → te σ H Q
end
section
variable {K : PySem.W.Frag} {te ta tb : TE} {m ma mb : SM D}
theorem DenE.con (h : DenE K te m) : DenC K te m := fun F H σ ρ ρ' d Q r e q => h F H σ ρ ρ' d Q r e fun v H' p rp => q v H' p rp.con
theorem DenF.e (h : DenF K te m) : DenE K te m := fun F H σ ρ ρ' d Q r e q => h F H σ ρ ρ' d Q r e fun a H1 H' p n x t => q _ H' (p.new x) (t.rp (fun _ z => z) fun z => p.rel.of_some z n)
theorem DenF.con (h : DenF K te m) : DenC K te m := h.e.con
def mC (d : D) : SM D := fun ρ => .ok (d, ρ)
theorem de_int {i : Int} : DenE K (tC (.int i)) (mC (.int i)) := fun F H σ ρ ρ' d Q r e q => by
  cases e
  exact q _ H (.refl r) (.int i)
theorem de_str {x : Str} : DenE K (tC (.str x)) (mC (.str x)) := fun F H σ ρ ρ' d Q r e q => by
  cases e
  exact q _ H (.refl r) (.str x)
theorem de_bl {b : Bool} : DenE K (tC (.bl b)) (mC (.bool b)) := fun F H σ ρ ρ' d Q r e q => by
  cases e
  exact q _ H (.refl r) (.bl b)
theorem de_non : DenE K (tC .non) (mC .none) := fun F H σ ρ ρ' d Q r e q => by
  cases e
  exact q _ H (.refl r) .non
/-- a value of the written part -/
def Wr (K : PySem.W.Frag) (v : V) (d : D) : Prop := Rp K (fun _ => True) (fun _ => none) v d
theorem Wr.rp {v : V} {d : D} (h : Wr K v d) {O : Addr → Prop} {H : Hp} : Rp K O H v d := Rp.step (fun a o e _ => by cases e) (fun a _ => .inr rfl) h
theorem de_wr {v : V} {d : D} (h : Wr K v d) : DenE K (tC v) (mC d) := fun F H σ ρ ρ' d Q r e q => by
  cases e
  exact q _ H (.refl r) h.rp
/-- a name: an owned thing is let go -/
def mVar (i : Nat) : SM D := fun ρ => match ρ[i]? with
  | some (some (.val d)) => .ok (d, ρ)
  | some (some (.own d)) => .ok (d, ρ.set i (some (.val d)))
  | _ => .stuck
/-- a name: its content is looked at -/
def mPeek (i : Nat) : SM D := fun ρ => match ρ[i]? with
  | some (some s) => .ok (s.d, ρ)
  | _ => .stuck
theorem own_set {σ : L2.St} {ρ : DE} {i : Nat} {d : D} {a : Addr} (h : Own σ (ρ.set i (some (.val d))) a) : Own σ ρ a ∧ ∃ j e, j ≠ i ∧ ρ[j]? = some (some (.own e)) ∧ σ[j]? = some (some (.ref a)) := by
  obtain ⟨j, e, h1, h2⟩ := h
  by_cases hj : i = j
  · subst hj
    rw [List.getElem?_set_self'] at h1
    cases q : ρ[i]? with
    | none => rw [q] at h1; cases h1
    | some s => rw [q] at h1; simp at h1
  · rw [List.getElem?_set_ne hj] at h1
    exact ⟨⟨j, e, h1, h2⟩, j, e, fun z => hj z.symm, h1, h2⟩
theorem Rel.freeze {F : Addr → Prop} {H : Hp} {σ : L2.St} {ρ : DE} {i : Nat} {d : D} (r : Rel K F H σ ρ) (h : ρ[i]? = some (some (.own d))) :
    EPost K F σ H ρ H (ρ.set i (some (.val d))) ∧ ∃ a, σ[i]? = some (some (.ref a)) ∧ Rp K (OF F σ (ρ.set i (some (.val d)))) H (.ref a) d := by
  obtain ⟨a, ea, t⟩ := r.mt i d h
  have hlt : i < ρ.length := by
    rcases Nat.lt_or_ge i ρ.length with z | z
    · exact z
    · rw [List.getElem?_eq_none z] at h; cases h
  have sub : ∀ b, OF F σ (ρ.set i (some (.val d))) b → OF F σ ρ b := fun b z => z.imp id fun z => (own_set z).1
  have na : ¬ OF F σ (ρ.set i (some (.val d))) a := fun z => by
    rcases z with z | z
    · exact (r.fre a z).2 ⟨i, d, h, ea⟩
    · obtain ⟨_, j, e, hj, h1, h2⟩ := own_set z
      exact hj (r.inj j i e d a h1 h h2 ea)
  have rpa : Rp K (OF F σ (ρ.set i (some (.val d)))) H (.ref a) d := t.rp sub na
  refine ⟨⟨⟨by rw [List.length_set]; exact r.len, fun j e hj => ?_, fun j e hj => ?_, fun j k e f b hj hk h1 h2 => ?_, fun b z => ⟨(r.fre b z).1, fun q => (r.fre b z).2 (own_set q).1⟩⟩, Ext.refl, fun b z => (own_set z).1⟩, a, ea, rpa⟩
  · by_cases hij : i = j
    · subst hij
      rw [List.getElem?_set_self hlt] at hj
      cases hj
      exact ⟨.ref a, ea, rpa⟩
    · rw [List.getElem?_set_ne hij] at hj
      obtain ⟨v, e1, e2⟩ := r.val j e hj
      exact ⟨v, e1, e2.less sub⟩
  · by_cases hij : i = j
    · subst hij
      rw [List.getElem?_set_self hlt] at hj
      cases hj
    · rw [List.getElem?_set_ne hij] at hj
      obtain ⟨b, e1, e2⟩ := r.mt j e hj
      exact ⟨b, e1, e2.step Ext.refl (fun _ q => q) fun c z => .inl (sub c z)⟩
  · have old : ∀ {j : Nat} {e : D}, (ρ.set i (some (Slot.val d)))[j]? = some (some (Slot.own e)) → ρ[j]? = some (some (Slot.own e)) := fun {j e} hj => by
      by_cases hij : i = j
      · subst hij
        rw [List.getElem?_set_self hlt] at hj
        cases hj
      · rw [List.getElem?_set_ne hij] at hj
        exact hj
    exact r.inj j k e f b (old hj) (old hk) h1 h2
theorem de_var {i : Nat} : DenE K (tVar i) (mVar i) := fun F H σ ρ ρ' d Q r e q => by
  unfold mVar at e
  split at e
  · rename_i d' hd
    cases e
    obtain ⟨v, h1, h2⟩ := r.val i _ hd
    exact ⟨v, h1, q v H (.refl r) h2⟩
  · rename_i d' hd
    cases e
    obtain ⟨p, a, h1, h2⟩ := r.freeze hd
    exact ⟨_, h1, q _ H p h2⟩
  · cases e
theorem dc_peek {i : Nat} : DenC K (tVar i) (mPeek i) := fun F H σ ρ ρ' d Q r e q => by
  unfold mPeek at e
  split at e
  · rename_i s hd
    cases e
    cases s with
    | val d =>
      obtain ⟨v, h1, h2⟩ := r.val i _ hd
      exact ⟨v, h1, q v H (.refl r) h2.con⟩
    | own d =>
      obtain ⟨a, h1, h2⟩ := r.mt i _ hd
      exact ⟨_, h1, q _ H (.refl r) h2.con⟩
  · cases e
/-! ### arguments in a row -/
def mNil : SM (List D) := fun ρ => .ok ([], ρ)
def mCons (m : SM D) (ms : SM (List D)) : SM (List D) := fun ρ => (m ρ).bind fun p => (ms p.2).bind fun q => .ok (p.1 :: q.1, q.2)
theorem dl_nil : DenL K tNil mNil := fun F H σ ρ ρ' ds Q r e q => by
  cases e
  exact q [] H (.refl r) .nil
theorem dl_cons {tr : TA} {ms : SM (List D)} (h : DenE K te m) (hr : DenL K tr ms) : DenL K (tCons te tr) (mCons m ms) := fun F H σ ρ ρ' ds Q r e q => by
  obtain ⟨⟨d, ρ1⟩, e1, e⟩ := Rs.of_bind e
  obtain ⟨⟨ds1, ρ2⟩, e2, e⟩ := Rs.of_bind e
  cases e
  exact h F H σ ρ ρ1 d _ r e1 fun v H1 p1 r1 => hr F H1 σ ρ1 ρ2 ds1 _ p1.rel e2 fun vs H2 p2 r2 => q (v :: vs) H2 (p1.trans p2) (.cons (p2.rp r1) r2)
/-! ### displays -/
def sz (n : Nat) : Prop := n ≤ sizeLine
instance (n : Nat) : Decidable (sz n) := inferInstanceAs (Decidable (n ≤ sizeLine))
def mTup (ms : SM (List D)) : SM D := fun ρ => (ms ρ).bind fun q => Rs.grd (sz q.1.length) (.ok (.tuple q.1, q.2))
def mLst (ms : SM (List D)) : SM D := fun ρ => (ms ρ).bind fun q => Rs.grd (sz q.1.length) (.ok (.list q.1, q.2))
theorem Top.of_new {F : Addr → Prop} {σ : L2.St} {ρ : DE} {H : Hp} {p : Addr} {xs : List V} {ds : List D} (hp : H p = none) (h : RpAll K (OF F σ ρ) H xs ds) : Top K (OF F σ ρ) (upd H p (.lst xs)) p (.list ds) :=
  ⟨xs, upd_same, h.step (Ext0.new hp).ext fun b z => z.elim .inl fun z => .inr (z ▸ hp)⟩
theorem de_tup {tr : TA} {ms : SM (List D)} (h : DenL K tr ms) : DenE K (tTup tr) (mTup ms) := fun F H σ ρ ρ' d Q r e q => by
  obtain ⟨⟨ds, ρ1⟩, e1, e⟩ := Rs.of_bind e
  obtain ⟨hz, e⟩ := Rs.of_grd e
  cases e
  refine h F H σ ρ ρ1 ds _ r e1 fun vs H1 p1 r1 => ⟨by rw [r1.len]; exact hz, fun p hp => ?_⟩
  exact q _ _ (p1.new (Ext0.new hp)) (.tup (.inl ⟨fun z => p1.rel.of_some z hp, .inl upd_same⟩) (r1.ext0 (Ext0.new hp)))
theorem df_lst {tr : TA} {ms : SM (List D)} (h : DenL K tr ms) : DenF K (tLst tr) (mLst ms) := fun F H σ ρ ρ' d Q r e q => by
  obtain ⟨⟨ds, ρ1⟩, e1, e⟩ := Rs.of_bind e
  obtain ⟨hz, e⟩ := Rs.of_grd e
  cases e
  refine h F H σ ρ ρ1 ds _ r e1 fun vs H1 p1 r1 => ⟨by rw [r1.len]; exact hz, fun p hp => ?_⟩
  exact q _ _ _ p1 hp (Ext0.new hp) (.of_new hp r1)
end
end
end DL
namespace DL
open PySem PySem.Spec PyProof.Rows L2
noncomputable section
/-! ### two-place operations -/
section
variable {K : PySem.W.Frag}
/-- what an operation by values asks and gives: containers may be owned, items are strong -/
def OpC (K : PySem.W.Frag) (r : R2) (f : D → D → Rs D) : Prop := ∀ (O : Addr → Prop) (H : Hp) (x y : V) (dx dy z : D) (Q : VK), (∀ a, O a → H a ≠ none) → Con K O H x dx → Con K O H y dy → f dx dy = .ok z →
  (∀ v H', Ext0 H H' → Rp K O H' v z → Q v H') → r x y H Q
/-- the same, the result a new list -/
def OpF (K : PySem.W.Frag) (r : R2) (f : D → D → Rs D) : Prop := ∀ (O : Addr → Prop) (H : Hp) (x y : V) (dx dy z : D) (Q : VK), (∀ a, O a → H a ≠ none) → Con K O H x dx → Con K O H y dy → f dx dy = .ok z →
  (∀ a H', H a = none → Ext0 H H' → Top K O H' a z → Q (.ref a) H') → r x y H Q
def UnC (K : PySem.W.Frag) (r : V → Hp → VK → Prop) (f : D → Rs D) : Prop := ∀ (O : Addr → Prop) (H : Hp) (x : V) (dx z : D) (Q : VK), (∀ a, O a → H a ≠ none) → Con K O H x dx → f dx = .ok z →
  (∀ v H', Ext0 H H' → Rp K O H' v z → Q v H') → r x H Q
def UnF (K : PySem.W.Frag) (r : V → Hp → VK → Prop) (f : D → Rs D) : Prop := ∀ (O : Addr → Prop) (H : Hp) (x : V) (dx z : D) (Q : VK), (∀ a, O a → H a ≠ none) → Con K O H x dx → f dx = .ok z →
  (∀ a H', H a = none → Ext0 H H' → Top K O H' a z → Q (.ref a) H') → r x H Q
def mBin (f : D → D → Rs D) (ma mb : SM D) : SM D := fun ρ => (ma ρ).bind fun p => (mb p.2).bind fun q => (f p.1 q.1).bind fun z => .ok (z, q.2)
/-- the left one a name: looked at behind the right one -/
def mBinP (f : D → D → Rs D) (i : Nat) (mb : SM D) : SM D := fun ρ => (mPeek i ρ).bind fun _ => (mb ρ).bind fun q => (mPeek i q.2).bind fun p => (f p.1 q.1).bind fun z => .ok (z, q.2)
def mUn (f : D → Rs D) (ma : SM D) : SM D := fun ρ => (ma ρ).bind fun p => (f p.1).bind fun z => .ok (z, p.2)
variable {ta tb : TE} {ma mb : SM D} {r : R2} {f : D → D → Rs D}
theorem peek_at {F : Addr → Prop} {H : Hp} {σ : L2.St} {ρ ρ' : DE} {i : Nat} {d : D} (rl : Rel K F H σ ρ) (e : mPeek i ρ = .ok (d, ρ')) : ρ' = ρ ∧ ∃ v, σ[i]? = some (some v) ∧ Con K (OF F σ ρ) H v d := by
  unfold mPeek at e
  split at e
  · rename_i s hd
    cases e
    cases s with
    | val d =>
      obtain ⟨v, h1, h2⟩ := rl.val i _ hd
      exact ⟨rfl, v, h1, h2.con⟩
    | own d =>
      obtain ⟨a, h1, h2⟩ := rl.mt i _ hd
      exact ⟨rfl, _, h1, h2.con⟩
  · cases e
theorem de_op (ho : OpC K r f) (ha : DenE K ta ma) (hb : DenC K tb mb) : DenE K (tOp r ta tb) (mBin f ma mb) := fun F H σ ρ ρ' d Q rl e q => by
  obtain ⟨⟨x, ρ1⟩, e1, e⟩ := Rs.of_bind e
  obtain ⟨⟨y, ρ2⟩, e2, e⟩ := Rs.of_bind e
  obtain ⟨z, e3, e⟩ := Rs.of_bind e
  cases e
  exact ha F H σ ρ ρ1 x _ rl e1 fun v H1 p1 r1 => hb F H1 σ ρ1 ρ2 y _ p1.rel e2 fun u H2 p2 r2 =>
    ho _ H2 v u x y d Q (fun a z => p2.rel.of_some z) (p2.rp r1).con r2 e3 fun w H3 e4 r3 => q w H3 ((p1.trans p2).new e4) r3
theorem df_op (ho : OpF K r f) (ha : DenE K ta ma) (hb : DenC K tb mb) : DenF K (tOp r ta tb) (mBin f ma mb) := fun F H σ ρ ρ' d Q rl e q => by
  obtain ⟨⟨x, ρ1⟩, e1, e⟩ := Rs.of_bind e
  obtain ⟨⟨y, ρ2⟩, e2, e⟩ := Rs.of_bind e
  obtain ⟨z, e3, e⟩ := Rs.of_bind e
  cases e
  exact ha F H σ ρ ρ1 x _ rl e1 fun v H1 p1 r1 => hb F H1 σ ρ1 ρ2 y _ p1.rel e2 fun u H2 p2 r2 =>
    ho _ H2 v u x y d Q (fun a z => p2.rel.of_some z) (p2.rp r1).con r2 e3 fun w H3 hn e4 r3 => q w H2 H3 (p1.trans p2) hn e4 r3
theorem peek_bind {i : Nat} {β : Type} {ρ : DE} {g : D × DE → Rs β} {b : β} (e : (mPeek i ρ).bind g = .ok b) : ∃ d, mPeek i ρ = .ok (d, ρ) ∧ g (d, ρ) = .ok b := by
  obtain ⟨⟨d, ρ'⟩, e1, e⟩ := Rs.of_bind e
  have : ρ' = ρ := by
    unfold mPeek at e1
    split at e1
    · cases e1; rfl
    · cases e1
  subst this
  refine ⟨d, e1, ?_⟩
  rw [e1] at e
  exact e
theorem de_opP {i : Nat} (ho : OpC K r f) (hb : DenC K tb mb) : DenE K (tOp r (tVar i) tb) (mBinP f i mb) := fun F H σ ρ ρ' d Q rl e q => by
  obtain ⟨x0, e0, e⟩ := peek_bind e
  obtain ⟨⟨y, ρ2⟩, e2, e⟩ := Rs.of_bind e
  obtain ⟨x, e1, e⟩ := peek_bind e
  obtain ⟨z, e3, e⟩ := Rs.of_bind e
  cases e
  obtain ⟨_, v, h1, _⟩ := peek_at rl e0
  refine ⟨v, h1, hb F H σ ρ _ y _ rl e2 fun u H2 p2 r2 => ?_⟩
  obtain ⟨_, v', h1', r1⟩ := peek_at p2.rel e1
  rw [h1] at h1'
  cases h1'
  exact ho _ H2 v u x y d Q (fun a z => p2.rel.of_some z) r1 r2 e3 fun w H3 e4 r3 => q w H3 (p2.new e4) r3
theorem df_opP {i : Nat} (ho : OpF K r f) (hb : DenC K tb mb) : DenF K (tOp r (tVar i) tb) (mBinP f i mb) := fun F H σ ρ ρ' d Q rl e q => by
  obtain ⟨x0, e0, e⟩ := peek_bind e
  obtain ⟨⟨y, ρ2⟩, e2, e⟩ := Rs.of_bind e
  obtain ⟨x, e1, e⟩ := peek_bind e
  obtain ⟨z, e3, e⟩ := Rs.of_bind e
  cases e
  obtain ⟨_, v, h1, _⟩ := peek_at rl e0
  refine ⟨v, h1, hb F H σ ρ _ y _ rl e2 fun u H2 p2 r2 => ?_⟩
  obtain ⟨_, v', h1', r1⟩ := peek_at p2.rel e1
  rw [h1] at h1'
  cases h1'
  exact ho _ H2 v u x y d Q (fun a z => p2.rel.of_some z) r1 r2 e3 fun w H3 hn e4 r3 => q w H2 H3 p2 hn e4 r3
theorem de_un {r : V → Hp → VK → Prop} {f : D → Rs D} (ho : UnC K r f) (ha : DenC K ta ma) : DenE K (tUn r ta) (mUn f ma) := fun F H σ ρ ρ' d Q rl e q => by
  obtain ⟨⟨x, ρ1⟩, e1, e⟩ := Rs.of_bind e
  obtain ⟨z, e3, e⟩ := Rs.of_bind e
  cases e
  exact ha F H σ ρ _ x _ rl e1 fun v H1 p1 r1 => ho _ H1 v x d Q (fun a z => p1.rel.of_some z) r1 e3 fun w H3 e4 r3 => q w H3 (p1.new e4) r3
theorem OpC.or {r r' : R2} {f g : D → D → Rs D} (h : OpC K r f) (h' : OpC K r' g) (c : D → D → Bool) : OpC K (fun x y H Q => r x y H Q ∨ r' x y H Q) (fun a b => if c a b = true then f a b else g a b) := fun O H x y dx dy z Q hO h1 h2 e q => by
  by_cases hc : c dx dy = true
  · exact .inl (h O H x y dx dy z Q hO h1 h2 ((if_pos hc).symm.trans e) q)
  · have e := (if_neg hc).symm.trans e
    exact .inr (h' O H x y dx dy z Q hO h1 h2 e q)
/-! ### numbers -/
theorem OpC.int {g : Int → Int → Int} {f : D → D → Rs D} (hf : ∀ a b z, f a b = .ok z → ∃ i j, a = .int i ∧ b = .int j ∧ z = .int (g i j)) : OpC K (rI0 fun i j => .int (g i j)) f := fun O H x y dx dy z Q hO h1 h2 e q => by
  obtain ⟨i, j, rfl, rfl, rfl⟩ := hf _ _ _ e
  cases (show Rp K O H x (.int i) from h1)
  cases (show Rp K O H y (.int j) from h2)
  exact ⟨i, j, rfl, rfl, q _ H Ext0.refl (.int _)⟩
theorem OpC.intC {C : Int → Int → Prop} {g : Int → Int → Int} {f : D → D → Rs D} (hf : ∀ a b z, f a b = .ok z → ∃ i j, a = .int i ∧ b = .int j ∧ z = .int (g i j) ∧ C i j) : OpC K (rI C fun i j => .int (g i j)) f := fun O H x y dx dy z Q hO h1 h2 e q => by
  obtain ⟨i, j, rfl, rfl, rfl, hc⟩ := hf _ _ _ e
  cases (show Rp K O H x (.int i) from h1)
  cases (show Rp K O H y (.int j) from h2)
  exact ⟨i, j, rfl, rfl, hc, q _ H Ext0.refl (.int _)⟩
theorem OpC.bool {g : Int → Int → Bool} {f : D → D → Rs D} (hf : ∀ a b z, f a b = .ok z → ∃ i j, a = .int i ∧ b = .int j ∧ z = .bool (g i j)) : OpC K (rI0 fun i j => .bl (g i j)) f := fun O H x y dx dy z Q hO h1 h2 e q => by
  obtain ⟨i, j, rfl, rfl, rfl⟩ := hf _ _ _ e
  cases (show Rp K O H x (.int i) from h1)
  cases (show Rp K O H y (.int j) from h2)
  exact ⟨i, j, rfl, rfl, q _ H Ext0.refl (.bl _)⟩
def dSub : D → D → Rs D
  | .int i, .int j => .ok (.int (i - j))
  | _, _ => .stuck
theorem oc_sub : OpC K (rI0 fun i j => .int (i - j)) dSub := OpC.int fun a b z e => by
  unfold dSub at e
  split at e
  · cases e; exact ⟨_, _, rfl, rfl, rfl⟩
  · cases e
instance (i j : Int) : Decidable (CMulW i j) := inferInstanceAs (Decidable (_ < _))
instance (i j : Int) : Decidable (CDivW i j) := inferInstanceAs (Decidable (_ ∧ _))
instance (i j : Int) : Decidable (CPow i j) := inferInstanceAs (Decidable (_ ∧ _))
instance (i j : Int) : Decidable (CMul i j) := inferInstanceAs (Decidable (_ ∨ _))
def dFdiv : D → D → Rs D
  | .int i, .int j => Rs.grd (CDivW i j) (.ok (.int (i / j)))
  | _, _ => .stuck
theorem oc_fdiv : OpC K (rI CDivW fun i j => .int (i / j)) dFdiv := OpC.intC fun a b z e => by
  unfold dFdiv at e
  split at e
  · obtain ⟨h, e⟩ := Rs.of_grd e; cases e; exact ⟨_, _, rfl, rfl, rfl, h⟩
  · cases e
def dMod : D → D → Rs D
  | .int i, .int j => Rs.grd (0 < j) (.ok (.int (i % j)))
  | _, _ => .stuck
theorem oc_mod : OpC K (rI (fun _ j => 0 < j) fun i j => .int (i % j)) dMod := OpC.intC fun a b z e => by
  unfold dMod at e
  split at e
  · obtain ⟨h, e⟩ := Rs.of_grd e; cases e; exact ⟨_, _, rfl, rfl, rfl, h⟩
  · cases e
def dPow : D → D → Rs D
  | .int i, .int j => Rs.grd (CPow i j) (.ok (.int (i ^ j.toNat)))
  | _, _ => .stuck
theorem oc_pow : OpC K (rI CPow fun i j => .int (i ^ j.toNat)) dPow := OpC.intC fun a b z e => by
  unfold dPow at e
  split at e
  · obtain ⟨h, e⟩ := Rs.of_grd e; cases e; exact ⟨_, _, rfl, rfl, rfl, h⟩
  · cases e
def dShl : D → D → Rs D
  | .int i, .int j => Rs.grd (CPow i j) (.ok (.int (i * 2 ^ j.toNat)))
  | _, _ => .stuck
theorem oc_shl : OpC K (rI CPow fun i j => .int (i * 2 ^ j.toNat)) dShl := OpC.intC fun a b z e => by
  unfold dShl at e
  split at e
  · obtain ⟨h, e⟩ := Rs.of_grd e; cases e; exact ⟨_, _, rfl, rfl, rfl, h⟩
  · cases e
def dShr : D → D → Rs D
  | .int i, .int j => Rs.grd (0 ≤ j) (.ok (.int (i / 2 ^ j.toNat)))
  | _, _ => .stuck
theorem oc_shr : OpC K (rI (fun _ j => 0 ≤ j) fun i j => .int (i / 2 ^ j.toNat)) dShr := OpC.intC fun a b z e => by
  unfold dShr at e
  split at e
  · obtain ⟨h, e⟩ := Rs.of_grd e; cases e; exact ⟨_, _, rfl, rfl, rfl, h⟩
  · cases e
def dAnd : D → D → Rs D
  | .int i, .int j => .ok (.int (Builtin.bitAnd i j))
  | _, _ => .stuck
theorem oc_and : OpC K (rI0 fun i j => .int (Builtin.bitAnd i j)) dAnd := OpC.int fun a b z e => by
  unfold dAnd at e
  split at e
  · cases e; exact ⟨_, _, rfl, rfl, rfl⟩
  · cases e
def dOrB : D → D → Rs D
  | .int i, .int j => .ok (.int (Builtin.bitOr i j))
  | _, _ => .stuck
theorem oc_or : OpC K (rI0 fun i j => .int (Builtin.bitOr i j)) dOrB := OpC.int fun a b z e => by
  unfold dOrB at e
  split at e
  · cases e; exact ⟨_, _, rfl, rfl, rfl⟩
  · cases e
def dNeg : D → Rs D
  | .int i => .ok (.int (-i))
  | _ => .stuck
theorem uc_neg : UnC K (rU fun i => .int (-i)) dNeg := fun O H x dx z Q hO h1 e q => by
  unfold dNeg at e
  split at e
  · cases e
    cases (show Rp K O H x (.int _) from h1)
    exact ⟨_, rfl, q _ H Ext0.refl (.int _)⟩
  · cases e
def dInv : D → Rs D
  | .int i => .ok (.int (Builtin.bitNot i))
  | _ => .stuck
theorem uc_inv : UnC K (rU fun i => .int (Builtin.bitNot i)) dInv := fun O H x dx z Q hO h1 e q => by
  unfold dInv at e
  split at e
  · cases e
    cases (show Rp K O H x (.int _) from h1)
    exact ⟨_, rfl, q _ H Ext0.refl (.int _)⟩
  · cases e
/-! ### + and * of several kinds -/
/-- list + list, read alone -/
def rCatL (K : PySem.W.Frag) : R2 := fun x y H Q => ∃ l b xs zs, x = .ref l ∧ y = .ref b ∧ SqL K H l xs ∧ SqL K H b zs ∧ xs.length + zs.length ≤ sizeLine ∧ ∀ p, H p = none → Q (.ref p) (upd H p (.lst (xs ++ zs)))
theorem add_listP {prog : Program} {w : World} {A : Around} {E : Value → Shared → Prop} {s : Shared} {l b : Addr} {x y : Array Value} {Q : Value → Shared → Prop} (hl : PlainL s.heap l x) (hb : PlainL s.heap b y)
    (h : Q (.ref s.heap.objs.size) { s with heap := s.heap.push { cls := .type "list", data := .seq (x ++ y) } }) (hz : x.size + y.size ≤ sizeLine) :
    wpAny (model prog w) A (binaryOp .Add (.ref l) (.ref b)) Q E s := by
  obtain ⟨⟨cls, dd, data, sl⟩, n, ho, hc, hd, hdt⟩ := hl
  obtain ⟨⟨cls2, dd2, data2, sl2⟩, n2, ho2, hc2, hd2, hdt2⟩ := hb
  simp only at hc hd hdt hc2 hd2 hdt2
  subst hc hdt hc2 hdt2
  exact concat_meets ⟨_, ho, rfl⟩ ⟨_, ho2, rfl⟩ noFill_list_add seq_list_add PySem.F.slot_list_add PySem.F.entry_list_add (PySem.F.args_list_add_2 _ _) (PyProof.Rows.list_addW l b x y n n2 dd dd2 sl sl2 hz) ⟨ho, ho2, h⟩
theorem op_catL {X : Cx} : OpR X (binaryOp .Add) (rCatL X.K) := by
  intro pins s σ H x y v u Q I rx ry h
  obtain ⟨l, b, xs, zs, rfl, rfl, hH, hB, hz, q⟩ := h
  cases rx
  cases ry
  obtain ⟨its, r, hl, _⟩ := I.list hH
  obtain ⟨its2, r2, hl2, _⟩ := I.list hB
  have z1 := r.length
  have z2 := r2.length
  refine add_listP hl hl2 ?_ (by rw [List.size_toArray, List.size_toArray]; omega)
  have ea : its.toArray ++ its2.toArray = (its ++ its2).toArray := by simp
  rw [ea]
  exact ⟨.ref _, _, I.lnew (t' := s.toks) (r.append r2) (by rw [List.length_append]; omega), rfl, q _ I.fresh⟩
def dCatL : D → D → Rs D
  | .list a, .list b => Rs.grd (sz (a.length + b.length)) (.ok (.list (a ++ b)))
  | _, _ => .stuck
theorem of_catL : OpF K (rCatL K) dCatL := fun O H x y dx dy z Q hO h1 h2 e q => by
  unfold dCatL at e
  split at e
  · obtain ⟨hz, e⟩ := Rs.of_grd e
    cases e
    obtain ⟨a, xs, rfl, s1, r1⟩ := h1
    obtain ⟨b, ys, rfl, s2, r2⟩ := h2
    refine ⟨a, b, xs, ys, rfl, rfl, s1, s2, by rw [r1.len, r2.len]; exact hz, fun p hp => ?_⟩
    exact q p _ hp (Ext0.new hp) ⟨_, upd_same, (r1.append r2).step (Ext0.new hp).ext fun b z => z.elim .inl fun z => .inr (z ▸ hp)⟩
  · cases e
/-- + of numbers, texts, tuples (a list's + makes a new list: dCatL) -/
def rAddA (K : PySem.W.Frag) : R2 := fun x y H Q => rI0 (fun i j => .int (i + j)) x y H Q ∨ (∃ i j, x = .str i ∧ y = .str j ∧ i.length + j.length ≤ sizeLine ∧ Q (.str (i ++ j)) H) ∨ rCatA K x y H Q ∨ rCatL K x y H Q
theorem op_addA {X : Cx} : OpR X (binaryOp .Add) (rAddA X.K) := OpR.or op_add (OpR.or op_add_str (OpR.or op_catA op_catL))
def dAdd : D → D → Rs D
  | .int i, .int j => .ok (.int (i + j))
  | .str i, .str j => Rs.grd (sz (i.length + j.length)) (.ok (.str (i ++ j)))
  | .tuple a, .tuple b => Rs.grd (sz (a.length + b.length)) (.ok (.tuple (a ++ b)))
  | .list a, .list b => Rs.grd (sz (a.length + b.length)) (.ok (.list (a ++ b)))
  | _, _ => .stuck
theorem con_int {O : Addr → Prop} {H : Hp} {x : V} {i : Int} (h : Con K O H x (.int i)) : x = .int i := by
  cases (show Rp K O H x (.int i) from h); rfl
theorem con_str {O : Addr → Prop} {H : Hp} {x : V} {i : Str} (h : Con K O H x (.str i)) : x = .str i := by
  cases (show Rp K O H x (.str i) from h); rfl
theorem con_bl {O : Addr → Prop} {H : Hp} {x : V} {i : Bool} (h : Con K O H x (.bool i)) : x = .bl i := by
  cases (show Rp K O H x (.bool i) from h); rfl
theorem con_non {O : Addr → Prop} {H : Hp} {x : V} (h : Con K O H x .none) : x = .non := by
  cases (show Rp K O H x .none from h); rfl
theorem tup_new {O : Addr → Prop} {H : Hp} {p : Addr} {xs : List V} {ds : List D} (hO : ∀ a, O a → H a ≠ none) (hp : H p = none) (r : RpAll K O H xs ds) : Rp K O (upd H p (.tup xs)) (.ref p) (.tuple ds) :=
  .tup (.inl ⟨fun z => hO p z hp, .inl upd_same⟩) (r.ext0 (Ext0.new hp))
theorem lst_new {O : Addr → Prop} {H : Hp} {p : Addr} {xs : List V} {ds : List D} (hO : ∀ a, O a → H a ≠ none) (hp : H p = none) (r : RpAll K O H xs ds) : Rp K O (upd H p (.lst xs)) (.ref p) (.list ds) :=
  .lst (.inl ⟨fun z => hO p z hp, .inl upd_same⟩) (r.ext0 (Ext0.new hp))
theorem top_new {O : Addr → Prop} {H : Hp} {p : Addr} {xs : List V} {ds : List D} (hp : H p = none) (r : RpAll K O H xs ds) : Top K O (upd H p (.lst xs)) p (.list ds) :=
  ⟨xs, upd_same, r.step (Ext0.new hp).ext fun b z => z.elim .inl fun z => .inr (z ▸ hp)⟩
theorem RpAll.nil_iff {O : Addr → Prop} {H : Hp} {xs : List V} {ds : List D} (r : RpAll K O H xs ds) : xs = [] ↔ ds = [] := by
  cases r <;> simp
theorem oc_add : OpC K (rAddA K) dAdd := fun O H x y dx dy z Q hO h1 h2 e q => by
  unfold dAdd at e
  split at e
  · cases e
    exact .inl ⟨_, _, con_int h1, con_int h2, q _ H Ext0.refl (.int _)⟩
  · obtain ⟨hz, e⟩ := Rs.of_grd e
    cases e
    exact .inr (.inl ⟨_, _, con_str h1, con_str h2, hz, q _ H Ext0.refl (.str _)⟩)
  · obtain ⟨hz, e⟩ := Rs.of_grd e
    cases e
    have h1 : Rp K O H x (.tuple _) := h1
    have h2 : Rp K O H y (.tuple _) := h2
    obtain ⟨a, xs, rfl, s1, r1⟩ := rp_tup h1
    obtain ⟨b, ys, rfl, s2, r2⟩ := rp_tup h2
    refine .inr (.inr (.inl ⟨a, b, xs, ys, rfl, rfl, s1, s2, by rw [r1.len, r2.len]; exact hz, fun e1 => ?_, fun _ e2 => ?_, fun _ _ p hp => ?_⟩))
    · have e3 := r1.nil_iff.mp e1
      subst e3
      exact q _ H Ext0.refl h2
    · have e3 := r2.nil_iff.mp e2
      subst e3
      rw [List.append_nil] at q
      exact q _ H Ext0.refl h1
    · exact q _ _ (Ext0.new hp) (tup_new hO hp (r1.append r2))
  · obtain ⟨hz, e⟩ := Rs.of_grd e
    cases e
    refine .inr (.inr (.inr (of_catL O H x y _ _ _ Q hO h1 h2 (Rs.grd_pos hz) fun a H' hn e t => q _ H' e (t.rp (fun _ z => z) fun z => hO a z hn))))
  · cases e
/-- a tuple times an int -/
def rRepA (K : PySem.W.Frag) : R2 := fun x y H Q => ∃ l k xs, x = .ref l ∧ y = .int k ∧ SqT K H l xs ∧ k ≤ 16777216 ∧ -16777216 ≤ k ∧ xs.length * k.toNat ≤ sizeLine ∧
  ((xs = [] ∨ k = 1) → Q (.ref l) H) ∧ (¬ (xs = [] ∨ k = 1) → ∀ p, H p = none → Q (.ref p) (upd H p (.tup (List.replicate k.toNat xs).flatten)))
theorem tuple_mulS (l : Addr) (items : Array Value) (n : Nat) (dd : Option Addr) (sl : Array (Option Value)) (x : Int) (u : Tok) (c0 : (decide (x < -(2 ^ 63)) || decide (x ≥ 2 ^ 63)) = false) (c1 : (items.isEmpty || x == 1) = true) :
    Meets (Builtin.«tuple.__mul__» ⟨[.ref l, .int x u], []⟩) (fun _ R s => s.heap.get? l = some { cls := .type "tuple", dict := dd, data := .seq items n, slots := sl } ∧ R (.ok (.ret (Value.ref l))) s) :=
  .of_wp fun prog w A R s h => by
    obtain ⟨hp, g, d, tk, os⟩ := s
    obtain ⟨hl, h⟩ := h
    have f1 := AutoSeq1.idx_int
    wp_walk using wpAny_loadPart' hl
    repeat (first
      | (refine wpAny_ite_false (decide_eq_false (by rw [c0]; exact Bool.false_ne_true)) ?_; wp_walk using wpAny_loadPart' hl)
      | (refine wpAny_ite_true (decide_eq_true c1) ?_; wp_walk using wpAny_loadPart' hl))
    exact ⟨_, rfl, h⟩
theorem tuple_mul0 (l : Addr) (items : Array Value) (n : Nat) (dd : Option Addr) (sl : Array (Option Value)) (x : Int) (u : Tok) (c0 : (decide (x < -(2 ^ 63)) || decide (x ≥ 2 ^ 63)) = false) (c1 : (items.isEmpty || x == 1) = false) (c2 : (decide (x ≤ 0) || items.isEmpty) = true) :
    Meets (Builtin.«tuple.__mul__» ⟨[.ref l, .int x u], []⟩) (fun _ R s => s.heap.get? l = some { cls := .type "tuple", dict := dd, data := .seq items n, slots := sl } ∧
      R (.ok (.ret (Value.ref s.heap.objs.size))) { s with heap := s.heap.push { cls := Value.type "tuple", data := Data.seq #[] }, toks := s.toks }) :=
  .of_wp fun prog w A R s h => by
    obtain ⟨hp, g, d, tk, os⟩ := s
    obtain ⟨hl, h⟩ := h
    have f1 := AutoSeq1.idx_int
    wp_walk using wpAny_loadPart' hl
    repeat (first
      | (refine wpAny_ite_false (decide_eq_false (by rw [c0]; exact Bool.false_ne_true)) ?_; wp_walk using wpAny_loadPart' hl)
      | (refine wpAny_ite_false (decide_eq_false (by rw [c1]; exact Bool.false_ne_true)) ?_; wp_walk using wpAny_loadPart' hl)
      | (refine wpAny_ite_true (decide_eq_true c2) ?_; wp_walk using wpAny_loadPart' hl))
    exact ⟨_, rfl, h⟩
theorem op_repA {X : Cx} : OpR X (binaryOp .Mult) (rRepA X.K) := by
  intro pins s σ H x y v u Q I rx ry h
  obtain ⟨l, k, xs, rfl, rfl, hT, h1, h2, hz, q1, q2⟩ := h
  cases rx
  obtain ⟨t, rfl⟩ := ry
  obtain ⟨its, r, ⟨⟨cls, dd, data, sl⟩, ho, hc, n, hd⟩, hs⟩ := I.tuple hT
  simp only at hc hd
  subst hc hd
  have hle : its.length = xs.length := r.length.symm
  have hsz0 : its.toArray.size = xs.length := by rw [List.size_toArray, hle]
  have c0 : (decide (k < -(2 ^ 63)) || decide (k ≥ 2 ^ 63)) = false := by
    rw [decide_eq_false (by omega), decide_eq_false (by omega)] <;> rfl
  have hemp : its.toArray.isEmpty = xs.isEmpty := by
    cases r <;> rfl
  by_cases hs1 : xs = [] ∨ k = 1
  · have c1 : (its.toArray.isEmpty || k == 1) = true := by
      rw [hemp]
      rcases hs1 with e | e
      · subst e; rfl
      · subst e; simp
    refine wpAny_binaryOp_repeat_ref (T := "tuple") (U := "int") (by decide) ⟨_, ho, rfl⟩ (fun s' => typeIs_int s' k t) noFill_tuple_mul F.fills_int_mul F.slot_int_rmul repeat_tuple F.slot_int_index.lookup
      (call_meets F.slot_int_rmul (typeIs_int s k t) F.entry_int_rmul (F.args_int_rmul_2 _ _) (int_rmul_tuple k t l its.toArray n dd sl)
        ⟨ho, rfl, ⟨_, ho, rfl⟩, call_meets F.slot_tuple_mul ⟨_, ho, rfl⟩ F.entry_tuple_mul (F.args_tuple_mul_2 _ _) (tuple_mulS l its.toArray n dd sl k t c0 c1) ⟨ho, ?_⟩⟩)
    exact ⟨.ref l, H, I, rfl, q1 hs1⟩
  · have hne : xs ≠ [] := fun e => hs1 (.inl e)
    have hk1 : k ≠ 1 := fun e => hs1 (.inr e)
    have hi : its.toArray.isEmpty = false := by
      rw [hemp]
      cases xs with
      | nil => exact absurd rfl hne
      | cons a b => rfl
    have c1 : (its.toArray.isEmpty || k == 1) = false := by
      rw [hi, Bool.false_or]
      exact beq_eq_false_iff_ne.mpr hk1
    have flen : (List.replicate k.toNat xs).flatten.length ≤ sizeLine := by
      rw [PyProof.Rows.lm_len_rep_flat, Nat.mul_comm]
      exact hz
    have fleni : (List.replicate k.toNat its).flatten.length ≤ sizeLine := by
      rw [PyProof.Rows.lm_len_rep_flat, hle, Nat.mul_comm]
      exact hz
    by_cases hk0 : k ≤ 0
    · have c2 : (decide (k ≤ 0) || its.toArray.isEmpty) = true := by
        rw [decide_eq_true hk0]; rfl
      have e0 : k.toNat = 0 := by omega
      refine wpAny_binaryOp_repeat_ref (T := "tuple") (U := "int") (by decide) ⟨_, ho, rfl⟩ (fun s' => typeIs_int s' k t) noFill_tuple_mul F.fills_int_mul F.slot_int_rmul repeat_tuple F.slot_int_index.lookup
        (call_meets F.slot_int_rmul (typeIs_int s k t) F.entry_int_rmul (F.args_int_rmul_2 _ _) (int_rmul_tuple k t l its.toArray n dd sl)
          ⟨ho, rfl, ⟨_, ho, rfl⟩, call_meets F.slot_tuple_mul ⟨_, ho, rfl⟩ F.entry_tuple_mul (F.args_tuple_mul_2 _ _) (tuple_mul0 l its.toArray n dd sl k t c0 c1 c2) ⟨ho, ?_⟩⟩)
      have q3 := q2 hs1 _ (I.hok.fresh (Nat.le_refl _))
      rw [e0] at q3
      refine ⟨.ref s.heap.objs.size, _, I.laid (t' := s.toks) (o := .tup []) (fun b ob q => Heap.get?_push_of_some _ q) (Nat.le_refl _) ?_, rfl, q3⟩
      exact ⟨Nat.zero_le _, [], .nil, IsTup.new _ _⟩
    · have c2 : (decide (k ≤ 0) || its.toArray.isEmpty) = false := by
        rw [hi, Bool.or_false]
        exact decide_eq_false hk0
      have hsl : (sizeLine : Nat) = 16777216 := sizeLine_eq
      have hm : ((its.toArray.size : Nat) : Int) * k ≤ 16777216 := by
        rw [hsz0]
        have : ((xs.length * k.toNat : Nat) : Int) ≤ ((16777216 : Nat) : Int) := by rw [← hsl]; exact_mod_cast hz
        rw [Int.natCast_mul, Int.toNat_of_nonneg (by omega)] at this
        exact this
      have c4 : Builtin.Tuple.tupleTooMany (((its.toArray.size : Nat) : Int) * k) = false := by
        unfold Builtin.Tuple.tupleTooMany
        rw [sizeLine_eq]
        exact decide_eq_false (by omega)
      refine wpAny_binaryOp_repeat_ref (T := "tuple") (U := "int") (by decide) ⟨_, ho, rfl⟩ (fun s' => typeIs_int s' k t) noFill_tuple_mul F.fills_int_mul F.slot_int_rmul repeat_tuple F.slot_int_index.lookup
        (call_meets F.slot_int_rmul (typeIs_int s k t) F.entry_int_rmul (F.args_int_rmul_2 _ _) (int_rmul_tuple k t l its.toArray n dd sl)
          ⟨ho, rfl, ⟨_, ho, rfl⟩, call_meets F.slot_tuple_mul ⟨_, ho, rfl⟩ F.entry_tuple_mul (F.args_tuple_mul_2 _ _) (tuple_mulW l its.toArray n dd sl k t c0 c1 c2 (by omega) c4 (by rw [size_rep, List.size_toArray]; exact fleni)) ⟨ho, ?_⟩⟩)
      rw [size_rep]
      refine ⟨.ref s.heap.objs.size, _, I.laid (t' := s.toks) (o := .tup (List.replicate k.toNat xs).flatten) (fun b ob q => Heap.get?_push_of_some _ q) (Nat.le_refl _) ?_, rfl, q2 hs1 _ (I.hok.fresh (Nat.le_refl _))⟩
      exact ⟨flen, _, r.rep k.toNat, IsTup.new _ _⟩
/-- * of numbers; of a tuple and a number -/
def rMulA (K : PySem.W.Frag) : R2 := fun x y H Q => rI CMul (fun i j => .int (i * j)) x y H Q ∨ rI CMulW (fun i j => .int (i * j)) x y H Q ∨ rRepA K x y H Q
theorem op_mulA {X : Cx} : OpR X (binaryOp .Mult) (rMulA X.K) := OpR.or op_mul (OpR.or op_mulW op_repA)
def repOk (n : Nat) (k : Int) : Prop := k ≤ 16777216 ∧ -16777216 ≤ k ∧ n * k.toNat ≤ sizeLine
instance (n : Nat) (k : Int) : Decidable (repOk n k) := inferInstanceAs (Decidable (_ ∧ _))
def dMul : D → D → Rs D
  | .int i, .int j => Rs.grd (CMul i j ∨ CMulW i j) (.ok (.int (i * j)))
  | .tuple a, .int k => Rs.grd (repOk a.length k) (.ok (.tuple (List.replicate k.toNat a).flatten))
  | _, _ => .stuck
theorem flatten_nil {α : Type} : ∀ k : Nat, (List.replicate k ([] : List α)).flatten = []
  | 0 => rfl
  | k + 1 => by rw [List.replicate_succ, List.flatten_cons, flatten_nil k]; rfl
theorem oc_mul : OpC K (rMulA K) dMul := fun O H x y dx dy z Q hO h1 h2 e q => by
  unfold dMul at e
  split at e
  · obtain ⟨hc, e⟩ := Rs.of_grd e
    cases e
    rcases hc with hc | hc
    · exact .inl ⟨_, _, con_int h1, con_int h2, hc, q _ H Ext0.refl (.int _)⟩
    · exact .inr (.inl ⟨_, _, con_int h1, con_int h2, hc, q _ H Ext0.refl (.int _)⟩)
  · obtain ⟨⟨hc1, hc2, hc3⟩, e⟩ := Rs.of_grd e
    cases e
    have h1 : Rp K O H x (.tuple _) := h1
    obtain ⟨a, xs, rfl, s1, r1⟩ := rp_tup h1
    refine .inr (.inr ⟨a, _, xs, rfl, con_int h2, s1, hc1, hc2, by rw [r1.len]; exact hc3, fun hs => ?_, fun hs p hp => ?_⟩)
    · refine q _ H Ext0.refl ?_
      rcases hs with e1 | e1
      · have e2 := r1.nil_iff.mp e1
        subst e2
        rw [flatten_nil]
        exact h1
      · subst e1
        rw [show (1 : Int).toNat = 1 from rfl, List.replicate_one, List.flatten_cons, List.flatten_nil, List.append_nil]
        exact h1
    · exact q _ _ (Ext0.new hp) (tup_new hO hp (r1.rep _))
  · cases e
/-- [..] * k, the left one a new list -/
def mRep (ma mb : SM D) : SM D := fun ρ => (ma ρ).bind fun p => (mb p.2).bind fun q => match p.1, q.1 with
  | .list a, .int k => Rs.grd (repOk a.length k) (.ok (.list (List.replicate k.toNat a).flatten, q.2))
  | _, _ => .stuck
theorem df_rep {ta tb : TE} {ma mb : SM D} (ha : DenF K ta ma) (hb : DenE K tb mb) : DenF K (tOp rRep ta tb) (mRep ma mb) := fun F H σ ρ ρ' d Q rl e q => by
  obtain ⟨⟨x, ρ1⟩, e1, e⟩ := Rs.of_bind e
  obtain ⟨⟨y, ρ2⟩, e2, e⟩ := Rs.of_bind e
  simp only at e
  split at e
  · rename_i a0 k _e
    obtain ⟨⟨hc1, hc2, hc3⟩, e⟩ := Rs.of_grd e
    cases e
    refine ha F H σ ρ ρ1 _ _ rl e1 fun a H1 H1' p1 n1 x1 t1 => ?_
    obtain ⟨xs, ea, ra⟩ := t1
    have rl2 := p1.rel.addF n1 x1 (by rw [ea]; simp)
    refine hb _ H1' σ ρ1 ρ' _ _ rl2 e2 fun v H2 p2 r2 => ?_
    cases r2
    have na : ¬ Own σ ρ1 a := fun z => p1.rel.own_some z n1
    have ea2 : H2 a = some (.lst xs) := p2.ext a _ ea na
    have p3 := (p1.new x1).trans (p2.dropF fun b z => .inl z)
    have rl' : xs.length = a0.length := ra.len
    refine ⟨a, k, xs, rfl, rfl, ea2, by omega, by omega, by rw [rl']; exact hc3, fun p hp => ?_⟩
    refine q p H2 _ p3 hp (Ext0.new hp) (top_new hp (RpAll.rep ?_ _))
    exact ra.step (fun b o z n => p2.ext b o z fun z => n (.inl (.inr z))) fun b z => .inl (.inl (z.imp id (p2.sub b)))
  · cases e
/-! ### == -/
mutual
theorem dp_of {O : Addr → Prop} {H : Hp} : ∀ {v : V} {d : D}, d.plain = true → Rp K O H v d → Dp K H v d
  | _, _, _, .non => .non
  | _, _, _, .bl b => .bl b
  | _, _, _, .int i => .int i
  | _, _, _, .str x => .str x
  | _, _, c, .lst h ha => .lst (sqL_of h) (dps_of c ha)
  | _, _, c, .tup h ha => .tup (sqT_of h) (dps_of c ha)
  | _, _, c, .dic _ _ _ _ => nomatch c
  | _, _, c, .dit _ _ _ _ => nomatch c
theorem dps_of {O : Addr → Prop} {H : Hp} : ∀ {v : List V} {d : List D}, PyData.plainAll d = true → RpAll K O H v d → DpAll K H v d
  | _, _, _, .nil => .nil
  | _, _, c, .cons h ha => .cons (dp_of (Bool.and_eq_true_iff.mp c).1 h) (dps_of (Bool.and_eq_true_iff.mp c).2 ha)
end
theorem dp_con {O : Addr → Prop} {H : Hp} {v : V} {d : D} (c : d.plain = true) (h : Con K O H v d) : Dp K H v d := by
  cases d with
  | list ds =>
    obtain ⟨a, xs, rfl, s, r⟩ := h
    exact .lst s (dps_of c r)
  | dict es => exact nomatch c
  | none => exact dp_of c (show Rp K O H v _ from h)
  | bool b => exact dp_of c (show Rp K O H v _ from h)
  | int b => exact dp_of c (show Rp K O H v _ from h)
  | str b => exact dp_of c (show Rp K O H v _ from h)
  | tuple b => exact dp_of c (show Rp K O H v _ from h)
/-- data that the comparisons serve: no dict within, nested at most sixty deep -/
def okD (d : D) : Prop := d.plain = true ∧ d.depth ≤ 60
instance (d : D) : Decidable (okD d) := inferInstanceAs (Decidable (_ ∧ _))
def rEqP (K : PySem.W.Frag) (neg : Bool) : R2 := fun x y H Q => ∃ d e, Dp K H x d ∧ Dp K H y e ∧ okD d ∧ okD e ∧ Q (.bl (PyData.eqv d e != neg)) H
theorem op_eqP {X : Cx} (hu : X.A.units + 64 < cLine) : OpR X (compareOp .Eq) (rEqP X.K false) := by
  intro pins s σ H x y v u Q I rx ry h
  obtain ⟨d, e, hd, he, sd, se, q⟩ := h
  obtain ⟨as, r1⟩ := Dp.reads I d x v hd rx
  obtain ⟨bs, r2⟩ := Dp.reads I e y u he ry
  have h1 := Nat.min_le_left d.depth e.depth
  have h2 := sd.2
  exact PySem.SeqAt.eq_plain r1 r2 sd.1 se.1 (by omega) ⟨.bl _, H, I, rfl, by simpa using q⟩
theorem op_neP {X : Cx} (hu : X.A.units + 64 < cLine) : OpR X (compareOp .NotEq) (rEqP X.K true) := by
  intro pins s σ H x y v u Q I rx ry h
  obtain ⟨d, e, hd, he, sd, se, q⟩ := h
  obtain ⟨as, r1⟩ := Dp.reads I d x v hd rx
  obtain ⟨bs, r2⟩ := Dp.reads I e y u he ry
  have h1 := Nat.min_le_left d.depth e.depth
  have h2 := sd.2
  exact PySem.SeqAt.ne_plain r1 r2 sd.1 se.1 (by omega) ⟨.bl _, H, I, rfl, by simpa using q⟩
def dEq (neg : Bool) (x y : D) : Rs D := Rs.grd (okD x ∧ okD y) (.ok (.bool (PyData.eqv x y != neg)))
theorem oc_eq {neg : Bool} : OpC K (rEqP K neg) (dEq neg) := fun O H x y dx dy z Q hO h1 h2 e q => by
  obtain ⟨⟨s1, s2⟩, e⟩ := Rs.of_grd e
  cases e
  exact ⟨dx, dy, dp_con s1.1 h1, dp_con s2.1 h2, s1, s2, q _ H Ext0.refl (.bl _)⟩
/-! ### order, over alike data -/
def ordOk (x y : D) : Prop := PySem.W.alike x y = true ∧ x ≠ .none ∧ okD x ∧ okD y
def isNon : D → Bool
  | .none => true
  | _ => false
theorem isNon_iff {d : D} : isNon d = false ↔ d ≠ .none := by
  cases d <;> simp [isNon]
instance (x y : D) : Decidable (ordOk x y) := decidable_of_iff (PySem.W.alike x y = true ∧ isNon x = false ∧ okD x ∧ okD y) (by unfold ordOk; rw [isNon_iff])
def rOrd (K : PySem.W.Frag) (f : D → D → Bool) : R2 := fun x y H Q => ∃ d e, Dp K H x d ∧ Dp K H y e ∧ ordOk d e ∧ Q (.bl (f d e)) H
def dOrd (f : D → D → Bool) (x y : D) : Rs D := Rs.grd (ordOk x y) (.ok (.bool (f x y)))
theorem oc_ord {f : D → D → Bool} : OpC K (rOrd K f) (dOrd f) := fun O H x y dx dy z Q hO h1 h2 e q => by
  obtain ⟨s, e⟩ := Rs.of_grd e
  cases e
  exact ⟨dx, dy, dp_con s.2.2.1.1 h1, dp_con s.2.2.2.1 h2, s, q _ H Ext0.refl (.bl _)⟩
def fLt (x y : D) : Bool := PySem.W.dataLt x y
def fGt (x y : D) : Bool := PySem.W.dataLt y x
def fLe (x y : D) : Bool := !PySem.W.dataLt y x
def fGe (x y : D) : Bool := !PySem.W.dataLt x y
section
variable {X : Cx}
theorem op_ltP (hu : X.A.units + 64 < cLine) : OpR X (compareOp .Lt) (rOrd X.K fLt) := by
  intro pins s σ H x y v u Q I rx ry h
  obtain ⟨d, e, hd, he, ⟨ha, hn, sd, se⟩, q⟩ := h
  obtain ⟨as, r1⟩ := Dp.reads I d x v hd rx
  obtain ⟨bs, r2⟩ := Dp.reads I e y u he ry
  have h1 := Nat.min_le_left d.depth e.depth
  have h2 := sd.2
  exact PySem.W.lt_data r1 r2 ha hn (by omega) ⟨.bl _, H, I, rfl, q⟩
theorem op_gtP (hu : X.A.units + 64 < cLine) : OpR X (compareOp .Gt) (rOrd X.K fGt) := by
  intro pins s σ H x y v u Q I rx ry h
  obtain ⟨d, e, hd, he, ⟨ha, hn, sd, se⟩, q⟩ := h
  obtain ⟨as, r1⟩ := Dp.reads I d x v hd rx
  obtain ⟨bs, r2⟩ := Dp.reads I e y u he ry
  have h1 := Nat.min_le_left d.depth e.depth
  have h2 := sd.2
  exact PySem.W.gt_data r1 r2 ha hn (by omega) ⟨.bl _, H, I, rfl, q⟩
theorem op_leP (hu : X.A.units + 64 < cLine) : OpR X (compareOp .LtE) (rOrd X.K fLe) := by
  intro pins s σ H x y v u Q I rx ry h
  obtain ⟨d, e, hd, he, ⟨ha, hn, sd, se⟩, q⟩ := h
  obtain ⟨as, r1⟩ := Dp.reads I d x v hd rx
  obtain ⟨bs, r2⟩ := Dp.reads I e y u he ry
  have h1 := Nat.min_le_left d.depth e.depth
  have h2 := sd.2
  exact PySem.W.le_data r1 r2 ha hn (by omega) ⟨.bl _, H, I, rfl, q⟩
theorem op_geP (hu : X.A.units + 64 < cLine) : OpR X (compareOp .GtE) (rOrd X.K fGe) := by
  intro pins s σ H x y v u Q I rx ry h
  obtain ⟨d, e, hd, he, ⟨ha, hn, sd, se⟩, q⟩ := h
  obtain ⟨as, r1⟩ := Dp.reads I d x v hd rx
  obtain ⟨bs, r2⟩ := Dp.reads I e y u he ry
  have h1 := Nat.min_le_left d.depth e.depth
  have h2 := sd.2
  exact PySem.W.ge_data r1 r2 ha hn (by omega) ⟨.bl _, H, I, rfl, q⟩
end
end
end
end DL
namespace DL
open PySem PySem.Spec PyProof.Rows L2
noncomputable section
section
variable {K : PySem.W.Frag}
/-! ### is -/
/-- is, is not: the right one None, True, False -/
def isD : D → D → Option Bool
  | .none, .none => some true
  | _, .none => some false
  | .bool a, .bool b => some (a == b)
  | _, .bool _ => some false
  | _, _ => none
def isV : V → V → Option Bool
  | .non, .non => some true
  | _, .non => some false
  | .bl a, .bl b => some (a == b)
  | _, .bl _ => some false
  | _, _ => none
def rIsA (neg : Bool) : R2 := fun x y H Q => ∃ r, isV x y = some r ∧ Q (.bl (r != neg)) H
theorem isV_plain {x y : V} {v u : Value} {r : Bool} (rx : RelV x v) (ry : RelV y u) (h : isV x y = some r) : plainIs v u = true ∧ (v == u) = r := by
  cases y with
  | non =>
    cases (show u = Value.none from ry)
    cases x with
    | non => cases (show v = Value.none from rx); cases h; exact ⟨rfl, by simp⟩
    | bl b => cases (show v = Value.bool b from rx); cases h; exact ⟨rfl, by simp⟩
    | int b => obtain ⟨t, rfl⟩ := rx; cases h; exact ⟨rfl, by simp⟩
    | str b => obtain ⟨t, rfl⟩ := rx; cases h; exact ⟨rfl, by simp⟩
    | byt b => obtain ⟨t, rfl⟩ := rx; cases h; exact ⟨rfl, by simp⟩
    | flt b => obtain ⟨t, rfl⟩ := rx; cases h; exact ⟨rfl, by simp⟩
    | ref a => cases (show v = Value.ref a from rx); cases h; exact ⟨rfl, by simp⟩
    | ty n => cases (show v = Value.type n from rx); cases h; exact ⟨rfl, by simp⟩
  | bl c =>
    cases (show u = Value.bool c from ry)
    cases x with
    | non => cases (show v = Value.none from rx); cases h; exact ⟨rfl, by simp⟩
    | bl b =>
      cases (show v = Value.bool b from rx)
      cases h
      refine ⟨rfl, ?_⟩
      cases b <;> cases c <;> simp
    | int b => obtain ⟨t, rfl⟩ := rx; cases h; exact ⟨rfl, by simp⟩
    | str b => obtain ⟨t, rfl⟩ := rx; cases h; exact ⟨rfl, by simp⟩
    | byt b => obtain ⟨t, rfl⟩ := rx; cases h; exact ⟨rfl, by simp⟩
    | flt b => obtain ⟨t, rfl⟩ := rx; cases h; exact ⟨rfl, by simp⟩
    | ref a => cases (show v = Value.ref a from rx); cases h; exact ⟨rfl, by simp⟩
    | ty n => cases (show v = Value.type n from rx); cases h; exact ⟨rfl, by simp⟩
  | _ => cases x <;> cases h
theorem op_isA {X : Cx} : OpR X (compareOp .Is) (rIsA false) := by
  intro pins s σ H x y v u Q I rx ry h
  obtain ⟨r, e, q⟩ := h
  obtain ⟨h1, h2⟩ := isV_plain rx ry e
  refine wpAny_is_plain h1 ?_
  rw [h2]
  exact ⟨.bl r, H, I, rfl, by simpa using q⟩
theorem op_isNotA {X : Cx} : OpR X (compareOp .IsNot) (rIsA true) := by
  intro pins s σ H x y v u Q I rx ry h
  obtain ⟨r, e, q⟩ := h
  obtain ⟨h1, h2⟩ := isV_plain rx ry e
  refine wpAny_isNot_plain h1 ?_
  rw [h2]
  exact ⟨.bl (!r), H, I, rfl, by simpa using q⟩
def dIs (neg : Bool) (x y : D) : Rs D := match isD x y with
  | some r => .ok (.bool (r != neg))
  | none => .stuck
theorem isV_of {O : Addr → Prop} {H : Hp} {x y : V} {dx dy : D} {r : Bool} (h1 : Con K O H x dx) (h2 : Con K O H y dy) (e : isD dx dy = some r) : isV x y = some r := by
  cases dy with
  | none =>
    cases con_non h2
    cases dx with
    | none => cases con_non h1; exact e
    | bool b => cases con_bl h1; exact e
    | int b => cases con_int h1; exact e
    | str b => cases con_str h1; exact e
    | list b => obtain ⟨a, xs, rfl, _⟩ := h1; exact e
    | tuple b => obtain ⟨a, xs, rfl, _⟩ := rp_tup h1; exact e
    | dict b => obtain ⟨a, rfl, _⟩ := h1; exact e
  | bool c =>
    cases con_bl h2
    cases dx with
    | none => cases con_non h1; exact e
    | bool b => cases con_bl h1; exact e
    | int b => cases con_int h1; exact e
    | str b => cases con_str h1; exact e
    | list b => obtain ⟨a, xs, rfl, _⟩ := h1; exact e
    | tuple b => obtain ⟨a, xs, rfl, _⟩ := rp_tup h1; exact e
    | dict b => obtain ⟨a, rfl, _⟩ := h1; exact e
  | _ => cases dx <;> cases e
theorem oc_is {neg : Bool} : OpC K (rIsA neg) (dIs neg) := fun O H x y dx dy z Q hO h1 h2 e q => by
  unfold dIs at e
  split at e
  · rename_i r hr
    cases e
    exact ⟨r, isV_of h1 h2 hr, q _ H Ext0.refl (.bl _)⟩
  · cases e
/-! ### in -/
-- a key of a dict
inductive KeyA where
  | k (x : Key) | t (xs : List Key)
  deriving DecidableEq
def keyOf : D → Option Key
  | .int i => some (.inl i)
  | .str x => some (.inr x)
  | _ => none
def keysOf : List D → Option (List Key)
  | [] => some []
  | d :: ds => match keyOf d, keysOf ds with
    | some k, some ks => some (k :: ks)
    | _, _ => none
def keyA : D → Option KeyA
  | .int i => some (.k (.inl i))
  | .str x => some (.k (.inr x))
  | .tuple ds => (keysOf ds).map .t
  | _ => none
theorem keyA_k {d : D} {k : Key} (h : keyA d = some (.k k)) : d = keyD k := by
  cases d with
  | int i => cases h; rfl
  | str x => cases h; rfl
  | tuple ds =>
    simp only [keyA] at h
    cases e : keysOf ds with
    | none => rw [e] at h; cases h
    | some ks => rw [e] at h; cases h
  | _ => cases h
theorem keyOf_eq {d : D} {k : Key} (h : keyOf d = some k) : d = keyD k := by
  cases d with
  | int i => cases h; rfl
  | str x => cases h; rfl
  | _ => cases h
theorem keysOf_eq : ∀ {ds : List D} {ks : List Key}, keysOf ds = some ks → ds = ks.map keyD
  | [], ks, h => by cases h; rfl
  | d :: ds, ks, h => by
    unfold keysOf at h
    split at h
    · rename_i k ks' e1 e2
      cases h
      rw [keyOf_eq e1, keysOf_eq e2]
      rfl
    · cases h
theorem keyA_t {d : D} {ks : List Key} (h : keyA d = some (.t ks)) : d = .tuple (ks.map keyD) := by
  cases d with
  | tuple ds =>
    simp only [keyA] at h
    cases e : keysOf ds with
    | none => rw [e] at h; cases h
    | some ks' => rw [e] at h; cases h; rw [keysOf_eq e]
  | int i => cases h
  | str x => cases h
  | _ => cases h
theorem keyA_keyD (k : Key) : keyA (keyD k) = some (.k k) := by
  cases k <;> rfl
theorem keysOf_map : ∀ ks : List Key, keysOf (ks.map keyD) = some ks
  | [] => rfl
  | k :: ks => by
    rw [List.map_cons]
    unfold keysOf
    rw [keysOf_map ks]
    cases k <;> rfl
theorem keyA_tup (ks : List Key) : keyA (.tuple (ks.map keyD)) = some (.t ks) := by
  simp only [keyA, keysOf_map]
  rfl
/-- what stands under a key -/
def getE (es : List (D × D)) (k : KeyA) : Option D := (es.find? fun p => decide (keyA p.1 = some k)).map (·.2)
theorem getE_k {O : Addr → Prop} {H : Hp} : ∀ {kvs : List (Key × V)} {es : List (D × D)} (k : Key), es.map (·.1) = kvs.map (fun p => keyD p.1) → RpAll K O H (kvs.map (·.2)) (es.map (·.2)) →
    (∀ v, valV kvs k = some v → ∃ d, getE es (.k k) = some d ∧ Rp K O H v d) ∧ (valV kvs k = none → getE es (.k k) = none)
  | [], [], k, _, _ => ⟨(fun v h => nomatch h), fun _ => rfl⟩
  | [], _ :: _, k, h, _ => by cases h
  | _ :: _, [], k, h, _ => by cases h
  | p :: kvs, q :: es, k, h, r => by
    rw [List.map_cons, List.map_cons] at h r
    injection h with h1 h2
    cases r with
    | cons r1 r2 =>
      have ih := getE_k k h2 r2
      have e1 : keyA q.1 = some (.k p.1) := by rw [h1]; exact keyA_keyD p.1
      by_cases e : p.1 = k
      · rw [valV_pos e]
        have eg : getE (q :: es) (.k k) = some q.2 := by
          unfold getE
          rw [List.find?_cons, e1, e, decide_eq_true rfl]
          rfl
        refine ⟨fun v hv => ⟨q.2, eg, ?_⟩, fun z => nomatch z⟩
        cases hv
        exact r1
      · rw [valV_neg e]
        have eg : getE (q :: es) (.k k) = getE es (.k k) := by
          unfold getE
          rw [List.find?_cons, e1, decide_eq_false (fun z => e (by cases z; rfl))]
        rw [eg]
        exact ih
/-- a dict of ints and texts looked into -/
def dicGet (es : List (D × D)) (d : D) : Rs (Option D) := match keyA d, es with
  | some (.k k), (.none, .none) :: _ => .stuck
  | some (.k k), es => .ok (getE es (.k k))
  | _, _ => .stuck
theorem keyV {O : Addr → Prop} {H : Hp} {v : V} {k : Key} (h : Rp K O H v (keyD k)) : v = kV k := by
  cases k with
  | inl i => cases h; rfl
  | inr x => cases h; rfl
theorem dicGet_ok {es : List (D × D)} {d : D} {r : Option D} (e : dicGet es d = .ok r) : ∃ k, d = keyD k ∧ r = getE es (.k k) ∧ ∀ es', es ≠ (.none, .none) :: es' := by
  unfold dicGet at e
  cases hk : keyA d with
  | none => rw [hk] at e; cases e
  | some ka =>
    cases ka with
    | t ks => rw [hk] at e; cases e
    | k k =>
      rw [hk] at e
      refine ⟨k, keyA_k hk, ?_⟩
      split at e
      · cases e
      · rename_i h1 h2
        cases h1
        cases e
        exact ⟨rfl, fun es' z => by subst z; exact h2 _ rfl⟩
      · cases e
def RpO (K : PySem.W.Frag) (O : Addr → Prop) (H : Hp) : Option V → Option D → Prop
  | some v, some d => Rp K O H v d
  | none, none => True
  | _, _ => False
/-- d[k], k in d -/
theorem dget_of {O : Addr → Prop} {H : Hp} {x y : V} {es : List (D × D)} {dk : D} {r : Option D} (h1 : Con K O H x (.dict es)) (h2 : Rp K O H y dk) (e : dicGet es dk = .ok r) :
    ∃ a o, x = .ref a ∧ DGet H a y o ∧ RpO K O H o r := by
  obtain ⟨a, rfl, h⟩ := h1
  obtain ⟨k, rfl, rfl, hne⟩ := dicGet_ok e
  have ey := keyV h2
  subst ey
  rcases h with ⟨kvs, g1, g2, g3⟩ | ⟨kvs, es2, e0, g1, g2, g3⟩
  · obtain ⟨q1, q2⟩ := getE_k k g2 g3
    refine ⟨a, valV kvs k, rfl, .inl ⟨kvs, k, .inl g1, rfl, rfl⟩, ?_⟩
    cases ev : valV kvs k with
    | none => rw [q2 ev]; trivial
    | some v =>
      obtain ⟨d, h3, h4⟩ := q1 v ev
      rw [h3]
      exact h4
  · exact (hne _ e0).elim
def rInA (K : PySem.W.Frag) (neg : Bool) : R2 := fun x y H Q =>
  (∃ i j, x = .str i ∧ y = .str j ∧ Q (.bl ((!(Builtin.Str.occurrences j i 0 j.length 1).isEmpty) != neg)) H) ∨
  (∃ d ds, Dp K H x d ∧ (Dp K H y (.list ds) ∨ Dp K H y (.tuple ds)) ∧ okD d ∧ okD (.list ds) ∧ Q (.bl ((ds.any fun z => PyData.eqv z d) != neg)) H) ∨
  (∃ a o, y = .ref a ∧ DGet H a x o ∧ Q (.bl (o.isSome != neg)) H)
theorem depth_list (ds : List D) : (PyData.list ds).depth = PyData.depthAll ds + 1 := by simp [PyData.depth]
theorem depth_tuple (ds : List D) : (PyData.tuple ds).depth = PyData.depthAll ds + 1 := by simp [PyData.depth]
theorem op_inA {X : Cx} (hu : X.A.units + 65 < cLine) : OpR X (compareOp .In) (rInA X.K false) := by
  intro pins s σ H x y v u Q I rx ry h
  rcases h with ⟨i, j, rfl, rfl, q⟩ | ⟨d, ds, hd, he, sd, se, q⟩ | ⟨a, o, rfl, g, q⟩
  · exact op_in_str pins s σ H _ _ v u Q I rx ry ⟨i, j, rfl, rfl, by simpa using q⟩
  · obtain ⟨as, r1⟩ := Dp.reads I d x v hd rx
    have q' : Q (.bl (ds.any fun z => PyData.eqv z d)) H := by simpa using q
    have h1 := Nat.min_le_right (PyData.depthAll ds) d.depth
    have h2 := sd.2
    rcases he with he | he
    · obtain ⟨bs, r2⟩ := Dp.reads I (.list ds) y u he ry
      exact PySem.SeqAt.in_list_data r2 r1 se.1 sd.1 (by omega) ⟨.bl _, H, I, rfl, q'⟩
    · obtain ⟨bs, r2⟩ := Dp.reads I (.tuple ds) y u he ry
      exact PySem.SeqAt.in_tuple_data r2 r1 se.1 sd.1 (by omega) ⟨.bl _, H, I, rfl, q'⟩
  · cases (show u = Value.ref a from ry)
    exact d_in (by omega) I g rx fun s' I' => ⟨.bl _, H, I', rfl, by simpa using q⟩
theorem op_notInA {X : Cx} (hu : X.A.units + 65 < cLine) : OpR X (compareOp .NotIn) (rInA X.K true) := by
  intro pins s σ H x y v u Q I rx ry h
  rcases h with ⟨i, j, rfl, rfl, q⟩ | ⟨d, ds, hd, he, sd, se, q⟩ | ⟨a, o, rfl, g, q⟩
  · exact op_notin_str pins s σ H _ _ v u Q I rx ry ⟨i, j, rfl, rfl, by simpa using q⟩
  · obtain ⟨as, r1⟩ := Dp.reads I d x v hd rx
    have q' : Q (.bl (!ds.any fun z => PyData.eqv z d)) H := by simpa using q
    have h1 := Nat.min_le_right (PyData.depthAll ds) d.depth
    have h2 := sd.2
    rcases he with he | he
    · obtain ⟨bs, r2⟩ := Dp.reads I (.list ds) y u he ry
      exact PySem.SeqAt.notIn_list_data r2 r1 se.1 sd.1 (by omega) ⟨.bl _, H, I, rfl, q'⟩
    · obtain ⟨bs, r2⟩ := Dp.reads I (.tuple ds) y u he ry
      exact PySem.SeqAt.notIn_tuple_data r2 r1 se.1 sd.1 (by omega) ⟨.bl _, H, I, rfl, q'⟩
  · cases (show u = Value.ref a from ry)
    exact d_notIn (by omega) I g rx fun s' I' => ⟨.bl _, H, I', rfl, by simpa using q⟩
def sIn (i j : Str) : Bool := !(Builtin.Str.occurrences j i 0 j.length 1).isEmpty
def dIn (neg : Bool) : D → D → Rs D
  | .str i, .str j => .ok (.bool (sIn i j != neg))
  | x, .list ds => Rs.grd (okD x ∧ okD (.list ds)) (.ok (.bool ((ds.any fun z => PyData.eqv z x) != neg)))
  | x, .tuple ds => Rs.grd (okD x ∧ okD (.list ds)) (.ok (.bool ((ds.any fun z => PyData.eqv z x) != neg)))
  | x, .dict es => (dicGet es x).bind fun r => .ok (.bool (r.isSome != neg))
  | _, _ => .stuck
theorem oc_in {neg : Bool} : OpC K (rInA K neg) (dIn neg) := fun O H x y dx dy z Q hO h1 h2 e q => by
  unfold dIn at e
  split at e
  · cases e
    exact .inl ⟨_, _, con_str h1, con_str h2, q _ H Ext0.refl (.bl _)⟩
  · obtain ⟨⟨s1, s2⟩, e⟩ := Rs.of_grd e
    cases e
    exact .inr (.inl ⟨_, _, dp_con s1.1 h1, .inl (dp_con s2.1 h2), s1, s2, q _ H Ext0.refl (.bl _)⟩)
  · obtain ⟨⟨s1, s2⟩, e⟩ := Rs.of_grd e
    cases e
    exact .inr (.inl ⟨_, _, dp_con s1.1 h1, .inr (dp_con (show (PyData.tuple _).plain = true from s2.1) h2), s1, s2, q _ H Ext0.refl (.bl _)⟩)
  · obtain ⟨r, e1, e⟩ := Rs.of_bind e
    cases e
    obtain ⟨k, ek, _, _⟩ := dicGet_ok e1
    have h1' : Rp K O H x (keyD k) := by
      rw [ek] at h1
      cases k with
      | inl i => exact h1
      | inr s => exact h1
    rw [ek] at e1
    obtain ⟨a, o, ex, g, m⟩ := dget_of h2 h1' e1
    refine .inr (.inr ⟨a, o, ex, g, ?_⟩)
    have : o.isSome = r.isSome := by
      cases o <;> cases r <;> first | rfl | exact m.elim
    rw [this]
    exact q _ H Ext0.refl (.bl _)
  · cases e
/-! ### truth -/
def truD : D → Rs Bool
  | .none => .ok false
  | .bool b => .ok b
  | .int i => .ok (i != 0)
  | .str x => Rs.grd (sz x.length) (.ok ((x.length : Int) != 0))
  | .list ds => .ok (!ds.isEmpty)
  | .tuple ds => .ok (!ds.isEmpty)
  | .dict _ => .stuck
theorem RpAll.emp {O : Addr → Prop} {H : Hp} {xs : List V} {ds : List D} (r : RpAll K O H xs ds) : (!xs.isEmpty) = !ds.isEmpty := by
  cases r <;> rfl
theorem tru_of {O : Addr → Prop} {H : Hp} {x : V} {d : D} {k : Bool} (h : Con K O H x d) (e : truD d = .ok k) : TruV K x H k := by
  cases d with
  | none => cases con_non h; cases e; rfl
  | bool b => cases con_bl h; cases e; rfl
  | int b => cases con_int h; cases e; rfl
  | str b =>
    cases con_str h
    obtain ⟨hz, e⟩ := Rs.of_grd e
    cases e
    exact ⟨hz, rfl⟩
  | list b =>
    obtain ⟨a, xs, rfl, s, r⟩ := h
    cases e
    exact .inl ⟨xs, s, r.emp.symm⟩
  | tuple b =>
    obtain ⟨a, xs, rfl, s, r⟩ := rp_tup h
    cases e
    exact .inr (.inl ⟨xs, s, r.emp.symm⟩)
  | dict b => cases e
variable {te ta tb : TE} {m ma mb : SM D} {tt tu : TT} {mt mu : SM Bool}
def asB : D → Rs Bool
  | .bool b => .ok b
  | _ => .stuck
def mTest (m : SM D) : SM Bool := fun ρ => (m ρ).bind fun p => (asB p.1).bind fun b => .ok (b, p.2)
theorem asB_ok {d : D} {b : Bool} (h : asB d = .ok b) : d = .bool b := by
  cases d <;> cases h
  rfl
theorem dt_test (h : DenE K te m) : DenT K (tTest te) (mTest m) := fun F H σ ρ ρ' b Q rl e q => by
  obtain ⟨⟨d, ρ1⟩, e1, e⟩ := Rs.of_bind e
  obtain ⟨b', e2, e⟩ := Rs.of_bind e
  cases e
  cases asB_ok e2
  refine h F H σ ρ _ _ _ rl e1 fun v H1 p r => ?_
  cases r
  exact ⟨b, rfl, q H1 p⟩
theorem dt_B (h : DenE K te m) : DenT K (tB te) (mTest m) := fun F H σ ρ ρ' b Q rl e q => dt_test h F H σ ρ ρ' b Q rl e q
/-- by its truth -/
def mTru (m : SM D) : SM Bool := fun ρ => (m ρ).bind fun p => (truD p.1).bind fun b => .ok (b, p.2)
theorem dt_tru (h : DenC K te m) : DenT K (fun σ H Q => te σ H fun x H' => ∃ k, TruV K x H' k ∧ Q k H') (mTru m) := fun F H σ ρ ρ' b Q rl e q => by
  obtain ⟨⟨d, ρ1⟩, e1, e⟩ := Rs.of_bind e
  obtain ⟨b', e2, e⟩ := Rs.of_bind e
  cases e
  exact h F H σ ρ _ _ _ rl e1 fun v H1 p r => ⟨b, tru_of r e2, q H1 p⟩
def mAndT (a b : SM Bool) : SM Bool := fun ρ => (a ρ).bind fun p => if p.1 = true then b p.2 else .ok (false, p.2)
def mOrT (a b : SM Bool) : SM Bool := fun ρ => (a ρ).bind fun p => if p.1 = true then .ok (true, p.2) else b p.2
def mNotT (a : SM Bool) : SM Bool := fun ρ => (a ρ).bind fun p => .ok (!p.1, p.2)
theorem dt_and (h : DenT K tt mt) (h' : DenT K tu mu) : DenT K (tAnd tt tu) (mAndT mt mu) := fun F H σ ρ ρ' b Q rl e q => by
  obtain ⟨⟨c, ρ1⟩, e1, e⟩ := Rs.of_bind e
  refine h F H σ ρ _ _ _ rl e1 fun H1 p => ?_
  cases c with
  | true =>
    show tu σ H1 Q
    exact h' F H1 σ ρ1 ρ' b Q p.rel e fun H2 p2 => q H2 (p.trans p2)
  | false =>
    cases e
    exact q H1 p
theorem dt_or (h : DenT K tt mt) (h' : DenT K tu mu) : DenT K (tOr tt tu) (mOrT mt mu) := fun F H σ ρ ρ' b Q rl e q => by
  obtain ⟨⟨c, ρ1⟩, e1, e⟩ := Rs.of_bind e
  refine h F H σ ρ _ _ _ rl e1 fun H1 p => ?_
  cases c with
  | false =>
    show tu σ H1 Q
    exact h' F H1 σ ρ1 ρ' b Q p.rel e fun H2 p2 => q H2 (p.trans p2)
  | true =>
    cases e
    exact q H1 p
theorem dt_not (h : DenT K tt mt) : DenT K (tNot tt) (mNotT mt) := fun F H σ ρ ρ' b Q rl e q => by
  obtain ⟨⟨c, ρ1⟩, e1, e⟩ := Rs.of_bind e
  cases e
  exact h F H σ ρ _ _ _ rl e1 fun H1 p => q H1 p
def mIf (c : SM Bool) (a b : SM D) : SM D := fun ρ => (c ρ).bind fun p => if p.1 = true then a p.2 else b p.2
theorem de_if (h : DenT K tt mt) (ha : DenE K ta ma) (hb : DenE K tb mb) : DenE K (tIf tt ta tb) (mIf mt ma mb) := fun F H σ ρ ρ' d Q rl e q => by
  obtain ⟨⟨c, ρ1⟩, e1, e⟩ := Rs.of_bind e
  refine h F H σ ρ _ _ _ rl e1 fun H1 p => ?_
  cases c with
  | true => exact ha F H1 σ ρ1 ρ' d Q p.rel e fun v H2 p2 r2 => q v H2 (p.trans p2) r2
  | false => exact hb F H1 σ ρ1 ρ' d Q p.rel e fun v H2 p2 r2 => q v H2 (p.trans p2) r2
/-- a and b, a or b, not a, by truth -/
def mAnd (a b : SM D) : SM D := fun ρ => (a ρ).bind fun p => (truD p.1).bind fun k => if k = true then b p.2 else .ok p
def mOr (a b : SM D) : SM D := fun ρ => (a ρ).bind fun p => (truD p.1).bind fun k => if k = true then .ok p else b p.2
def mNot (a : SM D) : SM D := fun ρ => (a ρ).bind fun p => (truD p.1).bind fun k => .ok (.bool (!k), p.2)
theorem de_and (ha : DenE K ta ma) (hb : DenE K tb mb) : DenE K (tAndT K ta tb) (mAnd ma mb) := fun F H σ ρ ρ' d Q rl e q => by
  obtain ⟨⟨c, ρ1⟩, e1, e⟩ := Rs.of_bind e
  obtain ⟨k, e2, e⟩ := Rs.of_bind e
  refine ha F H σ ρ _ _ _ rl e1 fun v H1 p r => ⟨k, tru_of r.con e2, ?_⟩
  cases k with
  | true => exact hb F H1 σ ρ1 ρ' d Q p.rel e fun v H2 p2 r2 => q v H2 (p.trans p2) r2
  | false =>
    cases e
    exact q v H1 p r
theorem de_or (ha : DenE K ta ma) (hb : DenE K tb mb) : DenE K (tOrT K ta tb) (mOr ma mb) := fun F H σ ρ ρ' d Q rl e q => by
  obtain ⟨⟨c, ρ1⟩, e1, e⟩ := Rs.of_bind e
  obtain ⟨k, e2, e⟩ := Rs.of_bind e
  refine ha F H σ ρ _ _ _ rl e1 fun v H1 p r => ⟨k, tru_of r.con e2, ?_⟩
  cases k with
  | false => exact hb F H1 σ ρ1 ρ' d Q p.rel e fun v H2 p2 r2 => q v H2 (p.trans p2) r2
  | true =>
    cases e
    exact q v H1 p r
theorem de_not (ha : DenC K ta ma) : DenE K (tNotT K ta) (mNot ma) := fun F H σ ρ ρ' d Q rl e q => by
  obtain ⟨⟨c, ρ1⟩, e1, e⟩ := Rs.of_bind e
  obtain ⟨k, e2, e⟩ := Rs.of_bind e
  cases e
  exact ha F H σ ρ _ _ _ rl e1 fun v H1 p r => ⟨k, tru_of r e2, q _ H1 p (.bl _)⟩
/-- a < b < c -/
def mChain (f g : D → D → Rs D) (ma mb mc : SM D) : SM D := fun ρ => (ma ρ).bind fun p => (mb p.2).bind fun q => (f p.1 q.1).bind fun z => (asB z).bind fun k =>
  if k = true then (mc q.2).bind fun u => (g q.1 u.1).bind fun z => .ok (z, u.2) else .ok (.bool false, q.2)
theorem de_chain {r r' : R2} {f g : D → D → Rs D} {tc : TE} {mc : SM D} (ho : OpC K r f) (ho' : OpC K r' g) (ha : DenE K ta ma) (hb : DenE K tb mb) (hc : DenC K tc mc) : DenE K (tChain r r' ta tb tc) (mChain f g ma mb mc) := fun F H σ ρ ρ' d Q rl e q => by
  obtain ⟨⟨x, ρ1⟩, e1, e⟩ := Rs.of_bind e
  obtain ⟨⟨y, ρ2⟩, e2, e⟩ := Rs.of_bind e
  obtain ⟨z, e3, e⟩ := Rs.of_bind e
  obtain ⟨k, e4, e0⟩ := Rs.of_bind e
  have hz := asB_ok e4
  subst hz
  clear e
  refine ha F H σ ρ ρ1 x _ rl e1 fun v H1 p1 r1 => hb F H1 σ ρ1 ρ2 y _ p1.rel e2 fun u H2 p2 r2 => ?_
  refine ho _ H2 v u x y _ _ (fun a z => p2.rel.of_some z) (p2.rp r1).con r2.con e3 fun w H3 e5 r3 => ?_
  cases r3
  refine ⟨k, rfl, ?_⟩
  cases k with
  | true =>
    rw [if_pos rfl]
    have e := (if_pos rfl).symm.trans e0
    obtain ⟨⟨c, ρ3⟩, e6, e⟩ := Rs.of_bind e
    obtain ⟨z', e7, e⟩ := Rs.of_bind e
    cases e
    have p3 := p2.new e5
    exact hc F H3 σ ρ2 _ c _ p3.rel e6 fun w H4 p4 r4 => ho' _ H4 u w y c d Q (fun a z => p4.rel.of_some z) (p4.rp (r2.ext0 e5)).con r4 e7 fun v' H5 e8 r5 => q v' H5 ((p1.trans (p3.trans p4)).new e8) r5
  | false =>
    rw [if_neg Bool.false_ne_true]
    have e := (if_neg Bool.false_ne_true).symm.trans e0
    cases e
    exact q _ H3 ((p1.trans p2).new e5) (.bl _)
end
end
end DL
namespace DL
open PySem PySem.Spec PyProof.Rows L2
noncomputable section
section
variable {K : PySem.W.Frag} {ta tb te : TE} {ma mb m : SM D}
/-! ### subscripts -/
def rIxD : R2 := fun x y H Q => ∃ a v, x = .ref a ∧ DGet H a y (some v) ∧ Q v H
theorem ix_dict {X : Cx} (hu : X.A.units + 1 < cLine) : IxR X rIxD := by
  intro value slice pins s σ H x y v u Q I rx ry h hs
  obtain ⟨a, z, rfl, g, q⟩ := h
  cases (show v = Value.ref a from rx)
  unfold subscriptTail
  refine wpAny_bind ?_
  have hT := dict_typeIs I g
  rw [getitemInPython_of_ne hT.not_modules]
  refine wpAny_bind (wpAny_specialOf hT PySem.F.slot_dict_getitem.lookup ?_)
  have fin : wpAny (model X.prog X.w) X.A (subscripted slice false (.ref a) u) (fun r s₃ => wpAny (model X.prog X.w) X.A (letTemporaryGo value (.ref a) r >>= fun _ => pure r) (EP X pins σ Q) X.xe s₃) X.xe s := by
    rw [hs]
    exact wpAny_operating (d_getItem hu I g ry fun w' s3 I3 rw' => wpAny_bind (wpAny_letTemporaryGo (wpAny_pure ⟨z, H, I3, rw', q⟩)))
  first
    | exact wpAny_pure (wpAny_bind fin)
    | exact wpAny_bind (wpAny_pure (wpAny_bind fin))
    | exact wpAny_bind fin
def rIxA (K : PySem.W.Frag) : R2 := fun x y H Q => rIx K x y H Q ∨ rIxD x y H Q
theorem ix_all {X : Cx} (hu : X.A.units + 1 < cLine) : IxR X (rIxA X.K) := ix_seq.or (ix_dict hu)
def ofO {α : Type} : Option α → Rs α
  | some a => .ok a
  | none => .stuck
theorem ofO_ok {α : Type} {o : Option α} {a : α} (h : ofO o = .ok a) : o = some a := by
  cases o <;> cases h
  rfl
def dIx : D → D → Rs D
  | .list ds, .int i => ofO (atI ds i)
  | .tuple ds, .int i => ofO (atI ds i)
  | .str z, .int i => Rs.grd (sz z.length) ((ofO (atI z.cps.toList i)).bind fun c => .ok (.str ⟨#[c]⟩))
  | .dict es, k => (dicGet es k).bind ofO
  | _, _ => .stuck
theorem RpAll.atI {O : Addr → Prop} {H : Hp} {xs : List V} {ds : List D} {i : Int} {d : D} (r : RpAll K O H xs ds) (h : atI ds i = some d) : ∃ v, L2.atI xs i = some v ∧ Rp K O H v d := by
  unfold L2.atI at h ⊢
  rw [r.len]
  cases e : ixN ds.length i with
  | none => rw [e] at h; cases h
  | some j =>
    rw [e] at h
    exact r.get h
theorem oc_ix : OpC K (rIxA K) dIx := fun O H x y dx dy z Q hO h1 h2 e q => by
  unfold dIx at e
  split at e
  · have e := ofO_ok e
    obtain ⟨a, xs, rfl, s, r⟩ := h1
    obtain ⟨v, e1, r1⟩ := r.atI e
    exact .inl (.inl ⟨a, xs, _, v, rfl, con_int h2, s, e1, q v H Ext0.refl r1⟩)
  · have e := ofO_ok e
    obtain ⟨a, xs, rfl, s, r⟩ := rp_tup h1
    obtain ⟨v, e1, r1⟩ := r.atI e
    exact .inl (.inr (.inl ⟨a, xs, _, v, rfl, con_int h2, s, e1, q v H Ext0.refl r1⟩))
  · obtain ⟨hz, e⟩ := Rs.of_grd e
    obtain ⟨c, e1, e⟩ := Rs.of_bind e
    cases e
    exact .inl (.inr (.inr ⟨_, _, c, con_str h1, con_int h2, hz, ofO_ok e1, q _ H Ext0.refl (.str _)⟩))
  · obtain ⟨r, e1, e⟩ := Rs.of_bind e
    have e := ofO_ok e
    subst e
    obtain ⟨k, ek, _, _⟩ := dicGet_ok e1
    have h2' : Rp K O H y (keyD k) := by
      rw [ek] at h2
      cases k with
      | inl i => exact h2
      | inr s => exact h2
    rw [ek] at e1
    obtain ⟨a, o, ex, g, mm⟩ := dget_of h1 h2' e1
    cases o with
    | none => exact mm.elim
    | some v => exact .inr ⟨a, v, ex, g, q v H Ext0.refl mm⟩
  · cases e
theorem ixn (b : Expr) (h : ∀ o i, subscripted b false o i = operate [o, i] (getItem o i) := by intro _ _; rfl) : PlainIx b := h
/-! ### slices -/
def SM.opt (m : Option (SM D)) : SM (Option Int) := fun ρ => match m with
  | none => .ok (none, ρ)
  | some m => (m ρ).bind fun p => match p.1 with
    | .int i => .ok (some i, p.2)
    | _ => .stuck
def DenO (K : PySem.W.Frag) (to : TO) (m : Option (SM D)) : Prop := ∀ (F : Addr → Prop) (H : Hp) (σ : L2.St) (ρ ρ' : DE) (o : Option Int) (Q : Option Int → Hp → Prop), Rel K F H σ ρ → SM.opt m ρ = .ok (o, ρ') →
  (∀ H', EPost K F σ H ρ H' ρ' → Q o H') → to σ H Q
theorem do_none : DenO K tNoPart none := fun F H σ ρ ρ' o Q rl e q => by
  cases e
  exact q H (.refl rl)
theorem do_some (h : DenE K te m) : DenO K (tPart te) (some m) := fun F H σ ρ ρ' o Q rl e q => by
  obtain ⟨⟨d, ρ1⟩, e1, e⟩ := Rs.of_bind e
  cases d with
  | int i =>
    cases e
    refine h F H σ ρ _ _ _ rl e1 fun v H1 p r => ?_
    cases r
    exact ⟨i, rfl, q H1 p⟩
  | _ => cases e
def rSlAll (K : PySem.W.Frag) : V → Option Int → Option Int → Hp → VK → Prop := fun x lo hi H Q => rSlA K x lo hi H Q ∨ rSlL K x lo hi H Q ∨ rSlS x lo hi H Q
theorem sl_all {X : Cx} : SlR X (rSlAll X.K) := SlR.or sl_tupA (SlR.or sl_list sl_str)
def cutD {α : Type} (xs : List α) (lo hi : Option Int) : List α := (xs.drop (HT.sIx xs.length 0 lo)).take (HT.sIx xs.length xs.length hi - HT.sIx xs.length 0 lo)
theorem cutD_whole {α : Type} {xs : List α} {lo hi : Option Int} (h1 : HT.sIx xs.length 0 lo = 0) (h2 : HT.sIx xs.length xs.length hi = xs.length) : cutD xs lo hi = xs := by
  unfold cutD
  rw [h1, h2, List.drop_zero, Nat.sub_zero]
  exact List.take_length
theorem RpAll.cut {O : Addr → Prop} {H : Hp} {xs : List V} {ds : List D} (r : RpAll K O H xs ds) (lo hi : Option Int) : RpAll K O H (cutV xs lo hi) (cutD ds lo hi) := by
  unfold cutV cutD
  rw [r.len]
  exact (r.drop _).take _
def dCut (lo hi : Option Int) : D → Rs D
  | .list ds => .ok (.list (cutD ds lo hi))
  | .tuple ds => .ok (.tuple (cutD ds lo hi))
  | .str z => Rs.grd (sz z.length) (.ok (.str (cutS z lo hi)))
  | _ => .stuck
theorem sl_of {O : Addr → Prop} {H : Hp} {x : V} {dx z : D} {lo hi : Option Int} {Q : VK} (hO : ∀ a, O a → H a ≠ none) (h1 : Con K O H x dx) (e : dCut lo hi dx = .ok z)
    (q : ∀ v H', Ext0 H H' → Rp K O H' v z → Q v H') : rSlAll K x lo hi H Q := by
  unfold dCut at e
  split at e
  · cases e
    obtain ⟨a, xs, rfl, s, r⟩ := h1
    exact .inr (.inl ⟨a, xs, rfl, s, fun p hp => q _ _ (Ext0.new hp) (lst_new hO hp (r.cut lo hi))⟩)
  · cases e
    have h1 : Rp K O H x (.tuple _) := h1
    obtain ⟨a, xs, rfl, s, r⟩ := rp_tup h1
    refine .inl ⟨a, xs, rfl, s, fun hw => ?_, fun _ p hp => q _ _ (Ext0.new hp) (tup_new hO hp (r.cut lo hi))⟩
    refine q _ H Ext0.refl ?_
    rw [r.len] at hw
    rw [cutD_whole hw.1 hw.2]
    exact h1
  · obtain ⟨hz, e⟩ := Rs.of_grd e
    cases e
    cases con_str h1
    exact .inr (.inr ⟨_, rfl, hz, q _ H Ext0.refl (.str _)⟩)
  · cases e
def mCut (m : SM D) (lo hi : Option (SM D)) : SM D := fun ρ => (m ρ).bind fun p => (SM.opt lo p.2).bind fun l => (SM.opt hi l.2).bind fun u => (dCut l.1 u.1 p.1).bind fun z => .ok (z, u.2)
/-- of a name: looked at behind the ends -/
def mCutP (i : Nat) (lo hi : Option (SM D)) : SM D := fun ρ => (mPeek i ρ).bind fun _ => (SM.opt lo ρ).bind fun l => (SM.opt hi l.2).bind fun u => (mPeek i u.2).bind fun p => (dCut l.1 u.1 p.1).bind fun z => .ok (z, u.2)
theorem de_cut {tl th : TO} {lo hi : Option (SM D)} (h : DenE K te m) (hl : DenO K tl lo) (hh : DenO K th hi) : DenE K (tSl (rSlAll K) te tl th) (mCut m lo hi) := fun F H σ ρ ρ' d Q rl e q => by
  obtain ⟨⟨x, ρ1⟩, e1, e⟩ := Rs.of_bind e
  obtain ⟨⟨l, ρ2⟩, e2, e⟩ := Rs.of_bind e
  obtain ⟨⟨u, ρ3⟩, e3, e⟩ := Rs.of_bind e
  obtain ⟨z, e4, e⟩ := Rs.of_bind e
  cases e
  exact h F H σ ρ ρ1 x _ rl e1 fun v H1 p1 r1 => hl F H1 σ ρ1 ρ2 l _ p1.rel e2 fun H2 p2 => hh F H2 σ ρ2 _ u _ p2.rel e3 fun H3 p3 =>
    sl_of (fun a z => p3.rel.of_some z) (p3.rp (p2.rp r1)).con e4 fun w H4 x4 r4 => q w H4 ((p1.trans (p2.trans p3)).new x4) r4
theorem de_cutP {i : Nat} {tl th : TO} {lo hi : Option (SM D)} (hl : DenO K tl lo) (hh : DenO K th hi) : DenE K (tSl (rSlAll K) (tVar i) tl th) (mCutP i lo hi) := fun F H σ ρ ρ' d Q rl e q => by
  obtain ⟨x0, e0, e⟩ := peek_bind e
  obtain ⟨⟨l, ρ2⟩, e2, e⟩ := Rs.of_bind e
  obtain ⟨⟨u, ρ3⟩, e3, e⟩ := Rs.of_bind e
  obtain ⟨x, e1, e⟩ := peek_bind e
  obtain ⟨z, e4, e⟩ := Rs.of_bind e
  cases e
  obtain ⟨_, v, h1, _⟩ := peek_at rl e0
  refine ⟨v, h1, hl F H σ ρ ρ2 l _ rl e2 fun H2 p2 => hh F H2 σ ρ2 _ u _ p2.rel e3 fun H3 p3 => ?_⟩
  obtain ⟨_, v', h1', r1⟩ := peek_at p3.rel e1
  rw [h1] at h1'
  cases h1'
  exact sl_of (fun a z => p3.rel.of_some z) r1 e4 fun w H4 x4 r4 => q w H4 ((p2.trans p3).new x4) r4
/-! ### calls of built-ins: one argument -/
def C1 (K : PySem.W.Frag) (r : List V → Hp → VK → Prop) (f : D → Rs D) : Prop := ∀ (O : Addr → Prop) (H : Hp) (x : V) (dx z : D) (Q : VK), (∀ a, O a → H a ≠ none) → Con K O H x dx → f dx = .ok z →
  (∀ v H', Ext0 H H' → Rp K O H' v z → Q v H') → r [x] H Q
def C1F (K : PySem.W.Frag) (r : List V → Hp → VK → Prop) (f : D → Rs D) : Prop := ∀ (O : Addr → Prop) (H : Hp) (x : V) (dx z : D) (Q : VK), (∀ a, O a → H a ≠ none) → Con K O H x dx → f dx = .ok z →
  (∀ a H', H a = none → Ext0 H H' → Top K O H' a z → Q (.ref a) H') → r [x] H Q
theorem de_c1 {r : List V → Hp → VK → Prop} {f : D → Rs D} (ho : C1 K r f) (ha : DenC K ta ma) : DenE K (tCB r (tCons ta tNil)) (mUn f ma) := fun F H σ ρ ρ' d Q rl e q => by
  obtain ⟨⟨x, ρ1⟩, e1, e⟩ := Rs.of_bind e
  obtain ⟨z, e3, e⟩ := Rs.of_bind e
  cases e
  exact ha F H σ ρ _ x _ rl e1 fun v H1 p1 r1 => ho _ H1 v x d Q (fun a z => p1.rel.of_some z) r1 e3 fun w H3 e4 r3 => q w H3 (p1.new e4) r3
theorem df_c1 {r : List V → Hp → VK → Prop} {f : D → Rs D} (ho : C1F K r f) (ha : DenC K ta ma) : DenF K (tCB r (tCons ta tNil)) (mUn f ma) := fun F H σ ρ ρ' d Q rl e q => by
  obtain ⟨⟨x, ρ1⟩, e1, e⟩ := Rs.of_bind e
  obtain ⟨z, e3, e⟩ := Rs.of_bind e
  cases e
  exact ha F H σ ρ _ x _ rl e1 fun v H1 p1 r1 => ho _ H1 v x d Q (fun a z => p1.rel.of_some z) r1 e3 fun w H3 hn e4 r3 => q w H1 H3 p1 hn e4 r3
/-- two arguments, the first one an expression of its own -/
def C2 (K : PySem.W.Frag) (r : List V → Hp → VK → Prop) (f : D → D → Rs D) : Prop := ∀ (O : Addr → Prop) (H : Hp) (x y : V) (dx dy z : D) (Q : VK), (∀ a, O a → H a ≠ none) → Rp K O H x dx → Con K O H y dy → f dx dy = .ok z →
  (∀ v H', Ext0 H H' → Rp K O H' v z → Q v H') → r [x, y] H Q
theorem de_c2 {r : List V → Hp → VK → Prop} {f : D → D → Rs D} (ho : C2 K r f) (ha : DenE K ta ma) (hb : DenC K tb mb) : DenE K (tCB r (tCons ta (tCons tb tNil))) (mBin f ma mb) := fun F H σ ρ ρ' d Q rl e q => by
  obtain ⟨⟨x, ρ1⟩, e1, e⟩ := Rs.of_bind e
  obtain ⟨⟨y, ρ2⟩, e2, e⟩ := Rs.of_bind e
  obtain ⟨z, e3, e⟩ := Rs.of_bind e
  cases e
  exact ha F H σ ρ ρ1 x _ rl e1 fun v H1 p1 r1 => hb F H1 σ ρ1 _ y _ p1.rel e2 fun u H2 p2 r2 =>
    ho _ H2 v u x y d Q (fun a z => p2.rel.of_some z) (p2.rp r1) r2 e3 fun w H3 e4 r3 => q w H3 ((p1.trans p2).new e4) r3
/-- len -/
def rLenA (K : PySem.W.Frag) : List V → Hp → VK → Prop := fun xs H Q => (∃ p ys, xs = [.ref p] ∧ (SqL K H p ys ∨ SqT K H p ys) ∧ Q (.int ys.length) H) ∨ (∃ z, xs = [.str z] ∧ z.length ≤ sizeLine ∧ Q (.int z.length) H) ∨ ∃ p kvs, xs = [.ref p] ∧ H p = some (.dK kvs) ∧ Q (.int kvs.length) H
theorem call_lenA {X : Cx} : CallR X (.builtin "len") (rLenA X.K) := CallR.or call_len_seq (CallR.or call_len_str call_lenD)
def dLen : D → Rs D
  | .list ds => .ok (.int ds.length)
  | .tuple ds => .ok (.int ds.length)
  | .str z => Rs.grd (sz z.length) (.ok (.int z.length))
  | _ => .stuck
theorem c1_len : C1 K (rLenA K) dLen := fun O H x dx z Q hO h1 e q => by
  unfold dLen at e
  split at e
  · cases e
    obtain ⟨a, xs, rfl, s, r⟩ := h1
    rw [← r.len] at q
    exact .inl ⟨a, xs, rfl, .inl s, q _ H Ext0.refl (.int _)⟩
  · cases e
    obtain ⟨a, xs, rfl, s, r⟩ := rp_tup h1
    rw [← r.len] at q
    exact .inl ⟨a, xs, rfl, .inr s, q _ H Ext0.refl (.int _)⟩
  · obtain ⟨hz, e⟩ := Rs.of_grd e
    cases e
    cases con_str h1
    exact .inr (.inl ⟨_, rfl, hz, q _ H Ext0.refl (.int _)⟩)
  · cases e
/-- list(x) -/
def rListA (K : PySem.W.Frag) : List V → Hp → VK → Prop := fun xs H Q => ∃ p ys, xs = [.ref p] ∧ (SqL K H p ys ∨ SqT K H p ys) ∧ ∀ l, H l = none → Q (.ref l) (upd H l (.lst ys))
def dList : D → Rs D
  | .list ds => .ok (.list ds)
  | .tuple ds => .ok (.list ds)
  | _ => .stuck
theorem c1f_list : C1F K (rListA K) dList := fun O H x dx z Q hO h1 e q => by
  unfold dList at e
  split at e
  · cases e
    obtain ⟨a, xs, rfl, s, r⟩ := h1
    exact ⟨a, xs, rfl, .inl s, fun l hl => q l _ hl (Ext0.new hl) (top_new hl r)⟩
  · cases e
    obtain ⟨a, xs, rfl, s, r⟩ := rp_tup h1
    exact ⟨a, xs, rfl, .inr s, fun l hl => q l _ hl (Ext0.new hl) (top_new hl r)⟩
  · cases e
/-- tuple(x) -/
def rTupA (K : PySem.W.Frag) : List V → Hp → VK → Prop := fun xs H Q => ∃ p ys, xs = [.ref p] ∧ ((SqL K H p ys ∧ ∀ l, H l = none → Q (.ref l) (upd H l (.tup ys))) ∨ (SqT K H p ys ∧ Q (.ref p) H))
def dTup : D → Rs D
  | .list ds => .ok (.tuple ds)
  | .tuple ds => .ok (.tuple ds)
  | _ => .stuck
theorem c1_tup : C1 K (rTupA K) dTup := fun O H x dx z Q hO h1 e q => by
  unfold dTup at e
  split at e
  · cases e
    obtain ⟨a, xs, rfl, s, r⟩ := h1
    exact ⟨a, xs, rfl, .inl ⟨s, fun l hl => q _ _ (Ext0.new hl) (tup_new hO hl r)⟩⟩
  · cases e
    have h1 : Rp K O H x (.tuple _) := h1
    obtain ⟨a, xs, rfl, s, r⟩ := rp_tup h1
    exact ⟨a, xs, rfl, .inr ⟨s, q _ H Ext0.refl h1⟩⟩
  · cases e
def intsOf : List D → Option (List Int)
  | [] => some []
  | .int i :: ds => (intsOf ds).map (i :: ·)
  | _ :: _ => none
theorem intsOf_eq : ∀ {ds : List D} {ns : List Int}, intsOf ds = some ns → ds = ns.map PyData.int
  | [], ns, h => by cases h; rfl
  | .int i :: ds, ns, h => by
    unfold intsOf at h
    cases e : intsOf ds with
    | none => rw [e] at h; cases h
    | some ms => rw [e] at h; cases h; rw [intsOf_eq e]; rfl
  | .none :: _, _, h => by cases h
  | .bool _ :: _, _, h => by cases h
  | .str _ :: _, _, h => by cases h
  | .list _ :: _, _, h => by cases h
  | .tuple _ :: _, _, h => by cases h
  | .dict _ :: _, _, h => by cases h
@[simp] theorem intsOf_map : ∀ ns : List Int, intsOf (ns.map PyData.int) = some ns
  | [] => rfl
  | n :: ns => by
    rw [List.map_cons]
    unfold intsOf
    rw [intsOf_map ns]
    rfl
def boolsOf : List D → Option (List Bool)
  | [] => some []
  | .bool i :: ds => (boolsOf ds).map (i :: ·)
  | _ :: _ => none
theorem boolsOf_eq : ∀ {ds : List D} {ns : List Bool}, boolsOf ds = some ns → ds = ns.map PyData.bool
  | [], ns, h => by cases h; rfl
  | .bool i :: ds, ns, h => by
    unfold boolsOf at h
    cases e : boolsOf ds with
    | none => rw [e] at h; cases h
    | some ms => rw [e] at h; cases h; rw [boolsOf_eq e]; rfl
  | .none :: _, _, h => by cases h
  | .int _ :: _, _, h => by cases h
  | .str _ :: _, _, h => by cases h
  | .list _ :: _, _, h => by cases h
  | .tuple _ :: _, _, h => by cases h
  | .dict _ :: _, _, h => by cases h
@[simp] theorem boolsOf_map : ∀ ns : List Bool, boolsOf (ns.map PyData.bool) = some ns
  | [] => rfl
  | n :: ns => by
    rw [List.map_cons]
    unfold boolsOf
    rw [boolsOf_map ns]
    rfl
/-- all, any of lists of truth values -/
def dAll : D → Rs D
  | .list ds => (ofO (boolsOf ds)).bind fun bs => .ok (.bool (bs.all id))
  | _ => .stuck
def dAny : D → Rs D
  | .list ds => (ofO (boolsOf ds)).bind fun bs => .ok (.bool (bs.any id))
  | _ => .stuck
theorem c1_all : C1 K (rAll K) dAll := fun O H x dx z Q hO h1 e q => by
  unfold dAll at e
  split at e
  · obtain ⟨bs, e1, e⟩ := Rs.of_bind e
    cases e
    have e1 := boolsOf_eq (ofO_ok e1)
    subst e1
    obtain ⟨a, xs, rfl, s, r⟩ := h1
    have ex := r.bools_inv
    subst ex
    exact ⟨a, bs, rfl, s, q _ H Ext0.refl (.bl _)⟩
  · cases e
theorem c1_any : C1 K (rAny K) dAny := fun O H x dx z Q hO h1 e q => by
  unfold dAny at e
  split at e
  · obtain ⟨bs, e1, e⟩ := Rs.of_bind e
    cases e
    have e1 := boolsOf_eq (ofO_ok e1)
    subst e1
    obtain ⟨a, xs, rfl, s, r⟩ := h1
    have ex := r.bools_inv
    subst ex
    exact ⟨a, bs, rfl, s, q _ H Ext0.refl (.bl _)⟩
  · cases e
/-- sum of ints -/
theorem sum_rawT {prog : Program} {w : World} {A : Around} {E : Value → Shared → Prop} {s : Shared} {l : Addr} {its : List Value} {ns : List Int} {Q : Value → Shared → Prop} (hh : A.handled = none) (hl : s.heap.IsTuple l its.toArray) (hi : IntsAre its ns)
    (h : ∀ h' tk t', (∀ b o, s.heap.get? b = some o → h'.get? b = some o) → Q (.int ns.sum t') { s with heap := h', toks := tk }) : wpAny (model prog w) A (call (.builtin "sum") [.ref l]) Q E s := by
  obtain ⟨xs, e⟩ := hi.allInts.items
  have hn : numsOf (intItems xs).toList = ns := by rw [← e]; exact hi.numsOf
  rw [nums_intItems] at hn
  rw [e] at hl
  have hlt : l < s.heap.objs.size := by obtain ⟨_, e, _⟩ := hl; exact Heap.lt_size e
  refine call_sum_walkG (wpAny_pyIter_tuple hl ?_)
  refine ⟨_, _, _, _, _, _, numAt xs, rfl, Walks.tuple (A := A.in1) hh _ l (Nat.ne_of_lt hlt) (intItems xs), ⟨⟨_, Heap.get?_push_size _ rfl, rfl, rfl⟩, hl.push _⟩, fun b hb => ?_, (fun _ _ => intItems_at), fun h' tk t' hk => ?_⟩
  · show b < (s.heap.push _).objs.size
    rw [Heap.size_push]
    rcases List.mem_cons.mp hb with rfl | hb
    · exact Nat.lt_succ_self _
    · rcases List.mem_cons.mp hb with rfl | hb
      · exact Nat.lt_succ_of_lt hlt
      · cases hb
  · have := h h' tk t' (fun b o e => hk b o (fun hb => absurd (Heap.lt_size e) ((List.mem_singleton.mp hb) ▸ Nat.lt_irrefl _)) (Heap.get?_push_of_some _ e))
    have e2 : preSum (numAt xs) (intItems xs).size = ns.sum := by
      rw [show (intItems xs).size = xs.size by simp [intItems], preSum_eq, List.take_of_length_le (by simp), hn]
    rw [e2]
    exact this
def rSumA (K : PySem.W.Frag) : List V → Hp → VK → Prop := fun vs H Q => ∃ (a : Addr) (ns : List Int), vs = [V.ref a] ∧ (SqL K H a (ns.map V.int) ∨ SqT K H a (ns.map V.int)) ∧ Q (.int ns.sum) H
theorem cr_sumA {X : Cx} (hc : X.calm = true) : CallR X (.builtin "sum") (rSumA X.K) := by
  intro pins s σ H vs us Q I r h
  obtain ⟨a, ns, rfl, hs, q⟩ := h
  rw [Vals.ref1 r]
  rcases hs with hs | hs
  · obtain ⟨its, rv, hl, _⟩ := I.list hs
    exact sum_raw (I.ok.hd hc) hl.isList rv.ints fun h' tk t' hk => ⟨.int _, H, I.kept hk, ⟨_, rfl⟩, q⟩
  · obtain ⟨its, rv, hl, _⟩ := I.tuple hs
    exact sum_rawT (I.ok.hd hc) hl rv.ints fun h' tk t' hk => ⟨.int _, H, I.kept hk, ⟨_, rfl⟩, q⟩
def itemsD : D → Option (List D)
  | .list ds => some ds
  | .tuple ds => some ds
  | _ => none
theorem items_of {O : Addr → Prop} {H : Hp} {x : V} {d : D} {ds : List D} (h : Con K O H x d) (e : itemsD d = some ds) : ∃ a xs, x = .ref a ∧ (SqL K H a xs ∨ SqT K H a xs) ∧ RpAll K O H xs ds := by
  cases d with
  | list es => cases e; obtain ⟨a, xs, rfl, s, r⟩ := h; exact ⟨a, xs, rfl, .inl s, r⟩
  | tuple es => cases e; obtain ⟨a, xs, rfl, s, r⟩ := rp_tup h; exact ⟨a, xs, rfl, .inr s, r⟩
  | _ => cases e
def dSum (d : D) : Rs D := (ofO ((itemsD d).bind intsOf)).bind fun ns => .ok (.int ns.sum)
theorem c1_sum : C1 K (rSumA K) dSum := fun O H x dx z Q hO h1 e q => by
  obtain ⟨ns, e1, e⟩ := Rs.of_bind e
  cases e
  have e1 := ofO_ok e1
  cases e2 : itemsD dx with
  | none => rw [e2] at e1; cases e1
  | some ds =>
    rw [e2] at e1
    have e3 := intsOf_eq (show intsOf ds = some ns from e1)
    subst e3
    obtain ⟨a, xs, rfl, s, r⟩ := items_of h1 e2
    have ex := r.ints_inv
    subst ex
    exact ⟨a, ns, rfl, s, q _ H Ext0.refl (.int _)⟩
end
end
end DL
namespace DL
open PySem PySem.Spec PyProof.Rows L2
noncomputable section
/-! ### sorted -/
section
variable {prog : Program} {w : World} {A : Around} {E : Value → Shared → Prop} {s : Shared}
theorem collect_tupleA {l : Addr} {vs : List Value} {Q : List Value → Shared → Prop} (hl : s.heap.IsTuple l vs.toArray)
    (h : Q vs { s with heap := (s.heap.push (seqObj "list" #[] 0)).update s.heap.objs.size (Obj.mapSeq (· ++ vs.toArray)) }) (hsz : vs.length ≤ sizeLine) :
    wpAny (model prog w) A (collect (.ref l)) Q E s := by
  obtain ⟨o, ho, hc, n, hd⟩ := id hl
  unfold collect
  refine wpAny_bind (wpAny_runValue (codeAny_builtin entry_proto_collect' ?_))
  show wpAny _ _ (do again (.builtin "list.__iadd__" ⟨[← newList [], .ref l], []⟩)) _ _ s
  refine wpAny_bind (wpAny_newList (wpAny_pure ⟨Code.quiet_builtin _ (by decide +kernel), codeAny_builtin entry_list_iadd' ?_⟩))
  show wpAny _ _ (Builtin.List.listExtendWith (.ref s.heap.objs.size) (.ref l) (.ref s.heap.objs.size)) _ _ { s with heap := s.heap.push (seqObj "list" #[] 0) }
  unfold Builtin.List.listExtendWith
  have ho' : (s.heap.push (seqObj "list" #[] 0)).get? l = some o := Heap.get?_push_of_some _ ho
  refine wpAny_bind (wpAny_typeOf (T := "tuple") ⟨o, ho', hc⟩ ?_)
  have ht : (Value.type "tuple" == Value.type "tuple") = true := by rfl
  rw [if_pos (by rw [ht]; simp)]
  refine wpAny_bind (listItems_at ho' hd ?_)
  refine wpAny_bind (listItems_at (xs := #[]) (n := 0) (Heap.get?_push_size _ rfl) rfl ?_)
  rw [if_neg (by simp)]
  refine wpAny_bind (listUpdate_at (xs := #[]) (n := 0) (Heap.get?_push_size _ rfl) rfl ?_ (Nat.zero_le _) (by show (#[] ++ vs.toArray).size ≤ sizeLine + 1; simp only [Array.size_append, List.size_toArray, List.length_nil]; omega))
  refine wpAny_pure ?_
  show wpAny (model prog w) A (do
      let o ← load s.heap.objs.size
      match o.data with
      | .seq xs _ => pure xs.toList
      | _ => unsupported "internal:collect") Q E { s with heap := (s.heap.push (seqObj "list" #[] 0)).update s.heap.objs.size (Obj.mapSeq (· ++ vs.toArray)) }
  refine wpAny_bind (wpAny_load (get?_update_seq (Heap.get?_push_size _ rfl) _) ?_)
  show wpAny _ _ (pure ((#[] : Array Value) ++ vs.toArray).toList) Q E _
  rw [show ((#[] : Array Value) ++ vs.toArray).toList = vs by simp]
  exact wpAny_pure h
open PySem.W PySem.Calls in
theorem sorted_of_sortT {l : Addr} {vs : List Value} {kw : List (Str × Value)} {Q : Value → Shared → Prop} (hl : s.heap.IsTuple l vs.toArray) (hL : vs.length ≤ sizeLine) (ha1 : argsOk "sorted" ⟨[.ref l], kw⟩) (ha2 : ∀ x, argsOk "list.sort" ⟨[.ref x], kw⟩)
    (body : ∀ E' : Value → Shared → Prop, wpAny (model prog w) A.in1.in1 (Builtin.«list.sort» ⟨[.ref (s.heap.objs.size + 1)], kw⟩) (fun f s' => f = .done (.ret .none) ∧ Q (.ref (s.heap.objs.size + 1)) s') E' { s with heap := copyHeap s.heap vs }) :
    wpAny (model prog w) A (call (.builtin "sorted") [.ref l] kw) Q E s := by
  refine call_function_entry_kw kind_sorted plain_sorted entry_sorted ha1 ?_
  unfold Builtin.«sorted»
  refine wpAny_bind (m := checkCount "sorted" 1 1 _) (wpAny_pure ?_)
  refine wpAny_bind (collect_tupleA hl ?_ hL)
  refine wpAny_bind (wpAny_newList ?_ hL)
  have hsz : ((s.heap.push (seqObj "list" #[] 0)).update s.heap.objs.size (Obj.mapSeq (· ++ vs.toArray))).objs.size = s.heap.objs.size + 1 := by
    rw [Heap.size_update, size_push']
  show wpAny _ _ _ _ _ { s with heap := copyHeap s.heap vs }
  rw [hsz]
  refine wpAny_bind (wpAny_holding (wpAny_call_entry_kw slot_list_sort ⟨_, copyHeap_at s.heap vs, rfl⟩ entry_list_sort ?body (ha2 _)))
  case body =>
    show wpAny (model prog w) A.in1.in1 (Builtin.«list.sort» ⟨[.ref (s.heap.objs.size + 1)], kw⟩) _ _ _
    refine wpAny_mono (body _) (fun f s' hf => ?_) fun _ _ e => e
    obtain ⟨rfl, hq⟩ := hf
    exact ⟨_, rfl, wpAny_pure ⟨_, rfl, hq⟩⟩
open PySem.W PySem.Calls in
theorem sorted_dataT {β : Type} {R : Value → β → Prop} {enc : β → PyData} {vs : List Value} {bs : List β} {l : Addr} {Q : Value → Shared → Prop} (hl : s.heap.IsTuple l vs.toArray) (e : EachIs R vs bs) (er : EachIs (fun v b => ∃ as, Reads s.heap v (enc b) as) vs bs) (hal : AllAlike (bs.map enc)) (hk : Sortable (bs.map enc)) (hL : bs.length ≤ sizeLine)
    (hu : ∀ b, b ∈ bs → A.units + 2 + (enc b).depth < cLine) (h : ∀ out, out.length = bs.length → EachIs R out (bs.mergeSort (dataLe false enc)) → Q (.ref (s.heap.objs.size + 1)) { s with heap := sortedAll s.heap vs (List.toArray out) }) :
    wpAny (model prog w) A (call (.builtin "sorted") [.ref l]) Q E s := by
  have er' : EachIs (fun v b => ∃ as, Reads (sortingHeap (copyHeap s.heap vs) (s.heap.objs.size + 1) vs) v (enc b) as) vs bs := er.mono fun _ _ ⟨as, r⟩ => ⟨as, PyProof.Rows.Reads.keeps (fun _ _ => sorting_copy_old) r⟩
  refine sorted_of_sortT hl (by rw [e.length]; exact hL) (args_sorted1 _) (fun _ => args_list_sort _) fun _ => list_sort_vals (s := { s with heap := copyHeap s.heap vs }) (copyHeap_at s.heap vs) (SortsAt.data (s := { s with heap := sortingHeap (copyHeap s.heap vs) (s.heap.objs.size + 1) vs }) (each_map (R := fun v d => ∃ as, Reads (sortingHeap (copyHeap s.heap vs) (s.heap.objs.size + 1) vs) v d as) enc er') hal hk (bound_map hu)) (by rw [e.length]; exact hL) ⟨rfl, ?_⟩
  exact h _ (by rw [sortVals_length false rfl]; exact e.length) (sortVals_data false e er' hal)
end
section
variable {X : Cx}
def sortD (ds : List D) : List D := ds.mergeSort (PySem.W.dataLe false id)
/-- each item of xs' is one of xs, with its datum -/
def Same2 (xs xs' : List V) (ds ds' : List D) : Prop := Paired (fun x d => ∃ j : Nat, xs[j]? = some x ∧ ds[j]? = some d) xs' ds'
theorem Same2.rp {K : PySem.W.Frag} {O : Addr → Prop} {H : Hp} {xs : List V} {ds : List D} (r : RpAll K O H xs ds) : ∀ {xs' : List V} {ds' : List D}, Same2 xs xs' ds ds' → RpAll K O H xs' ds'
  | _, _, .nil => .nil
  | _, _, .cons ⟨j, h1, h2⟩ t => by
    obtain ⟨v, e1, e2⟩ := r.get h2
    rw [h1] at e1
    cases e1
    exact .cons e2 (Same2.rp r t)
def rSortedD (K : PySem.W.Frag) : List V → Hp → VK → Prop := fun vs H Q => ∃ (a : Addr) (xs : List V) (ds : List D), vs = [V.ref a] ∧ (SqL K H a xs ∨ SqT K H a xs) ∧ DpAll K H xs ds ∧ PySem.W.AllAlike ds ∧ PySem.W.Sortable ds ∧ (∀ d ∈ ds, d.depth ≤ 60) ∧
  ∀ (xs' : List V) (p : Addr), H p = none → Same2 xs xs' ds (sortD ds) → Q (.ref p) (upd H p (.lst xs'))
open PySem.W in
theorem each_ix {its : List Value} {xs : List V} {ds : List D} (rv : Vals xs its) (hlen : xs.length = ds.length) : ∀ (k : Nat) (its' : List Value) (xs' : List V) (ds' : List D), its' = its.drop k → xs' = xs.drop k → ds' = ds.drop k →
    EachIs (fun v d => ∃ (j : Nat) (x : V), xs[j]? = some x ∧ ds[j]? = some d ∧ RelV x v) its' ds' := by
  intro k its'
  induction its' generalizing k with
  | nil =>
    intro xs' ds' h1 h2 h3
    have : ds' = [] := by
      subst h3
      have e1 := congrArg List.length h1
      rw [List.length_nil, List.length_drop] at e1
      have e2 := rv.length
      exact List.drop_eq_nil_of_le (by omega)
    subst this
    exact .nil
  | cons v its' ih =>
    intro xs' ds' h1 h2 h3
    have hk : k < its.length := by
      rcases Nat.lt_or_ge k its.length with z | z
      · exact z
      · rw [List.drop_eq_nil_of_le z] at h1; cases h1
    have hx : k < xs.length := by have := rv.length; omega
    have hd : k < ds.length := by omega
    rw [List.drop_eq_getElem_cons hk] at h1
    rw [List.drop_eq_getElem_cons hd] at h3
    injection h1 with h4 h5
    subst h3
    obtain ⟨u, e1, e2⟩ := rv.get (List.getElem?_eq_getElem hx)
    rw [List.getElem?_eq_getElem hk] at e1
    cases e1
    subst h4
    exact .cons ⟨k, xs[k], List.getElem?_eq_getElem hx, List.getElem?_eq_getElem hd, e2⟩ (ih (k + 1) _ _ h5 rfl rfl)
open PySem.W in
theorem each_reads {h : Heap} : ∀ {vs : List Value} {ds : List D} {as : List Addr}, ReadsAll h vs ds as → EachIs (fun v b => ∃ as, Reads h v (id b) as) vs ds
  | _, _, _, .nil => .nil
  | _, _, _, .cons r rs => .cons ⟨_, r⟩ (each_reads rs)
open PySem.W in
theorem same_of_each {xs : List V} {ds : List D} : ∀ {out : List Value} {ds' : List D}, EachIs (fun v d => ∃ (j : Nat) (x : V), xs[j]? = some x ∧ ds[j]? = some d ∧ RelV x v) out ds' → ∃ xs', Vals xs' out ∧ Same2 xs xs' ds ds'
  | _, _, .nil => ⟨[], .nil, .nil⟩
  | _, _, .cons ⟨j, x, h1, h2, h3⟩ t => by
    obtain ⟨xs', v', s'⟩ := same_of_each t
    exact ⟨x :: xs', .cons h3 v', .cons ⟨j, h1, h2⟩ s'⟩
theorem cr_sortedD (hu : X.A.units + 64 < cLine) : CallR X (.builtin "sorted") (rSortedD X.K) := by
  intro pins s σ H vs us Q I r h
  obtain ⟨a, xs, ds, rfl, hs, hd, hal, hk, hdp, q⟩ := h
  rw [Vals.ref1 r]
  have hidm : ds.map id = ds := List.map_id ds
  have fin : ∀ (its : List Value), Vals xs its → xs.length ≤ sizeLine → ∀ out, out.length = ds.length → PySem.W.EachIs (fun v d => ∃ (j : Nat) (x : V), xs[j]? = some x ∧ ds[j]? = some d ∧ RelV x v) out (ds.mergeSort (PySem.W.dataLe false id)) →
      EP X pins σ Q (.ref (s.heap.objs.size + 1)) { s with heap := sortedAll s.heap its (List.toArray out) } := fun its rv hz out ho he => by
    obtain ⟨xs', v', s'⟩ := same_of_each he
    obtain ⟨ep, he'⟩ := PyProof.Rows.sortedAll_at s.heap its out.toArray
    obtain ⟨as, rs⟩ := Dp.readsAll I ds _ its hd rv
    have l1 := SeqAt.ReadsAll.length _ _ _ rs
    have l2 := rv.length
    have hlen : xs'.length ≤ sizeLine := by rw [v'.length]; omega
    exact ⟨.ref _, upd H (s.heap.objs.size + 1) (.lst xs'), I.laid (t' := s.toks) (fun _ _ => PyProof.Rows.sortedAll_old) (Nat.le_succ _) ⟨hlen, out, ep, v', he'⟩, rfl, q _ _ (I.hok.fresh (Nat.le_succ _)) s'⟩
  rcases hs with hs | hs
  · obtain ⟨its, rv, hl, hz⟩ := I.list hs
    obtain ⟨as, rs⟩ := Dp.readsAll I ds _ its hd rv
    have l1 := SeqAt.ReadsAll.length _ _ _ rs
    have l2 := rv.length
    refine PySem.W.sorted_data (enc := id) hl.isList (each_ix rv (by omega) 0 its xs ds rfl rfl rfl) (each_reads rs) (by rw [hidm]; exact hal) (by rw [hidm]; exact hk) (by omega) (fun b hb => ?_) (fin its rv hz)
    have := hdp b hb
    show X.A.units + 2 + b.depth < cLine
    omega
  · obtain ⟨its, rv, hl, hz⟩ := I.tuple hs
    obtain ⟨as, rs⟩ := Dp.readsAll I ds _ its hd rv
    have l1 := SeqAt.ReadsAll.length _ _ _ rs
    have l2 := rv.length
    refine sorted_dataT (enc := id) hl (each_ix rv (by omega) 0 its xs ds rfl rfl rfl) (each_reads rs) (by rw [hidm]; exact hal) (by rw [hidm]; exact hk) (by omega) (fun b hb => ?_) (fin its rv hz)
    have := hdp b hb
    show X.A.units + 2 + b.depth < cLine
    omega
end
section
variable {K : PySem.W.Frag}
def alikeOk (ds : List D) : Prop := PySem.W.AllAlike ds ∧ PySem.W.Sortable ds ∧ ∀ d ∈ ds, okD d
open Classical in
def dSorted (d : D) : Rs D := (ofO (itemsD d)).bind fun ds => if alikeOk ds then .ok (.list (sortD ds)) else .stuck
theorem plain_all {ds : List D} (h : ∀ d ∈ ds, okD d) : PyData.plainAll ds = true := by
  induction ds with
  | nil => rfl
  | cons d ds ih =>
    exact Bool.and_eq_true_iff.mpr ⟨(h d List.mem_cons_self).1, ih fun e he => h e (List.mem_cons_of_mem _ he)⟩
theorem c1f_sorted : C1F K (rSortedD K) dSorted := fun O H x dx z Q hO h1 e q => by
  obtain ⟨ds, e1, e⟩ := Rs.of_bind e
  have e1 := ofO_ok e1
  split at e
  · rename_i hok
    cases e
    obtain ⟨a, xs, rfl, s, r⟩ := items_of h1 e1
    obtain ⟨h2, h3, h4⟩ := hok
    exact ⟨a, xs, ds, rfl, s, dps_of (plain_all h4) r, h2, h3, fun d hd => (h4 d hd).2, fun xs' p hp hs => q p _ hp (Ext0.new hp) (top_new hp (hs.rp r))⟩
  · cases e
/-! ### min, max -/
def rBest (K : PySem.W.Frag) (f : D → List D → D) : List V → Hp → VK → Prop := fun vs H Q => ∃ (a : Addr) (xs : List V) (d : D) (ds : List D), vs = [V.ref a] ∧ (SqL K H a xs ∨ SqT K H a xs) ∧ DpAll K H xs (d :: ds) ∧ PySem.W.AlikeAll (d :: ds) ∧ (∀ e ∈ d :: ds, okD e) ∧
  ∀ (x : V) (j : Nat), xs[j]? = some x → (d :: ds)[j]? = some (f d ds) → Q x H
theorem depthAll_le {ds : List D} {n : Nat} (h : ∀ d ∈ ds, d.depth ≤ n) : PyData.depthAll ds ≤ n := by
  induction ds with
  | nil => simp [PyData.depthAll]
  | cons d ds ih =>
    have h1 := h d List.mem_cons_self
    have h2 := ih fun e he => h e (List.mem_cons_of_mem _ he)
    simp only [PyData.depthAll]
    omega
theorem best_at {X : Cx} {pins : List (Addr × Obj)} {σ : L2.St} {H : Hp} {s : Shared} {xs : List V} {ds : List D} {its : List Value} {as bs : List Addr} {m : D} {h' : Heap} {i : Nat} {v : Value} (rv : Vals xs its) (rs : ReadsAll s.heap its ds as) (hp : ∀ e ∈ ds, okD e)
    (hk : ∀ b o, s.heap.get? b = some o → h'.get? b = some o) (hv : its.toArray[i]? = some v) (rm : Reads h' v m bs) : ∃ x, xs[i]? = some x ∧ ds[i]? = some m ∧ RelV x v := by
  have hv' : its[i]? = some v := by simpa using hv
  have hi : i < its.length := by
    rcases Nat.lt_or_ge i its.length with z | z
    · exact z
    · rw [List.getElem?_eq_none z] at hv'; cases hv'
  have l2 := rv.length
  have hx : i < xs.length := by omega
  obtain ⟨u, e1, e2⟩ := rv.get (List.getElem?_eq_getElem hx)
  rw [hv'] at e1
  cases e1
  obtain ⟨cs, r1, hlt, hm, _⟩ := PySem.W.readsAll_at (vs := its) rs i v hv'
  have e3 : ds[i]? = some (ds.getD i .none) := by
    rw [List.getD_eq_getElem?_getD, List.getElem?_eq_getElem hlt]
    rfl
  have e4 := PySem.SeqAt.plain_unique _ _ v _ _ (hp _ hm).1 (PyProof.Rows.Reads.keeps hk r1) rm
  rw [e4] at e3
  exact ⟨xs[i], List.getElem?_eq_getElem hx, e3, e2⟩
section
variable {X : Cx}
theorem cr_minD (hc : X.calm = true) (hu : X.A.units + 64 < cLine) : CallR X (.builtin "min") (rBest X.K PySem.W.minD) := by
  intro pins s σ H vs us Q I r h
  obtain ⟨a, xs, d, ds, rfl, hs, hd, hal, hok, q⟩ := h
  rw [Vals.ref1 r]
  have hdep := depthAll_le fun e he => (hok e he).2
  rcases hs with hs | hs
  · obtain ⟨its, rv, hl, hz⟩ := I.list hs
    obtain ⟨as, rs⟩ := Dp.readsAll I (d :: ds) _ its hd rv
    refine PySem.W.min_list_data (I.ok.hd hc) hl.isList rs hal (by omega) fun i v h' tk bs hv rm hk => ?_
    obtain ⟨x, e1, e2, e3⟩ := best_at (X := X) (pins := pins) (σ := σ) (H := H) rv rs hok hk hv rm
    exact ⟨x, H, I.kept hk, e3, q x i e1 e2⟩
  · obtain ⟨its, rv, hl, hz⟩ := I.tuple hs
    obtain ⟨as, rs⟩ := Dp.readsAll I (d :: ds) _ its hd rv
    refine PySem.W.min_tuple_data (I.ok.hd hc) hl rs hal (by omega) fun i v h' tk bs hv rm hk => ?_
    obtain ⟨x, e1, e2, e3⟩ := best_at (X := X) (pins := pins) (σ := σ) (H := H) rv rs hok hk hv rm
    exact ⟨x, H, I.kept hk, e3, q x i e1 e2⟩
theorem cr_maxD (hc : X.calm = true) (hu : X.A.units + 64 < cLine) : CallR X (.builtin "max") (rBest X.K PySem.W.maxD) := by
  intro pins s σ H vs us Q I r h
  obtain ⟨a, xs, d, ds, rfl, hs, hd, hal, hok, q⟩ := h
  rw [Vals.ref1 r]
  have hdep := depthAll_le fun e he => (hok e he).2
  rcases hs with hs | hs
  · obtain ⟨its, rv, hl, hz⟩ := I.list hs
    obtain ⟨as, rs⟩ := Dp.readsAll I (d :: ds) _ its hd rv
    refine PySem.W.max_list_data (I.ok.hd hc) hl.isList rs hal (by omega) fun i v h' tk bs hv rm hk => ?_
    obtain ⟨x, e1, e2, e3⟩ := best_at (X := X) (pins := pins) (σ := σ) (H := H) rv rs hok hk hv rm
    exact ⟨x, H, I.kept hk, e3, q x i e1 e2⟩
  · obtain ⟨its, rv, hl, hz⟩ := I.tuple hs
    obtain ⟨as, rs⟩ := Dp.readsAll I (d :: ds) _ its hd rv
    refine PySem.W.max_tuple_data (I.ok.hd hc) hl rs hal (by omega) fun i v h' tk bs hv rm hk => ?_
    obtain ⟨x, e1, e2, e3⟩ := best_at (X := X) (pins := pins) (σ := σ) (H := H) rv rs hok hk hv rm
    exact ⟨x, H, I.kept hk, e3, q x i e1 e2⟩
end
open Classical in
def dBest (f : D → List D → D) (d : D) : Rs D := match itemsD d with
  | some (x :: ds) => if PySem.W.AlikeAll (x :: ds) ∧ ∀ e ∈ x :: ds, okD e then .ok (f x ds) else .stuck
  | _ => .stuck
theorem c1_best {f : D → List D → D} : C1 K (rBest K f) (dBest f) := fun O H x dx z Q hO h1 e q => by
  unfold dBest at e
  split at e
  · rename_i d ds e1
    split at e
    · rename_i hok
      cases e
      obtain ⟨a, xs, rfl, s, r⟩ := items_of h1 e1
      refine ⟨a, xs, d, ds, rfl, s, dps_of (plain_all hok.2) r, hok.1, hok.2, fun y j e2 e3 => ?_⟩
      obtain ⟨v, e4, e5⟩ := r.get e3
      rw [e2] at e4
      cases e4
      exact q y H Ext0.refl e5
    · cases e
  · cases e
/-- min, max of two ints -/
def dMax2 : D → D → Rs D
  | .int i, .int j => .ok (.int (if j > i then j else i))
  | _, _ => .stuck
def dMin2 : D → D → Rs D
  | .int i, .int j => .ok (.int (if j < i then j else i))
  | _, _ => .stuck
theorem c2_max : C2 K (fun xs H Q => ∃ i j, xs = [.int i, .int j] ∧ Q (.int (if j > i then j else i)) H) dMax2 := fun O H x y dx dy z Q hO h1 h2 e q => by
  unfold dMax2 at e
  split at e
  · cases e
    cases h1
    cases con_int h2
    exact ⟨_, _, rfl, q _ H Ext0.refl (.int _)⟩
  · cases e
theorem c2_min : C2 K (fun xs H Q => ∃ i j, xs = [.int i, .int j] ∧ Q (.int (if j < i then j else i)) H) dMin2 := fun O H x y dx dy z Q hO h1 h2 e q => by
  unfold dMin2 at e
  split at e
  · cases e
    cases h1
    cases con_int h2
    exact ⟨_, _, rfl, q _ H Ext0.refl (.int _)⟩
  · cases e
def dAbs : D → Rs D
  | .int i => .ok (.int (if i < 0 then -i else i))
  | _ => .stuck
theorem c1_abs : C1 K (fun xs H Q => ∃ i, xs = [.int i] ∧ Q (.int (if i < 0 then -i else i)) H) dAbs := fun O H x dx z Q hO h1 e q => by
  unfold dAbs at e
  split at e
  · cases e
    cases con_int h1
    exact ⟨_, rfl, q _ H Ext0.refl (.int _)⟩
  · cases e
def dInt : D → Rs D
  | .int i => .ok (.int i)
  | .bool k => .ok (.int (if k then 1 else 0))
  | _ => .stuck
theorem c1_int : C1 K (fun xs H Q => (∃ i, xs = [.int i] ∧ Q (.int i) H) ∨ ∃ k, xs = [.bl k] ∧ Q (.int (if k then 1 else 0)) H) dInt := fun O H x dx z Q hO h1 e q => by
  unfold dInt at e
  split at e
  · cases e
    cases con_int h1
    exact .inl ⟨_, rfl, q _ H Ext0.refl (.int _)⟩
  · cases e
    cases con_bl h1
    exact .inr ⟨_, rfl, q _ H Ext0.refl (.int _)⟩
  · cases e
/-! ### isinstance -/
inductive Ty where
  | int | bool | str | tuple | list
  deriving DecidableEq
def Ty.nm : Ty → String
  | .int => "int"
  | .bool => "bool"
  | .str => "str"
  | .tuple => "tuple"
  | .list => "list"
def isiD : D → Ty → Rs Bool
  | .none, _ => .ok false
  | .bool _, .int => .ok true
  | .bool _, .bool => .ok true
  | .bool _, _ => .ok false
  | .int _, .int => .ok true
  | .int _, _ => .ok false
  | .str _, .str => .ok true
  | .str _, _ => .ok false
  | .tuple _, .tuple => .ok true
  | .tuple _, _ => .ok false
  | .list _, .list => .ok true
  | .list _, _ => .ok false
  | .dict _, _ => .stuck
def rIsiA (K : PySem.W.Frag) (T : Ty) : V → Hp → VK → Prop := fun x H Q => ∃ t b, TyX K H x t ∧ PySem.W.kitOne K t (.type T.nm) = some b ∧ Q (.bl b) H
theorem isi_call {x : V} {T : Ty} {H : Hp} {Q : VK} (h : rIsiA K T x H Q) : rIsi K [x, .ty T.nm] H Q := by
  obtain ⟨t, b, h1, h2, q⟩ := h
  exact ⟨x, .ty T.nm, t, .type T.nm, b, rfl, .ty _, h1, h2, q⟩
def dIsi (T : Ty) (d : D) : Rs D := (isiD d T).bind fun b => .ok (.bool b)
theorem tyX_l {H : Hp} {a : Addr} {xs : List V} (h : SqL K H a xs) : TyX K H (.ref a) (.type "list") := by
  rcases h with (h | ⟨o, h⟩) | ⟨o, its, n, h1, h2, _⟩
  · exact .base (.lst h)
  · exact .base (.frz h)
  · exact .kList h1 h2
theorem tyX_t {H : Hp} {a : Addr} {xs : List V} (h : SqT K H a xs) : TyX K H (.ref a) (.type "tuple") := by
  rcases h with (h | ⟨o, h⟩) | ⟨o, its, n, h1, h2, _⟩
  · exact .base (.tup h)
  · exact .fTuple h
  · exact .kTuple h1 h2
theorem ui_isi {T : Ty} {O : Addr → Prop} {H : Hp} {x : V} {d z : D} {Q : VK} (h1 : Con K O H x d) (e : dIsi T d = .ok z) (q : ∀ v H', Ext0 H H' → Rp K O H' v z → Q v H') : rIsiA K T x H Q := by
  obtain ⟨b, e1, e⟩ := Rs.of_bind e
  cases e
  have fin := q _ H Ext0.refl (.bl b)
  cases d with
  | none => cases con_non h1; cases T <;> cases e1 <;> exact ⟨_, _, .base .non, kit_ty (by decide +kernel), fin⟩
  | bool b => cases con_bl h1; cases T <;> cases e1 <;> exact ⟨_, _, .base (.bl _), kit_ty (by decide +kernel), fin⟩
  | int i => cases con_int h1; cases T <;> cases e1 <;> exact ⟨_, _, .base (.int _), kit_ty (by decide +kernel), fin⟩
  | str i => cases con_str h1; cases T <;> cases e1 <;> exact ⟨_, _, .base (.str _), kit_ty (by decide +kernel), fin⟩
  | list i => obtain ⟨a, xs, rfl, s, r⟩ := h1; cases T <;> cases e1 <;> exact ⟨_, _, tyX_l s, kit_ty (by decide +kernel), fin⟩
  | tuple i => obtain ⟨a, xs, rfl, s, r⟩ := rp_tup h1; cases T <;> cases e1 <;> exact ⟨_, _, tyX_t s, kit_ty (by decide +kernel), fin⟩
  | dict i => cases e1
theorem de_isi {T : Ty} {ta : TE} {ma : SM D} (ha : DenC K ta ma) : DenE K (tCB (rIsi K) (tCons ta (tCons (tC (.ty T.nm)) tNil))) (mUn (dIsi T) ma) := fun F H σ ρ ρ' d Q rl e q => by
  obtain ⟨⟨x, ρ1⟩, e1, e⟩ := Rs.of_bind e
  obtain ⟨z, e3, e⟩ := Rs.of_bind e
  cases e
  exact ha F H σ ρ _ x _ rl e1 fun v H1 p1 r1 => isi_call (ui_isi r1 e3 fun w H3 e4 r3 => q w H3 (p1.new e4) r3)
end
end
end DL
namespace DL
open PySem PySem.Spec PyProof.Rows L2
noncomputable section
/-! ### statements -/
inductive Fl where
  | nx | rt (s : Slot) | bk | ct
abbrev MS := DE → Rs (Fl × DE)
structure SPost (K : PySem.W.Frag) (F : Addr → Prop) (P : List Nat) (σ : L2.St) (H : Hp) (ρ : DE) (σ' : L2.St) (H' : Hp) (ρ' : DE) : Prop where
  rel : Rel K F H' σ' ρ'
  ext : Ext (Own σ ρ) H H'
  new : ∀ a, Own σ' ρ' a → Own σ ρ a ∨ H a = none
  pin : ∀ i ∈ P, σ'[i]? = σ[i]?
section
variable {K : PySem.W.Frag} {F F' : Addr → Prop} {P : List Nat} {H H' H'' : Hp} {σ σ' σ'' : L2.St} {ρ ρ' ρ'' : DE}
theorem SPost.refl (r : Rel K F H σ ρ) : SPost K F P σ H ρ σ H ρ := ⟨r, Ext.refl, fun _ z => .inl z, fun _ _ => rfl⟩
theorem EPost.s (a : EPost K F σ H ρ H' ρ') : SPost K F P σ H ρ σ H' ρ' := ⟨a.rel, a.ext, fun x z => .inl (a.sub x z), fun _ _ => rfl⟩
theorem SPost.back (a : SPost K F P σ H ρ σ' H' ρ') {b : Addr} (n : H' b = none) : Own σ ρ b ∨ H b = none := by
  by_cases c : Own σ ρ b
  · exact .inl c
  · cases e : H b with
    | none => exact .inr rfl
    | some o =>
      have := a.ext b o e c
      rw [n] at this
      cases this
theorem SPost.own_back (a : SPost K F P σ H ρ σ' H' ρ') {b : Addr} (h : Own σ' ρ' b ∨ H' b = none) : Own σ ρ b ∨ H b = none := h.elim (a.new b) a.back
theorem SPost.transF (a : SPost K F P σ H ρ σ' H' ρ') (b : SPost K F' P σ' H' ρ' σ'' H'' ρ'') : SPost K F' P σ H ρ σ'' H'' ρ'' := by
  refine ⟨b.rel, fun x o h n => b.ext x o (a.ext x o h n) fun z => ?_, fun x z => ?_, fun i hi => (b.pin i hi).trans (a.pin i hi)⟩
  · rcases a.new x z with q | q
    · exact n q
    · rw [h] at q; cases q
  · exact a.own_back (b.new x z)
theorem SPost.trans (a : SPost K F P σ H ρ σ' H' ρ') (b : SPost K F P σ' H' ρ' σ'' H'' ρ'') : SPost K F P σ H ρ σ'' H'' ρ'' := a.transF b
theorem SPost.less (a : SPost K F P σ H ρ σ' H' ρ') {P' : List Nat} (h : ∀ i ∈ P', i ∈ P) : SPost K F P' σ H ρ σ' H' ρ' := ⟨a.rel, a.ext, a.new, fun i hi => a.pin i (h i hi)⟩
theorem SPost.rp (r0 : Rel K F H σ ρ) (a : SPost K F P σ H ρ σ' H' ρ') {v : V} {d : D} (h : Rp K (OF F σ ρ) H v d) : Rp K (OF F σ' ρ') H' v d :=
  h.step (fun x o q n => a.ext x o q fun z => n (.inr z)) fun x z => z.elim (fun z => .inl (.inl z)) fun z => (a.new x z).imp (fun z => .inr z) id
theorem SPost.rpAll (r0 : Rel K F H σ ρ) (a : SPost K F P σ H ρ σ' H' ρ') {v : List V} {d : List D} (h : RpAll K (OF F σ ρ) H v d) : RpAll K (OF F σ' ρ') H' v d :=
  h.step (fun x o q n => a.ext x o q fun z => n (.inr z)) fun x z => z.elim (fun z => .inl (.inl z)) fun z => (a.new x z).imp (fun z => .inr z) id
end
/-- what is wanted behind a statement -/
def Wants (K : PySem.W.Frag) (F : Addr → Prop) (P : List Nat) (σ : L2.St) (H : Hp) (ρ : DE) (E : Ends) (ρ' : DE) : Fl → Prop
  | .nx => ∀ σ' H', SPost K F P σ H ρ σ' H' ρ' → E.nx σ' H'
  | .bk => ∀ σ' H', SPost K F P σ H ρ σ' H' ρ' → E.bk σ' H'
  | .ct => ∀ σ' H', SPost K F P σ H ρ σ' H' ρ' → E.ct σ' H'
  | .rt (.val d) => ∀ σ' H' v, SPost K F P σ H ρ σ' H' ρ' → Rp K (OF F σ' ρ') H' v d → E.rt v H'
  | .rt (.own d) => ∀ σ' H' a, SPost K (fun b => F b ∨ b = a) P σ H ρ σ' H' ρ' → ¬ F a → (Own σ ρ a ∨ H a = none) → Top K (OF (fun b => F b ∨ b = a) σ' ρ') H' a d → E.rt (.ref a) H'
def DenS (K : PySem.W.Frag) (P : List Nat) (ts : TS) (m : MS) : Prop := ∀ (F : Addr → Prop) (H : Hp) (σ : L2.St) (ρ ρ' : DE) (fl : Fl) (E : Ends), Rel K F H σ ρ → m ρ = .ok (fl, ρ') →
  Wants K F P σ H ρ E ρ' fl → ts E σ H
section
variable {K : PySem.W.Frag} {F F' : Addr → Prop} {P : List Nat} {H H' H'' : Hp} {σ σ' σ'' : L2.St} {ρ ρ' ρ'' : DE} {E : Ends} {fl : Fl}
theorem Wants.after (a : SPost K F P σ H ρ σ' H' ρ') (w : Wants K F P σ H ρ E ρ'' fl) : Wants K F P σ' H' ρ' E ρ'' fl := by
  match fl, w with
  | .rt (.val d), w => exact fun σ2 H2 v p r => w σ2 H2 v (a.trans p) r
  | .rt (.own d), w => exact fun σ2 H2 b p n o t => w σ2 H2 b (a.transF p) n (a.own_back o) t
  | .nx, w => exact fun σ2 H2 p => w σ2 H2 (a.trans p)
  | .bk, w => exact fun σ2 H2 p => w σ2 H2 (a.trans p)
  | .ct, w => exact fun σ2 H2 p => w σ2 H2 (a.trans p)
/-! #### stores -/
theorem get_lt {α : Type} {l : List α} {i : Nat} {a : α} (h : l[i]? = some a) : i < l.length := by
  rcases Nat.lt_or_ge i l.length with z | z
  · exact z
  · rw [List.getElem?_eq_none z] at h; cases h
/-- a value is stored -/
theorem Rel.put_val (r : Rel K F H σ ρ) {i : Nat} {v : V} {d : D} (h : Rp K (OF F σ ρ) H v d) :
    Rel K F H (σ.set i (some v)) (ρ.set i (some (.val d))) ∧ ∀ a, Own (σ.set i (some v)) (ρ.set i (some (.val d))) a → Own σ ρ a := by
  have old : ∀ {j : Nat} {e : D}, (ρ.set i (some (Slot.val d)))[j]? = some (some (Slot.own e)) → ρ[j]? = some (some (Slot.own e)) ∧ (σ.set i (some v))[j]? = σ[j]? := fun {j e} hj => by
    by_cases hij : i = j
    · subst hij
      have := get_lt hj
      rw [List.length_set] at this
      rw [List.getElem?_set_self this] at hj
      cases hj
    · rw [List.getElem?_set_ne hij] at hj
      exact ⟨hj, List.getElem?_set_ne hij⟩
  have sub : ∀ a, Own (σ.set i (some v)) (ρ.set i (some (.val d))) a → Own σ ρ a := fun a ⟨j, e, h1, h2⟩ => by
    obtain ⟨q1, q2⟩ := old h1
    exact ⟨j, e, q1, q2 ▸ h2⟩
  have sub2 : ∀ a, OF F (σ.set i (some v)) (ρ.set i (some (.val d))) a → OF F σ ρ a := fun a z => z.imp id (sub a)
  refine ⟨⟨by rw [List.length_set, List.length_set]; exact r.len, fun j e hj => ?_, fun j e hj => ?_, fun j k e f b hj hk h1 h2 => ?_, fun b z => ⟨(r.fre b z).1, fun q => (r.fre b z).2 (sub b q)⟩⟩, sub⟩
  · by_cases hij : i = j
    · subst hij
      have := get_lt hj
      rw [List.length_set] at this
      rw [List.getElem?_set_self this] at hj
      cases hj
      exact ⟨v, List.getElem?_set_self (by rw [r.len]; exact this), h.less sub2⟩
    · rw [List.getElem?_set_ne hij] at hj
      obtain ⟨w, e1, e2⟩ := r.val j e hj
      exact ⟨w, by rw [List.getElem?_set_ne hij]; exact e1, e2.less sub2⟩
  · obtain ⟨q1, q2⟩ := old hj
    obtain ⟨b, e1, e2⟩ := r.mt j e q1
    exact ⟨b, q2.trans e1, e2.step Ext.refl (fun _ q => q) fun c z => .inl (sub2 c z)⟩
  · obtain ⟨q1, q2⟩ := old hj
    obtain ⟨q3, q4⟩ := old hk
    exact r.inj j k e f b q1 q3 (q2 ▸ h1) (q4 ▸ h2)
/-- a thing of one's own is stored -/
theorem Rel.put_own (r : Rel K F' H σ ρ) {i : Nat} {a : Addr} {d : D} (hf : F' a) (h : Top K (OF F' σ ρ) H a d) :
    Rel K (fun b => F' b ∧ b ≠ a) H (σ.set i (some (.ref a))) (ρ.set i (some (.own d))) ∧ ∀ b, Own (σ.set i (some (.ref a))) (ρ.set i (some (.own d))) b → Own σ ρ b ∨ b = a := by
  have na : ¬ Own σ ρ a := (r.fre a hf).2
  have get : ∀ {j : Nat} {e : D}, (ρ.set i (some (Slot.own d)))[j]? = some (some (Slot.own e)) → (i = j ∧ e = d ∧ (σ.set i (some (V.ref a)))[j]? = some (some (.ref a))) ∨ (i ≠ j ∧ ρ[j]? = some (some (Slot.own e)) ∧ (σ.set i (some (V.ref a)))[j]? = σ[j]?) := fun {j e} hj => by
    by_cases hij : i = j
    · subst hij
      have := get_lt hj
      rw [List.length_set] at this
      rw [List.getElem?_set_self this] at hj
      cases hj
      exact .inl ⟨rfl, rfl, List.getElem?_set_self (by rw [r.len]; exact this)⟩
    · rw [List.getElem?_set_ne hij] at hj
      exact .inr ⟨hij, hj, List.getElem?_set_ne hij⟩
  have sub : ∀ b, Own (σ.set i (some (.ref a))) (ρ.set i (some (.own d))) b → Own σ ρ b ∨ b = a := fun b ⟨j, e, h1, h2⟩ => by
    rcases get h1 with ⟨_, _, q⟩ | ⟨_, q1, q2⟩
    · rw [q] at h2
      cases h2
      exact .inr rfl
    · exact .inl ⟨j, e, q1, q2 ▸ h2⟩
  have sub2 : ∀ b, OF (fun b => F' b ∧ b ≠ a) (σ.set i (some (.ref a))) (ρ.set i (some (.own d))) b → OF F' σ ρ b := fun b z => by
    rcases z with z | z
    · exact .inl z.1
    · rcases sub b z with z | z
      · exact .inr z
      · exact .inl (z ▸ hf)
  refine ⟨⟨by rw [List.length_set, List.length_set]; exact r.len, fun j e hj => ?_, fun j e hj => ?_, fun j k e f b hj hk h1 h2 => ?_, fun b z => ⟨(r.fre b z.1).1, fun q => ?_⟩⟩, sub⟩
  · by_cases hij : i = j
    · subst hij
      have := get_lt hj
      rw [List.length_set] at this
      rw [List.getElem?_set_self this] at hj
      cases hj
    · rw [List.getElem?_set_ne hij] at hj
      obtain ⟨w, e1, e2⟩ := r.val j e hj
      exact ⟨w, by rw [List.getElem?_set_ne hij]; exact e1, e2.less sub2⟩
  · rcases get hj with ⟨rfl, rfl, q⟩ | ⟨_, q1, q2⟩
    · exact ⟨a, q, h.step Ext.refl (fun _ q => q) fun c z => .inl (sub2 c z)⟩
    · obtain ⟨b, e1, e2⟩ := r.mt j e q1
      exact ⟨b, q2.trans e1, e2.step Ext.refl (fun _ q => q) fun c z => .inl (sub2 c z)⟩
  · rcases get hj with ⟨g1, _, q⟩ | ⟨g1, q1, q2⟩ <;> rcases get hk with ⟨g2, _, q'⟩ | ⟨g2, q3, q4⟩
    · exact g1.symm.trans g2
    · rw [q] at h1
      cases h1
      exact (na ⟨k, f, q3, q4 ▸ h2⟩).elim
    · rw [q'] at h2
      cases h2
      exact (na ⟨j, e, q1, q2 ▸ h1⟩).elim
    · exact r.inj j k e f b q1 q3 (q2 ▸ h1) (q4 ▸ h2)
  · rcases sub b q with q | q
    · exact (r.fre b z.1).2 q
    · exact z.2 q
/-- a thing of one's own has changed -/
theorem Rel.turn (r : Rel K F H σ ρ) {i : Nat} {a : Addr} {d d' : D} (ho : ρ[i]? = some (some (.own d))) (ha : σ[i]? = some (some (.ref a))) (hx : ∀ b o, b ≠ a → H b = some o → H' b = some o) (ht : Top K (OF F σ ρ) H' a d') :
    EPost K F σ H ρ H' (ρ.set i (some (.own d'))) := by
  have get : ∀ {j : Nat} {e : D}, (ρ.set i (some (Slot.own d')))[j]? = some (some (Slot.own e)) → (i = j ∧ e = d') ∨ (i ≠ j ∧ ρ[j]? = some (some (Slot.own e))) := fun {j e} hj => by
    by_cases hij : i = j
    · subst hij
      rw [List.getElem?_set_self (get_lt ho)] at hj
      cases hj
      exact .inl ⟨rfl, rfl⟩
    · rw [List.getElem?_set_ne hij] at hj
      exact .inr ⟨hij, hj⟩
  have sub : ∀ b, Own σ (ρ.set i (some (.own d'))) b → Own σ ρ b := fun b ⟨j, e, h1, h2⟩ => by
    rcases get h1 with ⟨rfl, rfl⟩ | ⟨_, q⟩
    · exact ⟨i, d, ho, h2⟩
    · exact ⟨j, e, q, h2⟩
  have sub2 : ∀ b, OF F σ (ρ.set i (some (.own d'))) b → OF F σ ρ b := fun b z => z.imp id (sub b)
  have oa : Own σ ρ a := ⟨i, d, ho, ha⟩
  have x : Ext (OF F σ ρ) H H' := fun b o h n => hx b o (fun z => n (.inr (z ▸ oa))) h
  refine ⟨⟨by rw [List.length_set]; exact r.len, fun j e hj => ?_, fun j e hj => ?_, fun j k e f b hj hk h1 h2 => ?_, fun b z => ⟨?_, fun q => (r.fre b z).2 (sub b q)⟩⟩, fun b o h n => hx b o (fun z => n (z ▸ oa)) h, sub⟩
  · by_cases hij : i = j
    · subst hij
      rw [List.getElem?_set_self (get_lt ho)] at hj
      cases hj
    · rw [List.getElem?_set_ne hij] at hj
      obtain ⟨w, e1, e2⟩ := r.val j e hj
      exact ⟨w, e1, e2.step x fun c z => .inl (sub2 c z)⟩
  · rcases get hj with ⟨rfl, rfl⟩ | ⟨g, q⟩
    · exact ⟨a, ha, ht.step Ext.refl (fun _ q => q) fun c z => .inl (sub2 c z)⟩
    · obtain ⟨b, e1, e2⟩ := r.mt j e q
      refine ⟨b, e1, e2.step x (fun o hb => hx b o (fun z => ?_) hb) fun c z => .inl (sub2 c z)⟩
      subst z
      exact g (r.inj i j d e b ho q ha e1)
  · have old : ∀ {j : Nat} {e : D}, (ρ.set i (some (Slot.own d')))[j]? = some (some (Slot.own e)) → ∃ e', ρ[j]? = some (some (Slot.own e')) := fun {j e} hj => by
      rcases get hj with ⟨rfl, rfl⟩ | ⟨_, q⟩
      · exact ⟨_, ho⟩
      · exact ⟨_, q⟩
    obtain ⟨e', q1⟩ := old hj
    obtain ⟨f', q2⟩ := old hk
    exact r.inj j k e' f' b q1 q2 h1 h2
  · have hb := (r.fre b z).1
    cases e : H b with
    | none => exact (hb e).elim
    | some o =>
      rw [hx b o (fun q => (r.fre b z).2 (q ▸ oa)) e]
      exact Option.some_ne_none o
end
section
variable {K : PySem.W.Frag} {P : List Nat} {ts tu : TS} {m m' : MS} {te : TE} {me : SM D}
/-! #### small statements -/
def mNx : MS := fun ρ => .ok (.nx, ρ)
theorem ds_next : DenS K P tNext mNx := fun F H σ ρ ρ' fl E r e w => by
  cases e
  exact w σ H (.refl r)
def mBk : MS := fun ρ => .ok (.bk, ρ)
theorem ds_break : DenS K P tBreak mBk := fun F H σ ρ ρ' fl E r e w => by
  cases e
  exact w σ H (.refl r)
def mCt : MS := fun ρ => .ok (.ct, ρ)
theorem ds_cont : DenS K P tCont mCt := fun F H σ ρ ρ' fl E r e w => by
  cases e
  exact w σ H (.refl r)
def mNever : MS := fun _ => .stuck
theorem ds_never : DenS K P tNever mNever := fun F H σ ρ ρ' fl E r e w => by cases e
def mSq (m m' : MS) : MS := fun ρ => (m ρ).bind fun p => match p.1 with
  | .nx => m' p.2
  | f => .ok (f, p.2)
theorem ds_seq (h : DenS K P ts m) (h' : DenS K P tu m') : DenS K P (tSeq ts tu) (mSq m m') := fun F H σ ρ ρ' fl E r e w => by
  obtain ⟨⟨f, ρ1⟩, e1, e⟩ := Rs.of_bind e
  refine h F H σ ρ ρ1 f { E with nx := tu E } r e1 ?_
  cases f with
  | nx => exact fun σ1 H1 p => h' F H1 σ1 ρ1 ρ' fl E p.rel e (w.after p)
  | bk => cases e; exact w
  | ct => cases e; exact w
  | rt d => cases e; cases d <;> exact w
/-- an answer: a value, or a new thing that nobody else has -/
def RWant (K : PySem.W.Frag) (F : Addr → Prop) (σ : L2.St) (H : Hp) (ρ ρ' : DE) (Q : VK) : Slot → Prop
  | .val d => ∀ v H', EPost K F σ H ρ H' ρ' → Rp K (OF F σ ρ') H' v d → Q v H'
  | .own d => ∀ a H', EPost K (fun b => F b ∨ b = a) σ H ρ H' ρ' → ¬ F a → (Own σ ρ a ∨ H a = none) → Top K (OF (fun b => F b ∨ b = a) σ ρ') H' a d → Q (.ref a) H'
def DenR (K : PySem.W.Frag) (te : TE) (m : SM Slot) : Prop := ∀ (F : Addr → Prop) (H : Hp) (σ : L2.St) (ρ ρ' : DE) (s : Slot) (Q : VK), Rel K F H σ ρ → m ρ = .ok (s, ρ') → RWant K F σ H ρ ρ' Q s → te σ H Q
def mV (m : SM D) : SM Slot := fun ρ => (m ρ).bind fun p => .ok (.val p.1, p.2)
def mO (m : SM D) : SM Slot := fun ρ => (m ρ).bind fun p => .ok (.own p.1, p.2)
def mD (m : SM Slot) : SM D := fun ρ => (m ρ).bind fun p => .ok (p.1.d, p.2)
theorem EPost.back0 {F : Addr → Prop} {σ : L2.St} {H H1 : Hp} {ρ ρ1 : DE} (p : EPost K F σ H ρ H1 ρ1) {b : Addr} (n : H1 b = none) : Own σ ρ b ∨ H b = none := by
  by_cases c : Own σ ρ b
  · exact .inl c
  · cases e : H b with
    | none => exact .inr rfl
    | some o =>
      have := p.ext b o e c
      rw [n] at this
      cases this
theorem dr_v (h : DenE K te me) : DenR K te (mV me) := fun F H σ ρ ρ' s Q r e q => by
  obtain ⟨⟨d, ρ1⟩, e1, e⟩ := Rs.of_bind e
  cases e
  exact h F H σ ρ ρ1 d Q r e1 q
theorem dr_o (h : DenF K te me) : DenR K te (mO me) := fun F H σ ρ ρ' s Q r e q => by
  obtain ⟨⟨d, ρ1⟩, e1, e⟩ := Rs.of_bind e
  cases e
  refine h F H σ ρ ρ1 d Q r e1 fun a H1 H' p n x t => q a H' ⟨p.rel.addF n x t.ne, fun b o z nn => x b o (p.ext b o z nn), p.sub⟩ (fun z => (p.rel.fre a z).1 n) (p.back0 n) ?_
  exact t.step' Ext.refl (fun _ q => q) fun b z => by
    rcases z with (z | z) | z
    · exact .inl (.inl (.inl z))
    · exact .inl (.inr z)
    · exact .inl (.inl (.inr z))
theorem de_r {m : SM Slot} (h : DenR K te m) : DenE K te (mD m) := fun F H σ ρ ρ' d Q r e q => by
  obtain ⟨⟨s, ρ1⟩, e1, e⟩ := Rs.of_bind e
  cases e
  refine h F H σ ρ _ s Q r e1 ?_
  cases s with
  | val d => exact q
  | own d =>
    exact fun a H' p n _ t => q _ H' (p.dropF fun b z => .inl z) (t.rp (fun b z => z.imp .inl id) fun z => z.elim n (p.rel.fre a (.inr rfl)).2)
def mRt (me : SM D) : MS := fun ρ => (me ρ).bind fun p => .ok (.rt (.val p.1), p.2)
theorem ds_ret (h : DenE K te me) : DenS K P (tRet te) (mRt me) := fun F H σ ρ ρ' fl E r e w => by
  obtain ⟨⟨d, ρ1⟩, e1, e⟩ := Rs.of_bind e
  cases e
  exact h F H σ ρ ρ1 d _ r e1 fun v H1 p rp => w σ H1 v p.s rp
def mRtR (me : SM Slot) : MS := fun ρ => (me ρ).bind fun p => .ok (.rt p.1, p.2)
theorem ds_retR {m : SM Slot} (h : DenR K te m) : DenS K P (tRet te) (mRtR m) := fun F H σ ρ ρ' fl E r e w => by
  obtain ⟨⟨s, ρ1⟩, e1, e⟩ := Rs.of_bind e
  cases e
  refine h F H σ ρ ρ1 s _ r e1 ?_
  cases s with
  | val d => exact fun v H1 p rp => w σ H1 v p.s rp
  | own d => exact fun a H1 p n o t => w σ H1 a p.s n o t
def mRtN : MS := fun ρ => .ok (.rt (.val .none), ρ)
theorem ds_retN : DenS K P tRetN mRtN := fun F H σ ρ ρ' fl E r e w => by
  cases e
  exact w σ H .non (.refl r) .non
def mDrp (me : SM D) : MS := fun ρ => (me ρ).bind fun p => .ok (.nx, p.2)
theorem ds_drop (h : DenE K te me) : DenS K P (tDrop te) (mDrp me) := fun F H σ ρ ρ' fl E r e w => by
  obtain ⟨⟨d, ρ1⟩, e1, e⟩ := Rs.of_bind e
  cases e
  exact h F H σ ρ ρ1 d _ r e1 fun v H1 p rp => w σ H1 p.s
def mIfS (c : SM Bool) (m m' : MS) : MS := fun ρ => (c ρ).bind fun p => if p.1 = true then m p.2 else m' p.2
theorem ds_if {tt : TT} {c : SM Bool} (hc : DenT K tt c) (h : DenS K P ts m) (h' : DenS K P tu m') : DenS K P (tIfS tt ts tu) (mIfS c m m') := fun F H σ ρ ρ' fl E r e w => by
  obtain ⟨⟨b, ρ1⟩, e1, e⟩ := Rs.of_bind e
  refine hc F H σ ρ ρ1 b _ r e1 fun H1 p => ?_
  cases b with
  | true => exact h F H1 σ ρ1 ρ' fl E p.rel e (w.after p.s)
  | false => exact h' F H1 σ ρ1 ρ' fl E p.rel e (w.after p.s)
def mSet (i : Nat) (me : SM D) : MS := fun ρ => (me ρ).bind fun p => .ok (.nx, p.2.set i (some (.val p.1)))
theorem SPost.put {F : Addr → Prop} {H : Hp} {σ : L2.St} {ρ : DE} (r : Rel K F H σ ρ) {i : Nat} {v : V} {d : D} (h : Rp K (OF F σ ρ) H v d) (hi : i ∉ P) : SPost K F P σ H ρ (σ.set i (some v)) H (ρ.set i (some (.val d))) :=
  let ⟨a, b⟩ := r.put_val h
  ⟨a, Ext.refl, fun x z => .inl (b x z), fun j hj => List.getElem?_set_ne fun z => hi (by rw [z]; exact hj)⟩
theorem ds_set {i : Nat} (hi : i ∉ P) (h : DenE K te me) : DenS K P (tAsg te (gName i)) (mSet i me) := fun F H σ ρ ρ' fl E r e w => by
  obtain ⟨⟨d, ρ1⟩, e1, e⟩ := Rs.of_bind e
  cases e
  exact h F H σ ρ ρ1 d _ r e1 fun v H1 p rp => w _ H1 (p.s.trans (.put p.rel rp hi))
/-- a new list (dict) of one's own -/
def mSetF (i : Nat) (me : SM D) : MS := fun ρ => (me ρ).bind fun p => .ok (.nx, p.2.set i (some (.own p.1)))
theorem SPost.putF {F : Addr → Prop} {H H' : Hp} {σ : L2.St} {ρ : DE} (r : Rel K F H σ ρ) {i : Nat} {a : Addr} {d : D} (n : H a = none) (x : Ext0 H H') (t : Top K (OF F σ ρ) H' a d) (hi : i ∉ P) :
    SPost K F P σ H ρ (σ.set i (some (.ref a))) H' (ρ.set i (some (.own d))) := by
  have r1 := r.addF n x t.ne
  have t1 : Top K (OF (fun b => F b ∨ b = a) σ ρ) H' a d := t.step' Ext.refl (fun _ q => q) fun b z => by
    rcases z with (z | z) | z
    · exact .inl (.inl (.inl z))
    · exact .inl (.inr z)
    · exact .inl (.inl (.inr z))
  obtain ⟨r2, s2⟩ := r1.put_own (i := i) (.inr rfl) t1
  refine ⟨r2.dropF fun b z => ⟨.inl z, fun q => (r.fre b z).1 (q ▸ n)⟩, x.ext, fun b z => ?_, fun j hj => List.getElem?_set_ne fun z => hi (by rw [z]; exact hj)⟩
  rcases s2 b z with z | z
  · exact .inl z
  · exact .inr (z ▸ n)
end
end
end DL
namespace DL
open PySem PySem.Spec PyProof.Rows L2
noncomputable section
section
variable {K : PySem.W.Frag} {P : List Nat} {ts tu : TS} {m m' : MS} {te : TE} {me : SM D}
theorem ds_setF {i : Nat} (hi : i ∉ P) (h : DenF K te me) : DenS K P (tAsg te (gName i)) (mSetF i me) := fun F H σ ρ ρ' fl E r e w => by
  obtain ⟨⟨d, ρ1⟩, e1, e⟩ := Rs.of_bind e
  cases e
  exact h F H σ ρ ρ1 d _ r e1 fun a H1 H2 p n x t => w _ H2 (p.s.trans (.putF p.rel n x t hi))
/-- a name's thing given away -/
def mVarR (i : Nat) : SM Slot := fun ρ => match ρ[i]? with
  | some (some (.val d)) => .ok (.val d, ρ)
  | some (some (.own d)) => .ok (.own d, ρ.set i none)
  | _ => .stuck
theorem own_unset {σ : L2.St} {ρ : DE} {i : Nat} {a : Addr} (h : Own σ (ρ.set i none) a) : ∃ j e, j ≠ i ∧ ρ[j]? = some (some (.own e)) ∧ σ[j]? = some (some (.ref a)) := by
  obtain ⟨j, e, h1, h2⟩ := h
  by_cases hj : i = j
  · subst hj
    have := get_lt h1
    rw [List.length_set] at this
    rw [List.getElem?_set_self this] at h1
    cases h1
  · rw [List.getElem?_set_ne hj] at h1
    exact ⟨j, e, fun z => hj z.symm, h1, h2⟩
theorem dr_var {i : Nat} : DenR K (tVar i) (mVarR i) := fun F H σ ρ ρ' s Q r e q => by
  unfold mVarR at e
  split at e
  · rename_i d hd
    cases e
    obtain ⟨v, h1, h2⟩ := r.val i _ hd
    exact ⟨v, h1, q v H (.refl r) h2⟩
  · rename_i d hd
    cases e
    obtain ⟨a, ha, t⟩ := r.mt i d hd
    have sub : ∀ b, Own σ (ρ.set i none) b → Own σ ρ b := fun b z => let ⟨j, e, _, h1, h2⟩ := own_unset z; ⟨j, e, h1, h2⟩
    have oa : Own σ ρ a := ⟨i, d, hd, ha⟩
    have sub2 : ∀ b, OF (fun b => F b ∨ b = a) σ (ρ.set i none) b → OF F σ ρ b := fun b z => by
      rcases z with (z | z) | z
      · exact .inl z
      · exact .inr (z ▸ oa)
      · exact .inr (sub b z)
    have old : ∀ {j : Nat} {s : Slot}, (ρ.set i none)[j]? = some (some s) → ρ[j]? = some (some s) := fun {j s} hj => by
      by_cases hij : i = j
      · subst hij
        have := get_lt hj
        rw [List.length_set] at this
        rw [List.getElem?_set_self this] at hj
        cases hj
      · rw [List.getElem?_set_ne hij] at hj
        exact hj
    refine ⟨_, ha, q a H ⟨⟨by rw [List.length_set]; exact r.len, fun j e hj => ?_, fun j e hj => ?_, fun j k e f b hj hk => r.inj j k e f b (old hj) (old hk), fun b z => ⟨?_, fun y => ?_⟩⟩, Ext.refl, sub⟩ (fun z => (r.fre a z).2 oa) (.inl oa) (t.step Ext.refl (fun _ q => q) fun b z => .inl (sub2 b z))⟩
    · obtain ⟨v, h1, h2⟩ := r.val j e (old hj)
      exact ⟨v, h1, h2.less sub2⟩
    · obtain ⟨v, h1, h2⟩ := r.mt j e (old hj)
      exact ⟨v, h1, h2.step Ext.refl (fun _ q => q) fun b z => .inl (sub2 b z)⟩
    · rcases z with z | z
      · exact (r.fre b z).1
      · rw [z]; exact t.ne
    · obtain ⟨j, e, nj, h1, h2⟩ := own_unset y
      rcases z with z | z
      · exact (r.fre b z).2 ⟨j, e, h1, h2⟩
      · subst z
        exact nj (r.inj j i e d b h1 hd h2 ha)
  · cases e
/-- name = an answer -/
def mSetR (i : Nat) (m : SM Slot) : MS := fun ρ => (m ρ).bind fun p => .ok (.nx, p.2.set i (some p.1))
theorem ds_setR {i : Nat} {m : SM Slot} (hi : i ∉ P) (h : DenR K te m) : DenS K P (tAsg te (gName i)) (mSetR i m) := fun F H σ ρ ρ' fl E r e w => by
  obtain ⟨⟨s, ρ1⟩, e1, e⟩ := Rs.of_bind e
  cases e
  refine h F H σ ρ ρ1 s _ r e1 ?_
  cases s with
  | val d => exact fun v H1 p rp => w _ H1 (p.s.trans (.put p.rel rp hi))
  | own d =>
    intro a H1 p n o t
    obtain ⟨r2, s2⟩ := p.rel.put_own (i := i) (.inr rfl) t
    refine w _ H1 ⟨r2.dropF fun b z => ⟨.inl z, fun y => n (y ▸ z)⟩, p.ext, fun b z => ?_, fun j hj => List.getElem?_set_ne fun z => hi (by rw [z]; exact hj)⟩
    rcases s2 b z with z | z
    · exact .inl (p.sub b z)
    · exact z ▸ o
/-! #### patterns -/
abbrev MG := D → DE → Rs DE
abbrev MGs := List D → DE → Rs DE
structure GPost (K : PySem.W.Frag) (F : Addr → Prop) (tou : List Nat) (H : Hp) (σ : L2.St) (ρ : DE) (σ' : L2.St) (ρ' : DE) : Prop where
  rel : Rel K F H σ' ρ'
  sub : ∀ a, Own σ' ρ' a → Own σ ρ a
  len : σ'.length = σ.length
  keep : ∀ i, i ∉ tou → σ'[i]? = σ[i]?
def DenG (K : PySem.W.Frag) (tou : List Nat) (g : TG) (m : MG) : Prop := ∀ (F : Addr → Prop) (H : Hp) (σ : L2.St) (ρ ρ' : DE) (v : V) (d : D) (Q : L2.St → Hp → Prop), Rel K F H σ ρ → Rp K (OF F σ ρ) H v d → m d ρ = .ok ρ' →
  (∀ σ', GPost K F tou H σ ρ σ' ρ' → Q σ' H) → g v σ H Q
def DenGs (K : PySem.W.Frag) (tou : List Nat) (g : TGs) (m : MGs) : Prop := ∀ (F : Addr → Prop) (H : Hp) (σ : L2.St) (ρ ρ' : DE) (vs : List V) (ds : List D) (Q : L2.St → Hp → Prop), Rel K F H σ ρ → RpAll K (OF F σ ρ) H vs ds → m ds ρ = .ok ρ' →
  (∀ σ', GPost K F tou H σ ρ σ' ρ' → Q σ' H) → g vs σ H Q
def mgName (i : Nat) : MG := fun d ρ => .ok (ρ.set i (some (.val d)))
theorem dg_name {i : Nat} : DenG K [i] (gName i) (mgName i) := fun F H σ ρ ρ' v d Q r rp e q => by
  cases e
  obtain ⟨a, b⟩ := r.put_val (i := i) rp
  exact q _ ⟨a, b, List.length_set .., fun j hj => List.getElem?_set_ne fun z => hj (by rw [z]; simp)⟩
def mgNil : MGs := fun ds ρ => match ds with
  | [] => .ok ρ
  | _ => .stuck
def mgCons (g : MG) (gs : MGs) : MGs := fun ds ρ => match ds with
  | d :: ds => (g d ρ).bind fun ρ1 => gs ds ρ1
  | _ => .stuck
def mgTup (n : Nat) (gs : MGs) : MG := fun d ρ => match d with
  | .tuple ds => Rs.grd (ds.length = n) (gs ds ρ)
  | _ => .stuck
theorem dgs_nil : DenGs K [] gNil mgNil := fun F H σ ρ ρ' vs ds Q r rp e q => by
  cases rp with
  | nil =>
    cases e
    exact ⟨rfl, q σ ⟨r, fun _ z => z, rfl, fun _ _ => rfl⟩⟩
  | cons _ _ => cases e
theorem dgs_cons {t1 t2 : List Nat} {g : TG} {gs : TGs} {mg : MG} {mgs : MGs} (h : DenG K t1 g mg) (hs : DenGs K t2 gs mgs) : DenGs K (t1 ++ t2) (gCons g gs) (mgCons mg mgs) := fun F H σ ρ ρ' vs ds Q r rp e q => by
  cases rp with
  | nil => cases e
  | cons r1 rt =>
    obtain ⟨ρ1, e1, e⟩ := Rs.of_bind e
    refine ⟨_, _, rfl, h F H σ ρ ρ1 _ _ _ r r1 e1 fun σ1 p1 => hs F H σ1 ρ1 ρ' _ _ _ p1.rel (rt.less fun b z => z.imp id (p1.sub b)) e fun σ2 p2 => q σ2 ⟨p2.rel, fun a z => p1.sub a (p2.sub a z), p2.len.trans p1.len, fun i hi => ?_⟩⟩
    exact (p2.keep i fun z => hi (List.mem_append_right _ z)).trans (p1.keep i fun z => hi (List.mem_append_left _ z))
theorem dg_tup {tou : List Nat} {n : Nat} {gs : TGs} {mgs : MGs} (hs : DenGs K tou gs mgs) : DenG K tou (gTup K n gs) (mgTup n mgs) := fun F H σ ρ ρ' v d Q r rp e q => by
  unfold mgTup at e
  split at e
  · obtain ⟨hn, e⟩ := Rs.of_grd e
    obtain ⟨a, xs, rfl, hs', ra⟩ := rp_tup rp
    exact ⟨a, xs, rfl, hs', ra.len.trans hn, hs F H σ ρ ρ' xs _ Q r ra e q⟩
  · cases e
def mAsgG (g : MG) (me : SM D) : MS := fun ρ => (me ρ).bind fun p => (g p.1 p.2).bind fun ρ1 => .ok (.nx, ρ1)
/-- targets kept out of P -/
def offP (tou P : List Nat) : Bool := tou.all fun i => !P.contains i
theorem offP_ok {tou P : List Nat} (h : offP tou P = true) {i : Nat} (hi : i ∈ P) : i ∉ tou := fun z => by
  have := List.all_eq_true.mp h i z
  simp at this
  exact this hi
theorem GPost.s {F : Addr → Prop} {σ σ' : L2.St} {H : Hp} {ρ ρ' : DE} {tou : List Nat} (a : GPost K F tou H σ ρ σ' ρ') (h : offP tou P = true) : SPost K F P σ H ρ σ' H ρ' :=
  ⟨a.rel, Ext.refl, fun b z => .inl (a.sub b z), fun i hi => a.keep i (offP_ok h hi)⟩
theorem ds_asgG {tou : List Nat} {g : TG} {mg : MG} (hp : offP tou P = true) (h : DenE K te me) (hg : DenG K tou g mg) : DenS K P (tAsg te g) (mAsgG mg me) := fun F H σ ρ ρ' fl E r e w => by
  obtain ⟨⟨d, ρ1⟩, e1, e⟩ := Rs.of_bind e
  obtain ⟨ρ2, e2, e⟩ := Rs.of_bind e
  cases e
  exact h F H σ ρ ρ1 d _ r e1 fun v H1 p rp => hg F H1 σ ρ1 _ v d _ p.rel rp e2 fun σ' p2 => w _ H1 (p.s.trans (p2.s hp))
/-! #### several names at once -/
def owns : List V → List Slot → List Addr
  | .ref a :: vs, .own _ :: ss => a :: owns vs ss
  | _ :: vs, _ :: ss => owns vs ss
  | _, _ => []
inductive Row (K : PySem.W.Frag) (G O : Addr → Prop) (H : Hp) : List V → List Slot → Prop
  | nil : Row K G O H [] []
  | val {v : V} {d : D} {vs : List V} {ss : List Slot} : Rp K O H v d → Row K G O H vs ss → Row K G O H (v :: vs) (.val d :: ss)
  | own {a : Addr} {d : D} {vs : List V} {ss : List Slot} : G a → Top K O H a d → a ∉ owns vs ss → Row K G O H vs ss → Row K G O H (.ref a :: vs) (.own d :: ss)
theorem owns_val {v : V} {d : D} {vs : List V} {ss : List Slot} : owns (v :: vs) (.val d :: ss) = owns vs ss := by cases v <;> rfl
theorem Row.less {G G' O O' : Addr → Prop} {H : Hp} (hO : ∀ b, O' b → O b) : ∀ {vs : List V} {ss : List Slot}, (∀ b, b ∈ owns vs ss → G b → G' b) → Row K G O H vs ss → Row K G' O' H vs ss
  | _, _, _, .nil => .nil
  | _, _, hG, .val r t => .val (r.less hO) (Row.less hO (fun b z => hG b (by rw [owns_val]; exact z)) t)
  | _, _, hG, .own g r n t => .own (hG _ (List.mem_cons_self ..) g) (r.step Ext.refl (fun _ q => q) fun b z => .inl (hO b z)) n (Row.less hO (fun b z => hG b (List.mem_cons_of_mem _ z)) t)
def putAll (σ : L2.St) : List Nat → List V → L2.St
  | j :: js, v :: vs => putAll (σ.set j (some v)) js vs
  | _, _ => σ
def putAllD (ρ : DE) : List Nat → List Slot → DE
  | j :: js, s :: ss => putAllD (ρ.set j (some s)) js ss
  | _, _ => ρ
theorem row_put {H : Hp} : ∀ {vs : List V} {ss : List Slot} {js : List Nat} {F' : Addr → Prop} {σ : L2.St} {ρ : DE}, js.length = vs.length → Rel K F' H σ ρ → Row K F' (OF F' σ ρ) H vs ss →
    Rel K (fun b => F' b ∧ b ∉ owns vs ss) H (putAll σ js vs) (putAllD ρ js ss) ∧ ∀ b, Own (putAll σ js vs) (putAllD ρ js ss) b → Own σ ρ b ∨ b ∈ owns vs ss
  | [], _, [], F', σ, ρ, _, r, .nil => ⟨r.dropF fun b z => z.1, fun b z => .inl z⟩
  | v :: vs, _, j :: js, F', σ, ρ, hl, r, .val (ss := ss) (d := d) rp t => by
    obtain ⟨r1, s1⟩ := r.put_val (i := j) rp
    obtain ⟨r2, s2⟩ := row_put (js := js) (by simpa using hl) r1 (t.less (fun b z => z.imp id (s1 b)) fun _ _ z => z)
    refine ⟨r2.dropF fun b z => ⟨z.1, by rw [owns_val] at z; exact z.2⟩, fun b z => ?_⟩
    rw [owns_val]
    exact (s2 b z).imp (s1 b) id
  | .ref a :: vs, _, j :: js, F', σ, ρ, hl, r, .own (ss := ss) (d := d) g tp n t => by
    obtain ⟨r1, s1⟩ := r.put_own (i := j) g tp
    have sub : ∀ b, OF (fun b => F' b ∧ b ≠ a) (σ.set j (some (.ref a))) (ρ.set j (some (.own d))) b → OF F' σ ρ b := fun b z => by
      rcases z with z | z
      · exact .inl z.1
      · rcases s1 b z with z | z
        · exact .inr z
        · exact .inl (z ▸ g)
    obtain ⟨r2, s2⟩ := row_put (js := js) (by simpa using hl) r1 (t.less sub fun b hb z => ⟨z, fun q => n (q ▸ hb)⟩)
    refine ⟨r2.dropF fun b z => ⟨⟨z.1, fun q => z.2 (q ▸ List.mem_cons_self ..)⟩, fun q => z.2 (List.mem_cons_of_mem _ q)⟩, fun b z => ?_⟩
    rcases s2 b z with z | z
    · rcases s1 b z with z | z
      · exact .inl z
      · exact .inr (z ▸ List.mem_cons_self ..)
    · exact .inr (List.mem_cons_of_mem _ z)
theorem putAll_ne {i : Nat} : ∀ {js : List Nat} {vs : List V} {σ : L2.St}, i ∉ js → (putAll σ js vs)[i]? = σ[i]?
  | [], _, _, _ => rfl
  | _ :: _, [], _, _ => rfl
  | j :: js, v :: vs, σ, h => by
    show (putAll (σ.set j (some v)) js vs)[i]? = _
    rw [putAll_ne fun z => h (List.mem_cons_of_mem _ z)]
    exact List.getElem?_set_ne fun z => h (by rw [z]; exact List.mem_cons_self ..)
/-- a row of values, new lists among them -/
def DenW (K : PySem.W.Frag) (ta : TA) (m : SM (List Slot)) : Prop := ∀ (F : Addr → Prop) (H : Hp) (σ : L2.St) (ρ ρ' : DE) (ss : List Slot) (Q : List V → Hp → Prop), Rel K F H σ ρ → m ρ = .ok (ss, ρ') →
  (∀ vs H' F', (∀ b, F b → F' b) → EPost K F' σ H ρ H' ρ' → Row K F' (OF F' σ ρ') H' vs ss → (∀ b, F' b → F b ∨ b ∈ owns vs ss) → (∀ b ∈ owns vs ss, Own σ ρ b ∨ H b = none) → Q vs H') → ta σ H Q
def mwNil : SM (List Slot) := fun ρ => .ok ([], ρ)
def mwVal (m : SM D) (ms : SM (List Slot)) : SM (List Slot) := fun ρ => (m ρ).bind fun p => (ms p.2).bind fun q => .ok (.val p.1 :: q.1, q.2)
def mwOwn (m : SM D) (ms : SM (List Slot)) : SM (List Slot) := fun ρ => (m ρ).bind fun p => (ms p.2).bind fun q => .ok (.own p.1 :: q.1, q.2)
theorem dw_nil : DenW K tNil mwNil := fun F H σ ρ ρ' ss Q r e q => by
  cases e
  exact q [] H F (fun _ z => z) (.refl r) .nil (fun b z => .inl z) fun b z => nomatch z
theorem EPost.back {F : Addr → Prop} {σ : L2.St} {H H1 : Hp} {ρ ρ1 : DE} (p : EPost K F σ H ρ H1 ρ1) {b : Addr} (n : H1 b = none) : Own σ ρ b ∨ H b = none := by
  by_cases c : Own σ ρ b
  · exact .inl c
  · cases e : H b with
    | none => exact .inr rfl
    | some o =>
      have := p.ext b o e c
      rw [n] at this
      cases this
theorem EPost.transF {F F' : Addr → Prop} {σ : L2.St} {H H' H'' : Hp} {ρ ρ' ρ'' : DE} (a : EPost K F σ H ρ H' ρ') (b : EPost K F' σ H' ρ' H'' ρ'') : EPost K F' σ H ρ H'' ρ'' :=
  ⟨b.rel, fun x o h n => b.ext x o (a.ext x o h n) fun z => n (a.sub x z), fun x z => a.sub x (b.sub x z)⟩
theorem dw_val {ta : TA} {ms : SM (List Slot)} (h : DenE K te me) (hs : DenW K ta ms) : DenW K (tCons te ta) (mwVal me ms) := fun F H σ ρ ρ' ss Q r e q => by
  obtain ⟨⟨d, ρ1⟩, e1, e⟩ := Rs.of_bind e
  obtain ⟨⟨ss1, ρ2⟩, e2, e⟩ := Rs.of_bind e
  cases e
  refine h F H σ ρ ρ1 d _ r e1 fun v H1 p rp => hs F H1 σ ρ1 _ ss1 _ p.rel e2 fun vs H' F' hF p2 row hn ho => ?_
  refine q (v :: vs) H' F' hF (p.transF p2) (.val (rp.step (fun x o z n => p2.ext x o z fun y => n (.inr y)) fun b z => ?_) row) ?_ ?_
  · rcases z with z | z
    · rcases hn b z with z | z
      · exact .inl (.inl z)
      · exact (ho b z).imp .inr id
    · exact .inl (.inr (p2.sub b z))
  · rw [owns_val]; exact hn
  · rw [owns_val]
    intro b hb
    rcases ho b hb with z | z
    · exact .inl (p.sub b z)
    · exact p.back z
theorem dw_own {ta : TA} {ms : SM (List Slot)} (h : DenF K te me) (hs : DenW K ta ms) : DenW K (tCons te ta) (mwOwn me ms) := fun F H σ ρ ρ' ss Q r e q => by
  obtain ⟨⟨d, ρ1⟩, e1, e⟩ := Rs.of_bind e
  obtain ⟨⟨ss1, ρ2⟩, e2, e⟩ := Rs.of_bind e
  cases e
  refine h F H σ ρ ρ1 d _ r e1 fun a H1 H1' p n x t => ?_
  have r2 := p.rel.addF n x t.ne
  have na : ¬ Own σ ρ1 a := fun z => p.rel.own_some z n
  refine hs _ H1' σ ρ1 _ ss1 _ r2 e2 fun vs H' F' hF p2 row hn ho => ?_
  refine q (.ref a :: vs) H' F' (fun b z => hF b (.inl z)) ((p.new x).transF p2) (.own (hF a (.inr rfl)) (t.step' (fun b o z nn => p2.ext b o z fun y => nn (.inl (.inr y))) (fun o z => p2.ext a o z na) fun b z => ?_) (fun z => ?_) row) (fun b z => ?_) fun b hb => ?_
  · rcases z with z | z
    · rcases hn b z with (z | z) | z
      · exact .inl (.inl (.inl z))
      · exact .inl (.inr z)
      · exact (ho b z).imp (fun z => .inl (.inr z)) id
    · exact .inl (.inl (.inr (p2.sub b z)))
  · rcases ho a z with z | z
    · exact na z
    · exact t.ne z
  · rcases hn b z with (z | z) | z
    · exact .inl z
    · exact .inr (by rw [z]; exact List.mem_cons_self ..)
    · exact .inr (List.mem_cons_of_mem _ z)
  · rcases List.mem_cons.mp hb with z | z
    · subst z
      exact p.back n
    · rcases ho b z with z | z
      · exact .inl (p.sub b z)
      · exact (p.new x).back z
theorem Row.len {G O : Addr → Prop} {H : Hp} : ∀ {vs : List V} {ss : List Slot}, Row K G O H vs ss → vs.length = ss.length
  | _, _, .nil => rfl
  | _, _, .val _ t => by rw [List.length_cons, List.length_cons, t.len]
  | _, _, .own _ _ _ t => by rw [List.length_cons, List.length_cons, t.len]
def mPar (js : List Nat) (ms : SM (List Slot)) : MS := fun ρ => (ms ρ).bind fun p => Rs.grd (js.length = p.1.length) (.ok (.nx, putAllD p.2 js p.1))
theorem par_core {js : List Nat} (hp : offP js P = true) {F : Addr → Prop} {H H' : Hp} {σ : L2.St} {ρ ρ' : DE} {ss : List Slot} {vs : List V} {F' : Addr → Prop} (r : Rel K F H σ ρ) (hl : js.length = ss.length) (hF : ∀ b, F b → F' b)
    (p : EPost K F' σ H ρ H' ρ') (row : Row K F' (OF F' σ ρ') H' vs ss) (ho : ∀ b ∈ owns vs ss, Own σ ρ b ∨ H b = none) : SPost K F P σ H ρ (putAll σ js vs) H' (putAllD ρ' js ss) := by
  obtain ⟨r1, s1⟩ := row_put (js := js) (hl.trans row.len.symm) p.rel row
  refine ⟨r1.dropF fun b z => ⟨hF b z, fun y => ?_⟩, p.ext, fun b z => ?_, fun i hi => putAll_ne (offP_ok hp hi)⟩
  · rcases ho b y with y | y
    · exact (r.fre b z).2 y
    · exact (r.fre b z).1 y
  · rcases s1 b z with z | z
    · exact .inl (p.sub b z)
    · exact ho b z
theorem ds_par {i j : Nat} {ta : TA} {ms : SM (List Slot)} (hp : offP [i, j] P = true) (h : DenW K ta ms) : DenS K P (tPar i j ta) (mPar [i, j] ms) := fun F H σ ρ ρ' fl E r e w => by
  obtain ⟨⟨ss, ρ1⟩, e1, e⟩ := Rs.of_bind e
  obtain ⟨hl, e⟩ := Rs.of_grd e
  cases e
  refine h F H σ ρ ρ1 ss _ r e1 fun vs H' F' hF p row hn ho => ?_
  have q := par_core hp r hl hF p row ho
  have hv := hl.trans row.len.symm
  match vs, hv with
  | [v, x], _ => exact ⟨v, x, rfl, w _ H' q⟩
theorem ds_par3 {i j l : Nat} {ta : TA} {ms : SM (List Slot)} (hp : offP [i, j, l] P = true) (h : DenW K ta ms) : DenS K P (tPar3 i j l ta) (mPar [i, j, l] ms) := fun F H σ ρ ρ' fl E r e w => by
  obtain ⟨⟨ss, ρ1⟩, e1, e⟩ := Rs.of_bind e
  obtain ⟨hl, e⟩ := Rs.of_grd e
  cases e
  refine h F H σ ρ ρ1 ss _ r e1 fun vs H' F' hF p row hn ho => ?_
  have q := par_core hp r hl hF p row ho
  have hv := hl.trans row.len.symm
  match vs, hv with
  | [v, x, y], _ => exact ⟨v, x, y, rfl, w _ H' q⟩
/-! #### op= -/
def mAug (i : Nat) (f : D → D → Rs D) (me : SM D) : MS := fun ρ => match ρ[i]? with
  | some (some (.val x)) => (me ρ).bind fun p => (f x p.1).bind fun z => .ok (.nx, p.2.set i (some (.val z)))
  | _ => .stuck
theorem ds_aug {i : Nat} {ti : TIp} {f : D → D → Rs D} (hi : i ∉ P) (ho : OpC K ti f) (h : DenE K te me) : DenS K P (tAug i te ti) (mAug i f me) := fun F H σ ρ ρ' fl E r e w => by
  unfold mAug at e
  split at e
  · rename_i x hx
    obtain ⟨⟨d, ρ1⟩, e1, e⟩ := Rs.of_bind e
    obtain ⟨z, e2, e⟩ := Rs.of_bind e
    cases e
    obtain ⟨v, hv, rv⟩ := r.val i x hx
    refine ⟨v, hv, h F H σ ρ ρ1 d _ r e1 fun y H1 p ry => ?_⟩
    refine ho _ H1 v y x d z _ (fun a z => p.rel.of_some z) (p.rp rv).con ry.con e2 fun u H2 x2 ru => ?_
    exact w _ H2 ((p.new x2).s.trans (.put (p.rel.ext0 x2) ru hi))
  · cases e
/-! #### changes in place -/
/-- o[i] = v -/
def TSetOk (K : PySem.W.Frag) (t : TSet) (f : D → D → D → Rs D) : Prop := ∀ (O : Addr → Prop) (H : Hp) (a : Addr) (i v : V) (d di dv z : D) (Q : Hp → Prop), Top K O H a d → O a → Rp K O H i di → Rp K O H v dv → f d di dv = .ok z →
  (∀ H', (∀ b o, b ≠ a → H b = some o → H' b = some o) → Top K O H' a z → Q H') → t (.ref a) i v H Q
def mPut (j : Nat) (f : D → D → D → Rs D) (mi mv : SM D) : MS := fun ρ => (mv ρ).bind fun p => (mi p.2).bind fun q => match q.2[j]?, p.2[j]? with
  | some (some (.own d)), some (some (.own _)) => (f d q.1 p.1).bind fun z => .ok (.nx, q.2.set j (some (.own z)))
  | _, _ => .stuck
theorem ds_put {j : Nat} {t : TSet} {f : D → D → D → Rs D} {ti tv : TE} {mi mv : SM D} (hs : TSetOk K t f) (hi : DenE K ti mi) (hv : DenE K tv mv) : DenS K P (tAsg tv (gSub (tVar j) ti t)) (mPut j f mi mv) := fun F H σ ρ ρ' fl E r e w => by
  obtain ⟨⟨dv, ρ1⟩, e1, e⟩ := Rs.of_bind e
  obtain ⟨⟨di, ρ2⟩, e2, e⟩ := Rs.of_bind e
  simp only at e
  split at e
  · rename_i d _ o2 o1
    obtain ⟨z, e3, e⟩ := Rs.of_bind e
    cases e
    refine hv F H σ ρ ρ1 dv _ r e1 fun v H1 p1 rv => ?_
    obtain ⟨a, ha, _⟩ := p1.rel.mt j _ o1
    refine ⟨_, ha, hi F H1 σ ρ1 ρ2 di _ p1.rel e2 fun i H2 p2 ri => ?_⟩
    obtain ⟨a', ha', ta⟩ := p2.rel.mt j d o2
    rw [ha] at ha'
    cases ha'
    refine hs _ H2 a i v d di dv z _ ta (.inr ⟨j, d, o2, ha⟩) ri (p2.rp rv) e3 fun H3 x t3 => ?_
    exact w _ H3 ((p1.trans p2).trans (p2.rel.turn o2 ha x t3)).s
  · cases e
theorem top_lst {O : Addr → Prop} {H : Hp} {a : Addr} {ys : List V} {es : List D} (oa : O a) (r : RpAll K O H ys es) : Top K O (upd H a (.lst ys)) a (.list es) :=
  ⟨ys, upd_same, r.step (fun b o z n => by rw [upd_ne fun q => n (by rw [q]; exact oa)]; exact z) fun b z => .inl (z.elim id fun z => z ▸ oa)⟩
theorem lst_at {O : Addr → Prop} {H : Hp} {a : Addr} {ds : List D} (t : Top K O H a (.list ds)) : ∃ xs, H a = some (.lst xs) ∧ RpAll K O H xs ds := by
  obtain ⟨xs, e, r⟩ := t
  exact ⟨xs, e, r.less fun b z => .inl z⟩
theorem upd_keep {H : Hp} {a : Addr} {u : HO} : ∀ b o, b ≠ a → H b = some o → upd H a u b = some o := fun b o n h => by rw [upd_ne n]; exact h
def dSetL : D → D → D → Rs D
  | .list ds, .int k, v => (ofO (ixN ds.length k)).bind fun j => .ok (.list (ds.set j v))
  | _, _, _ => .stuck
theorem so_setL : TSetOk K rSetL dSetL := fun O H a i v d di dv z Q t oa ri rv e q => by
  unfold dSetL at e
  split at e
  · rename_i ds k
    obtain ⟨j, e1, e⟩ := Rs.of_bind e
    cases e
    cases ri
    obtain ⟨xs, ea, r⟩ := lst_at t
    exact ⟨a, xs, k, j, rfl, rfl, ea, by rw [r.len]; exact ofO_ok e1, q _ upd_keep (top_lst oa (r.set rv j))⟩
  · cases e
/-- xs.append(v), as a statement -/
def mApp (j : Nat) (mv : SM D) : MS := fun ρ => match ρ[j]? with
  | some (some (.own (.list _))) => (mv ρ).bind fun p => match p.2[j]? with
    | some (some (.own (.list ds))) => Rs.grd (ds.length < sizeLine) (.ok (.nx, p.2.set j (some (.own (.list (ds ++ [p.1]))))))
    | _ => .stuck
  | _ => .stuck
theorem ds_app {j : Nat} (h : DenE K te me) : DenS K P (tDrop (tBM K "list" rAppend (tVar j) (tCons te tNil))) (mApp j me) := fun F H σ ρ ρ' fl E r e w => by
  unfold mApp at e
  split at e
  · rename_i d0 o0
    obtain ⟨⟨dv, ρ1⟩, e1, e⟩ := Rs.of_bind e
    simp only at e
    split at e
    · rename_i ds o1
      obtain ⟨hz, e⟩ := Rs.of_grd e
      cases e
      obtain ⟨a, ha, t0⟩ := r.mt j _ o0
      obtain ⟨xs0, ea0, _⟩ := lst_at t0
      refine ⟨_, ha, .inl ⟨rfl, xs0, .of ea0⟩, h F H σ ρ ρ1 dv _ r e1 fun v H1 p rv => ?_⟩
      obtain ⟨a', ha', t1⟩ := p.rel.mt j _ o1
      rw [ha] at ha'
      cases ha'
      obtain ⟨xs, ea, ra⟩ := lst_at t1
      refine ⟨a, xs, v, rfl, rfl, ea, by rw [ra.len]; exact hz, w _ _ (p.trans (p.rel.turn o1 ha upd_keep (top_lst (.inr ⟨j, _, o1, ha⟩) (ra.append (.cons rv .nil))))).s⟩
    · cases e
  · cases e
/-- xs.pop() -/
def mPop (j : Nat) : SM D := fun ρ => match ρ[j]? with
  | some (some (.own (.list ds))) => (ofO ds[ds.length - 1]?).bind fun d => .ok (d, ρ.set j (some (.own (.list ds.dropLast))))
  | _ => .stuck
theorem de_pop {j : Nat} : DenE K (tBM0 K "list" rPop (tVar j)) (mPop j) := fun F H σ ρ ρ' d Q r e q => by
  unfold mPop at e
  split at e
  · rename_i ds o0
    obtain ⟨d1, e1, e⟩ := Rs.of_bind e
    cases e
    obtain ⟨a, ha, t0⟩ := r.mt j _ o0
    obtain ⟨xs, ea, ra⟩ := lst_at t0
    obtain ⟨y, ey, ry⟩ := ra.get (ofO_ok e1)
    have p := r.turn o0 ha upd_keep (top_lst (.inr ⟨j, _, o0, ha⟩) ra.dropLast)
    exact ⟨_, ha, .inl ⟨rfl, xs, .of ea⟩, a, xs, y, rfl, rfl, ea, by rw [ra.len]; exact ey, q _ _ p (p.rp ry)⟩
  · cases e
/-- xs.pop(i) -/
def mPopAt (j : Nat) (me : SM D) : SM D := fun ρ => match ρ[j]? with
  | some (some (.own (.list _))) => (me ρ).bind fun p => match p.1, p.2[j]? with
    | .int i, some (some (.own (.list ds))) => Rs.grd (-(2 ^ 63) ≤ i ∧ i < 2 ^ 63) ((ofO (seqIndex? i ds.length)).bind fun k => (ofO ds[k]?).bind fun d => .ok (d, p.2.set j (some (.own (.list (ds.eraseIdx k))))))
    | _, _ => .stuck
  | _ => .stuck
theorem de_popAt {j : Nat} (h : DenE K te me) : DenE K (tBM K "list" rPopAt (tVar j) (tCons te tNil)) (mPopAt j me) := fun F H σ ρ ρ' d Q r e q => by
  unfold mPopAt at e
  split at e
  · rename_i d0 o0
    obtain ⟨⟨dv, ρ1⟩, e1, e⟩ := Rs.of_bind e
    simp only at e
    split at e
    · rename_i i ds o1
      obtain ⟨⟨h1, h2⟩, e⟩ := Rs.of_grd e
      obtain ⟨k, e2, e⟩ := Rs.of_bind e
      obtain ⟨d1, e3, e⟩ := Rs.of_bind e
      cases e
      obtain ⟨a, ha, t0⟩ := r.mt j _ o0
      obtain ⟨xs0, ea0, _⟩ := lst_at t0
      refine ⟨_, ha, .inl ⟨rfl, xs0, .of ea0⟩, h F H σ ρ ρ1 _ _ r e1 fun v H1 p rv => ?_⟩
      cases rv
      obtain ⟨a', ha', t1⟩ := p.rel.mt j _ o1
      rw [ha] at ha'
      cases ha'
      obtain ⟨xs, ea, ra⟩ := lst_at t1
      obtain ⟨y, ey, ry⟩ := ra.get (ofO_ok e3)
      have p2 := p.rel.turn o1 ha upd_keep (top_lst (.inr ⟨j, _, o1, ha⟩) (ra.eraseIdx k))
      exact ⟨a, xs, i, k, y, rfl, rfl, ea, h1, h2, by rw [ra.len]; exact ofO_ok e2, ey, q _ _ (p.trans p2) (p2.rp ry)⟩
    · cases e
  · cases e
/-- xs += ys -/
def mExt (j : Nat) (me : SM D) : MS := fun ρ => match ρ[j]? with
  | some (some (.own (.list _))) => (me ρ).bind fun p => match p.1, p.2[j]? with
    | .list es, some (some (.own (.list ds))) => Rs.grd (sz (ds.length + es.length)) (.ok (.nx, p.2.set j (some (.own (.list (ds ++ es))))))
    | _, _ => .stuck
  | _ => .stuck
theorem ds_ext {j : Nat} (h : DenF K te me) (hj : j ∉ P) : DenS K P (tAug j te rExt2) (mExt j me) := fun F H σ ρ ρ' fl E r e w => by
  unfold mExt at e
  split at e
  · rename_i d0 o0
    obtain ⟨⟨dv, ρ1⟩, e1, e⟩ := Rs.of_bind e
    simp only at e
    split at e
    · rename_i es ds o1
      obtain ⟨hz, e⟩ := Rs.of_grd e
      cases e
      obtain ⟨a, ha, t0⟩ := r.mt j _ o0
      refine ⟨_, ha, h F H σ ρ ρ1 _ _ r e1 fun b H1 H2 p n x t => ?_⟩
      have p' := p.new x
      obtain ⟨a', ha', t1⟩ := p'.rel.mt j _ o1
      rw [ha] at ha'
      cases ha'
      obtain ⟨xs, ea, ra⟩ := lst_at t1
      obtain ⟨ys, eb, rb⟩ := lst_at t
      refine ⟨a, b, xs, ys, rfl, rfl, ea, eb, by rw [ra.len, rb.len]; exact hz, ?_⟩
      have hs : σ.set j (some (.ref a)) = σ := by
        refine List.ext_getElem? fun i => ?_
        by_cases hi : j = i
        · subst hi
          rw [List.getElem?_set_self (get_lt ha), ha]
        · rw [List.getElem?_set_ne hi]
      show E.nx (σ.set j (some (.ref a))) _
      rw [hs]
      exact w _ _ (p'.trans (p'.rel.turn o1 ha upd_keep (top_lst (.inr ⟨j, _, o1, ha⟩) (ra.append rb)))).s
    · cases e
  · cases e
/-- a dict of ints and texts -/
def putE (es : List (D × D)) (k : Key) (v : D) : List (D × D) := if es.any (fun p => decide (keyA p.1 = some (.k k))) = true then es.map (fun p => if keyA p.1 = some (.k k) then (p.1, v) else p) else es ++ [(keyD k, v)]
def rSetDK : TSet := fun o i v H Q => ∃ a H', o = .ref a ∧ DPut H a i v H' ∧ Q H'
theorem set_dk {X : Cx} (hu : X.A.units + 1 < cLine) : PSet X rSetDK := by
  intro pins s σ H o i v ov iv u Q I ro ri rv h
  obtain ⟨a, H', rfl, g, q⟩ := h
  cases ro
  exact d_setItem hu I g ri rv fun s' I' => ⟨H', I', q⟩
theorem PSet.or {X : Cx} {t t' : TSet} (h : PSet X t) (h' : PSet X t') : PSet X (fun o i v H Q => t o i v H Q ∨ t' o i v H Q) := fun pins s σ H o i v ov iv u Q I ro ri rv w =>
  w.elim (h pins s σ H o i v ov iv u Q I ro ri rv) (h' pins s σ H o i v ov iv u Q I ro ri rv)
def rSetA : TSet := fun o i v H Q => rSetL o i v H Q ∨ rSetDK o i v H Q
theorem set_all {X : Cx} (hu : X.A.units + 1 < cLine) : PSet X rSetA := PSet.or set_list (set_dk hu)
def dSetK : D → D → D → Rs D
  | .list ds, .int k, v => (ofO (ixN ds.length k)).bind fun j => .ok (.list (ds.set j v))
  | .dict es, i, v => match keyOf i, es with
    | _, (.none, .none) :: _ => .stuck
    | some k, es => Rs.grd (es.length < sizeLine) (.ok (.dict (putE es k v)))
    | _, _ => .stuck
  | _, _, _ => .stuck
theorem any_k {O : Addr → Prop} {H : Hp} : ∀ {kvs : List (Key × V)} {es : List (D × D)} (k : Key), es.map (·.1) = kvs.map (fun p => keyD p.1) → (es.any fun p => decide (keyA p.1 = some (.k k))) = kvs.any fun p => decide (p.1 = k)
  | [], [], k, _ => rfl
  | [], _ :: _, k, h => by cases h
  | _ :: _, [], k, h => by cases h
  | p :: kvs, q :: es, k, h => by
    rw [List.map_cons, List.map_cons] at h
    injection h with h1 h2
    rw [List.any_cons, List.any_cons, any_k (O := O) (H := H) k h2, show keyA q.1 = some (.k p.1) by rw [h1]; exact keyA_keyD p.1]
    congr 1
    simp
theorem map_k {O : Addr → Prop} {H : Hp} {y : V} {v : D} (ry : Rp K O H y v) : ∀ {kvs : List (Key × V)} {es : List (D × D)} (k : Key), es.map (·.1) = kvs.map (fun p => keyD p.1) → RpAll K O H (kvs.map (·.2)) (es.map (·.2)) →
    (es.map (fun p => if keyA p.1 = some (.k k) then (p.1, v) else p)).map (·.1) = (kvs.map (fun kv => if kv.1 = k then (kv.1, y) else kv)).map (fun p => keyD p.1) ∧
      RpAll K O H ((kvs.map (fun kv => if kv.1 = k then (kv.1, y) else kv)).map (·.2)) ((es.map (fun p => if keyA p.1 = some (.k k) then (p.1, v) else p)).map (·.2))
  | [], [], k, _, _ => ⟨rfl, .nil⟩
  | [], _ :: _, k, h, _ => by cases h
  | _ :: _, [], k, h, _ => by cases h
  | p :: kvs, q :: es, k, h, r => by
    rw [List.map_cons, List.map_cons] at h r
    injection h with h1 h2
    cases r with
    | cons r1 r2 =>
      obtain ⟨i1, i2⟩ := map_k ry k h2 r2
      have e1 : keyA q.1 = some (.k p.1) := by rw [h1]; exact keyA_keyD p.1
      by_cases e : p.1 = k
      · have c1 : keyA q.1 = some (.k k) := by rw [e1, e]
        rw [List.map_cons, List.map_cons, List.map_cons, List.map_cons, List.map_cons, List.map_cons, if_pos c1, if_pos e]
        exact ⟨by rw [i1, h1], .cons ry i2⟩
      · have c1 : ¬ keyA q.1 = some (.k k) := fun z => by
          rw [e1] at z
          cases z
          exact e rfl
        rw [List.map_cons, List.map_cons, List.map_cons, List.map_cons, List.map_cons, List.map_cons, if_neg c1, if_neg e]
        exact ⟨by rw [i1, h1], .cons r1 i2⟩
theorem putE_k {O : Addr → Prop} {H : Hp} {y : V} {v : D} (ry : Rp K O H y v) {kvs : List (Key × V)} {es : List (D × D)} (k : Key) (h : es.map (·.1) = kvs.map (fun p => keyD p.1)) (r : RpAll K O H (kvs.map (·.2)) (es.map (·.2))) :
    (putE es k v).map (·.1) = (putK kvs k y).map (fun p => keyD p.1) ∧ RpAll K O H ((putK kvs k y).map (·.2)) ((putE es k v).map (·.2)) := by
  unfold putE putK
  rw [any_k (O := O) (H := H) k h]
  split
  · exact map_k ry k h r
  · rw [List.map_append, List.map_append, List.map_append, List.map_append, h]
    exact ⟨rfl, r.append (.cons ry .nil)⟩
theorem dk_at {O : Addr → Prop} {H : Hp} {a : Addr} {es : List (D × D)} (t : Top K O H a (.dict es)) (hn : ∀ es', es ≠ (.none, .none) :: es') : ∃ kvs : List (Key × V), H a = some (.dK kvs) ∧ es.map (·.1) = kvs.map (fun p => keyD p.1) ∧ RpAll K O H (kvs.map (·.2)) (es.map (·.2)) := by
  rcases t with ⟨kvs, e, h, r⟩ | ⟨_, es', e, _⟩
  · exact ⟨kvs, e, h, r.less fun b z => .inl z⟩
  · exact (hn es' e).elim
theorem top_dk {O : Addr → Prop} {H : Hp} {a : Addr} {kvs : List (Key × V)} {es : List (D × D)} (oa : O a) (h : es.map (·.1) = kvs.map (fun p => keyD p.1)) (r : RpAll K O H (kvs.map (·.2)) (es.map (·.2))) : Top K O (upd H a (.dK kvs)) a (.dict es) :=
  .inl ⟨kvs, upd_same, h, r.step (fun b o z n => by rw [upd_ne fun q => n (by rw [q]; exact oa)]; exact z) fun b z => .inl (z.elim id fun z => z ▸ oa)⟩
theorem len_k {kvs : List (Key × V)} {es : List (D × D)} (h : es.map (·.1) = kvs.map (fun p => keyD p.1)) : kvs.length = es.length := by
  have := congrArg List.length h
  rw [List.length_map, List.length_map] at this
  exact this.symm
theorem so_setA : TSetOk K rSetA dSetK := fun O H a i v d di dv z Q t oa ri rv e q => by
  unfold dSetK at e
  split at e
  · exact .inl (so_setL O H a i v _ _ _ z Q t oa ri rv e q)
  · split at e
    · cases e
    · rename_i _ _ _ hk hn
      obtain ⟨hz, e⟩ := Rs.of_grd e
      cases e
      rw [keyOf_eq hk] at ri
      have ei := keyV ri
      subst ei
      obtain ⟨kvs, ea, h, r⟩ := dk_at t fun es' z => hn _ z
      obtain ⟨h2, r2⟩ := putE_k rv _ h r
      exact .inr ⟨a, _, rfl, .k ea (by rw [len_k h]; exact hz), q _ upd_keep (top_dk oa h2 r2)⟩
    · cases e
  · cases e
/-- {} -/
def mNewK : SM D := fun ρ => .ok (.dict [], ρ)
theorem df_newK : DenF K tDNewK mNewK := fun F H σ ρ ρ' d Q r e q => by
  cases e
  exact fun p hp => q p H _ (.refl r) hp (Ext0.new hp) (.inl ⟨[], upd_same, rfl, .nil⟩)
end
end
end DL
namespace DL
open PySem PySem.Spec PyProof.Rows L2
noncomputable section
/-! ### loops -/
/-- the iterator yields ds, as long as what it was is kept -/
def Yld (K : PySem.W.Frag) (J : It) (O : Addr → Prop) (H1 : Hp) (ds : List D) : Prop := ∀ (O2 : Addr → Prop) (H2 : Hp), Ext O H1 H2 → (∀ a, O2 a → O a ∨ H1 a = none) → (∀ a, O2 a → H2 a ≠ none) →
  (∀ (i : Nat) (d : D), ds[i]? = some d → J.go i H2 ∧ ∀ x H3, J.yld i H2 x H3 → Ext0 H2 H3 ∧ Rp K O2 H3 x d) ∧ ∀ i, ds.length ≤ i → J.stop i H2
def DenI (K : PySem.W.Frag) (wi : TI) (m : SM (List D)) : Prop := ∀ (F : Addr → Prop) (H : Hp) (σ : L2.St) (ρ ρ' : DE) (ds : List D) (R : It → Hp → Prop), Rel K F H σ ρ → m ρ = .ok (ds, ρ') →
  (∀ J H1, EPost K F σ H ρ H1 ρ' → Yld K J (OF F σ ρ') H1 ds → R J H1) → wi σ H R
def forL (g : MG) (b : MS) : List D → DE → Rs (Fl × DE)
  | [], ρ => .ok (.nx, ρ)
  | d :: ds, ρ => (g d ρ).bind fun ρ1 => (b ρ1).bind fun p => match p.1 with
    | .bk => .ok (.nx, p.2)
    | .rt x => .ok (.rt x, p.2)
    | _ => forL g b ds p.2
def mFor (mi : SM (List D)) (g : MG) (b : MS) : MS := fun ρ => (mi ρ).bind fun p => forL g b p.1 p.2
section
variable {K : PySem.W.Frag} {P : List Nat}
theorem Ext.of {F : Addr → Prop} {σ : L2.St} {ρ : DE} {H H' : Hp} (e : Ext (Own σ ρ) H H') : Ext (OF F σ ρ) H H' := fun a o h n => e a o h fun z => n (.inr z)
theorem ds_for {wi : TI} {mi : SM (List D)} {g : TG} {mg : MG} {tb : TS} {mb : MS} {tou : List Nat} (hp : offP tou P = true) (hi : DenI K wi mi) (hg : DenG K tou g mg) (hb : DenS K P tb mb) : DenS K P (tFor wi g tb) (mFor mi mg mb) := fun F H σ ρ ρ' fl E r e w => by
  obtain ⟨⟨ds, ρ1⟩, e1, e⟩ := Rs.of_bind e
  refine hi F H σ ρ ρ1 ds _ r e1 fun J H1 p Y => ?_
  refine ⟨fun i m σ2 H2 => m = ds.length - i ∧ i ≤ ds.length ∧ ∃ ρ2, SPost K F P σ H1 ρ1 σ2 H2 ρ2 ∧ forL mg mb (ds.drop i) ρ2 = .ok (fl, ρ'), ⟨ds.length, by simp, Nat.zero_le _, ρ1, .refl p.rel, by simpa using e⟩, ?_⟩
  rintro i m σ2 H2 ⟨rfl, hle, ρ2, sp, e2⟩
  obtain ⟨Yg, Ys⟩ := Y (OF F σ2 ρ2) H2 sp.ext.of (fun a z => z.elim (fun z => .inl (.inl z)) fun z => (sp.new a z).imp .inr id) fun a z => sp.rel.of_some z
  rcases Nat.lt_or_ge i ds.length with hlt | hge
  · obtain ⟨d, ed⟩ : ∃ d, ds[i]? = some d := ⟨_, List.getElem?_eq_getElem hlt⟩
    obtain ⟨go, yl⟩ := Yg i d ed
    refine .inr ⟨go, fun σ3 H3 => ∃ ρ3, SPost K F P σ H1 ρ1 σ3 H3 ρ3 ∧ forL mg mb (ds.drop (i + 1)) ρ3 = .ok (fl, ρ'), fun σ3 H3 ⟨ρ3, s3, e3⟩ => ⟨ds.length - (i + 1), by omega, rfl, hlt, ρ3, s3, e3⟩, fun x H3 hy => ?_⟩
    obtain ⟨x0, rx⟩ := yl x H3 hy
    have ed2 : ds.drop i = d :: ds.drop (i + 1) := by
      rw [List.drop_eq_getElem_cons hlt]
      rw [List.getElem?_eq_getElem hlt] at ed
      cases ed
      rfl
    rw [ed2] at e2
    obtain ⟨ρ3, e3, e2⟩ := Rs.of_bind e2
    obtain ⟨⟨fl2, ρ4⟩, e4, e2⟩ := Rs.of_bind e2
    have sp3 : SPost K F P σ H1 ρ1 σ2 H3 ρ2 := sp.trans (EPost.of_new sp.rel x0).s
    refine hg F H3 σ2 ρ2 ρ3 x d _ sp3.rel rx e3 fun σ4 g4 => ?_
    refine hb F H3 σ4 ρ3 ρ4 fl2 _ g4.rel e4 ?_
    have sp4 := sp3.trans (g4.s hp)
    cases fl2 with
    | nx => exact fun σ5 H5 s5 => ⟨ρ4, sp4.trans s5, e2⟩
    | ct => exact fun σ5 H5 s5 => ⟨ρ4, sp4.trans s5, e2⟩
    | bk =>
      cases e2
      exact fun σ5 H5 s5 => w σ5 H5 (p.s.trans (sp4.trans s5))
    | rt y =>
      cases e2
      have w2 := w.after (p.s.trans sp4)
      cases y <;> exact w2
  · have ei : i = ds.length := by omega
    subst ei
    rw [List.drop_length] at e2
    cases e2
    exact .inl ⟨Ys _ (Nat.le_refl _), w σ2 H2 (p.s.trans sp)⟩
/-! #### while -/
def whL (c : SM Bool) (b : MS) : Nat → DE → Rs (Fl × DE)
  | 0, _ => .stuck
  | n + 1, ρ => (c ρ).bind fun p => if p.1 = true then (b p.2).bind fun q => match q.1 with
      | .bk => .ok (.nx, q.2)
      | .rt x => .ok (.rt x, q.2)
      | _ => whL c b n q.2
    else .ok (.nx, p.2)
theorem whL_more {c : SM Bool} {b : MS} : ∀ {n m : Nat} {ρ : DE} {r : Fl × DE}, n ≤ m → whL c b n ρ = .ok r → whL c b m ρ = .ok r
  | 0, _, _, _, _, h => by cases h
  | n + 1, 0, _, _, hle, _ => absurd hle (by omega)
  | n + 1, m + 1, ρ, r, hle, h => by
    unfold whL at h ⊢
    obtain ⟨⟨k, ρ1⟩, e1, h⟩ := Rs.of_bind h
    rw [e1, Rs.bind_ok]
    cases k with
    | false => exact h
    | true =>
      simp only [if_true] at h ⊢
      obtain ⟨⟨fl, ρ2⟩, e2, h⟩ := Rs.of_bind h
      rw [e2, Rs.bind_ok]
      cases fl with
      | nx => exact whL_more (Nat.le_of_succ_le_succ hle) h
      | ct => exact whL_more (Nat.le_of_succ_le_succ hle) h
      | bk => exact h
      | rt x => exact h
open Classical in
def mWh (c : SM Bool) (b : MS) : MS := fun ρ => if h : ∃ r : Fl × DE, ∃ n, whL c b n ρ = .ok r then .ok h.choose else .stuck
theorem mWh_of {c : SM Bool} {b : MS} {n : Nat} {ρ : DE} {r : Fl × DE} (h : whL c b n ρ = .ok r) : mWh c b ρ = .ok r := by
  have hx : ∃ r : Fl × DE, ∃ n, whL c b n ρ = .ok r := ⟨r, n, h⟩
  unfold mWh
  rw [dif_pos hx]
  obtain ⟨n', h'⟩ := hx.choose_spec
  have a := whL_more (Nat.le_max_left n n') h
  have b := whL_more (Nat.le_max_right n n') h'
  rw [a] at b
  cases b
  rfl
theorem mWh_n {c : SM Bool} {b : MS} {ρ : DE} {r : Fl × DE} (h : mWh c b ρ = .ok r) : ∃ n, whL c b n ρ = .ok r := by
  unfold mWh at h
  split at h
  · rename_i hx
    obtain ⟨n', h'⟩ := hx.choose_spec
    cases h
    exact ⟨n', h'⟩
  · cases h
theorem ds_while {tt : TT} {c : SM Bool} {tb : TS} {mb : MS} (hc : DenT K tt c) (hb : DenS K P tb mb) : DenS K P (tWhile tt tb) (mWh c mb) := fun F H σ ρ ρ' fl E r e w => by
  obtain ⟨n, e⟩ := mWh_n e
  refine ⟨fun m σ2 H2 => ∃ ρ2, SPost K F P σ H ρ σ2 H2 ρ2 ∧ whL c mb m ρ2 = .ok (fl, ρ'), ⟨n, ρ, .refl r, e⟩, ?_⟩
  rintro m σ2 H2 ⟨ρ2, sp, e2⟩
  cases m with
  | zero => cases e2
  | succ m =>
    unfold whL at e2
    obtain ⟨⟨k, ρ3⟩, e3, e2⟩ := Rs.of_bind e2
    refine hc F H2 σ2 ρ2 ρ3 k _ sp.rel e3 fun H3 p3 => ?_
    cases k with
    | false =>
      cases e2
      exact w σ2 H3 (sp.trans p3.s)
    | true =>
      simp only [if_true] at e2 ⊢
      obtain ⟨⟨fl2, ρ4⟩, e4, e2⟩ := Rs.of_bind e2
      refine ⟨fun σ3 H3 => ∃ ρ3, SPost K F P σ H ρ σ3 H3 ρ3 ∧ whL c mb m ρ3 = .ok (fl, ρ'), fun σ3 H3 h => ⟨m, Nat.lt_succ_self m, h⟩, ?_⟩
      refine hb F H3 σ2 ρ3 ρ4 fl2 _ p3.rel e4 ?_
      have sp4 : SPost K F P σ H ρ σ2 H3 ρ3 := sp.trans p3.s
      cases fl2 with
      | nx => exact fun σ5 H5 s5 => ⟨ρ4, sp4.trans s5, e2⟩
      | ct => exact fun σ5 H5 s5 => ⟨ρ4, sp4.trans s5, e2⟩
      | bk =>
        cases e2
        exact fun σ5 H5 s5 => w σ5 H5 (sp4.trans s5)
      | rt y =>
        cases e2
        have w2 := w.after sp4
        cases y <;> exact w2
end
end
end DL
namespace DL
open PySem PySem.Spec PyProof.Rows L2
noncomputable section
/-! ### comprehensions -/
def wipeD (ρ : DE) : List Nat → DE
  | [] => ρ
  | v :: vs => (wipeD ρ vs).set v none
/-- the slots vs as in ρ, the others as in ρ' -/
def unw (ρ ρ' : DE) : List Nat → DE
  | [] => ρ'
  | v :: vs => (unw ρ ρ' vs).set v (ρ[v]?.getD none)
def nO : Option (Option Slot) → Bool
  | some (some (.own _)) => false
  | _ => true
def nown (ρ : DE) (vs : List Nat) : Bool := vs.all fun v => nO ρ[v]?
theorem nown_ok {ρ : DE} {vs : List Nat} (h : nown ρ vs = true) {i : Nat} {d : D} (hi : i ∈ vs) : ρ[i]? ≠ some (some (.own d)) := fun z => by
  have := List.all_eq_true.mp h i hi
  rw [z] at this
  cases this
theorem nown_of {ρ : DE} {vs : List Nat} (h : ∀ i ∈ vs, ∀ d, ρ[i]? ≠ some (some (.own d))) : nown ρ vs = true := by
  refine List.all_eq_true.mpr fun i hi => ?_
  unfold nO
  split
  · rename_i d e
    exact (h i hi d e).elim
  · rfl
theorem wipeD_length (ρ : DE) : ∀ vs : List Nat, (wipeD ρ vs).length = ρ.length
  | [] => rfl
  | v :: vs => by unfold wipeD; rw [List.length_set, wipeD_length ρ vs]
theorem unw_length (ρ ρ' : DE) : ∀ vs : List Nat, (unw ρ ρ' vs).length = ρ'.length
  | [] => rfl
  | v :: vs => by unfold unw; rw [List.length_set, unw_length ρ ρ' vs]
theorem wipeD_out {ρ : DE} {i : Nat} : ∀ {vs : List Nat}, i ∉ vs → (wipeD ρ vs)[i]? = ρ[i]?
  | [], _ => rfl
  | v :: vs, h => by
    unfold wipeD
    rw [List.getElem?_set_ne fun z => h (by rw [z]; exact List.mem_cons_self ..), wipeD_out fun z => h (List.mem_cons_of_mem _ z)]
theorem wipeD_in {ρ : DE} {i : Nat} {s : Slot} : ∀ {vs : List Nat}, i ∈ vs → (wipeD ρ vs)[i]? ≠ some (some s)
  | v :: vs, h, e => by
    unfold wipeD at e
    by_cases hv : v = i
    · subst hv
      have := get_lt e
      rw [List.length_set] at this
      rw [List.getElem?_set_self this] at e
      cases e
    · rw [List.getElem?_set_ne hv] at e
      exact wipeD_in ((List.mem_cons.mp h).resolve_left fun z => hv z.symm) e
theorem unw_out {ρ ρ' : DE} {i : Nat} : ∀ {vs : List Nat}, i ∉ vs → (unw ρ ρ' vs)[i]? = ρ'[i]?
  | [], _ => rfl
  | v :: vs, h => by
    unfold unw
    rw [List.getElem?_set_ne fun z => h (by rw [z]; exact List.mem_cons_self ..), unw_out fun z => h (List.mem_cons_of_mem _ z)]
theorem unw_in {ρ ρ' : DE} {i : Nat} {s : Slot} : ∀ {vs : List Nat}, i ∈ vs → (unw ρ ρ' vs)[i]? = some (some s) → ρ[i]? = some (some s)
  | v :: vs, h, e => by
    unfold unw at e
    by_cases hv : v = i
    · subst hv
      have := get_lt e
      rw [List.length_set] at this
      rw [List.getElem?_set_self this] at e
      cases q : ρ[v]? with
      | none => rw [q] at e; cases e
      | some t =>
        rw [q] at e
        cases e
        rfl
    · rw [List.getElem?_set_ne hv] at e
      exact unw_in ((List.mem_cons.mp h).resolve_left fun z => hv z.symm) e
theorem wipeS_out {σ : L2.St} {i : Nat} : ∀ {vs : List Nat}, i ∉ vs → (wipe σ vs)[i]? = σ[i]?
  | [], _ => rfl
  | v :: vs, h => by
    unfold wipe
    rw [List.getElem?_set_ne fun z => h (by rw [z]; exact List.mem_cons_self ..), wipeS_out fun z => h (List.mem_cons_of_mem _ z)]
theorem wipeS_in {σ : L2.St} {i : Nat} (hl : i < σ.length) : ∀ {vs : List Nat}, i ∈ vs → (wipe σ vs)[i]? = some none
  | v :: vs, h => by
    unfold wipe
    by_cases hv : v = i
    · subst hv
      exact List.getElem?_set_self (by rw [wipe_length]; exact hl)
    · rw [List.getElem?_set_ne hv]
      exact wipeS_in hl ((List.mem_cons.mp h).resolve_left fun z => hv z.symm)
def inVs (tou vs : List Nat) : Bool := tou.all fun i => vs.contains i
theorem inVs_ok {tou vs : List Nat} (h : inVs tou vs = true) {i : Nat} (hi : i ∉ vs) : i ∉ tou := fun z => by
  have := List.all_eq_true.mp h i z
  simp at this
  exact hi this
theorem wipe_again {σ σ2 : L2.St} {tou vs : List Nat} (hv : inVs tou vs = true) (hl : σ2.length = (wipe σ vs).length) (hk : ∀ i, i ∉ tou → σ2[i]? = (wipe σ vs)[i]?) : wipe σ2 vs = wipe σ vs := by
  refine List.ext_getElem? fun i => ?_
  rw [wipe_length] at hl
  by_cases hi : i ∈ vs
  · rcases Nat.lt_or_ge i σ.length with h | h
    · rw [wipeS_in (by omega) hi, wipeS_in h hi]
    · rw [List.getElem?_eq_none (by rw [wipe_length]; omega), List.getElem?_eq_none (by rw [wipe_length]; omega)]
  · rw [wipeS_out hi, hk i (inVs_ok hv hi)]
section
variable {K : PySem.W.Frag} {F : Addr → Prop} {H H' : Hp} {σ σ2 : L2.St} {ρ ρ2 ρ3 : DE} {vs tou : List Nat}
theorem own_wipe (hn : nown ρ vs = true) (a : Addr) : Own (wipe σ vs) (wipeD ρ vs) a ↔ Own σ ρ a := by
  constructor
  · rintro ⟨i, d, h1, h2⟩
    by_cases hi : i ∈ vs
    · exact (wipeD_in hi h1).elim
    · rw [wipeD_out hi] at h1
      rw [wipeS_out hi] at h2
      exact ⟨i, d, h1, h2⟩
  · rintro ⟨i, d, h1, h2⟩
    have hi : i ∉ vs := fun z => nown_ok hn z h1
    exact ⟨i, d, by rw [wipeD_out hi]; exact h1, by rw [wipeS_out hi]; exact h2⟩
theorem Rel.wipe (r : Rel K F H σ ρ) (hn : nown ρ vs = true) : Rel K F H (wipe σ vs) (wipeD ρ vs) := by
  have st : ∀ b, OF F (L2.wipe σ vs) (wipeD ρ vs) b → OF F σ ρ b := fun b z => z.imp id (own_wipe hn b).mp
  refine ⟨by rw [wipe_length, wipeD_length]; exact r.len, fun i d hd => ?_, fun i d hd => ?_, fun i j d e a hi hj h1 h2 => ?_, fun b z => ⟨(r.fre b z).1, fun q => (r.fre b z).2 ((own_wipe hn b).mp q)⟩⟩
  · by_cases hi : i ∈ vs
    · exact (wipeD_in hi hd).elim
    · rw [wipeD_out hi] at hd
      rw [wipeS_out hi]
      obtain ⟨v, e1, e2⟩ := r.val i d hd
      exact ⟨v, e1, e2.less st⟩
  · by_cases hi : i ∈ vs
    · exact (wipeD_in hi hd).elim
    · rw [wipeD_out hi] at hd
      rw [wipeS_out hi]
      obtain ⟨a, e1, e2⟩ := r.mt i d hd
      exact ⟨a, e1, e2.step Ext.refl (fun _ q => q) fun b z => .inl (st b z)⟩
  · by_cases hvi : i ∈ vs
    · exact (wipeD_in hvi hi).elim
    · by_cases hvj : j ∈ vs
      · exact (wipeD_in hvj hj).elim
      · rw [wipeD_out hvi] at hi
        rw [wipeD_out hvj] at hj
        rw [wipeS_out hvi] at h1
        rw [wipeS_out hvj] at h2
        exact r.inj i j d e a hi hj h1 h2
theorem unwipe (r : Rel K F H σ ρ) (hn : nown ρ vs = true) (hv : inVs tou vs = true) (g : GPost K F tou H (L2.wipe σ vs) (wipeD ρ vs) σ2 ρ2) (p : EPost K F σ2 H ρ2 H' ρ3) :
    EPost K F σ H ρ H' (unw ρ ρ3 vs) ∧ (∀ b, Own σ (unw ρ ρ3 vs) b → Own σ2 ρ3 b) ∧ nown (unw ρ ρ3 vs) vs = true := by
  have same : ∀ {i}, i ∉ vs → σ2[i]? = σ[i]? := fun {i} hi => (g.keep i (inVs_ok hv hi)).trans (wipeS_out hi)
  have nn : ∀ {i d}, (unw ρ ρ3 vs)[i]? = some (some (.own d)) → i ∉ vs ∧ ρ3[i]? = some (some (.own d)) := fun {i d} h => by
    have hi : i ∉ vs := fun z => nown_ok hn z (unw_in z h)
    rw [unw_out hi] at h
    exact ⟨hi, h⟩
  have st : ∀ b, Own σ (unw ρ ρ3 vs) b → Own σ2 ρ3 b := fun b ⟨i, d, h1, h2⟩ => by
    obtain ⟨hi, h3⟩ := nn h1
    exact ⟨i, d, h3, by rw [same hi]; exact h2⟩
  have st2 : ∀ b, Own σ2 ρ3 b → Own σ ρ b := fun b z => (own_wipe hn b).mp (g.sub b (p.sub b z))
  have x : Ext (Own σ ρ) H H' := fun a o h n => p.ext a o h fun z => n ((own_wipe hn a).mp (g.sub a z))
  refine ⟨⟨⟨?_, fun i d hd => ?_, fun i d hd => ?_, fun i j d e a hi hj h1 h2 => ?_, fun b z => ⟨(p.rel.fre b z).1, fun q => (p.rel.fre b z).2 (st b q)⟩⟩, x, fun b z => st2 b (st b z)⟩, st, ?_⟩
  · rw [unw_length, ← p.rel.len, g.len, wipe_length]
  · by_cases hi : i ∈ vs
    · obtain ⟨v, e1, e2⟩ := r.val i d (unw_in hi hd)
      exact ⟨v, e1, e2.step x.of fun b z => .inl (z.imp id fun z => st2 b (st b z))⟩
    · rw [unw_out hi] at hd
      obtain ⟨v, e1, e2⟩ := p.rel.val i d hd
      exact ⟨v, by rw [← same hi]; exact e1, e2.less fun b z => z.imp id (st b)⟩
  · obtain ⟨hi, h3⟩ := nn hd
    obtain ⟨a, e1, e2⟩ := p.rel.mt i d h3
    exact ⟨a, by rw [← same hi]; exact e1, e2.step Ext.refl (fun _ q => q) fun b z => .inl (z.imp id (st b))⟩
  · obtain ⟨hi', h3⟩ := nn hi
    obtain ⟨hj', h4⟩ := nn hj
    exact p.rel.inj i j d e a h3 h4 (by rw [same hi']; exact h1) (by rw [same hj']; exact h2)
  · exact nown_of fun i hi d z => (nn z).1 hi
/-- without D -/
def less1 (H : Hp) (D : Addr) : Hp := fun b => if b = D then none else H b
theorem Rel.drop1 {D : Addr} (r : Rel K (fun b => F b ∨ b = D) H σ ρ) (n : ¬ F D) : Rel K F (less1 H D) σ ρ := by
  have nD : ¬ Own σ ρ D := (r.fre D (.inr rfl)).2
  have x : Ext (OF (fun b => F b ∨ b = D) σ ρ) H (less1 H D) := fun a o h q => by
    unfold less1
    rw [if_neg fun z => q (.inl (.inr z))]
    exact h
  have st : ∀ b, OF F σ ρ b → OF (fun b => F b ∨ b = D) σ ρ b := fun b z => z.imp .inl id
  have ne : ∀ b, b ≠ D → less1 H D b = H b := fun b z => if_neg z
  refine ⟨r.len, fun i d hd => ?_, fun i d hd => ?_, r.inj, fun b z => ⟨?_, (r.fre b (.inl z)).2⟩⟩
  · obtain ⟨v, e1, e2⟩ := r.val i d hd
    exact ⟨v, e1, e2.step x fun b z => .inl (st b z)⟩
  · obtain ⟨a, e1, e2⟩ := r.mt i d hd
    have na : a ≠ D := fun z => nD ⟨i, d, hd, by rw [← z]; exact e1⟩
    exact ⟨a, e1, e2.step x (fun o q => by rw [ne a na]; exact q) fun b z => .inl (st b z)⟩
  · rw [ne b fun q => n (q ▸ z)]
    exact (r.fre b (.inl z)).1
end
def lcL (g : MG) (c : SM Bool) (e : SM D) (vs : List Nat) : List D → DE → Rs (List D × DE)
  | [], ρ => .ok ([], ρ)
  | d :: ds, ρ => (g d (wipeD ρ vs)).bind fun ρ1 => (c ρ1).bind fun p => if p.1 = true then (e p.2).bind fun q => (lcL g c e vs ds (unw ρ q.2 vs)).bind fun r => .ok (q.1 :: r.1, r.2)
    else lcL g c e vs ds (unw ρ p.2 vs)
def mLc (mi : SM (List D)) (g : MG) (c : SM Bool) (e : SM D) (vs : List Nat) : SM D := fun ρ => (mi ρ).bind fun p => Rs.grd (nown p.2 vs = true) ((lcL g c e vs p.1 p.2).bind fun q => Rs.grd (sz q.1.length) (.ok (.list q.1, q.2)))
section
variable {K : PySem.W.Frag}
theorem df_lc {wi : TI} {mi : SM (List D)} {g : TG} {mg : MG} {tt : TT} {c : SM Bool} {te : TE} {me : SM D} {vs tou : List Nat} (hv : inVs tou vs = true) (hi : DenI K wi mi) (hg : DenG K tou g mg) (hc : DenT K tt c) (he : DenE K te me) :
    DenF K (tLc wi g tt te vs) (mLc mi mg c me vs) := fun F H σ ρ ρ' d Q r e q => by
  obtain ⟨⟨ds, ρ1⟩, e1, e⟩ := Rs.of_bind e
  obtain ⟨hn, e⟩ := Rs.of_grd e
  obtain ⟨⟨all, ρ9⟩, e2, e⟩ := Rs.of_bind e
  obtain ⟨hz, e⟩ := Rs.of_grd e
  cases e
  refine hi F H σ ρ ρ1 ds _ r e1 fun J H1 p Y D hD => ?_
  have nF : ¬ F D := fun z => (p.rel.fre D z).1 hD
  have r1 : Rel K (fun b => F b ∨ b = D) (upd H1 D (.lst [])) σ ρ1 := p.rel.addF hD (Ext0.new hD) (by rw [upd_same]; simp)
  refine ⟨fun i m H2 => m = ds.length - i ∧ i ≤ ds.length ∧ ∃ ρ2 acc ads rest, EPost K (fun b => F b ∨ b = D) σ H1 ρ1 H2 ρ2 ∧ H2 D = some (.lst acc) ∧ RpAll K (OF (fun b => F b ∨ b = D) σ ρ2) H2 acc ads ∧
    lcL mg c me vs (ds.drop i) ρ2 = .ok (rest, ρ9) ∧ ads ++ rest = all ∧ nown ρ2 vs = true, ⟨ds.length, by simp, Nat.zero_le _, ρ1, [], [], all, ⟨r1, (Ext0.new hD).ext, fun _ z => z⟩, upd_same, .nil, by simpa using e2, rfl, hn⟩, ?_⟩
  rintro i m H2 ⟨rfl, hle, ρ2, acc, ads, rest, p2, eD, ra, e3, eall, hn2⟩
  have keep : Ext (OF F σ ρ1) H1 H2 := p2.ext.of
  obtain ⟨Yg, Ys⟩ := Y (OF (fun b => F b ∨ b = D) σ ρ2) H2 keep (fun a z => by
    rcases z with (z | z) | z
    · exact .inl (.inl z)
    · exact .inr (z ▸ hD)
    · exact .inl (.inr (p2.sub a z))) fun a z => p2.rel.of_some z
  rcases Nat.lt_or_ge i ds.length with hlt | hge
  · obtain ⟨d, ed⟩ : ∃ d, ds[i]? = some d := ⟨_, List.getElem?_eq_getElem hlt⟩
    obtain ⟨go, yl⟩ := Yg i d ed
    have ed2 : ds.drop i = d :: ds.drop (i + 1) := by
      rw [List.drop_eq_getElem_cons hlt]
      rw [List.getElem?_eq_getElem hlt] at ed
      cases ed
      rfl
    rw [ed2] at e3
    obtain ⟨ρ3, e4, e3⟩ := Rs.of_bind e3
    obtain ⟨⟨k, ρ4⟩, e5, e3⟩ := Rs.of_bind e3
    refine .inr ⟨go, fun H3 => ∃ ρ2 acc ads rest, EPost K (fun b => F b ∨ b = D) σ H1 ρ1 H3 ρ2 ∧ H3 D = some (.lst acc) ∧ RpAll K (OF (fun b => F b ∨ b = D) σ ρ2) H3 acc ads ∧
      lcL mg c me vs (ds.drop (i + 1)) ρ2 = .ok (rest, ρ9) ∧ ads ++ rest = all ∧ nown ρ2 vs = true, fun H3 ⟨ρ2, acc, ads, rest, h⟩ => ⟨ds.length - (i + 1), by omega, rfl, hlt, ρ2, acc, ads, rest, h⟩, fun x H3 hy => ?_⟩
    obtain ⟨x0, rx⟩ := yl x H3 hy
    have p3 := p2.new x0
    have r3 := p3.rel.wipe hn2
    refine hg _ H3 (L2.wipe σ vs) (wipeD ρ2 vs) ρ3 x d _ r3 (rx.less fun b z => z.imp id (own_wipe hn2 b).mp) e4 fun σ4 g4 => ⟨wipe_again hv g4.len g4.keep, ?_⟩
    refine hc _ H3 σ4 ρ3 ρ4 k _ g4.rel e5 fun H4 p4 => ?_
    have eD3 : H3 D = some (.lst acc) := x0 D _ eD
    have nO : ∀ {ρ : DE}, ∀ {h : Hp}, Rel K (fun b => F b ∨ b = D) h σ4 ρ → ¬ Own σ4 ρ D := fun r => (r.fre D (.inr rfl)).2
    cases k with
    | false =>
      simp only [Bool.false_eq_true, if_false] at e3 ⊢
      obtain ⟨u1, u2, u3⟩ := unwipe p3.rel hn2 hv g4 p4
      exact ⟨unw ρ2 ρ4 vs, acc, ads, rest, p3.trans u1, p4.ext D _ eD3 (nO g4.rel), u1.rpAll (ra.ext0 x0), e3, eall, u3⟩
    | true =>
      simp only [if_true] at e3 ⊢
      obtain ⟨⟨y, ρ5⟩, e6, e3⟩ := Rs.of_bind e3
      obtain ⟨⟨more, ρ6⟩, e7, e3⟩ := Rs.of_bind e3
      cases e3
      refine he _ H4 σ4 ρ4 ρ5 y _ p4.rel e6 fun v H5 p5 rv => ?_
      have p45 := p4.trans p5
      obtain ⟨u1, u2, u3⟩ := unwipe p3.rel hn2 hv g4 p45
      have eD5 : H5 D = some (.lst acc) := p45.ext D _ eD3 (nO g4.rel)
      have la : acc.length < sizeLine := by
        rw [ra.len]
        have : ads.length + (more.length + 1) = all.length := by rw [← eall]; simp
        have hz' : all.length ≤ sizeLine := hz
        omega
      refine ⟨acc, eD5, la, unw ρ2 ρ5 vs, acc ++ [v], ads ++ [y], more, ?_, upd_same, ?_, e7, by rw [← eall]; simp, u3⟩
      · have xD : Ext (OF (fun b => F b ∨ b = D) σ (unw ρ2 ρ5 vs)) H5 (upd H5 D (.lst (acc ++ [v]))) := fun a o h n => by
          rw [upd_ne fun z => n (.inl (.inr z))]
          exact h
        have pp := p3.trans u1
        have nD : ¬ Own σ (unw ρ2 ρ5 vs) D := (pp.rel.fre D (.inr rfl)).2
        refine ⟨⟨pp.rel.len, fun i d hd => ?_, fun i d hd => ?_, pp.rel.inj, fun b z => ⟨?_, (pp.rel.fre b z).2⟩⟩, fun a o h n => ?_, pp.sub⟩
        · obtain ⟨w, q1, q2⟩ := pp.rel.val i d hd
          exact ⟨w, q1, q2.step xD fun b z => .inl z⟩
        · obtain ⟨a, q1, q2⟩ := pp.rel.mt i d hd
          have na : a ≠ D := fun z => nD ⟨i, d, hd, by rw [← z]; exact q1⟩
          exact ⟨a, q1, q2.step xD (fun o h => by rw [upd_ne na]; exact h) fun b z => .inl z⟩
        · by_cases hb : b = D
          · rw [hb, upd_same]; simp
          · rw [upd_ne hb]; exact (pp.rel.fre b z).1
        · by_cases hb : a = D
          · rw [hb, hD] at h
            cases h
          · rw [upd_ne hb]; exact pp.ext a o h n
      · have rA := u1.rpAll (ra.ext0 x0)
        have rV : Rp K (OF (fun b => F b ∨ b = D) σ (unw ρ2 ρ5 vs)) H5 v y := rv.less fun b z => z.imp id (u2 b)
        refine (rA.append (.cons rV .nil)).step (fun a o h n => ?_) fun b z => .inl z
        rw [upd_ne fun z => n (.inl (.inr z))]
        exact h
  · have ei : i = ds.length := by omega
    subst ei
    rw [List.drop_length] at e3
    cases e3
    refine .inl ⟨Ys _ (Nat.le_refl _), q D (less1 H2 D) H2 ?_ ?_ ?_ ?_⟩
    · refine ⟨p2.rel.drop1 nF, fun a o h n => ?_, fun b z => p.sub b (p2.sub b z)⟩
      have h1 := p.ext a o h n
      have na : a ≠ D := fun z => by
        rw [z, hD] at h1
        cases h1
      show (if a = D then none else H2 a) = some o
      rw [if_neg na]
      exact p2.ext a o h1 fun z => n (p.sub a z)
    · exact if_pos rfl
    · intro a o h
      unfold less1 at h
      split at h
      · cases h
      · exact h
    · refine ⟨acc, eD, ?_⟩
      rw [List.append_nil] at eall
      show RpAll K _ H2 acc all
      rw [← eall]
      exact ra.less fun b z => by
        rcases z with (z | z) | z
        · exact .inl (.inl z)
        · exact .inr z
        · exact .inl (.inr z)
end
end
end DL
namespace DL
open PySem PySem.Spec PyProof.Rows L2
noncomputable section
/-! ### what a loop walks -/
def iSeq (K : PySem.W.Frag) (tl : TE) : TI := fun σ H R => iList K tl σ H R ∨ iTup K tl σ H R ∨ iStr tl σ H R
theorem PI.or {X : Cx} {tg iter : Expr} {w w' : TI} (h : PI X tg iter w) (h' : PI X tg iter w') : PI X tg iter (fun σ H R => w σ H R ∨ w' σ H R) :=
  ⟨fun pins s σ H R I q => q.elim (h.run pins s σ H R I) (h'.run pins s σ H R I)⟩
theorem pi_seq {X : Cx} {tg l : Expr} {tl : TE} (hl : PE X l tl) : PI X tg l (iSeq X.K tl) := PI.or (pi_list hl) (PI.or (pi_tup hl) (pi_str hl))
def charsD (x : Str) : List D := x.cps.toList.map fun c => .str ⟨#[c]⟩
def seqD : D → Rs (List D)
  | .list ds => .ok ds
  | .tuple ds => .ok ds
  | .str x => .ok (charsD x)
  | _ => .stuck
def mSeq (m : SM D) : SM (List D) := fun ρ => (m ρ).bind fun p => (seqD p.1).bind fun ds => .ok (ds, p.2)
section
variable {K : PySem.W.Frag} {O O2 : Addr → Prop} {H1 H2 : Hp}
/-- later -/
def Late (O : Addr → Prop) (H1 : Hp) (O2 : Addr → Prop) (H2 : Hp) : Prop := Ext O H1 H2 ∧ ∀ a, O2 a → O a ∨ H1 a = none
theorem rp_listL {a : V} {ds : List D} (h : Rp K O H1 a (.list ds)) : ∃ p xs, a = .ref p ∧ SqL K H1 p xs ∧ xs.length = ds.length ∧ ∀ O2 H2, Late O H1 O2 H2 → SqL K H2 p xs ∧ RpAll K O2 H2 xs ds := by
  cases h with
  | lst h ha =>
    refine ⟨_, _, rfl, sqL_of h, ha.len, fun O2 H2 l => ⟨sqL_of (O := O) ?_, ha.step l.1 l.2⟩⟩
    exact h.imp (fun h => ⟨h.1, l.1.rd h.2 h.1⟩) id
theorem rp_tupL {a : V} {ds : List D} (h : Rp K O H1 a (.tuple ds)) : ∃ p xs, a = .ref p ∧ SqT K H1 p xs ∧ xs.length = ds.length ∧ ∀ O2 H2, Late O H1 O2 H2 → SqT K H2 p xs ∧ RpAll K O2 H2 xs ds := by
  cases h with
  | tup h ha =>
    refine ⟨_, _, rfl, sqT_of h, ha.len, fun O2 H2 l => ⟨sqT_of (O := O) ?_, ha.step l.1 l.2⟩⟩
    exact h.imp (fun h => ⟨h.1, l.1.rd h.2 h.1⟩) id
theorem di_seq {te : TE} {me : SM D} (h : DenE K te me) : DenI K (iSeq K te) (mSeq me) := fun F H σ ρ ρ' ds R r e q => by
  obtain ⟨⟨d, ρ1⟩, e1, e⟩ := Rs.of_bind e
  obtain ⟨es, e2, e⟩ := Rs.of_bind e
  cases e
  change seqD d = .ok _ at e2
  unfold seqD at e2
  split at e2
  · cases e2
    refine .inl (h F H σ ρ ρ1 _ _ r e1 fun v H1 p rp => ?_)
    obtain ⟨a, xs, rfl, s1, hl, late⟩ := rp_listL rp
    refine ⟨a, rfl, ⟨xs, s1⟩, q _ H1 p fun O2 H2 x n _ => ⟨fun i d hd => ?_, fun i hi => ?_⟩⟩
    · obtain ⟨s2, r2⟩ := late O2 H2 ⟨x, n⟩
      obtain ⟨y, ey, ry⟩ := r2.get hd
      refine ⟨⟨xs, y, s2, ey⟩, fun z H3 hy => ?_⟩
      obtain ⟨rfl, hz⟩ := hy
      have := hz xs s2
      rw [ey] at this
      cases this
      exact ⟨Ext0.refl, ry⟩
    · exact ⟨xs, (late O2 H2 ⟨x, n⟩).1, by rw [hl]; exact hi⟩
  · cases e2
    refine .inr (.inl (h F H σ ρ ρ1 _ _ r e1 fun v H1 p rp => ?_))
    obtain ⟨a, xs, rfl, s1, hl, late⟩ := rp_tupL rp
    refine ⟨a, rfl, ⟨xs, s1⟩, q _ H1 p fun O2 H2 x n _ => ⟨fun i d hd => ?_, fun i hi => ?_⟩⟩
    · obtain ⟨s2, r2⟩ := late O2 H2 ⟨x, n⟩
      obtain ⟨y, ey, ry⟩ := r2.get hd
      refine ⟨⟨xs, y, s2, ey⟩, fun z H3 hy => ?_⟩
      obtain ⟨rfl, hz⟩ := hy
      have := hz xs s2
      rw [ey] at this
      cases this
      exact ⟨Ext0.refl, ry⟩
    · exact ⟨xs, (late O2 H2 ⟨x, n⟩).1, by rw [hl]; exact hi⟩
  · rename_i x _
    cases e2
    refine .inr (.inr (h F H σ ρ ρ1 _ _ r e1 fun v H1 p rp => ?_))
    cases rp
    refine ⟨_, rfl, q _ H1 p fun O2 H2 _ _ _ => ⟨fun i d hd => ?_, fun i hi => ?_⟩⟩
    · unfold charsD at hd
      rw [List.getElem?_map, Array.getElem?_toList] at hd
      cases hc : x.cps[i]? with
      | none => rw [hc] at hd; cases hd
      | some c =>
        rw [hc] at hd
        cases hd
        refine ⟨(Array.getElem?_eq_some_iff.mp hc).1, fun z H3 hy => ?_⟩
        obtain ⟨rfl, c', hc', rfl⟩ := hy
        rw [hc] at hc'
        cases hc'
        exact ⟨Ext0.refl, .str _⟩
    · have : (charsD x).length ≤ i := hi
      unfold charsD at this
      rw [List.length_map, Array.length_toList] at this
      exact this
  · cases e2
/-! #### range -/
def i62 (i : Int) : Prop := -(2 ^ 62) ≤ i ∧ i < 2 ^ 62
instance (i : Int) : Decidable (i62 i) := inferInstanceAs (Decidable (_ ∧ _))
def upD (lo : Int) (n : Nat) : List D := (List.range n).map fun (k : Nat) => .int (lo + k)
def mRng1 (m : SM D) : SM (List D) := fun ρ => (m ρ).bind fun p => match p.1 with
  | .int j => Rs.grd (i62 j) (.ok (upD 0 j.toNat, p.2))
  | _ => .stuck
def mRng2 (m m' : SM D) : SM (List D) := fun ρ => (m ρ).bind fun p => (m' p.2).bind fun q => match p.1, q.1 with
  | .int i, .int j => Rs.grd (i62 i ∧ i62 j) (.ok (upD i (j - i).toNat, q.2))
  | _, _ => .stuck
theorem upD_get {lo : Int} {n i : Nat} {d : D} (h : (upD lo n)[i]? = some d) : i < n ∧ d = .int (lo + i) := by
  unfold upD at h
  rw [List.getElem?_map] at h
  by_cases hi : i < n
  · rw [List.getElem?_range hi] at h
    cases h
    exact ⟨hi, rfl⟩
  · rw [List.getElem?_eq_none (by rw [List.length_range]; omega)] at h
    cases h
theorem yld_up {lo : Int} {n : Nat} : Yld K (Itr lo n) O H1 (upD lo n) := fun O2 H2 _ _ _ => ⟨fun i d hd => by
    obtain ⟨hi, rfl⟩ := upD_get hd
    refine ⟨hi, fun x H3 hy => ?_⟩
    obtain ⟨rfl, rfl⟩ := hy
    exact ⟨Ext0.refl, .int _⟩, fun i hi => by
    unfold upD at hi
    rw [List.length_map, List.length_range] at hi
    exact hi⟩
theorem di_rng1 {te : TE} {me : SM D} (h : DenE K te me) : DenI K (iRng1 (tCons te tNil)) (mRng1 me) := fun F H σ ρ ρ' ds R r e q => by
  obtain ⟨⟨d, ρ1⟩, e1, e⟩ := Rs.of_bind e
  simp only at e
  split at e
  · rename_i j
    obtain ⟨⟨h1, h2⟩, e⟩ := Rs.of_grd e
    cases e
    refine h F H σ ρ _ _ _ r e1 fun v H1 p rp => ?_
    cases rp
    exact ⟨j, rfl, h1, h2, q _ H1 p yld_up⟩
  · cases e
theorem di_rng2 {te te2 : TE} {me me2 : SM D} (h : DenE K te me) (h' : DenE K te2 me2) : DenI K (iRng2 (tCons te (tCons te2 tNil))) (mRng2 me me2) := fun F H σ ρ ρ' ds R r e q => by
  obtain ⟨⟨d, ρ1⟩, e1, e⟩ := Rs.of_bind e
  obtain ⟨⟨d2, ρ2⟩, e2, e⟩ := Rs.of_bind e
  simp only at e
  split at e
  · rename_i i j _ _
    obtain ⟨⟨h1, h2⟩, e⟩ := Rs.of_grd e
    cases e
    refine h F H σ ρ _ _ _ r e1 fun v H1 p rp => ?_
    refine h' F H1 σ ρ1 _ _ _ p.rel e2 fun v2 H2 p2 rp2 => ?_
    cases rp
    cases rp2
    exact ⟨_, _, rfl, ⟨h1.1, h1.2, h2.1, h2.2⟩, q _ H2 (p.trans p2) yld_up⟩
  · cases e
/-! #### zip -/
def zipD (a b : List D) : List D := (a.zip b).map fun p => .tuple [p.1, p.2]
def mZip (m m' : SM D) : SM (List D) := fun ρ => (m ρ).bind fun p => (m' p.2).bind fun q => match p.1, q.1 with
  | .list a, .list b => .ok (zipD a b, q.2)
  | .tuple a, .tuple b => .ok (zipD a b, q.2)
  | _, _ => .stuck
theorem zipD_get {a b : List D} {i : Nat} {d : D} (h : (zipD a b)[i]? = some d) : ∃ x y, a[i]? = some x ∧ b[i]? = some y ∧ d = .tuple [x, y] := by
  unfold zipD at h
  rw [List.getElem?_map] at h
  cases e : (a.zip b)[i]? with
  | none => rw [e] at h; cases h
  | some p =>
    rw [e] at h
    cases h
    obtain ⟨e1, e2⟩ := List.getElem?_zip_eq_some.mp e
    exact ⟨_, _, e1, e2, rfl⟩
theorem di_zip {te te2 : TE} {me me2 : SM D} (h : DenE K te me) (h' : DenE K te2 me2) : DenI K (RZ.iZipA K (tCons te (tCons te2 tNil))) (mZip me me2) := fun F H σ ρ ρ' ds R r e q => by
  obtain ⟨⟨d, ρ1⟩, e1, e⟩ := Rs.of_bind e
  obtain ⟨⟨d2, ρ2⟩, e2, e⟩ := Rs.of_bind e
  refine h F H σ ρ _ _ _ r e1 fun v H1 p rp => ?_
  refine h' F H1 σ ρ1 _ _ _ p.rel e2 fun v2 H2 p2 rp2 => ?_
  have rp1 := p2.rp rp
  simp only at e
  split at e
  · cases e
    obtain ⟨a, xs, rfl, s1, l1, late1⟩ := rp_listL rp1
    obtain ⟨b, ys, rfl, s2, l2, late2⟩ := rp_listL rp2
    refine ⟨a, b, xs, ys, rfl, .inl ⟨s1, s2, q _ H2 (p.trans p2) fun O2 H3 x n tr => ⟨fun i d hd => ?_, fun i hi => ?_⟩⟩⟩
    · obtain ⟨t1, r1⟩ := late1 O2 H3 ⟨x, n⟩
      obtain ⟨t2, r2⟩ := late2 O2 H3 ⟨x, n⟩
      obtain ⟨dx, dy, g1, g2, rfl⟩ := zipD_get hd
      obtain ⟨ux, k1, k2⟩ := r1.get g1
      obtain ⟨uy, k3, k4⟩ := r2.get g2
      refine ⟨⟨xs, ys, ux, uy, t1, t2, k1, k3⟩, fun z H4 hy => ?_⟩
      obtain ⟨T, vx, vy, rfl, hT, rfl, m1, m2⟩ := hy
      have q1 := m1 xs t1
      have q2 := m2 ys t2
      rw [k1] at q1
      rw [k3] at q2
      cases q1
      cases q2
      exact ⟨Ext0.new hT, tup_new tr hT (.cons k2 (.cons k4 .nil))⟩
    · have hi' : (zipD _ _).length ≤ i := hi
      unfold zipD at hi'
      rw [List.length_map, List.length_zip] at hi'
      exact ⟨xs, ys, (late1 O2 H3 ⟨x, n⟩).1, (late2 O2 H3 ⟨x, n⟩).1, by rw [l1, l2]; omega⟩
  · cases e
    obtain ⟨a, xs, rfl, s1, l1, late1⟩ := rp_tupL rp1
    obtain ⟨b, ys, rfl, s2, l2, late2⟩ := rp_tupL rp2
    refine ⟨a, b, xs, ys, rfl, .inr ⟨s1, s2, q _ H2 (p.trans p2) fun O2 H3 x n tr => ⟨fun i d hd => ?_, fun i hi => ?_⟩⟩⟩
    · obtain ⟨t1, r1⟩ := late1 O2 H3 ⟨x, n⟩
      obtain ⟨t2, r2⟩ := late2 O2 H3 ⟨x, n⟩
      obtain ⟨dx, dy, g1, g2, rfl⟩ := zipD_get hd
      obtain ⟨ux, k1, k2⟩ := r1.get g1
      obtain ⟨uy, k3, k4⟩ := r2.get g2
      refine ⟨⟨xs, ys, ux, uy, t1, t2, k1, k3⟩, fun z H4 hy => ?_⟩
      obtain ⟨T, vx, vy, rfl, hT, rfl, m1, m2⟩ := hy
      have q1 := m1 xs t1
      have q2 := m2 ys t2
      rw [k1] at q1
      rw [k3] at q2
      cases q1
      cases q2
      exact ⟨Ext0.new hT, tup_new tr hT (.cons k2 (.cons k4 .nil))⟩
    · have hi' : (zipD _ _).length ≤ i := hi
      unfold zipD at hi'
      rw [List.length_map, List.length_zip] at hi'
      exact ⟨xs, ys, (late1 O2 H3 ⟨x, n⟩).1, (late2 O2 H3 ⟨x, n⟩).1, by rw [l1, l2]; omega⟩
  · cases e
end
end
end DL
namespace DL
open PySem PySem.Spec PyProof.Rows L2
noncomputable section
/-! ### a def's promise -/
def spD (K : PySem.W.Frag) (n : Nat) (m : SM Slot) : Sp := fun vs H Q _ => vs.length = n ∧ ∃ (F : Addr → Prop) (ρ0 ρ1 : DE) (s : Slot), Rel K F H (vs.map some) ρ0 ∧ m ρ0 = .ok (s, ρ1) ∧ RWant K F (vs.map some) H ρ0 ρ1 Q s
/-- the parameters behind the body: what is one's own there stays so only in P -/
def backS (P : List Nat) (ρ' : DE) (i : Nat) (s : Option Slot) : Option Slot := match s with
  | some (.own _) => if P.contains i then (match ρ'[i]? with
    | some (some (.own d)) => some (.own d)
    | _ => none) else none
  | s => s
def backD (P : List Nat) (ρ' : DE) (ρ0 : DE) : DE := ρ0.mapIdx (backS P ρ')
def mDef (n k : Nat) (P : List Nat) (b : MS) : SM Slot := fun ρ0 => Rs.grd (ρ0.length = n) ((b (ρ0 ++ List.replicate k none)).bind fun p => match p.1 with
  | .rt d => .ok (d, backD P p.2 ρ0)
  | .nx => .ok (.val .none, backD P p.2 ρ0)
  | _ => .stuck)
section
variable {K : PySem.W.Frag} {F : Addr → Prop} {H H' : Hp}
theorem backD_get {P : List Nat} {ρ' ρ0 : DE} {i : Nat} {s : Slot} (h : (backD P ρ' ρ0)[i]? = some (some s)) :
    (∃ d, s = .val d ∧ ρ0[i]? = some (some (.val d))) ∨ ∃ d d', s = .own d' ∧ ρ0[i]? = some (some (.own d)) ∧ i ∈ P ∧ ρ'[i]? = some (some (.own d')) := by
  unfold backD at h
  rw [List.getElem?_mapIdx] at h
  cases e : ρ0[i]? with
  | none => rw [e] at h; cases h
  | some t =>
    rw [e] at h
    simp only [Option.map_some] at h
    cases t with
    | none => unfold backS at h; simp at h
    | some t =>
      cases t with
      | val d =>
        unfold backS at h
        simp at h
        exact .inl ⟨d, h.symm, rfl⟩
      | own d =>
        unfold backS at h
        simp only [Option.some.injEq] at h
        split at h
        · rename_i hp
          split at h
          · rename_i d' e2
            cases h
            exact .inr ⟨d, d', rfl, rfl, by simpa using hp, e2⟩
          · cases h
        · cases h
theorem start_pad {N : List Str} {vs : List V} : start N vs = vs.map some ++ List.replicate (N.length - vs.length) none := rfl
theorem get_pad {α : Type} {l : List (Option α)} {k i : Nat} {s : α} : (l ++ List.replicate k none)[i]? = some (some s) ↔ l[i]? = some (some s) := by
  rcases Nat.lt_or_ge i l.length with h | h
  · rw [List.getElem?_append_left h]
  · rw [List.getElem?_append_right h, List.getElem?_eq_none h]
    constructor
    · intro e
      rw [List.getElem?_replicate] at e
      split at e
      · cases e
      · cases e
    · intro e
      cases e
theorem own_pad {σ : L2.St} {ρ : DE} {j k : Nat} (a : Addr) : Own (σ ++ List.replicate j none) (ρ ++ List.replicate k none) a ↔ Own σ ρ a := by
  constructor
  · rintro ⟨i, d, h1, h2⟩
    exact ⟨i, d, get_pad.mp h1, get_pad.mp h2⟩
  · rintro ⟨i, d, h1, h2⟩
    exact ⟨i, d, get_pad.mpr h1, get_pad.mpr h2⟩
theorem Rel.pad {σ : L2.St} {ρ : DE} (r : Rel K F H σ ρ) (k : Nat) : Rel K F H (σ ++ List.replicate k none) (ρ ++ List.replicate k none) := by
  have st : ∀ b, OF F (σ ++ List.replicate k none) (ρ ++ List.replicate k none) b → OF F σ ρ b := fun b z => z.imp id (own_pad b).mp
  refine ⟨by rw [List.length_append, List.length_append, List.length_replicate, List.length_replicate, r.len], fun i d hd => ?_, fun i d hd => ?_, fun i j d e a hi hj h1 h2 => r.inj i j d e a (get_pad.mp hi) (get_pad.mp hj) (get_pad.mp h1) (get_pad.mp h2), fun b z => ⟨(r.fre b z).1, fun q => (r.fre b z).2 ((own_pad b).mp q)⟩⟩
  · obtain ⟨v, e1, e2⟩ := r.val i d (get_pad.mp hd)
    exact ⟨v, get_pad.mpr e1, e2.less st⟩
  · obtain ⟨v, e1, e2⟩ := r.mt i d (get_pad.mp hd)
    exact ⟨v, get_pad.mpr e1, e2.step Ext.refl (fun _ q => q) fun b z => .inl (st b z)⟩
theorem def_back {F' : Addr → Prop} {P : List Nat} {σ0 σ' : L2.St} {ρ0 ρ' : DE} {k : Nat} (r : Rel K F H σ0 ρ0) (p : SPost K F' P (σ0 ++ List.replicate k none) H (ρ0 ++ List.replicate k none) σ' H' ρ') (hF : ∀ b, F' b → F b ∨ Own σ0 ρ0 b ∨ H b = none) :
    EPost K F' σ0 H ρ0 H' (backD P ρ' ρ0) ∧ ∀ b, Own σ0 (backD P ρ' ρ0) b → Own σ' ρ' b := by
  have same : ∀ {i : Nat} {v : V}, i ∈ P → σ0[i]? = some (some v) → σ'[i]? = some (some v) := fun {i v} hi e => by
    rw [p.pin i hi]
    exact get_pad.mpr e
  have s1 : ∀ b, Own σ0 (backD P ρ' ρ0) b → Own σ' ρ' b := fun b ⟨i, d, h1, h2⟩ => by
    rcases backD_get h1 with ⟨_, q, _⟩ | ⟨d0, d', q, q1, q2, q3⟩
    · cases q
    · exact ⟨i, d', q3, same q2 h2⟩
  have s2 : ∀ b, Own σ0 (backD P ρ' ρ0) b → Own σ0 ρ0 b := fun b ⟨i, d, h1, h2⟩ => by
    rcases backD_get h1 with ⟨_, q, _⟩ | ⟨d0, d', q, q1, q2, q3⟩
    · cases q
    · exact ⟨i, d0, q1, h2⟩
  have x : Ext (Own σ0 ρ0) H H' := fun a o h n => p.ext a o h fun z => n ((own_pad a).mp z)
  have st : ∀ b, OF F' σ0 (backD P ρ' ρ0) b → OF F σ0 ρ0 b ∨ H b = none := fun b z => by
    rcases z with z | z
    · rcases hF b z with z | z | z
      · exact .inl (.inl z)
      · exact .inl (.inr z)
      · exact .inr z
    · exact .inl (.inr (s2 b z))
  refine ⟨⟨⟨by unfold backD; rw [List.length_mapIdx]; exact r.len, fun i d hd => ?_, fun i d hd => ?_, fun i j d e a hi hj h1 h2 => ?_, fun b z => ⟨(p.rel.fre b z).1, fun q => (p.rel.fre b z).2 (s1 b q)⟩⟩, x, s2⟩, s1⟩
  · rcases backD_get hd with ⟨d0, q, q1⟩ | ⟨d0, d', q, _⟩
    · cases q
      obtain ⟨v, e1, e2⟩ := r.val i d q1
      exact ⟨v, e1, e2.step x.of st⟩
    · cases q
  · rcases backD_get hd with ⟨d0, q, q1⟩ | ⟨d0, d', q, q1, q2, q3⟩
    · cases q
    · cases q
      obtain ⟨a, e1, _⟩ := r.mt i d0 q1
      obtain ⟨a', e1', t⟩ := p.rel.mt i d q3
      rw [same q2 e1] at e1'
      cases e1'
      exact ⟨a, e1, t.step Ext.refl (fun _ q => q) fun b z => .inl (z.imp id (s1 b))⟩
  · rcases backD_get hi with ⟨_, q, _⟩ | ⟨d0, d', q, q1, q2, q3⟩
    · cases q
    · rcases backD_get hj with ⟨_, q', _⟩ | ⟨d0', d'', q', q1', q2', q3'⟩
      · cases q'
      · exact r.inj i j _ _ a q1 q1' h1 h2
/-- a def's body does what its promise says -/
theorem run_body {n k : Nat} {N : List Str} {P : List Nat} {t : TS} {b : MS} {vs : List V} {Q : VK} {E : XK} (hN : N.length = n + k) (h : DenS K P t b) (hs : spD K n (mDef n k P b) vs H Q E) : t { nx := fun _ H' => Q .non H', rt := Q } (start N vs) H := by
  obtain ⟨hl, F, ρ0, ρ1, s, r, e, q⟩ := hs
  obtain ⟨hz, e⟩ := Rs.of_grd e
  obtain ⟨⟨fl, ρ'⟩, e1, e⟩ := Rs.of_bind e
  rw [start_pad, show N.length - vs.length = k by omega]
  refine h F H _ _ ρ' fl _ (r.pad k) e1 ?_
  match fl, e with
  | .nx, e =>
    cases e
    intro σ' H' p
    obtain ⟨a, b⟩ := def_back r p fun _ z => .inl z
    exact q .non H' a .non
  | .rt (.val d), e =>
    cases e
    intro σ' H' v p rp
    obtain ⟨a, b⟩ := def_back r p fun _ z => .inl z
    exact q v H' a (rp.less fun c z => z.imp id (b c))
  | .rt (.own d), e =>
    cases e
    intro σ' H' x p n o t
    have o' : Own (vs.map some) ρ0 x ∨ H x = none := o.imp (own_pad x).mp id
    obtain ⟨a, b⟩ := def_back r p fun c z => z.elim .inl fun z => .inr (z ▸ o')
    exact q x H' a n o' (t.step Ext.refl (fun _ q => q) fun c z => .inl (z.imp id (b c)))
/-! ### calls -/
def vals (ds : List D) : DE := ds.map fun d => some (.val d)
theorem vals_own {ds : List D} {i : Nat} {d : D} (h : (vals ds)[i]? = some (some (.own d))) : False := by
  unfold vals at h
  rw [List.getElem?_map] at h
  cases e : ds[i]? with
  | none => rw [e] at h; cases h
  | some x => rw [e] at h; cases h
theorem rel_vals {O : Addr → Prop} (hO : ∀ b, O b → H b ≠ none) {vs : List V} {ds : List D} (r : RpAll K O H vs ds) : Rel K O H (vs.map some) (vals ds) := by
  have no : ∀ b, ¬ Own (vs.map some) (vals ds) b := fun b ⟨i, d, h1, _⟩ => vals_own h1
  refine ⟨by unfold vals; rw [List.length_map, List.length_map, r.len], fun i d hd => ?_, fun i d hd => (vals_own hd).elim, fun i j d e a hi => (vals_own hi).elim, fun b z => ⟨hO b z, no b⟩⟩
  unfold vals at hd
  rw [List.getElem?_map] at hd
  cases e : ds[i]? with
  | none => rw [e] at hd; cases hd
  | some x =>
    rw [e] at hd
    cases hd
    obtain ⟨v, e1, e2⟩ := r.get e
    exact ⟨v, by rw [List.getElem?_map, e1]; rfl, e2.less fun b z => z.elim id fun z => (no b z).elim⟩
/-- a call, all by value -/
def mCall (f : SM Slot) (ms : SM (List D)) : SM Slot := fun ρ => (ms ρ).bind fun p => (f (vals p.1)).bind fun q => .ok (q.1, p.2)
theorem dr_call {n : Nat} {f : SM Slot} {tr : TA} {ms : SM (List D)} {E : XK} (hn : ∀ ρ q, f ρ = .ok q → ρ.length = n) (h : DenL K tr ms) : DenR K (tCall (spD K n f) [] E tr) (mCall f ms) := fun F H σ ρ ρ' s Q r e q => by
  obtain ⟨⟨ds, ρ1⟩, e1, e⟩ := Rs.of_bind e
  obtain ⟨⟨s1, ρ2⟩, e2, e⟩ := Rs.of_bind e
  cases e
  refine h F H σ ρ _ ds _ r e1 fun vs H1 p rp => ?_
  have hl := hn _ _ e2
  unfold vals at hl
  rw [List.length_map] at hl
  rw [List.append_nil]
  have no : ∀ b, ¬ Own (vs.map some) (vals ds) b := fun b ⟨i, d, h1, _⟩ => vals_own h1
  refine ⟨by rw [rp.len]; exact hl, OF F σ ρ1, vals ds, ρ2, _, rel_vals (fun b => p.rel.of_some) rp, e2, ?_⟩
  show RWant K (OF F σ ρ1) (List.map some vs) H1 (vals ds) ρ2 Q s1
  change RWant K F σ H ρ ρ1 Q s1 at q
  cases s1 with
  | val d =>
    intro v H' a rv
    have x : Ext0 H1 H' := fun b o hb => a.ext b o hb (no b)
    exact q v H' (p.new x) (rv.less fun b z => .inl z)
  | own d =>
    intro x H' a nx o t
    have e0 : Ext0 H1 H' := fun b o hb => a.ext b o hb (no b)
    have hx : H1 x = none := o.resolve_left (no x)
    refine q x H' ⟨p.rel.addF hx e0 t.ne, fun b o z nn => e0 b o (p.ext b o z nn), p.sub⟩ (fun z => nx (.inl z)) (p.back0 hx) (t.step Ext.refl (fun _ q => q) fun b z => ?_)
    rcases z with (z | z) | z
    · exact .inl (.inl (.inl (.inl z)))
    · exact .inl (.inl (.inr z))
    · exact .inl (.inl (.inl (.inr z)))
/-- a call, the first argument a name whose thing the callee may change -/
def mCallO (f : SM Slot) (j : Nat) (ms : SM (List D)) : SM Slot := fun ρ => match ρ[j]? with
  | some (some (.own _)) => (ms ρ).bind fun p => match p.2[j]? with
    | some (some (.own d)) => (f (some (.own d) :: vals p.1)).bind fun q => match q.2 with
      | some (.own d') :: _ => .ok (q.1, p.2.set j (some (.own d')))
      | _ => .stuck
    | _ => .stuck
  | _ => .stuck
theorem dr_callO {n j : Nat} {f : SM Slot} {tr : TA} {ms : SM (List D)} {E : XK} (hn : ∀ ρ q, f ρ = .ok q → ρ.length = n) (h : DenL K tr ms) : DenR K (tCall (spD K n f) [] E (tCons (tVar j) tr)) (mCallO f j ms) := fun F H σ ρ ρ' s Q r e q => by
  unfold mCallO at e
  split at e
  · rename_i d0 o0
    obtain ⟨⟨ds, ρ1⟩, e1, e⟩ := Rs.of_bind e
    simp only at e
    split at e
    · rename_i d1 o1
      obtain ⟨⟨s1, ρ2⟩, e2, e⟩ := Rs.of_bind e
      simp only at e
      split at e
      · rename_i d' rest
        cases e
        obtain ⟨a, ha, _⟩ := r.mt j d0 o0
        refine ⟨_, ha, h F H σ ρ _ ds _ r e1 fun vs H1 p rp => ?_⟩
        obtain ⟨a', ha', t1⟩ := p.rel.mt j d1 o1
        rw [ha] at ha'
        cases ha'
        have hl := hn _ _ e2
        have oa : Own σ ρ1 a := ⟨j, d1, o1, ha⟩
        have own0 : ∀ b, Own ((V.ref a :: vs).map some) (some (.own d1) :: vals ds) b → b = a := fun b ⟨i, d, h1, h2⟩ => by
          cases i with
          | zero =>
            have h2' : some (some (V.ref a)) = some (some (V.ref b)) := h2
            cases h2'
            rfl
          | succ i => exact (vals_own (by simpa using h1)).elim
        have fo : ∀ b, OF (fun b => OF F σ ρ1 b ∧ b ≠ a) ((V.ref a :: vs).map some) (some (.own d1) :: vals ds) b → OF F σ ρ1 b := fun b z => by
          rcases z with z | z
          · exact z.1
          · rw [own0 b z]; exact .inr oa
        have r0 : Rel K (fun b => OF F σ ρ1 b ∧ b ≠ a) H1 ((V.ref a :: vs).map some) (some (.own d1) :: vals ds) := by
          refine ⟨?_, fun i d hd => ?_, fun i d hd => ?_, fun i k d e b hi hk h1 h2 => ?_, fun b z => ⟨p.rel.of_some z.1, fun y => z.2 (own0 b y)⟩⟩
          · unfold vals
            simp [rp.len]
          · cases i with
            | zero =>
              have hd' : some (some (Slot.own d1)) = some (some (Slot.val d)) := hd
              cases hd'
            | succ i =>
              have hd' : (vals ds)[i]? = some (some (.val d)) := by simpa using hd
              obtain ⟨v, q1, q2⟩ := (rel_vals (fun b => p.rel.of_some) rp).val i d hd'
              refine ⟨v, by simpa using q1, q2.less fun b z => .inl (fo b z)⟩
          · cases i with
            | zero =>
              have hd' : some (some (Slot.own d1)) = some (some (Slot.own d)) := hd
              cases hd'
              exact ⟨a, rfl, t1.step Ext.refl (fun _ q => q) fun b z => .inl (fo b z)⟩
            | succ i => exact (vals_own (by simpa using hd)).elim
          · cases i with
            | zero =>
              cases k with
              | zero => rfl
              | succ k => exact (vals_own (by simpa using hk)).elim
            | succ i => exact (vals_own (by simpa using hi)).elim
        show spD K n f (V.ref a :: vs ++ []) H1 Q E
        rw [List.append_nil]
        refine ⟨?_, _, _, _, _, r0, e2, ?_⟩
        · unfold vals at hl
          simp only [List.length_cons, List.length_map] at hl
          rw [List.length_cons, rp.len]
          exact hl
        · have step : ∀ {F2 : Addr → Prop} {H' : Hp}, EPost K F2 ((V.ref a :: vs).map some) H1 (some (.own d1) :: vals ds) H' (some (.own d') :: rest) → (∀ b, OF F σ ρ1 b ∧ b ≠ a → F2 b) → (∀ b, F2 b → (OF F σ ρ1 b ∧ b ≠ a) ∨ H1 b = none) →
              EPost K F σ H1 ρ1 H' (ρ1.set j (some (.own d'))) ∧ (∀ b, OF F σ (ρ1.set j (some (.own d'))) b → OF F2 ((V.ref a :: vs).map some) (some (.own d') :: rest) b) ∧ ∀ b o, b ≠ a → H1 b = some o → H' b = some o := fun {F2 H'} pp hF hF2 => by
            have nx : ∀ b o, b ≠ a → H1 b = some o → H' b = some o := fun b o nb hb => pp.ext b o hb fun z => nb (own0 b z)
            obtain ⟨a2, ha2, t2⟩ := pp.rel.mt 0 d' rfl
            have ha2' : some (some (V.ref a)) = some (some (V.ref a2)) := ha2
            cases ha2'
            have incl : ∀ b, OF F σ ρ1 b → OF F2 ((V.ref a :: vs).map some) (some (Slot.own d') :: rest) b := fun b z => by
              by_cases hb : b = a
              · exact .inr ⟨0, d', rfl, by rw [hb]; rfl⟩
              · exact .inl (hF b ⟨z, hb⟩)
            have tr := p.rel.turn o1 ha nx (t2.step Ext.refl (fun _ q => q) fun b z => .inl (incl b z))
            exact ⟨tr, fun b z => incl b (z.imp id (tr.sub b)), nx⟩
          cases s with
          | val d =>
            intro v H' pp rv
            obtain ⟨tr, incl, _⟩ := step pp (fun _ z => z) fun _ z => .inl z
            exact q v H' (p.trans tr) (rv.less incl)
          | own d =>
            intro x H' pp nF o t
            have xa : x ≠ a := fun z => (pp.rel.fre x (.inr rfl)).2 ⟨0, d', rfl, by rw [z]; rfl⟩
            have hx : H1 x = none := o.resolve_left fun z => xa (own0 x z)
            obtain ⟨tr, incl, nx⟩ := step pp (fun _ z => .inl z) fun b z => Or.imp id (fun z => by rw [z]; exact hx) z
            have e0 : ∀ b, OF (fun b => F b ∨ b = x) σ (ρ1.set j (some (.own d'))) b → OF (fun b => (OF F σ ρ1 b ∧ b ≠ a) ∨ b = x) ((V.ref a :: vs).map some) (some (.own d') :: rest) b := fun b z => by
              rcases z with (z | z) | z
              · exact incl b (.inl z)
              · exact .inl (.inr z)
              · exact incl b (.inr z)
            have tx : Top K (OF (fun b => F b ∨ b = x) σ (ρ1.set j (some (.own d')))) H' x d := t.step Ext.refl (fun _ q => q) fun b z => .inl (e0 b z)
            have nOwn : ¬ Own σ (ρ1.set j (some (.own d'))) x := fun z => p.rel.own_some (tr.sub x z) hx
            have nFx : ¬ F x := fun z => (p.rel.fre x z).1 hx
            have R : Rel K (fun b => F b ∨ b = x) H' σ (ρ1.set j (some (.own d'))) := by
              refine ⟨tr.rel.len, fun i d hd => ?_, fun i e hd => ?_, tr.rel.inj, fun b z => ?_⟩
              · by_cases hij : j = i
                · subst hij
                  rw [List.getElem?_set_self (get_lt o1)] at hd
                  cases hd
                · rw [List.getElem?_set_ne hij] at hd
                  obtain ⟨v, q1, q2⟩ := p.rel.val i d hd
                  refine ⟨v, q1, q2.step (O := OF F σ ρ1) (fun b o hb n => nx b o (fun z => n (.inr (z ▸ oa))) hb) fun b z => ?_⟩
                  rcases z with (z | z) | z
                  · exact .inl (.inl z)
                  · exact .inr (z ▸ hx)
                  · exact .inl (.inr (tr.sub b z))
              · by_cases hij : j = i
                · subst hij
                  rw [List.getElem?_set_self (get_lt o1)] at hd
                  cases hd
                  obtain ⟨a2, ha2, t2⟩ := pp.rel.mt 0 d' rfl
                  have ha2' : some (some (V.ref a)) = some (some (V.ref a2)) := ha2
                  cases ha2'
                  exact ⟨a, ha, t2.step Ext.refl (fun _ q => q) fun b z => .inl (e0 b z)⟩
                · rw [List.getElem?_set_ne hij] at hd
                  obtain ⟨b, q1, q2⟩ := p.rel.mt i e hd
                  have nb : b ≠ a := fun z => hij (p.rel.inj j i d1 e a o1 hd ha (by rw [← z]; exact q1))
                  refine ⟨b, q1, q2.step (fun c o hc n => nx c o (fun z => n (.inr (z ▸ oa))) hc) (fun o hc => nx b o nb hc) fun c z => ?_⟩
                  rcases z with (z | z) | z
                  · exact .inl (.inl z)
                  · exact .inr (z ▸ hx)
                  · exact .inl (.inr (tr.sub c z))
              · rcases z with z | z
                · exact tr.rel.fre b z
                · subst z
                  exact ⟨t.ne, nOwn⟩
            exact q x H' ⟨R, fun b o z nn => tr.ext b o (p.ext b o z nn) fun y => nn (p.sub b y), fun b z => p.sub b (tr.sub b z)⟩ nFx (p.back0 hx) tx
      · cases e
    · cases e
  · cases e
theorem mDef_len {n k : Nat} {P : List Nat} {b : MS} (ρ : DE) (q : Slot × DE) (h : mDef n k P b ρ = .ok q) : ρ.length = n := (Rs.of_grd h).1
end
end
end DL
namespace DL
open PySem PySem.Spec PyProof.Rows L2
noncomputable section
/-! ### defs of the module -/
structure DefF (K : PySem.W.Frag) (mg : Str → Option Value) (x : Str) (st : Stmt) (ps : List Str) : Prop where
  ex : ∃ f fd, Fun K x x st f fd ∧ mg x = some (.ref f) ∧ Binds K fd ps []
structure CalD (P : Program) (w : World) (K : PySem.W.Frag) (mg : Str → Option Value) (base : Heap) (k : Nat) (x : Str) (n : Nat) (m : SM Slot) : Prop where
  ex : ∃ (f : Addr) (fd : FuncData) (ps : List Str), FnOk P w K mg base CX0 k f fd ps (spD K n m) ∧ mg x = some (.ref f) ∧ PySem.W.keepIn K (.ref f) = true ∧ Binds K fd ps []
section
variable {P : Program} {w : World} {K : PySem.W.Frag} {mg : Str → Option Value} {base : Heap} {x : Str} {st : Stmt} {ps N : List Str} {n j k : Nat} {p : List Nat} {b : MS}
theorem fnD_of {f : Addr} {fd : FuncData} (F : Fun K x x st f fd) (S : FnScope N ps (defScope st)) (hp : ps.length = n) (hN : N.length = n + j)
    (hb : ∀ (cdv : Value) (A : Around) (outer : List Env) (s : Shared) (H : Hp) (E : XK), Room k (A.deeper (envOfC x (defScope st) s.heap.objs.size f cdv)) →
      ∃ t, PSs (cxOf CX0 P w K mg base N x (defScope st) f cdv A outer s H E).nox (defBody st) t ∧ DenS K p t b) : FnOk P w K mg base CX0 (k + 1) f fd ps (spD K n (mDef n j p b)) := by
  refine F.ok S (fun vs H Q E h => h.1.trans hp.symm) (fun cdv A outer s H vs Q E hr h => ?_)
  obtain ⟨t, h1, h2⟩ := hb cdv A outer s H E hr
  exact ⟨t, h1, run_body hN h2 h⟩
theorem calD_of (D : DefF K mg x st ps) (S : FnScope N ps (defScope st)) (hp : ps.length = n) (hN : N.length = n + j)
    (hb : ∀ (f : Addr) (cdv : Value) (A : Around) (outer : List Env) (s : Shared) (H : Hp) (E : XK), Room k (A.deeper (envOfC x (defScope st) s.heap.objs.size f cdv)) →
      ∃ t, PSs (cxOf CX0 P w K mg base N x (defScope st) f cdv A outer s H E).nox (defBody st) t ∧ DenS K p t b) : CalD P w K mg base (k + 1) x n (mDef n j p b) := by
  obtain ⟨f, fd, F, g, bd⟩ := D.ex
  exact ⟨f, fd, ps, fnD_of F S hp hN (hb f), g, F.kp, bd⟩
/-- no promise -/
theorem calD_0 (D : DefF K mg x st ps) (S : FnScope N ps (defScope st)) (hp : ps.length = n) : CalD P w K mg base (k + 1) x n (fun _ => .stuck) := by
  obtain ⟨f, fd, F, g, bd⟩ := D.ex
  refine ⟨f, fd, ps, F.ok S (fun vs H Q E h => h.1.trans hp.symm) (fun cdv A outer s H vs Q E hr h => ?_), g, F.kp, bd⟩
  obtain ⟨_, _, _, _, _, _, e, _⟩ := h
  cases e
theorem CalD.mono {m : SM Slot} {i : Nat} (c : CalD P w K mg base i x n m) (h : i ≤ k) : CalD P w K mg base k x n m := by
  obtain ⟨f, fd, ps, F, r⟩ := c.ex
  exact ⟨f, fd, ps, F.mono h, r⟩
end
section
variable {X : Cx} {k j n : Nat} {x : Str} {m : SM Slot} {p pos : Pos} {e : Expr} {es : List Expr} {t : TA}
theorem pe_cD (c : CalD X.prog X.w X.K X.mg X.base k x n m) (hr : Room j X.A) (hk : k ≤ j) (hg : Gl X x) (ha : PA X (e :: es) t)
    (hdb : (x == ("__debug__" : Str)) = false := by decide) (he : starEach (e :: es) X.env = (false, eval e X.env) :: starEach es X.env := by rfl) (hpl : (backTo pos (starEach es X.env)).any (·.1) = false := by rfl) :
    PE X (.Call (.Name x p) (e :: es) [] pos) (tCall (spD X.K n m) [] E0 t) := by
  obtain ⟨f, fd, ps, F, hm, kp, b⟩ := c.ex
  exact pe_call F (hr.mono hk) hg hm kp b .nil pass0 ha hdb he hpl
theorem pe_cD0 (c : CalD X.prog X.w X.K X.mg X.base k x n m) (hr : Room j X.A) (hk : k ≤ j) (hg : Gl X x) (hdb : (x == ("__debug__" : Str)) = false := by decide) :
    PE X (.Call (.Name x p) [] [] pos) (tCall (spD X.K n m) [] E0 tNil) := by
  obtain ⟨f, fd, ps, F, hm, kp, b⟩ := c.ex
  exact pe_call0 F (hr.mono hk) hg hm kp b .nil pass0 hdb
theorem Room.u65 {A : Around} (r : Room k A) : A.units + 65 < cLine := by have := r.un; omega
theorem Room.u1 {A : Around} (r : Room k A) : A.units + 1 < cLine := by have := r.un; omega
theorem Room.u64 {A : Around} (r : Room k A) : A.units + 64 < cLine := by have := r.un; omega
end
section
variable {K : PySem.W.Frag} {h : Heap} {mg : Str → Option Value} {x : Str} {st : Stmt} {ps : List Str} {f : Addr} {oc : Value} {od an : Option Addr} {osl : Array (Option Value)} {kV dc pm cd ct : Value}
theorem defF_mk (X : K.In h) (G : h.Ns mainGlobals mg) (a : PySem.W.nsIn K mainGlobals x = some (some (.ref f))) (l : K.lookup f = some ⟨oc, od, .func (PySem.W.fnOf x x (defArgs st) (defBody st) (defScope st) .none kV dc pm an cd ct), osl⟩)
    (c : PySem.W.codeIn K cd x = true) (k : PySem.W.keepIn K (.ref f) = true)
    (b : ∀ (kV doc pm : Value) (an : Option Addr) (cdv ct : Value) (us : List Value), us.length = ps.length → bindArgs (PySem.W.fnOf x x (defArgs st) (defBody st) (defScope st) .none kV doc pm an cdv ct) ⟨us, []⟩ = pure (ps.zip us)) : DefF K mg x st ps := by
  have F := fun_mk (st := st) l c k
  exact ⟨f, _, F, PySem.W.mg_of X G a, F.binds b⟩
/-- the law itself -/
structure DefL (K : PySem.W.Frag) (x : Str) (st : Stmt) (f : Addr) (q : Str) : Prop where
  ex : ∃ fd, Fun K x x st f fd ∧ ∀ (s : Shared) (v : Value), BindsTo s fd ⟨[v], []⟩ [(q, v)]
theorem defL_mk {q : Str} {fa : Addr} (X : K.In h) (G : h.Ns mainGlobals mg) (hfa : mg x = some (.ref fa)) (a : PySem.W.nsIn K mainGlobals x = some (some (.ref f))) (l : K.lookup f = some ⟨oc, od, .func (PySem.W.fnOf x x (defArgs st) (defBody st) (defScope st) .none kV dc pm an cd ct), osl⟩)
    (c : PySem.W.codeIn K cd x = true) (k : PySem.W.keepIn K (.ref f) = true)
    (b : ∀ (kV doc pm : Value) (an : Option Addr) (cdv ct v : Value), bindArgs (PySem.W.fnOf x x (defArgs st) (defBody st) (defScope st) .none kV doc pm an cdv ct) ⟨[v], []⟩ = pure [(q, v)]) : DefL K x st fa q := by
  have F := fun_mk (st := st) l c k
  have e := hfa.symm.trans (PySem.W.mg_of X G a)
  cases e
  exact ⟨_, F, fun s v => .of_eq (b kV dc pm an cd ct v)⟩
theorem law_mk {P : Program} {w : World} {N : List Str} {j k : Nat} {p : List Nat} {b : MS} {q : Str} (D : DefL K x st f q) (S : FnScope N [q] (defScope st)) (hN : N.length = 1 + j)
    (hb : ∀ (base : Heap) (cdv : Value) (A : Around) (outer : List Env) (s : Shared) (H : Hp) (E : XK), Room k (A.deeper (envOfC x (defScope st) s.heap.objs.size f cdv)) →
      ∃ t, PSs (cxOf CX0 P w K mg base N x (defScope st) f cdv A outer s H E).nox (defBody st) t ∧ DenS K p t b) :
    ∃ fd : FuncData, (∀ (s : Shared) (v : Value), BindsTo s fd ⟨[v], []⟩ [(q, v)]) ∧ ∀ base : Heap, K.In base → base.Ns mainGlobals mg → FnOk P w K mg base CX0 (k + 1) f fd [q] (spD K 1 (mDef 1 j p b)) := by
  obtain ⟨fd, F, hbd⟩ := D.ex
  exact ⟨fd, hbd, fun base _ _ => fnD_of F S rfl hN (hb base)⟩
/-- a name of the module that holds a plain value -/
def Glb (mg : Str → Option Value) (x : Str) (v : V) : Prop := ∃ u, mg x = some u ∧ RelV v u
theorem glb_int {i : Int} {t : Tok} (X : K.In h) (G : h.Ns mainGlobals mg) (a : PySem.W.nsIn K mainGlobals x = some (some (.int i t))) : Glb mg x (.int i) := ⟨_, PySem.W.mg_of X G a, t, rfl⟩
theorem glb_str {i : Str} {t : Tok} (X : K.In h) (G : h.Ns mainGlobals mg) (a : PySem.W.nsIn K mainGlobals x = some (some (.str i t))) : Glb mg x (.str i) := ⟨_, PySem.W.mg_of X G a, t, rfl⟩
theorem pe_g {X : Cx} {v : V} {pos : Pos} (h : Glb X.mg x v) (hg : Gl X x := by rfl) (hd : (x == ("__debug__" : Str)) = false := by decide) : PE X (.Name x pos) (tC v) := by
  obtain ⟨u, hm, r⟩ := h
  exact pe_glob hg hm r hd
/-- the law's promise from its mirror -/
theorem law_sp {H : Hp} {a : Addr} {ns : List Int} {m : SM Slot} {E : XK} (hS : SqL K H a (ns.map V.int)) (hm : ∃ ρ1, m [some (.val (.list (ns.map .int)))] = .ok (.val (.bool true), ρ1)) : spD K 1 m [.ref a] H (fun v _ => v = .bl true) E := by
  obtain ⟨ρ1, e⟩ := hm
  have rp : Rp K (fun _ => False) H (.ref a) (.list (ns.map .int)) := .lst (by
    rcases hS with h | h
    · exact .inl ⟨fun z => z, h⟩
    · exact .inr (.inr h)) (RpAll.ints ns)
  have rr : Rel K (fun _ => False) H ([V.ref a].map some) (vals [.list (ns.map .int)]) := rel_vals (fun b z => z.elim) (.cons rp .nil)
  exact ⟨rfl, _, _, ρ1, _, rr, e, fun v H' _ r => by cases r; rfl⟩
end
/-! ### built-in names -/
theorem bt_len : bootBuiltins "len" = some (.builtin "len") := by decide +kernel
theorem bt_all : bootBuiltins "all" = some (.builtin "all") := by decide +kernel
theorem bt_any : bootBuiltins "any" = some (.builtin "any") := by decide +kernel
theorem bt_sum : bootBuiltins "sum" = some (.builtin "sum") := by decide +kernel
theorem bt_sorted : bootBuiltins "sorted" = some (.builtin "sorted") := by decide +kernel
theorem bt_min : bootBuiltins "min" = some (.builtin "min") := by decide +kernel
theorem bt_max : bootBuiltins "max" = some (.builtin "max") := by decide +kernel
theorem bt_abs : bootBuiltins "abs" = some (.builtin "abs") := by decide +kernel
theorem bt_isinstance : bootBuiltins "isinstance" = some (.builtin "isinstance") := by decide +kernel
theorem bt_int : bootBuiltins "int" = some (.type "int") := by decide +kernel
theorem bt_bool : bootBuiltins "bool" = some (.type "bool") := by decide +kernel
theorem bt_str : bootBuiltins "str" = some (.type "str") := by decide +kernel
theorem bt_list : bootBuiltins "list" = some (.type "list") := by decide +kernel
theorem bt_tuple : bootBuiltins "tuple" = some (.type "tuple") := by decide +kernel
theorem bt_dict : bootBuiltins "dict" = some (.type "dict") := by decide +kernel
theorem bt_set : bootBuiltins "set" = some (.type "set") := by decide +kernel
/-- a built-in type as a value -/
theorem pe_ty {X : Cx} {x : Str} {T : String} {pos : Pos} (hm : X.mg x = none) (hv : bootBuiltins x = some (.type T)) (hg : Gl X x := by rfl) (hn : x ≠ "__name__" := by decide) (hd : (x == ("__debug__" : Str)) = false := by decide) : PE X (.Name x pos) (tC (.ty T)) :=
  pe_bltn hg hm hv rfl hn hd
end
end DL
namespace DL
open PySem PySem.Spec PyProof.Rows L2
noncomputable section
section
variable {K : PySem.W.Frag}
def mYes : SM Bool := fun ρ => .ok (true, ρ)
theorem dt_yes : DenT K tYes mYes := fun F H σ ρ ρ' b Q r e q => by
  cases e
  exact q H (.refl r)
/-! ### str(x) -/
def rStrA : List V → Hp → VK → Prop := fun xs H Q => (∃ i, xs = [.int i] ∧ i.natAbs.log2 < 1920 ∧ Q (.str (toString i)) H) ∨ ∃ a, xs = [.str a] ∧ Q (.str a) H
theorem call_strA {X : Cx} : CallR X (.type "str") rStrA := CallR.or call_str_int SkE.call_str_str
def dStr : D → Rs D
  | .int i => Rs.grd (i.natAbs.log2 < 1920) (.ok (.str (toString i)))
  | .str x => .ok (.str x)
  | _ => .stuck
theorem c1_str : C1 K rStrA dStr := fun O H x dx z Q hO h1 e q => by
  unfold dStr at e
  split at e
  · obtain ⟨h, e⟩ := Rs.of_grd e
    cases e
    cases con_int h1
    exact .inl ⟨_, rfl, h, q _ H Ext0.refl (.str _)⟩
  · cases e
    cases con_str h1
    exact .inr ⟨_, rfl, q _ H Ext0.refl (.str _)⟩
  · cases e
/-! ### sorted(a dict of ints) -/
def isort (ns : List Int) : List Int := ns.mergeSort fun a b => decide (a ≤ b)
theorem isort_perm (ns : List Int) : (isort ns).Perm ns := List.mergeSort_perm ..
theorem isort_le (ns : List Int) : (isort ns).Pairwise (· ≤ ·) := by
  have := List.pairwise_mergeSort (le := fun a b : Int => decide (a ≤ b)) (fun a b c h1 h2 => by simp at *; omega) (fun a b => by simp; omega) ns
  exact this.imp fun h => by simpa using h
theorem isort_of {ns ms : List Int} (h : ms.Perm ns) (hs : ms.Pairwise (· ≤ ·)) : ms = isort ns :=
  List.Perm.eq_of_pairwise (fun a b _ _ h1 h2 => Int.le_antisymm h1 h2) hs (isort_le ns) (h.trans (isort_perm ns).symm)
def rSortDI : List V → Hp → VK → Prop := fun xs H Q => ∃ (a : Addr) (kvs : List (Key × V)) (ks : List Int), xs = [.ref a] ∧ Rd H a (.dK kvs) ∧ kvs.map (·.1) = ks.map Sum.inl ∧ ks.length < 64 ∧
    ∀ (ys : List Int) (p : Addr), ys.Perm ks → ys.Pairwise (· ≤ ·) → H p = none → Q (.ref p) (upd H p (.lst (ys.map V.int)))
def rSortA (K : PySem.W.Frag) : List V → Hp → VK → Prop := fun xs H Q => rSortedD K xs H Q ∨ rSortDI xs H Q
theorem call_sortA {X : Cx} (hc : X.calm = true) (hu : X.A.units + 64 < cLine) : CallR X (.builtin "sorted") (rSortA X.K) := CallR.or (cr_sortedD hu) (call_sortedDI hc)
def dSortA : D → Rs D
  | .dict es => (ofO (intsOf (es.map (·.1)))).bind fun ks => Rs.grd (ks.length < 64) (.ok (.list ((isort ks).map .int)))
  | d => dSorted d
theorem keys_int : ∀ {kvs : List (Key × V)} {es : List (D × D)} {ks : List Int}, es.map (·.1) = kvs.map (fun p => keyD p.1) → es.map (·.1) = ks.map PyData.int → kvs.map (·.1) = ks.map Sum.inl
  | [], [], [], _, _ => rfl
  | [], _ :: _, _, h, _ => by cases h
  | _ :: _, [], _, h, _ => by cases h
  | [], [], _ :: _, _, h => by cases h
  | _ :: _, _ :: _, [], _, h => by cases h
  | p :: kvs, q :: es, k :: ks, h, h2 => by
    rw [List.map_cons, List.map_cons] at h h2
    injection h with a1 a2
    injection h2 with b1 b2
    rw [List.map_cons, List.map_cons, keys_int a2 b2]
    congr 1
    rw [b1] at a1
    cases e : p.1 with
    | inl i => rw [e] at a1; cases a1; rfl
    | inr x => rw [e] at a1; cases a1
theorem c1f_sort : C1F K (rSortA K) dSortA := fun O H x dx z Q hO h1 e q => by
  unfold dSortA at e
  split at e
  · rename_i es
    obtain ⟨ks, e1, e⟩ := Rs.of_bind e
    obtain ⟨hz, e⟩ := Rs.of_grd e
    cases e
    have ek := intsOf_eq (ofO_ok e1)
    obtain ⟨a, rfl, h⟩ := h1
    rcases h with ⟨kvs, g1, g2, g3⟩ | ⟨kvs, es', e0, _⟩
    · refine .inr ⟨a, kvs, ks, rfl, .inl g1, keys_int g2 ek, hz, fun ys p hp hs np => ?_⟩
      rw [isort_of hp hs]
      exact q p _ np (Ext0.new np) (top_new np (RpAll.ints _))
    · subst e0
      cases ks with
      | nil => cases ek
      | cons k ks =>
        rw [List.map_cons, List.map_cons] at ek
        injection ek with ek _
        cases ek
  · exact .inl (c1f_sorted O H x _ z Q hO h1 e q)
/-! ### += -/
theorem iop_addA {X : Cx} : OpR X (inplaceOp .Add) (rI0 fun i j => .int (i + j)) := iop_add
def dAddI : D → D → Rs D
  | .int a, .int b => .ok (.int (a + b))
  | _, _ => .stuck
theorem oc_addI : OpC K (rI0 fun i j => .int (i + j)) dAddI := OpC.int fun a b z e => by
  unfold dAddI at e
  split at e
  · cases e
    exact ⟨_, _, rfl, rfl, rfl⟩
  · cases e
end
end
end DL
namespace DL
open PySem PySem.Spec PyProof.Rows L2
noncomputable section
/-! ### running mirrors -/
section
variable {α : Type} (ρ : DE)
@[simp] theorem x_grd {p : Prop} (x : Rs α) : Rs.grd p x = @ite _ p (Classical.propDecidable p) x .stuck := rfl
@[simp] theorem x_C (d : D) : mC d ρ = .ok (d, ρ) := rfl
@[simp] theorem x_nil : mNil ρ = .ok ([], ρ) := rfl
@[simp] theorem x_cons (m : SM D) (ms : SM (List D)) : mCons m ms ρ = (m ρ).bind fun p => (ms p.2).bind fun q => .ok (p.1 :: q.1, q.2) := rfl
theorem x_var_val {i : Nat} {d : D} (h : ρ[i]? = some (some (.val d))) : mVar i ρ = .ok (d, ρ) := by unfold mVar; rw [h]
theorem x_var_own {i : Nat} {d : D} (h : ρ[i]? = some (some (.own d))) : mVar i ρ = .ok (d, ρ.set i (some (.val d))) := by unfold mVar; rw [h]
theorem x_peek_of {i : Nat} {s : Slot} (h : ρ[i]? = some (some s)) : mPeek i ρ = .ok (s.d, ρ) := by unfold mPeek; rw [h]
@[simp] theorem x_var (i : Nat) : mVar i ρ = match ρ[i]? with
  | some (some (.val d)) => .ok (d, ρ)
  | some (some (.own d)) => .ok (d, ρ.set i (some (.val d)))
  | _ => .stuck := rfl
@[simp] theorem x_peek (i : Nat) : mPeek i ρ = match ρ[i]? with
  | some (some s) => .ok (s.d, ρ)
  | _ => .stuck := rfl
@[simp] theorem x_d_val (d : D) : (Slot.val d).d = d := rfl
@[simp] theorem x_d_own (d : D) : (Slot.own d).d = d := rfl
@[simp] theorem x_tup (ms : SM (List D)) : mTup ms ρ = (ms ρ).bind fun q => Rs.grd (sz q.1.length) (.ok (.tuple q.1, q.2)) := rfl
@[simp] theorem x_lst (ms : SM (List D)) : mLst ms ρ = (ms ρ).bind fun q => Rs.grd (sz q.1.length) (.ok (.list q.1, q.2)) := rfl
@[simp] theorem x_bin (f : D → D → Rs D) (ma mb : SM D) : mBin f ma mb ρ = (ma ρ).bind fun p => (mb p.2).bind fun q => (f p.1 q.1).bind fun z => .ok (z, q.2) := rfl
@[simp] theorem x_binP (f : D → D → Rs D) (i : Nat) (mb : SM D) : mBinP f i mb ρ = (mPeek i ρ).bind fun _ => (mb ρ).bind fun q => (mPeek i q.2).bind fun p => (f p.1 q.1).bind fun z => .ok (z, q.2) := rfl
@[simp] theorem x_un (f : D → Rs D) (ma : SM D) : mUn f ma ρ = (ma ρ).bind fun p => (f p.1).bind fun z => .ok (z, p.2) := rfl
@[simp] theorem x_rep (ma mb : SM D) : mRep ma mb ρ = (ma ρ).bind fun p => (mb p.2).bind fun q => match p.1, q.1 with
  | .list a, .int k => Rs.grd (repOk a.length k) (.ok (.list (List.replicate k.toNat a).flatten, q.2))
  | _, _ => .stuck := rfl
@[simp] theorem x_test (m : SM D) : mTest m ρ = (m ρ).bind fun p => (asB p.1).bind fun b => .ok (b, p.2) := rfl
@[simp] theorem x_tru (m : SM D) : mTru m ρ = (m ρ).bind fun p => (truD p.1).bind fun b => .ok (b, p.2) := rfl
@[simp] theorem x_andT (a b : SM Bool) : mAndT a b ρ = (a ρ).bind fun p => if p.1 = true then b p.2 else .ok (false, p.2) := rfl
@[simp] theorem x_orT (a b : SM Bool) : mOrT a b ρ = (a ρ).bind fun p => if p.1 = true then .ok (true, p.2) else b p.2 := rfl
@[simp] theorem x_notT (a : SM Bool) : mNotT a ρ = (a ρ).bind fun p => .ok (!p.1, p.2) := rfl
@[simp] theorem x_if (c : SM Bool) (a b : SM D) : mIf c a b ρ = (c ρ).bind fun p => if p.1 = true then a p.2 else b p.2 := rfl
@[simp] theorem x_and (a b : SM D) : mAnd a b ρ = (a ρ).bind fun p => (truD p.1).bind fun k => if k = true then b p.2 else .ok p := rfl
@[simp] theorem x_or (a b : SM D) : mOr a b ρ = (a ρ).bind fun p => (truD p.1).bind fun k => if k = true then .ok p else b p.2 := rfl
@[simp] theorem x_not (a : SM D) : mNot a ρ = (a ρ).bind fun p => (truD p.1).bind fun k => .ok (.bool (!k), p.2) := rfl
@[simp] theorem x_chain (f g : D → D → Rs D) (ma mb mc : SM D) : mChain f g ma mb mc ρ = (ma ρ).bind fun p => (mb p.2).bind fun q => (f p.1 q.1).bind fun z => (asB z).bind fun k =>
  if k = true then (mc q.2).bind fun u => (g q.1 u.1).bind fun z => .ok (z, u.2) else .ok (.bool false, q.2) := rfl
@[simp] theorem x_optN : SM.opt none ρ = .ok (none, ρ) := rfl
@[simp] theorem x_cut (m : SM D) (lo hi : Option (SM D)) : mCut m lo hi ρ = (m ρ).bind fun p => (SM.opt lo p.2).bind fun l => (SM.opt hi l.2).bind fun u => (dCut l.1 u.1 p.1).bind fun z => .ok (z, u.2) := rfl
@[simp] theorem x_cutP (i : Nat) (lo hi : Option (SM D)) : mCutP i lo hi ρ = (mPeek i ρ).bind fun _ => (SM.opt lo ρ).bind fun l => (SM.opt hi l.2).bind fun u => (mPeek i u.2).bind fun p => (dCut l.1 u.1 p.1).bind fun z => .ok (z, u.2) := rfl
@[simp] theorem x_seqI (m : SM D) : mSeq m ρ = (m ρ).bind fun p => (seqD p.1).bind fun ds => .ok (ds, p.2) := rfl
@[simp] theorem x_rng1 (m : SM D) : mRng1 m ρ = (m ρ).bind fun p => match p.1 with
  | .int j => Rs.grd (i62 j) (.ok (upD 0 j.toNat, p.2))
  | _ => .stuck := rfl
@[simp] theorem x_rng2 (m m' : SM D) : mRng2 m m' ρ = (m ρ).bind fun p => (m' p.2).bind fun q => match p.1, q.1 with
  | .int i, .int j => Rs.grd (i62 i ∧ i62 j) (.ok (upD i (j - i).toNat, q.2))
  | _, _ => .stuck := rfl
@[simp] theorem x_zip (m m' : SM D) : mZip m m' ρ = (m ρ).bind fun p => (m' p.2).bind fun q => match p.1, q.1 with
  | .list a, .list b => .ok (zipD a b, q.2)
  | .tuple a, .tuple b => .ok (zipD a b, q.2)
  | _, _ => .stuck := rfl
@[simp] theorem x_yes : mYes ρ = .ok (true, ρ) := rfl
@[simp] theorem x_V (m : SM D) : mV m ρ = (m ρ).bind fun p => .ok (.val p.1, p.2) := rfl
@[simp] theorem x_O (m : SM D) : mO m ρ = (m ρ).bind fun p => .ok (.own p.1, p.2) := rfl
@[simp] theorem x_D (m : SM Slot) : mD m ρ = (m ρ).bind fun p => .ok (p.1.d, p.2) := rfl
@[simp] theorem x_varR (i : Nat) : mVarR i ρ = match ρ[i]? with
  | some (some (.val d)) => .ok (.val d, ρ)
  | some (some (.own d)) => .ok (.own d, ρ.set i none)
  | _ => .stuck := rfl
@[simp] theorem x_setR (i : Nat) (m : SM Slot) : mSetR i m ρ = (m ρ).bind fun p => .ok (.nx, p.2.set i (some p.1)) := rfl
@[simp] theorem x_retR (me : SM Slot) : mRtR me ρ = (me ρ).bind fun p => .ok (.rt p.1, p.2) := rfl
@[simp] theorem x_call (f : SM Slot) (ms : SM (List D)) : mCall f ms ρ = (ms ρ).bind fun p => (f (vals p.1)).bind fun q => .ok (q.1, p.2) := rfl
@[simp] theorem x_callO (f : SM Slot) (j : Nat) (ms : SM (List D)) : mCallO f j ms ρ = match ρ[j]? with
  | some (some (.own _)) => (ms ρ).bind fun p => match p.2[j]? with
    | some (some (.own d)) => (f (some (.own d) :: vals p.1)).bind fun q => match q.2 with
      | some (.own d') :: _ => .ok (q.1, p.2.set j (some (.own d')))
      | _ => .stuck
    | _ => .stuck
  | _ => .stuck := rfl
@[simp] theorem x_vals0 : vals [] = [] := rfl
@[simp] theorem x_vals1 (d : D) (ds : List D) : vals (d :: ds) = some (.val d) :: vals ds := rfl
@[simp] theorem x_nx : mNx ρ = .ok (.nx, ρ) := rfl
@[simp] theorem x_bk : mBk ρ = .ok (.bk, ρ) := rfl
@[simp] theorem x_ct : mCt ρ = .ok (.ct, ρ) := rfl
@[simp] theorem x_never : mNever ρ = .stuck := rfl
@[simp] theorem x_sq (m m' : MS) : mSq m m' ρ = (m ρ).bind fun p => match p.1 with
  | .nx => m' p.2
  | f => .ok (f, p.2) := rfl
@[simp] theorem x_rt (me : SM D) : mRt me ρ = (me ρ).bind fun p => .ok (.rt (.val p.1), p.2) := rfl
@[simp] theorem x_rtN : mRtN ρ = .ok (.rt (.val .none), ρ) := rfl
@[simp] theorem x_drp (me : SM D) : mDrp me ρ = (me ρ).bind fun p => .ok (.nx, p.2) := rfl
@[simp] theorem x_ifS (c : SM Bool) (m m' : MS) : mIfS c m m' ρ = (c ρ).bind fun p => if p.1 = true then m p.2 else m' p.2 := rfl
@[simp] theorem x_set (i : Nat) (me : SM D) : mSet i me ρ = (me ρ).bind fun p => .ok (.nx, p.2.set i (some (.val p.1))) := rfl
@[simp] theorem x_setF (i : Nat) (me : SM D) : mSetF i me ρ = (me ρ).bind fun p => .ok (.nx, p.2.set i (some (.own p.1))) := rfl
@[simp] theorem x_gName (i : Nat) (d : D) : mgName i d ρ = .ok (ρ.set i (some (.val d))) := rfl
@[simp] theorem x_gNil (ds : List D) : mgNil ds ρ = match ds with
  | [] => .ok ρ
  | _ => .stuck := rfl
@[simp] theorem x_gCons (g : MG) (gs : MGs) (ds : List D) : mgCons g gs ds ρ = match ds with
  | d :: ds => (g d ρ).bind fun ρ1 => gs ds ρ1
  | _ => .stuck := rfl
@[simp] theorem x_gTup (n : Nat) (gs : MGs) (d : D) : mgTup n gs d ρ = match d with
  | .tuple ds => Rs.grd (ds.length = n) (gs ds ρ)
  | _ => .stuck := rfl
@[simp] theorem x_asgG (g : MG) (me : SM D) : mAsgG g me ρ = (me ρ).bind fun p => (g p.1 p.2).bind fun ρ1 => .ok (.nx, ρ1) := rfl
@[simp] theorem x_wNil : mwNil ρ = .ok ([], ρ) := rfl
@[simp] theorem x_wVal (m : SM D) (ms : SM (List Slot)) : mwVal m ms ρ = (m ρ).bind fun p => (ms p.2).bind fun q => .ok (.val p.1 :: q.1, q.2) := rfl
@[simp] theorem x_wOwn (m : SM D) (ms : SM (List Slot)) : mwOwn m ms ρ = (m ρ).bind fun p => (ms p.2).bind fun q => .ok (.own p.1 :: q.1, q.2) := rfl
@[simp] theorem x_par (js : List Nat) (ms : SM (List Slot)) : mPar js ms ρ = (ms ρ).bind fun p => Rs.grd (js.length = p.1.length) (.ok (.nx, putAllD p.2 js p.1)) := rfl
@[simp] theorem x_putN (js : List Nat) : putAllD ρ js [] = ρ := by cases js <;> rfl
@[simp] theorem x_putC (j : Nat) (js : List Nat) (s : Slot) (ss : List Slot) : putAllD ρ (j :: js) (s :: ss) = putAllD (ρ.set j (some s)) js ss := rfl
@[simp] theorem x_put (j : Nat) (f : D → D → D → Rs D) (mi mv : SM D) : mPut j f mi mv ρ = (mv ρ).bind fun p => (mi p.2).bind fun q => match q.2[j]?, p.2[j]? with
  | some (some (.own d)), some (some (.own _)) => (f d q.1 p.1).bind fun z => .ok (.nx, q.2.set j (some (.own z)))
  | _, _ => .stuck := rfl
@[simp] theorem x_app (j : Nat) (mv : SM D) : mApp j mv ρ = match ρ[j]? with
  | some (some (.own (.list _))) => (mv ρ).bind fun p => match p.2[j]? with
    | some (some (.own (.list ds))) => Rs.grd (ds.length < sizeLine) (.ok (.nx, p.2.set j (some (.own (.list (ds ++ [p.1]))))))
    | _ => .stuck
  | _ => .stuck := rfl
@[simp] theorem x_newK : mNewK ρ = .ok (.dict [], ρ) := rfl
@[simp] theorem x_aug (i : Nat) (f : D → D → Rs D) (me : SM D) : mAug i f me ρ = match ρ[i]? with
  | some (some (.val x)) => (me ρ).bind fun p => (f x p.1).bind fun z => .ok (.nx, p.2.set i (some (.val z)))
  | _ => .stuck := rfl
@[simp] theorem x_for (mi : SM (List D)) (g : MG) (b : MS) : mFor mi g b ρ = (mi ρ).bind fun p => forL g b p.1 p.2 := rfl
@[simp] theorem x_lc (mi : SM (List D)) (g : MG) (c : SM Bool) (e : SM D) (vs : List Nat) : mLc mi g c e vs ρ = (mi ρ).bind fun p => Rs.grd (nown p.2 vs = true) ((lcL g c e vs p.1 p.2).bind fun q => Rs.grd (sz q.1.length) (.ok (.list q.1, q.2))) := rfl
@[simp] theorem x_ofO (a : α) : ofO (some a) = .ok a := rfl
end
@[simp] theorem x_optS (m : SM D) (ρ : DE) : SM.opt (some m) ρ = (m ρ).bind fun p => match p.1 with
  | .int i => .ok (some i, p.2)
  | _ => .stuck := by
  unfold SM.opt
  first
    | rfl
    | (simp only []; done)
    | (simp only []; cases m ρ <;> rfl)
theorem x_def {n k : Nat} {P : List Nat} {b : MS} {ρ ρ' : DE} {s : Slot} (hn : ρ.length = n) (h : b (ρ ++ List.replicate k none) = .ok (.rt s, ρ')) : mDef n k P b ρ = .ok (s, backD P ρ' ρ) := by
  unfold mDef
  rw [Rs.grd_pos hn, h]
  rfl
theorem x_defN {n k : Nat} {P : List Nat} {b : MS} {ρ ρ' : DE} (hn : ρ.length = n) (h : b (ρ ++ List.replicate k none) = .ok (.nx, ρ')) : mDef n k P b ρ = .ok (.val .none, backD P ρ' ρ) := by
  unfold mDef
  rw [Rs.grd_pos hn, h]
  rfl
theorem back_vals {ρ' : DE} {P : List Nat} (ds : List D) : backD P ρ' (vals ds) = vals ds := by
  refine List.ext_getElem? fun i => ?_
  unfold backD vals
  rw [List.getElem?_mapIdx, List.getElem?_map]
  cases ds[i]? <;> rfl
@[simp] theorem sz_of {n : Nat} (h : n ≤ 1000000) : sz n := Nat.le_trans h (by decide)
end
end DL
namespace DL
open PySem PySem.Spec PyProof.Rows L2
noncomputable section
/-! ### t[::-1] -/
section
variable {prog : Program} {w : World} {A : Around} {E : Value → Shared → Prop} {s : Shared}
open HT in
theorem sliceApplied_rev {sl : Addr} {vl vu vs : Value} {n : Nat} {Q : Int × Int × Nat → Shared → Prop} (hs : s.heap.IsSliceOf sl vl vu vs) (pl : IsPart vl none) (pu : IsPart vu none) (ps : IsPart vs (some (-1)))
    (h : Q ((n : Int) - 1, -1, n) s) : wpAny (model prog w) A (Builtin.Slice.sliceApplied (.ref sl) (pure (n : Int))) Q E s := by
  obtain ⟨os, hos, hcs, hds⟩ := id hs
  unfold Builtin.Slice.sliceApplied Builtin.Slice.sliceFields
  refine wpAny_bind (wpAny_bind (wpAny_field hos hds (x := vl) rfl (wpAny_bind (wpAny_field hos hds (x := vu) rfl (wpAny_bind (wpAny_field hos hds (x := vs) rfl (wpAny_pure ?_)))))))
  refine wpAny_bind (slicePart_ ps ?_)
  show wpAny _ _ (if ((-1 : Int) == 0) = true then _ else _) _ _ s
  rw [if_neg (by decide)]
  refine wpAny_bind (slicePart_ pl (wpAny_bind (slicePart_ pu (wpAny_bind (wpAny_pure ?_)))))
  show wpAny _ _ (match Builtin.Slice.sliceAdjust none none (-1) (n : Int) with | (lo, hi) => pure (lo, (-1 : Int), Builtin.Slice.slicePlaces lo hi (-1))) _ _ s
  have e1 : Builtin.Slice.sliceAdjust none none (-1) (n : Int) = ((n : Int) - 1, -1) := by
    unfold Builtin.Slice.sliceAdjust
    simp
  rw [e1]
  have e2 : Builtin.Slice.slicePlaces ((n : Int) - 1) (-1) (-1) = n := by
    unfold Builtin.Slice.slicePlaces
    simp
    split <;> omega
  show wpAny _ _ (pure ((n : Int) - 1, (-1 : Int), Builtin.Slice.slicePlaces ((n : Int) - 1) (-1) (-1))) _ _ s
  rw [e2]
  exact wpAny_pure h
theorem fm_congr {α β : Type} {f g : α → Option β} : ∀ {l : List α}, (∀ x ∈ l, f x = g x) → l.filterMap f = l.filterMap g
  | [], _ => rfl
  | a :: l, h => by
    rw [List.filterMap_cons, List.filterMap_cons, h a (List.mem_cons_self ..), fm_congr fun x hx => h x (List.mem_cons_of_mem _ hx)]
theorem pick_rev (xs : Array Value) : ((List.range xs.size).filterMap fun (m : Nat) => xs[((xs.size : Int) - 1 + (m : Int) * (-1)).toNat]?).toArray = xs.toList.reverse.toArray := by
  congr 1
  refine List.ext_getElem? fun i => ?_
  have e : (List.range xs.size).filterMap (fun (m : Nat) => xs[((xs.size : Int) - 1 + (m : Int) * (-1)).toNat]?) = (List.range xs.size).map fun m => xs.toList.reverse[m]?.getD .none := by
    rw [← List.filterMap_eq_map]
    refine fm_congr fun m hm => ?_
    have hm' : m < xs.size := List.mem_range.mp hm
    have e1 : ((xs.size : Int) - 1 + (m : Int) * (-1)).toNat = xs.size - 1 - m := by omega
    rw [e1]
    show xs[xs.size - 1 - m]? = some (xs.toList.reverse[m]?.getD .none)
    rw [List.getElem?_reverse (by simpa using hm'), Array.length_toList, Array.getElem?_toList, Array.getElem?_eq_getElem (by omega)]
    rfl
  rw [e, List.getElem?_map]
  by_cases hi : i < xs.size
  · rw [List.getElem?_range hi]
    have : i < xs.toList.reverse.length := by simpa using hi
    rw [List.getElem?_eq_getElem this]
    simp only [Option.map_some, List.getElem?_eq_getElem this, Option.getD_some]
  · rw [List.getElem?_eq_none (by rw [List.length_range]; omega), List.getElem?_eq_none (by simp; omega)]
    rfl
open HT in
theorem getItem_tuple_rev {t sl : Addr} {items : Array Value} {vl vu vs : Value} {Q : Value → Shared → Prop} (ht : IsTup s.heap t items) (hs : s.heap.IsSliceOf sl vl vu vs) (pl : IsPart vl none) (pu : IsPart vu none) (ps : IsPart vs (some (-1)))
    (h : Q (.ref s.heap.objs.size) { s with heap := s.heap.push { cls := .type "tuple", data := .seq items.toList.reverse.toArray } })
    (hsz : items.size ≤ sizeLine) : wpAny (model prog w) A (getItem (.ref t) (.ref sl)) Q E s := by
  have htake : sizeOk (.seq items.toList.reverse.toArray) := by
    show items.toList.reverse.toArray.size ≤ sizeLine
    rw [List.size_toArray, List.length_reverse, Array.length_toList]
    exact hsz
  obtain ⟨os, hos, hcs, hds⟩ := id hs
  have hTs : s.TypeIs (.ref sl) "slice" := ⟨os, hos, hcs⟩
  unfold getItem
  try with_reducible refine wpAny_holding ?_
  first | refine wpAny_bind (wpAny_pure ?_) | skip
  refine wpAny_bind (wpAny_sequenceKey ht.typeIs (by decide) ?_)
  refine wpAny_bind (wpAny_callSpecial?_slot (name := Str.ofString "__getitem__") ht.typeIs PyProof.Rows.slot_tuple_getitem
    (wpAny_call_entry PyProof.Rows.slot_tuple_getitem ht.typeIs entry_tuple_getitem ?_ (args_tuple_getitem _ _)))
  show wpAny _ _ (Builtin.Tuple.tupleItemsOf (.ref t) >>= _) _ _ s
  refine wpAny_bind (tupleItemsOf_ ht ?_)
  refine wpAny_bind (wpAny_typeOf hTs ?_)
  rw [if_pos (by decide)]
  refine wpAny_bind (sliceApplied_rev hs pl pu ps ?_)
  show wpAny _ _ (if ((items.size : Int) - 1 == 0 && (-1 : Int) == 1 && items.size == items.size) = true then _ else _) _ _ s
  rw [if_neg (by simp), pick_rev]
  first
    | exact wpAny_bind (m := Builtin.Tuple.tupleExact _) (wpAny_newObj_type (wpAny_pure ⟨_, rfl, wpAny_pure h⟩) htake)
    | exact wpAny_bind (m := Builtin.Tuple.tupleExact _) (wpAny_newObj_type (wpAny_bind (wpAny_pure (wpAny_pure ⟨_, rfl, wpAny_pure h⟩))) htake)
    | exact wpAny_bind (wpAny_bind (m := Builtin.Tuple.tupleExact _) (wpAny_newObj_type (wpAny_pure (wpAny_pure ⟨_, rfl, wpAny_pure h⟩)) htake))
    | exact wpAny_bind (wpAny_bind (m := Builtin.Tuple.tupleExact _) (wpAny_newObj_type (wpAny_pure ⟨_, rfl, wpAny_pure h⟩) htake))
end
def tRevA (K : PySem.W.Frag) (te : TE) : TE := fun σ H Q => te σ H fun x H1 => (∃ a xs, x = .ref a ∧ SqL K H1 a xs ∧ ∀ p, H1 p = none → Q (.ref p) (upd H1 p (.lst xs.reverse))) ∨ ∃ a xs, x = .ref a ∧ SqT K H1 a xs ∧ ∀ p, H1 p = none → Q (.ref p) (upd H1 p (.tup xs.reverse))
section
variable {X : Cx}
theorem pe_revA {e : Expr} {te : TE} {k : Nat} {p1 p2 p3 pos : Pos} (he : PE X e te) : PE X (.Subscript e (.Slice none none (some (.UnaryOp .USub (.Constant (.int 1) k p1) p2)) p3) pos) (tRevA X.K te) := by
  refine ⟨fun pins s σ H Q I h => ?_⟩
  refine Subscript_ (thn (he.run pins s σ H _ I h) fun v s1 ⟨x, H1, I1, r1, q1⟩ => ?_)
  have hst : PO X (some (.UnaryOp .USub (.Constant (.int 1) k p1) p2)) (tPart (tUn (rU fun i => .int (-i)) (tC (.int 1)))) := po_some (pe_un un_neg pe_int)
  refine wpAny_Slice (thn (po_none.run pins s1 σ H1 (fun o H2 => o = none ∧ H2 = H1) I1 ⟨rfl, rfl⟩) fun vl s2 ⟨l, H2, I2, pl, el, e2⟩ => ?_)
  subst el e2
  refine thn (po_none.run pins s2 σ H2 (fun o H3 => o = none ∧ H3 = H2) I2 ⟨rfl, rfl⟩) fun vu s3 ⟨u, H3, I3, pu, eu, e3⟩ => ?_
  subst eu e3
  refine thn (hst.run pins s3 σ H3 (fun o H4 => o = some (-1) ∧ H4 = H3) I3 ⟨1, rfl, -1, rfl, rfl, rfl⟩) fun vs s4 ⟨o, H4, I4, ps, eo, e4⟩ => ?_
  subst eo e4
  have I5 : Inv X pins σ H4 { s4 with heap := s4.heap.push { cls := .type "slice", data := .fields #[vl, vu, vs] } } := I4.kept (t' := s4.toks) fun b ob q => Heap.get?_push_of_some _ q
  rcases q1 with ⟨a, xs, rfl, hx, q⟩ | ⟨a, xs, rfl, hx, q⟩
  · cases r1
    obtain ⟨its, r, ht, hz⟩ := I5.list hx
    have hlen := r.length
    show wpAny (model X.prog X.w) X.A (subscriptTail e (.Slice none none (some (.UnaryOp .USub (.Constant (.int 1) k p1) p2)) p3) (.ref a) (.ref s4.heap.objs.size)) (EP X pins σ Q) X.xe { s4 with heap := s4.heap.push { cls := .type "slice", data := .fields #[vl, vu, vs] } }
    refine tail_any (ops := [.ref a, .ref s4.heap.objs.size]) ht.isList.typeIs (PySem.slot_list_getitem.lookup) ?_ (by with_unfolding_all rfl)
    refine wpAny_getItem_list_slice ht.isList (Heap.IsSliceOf.new _ vl vu vs) pl pu ps (by decide) ?_ (by rw [List.size_toArray]; omega)
    rw [PySem.W.krv_pick]
    refine ⟨.ref _, _, I5.laid (t' := s4.toks) (o := .lst xs.reverse) (fun b ob q => Heap.get?_push_of_some _ q) (Nat.le_refl _) ?_, rfl, q _ (I5.hok.fresh (Nat.le_refl _))⟩
    exact ⟨by rw [List.length_reverse]; exact hz, _, 0, r.reverse, Heap.get?_push_size _ rfl⟩
  · cases r1
    obtain ⟨its, r, ht, hz⟩ := I5.tuple hx
    have hlen := r.length
    show wpAny (model X.prog X.w) X.A (subscriptTail e (.Slice none none (some (.UnaryOp .USub (.Constant (.int 1) k p1) p2)) p3) (.ref a) (.ref s4.heap.objs.size)) (EP X pins σ Q) X.xe { s4 with heap := s4.heap.push { cls := .type "slice", data := .fields #[vl, vu, vs] } }
    refine tail_any (ops := [.ref a, .ref s4.heap.objs.size]) ht.typeIs (PyProof.Rows.slot_tuple_getitem.lookup) ?_ (by with_unfolding_all rfl)
    refine getItem_tuple_rev ht (Heap.IsSliceOf.new _ vl vu vs) pl pu ps ?_ (by rw [List.size_toArray]; omega)
    refine ⟨.ref _, _, I5.laid (t' := s4.toks) (o := .tup xs.reverse) (fun b ob q => Heap.get?_push_of_some _ q) (Nat.le_refl _) ?_, rfl, q _ (I5.hok.fresh (Nat.le_refl _))⟩
    exact ⟨by rw [List.length_reverse]; exact hz, _, r.reverse, IsTup.new _ _⟩
end
def dRev : D → Rs D
  | .list ds => .ok (.list ds.reverse)
  | .tuple ds => .ok (.tuple ds.reverse)
  | _ => .stuck
theorem de_rev {K : PySem.W.Frag} {te : TE} {m : SM D} (h : DenC K te m) : DenE K (tRevA K te) (mUn dRev m) := fun F H σ ρ ρ' d Q r e q => by
  obtain ⟨⟨x, ρ1⟩, e1, e⟩ := Rs.of_bind e
  obtain ⟨z, e2, e⟩ := Rs.of_bind e
  cases e
  refine h F H σ ρ _ x _ r e1 fun v H1 p rv => ?_
  change dRev x = .ok _ at e2
  unfold dRev at e2
  split at e2
  · cases e2
    obtain ⟨a, xs, rfl, s, ra⟩ := rv
    exact .inl ⟨a, xs, rfl, s, fun p0 hp => q _ _ (p.new (Ext0.new hp)) (lst_new (fun a => p.rel.of_some) hp ra.reverse)⟩
  · cases e2
    obtain ⟨a, xs, rfl, s, ra⟩ := rp_tup rv
    exact .inr ⟨a, xs, rfl, s, fun p0 hp => q _ _ (p.new (Ext0.new hp)) (tup_new (fun a => p.rel.of_some) hp ra.reverse)⟩
  · cases e2
end
end DL
namespace DL
open PySem PySem.Spec PyProof.Rows L2
noncomputable section
/-! ### enumerate of a tuple -/
def IteT (K : PySem.W.Frag) (a : Addr) : It :=
  ⟨fun i H => ∃ (xs : List V) (x : V), SqT K H a xs ∧ xs[i]? = some x, fun i H v H' => ∃ T x, v = .ref T ∧ H T = none ∧ H' = upd H T (.tup [.int (i : Nat), x]) ∧ ∀ xs, SqT K H a xs → xs[i]? = some x, fun i H => ∃ xs : List V, SqT K H a xs ∧ xs.length ≤ i⟩
theorem turn_enumT {P : Program} {w : World} {K : PySem.W.Frag} {elts : List Expr} {kk : Nat} {tpos : Pos} (a e it : Addr) :
    Turn P w K (.Tuple elts kk tpos) (IteT K a) [e, it] e (fun i h => (∃ old, IsEnum h e it ((i : Nat) : Int) old) ∧ h.IsTupleIter it a i ∧ e ≠ it) where
  mem := by simp
  obj := fun i h st b hb => by
    obtain ⟨⟨old, he⟩, ⟨o, ho, hc, hd⟩, _⟩ := st
    have e' : b = e ∨ b = it := by simpa using hb
    rcases e' with z | z
    · rw [z]; exact ⟨_, he, fun v q => nomatch q⟩
    · rw [z]; exact ⟨o, ho, fun v q => by rw [hd] at q; cases q⟩
  keep := fun i h h' st k => let ⟨⟨old, he⟩, hi, hne⟩ := st; ⟨⟨old, k e (by simp) _ he⟩, hi.at fun o q => k it (by simp) o q, hne⟩
  item := by
    intro X hP hw hK hc i pins s σ H E I hf st hg
    subst hP hw hK
    obtain ⟨⟨old, he⟩, hit, hne⟩ := st
    obtain ⟨xs, x, hq, hx⟩ := hg
    obtain ⟨its, rv, p, hz⟩ := I.tuple hq
    obtain ⟨u0, hu, ru⟩ := rv.get hx
    have hel : e < s.heap.objs.size := Heap.lt_size he
    have hil : it < s.heap.objs.size := by obtain ⟨_, q, _⟩ := hit; exact Heap.lt_size q
    have hai : a ≠ it := fun z => by
      obtain ⟨o, q, c, _⟩ := hit
      obtain ⟨o', q', c', _⟩ := p
      rw [z, q] at q'
      cases q'
      rw [c] at c'
      injection c' with c'
      exact absurd c' (by decide)
    have hae : e ≠ a := fun z => by
      obtain ⟨o', q', c', _⟩ := p
      rw [← z, he] at q'
      cases q'
      injection c' with c'
      exact absurd c' (by decide)
    have hlt : i < its.toArray.size := by
      rw [List.size_toArray]
      exact (List.getElem?_eq_some_iff.mp hu).1
    have Dw := Draws.tuple (prog := X.prog) (w := X.w) (A := X.A.in1) (I.ok.hd hc) it a hai its.toArray
    refine wpAny_pyNext_enum_itemD Dw he ⟨hit, p⟩ hlt hne (by simp [hne, hae]) fun u h' tk hP ho hit' hT hsz hk => ?_
    have hu2 : u = u0 := by
      have : its.toArray[i]? = some u := hP
      rw [List.getElem?_toArray, hu] at this
      exact (Option.some.inj this).symm
    subst hu2
    refine ⟨_, rfl, wpAny_letOwnedTupleGo_enum (s := { s with heap := h', toks := tk + 1 }) ho fun h'' he' sb => ?_⟩
    have hT2 : h''.get? s.heap.objs.size = some { cls := .type "tuple", data := .seq #[.int i tk, u] } := (sb.2 _ (Nat.ne_of_gt hel)).trans hT
    have new : ObjOk X.prog X.w (upd H s.heap.objs.size (.tup [.int (i : Nat), x])) h'' s.heap.objs.size (.tup [.int (i : Nat), x]) :=
      ⟨by show 2 ≤ sizeLine; decide, [.int i tk, u], .cons ⟨_, rfl⟩ (.cons ru .nil), ⟨_, hT2, rfl, _, rfl⟩⟩
    have I1 : Inv X pins σ (upd H s.heap.objs.size (.tup [.int (i : Nat), x])) { s with heap := h'', toks := tk + 1 } :=
      I.turnedNew (ch := [e, it]) (fun b ob hb q => (sb.2 b (fun z => hb (by simp [z]))).trans (hk b ob (fun z => hb (by simp [z])) (fun z => hb (by simp [z])) q)) hf (Nat.le_refl _) new
    refine ⟨.ref s.heap.objs.size, _, I1, rfl, ⟨_, x, rfl, I.hok.fresh (Nat.le_refl _), rfl, fun ys hy => by rw [I.tuple_inj hy hq]; exact hx⟩, ⟨⟨u, ?_⟩, hit'.1.at fun o q => (sb.2 it (Ne.symm hne)).trans q, hne⟩, fun b hb => ?_⟩
    · have e1 : ((i + 1 : Nat) : Int) = (i : Int) + 1 := by omega
      rw [e1]; exact he'
    · have hb' : b < s.heap.objs.size := by
        have e' : b = e ∨ b = it := by simpa using hb
        rcases e' with z | z
        · rw [z]; exact hel
        · rw [z]; exact hil
      rw [upd_ne (Nat.ne_of_lt hb')]
      exact (hf b hb).1
  done := by
    intro X hP hw hK hc i pins s σ H E I hf st hg
    subst hP hw hK
    obtain ⟨⟨old, he⟩, hit, hne⟩ := st
    obtain ⟨xs, hq, hx⟩ := hg
    obtain ⟨its, rv, p, hz⟩ := I.tuple hq
    obtain ⟨f0, f1, f2, f3, f4, f5⟩ := hf it (by simp)
    have hl := rv.length
    have hT : s.TypeIs (.ref e) "enumerate" := ⟨_, he, rfl⟩
    unfold pyNext
    refine wpAny_bind (wpAny_attempt (wpAny_callSpecial?_slot (name := Str.ofString "__next__") hT F.slot_enumerate_next
      (wpAny_call_entry F.slot_enumerate_next hT F.entry_enumerate_next ?_ (F.args_enumerate_next_1 _))))
    show wpAny _ _ (field (.ref e) 2 >>= _) _ _ _
    refine wpAny_bind (wpAny_field he rfl (x := .ref it) rfl ?_)
    refine wpAny_bind (wpAny_nextOf_tuple_end (I.ok.hd hc) hit p (by simp; omega) fun h' x he' hx' => ?_)
    obtain ⟨o, ho, hc'⟩ := hx'
    refine wpAny_bind (wpAny_isInstance (T := "StopIteration") (b := true) ⟨o, ho, hc'⟩ isSubtype_stop ?_)
    exact wpAny_pure ⟨rfl, I.turned (t' := s.toks) (fun b o hb q => he' b o hb q) f0 f1 f3 f4 f5⟩
  self := fun _ _ _ _ _ st h => let ⟨⟨_, he⟩, _⟩ := st; wpAny_pyIter_enum he h
theorem meets_enumerate_newT (l : Addr) (items : Array Value) (n : Nat) (dct : Option Addr) (sl : Array (Option Value)) :
    Meets (Builtin.«enumerate.__new__» ⟨[.type "enumerate", .ref l], []⟩) (fun _ R s => s.heap.get? l = some { cls := .type "tuple", dict := dct, data := .seq items n, slots := sl } ∧
      R (.ok (.ret (.ref (s.heap.push { cls := .type "tuple_iterator", data := .fields #[.ref l, .int 0 0] }).objs.size)))
        { s with heap := (s.heap.push { cls := .type "tuple_iterator", data := .fields #[.ref l, .int 0 0] }).push { cls := .type "enumerate", data := .fields #[.none, .bool false, .ref s.heap.objs.size, rawInt 0, .none, .none] } }) :=
  .of_wp fun prog w A R s h => by
    obtain ⟨hp, g, d, tk, os⟩ := s; obtain ⟨hl, h⟩ := h
    have hsub := sub_enumerate
    have hL : Heap.IsTuple (Shared.heap ⟨hp, g, d, tk, os⟩) l items := ⟨_, hl, rfl, n, rfl⟩
    wp_walk using AutoSeq1.wpAny_loadPart' hl
    refine wpAny_stack_any fun st => wpAny_pure ?_
    split
    · rename_i c _ _ _ _ _
      cases (c == Value.type "enumerate")
      · wp_walk using AutoSeq1.wpAny_loadPart' hl, wpAny_pyIter_tuple hL
        exact ⟨_, rfl, h⟩
      · wp_walk using AutoSeq1.wpAny_loadPart' hl, wpAny_pyIter_tuple hL
        exact ⟨_, rfl, h⟩
    · wp_walk using AutoSeq1.wpAny_loadPart' hl, wpAny_pyIter_tuple hL
      exact ⟨_, rfl, h⟩
theorem call_enumerate_tuple {prog : Program} {w : World} {A : Around} {E : Value → Shared → Prop} {s : Shared} {l : Addr} {items : Array Value} {Q : Value → Shared → Prop} (hL : s.heap.IsTuple l items)
    (h : ∀ h', IsEnum h' (s.heap.objs.size + 1) s.heap.objs.size 0 .none → h'.IsTupleIter s.heap.objs.size l 0 → h'.objs.size = s.heap.objs.size + 2 →
      (∀ b o, s.heap.get? b = some o → h'.get? b = some o) → Q (.ref (s.heap.objs.size + 1)) { s with heap := h' }) :
    wpAny (model prog w) A (call (.type "enumerate") [.ref l]) Q E s := by
  obtain ⟨⟨c, dct, dt, sl⟩, hl, hc, n, hd⟩ := hL
  replace hc : c = .type "tuple" := hc
  replace hd : dt = .seq items n := hd
  subst hc hd
  refine callType_new F.called_enumerate (by decide) (F.typeCall_enumerate_1 _) (F.newCall_enumerate_1 _) (fun obj => F.args_object_init_2 obj _) F.entry_enumerate_new
    (meets_enumerate_newT l items n dct sl) ⟨hl, ?_⟩
  have hz : (s.heap.push { cls := .type "tuple_iterator", data := .fields #[.ref l, .int 0 0] }).objs.size = s.heap.objs.size + 1 := Heap.size_push ..
  show _ ∧ _
  rw [hz]
  have he : IsEnum ((s.heap.push { cls := .type "tuple_iterator", data := .fields #[.ref l, .int 0 0] }).push
      { cls := .type "enumerate", data := .fields #[.none, .bool false, .ref s.heap.objs.size, rawInt 0, .none, .none] }) (s.heap.objs.size + 1) s.heap.objs.size 0 .none := by
    have := Heap.get?_push_size (s.heap.push { cls := .type "tuple_iterator", data := .fields #[.ref l, .int 0 0] })
      (o := { cls := .type "enumerate", data := .fields #[.none, .bool false, .ref s.heap.objs.size, rawInt 0, .none, .none] }) rfl
    rw [hz] at this; exact this
  refine ⟨⟨_, he, rfl⟩, h _ he ⟨_, Heap.get?_push_of_some _ (Heap.get?_push_size _ rfl), rfl, rfl⟩ (by rw [Heap.size_push, hz]) fun b o x => Heap.get?_push_of_some _ (Heap.get?_push_of_some _ x)⟩
def iEnumA (K : PySem.W.Frag) (ta : TA) : TI := fun σ H R => ta σ H fun vs H1 => ∃ a xs, vs = [.ref a] ∧ ((SqL K H1 a xs ∧ R (Ite K a) H1) ∨ (SqT K H1 a xs ∧ R (IteT K a) H1))
theorem pi_enumA {X : Cx} {e : Expr} {ta : TA} {p pos tpos : Pos} {elts : List Expr} {kk : Nat} (hg : Gl X "enumerate") (hm : X.mg "enumerate" = none) (ha : PA X [e] ta) (hs : starEach [e] X.env = [(false, eval e X.env)] := by rfl) :
    PI X (.Tuple elts kk tpos) (.Call (.Name "enumerate" p) [e] [] pos) (iEnumA X.K ta) := by
  refine ⟨fun pins s σ H R I h => ?_⟩
  refine Call_ (ld_blt I hg hm PyProof.Rows.boot_enumerate (PyProof.Rows.callWith_type1 (thn (ha.run pos pins s σ H _ I h) fun us s1 ⟨vs, H1, I1, r1, q1⟩ => ?_) hs rfl))
  obtain ⟨a, xs, ex, hq⟩ := q1
  subst ex
  cases r1 with
  | cons r rr =>
    cases rr
    cases r
    have fr : ∀ b, b ∈ [s1.heap.objs.size + 1, s1.heap.objs.size] → FpOk X pins H1 b := fun b hb => by
      have e' : b = s1.heap.objs.size + 1 ∨ b = s1.heap.objs.size := by simpa using hb
      have hle : s1.heap.objs.size ≤ b := by
        rcases e' with z | z
        · rw [z]; exact Nat.le_add_right _ _
        · rw [z]; exact Nat.le_refl _
      exact I1.fpOk hle (I1.hok.fresh hle)
    rcases hq with ⟨hq, q⟩ | ⟨hq, q⟩
    · obtain ⟨its, rv, p', hz⟩ := I1.list hq
      refine call_enumerate_list p'.isList fun h' he hit hsz hk => wpAny_pyIter_enum he ?_
      have I2 : Inv X pins σ H1 { s1 with heap := h' } := I1.kept (t' := s1.toks) hk
      exact ⟨s1.heap.objs.size + 1, [s1.heap.objs.size + 1, s1.heap.objs.size], _, _, H1, rfl, I2, turn_enum a (s1.heap.objs.size + 1) s1.heap.objs.size, ⟨⟨.none, he⟩, hit, Nat.succ_ne_self _⟩, fr, q⟩
    · obtain ⟨its, rv, p', hz⟩ := I1.tuple hq
      refine call_enumerate_tuple (show s1.heap.IsTuple a its.toArray from p') fun h' he hit hsz hk => wpAny_pyIter_enum he ?_
      have I2 : Inv X pins σ H1 { s1 with heap := h' } := I1.kept (t' := s1.toks) hk
      exact ⟨s1.heap.objs.size + 1, [s1.heap.objs.size + 1, s1.heap.objs.size], _, _, H1, rfl, I2, turn_enumT a (s1.heap.objs.size + 1) s1.heap.objs.size, ⟨⟨.none, he⟩, hit, Nat.succ_ne_self _⟩, fr, q⟩
def enumD (ds : List D) : List D := ds.mapIdx fun i d => .tuple [.int (i : Nat), d]
def mEnum (m : SM D) : SM (List D) := fun ρ => (m ρ).bind fun p => match p.1 with
  | .list ds => .ok (enumD ds, p.2)
  | .tuple ds => .ok (enumD ds, p.2)
  | _ => .stuck
theorem enumD_get {a : List D} {i : Nat} {d : D} (h : (enumD a)[i]? = some d) : ∃ x, a[i]? = some x ∧ d = .tuple [.int (i : Nat), x] := by
  unfold enumD at h
  rw [List.getElem?_mapIdx] at h
  cases e : a[i]? with
  | none => rw [e] at h; cases h
  | some x =>
    rw [e] at h
    cases h
    exact ⟨x, rfl, rfl⟩
theorem di_enum {K : PySem.W.Frag} {te : TE} {me : SM D} (h : DenE K te me) : DenI K (iEnumA K (tCons te tNil)) (mEnum me) := fun F H σ ρ ρ' ds R r e q => by
  obtain ⟨⟨d, ρ1⟩, e1, e⟩ := Rs.of_bind e
  refine h F H σ ρ _ _ _ r e1 fun v H1 p rp => ?_
  simp only at e
  split at e
  · cases e
    obtain ⟨a, xs, rfl, s1, l1, late⟩ := rp_listL rp
    refine ⟨a, xs, rfl, .inl ⟨s1, q _ H1 p fun O2 H3 x n tr => ⟨fun i d hd => ?_, fun i hi => ?_⟩⟩⟩
    · obtain ⟨t1, r1⟩ := late O2 H3 ⟨x, n⟩
      obtain ⟨dx, g1, rfl⟩ := enumD_get hd
      obtain ⟨ux, k1, k2⟩ := r1.get g1
      refine ⟨⟨xs, ux, t1, k1⟩, fun z H4 hy => ?_⟩
      obtain ⟨T, vx, rfl, hT, rfl, m1⟩ := hy
      have q1 := m1 xs t1
      rw [k1] at q1
      cases q1
      exact ⟨Ext0.new hT, tup_new tr hT (.cons (.int _) (.cons k2 .nil))⟩
    · have hi' : (enumD _).length ≤ i := hi
      unfold enumD at hi'
      rw [List.length_mapIdx] at hi'
      exact ⟨xs, (late O2 H3 ⟨x, n⟩).1, by rw [l1]; exact hi'⟩
  · cases e
    obtain ⟨a, xs, rfl, s1, l1, late⟩ := rp_tupL rp
    refine ⟨a, xs, rfl, .inr ⟨s1, q _ H1 p fun O2 H3 x n tr => ⟨fun i d hd => ?_, fun i hi => ?_⟩⟩⟩
    · obtain ⟨t1, r1⟩ := late O2 H3 ⟨x, n⟩
      obtain ⟨dx, g1, rfl⟩ := enumD_get hd
      obtain ⟨ux, k1, k2⟩ := r1.get g1
      refine ⟨⟨xs, ux, t1, k1⟩, fun z H4 hy => ?_⟩
      obtain ⟨T, vx, rfl, hT, rfl, m1⟩ := hy
      have q1 := m1 xs t1
      rw [k1] at q1
      cases q1
      exact ⟨Ext0.new hT, tup_new tr hT (.cons (.int _) (.cons k2 .nil))⟩
    · have hi' : (enumD _).length ≤ i := hi
      unfold enumD at hi'
      rw [List.length_mapIdx] at hi'
      exact ⟨xs, (late O2 H3 ⟨x, n⟩).1, by rw [l1]; exact hi'⟩
  · cases e
@[simp] theorem x_enum (m : SM D) (ρ : DE) : mEnum m ρ = (m ρ).bind fun p => match p.1 with
  | .list ds => .ok (enumD ds, p.2)
  | .tuple ds => .ok (enumD ds, p.2)
  | _ => .stuck := rfl
end
end DL
namespace DL
open PySem PySem.Spec PyProof.Rows L2
noncomputable section
/-! ### range of three -/
def stepD (lo c : Int) (n : Nat) : List D := (List.range n).map fun (k : Nat) => .int (lo + k * c)
def Rg3 (i j c : Int) : Prop := c ≠ 0 ∧ c.natAbs < 1073741824 ∧ Builtin.Range.small i j c = true ∧ 0 ≤ Builtin.Range.rangeSize i j c
def mRng3 (m m' m'' : SM D) : SM (List D) := fun ρ => (m ρ).bind fun p => (m' p.2).bind fun q => (m'' q.2).bind fun r => match p.1, q.1, r.1 with
  | .int i, .int j, .int c => Rs.grd (Rg3 i j c) (.ok (stepD i c (Builtin.Range.rangeSize i j c).toNat, r.2))
  | _, _, _ => .stuck
theorem stepD_get {lo c : Int} {n i : Nat} {d : D} (h : (stepD lo c n)[i]? = some d) : i < n ∧ d = .int (lo + i * c) := by
  unfold stepD at h
  rw [List.getElem?_map] at h
  by_cases hi : i < n
  · rw [List.getElem?_range hi] at h
    cases h
    exact ⟨hi, rfl⟩
  · rw [List.getElem?_eq_none (by rw [List.length_range]; omega)] at h
    cases h
theorem yld_step {K : PySem.W.Frag} {O : Addr → Prop} {H1 : Hp} {lo c : Int} {n : Nat} : Yld K (Itc lo c n) O H1 (stepD lo c n) := fun O2 H2 _ _ _ => ⟨fun i d hd => by
    obtain ⟨hi, rfl⟩ := stepD_get hd
    refine ⟨hi, fun x H3 hy => ?_⟩
    obtain ⟨rfl, rfl⟩ := hy
    exact ⟨Ext0.refl, .int _⟩, fun i hi => by
    unfold stepD at hi
    rw [List.length_map, List.length_range] at hi
    exact hi⟩
theorem di_rng3 {K : PySem.W.Frag} {te te2 te3 : TE} {me me2 me3 : SM D} (h : DenE K te me) (h' : DenE K te2 me2) (h'' : DenE K te3 me3) : DenI K (iRng3 (tCons te (tCons te2 (tCons te3 tNil)))) (mRng3 me me2 me3) := fun F H σ ρ ρ' ds R r e q => by
  obtain ⟨⟨d, ρ1⟩, e1, e⟩ := Rs.of_bind e
  obtain ⟨⟨d2, ρ2⟩, e2, e⟩ := Rs.of_bind e
  obtain ⟨⟨d3, ρ3⟩, e3, e⟩ := Rs.of_bind e
  simp only at e
  split at e
  · obtain ⟨⟨h1, h2, h3, h4⟩, e⟩ := Rs.of_grd e
    cases e
    refine h F H σ ρ _ _ _ r e1 fun v H1 p rp => ?_
    refine h' F H1 σ ρ1 _ _ _ p.rel e2 fun v2 H2 p2 rp2 => ?_
    refine h'' F H2 σ ρ2 _ _ _ p2.rel e3 fun v3 H3 p3 rp3 => ?_
    cases rp
    cases rp2
    cases rp3
    exact ⟨_, _, _, _, rfl, ⟨h1, h2, h3, (Int.toNat_of_nonneg h4).symm⟩, q _ H3 ((p.trans p2).trans p3) yld_step⟩
  · cases e
@[simp] theorem x_rng3 (m m' m'' : SM D) (ρ : DE) : mRng3 m m' m'' ρ = (m ρ).bind fun p => (m' p.2).bind fun q => (m'' q.2).bind fun r => match p.1, q.1, r.1 with
  | .int i, .int j, .int c => Rs.grd (Rg3 i j c) (.ok (stepD i c (Builtin.Range.rangeSize i j c).toNat, r.2))
  | _, _, _ => .stuck := rfl
end
end DL
namespace DL
open PySem PySem.Spec PyProof.Rows L2
noncomputable section
/-! ### dict(a list of pairs) -/
def pairsOf : List D → Option (List (Key × D))
  | [] => some []
  | .tuple [k, v] :: ds => match keyOf k, pairsOf ds with
    | some k, some es => some ((k, v) :: es)
    | _, _ => none
  | _ :: _ => none
def mergeD (acc : List (D × D)) (es : List (Key × D)) : List (D × D) := es.foldl (fun acc kv => putE acc kv.1 kv.2) acc
def dDictP : D → Rs D
  | .list ds => (ofO (pairsOf ds)).bind fun es => .ok (.dict (mergeD [] es))
  | _ => .stuck
def rDictP (K : PySem.W.Frag) : List V → Hp → VK → Prop := fun xs H Q => ∃ (a : Addr) (ps : List Addr) (kvs : List (Key × V)), xs = [.ref a] ∧ SqL K H a (ps.map V.ref) ∧ Paired (fun p kv => SqT K H p [kV kv.1, kv.2]) ps kvs ∧
    ∀ p, H p = none → Q (.ref p) (upd H p (.dK (mergeK [] kvs)))
section
variable {K : PySem.W.Frag} {O : Addr → Prop} {H : Hp}
theorem pairs_at : ∀ {ds : List D} {xs : List V} {es : List (Key × D)}, RpAll K O H xs ds → pairsOf ds = some es → ∃ (ps : List Addr) (kvs : List (Key × V)), xs = ps.map V.ref ∧ Paired (fun p kv => SqT K H p [kV kv.1, kv.2]) ps kvs ∧ Paired (fun (kv : Key × V) (e : Key × D) => kv.1 = e.1 ∧ Rp K O H kv.2 e.2) kvs es
  | [], _, _, r, h => by
    cases r
    cases h
    exact ⟨[], [], rfl, .nil, .nil⟩
  | d :: ds, _, _, r, h => by
    cases r with
    | cons r1 rt =>
      unfold pairsOf at h
      split at h
      · rename_i h1
        cases h1
      · rename_i k v ds' h1
        cases h1
        split at h
        · rename_i k' es' hk he
          cases h
          obtain ⟨ps, kvs, rfl, p1, p2⟩ := pairs_at rt he
          obtain ⟨a, ys, rfl, hs, ra⟩ := rp_tup r1
          cases ra with
          | cons q1 qt =>
            cases qt with
            | cons q2 qn =>
              cases qn
              rw [keyOf_eq hk] at q1
              have := keyV q1
              subst this
              exact ⟨a :: ps, (k', _) :: kvs, rfl, .cons hs p1, .cons ⟨rfl, q2⟩ p2⟩
        · cases h
      · cases h
theorem merge_at : ∀ {kvs : List (Key × V)} {es : List (Key × D)} {kv0 : List (Key × V)} {e0 : List (D × D)}, Paired (fun (kv : Key × V) (e : Key × D) => kv.1 = e.1 ∧ Rp K O H kv.2 e.2) kvs es → e0.map (·.1) = kv0.map (fun p => keyD p.1) → RpAll K O H (kv0.map (·.2)) (e0.map (·.2)) →
    (mergeD e0 es).map (·.1) = (mergeK kv0 kvs).map (fun p => keyD p.1) ∧ RpAll K O H ((mergeK kv0 kvs).map (·.2)) ((mergeD e0 es).map (·.2))
  | [], [], _, _, _, h1, h2 => ⟨h1, h2⟩
  | kv :: kvs, e :: es, kv0, e0, .cons ⟨hk, hr⟩ pt, h1, h2 => by
    obtain ⟨g1, g2⟩ := putE_k hr kv.1 h1 h2
    have := merge_at (kv0 := putK kv0 kv.1 kv.2) (e0 := putE e0 kv.1 e.2) pt g1 g2
    unfold mergeD mergeK at this ⊢
    rw [List.foldl_cons, List.foldl_cons, ← hk]
    exact this
theorem c1f_dictP : C1F K (rDictP K) dDictP := fun O H x dx z Q hO h1 e q => by
  unfold dDictP at e
  split at e
  · obtain ⟨es, e1, e⟩ := Rs.of_bind e
    cases e
    obtain ⟨a, xs, rfl, s, r⟩ := h1
    obtain ⟨ps, kvs, rfl, p1, p2⟩ := pairs_at r (ofO_ok e1)
    obtain ⟨g1, g2⟩ := merge_at (kv0 := []) (e0 := []) p2 rfl .nil
    exact ⟨a, ps, kvs, rfl, s, p1, fun p hp => q p _ hp (Ext0.new hp) (.inl ⟨_, upd_same, g1, g2.step (Ext0.new hp).ext fun b z => z.elim .inl fun z => .inr (z ▸ hp)⟩)⟩
  · cases e
end
end
end DL
namespace DL
open PySem PySem.Spec PyProof.Rows L2
noncomputable section
/-! ### a, b = x, y where a name is captured: no swapped stores -/
theorem ps_parC {X : Cx} {i j : Nat} {x y : Str} {a b : Expr} {ta : TA} {px py pt pos : Pos} {kt : Nat} {k2 : Nat} {pt2 : Pos} (hc : X.calm = true) (hN : X.N.Nodup) (hi : X.N[i]? = some x) (hj : X.N[j]? = some y) (hij : i ≠ j)
    (hx : Loc X.env.scope x) (hy : Loc X.env.scope y) (ha : PA X [a, b] ta)
    (hw : swappedStores [.Tuple [.Name x px, .Name y py] kt pt] (.Tuple [a, b] k2 pt2) X.env = pure none)
    (hs : swapsWithSole [.Tuple [.Name x px, .Name y py] kt pt] (.Tuple [a, b] k2 pt2) pos.line X.env = pure false := by rfl)
    (fx : X.fn x = true ∨ X.env.scope.names.lookup x = some .local := by first | exact .inl rfl | exact .inr rfl | assumption) (fy : X.fn y = true ∨ X.env.scope.names.lookup y = some .local := by first | exact .inl rfl | exact .inr rfl | assumption)
    (h1 : (assignEach [.Tuple [.Name x px, .Name y py] kt pt] X.env).map (·.2) = [assign (.Tuple [.Name x px, .Name y py] kt pt) X.env] := by rfl)
    (h2 : (assignEach [.Name x px, .Name y py] X.env).map (·.2) = [assign (.Name x px) X.env, assign (.Name y py) X.env] := by rfl)
    (h3 : (assignEach [.Name x px, .Name y py] X.env).length = 2 := by rfl) (h4 : (assignEach [.Name x px, .Name y py] X.env).findIdx? (·.1) = none := by rfl) :
    PS X (.Assign [.Tuple [.Name x px, .Name y py] kt pt] (.Tuple [a, b] k2 pt2) pos) (tPar i j ta) := by
  refine ⟨fun pins s σ H D I h => ?_⟩
  refine wpAny_Assign_stores (Tuple_ (thn (ha.run _ pins s σ H _ I h) fun us s1 ⟨vs, H1, I1, r1, q1⟩ => ?_)) hs hw
  obtain ⟨v, w, e1, q1⟩ := q1
  subst e1
  obtain ⟨u1, u2, rfl, rv, rw'⟩ : ∃ u1 u2, us = [u1, u2] ∧ RelV v u1 ∧ RelV w u2 := by
    cases r1 with
    | cons p q =>
      cases q with
      | cons p' q' =>
        cases q'
        exact ⟨_, _, rfl, p, p'⟩
  refine wpAny_newObj_type ?_ (by show 2 ≤ sizeLine; decide)
  have I2 : Inv X pins σ H1 { s1 with heap := s1.heap.push { cls := .type "tuple", data := .seq [u1, u2].toArray } } := I1.kept (t' := s1.toks) fun b o e => Heap.get?_push_of_some _ e
  rw [h1]
  refine assign_Tuple_tuple (items := #[u1, u2]) (I.ok.hd hc) (IsTup.new s1.heap _) (by rw [h3]; rfl) h4 fun h' hx' => ?_
  have I3 := I2.kept (h' := h') (t' := s1.toks) fun b o e => hx' b o (Nat.ne_of_lt (Heap.lt_size e)) e
  rw [h2]
  refine assignInOrder_cons (wpAny_assign_Name (store_ok I3 hN hi hx rv (fun s2 I4 => ?_) fx))
  refine assignInOrder_cons (wpAny_assign_Name (store_ok I4 hN hj hy rw' (fun s3 I5 => assignInOrder_nil ?_) fy))
  exact ⟨_, H1, I5, q1⟩
end
end DL
namespace DL
open PySem PySem.Spec PyProof.Rows L2
noncomputable section
/-! ### tuple(range(..)), list(range(..)) -/
section
variable {K : PySem.W.Frag}
theorem rg_at {O : Addr → Prop} {H : Hp} (a b : Int) : RpAll K O H (rgV a b) (upD a (b - a).toNat) := by
  have e1 : rgV a b = ((List.range (b - a).toNat).map fun i : Nat => a + (i : Int)).map V.int := by
    unfold rgV
    rw [List.map_map]
    rfl
  have e2 : upD a (b - a).toNat = ((List.range (b - a).toNat).map fun i : Nat => a + (i : Int)).map PyData.int := by
    unfold upD
    rw [List.map_map]
    rfl
  rw [e1, e2]
  exact RpAll.ints _
def mRgT (m m' : SM D) : SM D := fun ρ => (m ρ).bind fun p => (m' p.2).bind fun q => match p.1, q.1 with
  | .int i, .int j => Rs.grd (RgOk i j) (.ok (.tuple (upD i (j - i).toNat), q.2))
  | _, _ => .stuck
def mRgL (m m' : SM D) : SM D := fun ρ => (m ρ).bind fun p => (m' p.2).bind fun q => match p.1, q.1 with
  | .int i, .int j => Rs.grd (RgOk i j) (.ok (.list (upD i (j - i).toNat), q.2))
  | _, _ => .stuck
def mRgT1 (m : SM D) : SM D := fun ρ => (m ρ).bind fun p => match p.1 with
  | .int j => Rs.grd (RgOk 0 j) (.ok (.tuple (upD 0 j.toNat), p.2))
  | _ => .stuck
def mRgL1 (m : SM D) : SM D := fun ρ => (m ρ).bind fun p => match p.1 with
  | .int j => Rs.grd (RgOk 0 j) (.ok (.list (upD 0 j.toNat), p.2))
  | _ => .stuck
theorem de_rgT {te te2 : TE} {me me2 : SM D} (h : DenE K te me) (h' : DenE K te2 me2) : DenE K (tTupRg (tRg2 te te2)) (mRgT me me2) := fun F H σ ρ ρ' d Q r e q => by
  obtain ⟨⟨x, ρ1⟩, e1, e⟩ := Rs.of_bind e
  obtain ⟨⟨y, ρ2⟩, e2, e⟩ := Rs.of_bind e
  simp only at e
  split at e
  · rename_i i j _ _
    obtain ⟨hk, e⟩ := Rs.of_grd e
    cases e
    refine h F H σ ρ _ _ _ r e1 fun v H1 p rp => ?_
    refine h' F H1 σ ρ1 _ _ _ p.rel e2 fun v2 H2 p2 rp2 => ?_
    cases rp
    cases rp2
    refine ⟨_, _, rfl, rfl, hk, fun a ha => ?_⟩
    have pp := p.trans p2
    exact q _ _ (pp.new (Ext0.new ha)) (tup_new (fun b hb => pp.rel.of_some hb) ha (rg_at _ _))
  · cases e
theorem de_rgT1 {te : TE} {me : SM D} (h : DenE K te me) : DenE K (tTupRg (tRg1 te)) (mRgT1 me) := fun F H σ ρ ρ' d Q r e q => by
  obtain ⟨⟨x, ρ1⟩, e1, e⟩ := Rs.of_bind e
  simp only at e
  split at e
  · rename_i j
    obtain ⟨hk, e⟩ := Rs.of_grd e
    cases e
    refine h F H σ ρ _ _ _ r e1 fun v H1 p rp => ?_
    cases rp
    refine ⟨_, rfl, hk, fun a ha => ?_⟩
    have this : ∀ O, RpAll K O H1 (rgV 0 j) (upD 0 j.toNat) := fun O => by
      have := rg_at (K := K) (O := O) (H := H1) 0 j
      rw [Int.sub_zero] at this
      exact this
    exact q _ _ (p.new (Ext0.new ha)) (tup_new (fun b hb => p.rel.of_some hb) ha (this _))
  · cases e
theorem df_rgL {te te2 : TE} {me me2 : SM D} (h : DenE K te me) (h' : DenE K te2 me2) : DenF K (tLstRg (tRg2 te te2)) (mRgL me me2) := fun F H σ ρ ρ' d Q r e q => by
  obtain ⟨⟨x, ρ1⟩, e1, e⟩ := Rs.of_bind e
  obtain ⟨⟨y, ρ2⟩, e2, e⟩ := Rs.of_bind e
  simp only at e
  split at e
  · rename_i i j _ _
    obtain ⟨hk, e⟩ := Rs.of_grd e
    cases e
    refine h F H σ ρ _ _ _ r e1 fun v H1 p rp => ?_
    refine h' F H1 σ ρ1 _ _ _ p.rel e2 fun v2 H2 p2 rp2 => ?_
    cases rp
    cases rp2
    refine ⟨_, _, rfl, rfl, hk, fun a ha => ?_⟩
    exact q _ _ _ (p.trans p2) ha (Ext0.new ha) (top_new ha (rg_at _ _))
  · cases e
theorem df_rgL1 {te : TE} {me : SM D} (h : DenE K te me) : DenF K (tLstRg (tRg1 te)) (mRgL1 me) := fun F H σ ρ ρ' d Q r e q => by
  obtain ⟨⟨x, ρ1⟩, e1, e⟩ := Rs.of_bind e
  simp only at e
  split at e
  · rename_i j
    obtain ⟨hk, e⟩ := Rs.of_grd e
    cases e
    refine h F H σ ρ _ _ _ r e1 fun v H1 p rp => ?_
    cases rp
    refine ⟨_, rfl, hk, fun a ha => ?_⟩
    have this : ∀ O, RpAll K O H1 (rgV 0 j) (upD 0 j.toNat) := fun O => by
      have := rg_at (K := K) (O := O) (H := H1) 0 j
      rw [Int.sub_zero] at this
      exact this
    exact q _ _ _ p ha (Ext0.new ha) (top_new ha (this _))
  · cases e
end
@[simp] theorem x_rgT (ρ : DE) (m m' : SM D) : mRgT m m' ρ = (m ρ).bind fun p => (m' p.2).bind fun q => match p.1, q.1 with
  | .int i, .int j => Rs.grd (RgOk i j) (.ok (.tuple (upD i (j - i).toNat), q.2))
  | _, _ => .stuck := rfl
@[simp] theorem x_rgL (ρ : DE) (m m' : SM D) : mRgL m m' ρ = (m ρ).bind fun p => (m' p.2).bind fun q => match p.1, q.1 with
  | .int i, .int j => Rs.grd (RgOk i j) (.ok (.list (upD i (j - i).toNat), q.2))
  | _, _ => .stuck := rfl
@[simp] theorem x_rgT1 (ρ : DE) (m : SM D) : mRgT1 m ρ = (m ρ).bind fun p => match p.1 with
  | .int j => Rs.grd (RgOk 0 j) (.ok (.tuple (upD 0 j.toNat), p.2))
  | _ => .stuck := rfl
@[simp] theorem x_rgL1 (ρ : DE) (m : SM D) : mRgL1 m ρ = (m ρ).bind fun p => match p.1 with
  | .int j => Rs.grd (RgOk 0 j) (.ok (.list (upD 0 j.toNat), p.2))
  | _ => .stuck := rfl
end
end DL
namespace DL
open PySem PySem.Spec PyProof.Rows L2
noncomputable section
/-! ### a tuple of texts of the module; x in it -/
def vStr : Value → Option Str
  | .str x _ => some x
  | _ => none
theorem strs_of_v : ∀ (vs : List Value) (ks : List Str), vs.map vStr = ks.map some → StrsAre vs ks
  | [], [], _ => .nil
  | [], _ :: _, e => by cases e
  | _ :: _, [], e => by cases e
  | v :: vs, k :: ks, e => by
    rw [List.map_cons, List.map_cons] at e
    obtain ⟨e1, e2⟩ := List.cons.inj e
    cases v with
    | str x t => cases e1; exact .cons _ _ (strs_of_v vs ks e2)
    | _ => cases e1
structure GTupAt (K : PySem.W.Frag) (mg : Str → Option Value) (x : Str) (ks : List Str) (a : Addr) : Prop where
  at_ : mg x = some (.ref a)
  ex : ∃ o items n, K.lookup a = some o ∧ o.cls = .type "tuple" ∧ o.data = .seq items n ∧ StrsAre items.toList ks
def GTup (K : PySem.W.Frag) (mg : Str → Option Value) (x : Str) (ks : List Str) : Prop := ∃ a, GTupAt K mg x ks a
theorem glb_tup {K : PySem.W.Frag} {h : Heap} {mg : Str → Option Value} {x : Str} {ks : List Str} {a : Addr} {dd : Option Addr} {items : Array Value} {n : Nat} {sl : Array (Option Value)} (X : K.In h) (G : h.Ns mainGlobals mg)
    (e : PySem.W.nsIn K mainGlobals x = some (some (.ref a))) (l : K.lookup a = some ⟨.type "tuple", dd, .seq items n, sl⟩) (s : items.toList.map vStr = ks.map some) : GTup K mg x ks :=
  ⟨a, PySem.W.mg_of X G e, _, items, n, l, rfl, rfl, strs_of_v _ _ s⟩
def rInG (a : Addr) (ks : List Str) (neg : Bool) : R2 := fun x y H Q => ∃ z, x = .str z ∧ y = .ref a ∧ Q (.bl ((ks.any (· == z)) != neg)) H
section
variable {X : Cx} {x : Str} {ks : List Str} {a : Addr}
theorem gtup_at (G : GTupAt X.K X.mg x ks a) {pins : List (Addr × Obj)} {σ : List (Option V)} {H : Hp} {s : Shared} (I : Inv X pins σ H s) : ∃ items, IsTup s.heap a items ∧ StrsAre items.toList ks := by
  obtain ⟨o, items, n, l, c, d, r⟩ := G.ex
  exact ⟨items, ⟨o, I.kIn _ _ l, c, n, d⟩, r⟩
theorem op_inG (G : GTupAt X.K X.mg x ks a) : OpR X (compareOp .In) (rInG a ks false) := by
  intro pins s σ H y z v u Q I ry rz h
  obtain ⟨w, rfl, rfl, q⟩ := h
  obtain ⟨t, rfl⟩ := ry
  cases rz
  obtain ⟨items, T, S⟩ := gtup_at G I
  exact in_tuple_strs T S ⟨.bl _, H, I, rfl, by simpa using q⟩
theorem op_notInG (G : GTupAt X.K X.mg x ks a) : OpR X (compareOp .NotIn) (rInG a ks true) := by
  intro pins s σ H y z v u Q I ry rz h
  obtain ⟨w, rfl, rfl, q⟩ := h
  obtain ⟨t, rfl⟩ := ry
  cases rz
  obtain ⟨items, T, S⟩ := gtup_at G I
  exact notin_tuple_strs T S ⟨.bl _, H, I, rfl, by simpa using q⟩
theorem pe_gr {pos : Pos} (G : GTupAt X.K X.mg x ks a) (hg : Gl X x := by rfl) (hd : (x == ("__debug__" : Str)) = false := by decide) : PE X (.Name x pos) (tC (.ref a)) :=
  pe_glob hg G.at_ rfl hd
end
def dInG (ks : List Str) (neg : Bool) : D → Rs D
  | .str z => .ok (.bool ((ks.any (· == z)) != neg))
  | _ => .stuck
theorem de_inG {K : PySem.W.Frag} {ta : TE} {ma : SM D} {a : Addr} {ks : List Str} {neg : Bool} (h : DenC K ta ma) : DenE K (tOp (rInG a ks neg) ta (tC (.ref a))) (mUn (dInG ks neg) ma) := fun F H σ ρ ρ' d Q rl e q => by
  obtain ⟨⟨x, ρ1⟩, e1, e⟩ := Rs.of_bind e
  obtain ⟨z, e3, e⟩ := Rs.of_bind e
  cases e
  refine h F H σ ρ _ x _ rl e1 fun v H1 p1 r1 => ?_
  cases x with
  | str y =>
    cases e3
    exact ⟨_, con_str r1, rfl, q _ H1 p1 (.bl _)⟩
  | _ => cases e3
@[simp] theorem x_inG (ks : List Str) (neg : Bool) (z : Str) : dInG ks neg (.str z) = .ok (.bool ((ks.any (· == z)) != neg)) := rfl
/-! ### a text, so many times -/
def strRep (x : Str) (n : Int) : Str := ⟨(List.replicate n.toNat x.cps).foldl (· ++ ·) #[]⟩
def rMulS : R2 := fun x y H Q => ∃ z n, x = .str z ∧ y = .int n ∧ 2 ≤ n ∧ 1 ≤ z.length ∧ n ≤ 1000 ∧ z.length ≤ 1000 ∧ Q (.str (strRep z n)) H
theorem op_mulS {X : Cx} : OpR X (binaryOp .Mult) rMulS := by
  intro pins s σ H x y v u Q I rx ry h
  obtain ⟨z, n, rfl, rfl, h2, h1, hn, hz, q⟩ := h
  obtain ⟨t, rfl⟩ := rx
  obtain ⟨k, rfl⟩ := ry
  have h3 : ¬ n < 1 := by omega
  have h4 : (n == 1 || z.length == 0) = false := by
    rw [Bool.or_eq_false_iff]
    exact ⟨by simp; omega, by simp; omega⟩
  have hb : ¬ ((z.length : Int) > (2 ^ 63 - 1) / n) := by
    have : (1000 : Int) ≤ (2 ^ 63 - 1) / n := by
      rw [Int.le_ediv_iff_mul_le (by omega)]
      have : (1000 : Int) * n ≤ 1000 * 1000 := by omega
      omega
    omega
  have hl : PySem.Builtin.Str.tooLong (z.length * n.toNat) = false := by
    have : z.length * n.toNat ≤ 1000 * 1000 := Nat.mul_le_mul hz (by omega)
    simp [PySem.Builtin.Str.tooLong, sizeLine]
    omega
  refine PySem.P.mul_str ?_ (fun _ _ => hb) (fun _ _ => hl) ?_
  · rw [decide_eq_false (by omega), decide_eq_false (by omega)] <;> rfl
  rw [if_neg h3, if_neg (by rw [h4]; decide)]
  exact ⟨fits_reps hl, .str _, H, I.tok _, ⟨_, rfl⟩, q⟩
def dMulS : D → D → Rs D
  | .str z, .int n => Rs.grd (2 ≤ n ∧ 1 ≤ z.length ∧ n ≤ 1000 ∧ z.length ≤ 1000) (.ok (.str (strRep z n)))
  | _, _ => .stuck
theorem oc_mulS {K : PySem.W.Frag} : OpC K rMulS dMulS := fun O H x y dx dy z Q hO h1 h2 e q => by
  unfold dMulS at e
  split at e
  · obtain ⟨⟨a, b, c, d⟩, e⟩ := Rs.of_grd e
    cases e
    exact ⟨_, _, con_str h1, con_int h2, a, b, c, d, q _ H Ext0.refl (.str _)⟩
  · cases e
@[simp] theorem x_mulS (z : Str) (n : Int) : dMulS (.str z) (.int n) = Rs.grd (2 ≤ n ∧ 1 ≤ z.length ∧ n ≤ 1000 ∧ z.length ≤ 1000) (.ok (.str (strRep z n))) := rfl
/-! ### len(set(numbers)) -/
def setN (ns : List Int) : Nat := (ns.foldl step_dedup []).length
theorem firstMet_all (ns : List Int) : firstMet (fun i => ns.getD i 0) ns.length = ns.foldl step_dedup [] := by
  unfold firstMet
  have : (List.range ns.length).map (fun i => ns.getD i 0) = ns := by
    apply List.ext_getElem
    · simp
    · intro i h1 h2
      simp [List.getElem_range, List.getD_eq_getElem?_getD, List.getElem?_eq_getElem h2]
  rw [this]
def tLenSetA (K : PySem.W.Frag) (ta : TE) : TE := fun σ H Q => ta σ H fun x H1 => ∃ (l : Addr) (ns : List Int), x = .ref l ∧ SqL K H1 l (ns.map V.int) ∧ ns.length ≤ 4000 ∧ Q (.int (setN ns : Nat)) H1
theorem pe_lenSetA {X : Cx} {a : Expr} {ta : TE} {p p2 q pos : Pos} (hg : Gl X "len") (hm : X.mg "len" = none) (hg2 : Gl X "set") (hm2 : X.mg "set" = none) (ha : PE X a ta) (hc : X.calm = true := by rfl)
    (na : starEach [a] X.env = (false, eval a X.env) :: starEach [] X.env := by rfl) : PE X (.Call (.Name "len" p) [.Call (.Name "set" p2) [a] [] q] [] pos) (tLenSetA X.K ta) := by
  refine ⟨fun pins s σ H Q I h => ?_⟩
  refine Call_ (ld_blt I hg hm boot_len ?_)
  refine PyProof.Rows.callWith_builtin1 (PyProof.Rows.args_cons ?_ rfl) rfl rfl
  refine Call_ (ld_blt I hg2 hm2 boot_set ?_)
  refine PyProof.Rows.callWith_type1 (PyProof.Rows.args_cons (thn (ha.run pins s σ H _ I h) fun v s1 ⟨x, H1, I1, r1, q1⟩ => PyProof.Rows.args_nil ?_) na) na rfl
  obtain ⟨l, ns, rfl, hq, hl, q1⟩ := q1
  cases r1
  obtain ⟨its, r, pl, hz⟩ := I1.list hq
  have hlen : its.toArray.size = ns.length := by rw [List.size_toArray, ← r.length, List.length_map]
  refine call_set_list (I1.ok.hd hc) pl.isList (by simpa using RZ.intsAre_vals r) (by rw [hlen]; unfold scanBound; omega) fun h' tk hS hk => ?_
  refine PyProof.Rows.args_nil ?_
  rw [hlen, firstMet_all] at hS
  have hle : (ns.foldl step_dedup []).length ≤ ns.length := by
    rw [← firstMet_all]
    exact firstMet_length_le _ _
  obtain ⟨o, es, ep, t, ho, hex, hd, _, _, _, hf, hn⟩ := hS
  have I2 : Inv X pins σ H1 { s1 with heap := h', toks := tk } := I1.kept fun b o e => hk b o (Heap.lt_size e) e
  exact call_len_set ho hex hd hf (by rw [hn] <;> omega) ⟨.int (setN ns : Nat), H1, I2.tok _, ⟨_, by rw [hn]; rfl⟩, q1⟩
def dLenSet : D → Rs D
  | .list ds => (ofO (intsOf ds)).bind fun ns => Rs.grd (ns.length ≤ 4000) (.ok (.int (setN ns)))
  | _ => .stuck
theorem de_lenSet {K : PySem.W.Frag} {ta : TE} {ma : SM D} (h : DenC K ta ma) : DenE K (tLenSetA K ta) (mUn dLenSet ma) := fun F H σ ρ ρ' d Q rl e q => by
  obtain ⟨⟨x, ρ1⟩, e1, e⟩ := Rs.of_bind e
  obtain ⟨z, e3, e⟩ := Rs.of_bind e
  cases e
  refine h F H σ ρ _ x _ rl e1 fun v H1 p1 r1 => ?_
  cases x with
  | list ds =>
    obtain ⟨ns, e4, e3⟩ := Rs.of_bind e3
    obtain ⟨hl, e3⟩ := Rs.of_grd e3
    cases e3
    have e5 := intsOf_eq (ofO_ok e4)
    subst e5
    obtain ⟨a, xs, rfl, s, r⟩ := r1
    have ex := r.ints_inv
    subst ex
    exact ⟨a, ns, rfl, s, hl, q _ H1 p1 (.int _)⟩
  | _ => cases e3
@[simp] theorem x_lenSet (ds : List D) : dLenSet (.list ds) = (ofO (intsOf ds)).bind fun ns => Rs.grd (ns.length ≤ 4000) (.ok (.int (setN ns))) := rfl
end
end DL
namespace DL
open PySem PySem.Spec PyProof.Rows L2
noncomputable section
/-! ### a call, the first argument a name whose thing the callee may change, the second one a name whose list the callee only reads -/
mutual
def lless : D → Bool
  | .none => true
  | .bool _ => true
  | .int _ => true
  | .str _ => true
  | .tuple ds => llessAll ds
  | _ => false
def llessAll : List D → Bool
  | [] => true
  | d :: ds => lless d && llessAll ds
end
section
variable {K : PySem.W.Frag} {F : Addr → Prop} {H H' : Hp}
theorem no_lst {a : Addr} {xs ys : List V} (h : Rd H a (.tup xs)) (q : H a = some (.lst ys)) : False := by
  rcases h with h2 | ⟨o, h2⟩
  · rw [q] at h2
    cases h2
  · rw [q] at h2
    cases h2
mutual
theorem rp_lless {O O' : Addr → Prop} (n : ∀ c, O' c → O c ∨ ∃ xs, H c = some (.lst xs)) : ∀ {v : V} {d : D}, Rp K O H v d → lless d = true → Rp K O' H v d
  | _, _, .non, _ => .non
  | _, _, .bl b, _ => .bl b
  | _, _, .int i, _ => .int i
  | _, _, .str x, _ => .str x
  | _, _, .lst h ha, e => by simp [lless] at e
  | _, _, .tup h ha, e => .tup (h.imp (fun h => ⟨fun z => (n _ z).elim h.1 fun ⟨xs, q⟩ => no_lst h.2 q, h.2⟩) id) (rpa_lless n ha (by simpa [lless] using e))
  | _, _, .dic h1 h2 h3 ha, e => by simp [lless] at e
  | _, _, .dit h1 h2 h3 ha, e => by simp [lless] at e
theorem rpa_lless {O O' : Addr → Prop} (n : ∀ c, O' c → O c ∨ ∃ xs, H c = some (.lst xs)) : ∀ {vs : List V} {ds : List D}, RpAll K O H vs ds → llessAll ds = true → RpAll K O' H vs ds
  | _, _, .nil, _ => .nil
  | _, _, .cons h ha, e => by
    simp only [llessAll, Bool.and_eq_true] at e
    exact .cons (rp_lless n h e.1) (rpa_lless n ha e.2)
end
def mCallB (f : SM Slot) (i j : Nat) : SM Slot := fun ρ => match ρ[i]?, ρ[j]? with
  | some (some (.own d1)), some (some (.own (.list ds))) => if i = j then .stuck else (f [some (.own d1), some (.val (.list ds))]).bind fun q => match q.1, q.2 with
    | .val d, some (.own (.list cs)) :: _ => if lless d = true ∧ llessAll cs = true then .ok (.val d, ρ.set i (some (.own (.list cs)))) else .stuck
    | _, _ => .stuck
  | _, _ => mCallO f i (mCons (mVar j) mNil) ρ
theorem dr_callB {n i j : Nat} {f : SM Slot} {E : XK} (hn : ∀ ρ q, f ρ = .ok q → ρ.length = n) : DenR K (tCall (spD K n f) [] E (tCons (tVar i) (tCons (tVar j) tNil))) (mCallB f i j) := fun F H σ ρ ρ' s Q r e q => by
  unfold mCallB at e
  split at e
  · rename_i d1 ds o1 o2
    split at e
    · cases e
    rename_i hij
    obtain ⟨⟨s1, ρ2⟩, e2, e⟩ := Rs.of_bind e
    simp only at e
    split at e
    · rename_i d cs rest
      split at e
      · rename_i hl
        obtain ⟨hl1, hl2⟩ := hl
        cases e
        obtain ⟨a, ha, ta⟩ := r.mt i d1 o1
        obtain ⟨b, hb, tb⟩ := r.mt j (.list ds) o2
        have ab : a ≠ b := fun z => hij (r.inj i j _ _ a o1 o2 ha (by rw [z]; exact hb))
        refine ⟨_, ha, _, hb, ?_⟩
        have len := hn _ _ e2
        have own0 : ∀ c, Own ([V.ref a, V.ref b].map some) [some (.own d1), some (.val (.list ds))] c → c = a := fun c ⟨k, x, h1, h2⟩ => by
          match k, h1, h2 with
          | 0, h1, h2 =>
            have h2' : some (some (V.ref a)) = some (some (V.ref c)) := h2
            cases h2'
            rfl
          | 1, h1, h2 => have h1' : some (some (Slot.val (.list ds))) = some (some (Slot.own x)) := h1; cases h1'
          | k + 2, h1, h2 => simp at h1
        have oa : Own σ ρ a := ⟨i, d1, o1, ha⟩
        have fo : ∀ c, OF (fun c => OF F σ ρ c ∧ c ≠ a ∧ c ≠ b) ([V.ref a, V.ref b].map some) [some (.own d1), some (.val (.list ds))] c → OF F σ ρ c := fun c z => by
          rcases z with z | z
          · exact z.1
          · rw [own0 c z]; exact .inr oa
        have nb : ¬ OF (fun c => OF F σ ρ c ∧ c ≠ a ∧ c ≠ b) ([V.ref a, V.ref b].map some) [some (.own d1), some (.val (.list ds))] b := fun z => by
          rcases z with z | z
          · exact z.2.2 rfl
          · exact ab (own0 b z).symm
        have r0 : Rel K (fun c => OF F σ ρ c ∧ c ≠ a ∧ c ≠ b) H ([V.ref a, V.ref b].map some) [some (.own d1), some (.val (.list ds))] := by
          refine ⟨rfl, fun k x hd => ?_, fun k x hd => ?_, fun k l x y c hk hl h1 h2 => ?_, fun c z => ⟨r.of_some z.1, fun y => z.2.1 (own0 c y)⟩⟩
          · match k, hd with
            | 0, hd => have hd' : some (some (Slot.own d1)) = some (some (Slot.val x)) := hd; cases hd'
            | 1, hd =>
              have hd' : some (some (Slot.val (.list ds))) = some (some (Slot.val x)) := hd
              cases hd'
              exact ⟨_, rfl, tb.rp fo nb⟩
            | k + 2, hd => simp at hd
          · match k, hd with
            | 0, hd =>
              have hd' : some (some (Slot.own d1)) = some (some (Slot.own x)) := hd
              cases hd'
              exact ⟨a, rfl, ta.step Ext.refl (fun _ q => q) fun c z => .inl (fo c z)⟩
            | 1, hd => have hd' : some (some (Slot.val (.list ds))) = some (some (Slot.own x)) := hd; cases hd'
            | k + 2, hd => simp at hd
          · match k, l, hk, hl with
            | 0, 0, _, _ => rfl
            | 1, _, hk, _ => have hd' : some (some (Slot.val (.list ds))) = some (some (Slot.own x)) := hk; cases hd'
            | 0, 1, _, hl => have hd' : some (some (Slot.val (.list ds))) = some (some (Slot.own y)) := hl; cases hd'
            | k + 2, _, hk, _ => simp at hk
            | 0, l + 2, _, hl => simp at hl
        show spD K n f ([V.ref a, V.ref b] ++ []) H Q E
        rw [List.append_nil]
        refine ⟨len, _, _, _, _, r0, e2, ?_⟩
        intro v H' pp rv
        have nx : ∀ c o, c ≠ a → H c = some o → H' c = some o := fun c o nc hc => pp.ext c o hc fun z => nc (own0 c z)
        obtain ⟨a2, ha2, t2⟩ := pp.rel.mt 0 (.list cs) rfl
        have ha2' : some (some (V.ref a)) = some (some (V.ref a2)) := ha2
        cases ha2'
        obtain ⟨xb, hxb, _⟩ := tb
        have hxb' : H' b = some (.lst xb) := nx b _ (fun z => ab z.symm) hxb
        have incl : ∀ c, OF F σ ρ c → OF (fun c => OF F σ ρ c ∧ c ≠ a ∧ c ≠ b) ([V.ref a, V.ref b].map some) (some (Slot.own (.list cs)) :: rest) c ∨ ∃ xs, H' c = some (.lst xs) := fun c z => by
          by_cases hca : c = a
          · exact .inl (.inr ⟨0, _, rfl, by rw [hca]; rfl⟩)
          · by_cases hcb : c = b
            · exact .inr ⟨xb, by rw [hcb]; exact hxb'⟩
            · exact .inl (.inl ⟨z, hca, hcb⟩)
        obtain ⟨xa, hxa, rxa⟩ := t2
        have tr := r.turn o1 ha nx (d' := .list cs) ⟨xa, hxa, rpa_lless (fun c z => by
          rcases z with z | z
          · rcases incl c z with z | z
            · exact .inl (.inl z)
            · exact .inr z
          · exact .inl (.inr z)) rxa hl2⟩
        exact q v H' tr (rp_lless (fun c z => incl c (z.imp id (tr.sub c))) rv hl1)
      · cases e
    · cases e
  · exact dr_callO hn (dl_cons de_var dl_nil) F H σ ρ ρ' s Q r e q
end
@[simp] theorem x_callB (f : SM Slot) (i j : Nat) (ρ : DE) : mCallB f i j ρ = match ρ[i]?, ρ[j]? with
  | some (some (.own d1)), some (some (.own (.list ds))) => if i = j then .stuck else (f [some (.own d1), some (.val (.list ds))]).bind fun q => match q.1, q.2 with
    | .val d, some (.own (.list cs)) :: _ => if lless d = true ∧ llessAll cs = true then .ok (.val d, ρ.set i (some (.own (.list cs)))) else .stuck
    | _, _ => .stuck
  | _, _ => mCallO f i (mCons (mVar j) mNil) ρ := rfl
@[simp] theorem ll_int (i : Int) : lless (.int i) = true := by simp [lless]
@[simp] theorem ll_str (i : Str) : lless (.str i) = true := by simp [lless]
@[simp] theorem ll_tup (ds : List D) : lless (.tuple ds) = llessAll ds := by simp [lless]
@[simp] theorem ll_nil : llessAll [] = true := by simp [llessAll]
@[simp] theorem ll_cons (d : D) (ds : List D) : llessAll (d :: ds) = (lless d && llessAll ds) := by simp [llessAll]
end
end DL
namespace DL
open PySem PySem.Spec PyProof.Rows L2
open PySem.Sem (wp)
/-! ### zip over lists and tuples, mixed -/
inductive Kd where
  | lst | tup
def KIt (h : Heap) : Kd → Addr → Addr → Nat → Prop
  | .lst, i, l, n => h.IsListIter i l n
  | .tup, i, l, n => h.IsTupleIter i l n
def KSq (h : Heap) : Kd → Addr → Array Value → Prop
  | .lst, l, xs => h.IsList l xs
  | .tup, l, xs => h.IsTuple l xs
def Kd.it : Kd → String
  | .lst => "list_iterator"
  | .tup => "tuple_iterator"
theorem KIt.ext {h h' : Heap} {k : Kd} {i l b : Addr} {n : Nat} (x : KIt h k i l n) (e : Heap.ExtBut b h h') (hb : i ≠ b) : KIt h' k i l n := by
  cases k with
  | lst => exact Heap.IsListIter.extBut x e hb
  | tup => exact Heap.IsTupleIter.extBut x e hb
theorem KSq.ext {h h' : Heap} {k : Kd} {l b : Addr} {xs : Array Value} (x : KSq h k l xs) (e : Heap.ExtBut b h h') (hb : l ≠ b) : KSq h' k l xs := by
  cases k with
  | lst => exact Heap.IsList.extBut x e hb
  | tup => exact Heap.IsTuple.extBut x e hb
theorem KIt.to {h h' : Heap} {k : Kd} {i l : Addr} {n : Nat} (x : KIt h k i l n) (e : ∀ o, h.get? i = some o → h'.get? i = some o) : KIt h' k i l n := by
  cases k with
  | lst => exact Heap.IsListIter.at x e
  | tup => exact Heap.IsTupleIter.at x e
theorem KIt.obj {h : Heap} {k : Kd} {i l : Addr} {n : Nat} (x : KIt h k i l n) : ∃ o, h.get? i = some o ∧ ∀ v, o.data ≠ .cell v := by
  cases k with
  | lst => obtain ⟨o, e, _, d⟩ := x; exact ⟨o, e, fun v q => by rw [d] at q; cases q⟩
  | tup => obtain ⟨o, e, _, d⟩ := x; exact ⟨o, e, fun v q => by rw [d] at q; cases q⟩
section
variable {prog : Program} {w : World} {A : Around} {E : Value → Shared → Prop} {s : Shared}
theorem k_next {k : Kd} {it l : Addr} {i : Nat} {items : Array Value} {x : Value} {Q : Value → Shared → Prop} (hit : KIt s.heap k it l i) (hl : KSq s.heap k l items) (hx : items[i]? = some x)
    (hQ : ∀ h', KIt h' k it l (i + 1) → Heap.SameBut it s.heap h' → Q x { s with heap := h' }) : wpAny (model prog w) A (Builtin.SmallTypes.nextOf (.ref it)) Q E s := by
  cases k with
  | lst => exact wpAny_nextOf_list_item hit hl hx hQ
  | tup => exact RZ.nextOf_tuple_item hit hl hx hQ
theorem k_end {k : Kd} {it l : Addr} {i : Nat} {items : Array Value} {Q : Value → Shared → Prop} (hh : A.handled = none) (hit : KIt s.heap k it l i) (hl : KSq s.heap k l items) (hx : items[i]? = none)
    (hE : ∀ h' e, Heap.ExtBut it s.heap h' → (∃ o, h'.get? e = some o ∧ o.cls = .type "StopIteration") → E (.ref e) { s with heap := h' }) : wpAny (model prog w) A (Builtin.SmallTypes.nextOf (.ref it)) Q E s := by
  cases k with
  | lst => exact wpAny_nextOf_list_end hh hit hl hx hE
  | tup => exact RZ.nextOf_tuple_end hh hit hl hx hE
/-- a tuple of the zip's own -/
abbrev IsRow (h : Heap) (T : Addr) (xs : Array Value) : Prop := h.get? T = some { cls := .type "tuple", data := .seq xs }
theorem tup_put {T : Addr} {xs : Array Value} {x : Value} {k : Nat} {Q : Unit → Shared → Prop} (hT : IsRow s.heap T xs) (hz : xs.size ≤ 10) (h : ∀ h', IsRow h' T (xs.setIfInBounds k x) → Heap.SameBut T s.heap h' → Q () { s with heap := h' }) :
    wpAny (model prog w) A (updateSeq T (·.setIfInBounds k x)) Q E s := by
  have hb : xs.size ≤ sizeLine := Nat.le_trans hz (by decide)
  refine wpAny_updateSeq hT rfl (h _ ?_ (Heap.SameBut.update ..)) hb (by rw [Array.size_setIfInBounds]; omega)
  show (s.heap.update T _).get? T = _
  rw [Heap.get?_update_self _ hT rfl]
  simp [Obj.mapSeq]
/-- the state of one that is drawn from -/
structure Src where
  k : Kd
  i : Addr
  l : Addr
  xs : Array Value
/-- the state at a turn: the iterators in their place, all apart -/
structure Zst (h : Heap) (z TI TO : Addr) (ss : List Src) (n : Nat) : Prop where
  its : ∀ c ∈ ss, KIt h c.k c.i c.l n
  sqs : ∀ c ∈ ss, KSq h c.k c.l c.xs
structure Zap (z TI TO : Addr) (ss : List Src) : Prop where
  nd : (z :: TI :: TO :: ss.map (·.i)).Nodup
  ls : ∀ c ∈ ss, c.l ≠ z ∧ c.l ≠ TO ∧ ∀ e ∈ ss, c.l ≠ e.i
theorem loop_all {β : Type} {ss : List Src} {r0 : β} {body : Value × Nat → β → Sem (ForInStep β)} (inv : Nat → Shared → Prop)
    (hs : ∀ k c, ss[k]? = some c → ∀ s, inv k s → wpAny (model prog w) A (body (.ref c.i, k) r0) (fun r s' => r = .yield r0 ∧ inv (k + 1) s') E s) :
    ∀ (j k : Nat) (s : Shared), k + j = ss.length → inv k s → wpAny (model prog w) A (forIn (((ss.drop k).map fun c => Value.ref c.i).zipIdx k) r0 body) (fun r s' => r = r0 ∧ inv ss.length s') E s
  | 0, k, s, e, h => by
    have : k = ss.length := by omega
    subst this
    rw [List.drop_length]
    exact wpAny_pure ⟨rfl, h⟩
  | j + 1, k, s, e, h => by
    have hk : k < ss.length := by omega
    rw [List.drop_eq_getElem_cons hk, List.map_cons, List.zipIdx_cons, List.forIn_cons]
    refine wpAny_bind (wpAny_mono (hs k ss[k] (List.getElem?_eq_getElem hk) s h) (fun r s' q => ?_) (fun _ _ h => h))
    obtain ⟨rfl, q⟩ := q
    exact loop_all inv hs j (k + 1) s' (by omega) q
theorem loop_to {β : Type} {ss : List Src} {r0 : β} {body : Value × Nat → β → Sem (ForInStep β)} {Q : β → Shared → Prop} (inv : Nat → Shared → Prop) (m : Nat) (cm : Src) (hm : ss[m]? = some cm)
    (hs : ∀ k c, k < m → ss[k]? = some c → ∀ s, inv k s → wpAny (model prog w) A (body (.ref c.i, k) r0) (fun r s' => r = .yield r0 ∧ inv (k + 1) s') E s)
    (he : ∀ s, inv m s → wpAny (model prog w) A (body (.ref cm.i, m) r0) (fun _ _ => False) E s) :
    ∀ (j k : Nat) (s : Shared), k + j = m → inv k s → wpAny (model prog w) A (forIn (((ss.drop k).map fun c => Value.ref c.i).zipIdx k) r0 body) Q E s
  | 0, k, s, e, h => by
    have : k = m := by omega
    subst this
    obtain ⟨hk, ek⟩ := List.getElem?_eq_some_iff.mp hm
    rw [List.drop_eq_getElem_cons hk, List.map_cons, List.zipIdx_cons, List.forIn_cons, ek]
    exact wpAny_bind (wpAny_mono (he s h) (fun r s' q => q.elim) (fun _ _ h => h))
  | j + 1, k, s, e, h => by
    have hk : k < ss.length := by
      have := (List.getElem?_eq_some_iff.mp hm).1
      omega
    rw [List.drop_eq_getElem_cons hk, List.map_cons, List.zipIdx_cons, List.forIn_cons]
    refine wpAny_bind (wpAny_mono (hs k ss[k] (by omega) (List.getElem?_eq_getElem hk) s h) (fun r s' q => ?_) (fun _ _ h => h))
    obtain ⟨rfl, q⟩ := q
    exact loop_to inv m cm hm hs he j (k + 1) s' (by omega) q
/-- how far the draws have come -/
structure Zin (s0 : Shared) (z TI TO : Addr) (ss : List Src) (n : Nat) (vals : List Value) (k : Nat) (h : Heap) : Prop where
  zip : IsZip h z TI TO .ellipsis
  ti : IsRow h TI (ss.map fun c => Value.ref c.i).toArray
  row : ∃ a, IsRow h TO a ∧ a.size = ss.length ∧ ∀ j, j < k → a[j]? = vals[j]?
  its : ∀ j c, ss[j]? = some c → KIt h c.k c.i c.l (if j < k then n + 1 else n)
  sqs : ∀ c ∈ ss, KSq h c.k c.l c.xs
  size : h.objs.size = s0.heap.objs.size
  keep : ∀ c o, c ≠ z → c ≠ TO → (∀ e ∈ ss, c ≠ e.i) → s0.heap.get? c = some o → h.get? c = some o
theorem Zap.iz {z TI TO : Addr} {ss : List Src} (D : Zap z TI TO ss) {c : Src} (hc : c ∈ ss) : c.i ≠ z ∧ c.i ≠ TI ∧ c.i ≠ TO := by
  have h := D.nd
  simp only [List.nodup_cons, List.mem_cons, List.mem_map, not_or, not_exists, not_and] at h
  exact ⟨fun e => h.1.2.2 c hc e, fun e => h.2.1.2 c hc e, fun e => h.2.2.1 c hc e⟩
theorem Zap.zz {z TI TO : Addr} {ss : List Src} (D : Zap z TI TO ss) : z ≠ TI ∧ z ≠ TO ∧ TI ≠ TO := by
  have h := D.nd
  simp only [List.nodup_cons, List.mem_cons, not_or] at h
  exact ⟨h.1.1, h.1.2.1, h.2.1.1⟩
theorem Zap.inj {z TI TO : Addr} {ss : List Src} (D : Zap z TI TO ss) {j k : Nat} {c e : Src} (hj : ss[j]? = some c) (hk : ss[k]? = some e) (h : j ≠ k) : c.i ≠ e.i := by
  have hn := D.nd
  simp only [List.nodup_cons] at hn
  intro he
  obtain ⟨hj', ej⟩ := List.getElem?_eq_some_iff.mp hj
  obtain ⟨hk', ek⟩ := List.getElem?_eq_some_iff.mp hk
  refine h ((List.getElem_inj (h₀ := by rw [List.length_map]; exact hj') (h₁ := by rw [List.length_map]; exact hk') hn.2.2.2).mp ?_)
  rw [List.getElem_map, List.getElem_map, ej, ek, he]
/-- one draw -/
theorem Zin.step {s0 : Shared} {z TI TO : Addr} {ss : List Src} {n : Nat} {vals : List Value} {k : Nat} {h h1 h2 : Heap} {c : Src} {x : Value} {a : Array Value} (D : Zap z TI TO ss) (I : Zin s0 z TI TO ss n vals k h) (hc : ss[k]? = some c) (hx : vals[k]? = some x)
    (i1 : KIt h1 c.k c.i c.l (n + 1)) (sb1 : Heap.SameBut c.i h h1) (ha : IsRow h TO a) (hs : a.size = ss.length) (hv : ∀ j, j < k → a[j]? = vals[j]?) (r2 : IsRow h2 TO (a.setIfInBounds k x)) (sb2 : Heap.SameBut TO h1 h2) : Zin s0 z TI TO ss n vals (k + 1) h2 := by
  have hcm := List.mem_of_getElem? hc
  have di := D.iz hcm
  have dz := D.zz
  have kl : k < ss.length := (List.getElem?_eq_some_iff.mp hc).1
  refine ⟨sb2.extBut _ _ dz.2.1 (sb1.extBut _ _ di.1.symm I.zip), sb2.extBut _ _ dz.2.2 (sb1.extBut _ _ di.2.1.symm I.ti), ⟨_, r2, by rw [Array.size_setIfInBounds, hs], fun j hj => ?_⟩, fun j e he => ?_, fun e he => ?_, by rw [sb2.1, sb1.1, I.size], fun b o b1 b2 b3 hb => ?_⟩
  · by_cases hjk : j = k
    · subst hjk
      rw [Array.getElem?_setIfInBounds_self_of_lt (by omega), hx]
    · rw [Array.getElem?_setIfInBounds_ne (fun e => hjk e.symm)]
      exact hv j (by omega)
  · by_cases hjk : j = k
    · subst hjk
      rw [hc] at he
      cases he
      rw [if_pos (by omega)]
      exact i1.ext sb2.extBut di.2.2
    · have := I.its j e he
      have h3 : (if j < k + 1 then n + 1 else n) = (if j < k then n + 1 else n) := by
        by_cases h4 : j < k
        · rw [if_pos h4, if_pos (by omega)]
        · rw [if_neg h4, if_neg (by omega)]
      rw [h3]
      exact (this.ext sb1.extBut (D.inj he hc hjk)).ext sb2.extBut (D.iz (List.mem_of_getElem? he)).2.2
  · have l := D.ls e he
    exact ((I.sqs e he).ext sb1.extBut (l.2.2 c hcm)).ext sb2.extBut l.2.1
  · exact sb2.extBut _ _ b2 (sb1.extBut _ _ (b3 c hcm) (I.keep b o b1 b2 b3 hb))
theorem zn_item {z TI TO : Addr} {ss : List Src} {n : Nat} {vals : List Value} {old : Array Value} {Q : Value → Shared → Prop} (D : Zap z TI TO ss) (hne : ss ≠ []) (hlen : ss.length ≤ 10) (hz : IsZip s.heap z TI TO .none)
    (hTI : IsRow s.heap TI (ss.map fun c => Value.ref c.i).toArray) (hTO : IsRow s.heap TO old) (hos : old.size = ss.length) (st : Zst s.heap z TI TO ss n) (hvl : vals.length = ss.length) (hv : ∀ (k : Nat) (c : Src), ss[k]? = some c → ∃ x, c.xs[n]? = some x ∧ vals[k]? = some x)
    (hQ : ∀ h', IsZip h' z TI TO (rawInt s.heap.objs.size) → IsRow h' TI (ss.map fun c => Value.ref c.i).toArray → (∃ a, IsRow h' TO a ∧ a.size = ss.length) → Zst h' z TI TO ss (n + 1) → IsRow h' s.heap.objs.size vals.toArray → h'.objs.size = s.heap.objs.size + 1 →
      (∀ c o, c ≠ z → c ≠ TO → (∀ e ∈ ss, c ≠ e.i) → s.heap.get? c = some o → h'.get? c = some o) → Q (.ref s.heap.objs.size) { s with heap := h' }) :
    wpAny (model prog w) A (Builtin.«zip.__next__» ⟨[.ref z], []⟩) (fun fin s' => ∃ v, fin = .done (.ret v) ∧ Q v s') E s := by
  show wpAny _ _ (field (.ref z) 2 >>= _) _ _ _
  refine wpAny_bind (wpAny_field hz rfl (x := .bool false) rfl ?_)
  show wpAny _ _ (field (.ref z) 3 >>= _) _ _ _
  refine wpAny_bind (wpAny_field hz rfl (x := .ref TI) rfl ?_)
  refine wpAny_bind (wpAny_seqItems hTI rfl ?_)
  have hemp : (ss.map fun c => Value.ref c.i).toArray.isEmpty = false := by
    cases ss with
    | nil => exact (hne rfl).elim
    | cons a r => rfl
  simp only [hemp, Bool.false_eq_true, if_false]
  show wpAny _ _ (Builtin.SmallTypes.ownedTupleIsFree (.ref z) >>= _) _ _ _
  refine wpAny_bind ?_
  unfold Builtin.SmallTypes.ownedTupleIsFree
  refine wpAny_bind (wpAny_field hz rfl (x := .none) rfl (wpAny_pure ?_))
  simp only [if_true]
  refine wpAny_bind (wpAny_rule ?_)
  refine wpAny_bind (wpAny_field hz rfl (x := .ref TO) rfl ?_)
  refine wpAny_bind (wpAny_setField_rec hz (by simp) fun h₁ hz₁ hs₁ => ?_)
  replace hz₁ : IsZip h₁ z TI TO .ellipsis := hz₁
  refine wpAny_bind ?_
  have dz := D.zz
  have I0 : Zin s z TI TO ss n vals 0 h₁ := ⟨hz₁, hs₁.extBut _ _ dz.1.symm hTI, ⟨old, hs₁.extBut _ _ dz.2.1.symm hTO, hos, fun j hj => absurd hj (Nat.not_lt_zero _)⟩, fun j c hc => by
      rw [if_neg (Nat.not_lt_zero _)]
      have hcm := List.mem_of_getElem? hc
      exact (st.its c hcm).ext hs₁.extBut (D.iz hcm).1, fun c hc => (st.sqs c hc).ext hs₁.extBut (D.ls c hc).1, hs₁.1, fun c o c1 c2 c3 e => hs₁.extBut _ _ c1 e⟩
  have hlist : (ss.map fun c => Value.ref c.i).toArray.toList.zipIdx = ((ss.drop 0).map fun c => Value.ref c.i).zipIdx 0 := rfl
  rw [hlist]
  refine wpAny_mono (loop_all (fun k s' => ∃ h', s' = { s with heap := h' } ∧ Zin s z TI TO ss n vals k h') (fun k c hc s' hi => ?_) ss.length 0 _ (by omega) ⟨h₁, rfl, I0⟩) (fun r s' q => ?_) (fun _ _ h => h)
  · obtain ⟨h', rfl, I⟩ := hi
    obtain ⟨x, hx, hvx⟩ := hv k c hc
    have hcm := List.mem_of_getElem? hc
    have di := D.iz hcm
    have hit := I.its k c hc
    rw [if_neg (Nat.lt_irrefl k)] at hit
    obtain ⟨a, ha, hsa, hva⟩ := I.row
    dsimp only
    refine wpAny_bind (wpAny_onRaise ?_)
    show wpAny _ _ (Builtin.SmallTypes.nextOf (.ref c.i) >>= _) _ _ _
    refine wpAny_bind (k_next hit (I.sqs c hcm) hx fun h2 i2 sb2 => wpAny_pure ?_)
    have ha2 : IsRow h2 TO a := sb2.extBut _ _ di.2.2.symm ha
    refine wpAny_bind (wpAny_seqItems ha2 rfl ?_)
    refine wpAny_bind (tup_put ha2 (by omega) fun h3 r3 sb3 => ?_)
    refine wpAny_bind (wpAny_letGo (wpAny_pure ?_))
    exact ⟨rfl, h3, rfl, I.step D hc hvx i2 sb2 ha hsa hva r3 sb3⟩
  · obtain ⟨rfl, h₅, rfl, I⟩ := q
    dsimp only
    obtain ⟨a, ha, hsa, hva⟩ := I.row
    have hav : a.toList = vals := by
      apply List.ext_getElem?
      intro j
      by_cases hj : j < ss.length
      · have := hva j hj
        rw [Array.getElem?_toList]
        exact this
      · rw [List.getElem?_eq_none (by rw [Array.length_toList]; omega), List.getElem?_eq_none (by omega)]
    refine wpAny_bind (wpAny_seqItems ha rfl ?_)
    refine wpAny_bind (wpAny_newTuple ?_ (by
      rw [Array.length_toList, hsa]
      exact Nat.le_trans hlen (by decide)))
    have hzlt : z < h₅.objs.size := Heap.lt_size I.zip
    show wpAny _ _ (Builtin.SmallTypes.ownedTupleHandOut (.ref z) (.ref h₅.objs.size) >>= _) _ _ _
    refine wpAny_bind ?_
    unfold Builtin.SmallTypes.ownedTupleHandOut
    have hz₆ : IsZip (h₅.push { cls := .type "tuple", data := .seq a.toList.toArray }) z TI TO .ellipsis := Heap.get?_push_of_some _ I.zip
    refine wpAny_bind (wpAny_setField_rec hz₆ (by simp) fun h₇ hz₇ hs₇ => ?_)
    replace hz₇ : IsZip h₇ z TI TO (rawInt h₅.objs.size) := hz₇
    refine wpAny_setField_rec hz₇ (by simp) fun h₈ hz₈ hs₈ => ?_
    replace hz₈ : IsZip h₈ z TI TO (rawInt h₅.objs.size) := hz₈
    have up : ∀ c o, c ≠ z → h₅.get? c = some o → h₈.get? c = some o := fun c o c1 e => hs₈.extBut _ _ c1 (hs₇.extBut _ _ c1 (Heap.get?_push_of_some _ e))
    have hT₈ : IsRow h₈ h₅.objs.size a.toList.toArray := hs₈.extBut _ _ (Nat.ne_of_gt hzlt) (hs₇.extBut _ _ (Nat.ne_of_gt hzlt) (Heap.get?_push_size _ rfl))
    have hz8 : h₈.objs.size = h₅.objs.size + 1 := by rw [hs₈.1, hs₇.1, Heap.size_push]
    rw [I.size] at hz₈ hT₈ hz8
    rw [hav] at hT₈
    refine wpAny_pure ⟨_, rfl, ?_⟩
    show Q (.ref h₅.objs.size) _
    rw [I.size]
    have kt : ∀ (j : Nat) (c : Src), ss[j]? = some c → KIt h₅ c.k c.i c.l (n + 1) := fun j c hc => by
      have := I.its j c hc
      rwa [if_pos (List.getElem?_eq_some_iff.mp hc).1] at this
    refine hQ h₈ hz₈ (up _ _ dz.1.symm I.ti) ⟨a, up _ _ dz.2.1.symm ha, hsa⟩ ⟨fun c hc => ?_, fun c hc => ?_⟩ hT₈ hz8 fun c o c1 c2 c3 e => up c o c1 (I.keep c o c1 c2 c3 e)
    · obtain ⟨j, hj⟩ := List.mem_iff_getElem?.mp hc
      exact (kt j c hj).to fun o e => up _ o (D.iz hc).1 e
    · have l := D.ls c hc
      have q := I.sqs c hc
      cases hk : c.k with
      | lst =>
        rw [hk] at q
        exact Heap.IsList.extBut q (fun b o hb e => up b o hb e) l.1
      | tup =>
        rw [hk] at q
        exact Heap.IsTuple.extBut q (fun b o hb e => up b o hb e) l.1
theorem zn_end {z TI TO : Addr} {ss : List Src} {n : Nat} {old : Array Value} {Q : Fin → Shared → Prop} (hh : A.handled = none) (D : Zap z TI TO ss) (hlen : ss.length ≤ 10) (hz : IsZip s.heap z TI TO .none)
    (hTI : IsRow s.heap TI (ss.map fun c => Value.ref c.i).toArray) (hTO : IsRow s.heap TO old) (hos : old.size = ss.length) (st : Zst s.heap z TI TO ss n) (m : Nat) (cm : Src) (hm : ss[m]? = some cm) (hmn : cm.xs[n]? = none) (hlt : ∀ (k : Nat) (c : Src), k < m → ss[k]? = some c → ∃ x, c.xs[n]? = some x)
    (hE : ∀ h' e, (∀ c o, c ≠ z → c ≠ TO → (∀ e ∈ ss, c ≠ e.i) → s.heap.get? c = some o → h'.get? c = some o) → (∃ o, h'.get? e = some o ∧ o.cls = .type "StopIteration") → E (.ref e) { s with heap := h' }) :
    wpAny (model prog w) A (Builtin.«zip.__next__» ⟨[.ref z], []⟩) Q E s := by
  have hne : ss ≠ [] := fun e => by rw [e] at hm; cases hm
  show wpAny _ _ (field (.ref z) 2 >>= _) _ _ _
  refine wpAny_bind (wpAny_field hz rfl (x := .bool false) rfl ?_)
  show wpAny _ _ (field (.ref z) 3 >>= _) _ _ _
  refine wpAny_bind (wpAny_field hz rfl (x := .ref TI) rfl ?_)
  refine wpAny_bind (wpAny_seqItems hTI rfl ?_)
  have hemp : (ss.map fun c => Value.ref c.i).toArray.isEmpty = false := by
    cases ss with
    | nil => exact (hne rfl).elim
    | cons a r => rfl
  simp only [hemp, Bool.false_eq_true, if_false]
  show wpAny _ _ (Builtin.SmallTypes.ownedTupleIsFree (.ref z) >>= _) _ _ _
  refine wpAny_bind ?_
  unfold Builtin.SmallTypes.ownedTupleIsFree
  refine wpAny_bind (wpAny_field hz rfl (x := .none) rfl (wpAny_pure ?_))
  simp only [if_true]
  refine wpAny_bind (wpAny_rule ?_)
  refine wpAny_bind (wpAny_field hz rfl (x := .ref TO) rfl ?_)
  refine wpAny_bind (wpAny_setField_rec hz (by simp) fun h₁ hz₁ hs₁ => ?_)
  replace hz₁ : IsZip h₁ z TI TO .ellipsis := hz₁
  refine wpAny_bind ?_
  have dz := D.zz
  obtain ⟨vals, hvl, hvals⟩ : ∃ vals : List Value, vals.length = ss.length ∧ ∀ (k : Nat) (c : Src), k < m → ss[k]? = some c → ∃ x, c.xs[n]? = some x ∧ vals[k]? = some x := by
    refine ⟨ss.map fun c => (c.xs[n]?).getD .none, List.length_map .., fun k c hk hc => ?_⟩
    obtain ⟨x, hx⟩ := hlt k c hk hc
    exact ⟨x, hx, by rw [List.getElem?_map, hc]; simp [hx]⟩
  have I0 : Zin s z TI TO ss n vals 0 h₁ := ⟨hz₁, hs₁.extBut _ _ dz.1.symm hTI, ⟨old, hs₁.extBut _ _ dz.2.1.symm hTO, hos, fun j hj => absurd hj (Nat.not_lt_zero _)⟩, fun j c hc => by
      rw [if_neg (Nat.not_lt_zero _)]
      have hcm := List.mem_of_getElem? hc
      exact (st.its c hcm).ext hs₁.extBut (D.iz hcm).1, fun c hc => (st.sqs c hc).ext hs₁.extBut (D.ls c hc).1, hs₁.1, fun c o c1 c2 c3 e => hs₁.extBut _ _ c1 e⟩
  have hlist : (ss.map fun c => Value.ref c.i).toArray.toList.zipIdx = ((ss.drop 0).map fun c => Value.ref c.i).zipIdx 0 := rfl
  rw [hlist]
  refine loop_to (fun k s' => ∃ h', s' = { s with heap := h' } ∧ Zin s z TI TO ss n vals k h') m cm hm (fun k c hk hc s' hi => ?_) (fun s' hi => ?_) m 0 _ (by omega) ⟨h₁, rfl, I0⟩
  · obtain ⟨h', rfl, I⟩ := hi
    obtain ⟨x, hx, hvx⟩ := hvals k c hk hc
    have hcm := List.mem_of_getElem? hc
    have di := D.iz hcm
    have hit := I.its k c hc
    rw [if_neg (Nat.lt_irrefl k)] at hit
    obtain ⟨a, ha, hsa, hva⟩ := I.row
    dsimp only
    refine wpAny_bind (wpAny_onRaise ?_)
    show wpAny _ _ (Builtin.SmallTypes.nextOf (.ref c.i) >>= _) _ _ _
    refine wpAny_bind (k_next hit (I.sqs c hcm) hx fun h2 i2 sb2 => wpAny_pure ?_)
    have ha2 : IsRow h2 TO a := sb2.extBut _ _ di.2.2.symm ha
    refine wpAny_bind (wpAny_seqItems ha2 rfl ?_)
    refine wpAny_bind (tup_put ha2 (by omega) fun h3 r3 sb3 => ?_)
    refine wpAny_bind (wpAny_letGo (wpAny_pure ?_))
    exact ⟨rfl, h3, rfl, I.step D hc hvx i2 sb2 ha hsa hva r3 sb3⟩
  · obtain ⟨h', rfl, I⟩ := hi
    have hcm := List.mem_of_getElem? hm
    have di := D.iz hcm
    have hit := I.its m cm hm
    rw [if_neg (Nat.lt_irrefl m)] at hit
    dsimp only
    refine wpAny_bind (wpAny_onRaise ?_)
    show wpAny _ _ (Builtin.SmallTypes.nextOf (.ref cm.i) >>= _) _ _ _
    refine wpAny_bind (k_end hh hit (I.sqs cm hcm) hmn fun h₂ e hs₂ he => ?_)
    obtain ⟨oe, hoe, hce⟩ := he
    have hz₂ : IsZip h₂ z TI TO .ellipsis := hs₂ _ _ di.1.symm I.zip
    have hez : e ≠ z := fun x => by subst x; rw [hz₂] at hoe; cases hoe; simp at hce
    exact wpAny_setField_rec hz₂ (by simp) fun h₃ _ hs₃ => hE h₃ e (fun c o c1 c2 c3 x => hs₃.extBut _ _ c1 (hs₂ _ _ (c3 cm hcm) (I.keep c o c1 c2 c3 x))) ⟨oe, hs₃.extBut _ _ hez hoe, hce⟩
theorem pyNext_zn_item {z TI TO : Addr} {ss : List Src} {n : Nat} {vals : List Value} {old : Array Value} {Q : Option Value → Shared → Prop} (D : Zap z TI TO ss) (hne : ss ≠ []) (hlen : ss.length ≤ 10) (hz : IsZip s.heap z TI TO .none)
    (hTI : IsRow s.heap TI (ss.map fun c => Value.ref c.i).toArray) (hTO : IsRow s.heap TO old) (hos : old.size = ss.length) (st : Zst s.heap z TI TO ss n) (hvl : vals.length = ss.length) (hv : ∀ (k : Nat) (c : Src), ss[k]? = some c → ∃ x, c.xs[n]? = some x ∧ vals[k]? = some x)
    (hQ : ∀ h', IsZip h' z TI TO (rawInt s.heap.objs.size) → IsRow h' TI (ss.map fun c => Value.ref c.i).toArray → (∃ a, IsRow h' TO a ∧ a.size = ss.length) → Zst h' z TI TO ss (n + 1) → IsRow h' s.heap.objs.size vals.toArray → h'.objs.size = s.heap.objs.size + 1 →
      (∀ c o, c ≠ z → c ≠ TO → (∀ e ∈ ss, c ≠ e.i) → s.heap.get? c = some o → h'.get? c = some o) → Q (some (.ref s.heap.objs.size)) { s with heap := h' }) :
    wpAny (model prog w) A (pyNext (.ref z)) Q E s := by
  have hT : s.TypeIs (.ref z) "zip" := ⟨_, hz, rfl⟩
  unfold pyNext
  exact wpAny_bind (wpAny_attempt (wpAny_callSpecial?_slot (name := Str.ofString "__next__") hT F.slot_zip_next
    (wpAny_call_entry F.slot_zip_next hT F.entry_zip_next
      (zn_item D hne hlen hz hTI hTO hos st hvl hv fun h' a1 a2 a3 a4 a5 a6 a7 => wpAny_pure (hQ h' a1 a2 a3 a4 a5 a6 a7)) (F.args_zip_next_1 _))))
theorem pyNext_zn_end {z TI TO : Addr} {ss : List Src} {n : Nat} {old : Array Value} {Q : Option Value → Shared → Prop} (hh : A.handled = none) (D : Zap z TI TO ss) (hlen : ss.length ≤ 10) (hz : IsZip s.heap z TI TO .none)
    (hTI : IsRow s.heap TI (ss.map fun c => Value.ref c.i).toArray) (hTO : IsRow s.heap TO old) (hos : old.size = ss.length) (st : Zst s.heap z TI TO ss n) (m : Nat) (cm : Src) (hm : ss[m]? = some cm) (hmn : cm.xs[n]? = none) (hlt : ∀ (k : Nat) (c : Src), k < m → ss[k]? = some c → ∃ x, c.xs[n]? = some x)
    (hQ : ∀ h', (∀ c o, c ≠ z → c ≠ TO → (∀ e ∈ ss, c ≠ e.i) → s.heap.get? c = some o → h'.get? c = some o) → Q none { s with heap := h' }) : wpAny (model prog w) A (pyNext (.ref z)) Q E s := by
  have hT : s.TypeIs (.ref z) "zip" := ⟨_, hz, rfl⟩
  unfold pyNext
  refine wpAny_bind (wpAny_attempt (wpAny_callSpecial?_slot (name := Str.ofString "__next__") hT F.slot_zip_next
    (wpAny_call_entry F.slot_zip_next hT F.entry_zip_next (zn_end hh D hlen hz hTI hTO hos st m cm hm hmn hlt fun h' e hk he => ?_) (F.args_zip_next_1 _))))
  obtain ⟨o, ho, hc⟩ := he
  refine wpAny_bind (wpAny_isInstance (T := "StopIteration") (b := true) ⟨o, ho, hc⟩ isSubtype_stop ?_)
  exact wpAny_pure (hQ _ hk)
theorem k_iter {k : Kd} {l : Addr} {items : Array Value} {Q : Value → Shared → Prop} (hl : KSq s.heap k l items)
    (hQ : Q (.ref s.heap.objs.size) { s with heap := s.heap.push { cls := .type k.it, data := .fields #[.ref l, .int 0 0] } }) : wpAny (model prog w) A (pyIter (.ref l)) Q E s := by
  cases k with
  | lst => exact wpAny_pyIter_list hl hQ
  | tup => exact wpAny_pyIter_tuple hl hQ
end
theorem KSq.push {h : Heap} {k : Kd} {l : Addr} {xs : Array Value} (x : KSq h k l xs) (o : Obj) : KSq (h.push o) k l xs := by
  cases k with
  | lst => exact Heap.IsList.push x o
  | tup => exact Heap.IsTuple.push x o
/-! ### the zip itself -/
theorem typeCall_zip_3 (a b c : Value) : checkTypeCall "zip" ⟨[a, b, c], []⟩ = pure () := by kernel_rfl
theorem newCall_zip_3 (a b c : Value) : checkBuiltinCall "zip.__new__" ⟨[.type "zip", a, b, c], []⟩ = pure () := by kernel_rfl
theorem args_object_init_4 (a b c d : Value) : argsOk "object.__init__" ⟨[a, b, c, d], []⟩ := by
  unfold argsOk; rw [signature?_of (id := "object.__init__") (n := ['_', '_', 't', 'i', 'n', 'i', '_', '_']) (o := ['t', 'c', 'e', 'j', 'b', 'o']) (by kernel_rfl) F.owner_object]; kernel_rfl
abbrev itO (k : Kd) (l : Addr) : Obj := { cls := .type k.it, data := .fields #[.ref l, .int 0 0] }
abbrev rowO (xs : Array Value) : Obj := { cls := .type "tuple", data := .seq xs }
abbrev zipO (TI TO : Addr) : Obj := { cls := .type "zip", data := .fields #[.none, .bool false, .bool false, .ref TI, .ref TO] }
abbrev h2a (h : Heap) (k1 k2 : Kd) (l1 l2 : Addr) : Heap := (h.push (itO k1 l1)).push (itO k2 l2)
abbrev h2b (h : Heap) (k1 k2 : Kd) (l1 l2 : Addr) : Heap := (h2a h k1 k2 l1 l2).push (rowO #[.ref h.objs.size, .ref (h.push (itO k1 l1)).objs.size])
abbrev h2c (h : Heap) (k1 k2 : Kd) (l1 l2 : Addr) : Heap := (h2b h k1 k2 l1 l2).push (rowO #[.none, .none])
abbrev h2d (h : Heap) (k1 k2 : Kd) (l1 l2 : Addr) : Heap := (h2c h k1 k2 l1 l2).push (zipO (h2a h k1 k2 l1 l2).objs.size (h2b h k1 k2 l1 l2).objs.size)
theorem meets_zip2 (k1 k2 : Kd) (l1 l2 : Addr) (xs ys : Array Value) :
    Meets (Builtin.«zip.__new__» ⟨[.type "zip", .ref l1, .ref l2], []⟩) (fun _ R s => KSq s.heap k1 l1 xs ∧ KSq s.heap k2 l2 ys ∧
      R (.ok (.ret (.ref (h2c s.heap k1 k2 l1 l2).objs.size))) { s with heap := h2d s.heap k1 k2 l1 l2 }) :=
  .of_wp fun prog w A R s h => by
    obtain ⟨hp, g, d, tk, os⟩ := s; obtain ⟨hl1, hl2, h⟩ := h
    have hsub := sub_zip
    have hL1 : KSq (Shared.heap ⟨hp, g, d, tk, os⟩) k1 l1 xs := hl1
    have hL2 : KSq (Shared.heap ⟨hp.push (itO k1 l1), g, d, tk, os⟩) k2 l2 ys := KSq.push hl2 _
    wp_walk using k_iter hL1, k_iter hL2
    exact ⟨_, rfl, h⟩
abbrev h3a (h : Heap) (k1 k2 k3 : Kd) (l1 l2 l3 : Addr) : Heap := ((h.push (itO k1 l1)).push (itO k2 l2)).push (itO k3 l3)
abbrev h3b (h : Heap) (k1 k2 k3 : Kd) (l1 l2 l3 : Addr) : Heap := (h3a h k1 k2 k3 l1 l2 l3).push (rowO #[.ref h.objs.size, .ref (h.push (itO k1 l1)).objs.size, .ref ((h.push (itO k1 l1)).push (itO k2 l2)).objs.size])
abbrev h3c (h : Heap) (k1 k2 k3 : Kd) (l1 l2 l3 : Addr) : Heap := (h3b h k1 k2 k3 l1 l2 l3).push (rowO #[.none, .none, .none])
abbrev h3d (h : Heap) (k1 k2 k3 : Kd) (l1 l2 l3 : Addr) : Heap := (h3c h k1 k2 k3 l1 l2 l3).push (zipO (h3a h k1 k2 k3 l1 l2 l3).objs.size (h3b h k1 k2 k3 l1 l2 l3).objs.size)
theorem meets_zip3 (k1 k2 k3 : Kd) (l1 l2 l3 : Addr) (xs ys zs : Array Value) :
    Meets (Builtin.«zip.__new__» ⟨[.type "zip", .ref l1, .ref l2, .ref l3], []⟩) (fun _ R s => KSq s.heap k1 l1 xs ∧ KSq s.heap k2 l2 ys ∧ KSq s.heap k3 l3 zs ∧
      R (.ok (.ret (.ref (h3c s.heap k1 k2 k3 l1 l2 l3).objs.size))) { s with heap := h3d s.heap k1 k2 k3 l1 l2 l3 }) :=
  .of_wp fun prog w A R s h => by
    obtain ⟨hp, g, d, tk, os⟩ := s; obtain ⟨hl1, hl2, hl3, h⟩ := h
    have hsub := sub_zip
    have hL1 : KSq (Shared.heap ⟨hp, g, d, tk, os⟩) k1 l1 xs := hl1
    have hL2 : KSq (Shared.heap ⟨hp.push (itO k1 l1), g, d, tk, os⟩) k2 l2 ys := KSq.push hl2 _
    have hL3 : KSq (Shared.heap ⟨(hp.push (itO k1 l1)).push (itO k2 l2), g, d, tk, os⟩) k3 l3 zs := KSq.push (KSq.push hl3 _) _
    wp_walk using k_iter hL1, k_iter hL2, k_iter hL3
    exact ⟨_, rfl, h⟩
end DL
namespace DL
open PySem PySem.Spec PyProof.Rows L2
def SqK (K : PySem.W.Frag) (H : Hp) : Kd → Addr → List V → Prop
  | .lst, a, xs => SqL K H a xs
  | .tup, a, xs => SqT K H a xs
theorem seqK {X : Cx} {pins : List (Addr × Obj)} {σ : List (Option V)} {H : Hp} {s : Shared} {k : Kd} {a : Addr} {xs : List V} (I : Inv X pins σ H s) (h : SqK X.K H k a xs) : ∃ its : List Value, Vals xs its ∧ KSq s.heap k a its.toArray ∧ a < s.heap.objs.size := by
  cases k with
  | lst =>
    obtain ⟨its, rv, p, _⟩ := I.list h
    exact ⟨its, rv, p.isList, p.lt⟩
  | tup =>
    obtain ⟨its, rv, p, _⟩ := I.tuple h
    exact ⟨its, rv, p, p.lt⟩
theorem seqK_inj {X : Cx} {pins : List (Addr × Obj)} {σ : List (Option V)} {H : Hp} {s : Shared} {k : Kd} {a : Addr} {xs ys : List V} (I : Inv X pins σ H s) (h : SqK X.K H k a xs) (h' : SqK X.K H k a ys) : xs = ys := by
  cases k with
  | lst => exact I.list_inj h h'
  | tup => exact I.tuple_inj h h'
def Itn2 (K : PySem.W.Frag) (k1 k2 : Kd) (l1 l2 : Addr) : It :=
  ⟨fun i H => ∃ (xs1 xs2 : List V) (x1 x2 : V), SqK K H k1 l1 xs1 ∧ SqK K H k2 l2 xs2 ∧ xs1[i]? = some x1 ∧ xs2[i]? = some x2,
    fun i H v H' => ∃ (T : Addr) (x1 x2 : V), v = .ref T ∧ H T = none ∧ H' = upd H T (.tup [x1, x2]) ∧ (∀ xs, SqK K H k1 l1 xs → xs[i]? = some x1) ∧ (∀ xs, SqK K H k2 l2 xs → xs[i]? = some x2),
    fun i H => ∃ xs1 xs2 : List V, SqK K H k1 l1 xs1 ∧ SqK K H k2 l2 xs2 ∧ (xs1.length ≤ i ∨ xs2.length ≤ i)⟩
theorem turn_zn2 {P : Program} {w : World} {K : PySem.W.Frag} {elts : List Expr} {kk : Nat} {tpos : Pos} {k1 k2 : Kd} {l1 l2 z TI TO i1 i2 : Addr} (D : ∀ xs1 xs2 : Array Value, Zap z TI TO [⟨k1, i1, l1, xs1⟩, ⟨k2, i2, l2, xs2⟩]) :
    Turn P w K (.Tuple elts kk tpos) (Itn2 K k1 k2 l1 l2) [z, TI, TO, i1, i2] z (fun i h => IsZip h z TI TO .none ∧ IsRow h TI #[.ref i1, .ref i2] ∧ (∃ a, IsRow h TO a ∧ a.size = 2) ∧ KIt h k1 i1 l1 i ∧ KIt h k2 i2 l2 i) where
  mem := by simp
  obj := fun i h st c hc => by
    obtain ⟨hz, hTI, ⟨a, hTO, _⟩, h1, h2⟩ := st
    have e' : c = z ∨ c = TI ∨ c = TO ∨ c = i1 ∨ c = i2 := by simpa using hc
    rcases e' with q | q | q | q | q
    · rw [q]; exact ⟨_, hz, fun v q => nomatch q⟩
    · rw [q]; exact ⟨_, hTI, fun v q => nomatch q⟩
    · rw [q]; exact ⟨_, hTO, fun v q => nomatch q⟩
    · rw [q]; exact h1.obj
    · rw [q]; exact h2.obj
  keep := fun i h h' st k => by
    obtain ⟨hz, hTI, ⟨a, hTO, hs⟩, h1, h2⟩ := st
    exact ⟨k z (by simp) _ hz, k TI (by simp) _ hTI, ⟨a, k TO (by simp) _ hTO, hs⟩, h1.to fun o q => k i1 (by simp) o q, h2.to fun o q => k i2 (by simp) o q⟩
  item := by
    intro X hP hw hK hc i pins s σ H E I hf st hg
    subst hP hw hK
    obtain ⟨hz, hTI, ⟨old, hTO, hso⟩, h1, h2⟩ := st
    obtain ⟨xs1, xs2, x1, x2, hq1, hq2, hx1, hx2⟩ := hg
    obtain ⟨its1, rv1, p1, _⟩ := seqK I hq1
    obtain ⟨its2, rv2, p2, _⟩ := seqK I hq2
    obtain ⟨u1, hu1, ru1⟩ := rv1.get hx1
    obtain ⟨u2, hu2, ru2⟩ := rv2.get hx2
    have hzl : z < s.heap.objs.size := Heap.lt_size hz
    have D := D its1.toArray its2.toArray
    refine pyNext_zn_item (n := i) (vals := [u1, u2]) D (by simp) (by simp) hz hTI hTO hso ⟨?_, ?_⟩ rfl (fun j c hj => ?_) fun h' z' TI' TO' st' hT hsz hk => ?_
    · intro c hcm
      simp only [List.mem_cons, List.not_mem_nil, or_false] at hcm
      rcases hcm with rfl | rfl
      · exact h1
      · exact h2
    · intro c hcm
      simp only [List.mem_cons, List.not_mem_nil, or_false] at hcm
      rcases hcm with rfl | rfl
      · exact p1
      · exact p2
    · match j, hj with
      | 0, hj => cases hj; exact ⟨u1, by simpa using hu1, rfl⟩
      | 1, hj => cases hj; exact ⟨u2, by simpa using hu2, rfl⟩
      | j + 2, hj => simp at hj
    refine ⟨_, rfl, wpAny_letOwnedTupleGo_zip (s := { s with heap := h' }) z' fun h'' z'' sb => ?_⟩
    have up : ∀ c o, c ≠ z → h'.get? c = some o → h''.get? c = some o := fun c o hc e => (sb.2 c hc).trans e
    have hT2 : IsRow h'' s.heap.objs.size #[u1, u2] := up _ _ (Nat.ne_of_gt hzl) hT
    have new : ObjOk X.prog X.w (upd H s.heap.objs.size (.tup [x1, x2])) h'' s.heap.objs.size (.tup [x1, x2]) :=
      ⟨by show 2 ≤ sizeLine; decide, [u1, u2], (.cons ru1 (.cons ru2 .nil)), ⟨_, hT2, rfl, _, rfl⟩⟩
    have I1 : Inv X pins σ (upd H s.heap.objs.size (.tup [x1, x2])) { s with heap := h'' } :=
      I.turnedNew (t' := s.toks) (ch := [z, TI, TO, i1, i2]) (fun c o hb q => by
        simp only [List.mem_cons, List.not_mem_nil, or_false, not_or] at hb
        refine up c o hb.1 (hk c o hb.1 hb.2.2.1 (fun e he => ?_) q)
        simp only [List.mem_cons, List.not_mem_nil, or_false] at he
        rcases he with rfl | rfl <;> simp only [hb, ne_eq, not_false_eq_true]) hf (Nat.le_refl _) new
    have dz := D.zz
    refine ⟨.ref s.heap.objs.size, _, I1, rfl, ⟨_, x1, x2, rfl, I.hok.fresh (Nat.le_refl _), rfl, fun l hl => by rw [seqK_inj I hl hq1]; exact hx1, fun l hl => by rw [seqK_inj I hl hq2]; exact hx2⟩, ⟨z'', up _ _ dz.1.symm TI', ?_, (st'.its ⟨k1, i1, l1, its1.toArray⟩ (by simp)).to fun o q => up _ o (D.iz (c := ⟨k1, i1, l1, its1.toArray⟩) (by simp)).1 q, (st'.its ⟨k2, i2, l2, its2.toArray⟩ (by simp)).to fun o q => up _ o (D.iz (c := ⟨k2, i2, l2, its2.toArray⟩) (by simp)).1 q⟩, fun c hcm => ?_⟩
    · obtain ⟨a, ha, hsa⟩ := TO'
      exact ⟨a, up _ _ dz.2.1.symm ha, hsa⟩
    · have hlt : c < s.heap.objs.size := by
        have e' : c = z ∨ c = TI ∨ c = TO ∨ c = i1 ∨ c = i2 := by simpa using hcm
        rcases e' with q | q | q | q | q
        · rw [q]; exact hzl
        · rw [q]; exact Heap.lt_size hTI
        · rw [q]; exact Heap.lt_size hTO
        · rw [q]; obtain ⟨_, e1, _⟩ := h1.obj; exact Heap.lt_size e1
        · rw [q]; obtain ⟨_, e1, _⟩ := h2.obj; exact Heap.lt_size e1
      rw [upd_ne (Nat.ne_of_lt hlt)]
      exact (hf c hcm).1
  done := by
    intro X hP hw hK hc i pins s σ H E I hf st hg
    subst hP hw hK
    obtain ⟨hz, hTI, ⟨old, hTO, hso⟩, h1, h2⟩ := st
    obtain ⟨xs1, xs2, hq1, hq2, hend⟩ := hg
    obtain ⟨its1, rv1, p1, _⟩ := seqK I hq1
    obtain ⟨its2, rv2, p2, _⟩ := seqK I hq2
    have l1' := rv1.length
    have l2' := rv2.length
    have D := D its1.toArray its2.toArray
    have st' : Zst s.heap z TI TO [⟨k1, i1, l1, its1.toArray⟩, ⟨k2, i2, l2, its2.toArray⟩] i := by
      refine ⟨?_, ?_⟩
      · intro c hcm
        simp only [List.mem_cons, List.not_mem_nil, or_false] at hcm
        rcases hcm with rfl | rfl
        · exact h1
        · exact h2
      · intro c hcm
        simp only [List.mem_cons, List.not_mem_nil, or_false] at hcm
        rcases hcm with rfl | rfl
        · exact p1
        · exact p2
    obtain ⟨m, cm, hm, hmn, hlt⟩ : ∃ (m : Nat) (cm : Src), ([⟨k1, i1, l1, its1.toArray⟩, ⟨k2, i2, l2, its2.toArray⟩] : List Src)[m]? = some cm ∧ cm.xs[i]? = none ∧ ∀ (k : Nat) (c : Src), k < m → ([⟨k1, i1, l1, its1.toArray⟩, ⟨k2, i2, l2, its2.toArray⟩] : List Src)[k]? = some c → ∃ x, c.xs[i]? = some x := by
      by_cases e1 : its1.length ≤ i
      · refine ⟨0, _, rfl, by simp; omega, fun k c hk hj => ?_⟩
        omega
      have e2 : its2.length ≤ i := by omega
      · refine ⟨1, _, rfl, by simp; omega, fun k c hk hj => ?_⟩
        match k, hk, hj with
        | 0, _, hj => cases hj; exact ⟨its1[i]'(by omega), by simp⟩
    exact pyNext_zn_end (I.ok.hd hc) D (by simp) hz hTI hTO hso st' m cm hm hmn hlt fun h' hk => ⟨rfl, I.turnedL (t' := s.toks) (ch := [z, TI, TO, i1, i2]) (fun c o hb q => by
      simp only [List.mem_cons, List.not_mem_nil, or_false, not_or] at hb
      refine hk c o hb.1 hb.2.2.1 (fun e he => ?_) q
      simp only [List.mem_cons, List.not_mem_nil, or_false] at he
      rcases he with rfl | rfl <;> simp only [hb, ne_eq, not_false_eq_true]) hf⟩
  self := fun A i s Q E st h => wpAny_pyIter_zip st.1 h
def Itn3 (K : PySem.W.Frag) (k1 k2 k3 : Kd) (l1 l2 l3 : Addr) : It :=
  ⟨fun i H => ∃ (xs1 xs2 xs3 : List V) (x1 x2 x3 : V), SqK K H k1 l1 xs1 ∧ SqK K H k2 l2 xs2 ∧ SqK K H k3 l3 xs3 ∧ xs1[i]? = some x1 ∧ xs2[i]? = some x2 ∧ xs3[i]? = some x3,
    fun i H v H' => ∃ (T : Addr) (x1 x2 x3 : V), v = .ref T ∧ H T = none ∧ H' = upd H T (.tup [x1, x2, x3]) ∧ (∀ xs, SqK K H k1 l1 xs → xs[i]? = some x1) ∧ (∀ xs, SqK K H k2 l2 xs → xs[i]? = some x2) ∧ (∀ xs, SqK K H k3 l3 xs → xs[i]? = some x3),
    fun i H => ∃ xs1 xs2 xs3 : List V, SqK K H k1 l1 xs1 ∧ SqK K H k2 l2 xs2 ∧ SqK K H k3 l3 xs3 ∧ (xs1.length ≤ i ∨ xs2.length ≤ i ∨ xs3.length ≤ i)⟩
theorem turn_zn3 {P : Program} {w : World} {K : PySem.W.Frag} {elts : List Expr} {kk : Nat} {tpos : Pos} {k1 k2 k3 : Kd} {l1 l2 l3 z TI TO i1 i2 i3 : Addr} (D : ∀ xs1 xs2 xs3 : Array Value, Zap z TI TO [⟨k1, i1, l1, xs1⟩, ⟨k2, i2, l2, xs2⟩, ⟨k3, i3, l3, xs3⟩]) :
    Turn P w K (.Tuple elts kk tpos) (Itn3 K k1 k2 k3 l1 l2 l3) [z, TI, TO, i1, i2, i3] z (fun i h => IsZip h z TI TO .none ∧ IsRow h TI #[.ref i1, .ref i2, .ref i3] ∧ (∃ a, IsRow h TO a ∧ a.size = 3) ∧ KIt h k1 i1 l1 i ∧ KIt h k2 i2 l2 i ∧ KIt h k3 i3 l3 i) where
  mem := by simp
  obj := fun i h st c hc => by
    obtain ⟨hz, hTI, ⟨a, hTO, _⟩, h1, h2, h3⟩ := st
    have e' : c = z ∨ c = TI ∨ c = TO ∨ c = i1 ∨ c = i2 ∨ c = i3 := by simpa using hc
    rcases e' with q | q | q | q | q | q
    · rw [q]; exact ⟨_, hz, fun v q => nomatch q⟩
    · rw [q]; exact ⟨_, hTI, fun v q => nomatch q⟩
    · rw [q]; exact ⟨_, hTO, fun v q => nomatch q⟩
    · rw [q]; exact h1.obj
    · rw [q]; exact h2.obj
    · rw [q]; exact h3.obj
  keep := fun i h h' st k => by
    obtain ⟨hz, hTI, ⟨a, hTO, hs⟩, h1, h2, h3⟩ := st
    exact ⟨k z (by simp) _ hz, k TI (by simp) _ hTI, ⟨a, k TO (by simp) _ hTO, hs⟩, h1.to fun o q => k i1 (by simp) o q, h2.to fun o q => k i2 (by simp) o q, h3.to fun o q => k i3 (by simp) o q⟩
  item := by
    intro X hP hw hK hc i pins s σ H E I hf st hg
    subst hP hw hK
    obtain ⟨hz, hTI, ⟨old, hTO, hso⟩, h1, h2, h3⟩ := st
    obtain ⟨xs1, xs2, xs3, x1, x2, x3, hq1, hq2, hq3, hx1, hx2, hx3⟩ := hg
    obtain ⟨its1, rv1, p1, _⟩ := seqK I hq1
    obtain ⟨its2, rv2, p2, _⟩ := seqK I hq2
    obtain ⟨its3, rv3, p3, _⟩ := seqK I hq3
    obtain ⟨u1, hu1, ru1⟩ := rv1.get hx1
    obtain ⟨u2, hu2, ru2⟩ := rv2.get hx2
    obtain ⟨u3, hu3, ru3⟩ := rv3.get hx3
    have hzl : z < s.heap.objs.size := Heap.lt_size hz
    have D := D its1.toArray its2.toArray its3.toArray
    refine pyNext_zn_item (n := i) (vals := [u1, u2, u3]) D (by simp) (by simp) hz hTI hTO hso ⟨?_, ?_⟩ rfl (fun j c hj => ?_) fun h' z' TI' TO' st' hT hsz hk => ?_
    · intro c hcm
      simp only [List.mem_cons, List.not_mem_nil, or_false] at hcm
      rcases hcm with rfl | rfl | rfl
      · exact h1
      · exact h2
      · exact h3
    · intro c hcm
      simp only [List.mem_cons, List.not_mem_nil, or_false] at hcm
      rcases hcm with rfl | rfl | rfl
      · exact p1
      · exact p2
      · exact p3
    · match j, hj with
      | 0, hj => cases hj; exact ⟨u1, by simpa using hu1, rfl⟩
      | 1, hj => cases hj; exact ⟨u2, by simpa using hu2, rfl⟩
      | 2, hj => cases hj; exact ⟨u3, by simpa using hu3, rfl⟩
      | j + 3, hj => simp at hj
    refine ⟨_, rfl, wpAny_letOwnedTupleGo_zip (s := { s with heap := h' }) z' fun h'' z'' sb => ?_⟩
    have up : ∀ c o, c ≠ z → h'.get? c = some o → h''.get? c = some o := fun c o hc e => (sb.2 c hc).trans e
    have hT2 : IsRow h'' s.heap.objs.size #[u1, u2, u3] := up _ _ (Nat.ne_of_gt hzl) hT
    have new : ObjOk X.prog X.w (upd H s.heap.objs.size (.tup [x1, x2, x3])) h'' s.heap.objs.size (.tup [x1, x2, x3]) :=
      ⟨by show 3 ≤ sizeLine; decide, [u1, u2, u3], (.cons ru1 (.cons ru2 (.cons ru3 .nil))), ⟨_, hT2, rfl, _, rfl⟩⟩
    have I1 : Inv X pins σ (upd H s.heap.objs.size (.tup [x1, x2, x3])) { s with heap := h'' } :=
      I.turnedNew (t' := s.toks) (ch := [z, TI, TO, i1, i2, i3]) (fun c o hb q => by
        simp only [List.mem_cons, List.not_mem_nil, or_false, not_or] at hb
        refine up c o hb.1 (hk c o hb.1 hb.2.2.1 (fun e he => ?_) q)
        simp only [List.mem_cons, List.not_mem_nil, or_false] at he
        rcases he with rfl | rfl | rfl <;> simp only [hb, ne_eq, not_false_eq_true]) hf (Nat.le_refl _) new
    have dz := D.zz
    refine ⟨.ref s.heap.objs.size, _, I1, rfl, ⟨_, x1, x2, x3, rfl, I.hok.fresh (Nat.le_refl _), rfl, fun l hl => by rw [seqK_inj I hl hq1]; exact hx1, fun l hl => by rw [seqK_inj I hl hq2]; exact hx2, fun l hl => by rw [seqK_inj I hl hq3]; exact hx3⟩, ⟨z'', up _ _ dz.1.symm TI', ?_, (st'.its ⟨k1, i1, l1, its1.toArray⟩ (by simp)).to fun o q => up _ o (D.iz (c := ⟨k1, i1, l1, its1.toArray⟩) (by simp)).1 q, (st'.its ⟨k2, i2, l2, its2.toArray⟩ (by simp)).to fun o q => up _ o (D.iz (c := ⟨k2, i2, l2, its2.toArray⟩) (by simp)).1 q, (st'.its ⟨k3, i3, l3, its3.toArray⟩ (by simp)).to fun o q => up _ o (D.iz (c := ⟨k3, i3, l3, its3.toArray⟩) (by simp)).1 q⟩, fun c hcm => ?_⟩
    · obtain ⟨a, ha, hsa⟩ := TO'
      exact ⟨a, up _ _ dz.2.1.symm ha, hsa⟩
    · have hlt : c < s.heap.objs.size := by
        have e' : c = z ∨ c = TI ∨ c = TO ∨ c = i1 ∨ c = i2 ∨ c = i3 := by simpa using hcm
        rcases e' with q | q | q | q | q | q
        · rw [q]; exact hzl
        · rw [q]; exact Heap.lt_size hTI
        · rw [q]; exact Heap.lt_size hTO
        · rw [q]; obtain ⟨_, e1, _⟩ := h1.obj; exact Heap.lt_size e1
        · rw [q]; obtain ⟨_, e1, _⟩ := h2.obj; exact Heap.lt_size e1
        · rw [q]; obtain ⟨_, e1, _⟩ := h3.obj; exact Heap.lt_size e1
      rw [upd_ne (Nat.ne_of_lt hlt)]
      exact (hf c hcm).1
  done := by
    intro X hP hw hK hc i pins s σ H E I hf st hg
    subst hP hw hK
    obtain ⟨hz, hTI, ⟨old, hTO, hso⟩, h1, h2, h3⟩ := st
    obtain ⟨xs1, xs2, xs3, hq1, hq2, hq3, hend⟩ := hg
    obtain ⟨its1, rv1, p1, _⟩ := seqK I hq1
    obtain ⟨its2, rv2, p2, _⟩ := seqK I hq2
    obtain ⟨its3, rv3, p3, _⟩ := seqK I hq3
    have l1' := rv1.length
    have l2' := rv2.length
    have l3' := rv3.length
    have D := D its1.toArray its2.toArray its3.toArray
    have st' : Zst s.heap z TI TO [⟨k1, i1, l1, its1.toArray⟩, ⟨k2, i2, l2, its2.toArray⟩, ⟨k3, i3, l3, its3.toArray⟩] i := by
      refine ⟨?_, ?_⟩
      · intro c hcm
        simp only [List.mem_cons, List.not_mem_nil, or_false] at hcm
        rcases hcm with rfl | rfl | rfl
        · exact h1
        · exact h2
        · exact h3
      · intro c hcm
        simp only [List.mem_cons, List.not_mem_nil, or_false] at hcm
        rcases hcm with rfl | rfl | rfl
        · exact p1
        · exact p2
        · exact p3
    obtain ⟨m, cm, hm, hmn, hlt⟩ : ∃ (m : Nat) (cm : Src), ([⟨k1, i1, l1, its1.toArray⟩, ⟨k2, i2, l2, its2.toArray⟩, ⟨k3, i3, l3, its3.toArray⟩] : List Src)[m]? = some cm ∧ cm.xs[i]? = none ∧ ∀ (k : Nat) (c : Src), k < m → ([⟨k1, i1, l1, its1.toArray⟩, ⟨k2, i2, l2, its2.toArray⟩, ⟨k3, i3, l3, its3.toArray⟩] : List Src)[k]? = some c → ∃ x, c.xs[i]? = some x := by
      by_cases e1 : its1.length ≤ i
      · refine ⟨0, _, rfl, by simp; omega, fun k c hk hj => ?_⟩
        omega
      by_cases e2 : its2.length ≤ i
      · refine ⟨1, _, rfl, by simp; omega, fun k c hk hj => ?_⟩
        match k, hk, hj with
        | 0, _, hj => cases hj; exact ⟨its1[i]'(by omega), by simp⟩
      have e3 : its3.length ≤ i := by omega
      · refine ⟨2, _, rfl, by simp; omega, fun k c hk hj => ?_⟩
        match k, hk, hj with
        | 0, _, hj => cases hj; exact ⟨its1[i]'(by omega), by simp⟩
        | 1, _, hj => cases hj; exact ⟨its2[i]'(by omega), by simp⟩
    exact pyNext_zn_end (I.ok.hd hc) D (by simp) hz hTI hTO hso st' m cm hm hmn hlt fun h' hk => ⟨rfl, I.turnedL (t' := s.toks) (ch := [z, TI, TO, i1, i2, i3]) (fun c o hb q => by
      simp only [List.mem_cons, List.not_mem_nil, or_false, not_or] at hb
      refine hk c o hb.1 hb.2.2.1 (fun e he => ?_) q
      simp only [List.mem_cons, List.not_mem_nil, or_false] at he
      rcases he with rfl | rfl | rfl <;> simp only [hb, ne_eq, not_false_eq_true]) hf⟩
  self := fun A i s Q E st h => wpAny_pyIter_zip st.1 h
end DL
namespace DL
open PySem PySem.Spec PyProof.Rows L2
theorem kit_mk {h : Heap} {k : Kd} {i l : Addr} (e : h.get? i = some (itO k l)) : KIt h k i l 0 := by
  cases k with
  | lst => exact ⟨_, e, rfl, rfl⟩
  | tup => exact ⟨_, e, rfl, rfl⟩
theorem zap2 {I : Nat} {k1 k2 : Kd} {l1 l2 : Addr} {xs1 xs2 : Array Value} (b1 : l1 < I) (b2 : l2 < I) : Zap (I + 4) (I + 2) (I + 3) [⟨k1, I, l1, xs1⟩, ⟨k2, I + 1, l2, xs2⟩] := by
  refine ⟨by simp, fun c hc => ?_⟩
  simp only [List.mem_cons, List.not_mem_nil, or_false] at hc
  rcases hc with rfl | rfl
  all_goals refine ⟨Nat.ne_of_lt (Nat.lt_of_lt_of_le (by assumption) (Nat.le_add_right _ _)), Nat.ne_of_lt (Nat.lt_of_lt_of_le (by assumption) (Nat.le_add_right _ _)), fun e he => ?_⟩
  all_goals simp only [List.mem_cons, List.not_mem_nil, or_false] at he
  all_goals rcases he with rfl | rfl
  all_goals first | exact Nat.ne_of_lt (by assumption) | exact Nat.ne_of_lt (Nat.lt_of_lt_of_le (by assumption) (Nat.le_add_right _ _))
theorem call_zn2 {prog : Program} {w : World} {A : Around} {E : Value → Shared → Prop} {s : Shared} {k1 k2 : Kd} {l1 l2 : Addr} {xs1 xs2 : Array Value} {Q : Value → Shared → Prop} (hl1 : KSq s.heap k1 l1 xs1) (hl2 : KSq s.heap k2 l2 xs2)
    (h : ∀ h', IsZip h' (s.heap.objs.size + 4) (s.heap.objs.size + 2) (s.heap.objs.size + 3) .none → IsRow h' (s.heap.objs.size + 2) #[.ref (s.heap.objs.size), .ref (s.heap.objs.size + 1)] → (∃ a, IsRow h' (s.heap.objs.size + 3) a ∧ a.size = 2) → KIt h' k1 (s.heap.objs.size) l1 0 → KIt h' k2 (s.heap.objs.size + 1) l2 0 →
      (∀ c o, s.heap.get? c = some o → h'.get? c = some o) → Q (.ref (s.heap.objs.size + 4)) { s with heap := h' }) :
    wpAny (model prog w) A (call (.type "zip") [.ref l1, .ref l2]) Q E s := by
  refine callType_new F.called_zip (by decide) (F.typeCall_zip_2 _ _) (F.newCall_zip_2 _ _) (fun obj => F.args_object_init_3 obj _ _) F.entry_zip_new
    (meets_zip2 k1 k2 l1 l2 xs1 xs2) ⟨hl1, hl2, ?_⟩
  have z1 : (s.heap.push (itO k1 l1)).objs.size = s.heap.objs.size + 1 := by rw [Heap.size_push]
  have z2 : ((s.heap.push (itO k1 l1)).push (itO k2 l2)).objs.size = s.heap.objs.size + 2 := by rw [Heap.size_push]; rw [z1]
  have zb : (h2b s.heap k1 k2 l1 l2).objs.size = s.heap.objs.size + 3 := by rw [Heap.size_push]; rw [z2]
  have zc : (h2c s.heap k1 k2 l1 l2).objs.size = s.heap.objs.size + 4 := by rw [Heap.size_push]; rw [zb]
  have g5 : (h2d s.heap k1 k2 l1 l2).get? (h2c s.heap k1 k2 l1 l2).objs.size = some _ := Heap.get?_push_size _ rfl
  have g4 : (h2d s.heap k1 k2 l1 l2).get? (h2b s.heap k1 k2 l1 l2).objs.size = some _ := Heap.get?_push_of_some _ (Heap.get?_push_size _ rfl)
  have g3 : (h2d s.heap k1 k2 l1 l2).get? (h2a s.heap k1 k2 l1 l2).objs.size = some _ := Heap.get?_push_of_some _ (Heap.get?_push_of_some _ (Heap.get?_push_size _ rfl))
  have e1 : (h2d s.heap k1 k2 l1 l2).get? s.heap.objs.size = some (itO k1 l1) := Heap.get?_push_of_some _ (Heap.get?_push_of_some _ (Heap.get?_push_of_some _ (Heap.get?_push_of_some _ (Heap.get?_push_size _ rfl))))
  have e2 : (h2d s.heap k1 k2 l1 l2).get? (s.heap.push (itO k1 l1)).objs.size = some (itO k2 l2) := Heap.get?_push_of_some _ (Heap.get?_push_of_some _ (Heap.get?_push_of_some _ (Heap.get?_push_size _ rfl)))
  show _ ∧ _
  rw [z2, zb, zc] at g5
  rw [z1, z2] at g3
  rw [zb] at g4
  rw [z1] at e2
  rw [zc]
  exact ⟨⟨_, g5, rfl⟩, h _ g5 g3 ⟨_, g4, rfl⟩ (kit_mk e1) (kit_mk e2) fun c o x => Heap.get?_push_of_some _ (Heap.get?_push_of_some _ (Heap.get?_push_of_some _ (Heap.get?_push_of_some _ (Heap.get?_push_of_some _ x))))⟩
def iZn2 (K : PySem.W.Frag) (ta : TA) : TI := fun σ H R => ta σ H fun vs H1 => ∃ (k1 k2 : Kd) (a1 a2 : Addr) (xs1 xs2 : List V), vs = [.ref a1, .ref a2] ∧ SqK K H1 k1 a1 xs1 ∧ SqK K H1 k2 a2 xs2 ∧ R (Itn2 K k1 k2 a1 a2) H1
theorem pi_zn2 {X : Cx} {e e2 : Expr} {ta : TA} {p pos tpos : Pos} {elts : List Expr} {kk : Nat} (hg : Gl X "zip") (hm : X.mg "zip" = none) (ha : PA X [e, e2] ta)
    (hs : starEach [e, e2] X.env = (false, eval e X.env) :: starEach [e2] X.env := by rfl) (hpl : (backTo pos (starEach [e2] X.env)).any (·.1) = false := by rfl) :
    PI X (.Tuple elts kk tpos) (.Call (.Name "zip" p) [e, e2] [] pos) (iZn2 X.K ta) := by
  refine ⟨fun pins s0 σ H R I h => ?_⟩
  refine Call_ (ld_blt I hg hm PyProof.Rows.boot_zip (PyProof.Rows.callWith_type1 (thn (ha.run pos pins s0 σ H _ I h) fun us s ⟨vs, H1, I1, r1, q1⟩ => ?_) hs hpl))
  obtain ⟨k1, k2, a1, a2, xs1, xs2, ex, hq1, hq2, q⟩ := q1
  subst ex
  cases r1 with
  | cons r1' rr =>
    cases rr with
    | cons r2' rr =>
      cases rr
      cases r1'
      cases r2'
      obtain ⟨its1, rv1, p1, b1⟩ := seqK I1 hq1
      obtain ⟨its2, rv2, p2, b2⟩ := seqK I1 hq2
      have fresh : ∀ c, c ∈ [s.heap.objs.size + 4, s.heap.objs.size + 2, s.heap.objs.size + 3, s.heap.objs.size, s.heap.objs.size + 1] → FpOk X pins H1 c := fun c hcm => by
        have hle : s.heap.objs.size ≤ c := by
          simp only [List.mem_cons, List.not_mem_nil, or_false] at hcm
          rcases hcm with rfl | rfl | rfl | rfl | rfl <;> first | exact Nat.le_refl _ | exact Nat.le_add_right _ _
        exact I1.fpOk hle (I1.hok.fresh hle)
      refine call_zn2 p1 p2 fun h' hz hTI hTO t1 t2 hk => wpAny_pyIter_zip hz ?_
      have I2 : Inv X pins σ H1 { s with heap := h' } := I1.kept (t' := s.toks) hk
      refine ⟨s.heap.objs.size + 4, [s.heap.objs.size + 4, s.heap.objs.size + 2, s.heap.objs.size + 3, s.heap.objs.size, s.heap.objs.size + 1], _, _, H1, rfl, I2, turn_zn2 (fun _ _ => zap2 b1 b2), ⟨hz, hTI, hTO, t1, t2⟩, fresh, q⟩
theorem zap3 {I : Nat} {k1 k2 k3 : Kd} {l1 l2 l3 : Addr} {xs1 xs2 xs3 : Array Value} (b1 : l1 < I) (b2 : l2 < I) (b3 : l3 < I) : Zap (I + 5) (I + 3) (I + 4) [⟨k1, I, l1, xs1⟩, ⟨k2, I + 1, l2, xs2⟩, ⟨k3, I + 2, l3, xs3⟩] := by
  refine ⟨by simp, fun c hc => ?_⟩
  simp only [List.mem_cons, List.not_mem_nil, or_false] at hc
  rcases hc with rfl | rfl | rfl
  all_goals refine ⟨Nat.ne_of_lt (Nat.lt_of_lt_of_le (by assumption) (Nat.le_add_right _ _)), Nat.ne_of_lt (Nat.lt_of_lt_of_le (by assumption) (Nat.le_add_right _ _)), fun e he => ?_⟩
  all_goals simp only [List.mem_cons, List.not_mem_nil, or_false] at he
  all_goals rcases he with rfl | rfl | rfl
  all_goals first | exact Nat.ne_of_lt (by assumption) | exact Nat.ne_of_lt (Nat.lt_of_lt_of_le (by assumption) (Nat.le_add_right _ _))
theorem call_zn3 {prog : Program} {w : World} {A : Around} {E : Value → Shared → Prop} {s : Shared} {k1 k2 k3 : Kd} {l1 l2 l3 : Addr} {xs1 xs2 xs3 : Array Value} {Q : Value → Shared → Prop} (hl1 : KSq s.heap k1 l1 xs1) (hl2 : KSq s.heap k2 l2 xs2) (hl3 : KSq s.heap k3 l3 xs3)
    (h : ∀ h', IsZip h' (s.heap.objs.size + 5) (s.heap.objs.size + 3) (s.heap.objs.size + 4) .none → IsRow h' (s.heap.objs.size + 3) #[.ref (s.heap.objs.size), .ref (s.heap.objs.size + 1), .ref (s.heap.objs.size + 2)] → (∃ a, IsRow h' (s.heap.objs.size + 4) a ∧ a.size = 3) → KIt h' k1 (s.heap.objs.size) l1 0 → KIt h' k2 (s.heap.objs.size + 1) l2 0 → KIt h' k3 (s.heap.objs.size + 2) l3 0 →
      (∀ c o, s.heap.get? c = some o → h'.get? c = some o) → Q (.ref (s.heap.objs.size + 5)) { s with heap := h' }) :
    wpAny (model prog w) A (call (.type "zip") [.ref l1, .ref l2, .ref l3]) Q E s := by
  refine callType_new F.called_zip (by decide) (typeCall_zip_3 _ _ _) (newCall_zip_3 _ _ _) (fun obj => args_object_init_4 obj _ _ _) F.entry_zip_new
    (meets_zip3 k1 k2 k3 l1 l2 l3 xs1 xs2 xs3) ⟨hl1, hl2, hl3, ?_⟩
  have z1 : (s.heap.push (itO k1 l1)).objs.size = s.heap.objs.size + 1 := by rw [Heap.size_push]
  have z2 : ((s.heap.push (itO k1 l1)).push (itO k2 l2)).objs.size = s.heap.objs.size + 2 := by rw [Heap.size_push]; rw [z1]
  have z3 : (((s.heap.push (itO k1 l1)).push (itO k2 l2)).push (itO k3 l3)).objs.size = s.heap.objs.size + 3 := by rw [Heap.size_push]; rw [z2]
  have zb : (h3b s.heap k1 k2 k3 l1 l2 l3).objs.size = s.heap.objs.size + 4 := by rw [Heap.size_push]; rw [z3]
  have zc : (h3c s.heap k1 k2 k3 l1 l2 l3).objs.size = s.heap.objs.size + 5 := by rw [Heap.size_push]; rw [zb]
  have g5 : (h3d s.heap k1 k2 k3 l1 l2 l3).get? (h3c s.heap k1 k2 k3 l1 l2 l3).objs.size = some _ := Heap.get?_push_size _ rfl
  have g4 : (h3d s.heap k1 k2 k3 l1 l2 l3).get? (h3b s.heap k1 k2 k3 l1 l2 l3).objs.size = some _ := Heap.get?_push_of_some _ (Heap.get?_push_size _ rfl)
  have g3 : (h3d s.heap k1 k2 k3 l1 l2 l3).get? (h3a s.heap k1 k2 k3 l1 l2 l3).objs.size = some _ := Heap.get?_push_of_some _ (Heap.get?_push_of_some _ (Heap.get?_push_size _ rfl))
  have e1 : (h3d s.heap k1 k2 k3 l1 l2 l3).get? s.heap.objs.size = some (itO k1 l1) := Heap.get?_push_of_some _ (Heap.get?_push_of_some _ (Heap.get?_push_of_some _ (Heap.get?_push_of_some _ (Heap.get?_push_of_some _ (Heap.get?_push_size _ rfl)))))
  have e2 : (h3d s.heap k1 k2 k3 l1 l2 l3).get? (s.heap.push (itO k1 l1)).objs.size = some (itO k2 l2) := Heap.get?_push_of_some _ (Heap.get?_push_of_some _ (Heap.get?_push_of_some _ (Heap.get?_push_of_some _ (Heap.get?_push_size _ rfl))))
  have e3 : (h3d s.heap k1 k2 k3 l1 l2 l3).get? ((s.heap.push (itO k1 l1)).push (itO k2 l2)).objs.size = some (itO k3 l3) := Heap.get?_push_of_some _ (Heap.get?_push_of_some _ (Heap.get?_push_of_some _ (Heap.get?_push_size _ rfl)))
  show _ ∧ _
  rw [z3, zb, zc] at g5
  rw [z1, z2, z3] at g3
  rw [zb] at g4
  rw [z1] at e2
  rw [z2] at e3
  rw [zc]
  exact ⟨⟨_, g5, rfl⟩, h _ g5 g3 ⟨_, g4, rfl⟩ (kit_mk e1) (kit_mk e2) (kit_mk e3) fun c o x => Heap.get?_push_of_some _ (Heap.get?_push_of_some _ (Heap.get?_push_of_some _ (Heap.get?_push_of_some _ (Heap.get?_push_of_some _ (Heap.get?_push_of_some _ x)))))⟩
def iZn3 (K : PySem.W.Frag) (ta : TA) : TI := fun σ H R => ta σ H fun vs H1 => ∃ (k1 k2 k3 : Kd) (a1 a2 a3 : Addr) (xs1 xs2 xs3 : List V), vs = [.ref a1, .ref a2, .ref a3] ∧ SqK K H1 k1 a1 xs1 ∧ SqK K H1 k2 a2 xs2 ∧ SqK K H1 k3 a3 xs3 ∧ R (Itn3 K k1 k2 k3 a1 a2 a3) H1
theorem pi_zn3 {X : Cx} {e e2 e3 : Expr} {ta : TA} {p pos tpos : Pos} {elts : List Expr} {kk : Nat} (hg : Gl X "zip") (hm : X.mg "zip" = none) (ha : PA X [e, e2, e3] ta)
    (hs : starEach [e, e2, e3] X.env = (false, eval e X.env) :: starEach [e2, e3] X.env := by rfl) (hpl : (backTo pos (starEach [e2, e3] X.env)).any (·.1) = false := by rfl) :
    PI X (.Tuple elts kk tpos) (.Call (.Name "zip" p) [e, e2, e3] [] pos) (iZn3 X.K ta) := by
  refine ⟨fun pins s0 σ H R I h => ?_⟩
  refine Call_ (ld_blt I hg hm PyProof.Rows.boot_zip (PyProof.Rows.callWith_type1 (thn (ha.run pos pins s0 σ H _ I h) fun us s ⟨vs, H1, I1, r1, q1⟩ => ?_) hs hpl))
  obtain ⟨k1, k2, k3, a1, a2, a3, xs1, xs2, xs3, ex, hq1, hq2, hq3, q⟩ := q1
  subst ex
  cases r1 with
  | cons r1' rr =>
    cases rr with
    | cons r2' rr =>
      cases rr with
      | cons r3' rr =>
        cases rr
        cases r1'
        cases r2'
        cases r3'
        obtain ⟨its1, rv1, p1, b1⟩ := seqK I1 hq1
        obtain ⟨its2, rv2, p2, b2⟩ := seqK I1 hq2
        obtain ⟨its3, rv3, p3, b3⟩ := seqK I1 hq3
        have fresh : ∀ c, c ∈ [s.heap.objs.size + 5, s.heap.objs.size + 3, s.heap.objs.size + 4, s.heap.objs.size, s.heap.objs.size + 1, s.heap.objs.size + 2] → FpOk X pins H1 c := fun c hcm => by
          have hle : s.heap.objs.size ≤ c := by
            simp only [List.mem_cons, List.not_mem_nil, or_false] at hcm
            rcases hcm with rfl | rfl | rfl | rfl | rfl | rfl <;> first | exact Nat.le_refl _ | exact Nat.le_add_right _ _
          exact I1.fpOk hle (I1.hok.fresh hle)
        refine call_zn3 p1 p2 p3 fun h' hz hTI hTO t1 t2 t3 hk => wpAny_pyIter_zip hz ?_
        have I2 : Inv X pins σ H1 { s with heap := h' } := I1.kept (t' := s.toks) hk
        refine ⟨s.heap.objs.size + 5, [s.heap.objs.size + 5, s.heap.objs.size + 3, s.heap.objs.size + 4, s.heap.objs.size, s.heap.objs.size + 1, s.heap.objs.size + 2], _, _, H1, rfl, I2, turn_zn3 (fun _ _ _ => zap3 b1 b2 b3), ⟨hz, hTI, hTO, t1, t2, t3⟩, fresh, q⟩
end DL
namespace DL
open PySem PySem.Spec PyProof.Rows L2
noncomputable section
section
variable {K : PySem.W.Frag} {F O : Addr → Prop} {H H1 : Hp}
theorem rp_items {a : V} {d : D} {ds : List D} (h : Rp K O H1 a d) (e : itemsD d = some ds) : ∃ k p xs, a = .ref p ∧ SqK K H1 k p xs ∧ xs.length = ds.length ∧ ∀ O2 H2, Late O H1 O2 H2 → SqK K H2 k p xs ∧ RpAll K O2 H2 xs ds := by
  cases d with
  | list es => cases e; obtain ⟨p, xs, r⟩ := rp_listL h; exact ⟨.lst, p, xs, r⟩
  | tuple es => cases e; obtain ⟨p, xs, r⟩ := rp_tupL h; exact ⟨.tup, p, xs, r⟩
  | _ => cases e
def mZipM (m m' : SM D) : SM (List D) := fun ρ => (m ρ).bind fun p => (m' p.2).bind fun q => match itemsD p.1, itemsD q.1 with
  | some a, some b => .ok (zipD a b, q.2)
  | _, _ => .stuck
theorem di_zipM {te te2 : TE} {me me2 : SM D} (h : DenE K te me) (h' : DenE K te2 me2) : DenI K (iZn2 K (tCons te (tCons te2 tNil))) (mZipM me me2) := fun F H σ ρ ρ' ds R r e q => by
  obtain ⟨⟨d, ρ1⟩, e1, e⟩ := Rs.of_bind e
  obtain ⟨⟨d2, ρ2⟩, e2, e⟩ := Rs.of_bind e
  refine h F H σ ρ _ _ _ r e1 fun v H1 p rp => ?_
  refine h' F H1 σ ρ1 _ _ _ p.rel e2 fun v2 H2 p2 rp2 => ?_
  have rp1 := p2.rp rp
  simp only at e
  split at e
  · rename_i da db ea eb
    cases e
    obtain ⟨k1, a, xs, rfl, s1, l1, late1⟩ := rp_items rp1 ea
    obtain ⟨k2, b, ys, rfl, s2, l2, late2⟩ := rp_items rp2 eb
    refine ⟨k1, k2, a, b, xs, ys, rfl, s1, s2, q _ H2 (p.trans p2) fun O2 H3 x n tr => ⟨fun i d hd => ?_, fun i hi => ?_⟩⟩
    · obtain ⟨t1, r1⟩ := late1 O2 H3 ⟨x, n⟩
      obtain ⟨t2, r2⟩ := late2 O2 H3 ⟨x, n⟩
      obtain ⟨dx, dy, g1, g2, rfl⟩ := zipD_get hd
      obtain ⟨ux, k1', k2'⟩ := r1.get g1
      obtain ⟨uy, k3, k4⟩ := r2.get g2
      refine ⟨⟨xs, ys, ux, uy, t1, t2, k1', k3⟩, fun z H4 hy => ?_⟩
      obtain ⟨T, vx, vy, rfl, hT, rfl, m1, m2⟩ := hy
      have q1 := m1 xs t1
      have q2 := m2 ys t2
      rw [k1'] at q1
      rw [k3] at q2
      cases q1
      cases q2
      exact ⟨Ext0.new hT, tup_new tr hT (.cons k2' (.cons k4 .nil))⟩
    · have hi' : (zipD _ _).length ≤ i := hi
      unfold zipD at hi'
      rw [List.length_map, List.length_zip] at hi'
      exact ⟨xs, ys, (late1 O2 H3 ⟨x, n⟩).1, (late2 O2 H3 ⟨x, n⟩).1, by rw [l1, l2]; omega⟩
  · cases e
def zip3D (a b c : List D) : List D := (a.zip (b.zip c)).map fun p => .tuple [p.1, p.2.1, p.2.2]
def mZip3 (m m' m'' : SM D) : SM (List D) := fun ρ => (m ρ).bind fun p => (m' p.2).bind fun q => (m'' q.2).bind fun t => match itemsD p.1, itemsD q.1, itemsD t.1 with
  | some a, some b, some c => .ok (zip3D a b c, t.2)
  | _, _, _ => .stuck
theorem zip3D_get {a b c : List D} {i : Nat} {d : D} (h : (zip3D a b c)[i]? = some d) : ∃ x y z, a[i]? = some x ∧ b[i]? = some y ∧ c[i]? = some z ∧ d = .tuple [x, y, z] := by
  unfold zip3D at h
  rw [List.getElem?_map] at h
  cases e : (a.zip (b.zip c))[i]? with
  | none => rw [e] at h; cases h
  | some p =>
    rw [e] at h
    cases h
    obtain ⟨e1, e2⟩ := List.getElem?_zip_eq_some.mp e
    obtain ⟨e3, e4⟩ := List.getElem?_zip_eq_some.mp e2
    exact ⟨_, _, _, e1, e3, e4, rfl⟩
theorem di_zip3 {te te2 te3 : TE} {me me2 me3 : SM D} (h : DenE K te me) (h' : DenE K te2 me2) (h'' : DenE K te3 me3) : DenI K (iZn3 K (tCons te (tCons te2 (tCons te3 tNil)))) (mZip3 me me2 me3) := fun F H σ ρ ρ' ds R r e q => by
  obtain ⟨⟨d, ρ1⟩, e1, e⟩ := Rs.of_bind e
  obtain ⟨⟨d2, ρ2⟩, e2, e⟩ := Rs.of_bind e
  obtain ⟨⟨d3, ρ3⟩, e3, e⟩ := Rs.of_bind e
  refine h F H σ ρ _ _ _ r e1 fun v H1 p rp => ?_
  refine h' F H1 σ ρ1 _ _ _ p.rel e2 fun v2 H2 p2 rp2 => ?_
  refine h'' F H2 σ ρ2 _ _ _ p2.rel e3 fun v3 H3 p3 rp3 => ?_
  have rp1 := p3.rp (p2.rp rp)
  have rp2 := p3.rp rp2
  simp only at e
  split at e
  · rename_i da db dc ea eb ec
    cases e
    obtain ⟨k1, a, xs, rfl, s1, l1, late1⟩ := rp_items rp1 ea
    obtain ⟨k2, b, ys, rfl, s2, l2, late2⟩ := rp_items rp2 eb
    obtain ⟨k3, c, zs, rfl, s3, l3, late3⟩ := rp_items rp3 ec
    refine ⟨k1, k2, k3, a, b, c, xs, ys, zs, rfl, s1, s2, s3, q _ H3 ((p.trans p2).trans p3) fun O2 H4 x n tr => ⟨fun i d hd => ?_, fun i hi => ?_⟩⟩
    · obtain ⟨t1, r1⟩ := late1 O2 H4 ⟨x, n⟩
      obtain ⟨t2, r2⟩ := late2 O2 H4 ⟨x, n⟩
      obtain ⟨t3, r3⟩ := late3 O2 H4 ⟨x, n⟩
      obtain ⟨dx, dy, dz, g1, g2, g3, rfl⟩ := zip3D_get hd
      obtain ⟨ux, k1', k2'⟩ := r1.get g1
      obtain ⟨uy, k3', k4'⟩ := r2.get g2
      obtain ⟨uz, k5', k6'⟩ := r3.get g3
      refine ⟨⟨xs, ys, zs, ux, uy, uz, t1, t2, t3, k1', k3', k5'⟩, fun z H5 hy => ?_⟩
      obtain ⟨T, vx, vy, vz, rfl, hT, rfl, m1, m2, m3⟩ := hy
      have q1 := m1 xs t1
      have q2 := m2 ys t2
      have q3 := m3 zs t3
      rw [k1'] at q1
      rw [k3'] at q2
      rw [k5'] at q3
      cases q1
      cases q2
      cases q3
      exact ⟨Ext0.new hT, tup_new tr hT (.cons k2' (.cons k4' (.cons k6' .nil)))⟩
    · have hi' : (zip3D _ _ _).length ≤ i := hi
      unfold zip3D at hi'
      rw [List.length_map, List.length_zip, List.length_zip] at hi'
      exact ⟨xs, ys, zs, (late1 O2 H4 ⟨x, n⟩).1, (late2 O2 H4 ⟨x, n⟩).1, (late3 O2 H4 ⟨x, n⟩).1, by rw [l1, l2, l3]; omega⟩
  · cases e
end
@[simp] theorem x_itT (ds : List D) : itemsD (.tuple ds) = some ds := rfl
@[simp] theorem x_itL (ds : List D) : itemsD (.list ds) = some ds := rfl
@[simp] theorem x_zipM (ρ : DE) (m m' : SM D) : mZipM m m' ρ = (m ρ).bind fun p => (m' p.2).bind fun q => match itemsD p.1, itemsD q.1 with
  | some a, some b => .ok (zipD a b, q.2)
  | _, _ => .stuck := rfl
@[simp] theorem x_zip3 (ρ : DE) (m m' m'' : SM D) : mZip3 m m' m'' ρ = (m ρ).bind fun p => (m' p.2).bind fun q => (m'' q.2).bind fun t => match itemsD p.1, itemsD q.1, itemsD t.1 with
  | some a, some b, some c => .ok (zip3D a b c, t.2)
  | _, _, _ => .stuck := rfl
end
end DL
namespace DL.Lib
open PySem PySem.Spec PyProof.Rows L2 DL
noncomputable section
def b_is_whole : MS :=
  (mRt (mAnd (mUn (dIsi .int) (mPeek 0)) (mNot (mUn (dIsi .bool) (mPeek 0)))))
def m_is_whole : SM Slot := mDef 1 0 [] (b_is_whole)
theorem ln_is_whole : ∀ (ρ : DE) (q : Slot × DE), m_is_whole ρ = .ok q → ρ.length = 1 := mDef_len
def b_fits_whole : MS :=
  (mRt (mAnd (mD (mCall Lib.m_is_whole (mCons (mVar 0) mNil))) (mChain (dOrd fLe) (dOrd fLe) (mVar 1) (mVar 0) (mPeek 2))))
def m_fits_whole : SM Slot := mDef 3 0 [] (b_fits_whole)
theorem ln_fits_whole : ∀ (ρ : DE) (q : Slot × DE), m_fits_whole ρ = .ok q → ρ.length = 3 := mDef_len
def b_is_tuple_of : MS :=
  (mRt (mAnd (mUn (dIsi .tuple) (mPeek 0)) (mChain (dOrd fLe) (dOrd fLe) (mVar 1) (mUn dLen (mPeek 0)) (mPeek 2))))
def m_is_tuple_of : SM Slot := mDef 3 0 [] (b_is_tuple_of)
theorem ln_is_tuple_of : ∀ (ρ : DE) (q : Slot × DE), m_is_tuple_of ρ = .ok q → ρ.length = 3 := mDef_len
def b_is_rising : MS :=
  (mRt (mUn dAll (mLc (mZip (mVar 0) (mCutP 0 (some (mC (.int 1))) none)) (mgTup 2 (mgCons (mgName 1) (mgCons (mgName 2) mgNil))) mYes (mBinP (dOrd fLt) 1 (mPeek 2)) [1, 2])))
def m_is_rising : SM Slot := mDef 1 2 [] (b_is_rising)
theorem ln_is_rising : ∀ (ρ : DE) (q : Slot × DE), m_is_rising ρ = .ok q → ρ.length = 1 := mDef_len
def b_fits_coins : MS :=
  (mRt (mAnd (mD (mCall Lib.m_is_tuple_of (mCons (mVar 0) (mCons (mC (.int 1)) (mCons (mC (.int 12)) mNil))))) (mAnd (mUn dAll (mLc (mSeq (mVar 0)) (mgName 1) mYes (mD (mCall Lib.m_fits_whole (mCons (mVar 1) (mCons (mC (.int 1)) (mCons (mC (.int 5000)) mNil))))) [1])) (mD (mCall Lib.m_is_rising (mCons (mVar 0) mNil))))))
def m_fits_coins : SM Slot := mDef 1 1 [] (b_fits_coins)
theorem ln_fits_coins : ∀ (ρ : DE) (q : Slot × DE), m_fits_coins ρ = .ok q → ρ.length = 1 := mDef_len
def b_fits_heap : MS :=
  (mRt (mAnd (mD (mCall Lib.m_is_tuple_of (mCons (mVar 1) (mCons (mUn dLen (mPeek 0)) (mCons (mUn dLen (mPeek 0)) mNil))))) (mUn dAll (mLc (mSeq (mVar 1)) (mgName 2) mYes (mD (mCall Lib.m_fits_whole (mCons (mVar 2) (mCons (mC (.int 0)) (mCons (mC (.int 1000000)) mNil))))) [2]))))
def m_fits_heap : SM Slot := mDef 2 1 [] (b_fits_heap)
theorem ln_fits_heap : ∀ (ρ : DE) (q : Slot × DE), m_fits_heap ρ = .ok q → ρ.length = 2 := mDef_len
def b_need_coins : MS :=
  (mIfS (mNotT (mTru (mD (mCall Lib.m_fits_coins (mCons (mVar 0) mNil))))) mNever mNx)
def m_need_coins : SM Slot := mDef 1 0 [] (b_need_coins)
theorem ln_need_coins : ∀ (ρ : DE) (q : Slot × DE), m_need_coins ρ = .ok q → ρ.length = 1 := mDef_len
def b_need_heap : MS :=
  (mIfS (mNotT (mTru (mD (mCall Lib.m_fits_heap (mCons (mVar 0) (mCons (mVar 1) mNil)))))) mNever mNx)
def m_need_heap : SM Slot := mDef 2 0 [] (b_need_heap)
theorem ln_need_heap : ∀ (ρ : DE) (q : Slot × DE), m_need_heap ρ = .ok q → ρ.length = 2 := mDef_len
def b_sum_in : MS :=
  (mRt (mUn dSum (mLc (mZip (mVar 0) (mVar 1)) (mgTup 2 (mgCons (mgName 2) (mgCons (mgName 3) mgNil))) mYes (mBinP dMul 2 (mPeek 3)) [2, 3])))
def m_sum_in : SM Slot := mDef 2 2 [] (b_sum_in)
theorem ln_sum_in : ∀ (ρ : DE) (q : Slot × DE), m_sum_in ρ = .ok q → ρ.length = 2 := mDef_len
def b__law_cup (c0 c1 c2 c3 c4 : Int) : MS :=
  (mSq (mSet 1 (mUn dAbs (mBin dIx (mBin dCatL (mUn dList (mPeek 0)) (mLst (mCons (mC (.int 0)) mNil))) (mC (.int 0)))))
  (mRtR (mO (mLst (mCons (mIf (mTest (mBinP (dOrd fGe) 1 (mBin dPow (mC (.int 10)) (mC (.int 18))))) (mBinP dFdiv 1 (mC (.int c0))) (mC (.int 0))) (mCons (mBin dAdd (mBin dMod (mUn dInt (mBin dAdd (mBinP dMul 1 (mC (.int c1))) (mC (.int c2)))) (mC (.int c3))) (mC (.int c4))) mNil))))))
def m__law_cup (c0 c1 c2 c3 c4 : Int) : SM Slot := mDef 1 1 [] (b__law_cup c0 c1 c2 c3 c4)
theorem ln__law_cup (c0 c1 c2 c3 c4 : Int) : ∀ (ρ : DE) (q : Slot × DE), m__law_cup c0 c1 c2 c3 c4 ρ = .ok q → ρ.length = 1 := mDef_len
def b__law_roll (c0 c1 c2 c3 c4 c5 : Int) : MS :=
  (mSq (mIfS (mTest (mBin (dOrd fGt) (mBinP dIx 0 (mC (.int 0))) (mC (.int 0)))) (mSq (mSet 2 (mBin dMod (mUn dInt (mBinP dIx 0 (mC (.int 0)))) (mPeek 1)))
  (mSq (mPut 0 dSetK (mC (.int 0)) (mBin dFdiv (mBinP dIx 0 (mC (.int 0))) (mPeek 1)))
  (mRtR (mVarR 2)))) mNx)
  (mSq (mPut 0 dSetK (mC (.int 1)) (mBin dMod (mUn dInt (mBin dAdd (mBin dMul (mBinP dIx 0 (mC (.int 1))) (mC (.int c0))) (mC (.int c1)))) (mC (.int c2))))
  (mSq (mSet 3 (mBin dMod (mUn dInt (mBin dMul (mBinP dIx 0 (mC (.int 1))) (mBin dAdd (mBinP dIx 0 (mC (.int 1))) (mC (.int c3))))) (mC (.int c4))))
  (mRt (mBin dMod (mUn dInt (mBinP dFdiv 3 (mC (.int c5)))) (mPeek 1))))))
def m__law_roll (c0 c1 c2 c3 c4 c5 : Int) : SM Slot := mDef 2 2 [0] (b__law_roll c0 c1 c2 c3 c4 c5)
theorem ln__law_roll (c0 c1 c2 c3 c4 c5 : Int) : ∀ (ρ : DE) (q : Slot × DE), m__law_roll c0 c1 c2 c3 c4 c5 ρ = .ok q → ρ.length = 2 := mDef_len
def b__law_some (m__law_roll : SM Slot) : MS :=
  (mRt (mBinP dIx 1 (mD (mCallO m__law_roll 0 (mCons (mUn dLen (mPeek 1)) mNil)))))
def m__law_some (m__law_roll : SM Slot) : SM Slot := mDef 2 0 [0] (b__law_some m__law_roll)
theorem ln__law_some (m__law_roll : SM Slot) : ∀ (ρ : DE) (q : Slot × DE), m__law_some m__law_roll ρ = .ok q → ρ.length = 2 := mDef_len
def b__law_same (mf : SM Slot) : MS :=
  (mSq (mIfS (mTru (mUn (dIsi .tuple) (mPeek 1))) (mSq (mIfS (mOrT (mNotT (mTru (mUn (dIsi .tuple) (mPeek 0)))) (mTest (mBin (dEq true) (mUn dLen (mPeek 0)) (mUn dLen (mPeek 1))))) (mRt (mC (.bool false))) mNx)
  (mRt (mUn dAll (mLc (mRng1 (mUn dLen (mPeek 1))) (mgName 2) mYes (mD (mCall mf (mCons (mBinP dIx 0 (mPeek 2)) (mCons (mBinP dIx 1 (mPeek 2)) mNil)))) [2])))) mNx)
  (mSq (mIfS (mTest (mBinP (dIs false) 1 (mC .none))) (mRt (mBinP (dIs false) 0 (mC .none))) mNx)
  (mSq (mIfS (mTru (mUn (dIsi .bool) (mPeek 1))) (mRt (mIf (mTru (mPeek 1)) (mBinP (dIs false) 0 (mC (.bool true))) (mBinP (dIs false) 0 (mC (.bool false))))) mNx)
  (mSq (mIfS (mTru (mUn (dIsi .int) (mPeek 1))) (mRt (mAnd (mUn (dIsi .int) (mPeek 0)) (mAnd (mNot (mUn (dIsi .bool) (mPeek 0))) (mBin (dEq false) (mUn dInt (mPeek 0)) (mPeek 1))))) mNx)
  (mRt (mAnd (mUn (dIsi .str) (mPeek 0)) (mBin (dEq false) (mUn dStr (mPeek 0)) (mPeek 1))))))))
def r__law_same : Nat → SM Slot
  | 0 => fun _ => .stuck
  | i + 1 => mDef 2 1 [] (b__law_same (r__law_same i))
theorem lr__law_same : ∀ (i : Nat) (ρ : DE) (q : Slot × DE), r__law_same i ρ = .ok q → ρ.length = 2
  | 0, _, _, h => by cases h
  | i + 1, ρ, q, h => mDef_len ρ q h
def b__law_coins (m__law_roll : SM Slot) (m__law_some : SM Slot) : MS :=
  (mSq (mSetF 3 mNewK)
  (mSq (mFor (mRng1 (mBin dAdd (mC (.int 1)) (mD (mCallO m__law_roll 0 (mCons (mVar 1) mNil))))) (mgName 4) (mPut 3 dSetK (mBin dAdd (mC (.int 1)) (mD (mCallO m__law_some 0 (mCons (mLst (mCons (mD (mCallO m__law_roll 0 (mCons (mC (.int 12)) mNil))) (mCons (mD (mCallO m__law_roll 0 (mCons (mVar 2) mNil))) (mCons (mD (mCallO m__law_roll 0 (mCons (mVar 2) mNil))) mNil)))) mNil)))) (mC (.bool true))))
  (mSq (mIfS (mTest (mBin (dOrd fGt) (mD (mCallO m__law_roll 0 (mCons (mC (.int 3)) mNil))) (mC (.int 0)))) (mPut 3 dSetK (mC (.int 1)) (mC (.bool true))) mNx)
  (mRt (mCut (mUn dTup (mUn dSortA (mPeek 3))) none (some (mC (.int 12))))))))
def m__law_coins (m__law_roll : SM Slot) (m__law_some : SM Slot) : SM Slot := mDef 3 2 [0] (b__law_coins m__law_roll m__law_some)
theorem ln__law_coins (m__law_roll : SM Slot) (m__law_some : SM Slot) : ∀ (ρ : DE) (q : Slot × DE), m__law_coins m__law_roll m__law_some ρ = .ok q → ρ.length = 3 := mDef_len
def b__law_heap (m__law_some : SM Slot) (m__law_roll : SM Slot) : MS :=
  (mRt (mUn dTup (mLc (mSeq (mVar 1)) (mgName 3) mYes (mD (mCallO m__law_some 0 (mCons (mLst (mCons (mC (.int 0)) (mCons (mC (.int 1)) (mCons (mD (mCallO m__law_roll 0 (mCons (mBinP dAdd 2 (mC (.int 1))) mNil))) mNil)))) mNil))) [3])))
def m__law_heap (m__law_some : SM Slot) (m__law_roll : SM Slot) : SM Slot := mDef 3 1 [0] (b__law_heap m__law_some m__law_roll)
theorem ln__law_heap (m__law_some : SM Slot) (m__law_roll : SM Slot) : ∀ (ρ : DE) (q : Slot × DE), m__law_heap m__law_some m__law_roll ρ = .ok q → ρ.length = 3 := mDef_len
def b__law_turned (m__law_roll : SM Slot) : MS :=
  (mSq (mSetF 2 (mLst mNil))
  (mSq (mFor (mSeq (mVar 1)) (mgName 3) (mSq (mSetR 4 (mCallO m__law_roll 0 (mCons (mBin dAdd (mUn dLen (mPeek 2)) (mC (.int 1))) mNil)))
  (mSetF 2 (mBin dCatL (mBin dCatL (mCutP 2 none (some (mVar 4))) (mLst (mCons (mVar 3) mNil))) (mCutP 2 (some (mVar 4)) none)))))
  (mRtR (mVarR 2))))
def m__law_turned (m__law_roll : SM Slot) : SM Slot := mDef 2 3 [0] (b__law_turned m__law_roll)
theorem ln__law_turned (m__law_roll : SM Slot) : ∀ (ρ : DE) (q : Slot × DE), m__law_turned m__law_roll ρ = .ok q → ρ.length = 2 := mDef_len
def b_is_heap : MS :=
  (mSq (mDrp (mD (mCall Lib.m_need_coins (mCons (mVar 0) mNil))))
  (mRtR (mCall Lib.m_fits_heap (mCons (mVar 0) (mCons (mVar 1) mNil)))))
def m_is_heap : SM Slot := mDef 2 0 [] (b_is_heap)
theorem ln_is_heap : ∀ (ρ : DE) (q : Slot × DE), m_is_heap ρ = .ok q → ρ.length = 2 := mDef_len
def b_heap_sum : MS :=
  (mSq (mDrp (mD (mCall Lib.m_need_coins (mCons (mVar 0) mNil))))
  (mSq (mDrp (mD (mCall Lib.m_need_heap (mCons (mVar 0) (mCons (mVar 1) mNil)))))
  (mRtR (mCall Lib.m_sum_in (mCons (mVar 0) (mCons (mVar 1) mNil))))))
def m_heap_sum : SM Slot := mDef 2 0 [] (b_heap_sum)
theorem ln_heap_sum : ∀ (ρ : DE) (q : Slot × DE), m_heap_sum ρ = .ok q → ρ.length = 2 := mDef_len
def b_heap_size : MS :=
  (mSq (mDrp (mD (mCall Lib.m_need_coins (mCons (mVar 0) mNil))))
  (mSq (mDrp (mD (mCall Lib.m_need_heap (mCons (mVar 0) (mCons (mVar 1) mNil)))))
  (mRt (mUn dSum (mPeek 1)))))
def m_heap_size : SM Slot := mDef 2 0 [] (b_heap_size)
theorem ln_heap_size : ∀ (ρ : DE) (q : Slot × DE), m_heap_size ρ = .ok q → ρ.length = 2 := mDef_len
def b_heap_of : MS :=
  (mSq (mDrp (mD (mCall Lib.m_need_coins (mCons (mVar 0) mNil))))
  (mSq (mIfS (mOrT (mNotT (mTru (mUn (dIsi .tuple) (mPeek 1)))) (mNotT (mTru (mUn dAll (mLc (mSeq (mVar 1)) (mgName 2) mYes (mAnd (mD (mCall Lib.m_is_whole (mCons (mVar 2) mNil))) (mBinP (dIn false) 2 (mPeek 0))) [2]))))) mNever mNx)
  (mRt (mUn dTup (mLc (mSeq (mVar 0)) (mgName 3) mYes (mUn dLen (mLc (mSeq (mVar 1)) (mgName 2) (mTest (mBinP (dEq false) 2 (mPeek 3))) (mC (.int 1)) [2])) [3])))))
def m_heap_of : SM Slot := mDef 2 2 [] (b_heap_of)
theorem ln_heap_of : ∀ (ρ : DE) (q : Slot × DE), m_heap_of ρ = .ok q → ρ.length = 2 := mDef_len
def b__law_sum : MS :=
  (mRt (mUn dSum (mLc (mZip (mVar 0) (mVar 1)) (mgTup 2 (mgCons (mgName 2) (mgCons (mgName 3) mgNil))) mYes (mBinP dMul 2 (mPeek 3)) [2, 3])))
def m__law_sum : SM Slot := mDef 2 2 [] (b__law_sum)
theorem ln__law_sum : ∀ (ρ : DE) (q : Slot × DE), m__law_sum ρ = .ok q → ρ.length = 2 := mDef_len
def b__law_kind (m__law_some : SM Slot) (m__law_roll : SM Slot) (c0 c1 c2 : Int) : MS :=
  (mSq (mSet 1 (mBin dAdd (mC (.int 1)) (mD (mCallO m__law_some 0 (mCons (mLst (mCons (mD (mCallO m__law_roll 0 (mCons (mC (.int 6)) mNil))) (mCons (mD (mCallO m__law_roll 0 (mCons (mC (.int c0)) mNil))) (mCons (mD (mCallO m__law_roll 0 (mCons (mC (.int c1)) mNil))) mNil)))) mNil)))))
  (mRt (mTup (mCons (mVar 1) (mCons (mBinP dAdd 1 (mD (mCallO m__law_some 0 (mCons (mLst (mCons (mC (.int 0)) (mCons (mC (.int 1)) (mCons (mD (mCallO m__law_roll 0 (mCons (mC (.int 5)) mNil))) (mCons (mD (mCallO m__law_roll 0 (mCons (mC (.int 40)) mNil))) (mCons (mD (mCallO m__law_roll 0 (mCons (mC (.int c2)) mNil))) mNil)))))) mNil)))) mNil)))))
def m__law_kind (m__law_some : SM Slot) (m__law_roll : SM Slot) (c0 c1 c2 : Int) : SM Slot := mDef 1 1 [0] (b__law_kind m__law_some m__law_roll c0 c1 c2)
theorem ln__law_kind (m__law_some : SM Slot) (m__law_roll : SM Slot) (c0 c1 c2 : Int) : ∀ (ρ : DE) (q : Slot × DE), m__law_kind m__law_some m__law_roll c0 c1 c2 ρ = .ok q → ρ.length = 1 := mDef_len
def b_fits_kind : MS :=
  (mSq (mIfS (mOrT (mNotT (mTru (mD (mCall Lib.m_is_tuple_of (mCons (mVar 0) (mCons (mC (.int 2)) (mCons (mC (.int 2)) mNil))))))) (mNotT (mTru (mD (mCall Lib.m_fits_whole (mCons (mBinP dIx 0 (mC (.int 0))) (mCons (mC (.int 1)) (mCons (mC (.int 10000)) mNil)))))))) (mRt (mC (.bool false))) mNx)
  (mRtR (mCall Lib.m_fits_whole (mCons (mBinP dIx 0 (mC (.int 1))) (mCons (mBinP dIx 0 (mC (.int 0))) (mCons (mC (.int 10000)) mNil))))))
def m_fits_kind : SM Slot := mDef 1 0 [] (b_fits_kind)
theorem ln_fits_kind : ∀ (ρ : DE) (q : Slot × DE), m_fits_kind ρ = .ok q → ρ.length = 1 := mDef_len
def b_need_kind : MS :=
  (mIfS (mNotT (mTru (mD (mCall Lib.m_fits_kind (mCons (mVar 0) mNil))))) mNever mNx)
def m_need_kind : SM Slot := mDef 1 0 [] (b_need_kind)
theorem ln_need_kind : ∀ (ρ : DE) (q : Slot × DE), m_need_kind ρ = .ok q → ρ.length = 1 := mDef_len
def b_need_many : MS :=
  (mIfS (mNotT (mTru (mD (mCall Lib.m_fits_whole (mCons (mVar 0) (mCons (mVar 1) (mCons (mC (.int 1000)) mNil))))))) mNever mNx)
def m_need_many : SM Slot := mDef 2 0 [] (b_need_many)
theorem ln_need_many : ∀ (ρ : DE) (q : Slot × DE), m_need_many ρ = .ok q → ρ.length = 2 := mDef_len
def b_need_weight : MS :=
  (mIfS (mNotT (mTru (mD (mCall Lib.m_fits_whole (mCons (mVar 0) (mCons (mC (.int 0)) (mCons (mC (.int 10000000)) mNil))))))) mNever mNx)
def m_need_weight : SM Slot := mDef 1 0 [] (b_need_weight)
theorem ln_need_weight : ∀ (ρ : DE) (q : Slot × DE), m_need_weight ρ = .ok q → ρ.length = 1 := mDef_len
def b_numbers_in : MS :=
  (mRt (mTup (mCons (mUn dNeg (mBin dFdiv (mUn dNeg (mPeek 1)) (mBinP dIx 0 (mC (.int 1))))) (mCons (mBinP dFdiv 1 (mBinP dIx 0 (mC (.int 0)))) mNil))))
def m_numbers_in : SM Slot := mDef 2 0 [] (b_numbers_in)
theorem ln_numbers_in : ∀ (ρ : DE) (q : Slot × DE), m_numbers_in ρ = .ok q → ρ.length = 2 := mDef_len
def b_numbers_for : MS :=
  (mSq (mDrp (mD (mCall Lib.m_need_kind (mCons (mVar 0) mNil))))
  (mSq (mDrp (mD (mCall Lib.m_need_weight (mCons (mVar 1) mNil))))
  (mSq (mAsgG (mgTup 2 (mgCons (mgName 2) (mgCons (mgName 3) mgNil))) (mD (mCall Lib.m_numbers_in (mCons (mVar 0) (mCons (mVar 1) mNil)))))
  (mRt (mIf (mTest (mBinP (dOrd fLe) 2 (mPeek 3))) (mTup (mCons (mVar 2) (mCons (mVar 3) mNil))) (mC .none))))))
def m_numbers_for : SM Slot := mDef 2 2 [] (b_numbers_for)
theorem ln_numbers_for : ∀ (ρ : DE) (q : Slot × DE), m_numbers_for ρ = .ok q → ρ.length = 2 := mDef_len
def b__law_can : MS :=
  (mRt (mChain (dOrd fLe) (dOrd fLe) (mBinP dMul 1 (mBinP dIx 0 (mC (.int 0)))) (mVar 2) (mBinP dMul 1 (mBinP dIx 0 (mC (.int 1))))))
def m__law_can : SM Slot := mDef 3 0 [] (b__law_can)
theorem ln__law_can : ∀ (ρ : DE) (q : Slot × DE), m__law_can ρ = .ok q → ρ.length = 3 := mDef_len
def b_mixed_span : MS :=
  (mRt (mTup (mCons (mBin dAdd (mBinP dMul 3 (mBinP dIx 0 (mC (.int 0)))) (mBin dMul (mBinP dSub 2 (mPeek 3)) (mBinP dIx 1 (mC (.int 0))))) (mCons (mBin dAdd (mBinP dMul 3 (mBinP dIx 0 (mC (.int 1)))) (mBin dMul (mBinP dSub 2 (mPeek 3)) (mBinP dIx 1 (mC (.int 1))))) mNil))))
def m_mixed_span : SM Slot := mDef 4 0 [] (b_mixed_span)
theorem ln_mixed_span : ∀ (ρ : DE) (q : Slot × DE), m_mixed_span ρ = .ok q → ρ.length = 4 := mDef_len
def b__law_fewest : MS :=
  (mSq (mSetF 2 (mLst (mCons (mC (.int 0)) mNil)))
  (mSq (mFor (mRng2 (mC (.int 1)) (mBinP dAdd 1 (mC (.int 1)))) (mgName 3) (mSq (mSetF 4 (mLc (mSeq (mVar 0)) (mgName 5) (mAndT (mTest (mBinP (dOrd fLe) 5 (mPeek 3))) (mTest (mBin (dIs true) (mBinP dIx 2 (mBinP dSub 3 (mPeek 5))) (mC .none)))) (mBinP dIx 2 (mBinP dSub 3 (mPeek 5))) [5]))
  (mApp 2 (mIf (mTest (mBinP (dEq true) 4 (mLst mNil))) (mBin dAdd (mUn (dBest PySem.W.minD) (mPeek 4)) (mC (.int 1))) (mC .none)))))
  (mRtR (mVarR 2))))
def m__law_fewest : SM Slot := mDef 2 4 [] (b__law_fewest)
theorem ln__law_fewest : ∀ (ρ : DE) (q : Slot × DE), m__law_fewest ρ = .ok q → ρ.length = 2 := mDef_len
def b__law_greedy : MS :=
  (mSq (mPar [2, 3] (mwVal (mVar 1) (mwVal (mTup mNil) mwNil)))
  (mSq (mFor (mSeq (mUn dRev (mPeek 0))) (mgName 4) (mSq (mSet 3 (mBin dAdd (mTup (mCons (mBinP dFdiv 2 (mPeek 4)) mNil)) (mPeek 3)))
  (mSet 2 (mBinP dSub 2 (mBin dMul (mBinP dFdiv 2 (mPeek 4)) (mPeek 4))))))
  (mRt (mTup (mCons (mVar 3) (mCons (mVar 2) mNil))))))
def m__law_greedy : SM Slot := mDef 2 3 [] (b__law_greedy)
theorem ln__law_greedy : ∀ (ρ : DE) (q : Slot × DE), m__law_greedy ρ = .ok q → ρ.length = 2 := mDef_len
def b__law_ones (m__law_coins : SM Slot) : MS :=
  (mRt (mCut (mUn dTup (mUn dSortA (mUn dDictP (mLc (mSeq (mBin dAdd (mTup (mCons (mC (.int 1)) mNil)) (mD (mCallO m__law_coins 0 (mCons (mVar 1) (mCons (mVar 2) mNil)))))) (mgName 3) mYes (mTup (mCons (mVar 3) (mCons (mC (.bool true)) mNil))) [3])))) none (some (mC (.int 12)))))
def m__law_ones (m__law_coins : SM Slot) : SM Slot := mDef 3 1 [0] (b__law_ones m__law_coins)
theorem ln__law_ones (m__law_coins : SM Slot) : ∀ (ρ : DE) (q : Slot × DE), m__law_ones m__law_coins ρ = .ok q → ρ.length = 3 := mDef_len
def b_greedy_in : MS :=
  (mSq (mPar [2, 3] (mwOwn (mLst mNil) (mwVal (mVar 1) mwNil)))
  (mSq (mFor (mSeq (mUn dRev (mPeek 0))) (mgName 4) (mSq (mSetF 2 (mBin dCatL (mLst (mCons (mBinP dFdiv 3 (mPeek 4)) mNil)) (mPeek 2)))
  (mSet 3 (mBinP dMod 3 (mPeek 4)))))
  (mRt (mTup (mCons (mUn dTup (mPeek 2)) (mCons (mVar 3) mNil))))))
def m_greedy_in : SM Slot := mDef 2 3 [] (b_greedy_in)
theorem ln_greedy_in : ∀ (ρ : DE) (q : Slot × DE), m_greedy_in ρ = .ok q → ρ.length = 2 := mDef_len
def b_fewest_to : MS :=
  (mSq (mSetF 2 (mLst (mCons (mC (.int 0)) mNil)))
  (mSq (mFor (mRng2 (mC (.int 1)) (mBinP dAdd 1 (mC (.int 1)))) (mgName 3) (mApp 2 (mBin dAdd (mC (.int 1)) (mUn (dBest PySem.W.minD) (mLc (mSeq (mVar 0)) (mgName 4) (mTest (mBinP (dOrd fLe) 4 (mPeek 3))) (mBinP dIx 2 (mBinP dSub 3 (mPeek 4))) [4])))))
  (mRtR (mVarR 2))))
def m_fewest_to : SM Slot := mDef 2 3 [] (b_fewest_to)
theorem ln_fewest_to : ∀ (ρ : DE) (q : Slot × DE), m_fewest_to ρ = .ok q → ρ.length = 2 := mDef_len
def b_need_ones : MS :=
  (mSq (mDrp (mD (mCall Lib.m_need_coins (mCons (mVar 0) mNil))))
  (mIfS (mTest (mBin (dEq true) (mBinP dIx 0 (mC (.int 0))) (mC (.int 1)))) mNever mNx))
def m_need_ones : SM Slot := mDef 1 0 [] (b_need_ones)
theorem ln_need_ones : ∀ (ρ : DE) (q : Slot × DE), m_need_ones ρ = .ok q → ρ.length = 1 := mDef_len
def b_fits_amount : MS :=
  (mRtR (mCall Lib.m_fits_whole (mCons (mVar 0) (mCons (mC (.int 0)) (mCons (mC (.int 1000000)) mNil)))))
def m_fits_amount : SM Slot := mDef 1 0 [] (b_fits_amount)
theorem ln_fits_amount : ∀ (ρ : DE) (q : Slot × DE), m_fits_amount ρ = .ok q → ρ.length = 1 := mDef_len
def b_need_amount : MS :=
  (mIfS (mNotT (mTru (mD (mCall Lib.m_fits_amount (mCons (mVar 0) mNil))))) mNever mNx)
def m_need_amount : SM Slot := mDef 1 0 [] (b_need_amount)
theorem ln_need_amount : ∀ (ρ : DE) (q : Slot × DE), m_need_amount ρ = .ok q → ρ.length = 1 := mDef_len
def b_bent_in : MS :=
  (mSq (mSet 3 (mBin dIx (mD (mCall Lib.m_greedy_in (mCons (mVar 0) (mCons (mBin dSub (mBinP dIx 0 (mPeek 1)) (mC (.int 1))) mNil)))) (mC (.int 0))))
  (mRt (mUn dTup (mLc (mEnum (mVar 3)) (mgTup 2 (mgCons (mgName 4) (mgCons (mgName 5) mgNil))) mYes (mIf (mTest (mBinP (dOrd fLt) 4 (mPeek 2))) (mC (.int 0)) (mIf (mTest (mBinP (dEq false) 4 (mPeek 2))) (mBinP dAdd 5 (mC (.int 1))) (mVar 5))) [4, 5]))))
def m_bent_in : SM Slot := mDef 3 3 [] (b_bent_in)
theorem ln_bent_in : ∀ (ρ : DE) (q : Slot × DE), m_bent_in ρ = .ok q → ρ.length = 3 := mDef_len
def b_bent_heaps : MS :=
  (mSq (mSetF 1 (mLst mNil))
  (mSq (mFor (mRng2 (mC (.int 1)) (mUn dLen (mPeek 0))) (mgName 2) (mExt 1 (mLc (mRng1 (mVar 2)) (mgName 3) mYes (mD (mCall Lib.m_bent_in (mCons (mVar 0) (mCons (mVar 2) (mCons (mVar 3) mNil))))) [3])))
  (mRtR (mVarR 1))))
def m_bent_heaps : SM Slot := mDef 1 3 [] (b_bent_heaps)
theorem ln_bent_heaps : ∀ (ρ : DE) (q : Slot × DE), m_bent_heaps ρ = .ok q → ρ.length = 1 := mDef_len
def b_is_fewer : MS :=
  (mRt (mBin (dOrd fLt) (mUn dSum (mPeek 1)) (mUn dSum (mBin dIx (mD (mCall Lib.m_greedy_in (mCons (mVar 0) (mCons (mD (mCall Lib.m_sum_in (mCons (mVar 0) (mCons (mVar 1) mNil)))) mNil)))) (mC (.int 0))))))
def m_is_fewer : SM Slot := mDef 2 0 [] (b_is_fewer)
theorem ln_is_fewer : ∀ (ρ : DE) (q : Slot × DE), m_is_fewer ρ = .ok q → ρ.length = 2 := mDef_len
def b_better_in : MS :=
  (mSq (mSetF 1 (mUn dSortA (mLc (mSeq (mD (mCall Lib.m_bent_heaps (mCons (mVar 0) mNil)))) (mgName 2) (mTru (mD (mCall Lib.m_is_fewer (mCons (mVar 0) (mCons (mVar 2) mNil))))) (mTup (mCons (mD (mCall Lib.m_sum_in (mCons (mVar 0) (mCons (mVar 2) mNil)))) (mCons (mUn dSum (mPeek 2)) (mCons (mVar 2) mNil)))) [2])))
  (mRt (mIf (mTest (mBinP (dEq true) 1 (mLst mNil))) (mTup (mCons (mBin dIx (mBinP dIx 1 (mC (.int 0))) (mC (.int 0))) (mCons (mBin dIx (mBinP dIx 1 (mC (.int 0))) (mC (.int 2))) mNil))) (mC .none))))
def m_better_in : SM Slot := mDef 1 2 [] (b_better_in)
theorem ln_better_in : ∀ (ρ : DE) (q : Slot × DE), m_better_in ρ = .ok q → ρ.length = 1 := mDef_len
def b_is_always_right : MS :=
  (mSq (mDrp (mD (mCall Lib.m_need_ones (mCons (mVar 0) mNil))))
  (mRt (mBin (dIs false) (mD (mCall Lib.m_better_in (mCons (mVar 0) mNil))) (mC .none))))
def m_is_always_right : SM Slot := mDef 1 0 [] (b_is_always_right)
theorem ln_is_always_right : ∀ (ρ : DE) (q : Slot × DE), m_is_always_right ρ = .ok q → ρ.length = 1 := mDef_len
def b_least_counterexample : MS :=
  (mSq (mDrp (mD (mCall Lib.m_need_ones (mCons (mVar 0) mNil))))
  (mSq (mSetR 1 (mCall Lib.m_better_in (mCons (mVar 0) mNil)))
  (mRt (mIf (mTest (mBinP (dIs true) 1 (mC .none))) (mBinP dIx 1 (mC (.int 0))) (mC .none)))))
def m_least_counterexample : SM Slot := mDef 1 1 [] (b_least_counterexample)
theorem ln_least_counterexample : ∀ (ρ : DE) (q : Slot × DE), m_least_counterexample ρ = .ok q → ρ.length = 1 := mDef_len
def b__law_first (m__law_fewest : SM Slot) (m__law_greedy : SM Slot) : MS :=
  (mSq (mSetR 2 (mCall m__law_fewest (mCons (mVar 0) (mCons (mVar 1) mNil))))
  (mSq (mFor (mRng1 (mBinP dAdd 1 (mC (.int 1)))) (mgName 3) (mIfS (mTest (mBin (dOrd fLt) (mBinP dIx 2 (mPeek 3)) (mUn dSum (mBin dIx (mD (mCall m__law_greedy (mCons (mVar 0) (mCons (mVar 3) mNil)))) (mC (.int 0)))))) (mRtR (mVarR 3)) mNx))
  (mRt (mC .none))))
def m__law_first (m__law_fewest : SM Slot) (m__law_greedy : SM Slot) : SM Slot := mDef 2 2 [] (b__law_first m__law_fewest m__law_greedy)
theorem ln__law_first (m__law_fewest : SM Slot) (m__law_greedy : SM Slot) : ∀ (ρ : DE) (q : Slot × DE), m__law_first m__law_fewest m__law_greedy ρ = .ok q → ρ.length = 2 := mDef_len
def b__law_reach : MS :=
  (mRt (mBin dAdd (mBinP dIx 0 (mUn dNeg (mC (.int 1)))) (mIf (mTest (mBin (dOrd fGt) (mUn dLen (mPeek 0)) (mC (.int 1)))) (mBinP dIx 0 (mUn dNeg (mC (.int 2)))) (mC (.int 0)))))
def m__law_reach : SM Slot := mDef 1 0 [] (b__law_reach)
theorem ln__law_reach : ∀ (ρ : DE) (q : Slot × DE), m__law_reach ρ = .ok q → ρ.length = 1 := mDef_len
def b_fits_name : MS :=
  (mSq (mIfS (mOrT (mNotT (mTru (mUn (dIsi .str) (mPeek 0)))) (mNotT (mTest (mChain (dOrd fLe) (dOrd fLe) (mC (.int 1)) (mUn dLen (mPeek 0)) (mC (.int 12)))))) (mRt (mC (.bool false))) mNx)
  (mRt (mAnd (mBin (dIn false) (mBinP dIx 0 (mC (.int 0))) (mC (.str "abcdefghijklmnopqrstuvwxyz"))) (mUn dAll (mLc (mSeq (mVar 0)) (mgName 1) mYes (mBinP (dIn false) 1 (mC (.str "abcdefghijklmnopqrstuvwxyz0123456789"))) [1])))))
def m_fits_name : SM Slot := mDef 1 1 [] (b_fits_name)
theorem ln_fits_name : ∀ (ρ : DE) (q : Slot × DE), m_fits_name ρ = .ok q → ρ.length = 1 := mDef_len
def b__law_names (m__law_some : SM Slot) : MS :=
  (mSq (mSetF 2 (mLst (mCons (mC (.str "a")) (mCons (mC (.str "ab")) (mCons (mC (.str "b")) (mCons (mC (.str "b1")) (mCons (mC (.str "c")) (mCons (mC (.str "d")) (mCons (mC (.str "e")) (mCons (mC (.str "ear")) (mCons (mC (.str "f")) (mCons (mC (.str "g")) (mCons (mC (.str "h9")) (mCons (mC (.str "h")) (mCons (mC (.str "i")) (mCons (mC (.str "j")) (mCons (mC (.str "k")) (mCons (mC (.str "k2")) mNil))))))))))))))))))
  (mSq (mSetF 2 (mBinP dCatL 2 (mLst (mCons (mC (.str "l")) (mCons (mC (.str "m")) (mCons (mC (.str "n")) (mCons (mC (.str "o")) (mCons (mC (.str "p")) (mCons (mC (.str "q")) (mCons (mC (.str "r")) (mCons (mC (.str "s")) (mCons (mC (.str "t")) (mCons (mC (.str "u")) (mCons (mC (.str "v")) (mCons (mC (.str "w")) (mCons (mC (.str "x")) (mCons (mC (.str "z")) mNil)))))))))))))))))
  (mSq (mSetF 3 (mLst mNil))
  (mSq (mFor (mRng1 (mVar 1)) (mgName 4) (mSq (mApp 3 (mD (mCallO m__law_some 0 (mCons (mVar 2) mNil))))
  (mSetF 2 (mLc (mSeq (mVar 2)) (mgName 5) (mTest (mBinP (dEq true) 5 (mBinP dIx 3 (mUn dNeg (mC (.int 1)))))) (mVar 5) [5]))))
  (mRtR (mO (mUn dSortA (mPeek 3))))))))
def m__law_names (m__law_some : SM Slot) : SM Slot := mDef 2 4 [0] (b__law_names m__law_some)
theorem ln__law_names (m__law_some : SM Slot) : ∀ (ρ : DE) (q : Slot × DE), m__law_names m__law_some ρ = .ok q → ρ.length = 2 := mDef_len
def b_common_divisor : MS :=
  (mSq (mWh (mTest (mBinP (dOrd fGt) 1 (mC (.int 0)))) (mPar [0, 1] (mwVal (mVar 1) (mwVal (mBinP dMod 0 (mPeek 1)) mwNil))))
  (mRtR (mVarR 0)))
def m_common_divisor : SM Slot := mDef 2 0 [] (b_common_divisor)
theorem ln_common_divisor : ∀ (ρ : DE) (q : Slot × DE), m_common_divisor ρ = .ok q → ρ.length = 2 := mDef_len
def b_fits_parts : MS :=
  (mSq (mIfS (mOrT (mNotT (mTru (mD (mCall Lib.m_is_tuple_of (mCons (mVar 0) (mCons (mC (.int 1)) (mCons (mC (.int 4)) mNil))))))) (mNotT (mTru (mUn dAll (mLc (mSeq (mVar 0)) (mgName 1) mYes (mD (mCall Lib.m_fits_whole (mCons (mVar 1) (mCons (mC (.int 0)) (mCons (mC (.int 1000)) mNil))))) [1]))))) (mRt (mC (.bool false))) mNx)
  (mRt (mBin (dEq false) (mUn dSum (mPeek 0)) (mC (.int 1000)))))
def m_fits_parts : SM Slot := mDef 1 1 [] (b_fits_parts)
theorem ln_fits_parts : ∀ (ρ : DE) (q : Slot × DE), m_fits_parts ρ = .ok q → ρ.length = 1 := mDef_len
def b_fits_ingot : MS :=
  (mSq (mIfS (mOrT (mNotT (mTru (mD (mCall Lib.m_is_tuple_of (mCons (mVar 0) (mCons (mC (.int 3)) (mCons (mC (.int 3)) mNil))))))) (mNotT (mTru (mD (mCall Lib.m_fits_name (mCons (mBinP dIx 0 (mC (.int 0))) mNil)))))) (mRt (mC (.bool false))) mNx)
  (mRt (mAnd (mD (mCall Lib.m_fits_whole (mCons (mBinP dIx 0 (mC (.int 1))) (mCons (mC (.int 1)) (mCons (mC (.int 1000)) mNil))))) (mD (mCall Lib.m_fits_parts (mCons (mBinP dIx 0 (mC (.int 2))) mNil))))))
def m_fits_ingot : SM Slot := mDef 1 0 [] (b_fits_ingot)
theorem ln_fits_ingot : ∀ (ρ : DE) (q : Slot × DE), m_fits_ingot ρ = .ok q → ρ.length = 1 := mDef_len
def b_fits_ingots : MS :=
  (mSq (mIfS (mOrT (mNotT (mTru (mD (mCall Lib.m_is_tuple_of (mCons (mVar 0) (mCons (mC (.int 1)) (mCons (mC (.int 8)) mNil))))))) (mNotT (mTru (mUn dAll (mLc (mSeq (mVar 0)) (mgName 1) mYes (mD (mCall Lib.m_fits_ingot (mCons (mVar 1) mNil))) [1]))))) (mRt (mC (.bool false))) mNx)
  (mRt (mAnd (mD (mCall Lib.m_is_rising (mCons (mLc (mSeq (mVar 0)) (mgName 1) mYes (mBinP dIx 1 (mC (.int 0))) [1]) mNil))) (mBin (dEq false) (mUn dLenSet (mLc (mSeq (mVar 0)) (mgName 1) mYes (mUn dLen (mBinP dIx 1 (mC (.int 2)))) [1])) (mC (.int 1))))))
def m_fits_ingots : SM Slot := mDef 1 1 [] (b_fits_ingots)
theorem ln_fits_ingots : ∀ (ρ : DE) (q : Slot × DE), m_fits_ingots ρ = .ok q → ρ.length = 1 := mDef_len
def b_need_ingots : MS :=
  (mIfS (mNotT (mTru (mD (mCall Lib.m_fits_ingots (mCons (mVar 0) mNil))))) mNever mNx)
def m_need_ingots : SM Slot := mDef 1 0 [] (b_need_ingots)
theorem ln_need_ingots : ∀ (ρ : DE) (q : Slot × DE), m_need_ingots ρ = .ok q → ρ.length = 1 := mDef_len
def b_fits_mixture : MS :=
  (mSq (mIfS (mOrT (mNotT (mTru (mD (mCall Lib.m_is_tuple_of (mCons (mVar 1) (mCons (mC (.int 2)) (mCons (mC (.int 2)) mNil))))))) (mOrT (mNotT (mTru (mD (mCall Lib.m_is_whole (mCons (mBinP dIx 1 (mC (.int 0))) mNil))))) (mTest (mBin (dOrd fLt) (mBinP dIx 1 (mC (.int 0))) (mC (.int 1)))))) (mRt (mC (.bool false))) mNx)
  (mSq (mIfS (mOrT (mNotT (mTru (mD (mCall Lib.m_is_tuple_of (mCons (mBinP dIx 1 (mC (.int 1))) (mCons (mUn dLen (mPeek 0)) (mCons (mUn dLen (mPeek 0)) mNil))))))) (mNotT (mTru (mUn dAll (mLc (mSeq (mBinP dIx 1 (mC (.int 1)))) (mgName 2) mYes (mD (mCall Lib.m_is_whole (mCons (mVar 2) mNil))) [2]))))) (mRt (mC (.bool false))) mNx)
  (mRt (mAnd (mBin (dOrd fGt) (mUn dSum (mBinP dIx 1 (mC (.int 1)))) (mC (.int 0))) (mUn dAll (mLc (mZip (mBinP dIx 1 (mC (.int 1))) (mVar 0)) (mgTup 2 (mgCons (mgName 2) (mgCons (mgName 3) mgNil))) mYes (mChain (dOrd fLe) (dOrd fLe) (mC (.int 0)) (mVar 2) (mBin dMul (mBinP dIx 1 (mC (.int 0))) (mBinP dIx 3 (mC (.int 1))))) [2, 3]))))))
def m_fits_mixture : SM Slot := mDef 2 2 [] (b_fits_mixture)
theorem ln_fits_mixture : ∀ (ρ : DE) (q : Slot × DE), m_fits_mixture ρ = .ok q → ρ.length = 2 := mDef_len
def b_need_mixture : MS :=
  (mIfS (mNotT (mTru (mD (mCall Lib.m_fits_mixture (mCons (mVar 0) (mCons (mVar 1) mNil)))))) mNever mNx)
def m_need_mixture : SM Slot := mDef 2 0 [] (b_need_mixture)
theorem ln_need_mixture : ∀ (ρ : DE) (q : Slot × DE), m_need_mixture ρ = .ok q → ρ.length = 2 := mDef_len
def b_fits_bounds : MS :=
  (mSq (mSet 2 (mUn dLen (mBin dIx (mBinP dIx 0 (mC (.int 0))) (mC (.int 2)))))
  (mSq (mIfS (mOrT (mNotT (mTru (mD (mCall Lib.m_is_tuple_of (mCons (mVar 1) (mCons (mVar 2) (mCons (mVar 2) mNil))))))) (mNotT (mTru (mUn dAll (mLc (mSeq (mVar 1)) (mgName 3) mYes (mD (mCall Lib.m_is_tuple_of (mCons (mVar 3) (mCons (mC (.int 2)) (mCons (mC (.int 2)) mNil))))) [3]))))) (mRt (mC (.bool false))) mNx)
  (mRt (mUn dAll (mLc (mSeq (mVar 1)) (mgName 3) mYes (mAnd (mD (mCall Lib.m_fits_whole (mCons (mBinP dIx 3 (mC (.int 0))) (mCons (mC (.int 0)) (mCons (mC (.int 1000)) mNil))))) (mD (mCall Lib.m_fits_whole (mCons (mBinP dIx 3 (mC (.int 1))) (mCons (mBinP dIx 3 (mC (.int 0))) (mCons (mC (.int 1000)) mNil)))))) [3])))))
def m_fits_bounds : SM Slot := mDef 2 2 [] (b_fits_bounds)
theorem ln_fits_bounds : ∀ (ρ : DE) (q : Slot × DE), m_fits_bounds ρ = .ok q → ρ.length = 2 := mDef_len
def b_need_bounds : MS :=
  (mIfS (mNotT (mTru (mD (mCall Lib.m_fits_bounds (mCons (mVar 0) (mCons (mVar 1) mNil)))))) mNever mNx)
def m_need_bounds : SM Slot := mDef 2 0 [] (b_need_bounds)
theorem ln_need_bounds : ∀ (ρ : DE) (q : Slot × DE), m_need_bounds ρ = .ok q → ρ.length = 2 := mDef_len
def b_lowered : MS :=
  (mSq (mSetR 2 (mCall Lib.m_common_divisor (mCons (mVar 1) (mCons (mUn dAbs (mPeek 0)) mNil))))
  (mRt (mTup (mCons (mBinP dFdiv 0 (mPeek 2)) (mCons (mBinP dFdiv 1 (mPeek 2)) mNil)))))
def m_lowered : SM Slot := mDef 2 1 [] (b_lowered)
theorem ln_lowered : ∀ (ρ : DE) (q : Slot × DE), m_lowered ρ = .ok q → ρ.length = 2 := mDef_len
def b_metal_in : MS :=
  (mRtR (mO (mLc (mRng1 (mUn dLen (mBin dIx (mBinP dIx 0 (mC (.int 0))) (mC (.int 2))))) (mgName 4) mYes (mUn dSum (mLc (mZip (mVar 1) (mVar 0)) (mgTup 2 (mgCons (mgName 2) (mgCons (mgName 3) mgNil))) mYes (mBinP dMul 2 (mBin dIx (mBinP dIx 3 (mC (.int 2))) (mPeek 4))) [2, 3])) [4])))
def m_metal_in : SM Slot := mDef 2 3 [] (b_metal_in)
theorem ln_metal_in : ∀ (ρ : DE) (q : Slot × DE), m_metal_in ρ = .ok q → ρ.length = 2 := mDef_len
def b_is_kept : MS :=
  (mSq (mSet 3 (mUn dSum (mPeek 2)))
  (mRt (mUn dAll (mLc (mZipM (mD (mCall Lib.m_metal_in (mCons (mVar 0) (mCons (mVar 2) mNil)))) (mVar 1)) (mgTup 2 (mgCons (mgName 4) (mgCons (mgTup 2 (mgCons (mgName 5) (mgCons (mgName 6) mgNil))) mgNil))) mYes (mChain (dOrd fLe) (dOrd fLe) (mBinP dMul 5 (mPeek 3)) (mVar 4) (mBinP dMul 6 (mPeek 3))) [4, 5, 6]))))
def m_is_kept : SM Slot := mDef 3 4 [] (b_is_kept)
theorem ln_is_kept : ∀ (ρ : DE) (q : Slot × DE), m_is_kept ρ = .ok q → ρ.length = 3 := mDef_len
def b__law_parts (m__law_some : SM Slot) (m__law_roll : SM Slot) (c0 : Int) : MS :=
  (mSq (mAsgG (mgTup 2 (mgCons (mgName 2) (mgCons (mgName 3) mgNil))) (mTup (mCons (mC (.int c0)) (mCons (mTup mNil) mNil))))
  (mSq (mFor (mRng1 (mBinP dSub 1 (mC (.int 1)))) (mgName 4) (mSq (mSetR 5 (mCallO m__law_some 0 (mCons (mLst (mCons (mC (.int 0)) (mCons (mVar 2) (mCons (mD (mCallO m__law_roll 0 (mCons (mBinP dAdd 2 (mC (.int 1))) mNil))) (mCons (mD (mCallO m__law_roll 0 (mCons (mBinP dAdd 2 (mC (.int 1))) mNil))) (mCons (mBinP dFdiv 2 (mC (.int 2))) mNil)))))) mNil)))
  (mPar [2, 3] (mwVal (mBinP dSub 2 (mPeek 5)) (mwVal (mBinP dAdd 3 (mTup (mCons (mVar 5) mNil))) mwNil)))))
  (mRt (mBinP dAdd 3 (mTup (mCons (mVar 2) mNil))))))
def m__law_parts (m__law_some : SM Slot) (m__law_roll : SM Slot) (c0 : Int) : SM Slot := mDef 2 4 [0] (b__law_parts m__law_some m__law_roll c0)
theorem ln__law_parts (m__law_some : SM Slot) (m__law_roll : SM Slot) (c0 : Int) : ∀ (ρ : DE) (q : Slot × DE), m__law_parts m__law_some m__law_roll c0 ρ = .ok q → ρ.length = 2 := mDef_len
def b__law_ingots (m__law_roll : SM Slot) (m__law_names : SM Slot) (m__law_some : SM Slot) (m__law_parts : SM Slot) (c0 : Int) : MS :=
  (mSq (mPar [2, 3] (mwVal (mBin dAdd (mC (.int 1)) (mD (mCallO m__law_roll 0 (mCons (mC (.int 4)) mNil)))) (mwVal (mTup mNil) mwNil)))
  (mSq (mFor (mSeq (mD (mCallO m__law_names 0 (mCons (mBin dAdd (mC (.int 1)) (mD (mCallO m__law_roll 0 (mCons (mVar 1) mNil)))) mNil)))) (mgName 4) (mSet 3 (mBinP dAdd 3 (mTup (mCons (mTup (mCons (mVar 4) (mCons (mD (mCallO m__law_some 0 (mCons (mLst (mCons (mC (.int 1)) (mCons (mC (.int 2)) (mCons (mC (.int c0)) (mCons (mBin dAdd (mC (.int 1)) (mD (mCallO m__law_roll 0 (mCons (mC (.int 40)) mNil)))) mNil))))) mNil))) (mCons (mD (mCallO m__law_parts 0 (mCons (mVar 2) mNil))) mNil)))) mNil)))))
  (mRtR (mVarR 3))))
def m__law_ingots (m__law_roll : SM Slot) (m__law_names : SM Slot) (m__law_some : SM Slot) (m__law_parts : SM Slot) (c0 : Int) : SM Slot := mDef 2 3 [0] (b__law_ingots m__law_roll m__law_names m__law_some m__law_parts c0)
theorem ln__law_ingots (m__law_roll : SM Slot) (m__law_names : SM Slot) (m__law_some : SM Slot) (m__law_parts : SM Slot) (c0 : Int) : ∀ (ρ : DE) (q : Slot × DE), m__law_ingots m__law_roll m__law_names m__law_some m__law_parts c0 ρ = .ok q → ρ.length = 2 := mDef_len
def b__law_bounds (m__law_some : SM Slot) (m__law_roll : SM Slot) (c0 c1 c2 c3 c4 : Int) : MS :=
  (mSq (mPar [2, 3, 4] (mwVal (mTup mNil) (mwVal (mBin dIx (mD (mCallO m__law_some 0 (mCons (mVar 1) mNil))) (mC (.int 2))) (mwVal (mBin dIx (mD (mCallO m__law_some 0 (mCons (mVar 1) mNil))) (mC (.int 2))) mwNil))))
  (mSq (mSetR 5 (mCallO m__law_roll 0 (mCons (mC (.int 4)) mNil)))
  (mSq (mFor (mZip (mVar 3) (mVar 4)) (mgTup 2 (mgCons (mgName 6) (mgCons (mgName 7) mgNil))) (mSq (mPar [8, 9] (mwVal (mD (mCallO m__law_roll 0 (mCons (mC (.int c0)) mNil))) (mwVal (mD (mCallO m__law_roll 0 (mCons (mC (.int c1)) mNil))) mwNil)))
  (mSq (mSet 10 (mBin dFdiv (mBinP dAdd 6 (mPeek 7)) (mC (.int 2))))
  (mSq (mSetR 11 (mCallO m__law_roll 0 (mCons (mC (.int c2)) mNil)))
  (mSq (mIfS (mTest (mBinP (dOrd fLt) 5 (mC (.int 2)))) (mPar [8, 9] (mwVal (mBin dMax2 (mC (.int 0)) (mBinP dSub 10 (mPeek 11))) (mwVal (mBin dMin2 (mC (.int c3)) (mBin dAdd (mBinP dAdd 10 (mPeek 11)) (mC (.int 1)))) mwNil))) mNx)
  (mSet 2 (mBinP dAdd 2 (mTup (mCons (mIf (mTest (mBin (dEq false) (mD (mCallO m__law_roll 0 (mCons (mC (.int 4)) mNil))) (mC (.int 0)))) (mTup (mCons (mC (.int 0)) (mCons (mC (.int c4)) mNil))) (mTup (mCons (mBin dMin2 (mVar 8) (mPeek 9)) (mCons (mBin dMax2 (mVar 8) (mPeek 9)) mNil)))) mNil)))))))))
  (mRtR (mVarR 2)))))
def m__law_bounds (m__law_some : SM Slot) (m__law_roll : SM Slot) (c0 c1 c2 c3 c4 : Int) : SM Slot := mDef 2 10 [0] (b__law_bounds m__law_some m__law_roll c0 c1 c2 c3 c4)
theorem ln__law_bounds (m__law_some : SM Slot) (m__law_roll : SM Slot) (c0 c1 c2 c3 c4 : Int) : ∀ (ρ : DE) (q : Slot × DE), m__law_bounds m__law_some m__law_roll c0 c1 c2 c3 c4 ρ = .ok q → ρ.length = 2 := mDef_len
def b__law_mixture (m__law_some : SM Slot) (m__law_roll : SM Slot) (c0 : Int) : MS :=
  (mSq (mSetR 2 (mCallO m__law_some 0 (mCons (mLst (mCons (mC (.int 1)) (mCons (mC (.int 2)) (mCons (mC (.int 3)) (mCons (mC (.int 7)) (mCons (mC (.int 12)) (mCons (mC (.int c0)) mNil))))))) mNil)))
  (mSq (mSetF 3 (mLc (mSeq (mVar 1)) (mgName 4) mYes (mD (mCallO m__law_some 0 (mCons (mLst (mCons (mC (.int 0)) (mCons (mD (mCallO m__law_roll 0 (mCons (mBin dAdd (mBinP dMul 2 (mBinP dIx 4 (mC (.int 1)))) (mC (.int 1))) mNil))) (mCons (mBinP dMul 2 (mBinP dIx 4 (mC (.int 1)))) mNil)))) mNil))) [4]))
  (mSq (mSetR 5 (mCallO m__law_roll 0 (mCons (mUn dLen (mPeek 1)) mNil)))
  (mSq (mPut 3 dSetK (mVar 5) (mBin dMax2 (mC (.int 1)) (mBinP dIx 3 (mPeek 5))))
  (mRt (mTup (mCons (mVar 2) (mCons (mUn dTup (mPeek 3)) mNil))))))))
def m__law_mixture (m__law_some : SM Slot) (m__law_roll : SM Slot) (c0 : Int) : SM Slot := mDef 2 4 [0] (b__law_mixture m__law_some m__law_roll c0)
theorem ln__law_mixture (m__law_some : SM Slot) (m__law_roll : SM Slot) (c0 : Int) : ∀ (ρ : DE) (q : Slot × DE), m__law_mixture m__law_some m__law_roll c0 ρ = .ok q → ρ.length = 2 := mDef_len
def b__law_metal : MS :=
  (mSq (mSetF 2 (mLst mNil))
  (mSq (mFor (mRng1 (mUn dLen (mBin dIx (mBinP dIx 0 (mC (.int 0))) (mC (.int 2))))) (mgName 3) (mApp 2 (mUn dSum (mLc (mZip (mVar 1) (mVar 0)) (mgTup 2 (mgCons (mgName 4) (mgCons (mgName 5) mgNil))) mYes (mBinP dMul 4 (mBin dIx (mBinP dIx 5 (mC (.int 2))) (mPeek 3))) [4, 5]))))
  (mRtR (mVarR 2))))
def m__law_metal : SM Slot := mDef 2 4 [] (b__law_metal)
theorem ln__law_metal : ∀ (ρ : DE) (q : Slot × DE), m__law_metal ρ = .ok q → ρ.length = 2 := mDef_len
def b__law_within (m__law_metal : SM Slot) : MS :=
  (mSq (mPar [3, 4] (mwVal (mUn dSum (mPeek 2)) (mwVal (mD (mCall m__law_metal (mCons (mVar 0) (mCons (mVar 2) mNil)))) mwNil)))
  (mRt (mBin (dEq false) (mLc (mRng1 (mUn dLen (mPeek 4))) (mgName 5) (mNotT (mTest (mChain (dOrd fLe) (dOrd fLe) (mBin dMul (mBin dIx (mBinP dIx 1 (mPeek 5)) (mC (.int 0))) (mPeek 3)) (mBinP dIx 4 (mPeek 5)) (mBin dMul (mBin dIx (mBinP dIx 1 (mPeek 5)) (mC (.int 1))) (mPeek 3))))) (mVar 5) [5]) (mLst mNil))))
def m__law_within (m__law_metal : SM Slot) : SM Slot := mDef 3 3 [] (b__law_within m__law_metal)
theorem ln__law_within (m__law_metal : SM Slot) : ∀ (ρ : DE) (q : Slot × DE), m__law_within m__law_metal ρ = .ok q → ρ.length = 3 := mDef_len
def b__law_lowered : MS :=
  (mSq (mPar [2, 3] (mwVal (mUn dAbs (mPeek 0)) (mwVal (mVar 1) mwNil)))
  (mSq (mWh (mTest (mBinP (dOrd fGt) 3 (mC (.int 0)))) (mPar [2, 3] (mwVal (mVar 3) (mwVal (mBinP dMod 2 (mPeek 3)) mwNil))))
  (mRt (mTup (mCons (mBinP dFdiv 0 (mPeek 2)) (mCons (mBinP dFdiv 1 (mPeek 2)) mNil))))))
def m__law_lowered : SM Slot := mDef 2 2 [] (b__law_lowered)
theorem ln__law_lowered : ∀ (ρ : DE) (q : Slot × DE), m__law_lowered ρ = .ok q → ρ.length = 2 := mDef_len
end
end DL.Lib
namespace DL
open PySem PySem.Spec PyProof.Rows L2 DL.Lib
/-! ### tools -/
def isW : D → Bool
  | .int _ => true
  | _ => false
def noD : D → Bool
  | .dict _ => false
  | _ => true
@[simp] theorem noD_non : noD .none = true := by unfold noD; simp
@[simp] theorem noD_bool (b : Bool) : noD (.bool b) = true := by unfold noD; simp
@[simp] theorem noD_int (b : Int) : noD (.int b) = true := by unfold noD; simp
@[simp] theorem noD_str (b : Str) : noD (.str b) = true := by unfold noD; simp
@[simp] theorem noD_list (b : List D) : noD (.list b) = true := by unfold noD; simp
@[simp] theorem noD_tup (b : List D) : noD (.tuple b) = true := by unfold noD; simp
abbrev T (ns : List Int) : D := .tuple (ns.map .int)
abbrev LI (ns : List Int) : D := .list (ns.map .int)
@[simp] theorem asB_b (b : Bool) : asB (.bool b) = .ok b := rfl
@[simp] theorem truD_b (b : Bool) : truD (.bool b) = .ok b := rfl
@[simp] theorem back_nil (P : List Nat) (ρ' : DE) : backD P ρ' [] = [] := rfl
@[simp] theorem back_v (P : List Nat) (ρ' : DE) (i : Nat) (d : D) : backS P ρ' i (some (.val d)) = some (.val d) := rfl
@[simp] theorem back_o (P : List Nat) (ρ' : DE) (i : Nat) (d : D) : backS P ρ' i (some (.own d)) = if P.contains i then (match ρ'[i]? with
    | some (some (.own d)) => some (.own d)
    | _ => none) else none := rfl
@[simp] theorem back_1 (P : List Nat) (ρ' : DE) (a : Option Slot) : backD P ρ' [a] = [backS P ρ' 0 a] := rfl
@[simp] theorem back_2 (P : List Nat) (ρ' : DE) (a b : Option Slot) : backD P ρ' [a, b] = [backS P ρ' 0 a, backS P ρ' 1 b] := rfl
@[simp] theorem back_3 (P : List Nat) (ρ' : DE) (a b c : Option Slot) : backD P ρ' [a, b, c] = [backS P ρ' 0 a, backS P ρ' 1 b, backS P ρ' 2 c] := rfl
@[simp] theorem back_4 (P : List Nat) (ρ' : DE) (a b c d : Option Slot) : backD P ρ' [a, b, c, d] = [backS P ρ' 0 a, backS P ρ' 1 b, backS P ρ' 2 c, backS P ρ' 3 d] := rfl
@[simp] theorem nO_none : nO (some none) = true := rfl
@[simp] theorem nO_val (d : D) : nO (some (some (.val d))) = true := rfl
@[simp] theorem nO_map (x : Option D) : nO (some (x.map .val)) = true := by cases x <;> rfl
theorem dep_int (a : Int) : (PyData.int a).depth ≤ 60 := Nat.zero_le _
theorem ord_int (a b : Int) : ordOk (.int a) (.int b) := ⟨rfl, (fun z => by cases z), ⟨rfl, dep_int a⟩, ⟨rfl, dep_int b⟩⟩
@[simp] theorem o_lt (a b : Int) : dOrd fLt (.int a) (.int b) = .ok (.bool (decide (a < b))) := by
  unfold dOrd fLt
  rw [Rs.grd_pos (ord_int a b), PySem.W.dataLt_int]
@[simp] theorem o_gt (a b : Int) : dOrd fGt (.int a) (.int b) = .ok (.bool (decide (a > b))) := by
  unfold dOrd fGt
  rw [Rs.grd_pos (ord_int a b), PySem.W.dataLt_int]
@[simp] theorem o_le (a b : Int) : dOrd fLe (.int a) (.int b) = .ok (.bool (decide (a ≤ b))) := by
  unfold dOrd fLe
  rw [Rs.grd_pos (ord_int a b), PySem.W.dataLt_int]
  congr 2
  by_cases h : b < a
  · simp [h]
  · simp [h]; omega
@[simp] theorem o_ge (a b : Int) : dOrd fGe (.int a) (.int b) = .ok (.bool (decide (a ≥ b))) := by
  unfold dOrd fGe
  rw [Rs.grd_pos (ord_int a b), PySem.W.dataLt_int]
  congr 2
  by_cases h : a < b
  · simp [h]
  · simp [h]; omega
theorem ok_int (a : Int) : okD (.int a) := ⟨rfl, dep_int a⟩
@[simp] theorem o_eq (a b : Int) (neg : Bool) : dEq neg (.int a) (.int b) = .ok (.bool ((a == b) != neg)) := by
  unfold dEq
  rw [Rs.grd_pos ⟨ok_int a, ok_int b⟩, show PyData.eqv (.int a) (.int b) = (a == b) from rfl]
@[simp] theorem o_add (a b : Int) : dAdd (.int a) (.int b) = .ok (.int (a + b)) := rfl
@[simp] theorem o_addI (a b : Int) : dAddI (.int a) (.int b) = .ok (.int (a + b)) := rfl
@[simp] theorem o_sub (a b : Int) : dSub (.int a) (.int b) = .ok (.int (a - b)) := rfl
@[simp] theorem o_int (a : Int) : dInt (.int a) = .ok (.int a) := rfl
@[simp] theorem o_abs (a : Int) : dAbs (.int a) = .ok (.int (if a < 0 then -a else a)) := rfl
@[simp] theorem i_int (a : Int) : dIsi .int (.int a) = .ok (.bool true) := rfl
@[simp] theorem i_intb (a : Bool) : dIsi .int (.bool a) = .ok (.bool true) := rfl
@[simp] theorem i_boolb (a : Bool) : dIsi .bool (.bool a) = .ok (.bool true) := rfl
@[simp] theorem i_bool (a : Int) : dIsi .bool (.int a) = .ok (.bool false) := rfl
@[simp] theorem i_tup (ds : List D) : dIsi .tuple (.tuple ds) = .ok (.bool true) := rfl
@[simp] theorem i_len (ds : List D) : dLen (.tuple ds) = .ok (.int ds.length) := rfl
@[simp] theorem i_lenL (ds : List D) : dLen (.list ds) = .ok (.int ds.length) := rfl
/-- a comprehension whose parts change nothing -/
theorem lcL_pure {g : MG} {c : SM Bool} {e : SM D} {vs : List Nat} {ρ : DE} {f : D → D} {k : D → Bool} : ∀ {ds : List D}, (∀ d ∈ ds, ∃ ρ1, g d (wipeD ρ vs) = .ok ρ1 ∧ c ρ1 = .ok (k d, ρ1) ∧ (k d = true → e ρ1 = .ok (f d, ρ1)) ∧ unw ρ ρ1 vs = ρ) →
    lcL g c e vs ds ρ = .ok ((ds.filter k).map f, ρ)
  | [], _ => rfl
  | d :: ds, h => by
    obtain ⟨ρ1, h1, h2, h3, h4⟩ := h d (List.mem_cons_self ..)
    have ih := lcL_pure (ds := ds) fun x hx => h x (List.mem_cons_of_mem _ hx)
    unfold lcL
    rw [h1, Rs.bind_ok, h2, Rs.bind_ok]
    cases hk : k d with
    | true =>
      rw [if_pos rfl, h3 hk, Rs.bind_ok, h4, ih, Rs.bind_ok, List.filter_cons, hk]
      rfl
    | false =>
      rw [if_neg (by simp), h4, ih, List.filter_cons, hk]
      rfl
theorem lcL_map {g : MG} {e : SM D} {vs : List Nat} {ρ : DE} {f : D → D} {ds : List D} (h : ∀ d ∈ ds, ∃ ρ1, g d (wipeD ρ vs) = .ok ρ1 ∧ e ρ1 = .ok (f d, ρ1) ∧ unw ρ ρ1 vs = ρ) :
    lcL g mYes e vs ds ρ = .ok (ds.map f, ρ) := by
  have := lcL_pure (g := g) (c := mYes) (e := e) (vs := vs) (ρ := ρ) (f := f) (k := fun _ => true) (ds := ds) fun d hd => let ⟨ρ1, h1, h2, h3⟩ := h d hd; ⟨ρ1, h1, rfl, fun _ => h2, h3⟩
  rw [this, List.filter_eq_self.mpr fun _ _ => rfl]
theorem lcL_of {α : Type} {g : MG} {e : SM D} {vs : List Nat} {ρ : DE} (h f : α → D) {xs : List α} (H : ∀ x ∈ xs, ∃ ρ1, g (h x) (wipeD ρ vs) = .ok ρ1 ∧ e ρ1 = .ok (f x, ρ1) ∧ unw ρ ρ1 vs = ρ) : lcL g mYes e vs (xs.map h) ρ = .ok (xs.map f, ρ) := by
  induction xs with
  | nil => rfl
  | cons x xs ih =>
    obtain ⟨ρ1, h1, h2, h3⟩ := H x (List.mem_cons_self ..)
    rw [List.map_cons]
    unfold lcL
    rw [h1, Rs.bind_ok, x_yes, Rs.bind_ok, if_pos rfl, h2, Rs.bind_ok, h3, ih fun y hy => H y (List.mem_cons_of_mem _ hy)]
    rfl
theorem lcL_ofF {α : Type} {g : MG} {c : SM Bool} {e : SM D} {vs : List Nat} {ρ : DE} (h f : α → D) (k : α → Bool) {xs : List α} (H : ∀ x ∈ xs, ∃ ρ1, g (h x) (wipeD ρ vs) = .ok ρ1 ∧ c ρ1 = .ok (k x, ρ1) ∧ (k x = true → e ρ1 = .ok (f x, ρ1)) ∧ unw ρ ρ1 vs = ρ) :
    lcL g c e vs (xs.map h) ρ = .ok ((xs.filter k).map f, ρ) := by
  induction xs with
  | nil => rfl
  | cons x xs ih =>
    obtain ⟨ρ1, h1, h2, h3, h4⟩ := H x (List.mem_cons_self ..)
    have ih := ih fun y hy => H y (List.mem_cons_of_mem _ hy)
    rw [List.map_cons]
    unfold lcL
    rw [h1, Rs.bind_ok, h2, Rs.bind_ok, List.filter_cons]
    cases hk : k x with
    | true =>
      rw [if_pos rfl, if_pos rfl, h3 hk, Rs.bind_ok, h4, ih]
      rfl
    | false =>
      rw [if_neg (by simp), if_neg (by simp), h4, ih]
@[simp] theorem x_nown (ρ : DE) (vs : List Nat) : nown ρ vs = vs.all fun v => nO ρ[v]? := rfl
@[simp] theorem wipe_0 (ρ : DE) : wipeD ρ [] = ρ := rfl
@[simp] theorem wipe_1 (ρ : DE) (v : Nat) (vs : List Nat) : wipeD ρ (v :: vs) = (wipeD ρ vs).set v none := rfl
@[simp] theorem unw_0 (ρ ρ' : DE) : unw ρ ρ' [] = ρ' := rfl
@[simp] theorem unw_1 (ρ ρ' : DE) (v : Nat) (vs : List Nat) : unw ρ ρ' (v :: vs) = (unw ρ ρ' vs).set v (ρ[v]?.getD none) := rfl
theorem forL_inv {g : MG} {b : MS} (I : List D → DE → Prop) : ∀ {ds : List D} {ρ : DE}, I ds ρ → (∀ d ds' ρ, I (d :: ds') ρ → ∃ ρ1 ρ2, g d ρ = .ok ρ1 ∧ (b ρ1 = .ok (.nx, ρ2) ∨ b ρ1 = .ok (.ct, ρ2)) ∧ I ds' ρ2) → ∃ ρ', forL g b ds ρ = .ok (.nx, ρ') ∧ I [] ρ'
  | [], ρ, h0, _ => ⟨ρ, rfl, h0⟩
  | d :: ds, ρ, h0, hs => by
    obtain ⟨ρ1, ρ2, h1, h2, h3⟩ := hs d ds ρ h0
    obtain ⟨ρ', h4, h5⟩ := forL_inv I h3 hs
    refine ⟨ρ', ?_, h5⟩
    unfold forL
    rw [h1, Rs.bind_ok]
    rcases h2 with h2 | h2 <;> rw [h2, Rs.bind_ok] <;> exact h4
theorem p_allL (bs : List Bool) : dAll (.list (bs.map .bool)) = .ok (.bool (bs.all id)) := by
  unfold dAll
  simp only []
  rw [boolsOf_map]
  rfl
theorem p_all {α : Type} (xs : List α) (f : α → Bool) : dAll (.list (xs.map fun x => .bool (f x))) = .ok (.bool (xs.all f)) := by
  have : (xs.map fun x => PyData.bool (f x)) = (xs.map f).map .bool := by rw [List.map_map]; rfl
  rw [this, p_allL, List.all_map]
  rfl
theorem p_any {α : Type} (xs : List α) (f : α → Bool) : dAny (.list (xs.map fun x => .bool (f x))) = .ok (.bool (xs.any f)) := by
  have : (xs.map fun x => PyData.bool (f x)) = (xs.map f).map .bool := by rw [List.map_map]; rfl
  unfold dAny
  simp only []
  rw [this, boolsOf_map, x_ofO, Rs.bind_ok, List.any_map]
  rfl
theorem p_sumL (ns : List Int) : dSum (LI ns) = .ok (.int ns.sum) := by
  unfold dSum
  show (ofO ((itemsD (.list (ns.map .int))).bind intsOf)).bind _ = _
  simp [itemsD, intsOf_map]
theorem p_sumT (ns : List Int) : dSum (T ns) = .ok (.int ns.sum) := by
  unfold dSum
  show (ofO ((itemsD (.tuple (ns.map .int))).bind intsOf)).bind _ = _
  simp [itemsD, intsOf_map]
/-! ### whole numbers, rows of them -/
@[simp] theorem p_is_whole (d : D) (h : noD d = true) : m_is_whole [some (.val d)] = .ok (.val (.bool (isW d)), [some (.val d)]) := by
  unfold m_is_whole mDef b_is_whole
  cases d <;> simp [dIsi, isiD, isW] <;> cases h
def fitsW (lo hi : Int) : D → Bool
  | .int i => decide (lo ≤ i ∧ i ≤ hi)
  | _ => false
@[simp] theorem p_fits_whole (d : D) (lo hi : Int) (h : noD d = true) : m_fits_whole [some (.val d), some (.val (.int lo)), some (.val (.int hi))] = .ok (.val (.bool (fitsW lo hi d)), [some (.val d), some (.val (.int lo)), some (.val (.int hi))]) := by
  unfold m_fits_whole mDef b_fits_whole
  cases d with
  | int i =>
    simp [isW, fitsW]
    by_cases h1 : lo ≤ i <;> simp [h1]
  | dict es => cases h
  | _ => simp [isW, fitsW]
def isTup (lo hi : Int) : D → Bool
  | .tuple ds => decide (lo ≤ ds.length ∧ (ds.length : Int) ≤ hi)
  | _ => false
@[simp] theorem p_is_tuple_of (d : D) (lo hi : Int) (h : noD d = true) : m_is_tuple_of [some (.val d), some (.val (.int lo)), some (.val (.int hi))] = .ok (.val (.bool (isTup lo hi d)), [some (.val d), some (.val (.int lo)), some (.val (.int hi))]) := by
  unfold m_is_tuple_of mDef b_is_tuple_of
  cases d with
  | tuple ds =>
    simp [isTup]
    by_cases h1 : lo ≤ ds.length <;> simp [h1]
  | dict es => cases h
  | _ => simp [dIsi, isiD, isTup]
def rise (ns : List Int) : Bool := (ns.zip ns.tail).all fun p => decide (p.1 < p.2)
theorem cut_tail {α : Type} (xs : List α) : cutD xs (some 1) none = xs.tail := by
  unfold cutD
  rw [show HT.sIx xs.length 0 (some 1) = min 1 xs.length from HT.sIx_nat xs.length 0 1, HT.sIx_none]
  cases xs with
  | nil => rfl
  | cons x r => simp
theorem zip_map_int (a b : List Int) : zipD (a.map .int) (b.map .int) = (a.zip b).map fun p => .tuple [.int p.1, .int p.2] := by
  unfold zipD
  rw [List.zip_map, List.map_map]
  rfl
@[simp] theorem p_is_rising (ns : List Int) (h : ns.length ≤ 1000000) : m_is_rising [some (.val (T ns))] = .ok (.val (.bool (rise ns)), [some (.val (T ns))]) := by
  unfold m_is_rising mDef b_is_rising
  simp [dCut, cut_tail]
  rw [← List.map_tail, zip_map_int, lcL_of (f := fun p => .bool (decide (p.1 < p.2)))]
  · simp
    rw [if_pos (sz_of (by omega))]
    simp [p_all, rise]
  · intro p hp
    exact ⟨[some (.val (T ns)), some (.val (.int p.1)), some (.val (.int p.2))], by simp, by simp, by simp⟩
def fitsC : D → Bool
  | .tuple ds => isTup 1 12 (.tuple ds) && ds.all (fitsW 1 5000) && (match intsOf ds with
    | some ns => rise ns
    | none => false)
  | _ => false
theorem ints_of_fits {lo hi : Int} : ∀ {ds : List D}, ds.all (fitsW lo hi) = true → ∃ ns : List Int, ds = ns.map .int ∧ ∀ n ∈ ns, lo ≤ n ∧ n ≤ hi
  | [], _ => ⟨[], rfl, fun _ h => nomatch h⟩
  | d :: ds, h => by
    rw [List.all_cons, Bool.and_eq_true] at h
    obtain ⟨ns, rfl, hn⟩ := ints_of_fits h.2
    cases d with
    | int i =>
      refine ⟨i :: ns, rfl, fun n hn' => ?_⟩
      rcases List.mem_cons.mp hn' with rfl | hn'
      · simpa [fitsW] using h.1
      · exact hn n hn'
    | _ => simp [fitsW] at h
theorem p_fits_coins (d : D) (h : noD d = true) (hd : ∀ ds, d = .tuple ds → ∀ e ∈ ds, noD e = true) : m_fits_coins [some (.val d)] = .ok (.val (.bool (fitsC d)), [some (.val d)]) := by
  unfold m_fits_coins mDef b_fits_coins
  cases d with
  | tuple ds =>
    have hd := hd ds rfl
    simp
    by_cases h1 : isTup 1 12 (.tuple ds) = true
    · have hl : ds.length ≤ 12 := by simp [isTup] at h1; omega
      have hz : sz ds.length := sz_of (by omega)
      simp [h1, seqD]
      have e : lcL (mgName 1) mYes (mD (mCall m_fits_whole (mCons (mVar 1) (mCons (mC (.int 1)) (mCons (mC (.int 5000)) mNil))))) [1] ds [some (.val (.tuple ds)), none] = .ok (ds.map fun d => .bool (fitsW 1 5000 d), [some (.val (.tuple ds)), none]) := by
        refine lcL_map fun e he => ⟨[some (.val (.tuple ds)), some (.val e)], by simp, ?_, by simp⟩
        simp [hd e he]
      rw [e]
      simp [-List.all_eq_true, hz, p_all]
      cases h2 : ds.all (fitsW 1 5000) with
      | true =>
        obtain ⟨ns, rfl, hn⟩ := ints_of_fits h2
        have hl2 : ns.length ≤ 1000000 := by rw [List.length_map] at hl; omega
        simp [-List.all_eq_true, hl2, fitsC, h2, h1, intsOf_map]
      | false =>
        simp [-List.all_eq_true, h2, fitsC]
    · simp [h1, fitsC]
  | dict es => cases h
  | _ => simp [isTup, fitsC]
/-! ### coins and heaps -/
structure IsC (cs : List Int) : Prop where
  len : 1 ≤ cs.length ∧ cs.length ≤ 12
  rng : ∀ c ∈ cs, 1 ≤ c ∧ c ≤ 5000
  asc : cs.Pairwise (· < ·)
structure IsH (cs hs : List Int) : Prop where
  len : hs.length = cs.length
  rng : ∀ c ∈ hs, 0 ≤ c ∧ c ≤ 1000000
theorem rise_of {cs : List Int} (h : cs.Pairwise (· < ·)) : rise cs = true := by
  unfold rise
  induction cs with
  | nil => rfl
  | cons a cs ih =>
    cases cs with
    | nil => rfl
    | cons b cs =>
      have h2 := List.pairwise_cons.mp h
      have := ih h2.2
      simp only [List.tail_cons, List.zip_cons_cons, List.all_cons, Bool.and_eq_true, decide_eq_true_eq] at this ⊢
      exact ⟨h2.1 b (List.mem_cons_self ..), this⟩
theorem all_fits {lo hi : Int} {ns : List Int} (h : ∀ n ∈ ns, lo ≤ n ∧ n ≤ hi) : (ns.map PyData.int).all (fitsW lo hi) = true := by
  rw [List.all_map]
  exact List.all_eq_true.mpr fun n hn => by simpa [fitsW] using h n hn
theorem noD_ints (ns : List Int) : ∀ e ∈ ns.map PyData.int, noD e = true := fun e he => by
  obtain ⟨i, _, rfl⟩ := List.mem_map.mp he
  simp
theorem IsC.fits {cs : List Int} (h : IsC cs) : fitsC (T cs) = true := by
  have h1 := h.len
  unfold fitsC
  simp only [all_fits h.rng, intsOf_map, rise_of h.asc, isTup, List.length_map, Bool.and_true, decide_eq_true_eq]
  omega
@[simp] theorem p_coins {cs : List Int} (h : IsC cs) : m_fits_coins [some (.val (T cs))] = .ok (.val (.bool true), [some (.val (T cs))]) := by
  rw [p_fits_coins (T cs) (by simp) (fun ds e => by cases e; exact noD_ints cs), h.fits]
@[simp] theorem p_need_coins {cs : List Int} (h : IsC cs) : m_need_coins [some (.val (T cs))] = .ok (.val .none, [some (.val (T cs))]) := by
  unfold m_need_coins mDef b_need_coins
  simp [h]
theorem p_fits_heap (cs : List D) (d : D) (h : noD d = true) (hd : ∀ ds, d = .tuple ds → ∀ e ∈ ds, noD e = true) (hl : cs.length ≤ 1000000) : m_fits_heap [some (.val (.tuple cs)), some (.val d)] =
    .ok (.val (.bool (match d with | .tuple ds => decide (ds.length = cs.length) && ds.all (fitsW 0 1000000) | _ => false)), [some (.val (.tuple cs)), some (.val d)]) := by
  unfold m_fits_heap mDef b_fits_heap
  cases d with
  | tuple ds =>
    have hd := hd ds rfl
    simp
    by_cases h1 : ds.length = cs.length
    · have ht : isTup cs.length cs.length (.tuple ds) = true := by simp [isTup, h1]
      simp [h1, ht, seqD]
      have e : lcL (mgName 2) mYes (mD (mCall m_fits_whole (mCons (mVar 2) (mCons (mC (.int 0)) (mCons (mC (.int 1000000)) mNil))))) [2] ds [some (.val (.tuple cs)), some (.val (.tuple ds)), none] = .ok (ds.map fun d => .bool (fitsW 0 1000000 d), [some (.val (.tuple cs)), some (.val (.tuple ds)), none]) := by
        refine lcL_map fun e he => ⟨[some (.val (.tuple cs)), some (.val (.tuple ds)), some (.val e)], by simp, ?_, by simp⟩
        simp [hd e he]
      rw [e]
      have hz : sz cs.length := sz_of hl
      simp [-List.all_eq_true, hz, h1, p_all]
    · have ht : isTup cs.length cs.length (.tuple ds) = false := by simp [isTup]; omega
      simp [h1, ht]
  | dict es => cases h
  | _ => simp [isTup]
@[simp] theorem p_heap {cs hs : List Int} (hc : IsC cs) (h : IsH cs hs) : m_fits_heap [some (.val (T cs)), some (.val (T hs))] = .ok (.val (.bool true), [some (.val (T cs)), some (.val (T hs))]) := by
  have h1 := hc.len
  rw [p_fits_heap (cs.map .int) (T hs) (by simp) (fun ds e => by cases e; exact noD_ints hs) (by rw [List.length_map]; omega)]
  simp only [all_fits h.rng, List.length_map, h.len, decide_true, Bool.and_true]
@[simp] theorem p_need_heap {cs hs : List Int} (hc : IsC cs) (h : IsH cs hs) : m_need_heap [some (.val (T cs)), some (.val (T hs))] = .ok (.val .none, [some (.val (T cs)), some (.val (T hs))]) := by
  unfold m_need_heap mDef b_need_heap
  simp [hc, h]
def dot (cs hs : List Int) : Int := ((cs.zip hs).map fun p => p.1 * p.2).sum
theorem mul_ok {a b : Int} (h : (-(2 ^ 64) < a ∧ a < 2 ^ 64) ∨ (-(2 ^ 64) < b ∧ b < 2 ^ 64)) : dMul (.int a) (.int b) = .ok (.int (a * b)) := by
  unfold dMul
  simp only []
  rw [Rs.grd_pos (.inl h)]
@[simp] theorem p_sum_in {cs hs : List Int} (hc : IsC cs) (h : IsH cs hs) : m_sum_in [some (.val (T cs)), some (.val (T hs))] = .ok (.val (.int (dot cs hs)), [some (.val (T cs)), some (.val (T hs))]) := by
  unfold m_sum_in mDef b_sum_in
  simp
  rw [zip_map_int, lcL_of (f := fun p => .int (p.1 * p.2))]
  · have h1 := hc.len
    simp
    rw [if_pos (sz_of (by omega))]
    have : (cs.zip hs).map (fun p => PyData.int (p.1 * p.2)) = ((cs.zip hs).map fun p => p.1 * p.2).map .int := by rw [List.map_map]; rfl
    rw [this, Rs.bind_ok, p_sumL]
    simp [dot]
  · intro p hp
    have hr := hc.rng p.1 (List.of_mem_zip hp).1
    exact ⟨[some (.val (T cs)), some (.val (T hs)), some (.val (.int p.1)), some (.val (.int p.2))], by simp, by simp; rw [mul_ok (.inl (by omega))]; rfl, by simp⟩
@[simp] theorem p_heap_sum {cs hs : List Int} (hc : IsC cs) (h : IsH cs hs) : m_heap_sum [some (.val (T cs)), some (.val (T hs))] = .ok (.val (.int (dot cs hs)), [some (.val (T cs)), some (.val (T hs))]) := by
  unfold m_heap_sum mDef b_heap_sum
  simp [hc, h]
@[simp] theorem p_heap_size {cs hs : List Int} (hc : IsC cs) (h : IsH cs hs) : m_heap_size [some (.val (T cs)), some (.val (T hs))] = .ok (.val (.int hs.sum), [some (.val (T cs)), some (.val (T hs))]) := by
  unfold m_heap_size mDef b_heap_size
  simp [hc, h, p_sumT]
@[simp] theorem p_is_heap {cs hs : List Int} (hc : IsC cs) (h : IsH cs hs) : m_is_heap [some (.val (T cs)), some (.val (T hs))] = .ok (.val (.bool true), [some (.val (T cs)), some (.val (T hs))]) := by
  unfold m_is_heap mDef b_is_heap
  simp [hc, h]
end DL
namespace DL
open PySem PySem.Spec PyProof.Rows L2 DL.Lib
/-! ### the cup and its draws -/
def IsCup (c : D) : Prop := ∃ a b : Int, c = .list [.int a, .int b]
def Roller (f : SM Slot) : Prop := ∀ (c : D) (many : Int), IsCup c → 0 < many → many < 2 ^ 200 → ∃ (r : Int) (c' : D), IsCup c' ∧ 0 ≤ r ∧ r < many ∧
  f [some (.own c), some (.val (.int many))] = .ok (.val (.int r), [some (.own c'), some (.val (.int many))])
@[simp] theorem ix_0 (x y : D) : dIx (.list [x, y]) (.int 0) = .ok x := rfl
@[simp] theorem ix_1 (x y : D) : dIx (.list [x, y]) (.int 1) = .ok y := rfl
@[simp] theorem st_0 (x y v : D) : dSetK (.list [x, y]) (.int 0) v = .ok (.list [v, y]) := rfl
@[simp] theorem st_1 (x y v : D) : dSetK (.list [x, y]) (.int 1) v = .ok (.list [x, v]) := rfl
theorem o_mod {a b : Int} (h : 0 < b) : dMod (.int a) (.int b) = .ok (.int (a % b)) := by
  unfold dMod
  simp only []
  rw [Rs.grd_pos h]
theorem log_lt {b : Int} (h0 : 0 < b) (h : b < 2 ^ 200) : b.natAbs.log2 < 9000 := by
  have h1 : b.natAbs < 2 ^ 200 := by
    have : (b.natAbs : Int) < ((2 ^ 200 : Nat) : Int) := by
      rw [Int.natAbs_of_nonneg (Int.le_of_lt h0)]
      exact_mod_cast h
    exact_mod_cast this
  have h2 : b.natAbs.log2 < 200 := (Nat.log2_lt (by omega)).mpr h1
  omega
theorem o_fdiv {a b : Int} (h0 : 0 < b) (h : b < 2 ^ 200) : dFdiv (.int a) (.int b) = .ok (.int (a / b)) := by
  unfold dFdiv
  simp only []
  rw [Rs.grd_pos (show CDivW a b from ⟨h0, log_lt h0 h⟩)]
theorem p_roll {c0 c1 c2 c3 c4 c5 : Int} (h0 : -(2 ^ 64) < c0 ∧ c0 < 2 ^ 64) (h2 : 0 < c2 ∧ c2 < 2 ^ 64) (h4 : 0 < c4) (h5 : 0 < c5 ∧ c5 < 2 ^ 200) : Roller (m__law_roll c0 c1 c2 c3 c4 c5) := by
  rintro _ many ⟨a, b, rfl⟩ hm hm2
  unfold m__law_roll mDef b__law_roll
  by_cases ha : 0 < a
  · refine ⟨a % many, .list [.int (a / many), .int b], ⟨_, _, rfl⟩, Int.emod_nonneg _ (by omega), Int.emod_lt_of_pos _ hm, ?_⟩
    simp [ha, o_mod hm, o_fdiv hm hm2]
  · have hb : 0 ≤ (b * c0 + c1) % c2 ∧ (b * c0 + c1) % c2 < c2 := ⟨Int.emod_nonneg _ (by omega), Int.emod_lt_of_pos _ h2.1⟩
    refine ⟨((b * c0 + c1) % c2 * ((b * c0 + c1) % c2 + c3)) % c4 / c5 % many, .list [.int a, .int ((b * c0 + c1) % c2)], ⟨_, _, rfl⟩, Int.emod_nonneg _ (by omega), Int.emod_lt_of_pos _ hm, ?_⟩
    simp [ha, mul_ok (.inr h0), o_mod h2.1]
    rw [mul_ok (.inl (by omega))]
    simp [o_mod h4, o_fdiv h5.1 h5.2, o_mod hm]
def Somer (f : SM Slot) : Prop := ∀ (c things : D) (ds : List D), IsCup c → itemsD things = some ds → ds ≠ [] → ds.length ≤ 1000000 → ∃ d ∈ ds, ∃ c', IsCup c' ∧ f [some (.own c), some (.val things)] = .ok (.val d, [some (.own c'), some (.val things)])
theorem ix_at {ds : List D} {i : Nat} {d : D} (h : ds[i]? = some d) : dIx (.list ds) (.int i) = .ok d ∧ dIx (.tuple ds) (.int i) = .ok d := by
  have e : atI ds (i : Int) = some d := atI_nat h
  unfold dIx
  simp only []
  rw [e]
  exact ⟨rfl, rfl⟩
theorem p_some {roll : SM Slot} (hr : Roller roll) : Somer (m__law_some roll) := by
  intro c things ds hc hi hne hl
  obtain ⟨r, c', hc', h1, h2, e⟩ := hr c ds.length hc (by have := List.length_pos_iff.mpr hne; omega) (by omega)
  obtain ⟨i, rfl⟩ := Int.eq_ofNat_of_zero_le h1
  have hi2 : i < ds.length := by omega
  have ed : ds[i]? = some ds[i] := List.getElem?_eq_getElem hi2
  refine ⟨ds[i], List.getElem_mem hi2, c', hc', ?_⟩
  unfold m__law_some mDef b__law_some
  cases things with
  | list xs =>
    cases hi
    simp [e, (ix_at ed).1]
  | tuple xs =>
    cases hi
    simp [e, (ix_at ed).2]
  | _ => cases hi
theorem p_cup {c0 c1 c2 c3 c4 : Int} (h0 : 0 < c0 ∧ c0 < 2 ^ 200) (h1 : -(2 ^ 64) < c1 ∧ c1 < 2 ^ 64) (h3 : 0 < c3) (ns : List Int) (hl : ns.length ≤ 63) : ∃ c, IsCup c ∧ m__law_cup c0 c1 c2 c3 c4 [some (.val (LI ns))] = .ok (.own c, [some (.val (LI ns))]) := by
  have hz : sz (ns.length + 1) := sz_of (by omega)
  have go : ∀ z rest, ns ++ [0] = z :: rest → ∃ c, IsCup c ∧ m__law_cup c0 c1 c2 c3 c4 [some (.val (LI ns))] = .ok (.own c, [some (.val (LI ns))]) := fun z rest e => by
    have e1 : dIx (.list (ns.map PyData.int ++ [.int 0])) (.int 0) = .ok (.int z) := by
      have : ns.map PyData.int ++ [.int 0] = (ns ++ [0]).map .int := by simp
      rw [this, e]
      exact (ix_at (i := 0) rfl).1
    have hp : dPow (.int 10) (.int 18) = .ok (.int (10 ^ 18)) := by
      unfold dPow
      simp only []
      rw [Rs.grd_pos (by decide)]
      rfl
    unfold m__law_cup mDef b__law_cup
    simp [dList, dCatL, hz, e1, hp, mul_ok (.inr h1), o_mod h3, o_fdiv h0.1 h0.2]
    generalize (if z < 0 then -z else z) = y
    by_cases h18 : 1000000000000000000 ≤ y
    · simp [h18, mul_ok (.inr h1), o_mod h3, o_fdiv h0.1 h0.2]
      exact ⟨_, _, rfl⟩
    · simp [h18, mul_ok (.inr h1), o_mod h3, o_fdiv h0.1 h0.2]
      exact ⟨_, _, rfl⟩
  cases ns with
  | nil => exact go 0 [] rfl
  | cons z r => exact go z (r ++ [0]) rfl
end DL
namespace DL
open PySem PySem.Spec PyProof.Rows L2 DL.Lib
/-! ### drawn coins -/
def keysI (es : List (D × D)) (ks : List Int) : Prop := es.map (·.1) = ks.map PyData.int
theorem keysI_put {es : List (D × D)} {ks : List Int} (h : keysI es ks) (k : Int) (v : D) : keysI (putE es (.inl k) v) (if k ∈ ks then ks else ks ++ [k]) := by
  have ha : es.any (fun p => decide (keyA p.1 = some (.k (.inl k)))) = decide (k ∈ ks) := by
    unfold keysI at h
    induction ks generalizing es with
    | nil =>
      cases es with
      | nil => simp
      | cons e es => cases h
    | cons j ks ih =>
      cases es with
      | nil => cases h
      | cons e es =>
        rw [List.map_cons, List.map_cons] at h
        injection h with h1 h2
        rw [List.any_cons, ih h2, h1]
        by_cases hk : k = j
        · subst hk; simp [keyA]
        · have hk' : ¬ j = k := fun z => hk z.symm
          simp [keyA, hk, hk']
  unfold putE
  rw [ha]
  by_cases hk : k ∈ ks
  · simp only [hk, decide_true, if_true]
    unfold keysI
    rw [List.map_map, ← h]
    refine List.map_congr_left fun p _ => ?_
    simp only [Function.comp]
    split <;> rfl
  · simp only [hk, decide_false, Bool.false_eq_true, if_false]
    unfold keysI at h ⊢
    rw [List.map_append, List.map_append, h]
    rfl
theorem keysI_len {es : List (D × D)} {ks : List Int} (h : keysI es ks) : es.length = ks.length := by
  have := congrArg List.length h
  simpa using this
theorem put_int {es : List (D × D)} {ks : List Int} (h : keysI es ks) (hl : ks.length < 1000000) (k : Int) (v : D) : dSetK (.dict es) (.int k) v = .ok (.dict (putE es (.inl k) v)) := by
  have hl' : es.length < sizeLine := by rw [keysI_len h]; exact Nat.lt_of_lt_of_le hl (by decide)
  unfold dSetK
  simp only [keyOf]
  split
  · rename_i e
    cases ks with
    | nil => cases h
    | cons j ks =>
      have h' := h
      unfold keysI at h'
      rw [List.map_cons, List.map_cons] at h'
      injection h' with h1 _
      cases h1
  · rename_i e1 _
    cases e1
    rw [Rs.grd_pos hl']
  · rename_i h1 h2
    exact (h2 _ rfl).elim
structure Drawn (top : Int) (cs : List Int) : Prop where
  len : 1 ≤ cs.length ∧ cs.length ≤ 12
  rng : ∀ c ∈ cs, 1 ≤ c ∧ c ≤ top
  asc : cs.Pairwise (· < ·)
theorem isort_asc {ks : List Int} (h : ks.Nodup) : (isort ks).Pairwise (· < ·) := by
  have h1 := isort_le ks
  have h2 : (isort ks).Nodup := (isort_perm ks).nodup_iff.mpr h
  exact (h1.and h2).imp fun ⟨a, b⟩ => by
    have : _ ≠ _ := b
    omega
theorem cut_take {α : Type} (xs : List α) (n : Nat) : cutD xs none (some (n : Int)) = xs.take n := by
  unfold cutD
  rw [show HT.sIx xs.length xs.length (some (n : Int)) = min n xs.length from HT.sIx_nat xs.length xs.length n, HT.sIx_none]
  rw [List.drop_zero, Nat.sub_zero, ← List.take_take, List.take_length]
theorem upD_cons {lo : Int} {n : Nat} : upD lo (n + 1) = .int lo :: upD (lo + 1) n := by
  unfold upD
  rw [List.range_succ_eq_map, List.map_cons, List.map_map]
  congr 1
  · simp
  · refine List.map_congr_left fun k _ => ?_
    simp only [Function.comp]
    congr 1
    omega
theorem p_coins_drawn {roll some' : SM Slot} (hr : Roller roll) (hs : Somer some') (c : D) (many most : Int) (hc : IsCup c) (h1 : 0 < many ∧ many ≤ 50) (h2 : 0 < most ∧ most < 2 ^ 200) :
    ∃ cs c', IsCup c' ∧ Drawn (max 12 most) cs ∧ m__law_coins roll some' [some (.own c), some (.val (.int many)), some (.val (.int most))] = .ok (.val (T cs), [some (.own c'), some (.val (.int many)), some (.val (.int most))]) := by
  obtain ⟨r, c1, hc1, r1, r2, e1⟩ := hr c many hc h1.1 (by omega)
  -- the loop
  have loop : ∃ ρ', forL (mgName 4) (mPut 3 dSetK (mBin dAdd (mC (.int 1)) (mD (mCallO some' 0 (mCons (mLst (mCons (mD (mCallO roll 0 (mCons (mC (.int 12)) mNil))) (mCons (mD (mCallO roll 0 (mCons (mVar 2) mNil))) (mCons (mD (mCallO roll 0 (mCons (mVar 2) mNil))) mNil)))) mNil)))) (mC (.bool true))) (upD 0 (1 + r).toNat)
      [some (.own c1), some (.val (.int many)), some (.val (.int most)), some (.own (.dict [])), none] = .ok (.nx, ρ') ∧ ∃ c2 es ks x, IsCup c2 ∧ ρ' = [some (.own c2), some (.val (.int many)), some (.val (.int most)), some (.own (.dict es)), x] ∧
        keysI es ks ∧ ks.Nodup ∧ 1 ≤ ks.length ∧ ks.length ≤ 51 ∧ ∀ k ∈ ks, 1 ≤ k ∧ k ≤ max 12 most := by
    refine (forL_inv (fun rest ρ' => ∃ c2 es ks x, IsCup c2 ∧ ρ' = [some (.own c2), some (.val (.int many)), some (.val (.int most)), some (.own (.dict es)), x] ∧
        keysI es ks ∧ ks.Nodup ∧ (rest.length ≤ r.toNat → 1 ≤ ks.length) ∧ ks.length + rest.length ≤ 51 ∧ ∀ k ∈ ks, 1 ≤ k ∧ k ≤ max 12 most) ?_ ?_).imp fun ρ' ⟨a, c2, es, ks, x, q1, q2, q3, q4, q5, q6, q7⟩ => ⟨a, c2, es, ks, x, q1, q2, q3, q4, q5 (Nat.zero_le _), q6, q7⟩
    · refine ⟨c1, [], [], none, hc1, rfl, rfl, List.nodup_nil, fun h => ?_, ?_, fun k hk => nomatch hk⟩
      · unfold upD at h
        simp at h
        omega
      · unfold upD
        simp
        omega
    · rintro d ds ρ ⟨c2, es, ks, x, q1, rfl, q3, q4, q5, q6, q7⟩
      obtain ⟨a1, d1, hd1, a2, a3, f1⟩ := hr c2 12 q1 (by omega) (by omega)
      obtain ⟨b1, d2, hd2, b2, b3, f2⟩ := hr d1 most hd1 h2.1 h2.2
      obtain ⟨g1, d3, hd3, g2, g3, f3⟩ := hr d2 most hd2 h2.1 h2.2
      obtain ⟨z, hz, d4, hd4, f4⟩ := hs d3 (.list [.int a1, .int b1, .int g1]) [.int a1, .int b1, .int g1] hd3 rfl (by simp) (by simp)
      obtain ⟨k, rfl, hk⟩ : ∃ k, z = .int k ∧ 0 ≤ k ∧ k < max 12 most := by
        simp only [List.mem_cons, List.not_mem_nil, or_false] at hz
        rcases hz with rfl | rfl | rfl
        · exact ⟨_, rfl, a2, by omega⟩
        · exact ⟨_, rfl, b2, by omega⟩
        · exact ⟨_, rfl, g2, by omega⟩
      have hl : ks.length < 1000000 := by omega
      refine ⟨[some (.own c2), some (.val (.int many)), some (.val (.int most)), some (.own (.dict es)), some (.val d)], [some (.own d4), some (.val (.int many)), some (.val (.int most)), some (.own (.dict (putE es (.inl (1 + k)) (.bool true)))), some (.val d)], by simp, .inl ?_, d4, _, _, _, hd4, rfl, keysI_put q3 (1 + k) _, ?_, ?_, ?_, ?_⟩
      · simp [f1, f2, f3, f4, put_int q3 hl]
      · split
        · exact q4
        · rename_i hk'
          exact List.nodup_append.mpr ⟨q4, by simp, fun a ha b hb => by
            simp at hb
            subst hb
            exact fun z => hk' (z ▸ ha)⟩
      · intro h
        split
        · rename_i hk'
          exact List.length_pos_of_mem hk'
        · simp
      · simp only [List.length_cons] at q6
        split
        · omega
        · simp; omega
      · intro j hj
        split at hj
        · exact q7 j hj
        · rcases List.mem_append.mp hj with hj | hj
          · exact q7 j hj
          · simp at hj
            omega
  obtain ⟨ρ', e2, c2, es, ks, x, hc2, rfl, hk, hnd, hl1, hl2, hrng⟩ := loop
  obtain ⟨t, c3, hc3, t1, t2, e3⟩ := hr c2 3 hc2 (by omega) (by omega)
  have i62r : i62 (1 + r) := ⟨by omega, by omega⟩
  -- the end
  have fin : ∀ (es : List (D × D)) (ks : List Int), keysI es ks → ks.Nodup → 1 ≤ ks.length → ks.length < 64 → (∀ k ∈ ks, 1 ≤ k ∧ k ≤ max 12 most) → ∃ cs, Drawn (max 12 most) cs ∧ (dSortA (.dict es)).bind (fun z => (dTup z).bind fun z => dCut none (some 12) z) = .ok (T cs) := by
    intro es ks hk hnd hl1 hl2 hrng
    refine ⟨(isort ks).take 12, ⟨?_, fun c hc => hrng c ((isort_perm ks).mem_iff.mp (List.mem_of_mem_take hc)), (isort_asc hnd).sublist (List.take_sublist _ _)⟩, ?_⟩
    · have := (isort_perm ks).length_eq
      rw [List.length_take]
      omega
    · unfold dSortA
      unfold keysI at hk
      simp only [hk, intsOf_map, x_ofO, Rs.bind_ok, Rs.grd_pos hl2, dTup, dCut]
      rw [show (12 : Int) = ((12 : Nat) : Int) from rfl, cut_take, ← List.map_take]
  have fin2 : ∀ (es : List (D × D)) (ks : List Int), keysI es ks → ks.Nodup → 1 ≤ ks.length → ks.length < 64 → (∀ k ∈ ks, 1 ≤ k ∧ k ≤ max 12 most) → ∃ cs l, Drawn (max 12 most) cs ∧ dSortA (.dict es) = .ok (.list l) ∧ dTup (.list l) = .ok (.tuple l) ∧ dCut none (some 12) (.tuple l) = .ok (T cs) := by
    intro es ks hk hnd hl1 hl2 hrng
    obtain ⟨cs, hcs, e⟩ := fin es ks hk hnd hl1 hl2 hrng
    refine ⟨cs, (isort ks).map .int, hcs, ?_, rfl, ?_⟩
    · unfold dSortA
      unfold keysI at hk
      simp only [hk, intsOf_map, x_ofO, Rs.bind_ok, Rs.grd_pos hl2]
    · unfold dSortA at e
      unfold keysI at hk
      simpa only [hk, intsOf_map, x_ofO, Rs.bind_ok, Rs.grd_pos hl2, dTup] using e
  by_cases ht : 0 < t
  · obtain ⟨cs, l, hcs, g1, g2, g3⟩ := fin2 (putE es (.inl 1) (.bool true)) _ (keysI_put hk 1 _) (by
      split
      · exact hnd
      · rename_i hk'
        exact List.nodup_append.mpr ⟨hnd, by simp, fun a ha b hb => by
          simp at hb
          subst hb
          exact fun z => hk' (z ▸ ha)⟩) (by split <;> first | omega | (rw [List.length_append]; simp)) (by split <;> first | omega | (rw [List.length_append]; simp; omega)) (by
      intro j hj
      split at hj
      · exact hrng j hj
      · rcases List.mem_append.mp hj with hj | hj
        · exact hrng j hj
        · simp at hj
          omega)
    refine ⟨cs, c3, hc3, hcs, ?_⟩
    unfold m__law_coins mDef b__law_coins
    simp [e1, i62r, e2, e3, ht, put_int hk (by omega : ks.length < 1000000), g1, g2, g3]
  · obtain ⟨cs, l, hcs, g1, g2, g3⟩ := fin2 es ks hk hnd hl1 (by omega) hrng
    refine ⟨cs, c3, hc3, hcs, ?_⟩
    unfold m__law_coins mDef b__law_coins
    simp [e1, i62r, e2, e3, ht, g1, g2, g3]
/-! ### drawn heaps -/
theorem p_heap_drawn {roll some' : SM Slot} (hr : Roller roll) (hs : Somer some') (cs : List D) (c : D) (most : Int) (hc : IsCup c) (hl : cs.length ≤ 1000000) (h2 : 0 ≤ most ∧ most < 2 ^ 199) :
    ∃ (zs : List Int) (c' : D), IsCup c' ∧ zs.length = cs.length ∧ (∀ h ∈ zs, 0 ≤ h ∧ h ≤ max 1 most) ∧ m__law_heap some' roll [some (.own c), some (.val (.tuple cs)), some (.val (.int most))] = .ok (.val (T zs), [some (.own c'), some (.val (.tuple cs)), some (.val (.int most))]) := by
  have loop : ∀ (ds : List D) (c : D), IsCup c → ∃ (zs : List Int) (c' : D), IsCup c' ∧ zs.length = ds.length ∧ (∀ h ∈ zs, 0 ≤ h ∧ h ≤ max 1 most) ∧ lcL (mgName 3) mYes (mD (mCallO some' 0 (mCons (mLst (mCons (mC (.int 0)) (mCons (mC (.int 1)) (mCons (mD (mCallO roll 0 (mCons (mBinP dAdd 2 (mC (.int 1))) mNil))) mNil)))) mNil))) [3] ds [some (.own c), some (.val (.tuple cs)), some (.val (.int most)), none] =
      .ok (zs.map .int, [some (.own c'), some (.val (.tuple cs)), some (.val (.int most)), none]) := by
    intro ds
    induction ds with
    | nil => exact fun c hc => ⟨[], c, hc, rfl, (fun h hh => nomatch hh), rfl⟩
    | cons d ds ih =>
      intro c hc
      obtain ⟨a1, d1, hd1, a2, a3, f1⟩ := hr c (most + 1) hc (by omega) (by omega)
      obtain ⟨z, hz, d4, hd4, f4⟩ := hs d1 (.list [.int 0, .int 1, .int a1]) [.int 0, .int 1, .int a1] hd1 rfl (by simp) (by simp)
      obtain ⟨k, rfl, hk⟩ : ∃ k, z = .int k ∧ 0 ≤ k ∧ k ≤ max 1 most := by
        simp only [List.mem_cons, List.not_mem_nil, or_false] at hz
        rcases hz with rfl | rfl | rfl
        · exact ⟨_, rfl, by omega, by omega⟩
        · exact ⟨_, rfl, by omega, by omega⟩
        · exact ⟨_, rfl, a2, by omega⟩
      obtain ⟨hs', c', hc', l', r', e'⟩ := ih d4 hd4
      refine ⟨k :: hs', c', hc', by simp [l'], fun h hh => ?_, ?_⟩
      · rcases List.mem_cons.mp hh with rfl | hh
        · exact hk
        · exact r' h hh
      · unfold lcL
        simp [f1, f4, e']
  obtain ⟨hs', c', hc', l', r', e'⟩ := loop cs c hc
  refine ⟨hs', c', hc', l', r', ?_⟩
  unfold m__law_heap mDef b__law_heap
  simp [seqD, e', l', hl, dTup]
end DL
namespace DL
open PySem PySem.Spec PyProof.Rows L2 DL.Lib
/-! ### the same -/
def okS : Nat → D → Bool
  | _, .none => true
  | _, .bool _ => true
  | _, .int _ => true
  | _, .str _ => true
  | n + 1, .tuple ds => decide (ds.length ≤ 1000000) && ds.all (okS n)
  | _, _ => false
theorem eq_str (x : Str) : dEq false (.str x) (.str x) = .ok (.bool true) := by
  unfold dEq
  rw [Rs.grd_pos ⟨⟨rfl, Nat.zero_le _⟩, ⟨rfl, Nat.zero_le _⟩⟩]
  congr 2
  simp [PyData.eqv]
theorem p_same0 (mf : SM Slot) (d : D) (h : okS 0 d = true) : mDef 2 1 [] (b__law_same mf) [some (.val d), some (.val d)] = .ok (.val (.bool true), [some (.val d), some (.val d)]) := by
  unfold mDef b__law_same
  cases d with
  | none => simp [dIsi, isiD, dIs, isD]
  | bool b => cases b <;> simp [dIsi, isiD, dIs, isD]
  | int i => simp [dIsi, isiD, dIs, isD]
  | str x => simp [dIsi, isiD, dIs, isD, dStr, eq_str]
  | _ => simp [okS] at h
theorem p_sameT (mf : SM Slot) (ds : List D) (hl : ds.length ≤ 1000000) (ih : ∀ d ∈ ds, mf [some (.val d), some (.val d)] = .ok (.val (.bool true), [some (.val d), some (.val d)])) :
    mDef 2 1 [] (b__law_same mf) [some (.val (.tuple ds)), some (.val (.tuple ds))] = .ok (.val (.bool true), [some (.val (.tuple ds)), some (.val (.tuple ds))]) := by
  have h62 : i62 (ds.length : Int) := ⟨by omega, by omega⟩
  have e : lcL (mgName 2) mYes (mD (mCall mf (mCons (mBinP dIx 0 (mPeek 2)) (mCons (mBinP dIx 1 (mPeek 2)) mNil)))) [2] (upD 0 ds.length) [some (.val (.tuple ds)), some (.val (.tuple ds)), none] = .ok ((List.range ds.length).map fun _ => .bool true, [some (.val (.tuple ds)), some (.val (.tuple ds)), none]) := by
    unfold upD
    refine lcL_of _ _ fun k hk => ?_
    have hk' : k < ds.length := List.mem_range.mp hk
    have e1 := (ix_at (List.getElem?_eq_getElem hk')).2
    exact ⟨[some (.val (.tuple ds)), some (.val (.tuple ds)), some (.val (.int k))], by simp, by simp [e1, ih _ (List.getElem_mem hk')], by simp⟩
  have e2 : dAll (.list ((List.range ds.length).map fun _ => .bool true)) = .ok (.bool true) := by
    rw [p_all]
    simp
  unfold mDef b__law_same
  simp [h62, e, hl, e2]
theorem okS_0 : ∀ (n : Nat) (d : D), okS n d = true → (∀ ds, d ≠ .tuple ds) → okS 0 d = true := fun n d h hn => by
  cases d with
  | tuple ds => exact (hn ds rfl).elim
  | list ds => cases n <;> simp [okS] at h
  | dict ds => cases n <;> simp [okS] at h
  | _ => simp [okS]
theorem p_same (n : Nat) : ∀ (d : D), okS n d = true → r__law_same (n + 1) [some (.val d), some (.val d)] = .ok (.val (.bool true), [some (.val d), some (.val d)]) := by
  induction n with
  | zero => exact fun d h => p_same0 _ d h
  | succ n ih =>
    intro d h
    by_cases ht : ∃ ds, d = .tuple ds
    · obtain ⟨ds, rfl⟩ := ht
      simp only [okS, Bool.and_eq_true, decide_eq_true_eq] at h
      exact p_sameT _ ds h.1 fun d hm => ih d (List.all_eq_true.mp h.2 d hm)
    · exact p_same0 _ d (okS_0 _ d h fun ds z => ht ⟨ds, z⟩)
/-! ### turned -/
theorem p_turned {roll : SM Slot} (hr : Roller roll) (c : D) (ds : List D) (hc : IsCup c) (hl : ds.length ≤ 1000000) :
    ∃ (zs : List D) (c' : D), IsCup c' ∧ zs.Perm ds ∧ m__law_turned roll [some (.own c), some (.val (.list ds))] = .ok (.own (.list zs), [some (.own c'), some (.val (.list ds))]) := by
  have loop := forL_inv (g := mgName 3) (b := mSq (mSetR 4 (mCallO roll 0 (mCons (mBin dAdd (mUn dLen (mPeek 2)) (mC (.int 1))) mNil))) (mSetF 2 (mBin dCatL (mBin dCatL (mCutP 2 none (some (mVar 4))) (mLst (mCons (mVar 3) mNil))) (mCutP 2 (some (mVar 4)) none))))
    (fun rest ρ' => ∃ c2 zs x y, IsCup c2 ∧ ρ' = [some (.own c2), some (.val (.list ds)), some (.own (.list zs)), x, y] ∧ (zs ++ rest).Perm ds) (ds := ds) (ρ := [some (.own c), some (.val (.list ds)), some (.own (.list [])), none, none]) ⟨c, [], none, none, hc, rfl, List.Perm.refl _⟩ ?_
  · obtain ⟨ρ', e, c2, zs, x, y, hc2, rfl, hp⟩ := loop
    rw [List.append_nil] at hp
    refine ⟨zs, c2, hc2, hp, ?_⟩
    unfold m__law_turned mDef b__law_turned
    simp [seqD, e]
  · rintro d rest ρ ⟨c2, zs, x, y, hc2, rfl, hp⟩
    have hlen : zs.length + (rest.length + 1) = ds.length := by
      have := hp.length_eq
      simpa using this
    obtain ⟨r, c3, hc3, r1, r2, e⟩ := hr c2 (zs.length + 1) hc2 (by omega) (by omega)
    obtain ⟨i, rfl⟩ := Int.eq_ofNat_of_zero_le r1
    refine ⟨[some (.own c2), some (.val (.list ds)), some (.own (.list zs)), some (.val d), y], [some (.own c3), some (.val (.list ds)), some (.own (.list (zs.take i ++ [d] ++ zs.drop i))), some (.val d), some (.val (.int i))], by simp, .inl ?_, c3, _, _, _, hc3, rfl, ?_⟩
    · have e2 : cutD zs (some (i : Int)) none = zs.drop i := by
        unfold cutD
        rw [show HT.sIx zs.length 0 (some (i : Int)) = min i zs.length from HT.sIx_nat zs.length 0 i, HT.sIx_none, show min i zs.length = i by omega]
        exact List.take_of_length_le (by simp)
      have z1 : sz (min i zs.length + 1) := sz_of (by omega)
      have z2 : sz (min i zs.length + (zs.length - i + 1)) := sz_of (by omega)
      have z3 : sz (min i zs.length + 1 + (zs.length - i)) := sz_of (by omega)
      simp [e, dCut, cut_take, e2, dCatL, z1, z2, z3]
    · refine List.Perm.trans ?_ hp
      have := List.take_append_drop i zs
      have p1 : (zs.take i ++ [d] ++ zs.drop i).Perm (zs ++ [d]) := by
        conv => rhs; rw [← this]
        rw [List.append_assoc, List.append_assoc]
        exact List.Perm.append_left _ List.perm_append_comm
      have p2 := List.Perm.append_right rest p1
      rw [List.append_assoc] at p2
      simpa using p2
end DL
namespace DL
open PySem PySem.Spec PyProof.Rows L2 DL.Lib
theorem plain_ints : ∀ cs : List Int, PyData.plainAll (cs.map .int) = true
  | [] => rfl
  | c :: cs => by
    rw [List.map_cons]
    show (PyData.plain (.int c) && PyData.plainAll (cs.map .int)) = true
    rw [plain_ints cs] <;> rfl
theorem ok_ints (cs : List Int) : okD (.list (cs.map .int)) := by
  refine ⟨plain_ints cs, ?_⟩
  have h : PyData.depthAll (cs.map .int) ≤ 0 := depthAll_le fun d hd => by
    obtain ⟨i, _, rfl⟩ := List.mem_map.mp hd
    exact Nat.le_refl 0
  show PyData.depthAll (cs.map .int) + 1 ≤ 60
  omega
theorem any_ints (v : Int) (cs : List Int) : ((cs.map PyData.int).any fun z => PyData.eqv z (.int v)) = decide (v ∈ cs) := by
  rw [List.any_map]
  induction cs with
  | nil => rfl
  | cons c cs ih =>
    rw [List.any_cons, ih]
    show ((c == v) || _) = _
    by_cases h : c = v
    · subst h; simp
    · have h' : ¬ v = c := fun z => h z.symm
      simp [h, h']
theorem in_ints (v : Int) (cs : List Int) (neg : Bool) : dIn neg (.int v) (T cs) = .ok (.bool (decide (v ∈ cs) != neg)) := by
  show Rs.grd (okD (.int v) ∧ okD (.list (cs.map .int))) (.ok (PyData.bool (((cs.map .int).any fun z => PyData.eqv z (.int v)) != neg))) = _
  rw [Rs.grd_pos ⟨ok_int v, ok_ints cs⟩, any_ints]
def cnt (v : Int) (vs : List Int) : Int := ((vs.filter fun x => x == v).length : Nat)
theorem p_heap_of {cs vs : List Int} (hc : IsC cs) (hv : ∀ v ∈ vs, v ∈ cs) (hl : vs.length ≤ 1000000) : m_heap_of [some (.val (T cs)), some (.val (T vs))] = .ok (.val (T (cs.map fun c => cnt c vs)), [some (.val (T cs)), some (.val (T vs))]) := by
  have hlc := hc.len
  have e1 : lcL (mgName 2) mYes (mAnd (mD (mCall m_is_whole (mCons (mVar 2) mNil))) (mBinP (dIn false) 2 (mPeek 0))) [2] (vs.map .int) [some (.val (T cs)), some (.val (T vs)), none, none] = .ok (vs.map fun _ => .bool true, [some (.val (T cs)), some (.val (T vs)), none, none]) := by
    refine lcL_of _ _ fun v hm => ⟨[some (.val (T cs)), some (.val (T vs)), some (.val (.int v)), none], by simp, ?_, by simp⟩
    simp [isW, in_ints, hv v hm]
  have e2 : dAll (.list (vs.map fun _ => .bool true)) = .ok (.bool true) := by
    rw [p_all]
    simp
  have e3 : lcL (mgName 3) mYes (mUn dLen (mLc (mSeq (mVar 1)) (mgName 2) (mTest (mBinP (dEq false) 2 (mPeek 3))) (mC (.int 1)) [2])) [3] (cs.map .int) [some (.val (T cs)), some (.val (T vs)), none, none] = .ok (cs.map fun c => .int (cnt c vs), [some (.val (T cs)), some (.val (T vs)), none, none]) := by
    refine lcL_of _ _ fun c hm => ⟨[some (.val (T cs)), some (.val (T vs)), none, some (.val (.int c))], by simp, ?_, by simp⟩
    have e4 : lcL (mgName 2) (mTest (mBinP (dEq false) 2 (mPeek 3))) (mC (.int 1)) [2] (vs.map .int) [some (.val (T cs)), some (.val (T vs)), none, some (.val (.int c))] = .ok ((vs.filter fun x => x == c).map fun _ => .int 1, [some (.val (T cs)), some (.val (T vs)), none, some (.val (.int c))]) := by
      refine lcL_ofF _ _ _ fun v hm => ⟨[some (.val (T cs)), some (.val (T vs)), some (.val (.int v)), some (.val (.int c))], by simp, by simp, fun _ => by simp, by simp⟩
    have hz : sz (vs.filter fun x => x == c).length := sz_of (Nat.le_trans (List.length_filter_le _ _) hl)
    simp [seqD, e4, hz, cnt]
  unfold m_heap_of mDef b_heap_of
  simp [p_need_coins hc, seqD, e1, e2, e3, hl, show cs.length ≤ 1000000 by omega, dTup]
end DL
namespace DL
open PySem PySem.Spec PyProof.Rows L2 DL.Lib
/-! ### nice data: no dict, nested at most so deep -/
def nice (k : Nat) (d : D) : Prop := d.plain = true ∧ d.depth ≤ k
theorem nice.ok {k : Nat} {d : D} (h : nice k d) (hk : k ≤ 60) : okD d := ⟨h.1, Nat.le_trans h.2 hk⟩
theorem nice.noD {k : Nat} {d : D} (h : nice k d) : noD d = true := by
  cases d with
  | dict es => exact nomatch h.1
  | _ => simp
theorem nice.mono {k j : Nat} {d : D} (h : nice k d) (hk : k ≤ j) : nice j d := ⟨h.1, Nat.le_trans h.2 hk⟩
theorem nice_int (i : Int) : nice 0 (.int i) := ⟨rfl, Nat.le_refl 0⟩
theorem nice_bool (i : Bool) : nice 0 (.bool i) := ⟨rfl, Nat.le_refl 0⟩
theorem nice_str (i : Str) : nice 0 (.str i) := ⟨rfl, Nat.le_refl 0⟩
theorem nice_none : nice 0 .none := ⟨rfl, Nat.le_refl 0⟩
theorem plainAll_iff : ∀ {ds : List D}, PyData.plainAll ds = true ↔ ∀ d ∈ ds, d.plain = true
  | [] => by simp [PyData.plainAll]
  | d :: ds => by
    show (d.plain && PyData.plainAll ds) = true ↔ _
    rw [Bool.and_eq_true, plainAll_iff (ds := ds)]
    simp
theorem depthAll_mem : ∀ {ds : List D} {d : D}, d ∈ ds → d.depth ≤ PyData.depthAll ds
  | [], _, h => nomatch h
  | e :: ds, d, h => by
    have : PyData.depthAll (e :: ds) = max e.depth (PyData.depthAll ds) := by simp [PyData.depthAll]
    rw [this]
    rcases List.mem_cons.mp h with rfl | h
    · exact Nat.le_max_left ..
    · exact Nat.le_trans (depthAll_mem h) (Nat.le_max_right ..)
theorem nice_tup {k : Nat} {ds : List D} (h : ∀ d ∈ ds, nice k d) : nice (k + 1) (.tuple ds) :=
  ⟨plainAll_iff.mpr fun d hd => (h d hd).1, Nat.succ_le_succ (depthAll_le fun d hd => (h d hd).2)⟩
theorem nice_list {k : Nat} {ds : List D} (h : ∀ d ∈ ds, nice k d) : nice (k + 1) (.list ds) :=
  ⟨plainAll_iff.mpr fun d hd => (h d hd).1, Nat.succ_le_succ (depthAll_le fun d hd => (h d hd).2)⟩
theorem nice_of_tup {k : Nat} {ds : List D} (h : nice (k + 1) (.tuple ds)) : ∀ d ∈ ds, nice k d := fun d hd =>
  ⟨plainAll_iff.mp h.1 d hd, Nat.le_trans (depthAll_mem hd) (Nat.le_of_succ_le_succ h.2)⟩
theorem nice_of_list {k : Nat} {ds : List D} (h : nice (k + 1) (.list ds)) : ∀ d ∈ ds, nice k d := fun d hd =>
  ⟨plainAll_iff.mp h.1 d hd, Nat.le_trans (depthAll_mem hd) (Nat.le_of_succ_le_succ h.2)⟩
theorem nice_T (ns : List Int) : nice 1 (T ns) := nice_tup fun d hd => by
  obtain ⟨i, _, rfl⟩ := List.mem_map.mp hd
  exact nice_int i
/-- xs == [] -/
theorem eq_nil {k : Nat} {ds : List D} (h : nice k (.list ds)) (hk : k ≤ 60) (neg : Bool) : dEq neg (.list ds) (.list []) = .ok (.bool (ds.isEmpty != neg)) := by
  unfold dEq
  rw [Rs.grd_pos ⟨h.ok hk, ⟨rfl, by decide⟩⟩]
  cases ds with
  | nil => rfl
  | cons d ds => rfl
end DL
namespace DL
open PySem PySem.Spec PyProof.Rows L2 DL.Lib
inductive All2 {α β : Type} (R : α → β → Prop) : List α → List β → Prop where
  | nil : All2 R [] []
  | cons {a : α} {b : β} {as : List α} {bs : List β} (h : R a b) (t : All2 R as bs) : All2 R (a :: as) (b :: bs)
/-! ### what an answer keeps -/
def WR {α : Type} (r : Rs α) (Q : α → Prop) : Prop := ∃ a, r = .ok a ∧ Q a
section
variable {α β : Type}
theorem WR.of {r : Rs α} {Q : α → Prop} {a : α} (h : r = .ok a) (q : Q a) : WR r Q := ⟨a, h, q⟩
theorem WR.mono {r : Rs α} {Q R : α → Prop} (h : WR r Q) (k : ∀ a, Q a → R a) : WR r R := let ⟨a, e, q⟩ := h; ⟨a, e, k a q⟩
@[simp] theorem WR_ok (a : α) (Q : α → Prop) : WR (.ok a) Q = Q a := propext ⟨fun ⟨b, e, q⟩ => by cases e; exact q, fun q => ⟨a, rfl, q⟩⟩
@[simp] theorem WR_stuck (Q : α → Prop) : WR (.stuck : Rs α) Q = False := propext ⟨fun ⟨b, e, _⟩ => (by cases e), fun q => q.elim⟩
@[simp] theorem WR_bind (x : Rs α) (f : α → Rs β) (Q : β → Prop) : WR (x.bind f) Q = WR x (fun a => WR (f a) Q) := propext ⟨fun ⟨b, e, q⟩ => by
    obtain ⟨a, e1, e2⟩ := Rs.of_bind e
    exact ⟨a, e1, b, e2, q⟩, fun ⟨a, e1, b, e2, q⟩ => ⟨b, by rw [e1]; exact e2, q⟩⟩
theorem WR_grd {p : Prop} {x : Rs α} {Q : α → Prop} (hp : p) (h : WR x Q) : WR (Rs.grd p x) Q := by
  rw [Rs.grd_pos hp]
  exact h
theorem WR_iteP {p : Prop} {x : Rs α} {Q : α → Prop} (hp : p) (h : WR x Q) : WR (@ite _ p (Classical.propDecidable p) x .stuck) Q := by
  rw [if_pos hp]
  exact h
theorem WR_if {p : Prop} [Decidable p] {x y : Rs α} {Q : α → Prop} (h1 : p → WR x Q) (h2 : ¬ p → WR y Q) : WR (if p then x else y) Q := by
  split
  · exact h1 ‹_›
  · exact h2 ‹_›
end
theorem WR_roll {f : SM Slot} (hr : Roller f) {c : D} {many : Int} {Q : Slot × DE → Prop} (hc : IsCup c) (h1 : 0 < many) (h2 : many < 2 ^ 200) (q : ∀ r c', IsCup c' → 0 ≤ r → r < many → Q (.val (.int r), [some (.own c'), some (.val (.int many))])) :
    WR (f [some (.own c), some (.val (.int many))]) Q := by
  obtain ⟨r, c', hc', r1, r2, e⟩ := hr c many hc h1 h2
  exact ⟨_, e, q r c' hc' r1 r2⟩
theorem WR_some {f : SM Slot} (hs : Somer f) {c : D} {ds : List D} {Q : Slot × DE → Prop} (hc : IsCup c) (h1 : ds ≠ []) (h2 : ds.length ≤ 1000000) (q : ∀ d ∈ ds, ∀ c', IsCup c' → Q (.val d, [some (.own c'), some (.val (.list ds))])) :
    WR (f [some (.own c), some (.val (.list ds))]) Q := by
  obtain ⟨d, hd, c', hc', e⟩ := hs c (.list ds) ds hc rfl h1 h2
  exact ⟨_, e, q d hd c' hc'⟩
theorem WR_someT {f : SM Slot} (hs : Somer f) {c : D} {ds : List D} {Q : Slot × DE → Prop} (hc : IsCup c) (h1 : ds ≠ []) (h2 : ds.length ≤ 1000000) (q : ∀ d ∈ ds, ∀ c', IsCup c' → Q (.val d, [some (.own c'), some (.val (.tuple ds))])) :
    WR (f [some (.own c), some (.val (.tuple ds))]) Q := by
  obtain ⟨d, hd, c', hc', e⟩ := hs c (.tuple ds) ds hc rfl h1 h2
  exact ⟨_, e, q d hd c' hc'⟩
theorem WR_for {g : MG} {b : MS} (I : List D → DE → Prop) {Q : Fl × DE → Prop} : ∀ {ds : List D} {ρ : DE}, I ds ρ → (∀ d ds ρ, I (d :: ds) ρ → WR (g d ρ) fun ρ1 => WR (b ρ1) fun q => match q.1 with
    | .nx => I ds q.2
    | .ct => I ds q.2
    | .bk => Q (.nx, q.2)
    | .rt s => Q (.rt s, q.2)) → (∀ ρ', I [] ρ' → Q (.nx, ρ')) → WR (forL g b ds ρ) Q
  | [], ρ, h0, _, q => ⟨_, rfl, q ρ h0⟩
  | d :: ds, ρ, h0, hs, q => by
    obtain ⟨ρ1, h1, ⟨fl, ρ2⟩, h2, h3⟩ := hs d ds ρ h0
    unfold forL
    rw [h1, Rs.bind_ok, h2, Rs.bind_ok]
    cases fl with
    | nx => exact WR_for I h3 hs q
    | ct => exact WR_for I h3 hs q
    | bk => exact ⟨_, rfl, h3⟩
    | rt s => exact ⟨_, rfl, h3⟩
/-- a comprehension, with what is left to do, what is done, and the state -/
theorem WR_lc {g : MG} {c : SM Bool} {e : SM D} {vs : List Nat} (I : List D → List D → DE → Prop) {Q : List D × DE → Prop} : ∀ {ds done : List D} {ρ : DE}, I ds done ρ → (∀ d ds done ρ, I (d :: ds) done ρ → WR (g d (wipeD ρ vs)) fun ρ1 => WR (c ρ1) fun p =>
    if p.1 = true then WR (e p.2) fun q => I ds (done ++ [q.1]) (unw ρ q.2 vs) else I ds done (unw ρ p.2 vs)) → (∀ done' ρ', I [] (done ++ done') ρ' → Q (done', ρ')) → WR (lcL g c e vs ds ρ) Q
  | [], done, ρ, h0, _, q => ⟨_, rfl, q [] ρ (by rw [List.append_nil]; exact h0)⟩
  | d :: ds, done, ρ, h0, hs, q => by
    obtain ⟨ρ1, h1, ⟨k, ρ2⟩, h2, h3⟩ := hs d ds done ρ h0
    unfold lcL
    rw [h1, Rs.bind_ok, h2, Rs.bind_ok]
    cases k with
    | true =>
      rw [if_pos rfl] at h3 ⊢
      obtain ⟨⟨z, ρ3⟩, h4, h5⟩ := h3
      rw [h4, Rs.bind_ok]
      have := WR_lc (c := c) (e := e) I (Q := fun r => Q (z :: r.1, r.2)) h5 hs (fun done' ρ' hi => q (z :: done') ρ' (by simpa using hi))
      obtain ⟨r, e1, e2⟩ := this
      exact ⟨_, by rw [e1]; rfl, e2⟩
    | false =>
      rw [if_neg (by simp)] at h3 ⊢
      exact WR_lc I h3 hs q
/-- a comprehension without a condition, each item of its own -/
theorem WR_map {g : MG} {e : SM D} {vs : List Nat} (J : DE → Prop) (R : D → D → Prop) {Q : List D × DE → Prop} {ds : List D} {ρ : DE} (h0 : J ρ) (hs : ∀ d ∈ ds, ∀ ρ, J ρ → WR (g d (wipeD ρ vs)) fun ρ1 => WR (e ρ1) fun q => R d q.1 ∧ J (unw ρ q.2 vs))
    (q : ∀ zs ρ', J ρ' → zs.length = ds.length → (∀ z ∈ zs, ∃ d ∈ ds, R d z) → All2 R ds zs → Q (zs, ρ')) : WR (lcL g mYes e vs ds ρ) Q := by
  have go : ∀ (ds : List D) (ρ : DE), J ρ → (∀ d ∈ ds, ∀ ρ, J ρ → WR (g d (wipeD ρ vs)) fun ρ1 => WR (e ρ1) fun q => R d q.1 ∧ J (unw ρ q.2 vs)) → ∃ zs ρ', lcL g mYes e vs ds ρ = .ok (zs, ρ') ∧ J ρ' ∧ All2 R ds zs := by
    intro ds
    induction ds with
    | nil => exact fun ρ h _ => ⟨[], ρ, rfl, h, .nil⟩
    | cons d ds ih =>
      intro ρ h hs
      obtain ⟨ρ1, h1, ⟨z, ρ2⟩, h2, h3, h4⟩ := hs d (List.mem_cons_self ..) ρ h
      obtain ⟨zs, ρ', e1, e2, e3⟩ := ih _ h4 fun d hd => hs d (List.mem_cons_of_mem _ hd)
      refine ⟨z :: zs, ρ', ?_, e2, .cons h3 e3⟩
      unfold lcL
      rw [h1, Rs.bind_ok, x_yes, Rs.bind_ok, if_pos rfl, h2, Rs.bind_ok, e1]
      rfl
  obtain ⟨zs, ρ', e1, e2, e3⟩ := go ds ρ h0 hs
  refine ⟨_, e1, q zs ρ' e2 ?_ ?_ e3⟩
  · clear e1 q hs
    induction e3 with
    | nil => rfl
    | cons _ _ ih => simp [ih]
  · clear e1 q hs
    induction e3 with
    | nil => exact fun z h => nomatch h
    | cons h _ ih =>
      intro z hz
      rcases List.mem_cons.mp hz with rfl | hz
      · exact ⟨_, List.mem_cons_self .., h⟩
      · obtain ⟨d, h1, h2⟩ := ih z hz
        exact ⟨d, List.mem_cons_of_mem _ h1, h2⟩
theorem WR_wh {c : SM Bool} {b : MS} (I : DE → Prop) (μ : DE → Nat) {Q : Fl × DE → Prop} : ∀ (k : Nat) {ρ : DE}, μ ρ ≤ k → I ρ → (∀ ρ, I ρ → WR (c ρ) fun p => if p.1 = true then WR (b p.2) fun q => match q.1 with
    | .nx => I q.2 ∧ μ q.2 < μ ρ
    | .ct => I q.2 ∧ μ q.2 < μ ρ
    | .bk => Q (.nx, q.2)
    | .rt s => Q (.rt s, q.2) else Q (.nx, p.2)) → WR (mWh c b ρ) Q := by
  intro k
  have go : ∀ (k : Nat) {ρ : DE}, μ ρ ≤ k → I ρ → (∀ ρ, I ρ → WR (c ρ) fun p => if p.1 = true then WR (b p.2) fun q => match q.1 with
    | .nx => I q.2 ∧ μ q.2 < μ ρ
    | .ct => I q.2 ∧ μ q.2 < μ ρ
    | .bk => Q (.nx, q.2)
    | .rt s => Q (.rt s, q.2) else Q (.nx, p.2)) → ∃ r, whL c b (k + 1) ρ = .ok r ∧ Q r := by
    intro k
    induction k with
    | zero =>
      intro ρ hk h0 hs
      obtain ⟨⟨z, ρ1⟩, e1, h⟩ := hs ρ h0
      unfold whL
      rw [e1, Rs.bind_ok]
      cases z with
      | false =>
        rw [if_neg (by simp)] at h ⊢
        exact ⟨_, rfl, h⟩
      | true =>
        rw [if_pos rfl] at h ⊢
        obtain ⟨⟨fl, ρ2⟩, e2, h⟩ := h
        rw [e2, Rs.bind_ok]
        cases fl with
        | nx => exact absurd (Nat.lt_of_lt_of_le h.2 hk) (Nat.not_lt_zero _)
        | ct => exact absurd (Nat.lt_of_lt_of_le h.2 hk) (Nat.not_lt_zero _)
        | bk => exact ⟨_, rfl, h⟩
        | rt s => exact ⟨_, rfl, h⟩
    | succ k ih =>
      intro ρ hk h0 hs
      obtain ⟨⟨z, ρ1⟩, e1, h⟩ := hs ρ h0
      unfold whL
      rw [e1, Rs.bind_ok]
      cases z with
      | false =>
        rw [if_neg (by simp)] at h ⊢
        exact ⟨_, rfl, h⟩
      | true =>
        rw [if_pos rfl] at h ⊢
        obtain ⟨⟨fl, ρ2⟩, e2, h⟩ := h
        rw [e2, Rs.bind_ok]
        cases fl with
        | nx => exact ih (by have := Nat.lt_of_lt_of_le h.2 hk; omega) h.1 hs
        | ct => exact ih (by have := Nat.lt_of_lt_of_le h.2 hk; omega) h.1 hs
        | bk => exact ⟨_, rfl, h⟩
        | rt s => exact ⟨_, rfl, h⟩
  intro ρ hk h0 hs
  obtain ⟨r, e, q⟩ := go k hk h0 hs
  exact ⟨r, mWh_of e, q⟩
/-! ### lists of nice data -/
structure AllN (k : Nat) (ds : List D) : Prop where
  all : ∀ d ∈ ds, nice k d
theorem AllN.mono {k j : Nat} {ds : List D} (h : AllN k ds) (hk : k ≤ j) : AllN j ds := ⟨fun d hd => (h.all d hd).mono hk⟩
theorem an_nil (k : Nat) : AllN k [] := ⟨fun d hd => nomatch hd⟩
theorem an_cons {k : Nat} {d : D} {ds : List D} (h : nice k d) (h' : AllN k ds) : AllN k (d :: ds) := ⟨fun e he => by
  rcases List.mem_cons.mp he with rfl | he
  · exact h
  · exact h'.all e he⟩
theorem an_app {k : Nat} {a b : List D} (h : AllN k a) (h' : AllN k b) : AllN k (a ++ b) := ⟨fun e he => by
  rcases List.mem_append.mp he with he | he
  · exact h.all e he
  · exact h'.all e he⟩
theorem an_cut {k : Nat} {a : List D} {lo hi : Option Int} (h : AllN k a) : AllN k (DL.cutD a lo hi) := ⟨fun e he => by
  unfold DL.cutD at he
  exact h.all e (List.mem_of_mem_drop (List.mem_of_mem_take he))⟩
theorem an_rev {k : Nat} {a : List D} (h : AllN k a) : AllN k a.reverse := ⟨fun e he => h.all e (List.mem_reverse.mp he)⟩
theorem nk_tup {k : Nat} {ds : List D} (h : AllN k ds) : nice (k + 1) (.tuple ds) := nice_tup h.all
theorem nk_list {k : Nat} {ds : List D} (h : AllN k ds) : nice (k + 1) (.list ds) := nice_list h.all
theorem nk_int (k : Nat) (i : Int) : nice k (.int i) := (nice_int i).mono (Nat.zero_le _)
theorem nk_bool (k : Nat) (i : Bool) : nice k (.bool i) := (nice_bool i).mono (Nat.zero_le _)
theorem nk_str (k : Nat) (i : Str) : nice k (.str i) := (nice_str i).mono (Nat.zero_le _)
theorem nk_none (k : Nat) : nice k .none := nice_none.mono (Nat.zero_le _)
theorem an_ints (k : Nat) (ns : List Int) : AllN k (ns.map .int) := ⟨fun d hd => by
  obtain ⟨i, _, rfl⟩ := List.mem_map.mp hd
  exact nk_int k i⟩
theorem an_intsF {α : Type} (k : Nat) (ns : List α) (f : α → Int) : AllN k (ns.map fun n => .int (f n)) := ⟨fun d hd => by
  obtain ⟨i, _, rfl⟩ := List.mem_map.mp hd
  exact nk_int k _⟩
theorem WR_coins {roll some' : SM Slot} (hr : Roller roll) (hs : Somer some') {c : D} {many most : Int} {Q : Slot × DE → Prop} (hc : IsCup c) (h1 : 0 < many ∧ many ≤ 50) (h2 : 0 < most ∧ most < 2 ^ 200) (q : ∀ cs c', IsCup c' → Drawn (max 12 most) cs → Q (.val (.tuple (cs.map .int)), [some (.own c'), some (.val (.int many)), some (.val (.int most))])) :
    WR (m__law_coins roll some' [some (.own c), some (.val (.int many)), some (.val (.int most))]) Q := by
  obtain ⟨cs, c', hc', D, e⟩ := p_coins_drawn hr hs c many most hc h1 h2
  exact ⟨_, e, q cs c' hc' D⟩
theorem WR_heap {roll some' : SM Slot} (hr : Roller roll) (hs : Somer some') {cs : List D} {c : D} {most : Int} {Q : Slot × DE → Prop} (hc : IsCup c) (hl : cs.length ≤ 1000000) (h2 : 0 ≤ most ∧ most < 2 ^ 199)
    (q : ∀ (zs : List Int) (c' : D), IsCup c' → zs.length = cs.length → (∀ h ∈ zs, 0 ≤ h ∧ h ≤ max 1 most) → Q (.val (.tuple (zs.map .int)), [some (.own c'), some (.val (.tuple cs)), some (.val (.int most))])) :
    WR (m__law_heap some' roll [some (.own c), some (.val (.tuple cs)), some (.val (.int most))]) Q := by
  obtain ⟨zs, c', hc', h3, h4, e⟩ := p_heap_drawn hr hs cs c most hc hl h2
  exact ⟨_, e, q zs c' hc' h3 h4⟩
theorem Drawn.C {top : Int} {cs : List Int} (h : Drawn top cs) (ht : top ≤ 5000) : IsC cs := ⟨h.len, fun c hc => ⟨(h.rng c hc).1, by have := (h.rng c hc).2; omega⟩, h.asc⟩
end DL
namespace DL
open PySem PySem.Spec PyProof.Rows L2 DL.Lib
/-! ### kinds of coins of some weight -/
@[simp] theorem o_neg (a : Int) : dNeg (.int a) = .ok (.int (-a)) := rfl
@[simp] theorem o_max (a b : Int) : dMax2 (.int a) (.int b) = .ok (.int (if b > a then b else a)) := rfl
@[simp] theorem o_min (a b : Int) : dMin2 (.int a) (.int b) = .ok (.int (if b < a then b else a)) := rfl
@[simp] theorem ixt_0 (x : D) (r : List D) : dIx (.tuple (x :: r)) (.int 0) = .ok x := (ix_at (i := 0) rfl).2
@[simp] theorem ixt_1 (x y : D) (r : List D) : dIx (.tuple (x :: y :: r)) (.int 1) = .ok y := (ix_at (i := 1) rfl).2
def kOk : D → Bool
  | .tuple [a, .int b] => (match a with
    | .int a => decide (1 ≤ a ∧ a ≤ 10000) && decide (a ≤ b ∧ b ≤ 10000)
    | _ => false)
  | _ => false
theorem p_fits_kind {k : Nat} (d : D) (h : nice (k + 1) d) : m_fits_kind [some (.val d)] = .ok (.val (.bool (kOk d)), [some (.val d)]) := by
  unfold m_fits_kind mDef b_fits_kind
  cases d with
  | tuple ds =>
    have hd := nice_of_tup h
    match ds, hd with
    | [a, b], hd =>
      have ha := (hd a (by simp)).noD
      have hb := (hd b (by simp)).noD
      by_cases h1 : ∃ i : Int, a = .int i ∧ 1 ≤ i ∧ i ≤ 10000
      · obtain ⟨i, rfl, h1, h2⟩ := h1
        cases b <;> simp [isTup, fitsW, hb, h1, h2, kOk] <;> cases hb
      · have : fitsW 1 10000 a = false := by
          cases a with
          | int i =>
            simp only [fitsW, decide_eq_false_iff_not]
            exact fun z => h1 ⟨i, rfl, z⟩
          | _ => simp [fitsW]
        have hk : kOk (.tuple [a, b]) = false := by
          cases b with
          | int j =>
            cases a with
            | int i =>
              simp only [fitsW, decide_eq_false_iff_not] at this
              simp [kOk, this]
            | _ => simp [kOk]
          | _ => simp [kOk]
        simp [isTup, this, ha, hk]
    | [], _ => simp [isTup, kOk]
    | [a], _ => simp [isTup, kOk]
    | a :: b :: c :: r, _ =>
      have : ¬ ((r.length : Int) + 1 + 1 + 1 ≤ 2) := by omega
      simp [isTup, kOk, this]
  | dict es => exact nomatch h.1
  | _ => simp [isTup, kOk]
structure IsK (a b : Int) : Prop where
  one : 1 ≤ a
  le : a ≤ b
  most : b ≤ 10000
theorem nice_2 (a b : Int) : nice 1 (.tuple [.int a, .int b]) := nice_tup fun d hd => by
  simp only [List.mem_cons, List.not_mem_nil, or_false] at hd
  rcases hd with rfl | rfl <;> exact nice_int _
theorem IsK.ok {a b : Int} (h : IsK a b) : kOk (.tuple [.int a, .int b]) = true := by
  have := h.one
  have := h.le
  have := h.most
  simp only [kOk, Bool.and_eq_true, decide_eq_true_eq]
  omega
@[simp] theorem p_need_kind {a b : Int} (h : IsK a b) : m_need_kind [some (.val (.tuple [.int a, .int b]))] = .ok (.val .none, [some (.val (.tuple [.int a, .int b]))]) := by
  unfold m_need_kind mDef b_need_kind
  simp [p_fits_kind _ (nice_2 a b), h.ok]
@[simp] theorem p_need_many {m l : Int} (h : l ≤ m ∧ m ≤ 1000) : m_need_many [some (.val (.int m)), some (.val (.int l))] = .ok (.val .none, [some (.val (.int m)), some (.val (.int l))]) := by
  unfold m_need_many mDef b_need_many
  simp [fitsW, h]
@[simp] theorem p_need_weight {m : Int} (h : 0 ≤ m ∧ m ≤ 10000000) : m_need_weight [some (.val (.int m))] = .ok (.val .none, [some (.val (.int m))]) := by
  unfold m_need_weight mDef b_need_weight
  simp [fitsW, h]
def nLo (b w : Int) : Int := -((-w) / b)
@[simp] theorem p_numbers_in {a b w : Int} (h : IsK a b) : m_numbers_in [some (.val (.tuple [.int a, .int b])), some (.val (.int w))] = .ok (.val (.tuple [.int (nLo b w), .int (w / a)]), [some (.val (.tuple [.int a, .int b])), some (.val (.int w))]) := by
  have h1 := h.one
  have h2 := h.le
  have h3 := h.most
  unfold m_numbers_in mDef b_numbers_in
  simp [o_fdiv (show 0 < b by omega) (show b < 2 ^ 200 by omega), o_fdiv (show 0 < a by omega) (show a < 2 ^ 200 by omega), nLo]
def nums (a b w : Int) : D := if nLo b w ≤ w / a then .tuple [.int (nLo b w), .int (w / a)] else .none
@[simp] theorem p_numbers_for {a b w : Int} (h : IsK a b) (hw : 0 ≤ w ∧ w ≤ 10000000) : m_numbers_for [some (.val (.tuple [.int a, .int b])), some (.val (.int w))] = .ok (.val (nums a b w), [some (.val (.tuple [.int a, .int b])), some (.val (.int w))]) := by
  unfold m_numbers_for mDef b_numbers_for nums
  by_cases h1 : nLo b w ≤ w / a
  · simp [h, hw, h1]
  · simp [h, hw, h1]
theorem mulL {a : Int} (x : Int) (h : 0 ≤ a ∧ a ≤ 20000) : dMul (.int x) (.int a) = .ok (.int (x * a)) := mul_ok (.inr (by omega))
theorem p_mixed_span {a b p q : Int} (k : IsK a b) (f : IsK p q) (m o : Int) : m_mixed_span [some (.val (.tuple [.int a, .int b])), some (.val (.tuple [.int p, .int q])), some (.val (.int m)), some (.val (.int o))] = .ok (.val (.tuple [.int (o * a + (m - o) * p), .int (o * b + (m - o) * q)]), [some (.val (.tuple [.int a, .int b])), some (.val (.tuple [.int p, .int q])), some (.val (.int m)), some (.val (.int o))]) := by
  have h1 := k.one
  have h2 := k.le
  have h3 := k.most
  have f1 := f.one
  have f2 := f.le
  have f3 := f.most
  unfold m_mixed_span mDef b_mixed_span
  simp [mulL _ (show 0 ≤ a ∧ a ≤ 20000 by omega), mulL _ (show 0 ≤ b ∧ b ≤ 20000 by omega), mulL _ (show 0 ≤ p ∧ p ≤ 20000 by omega), mulL _ (show 0 ≤ q ∧ q ≤ 20000 by omega)]
theorem WR_kind {roll some' : SM Slot} (R : Roller roll) (S : Somer some') {c : D} {Q : Slot × DE → Prop} (hc : IsCup c) (q : ∀ a b c', IsCup c' → IsK a b → a ≤ 900 → b ≤ a + 899 → Q (.val (.tuple [.int a, .int b]), [some (.own c')])) :
    WR (m__law_kind some' roll 60 900 900 [some (.own c)]) Q := by
  unfold m__law_kind mDef b__law_kind
  simp
  refine WR_roll R hc (by omega) (by omega) fun r1 c1 h1 a1 b1 => ?_
  simp
  refine WR_roll R h1 (by omega) (by omega) fun r2 c2 h2 a2 b2 => ?_
  simp
  refine WR_roll R h2 (by omega) (by omega) fun r3 c3 h3 a3 b3 => ?_
  simp
  refine WR_some S h3 (by simp) (by simp) fun z hz c4 h4 => ?_
  obtain ⟨r4, rfl, a4, b4⟩ : ∃ r4 : Int, z = .int r4 ∧ 0 ≤ r4 ∧ r4 < 900 := by
    simp only [List.mem_cons, List.not_mem_nil, or_false] at hz
    rcases hz with rfl | rfl | rfl
    · exact ⟨_, rfl, a1, by omega⟩
    · exact ⟨_, rfl, a2, by omega⟩
    · exact ⟨_, rfl, a3, by omega⟩
  simp
  refine WR_roll R h4 (by omega) (by omega) fun r5 c5 h5 a5 b5 => ?_
  simp
  refine WR_roll R h5 (by omega) (by omega) fun r6 c6 h6 a6 b6 => ?_
  simp
  refine WR_roll R h6 (by omega) (by omega) fun r7 c7 h7 a7 b7 => ?_
  simp
  refine WR_some S h7 (by simp) (by simp) fun z hz c8 h8 => ?_
  obtain ⟨r8, rfl, a8, b8⟩ : ∃ r8 : Int, z = .int r8 ∧ 0 ≤ r8 ∧ r8 < 900 := by
    simp only [List.mem_cons, List.not_mem_nil, or_false] at hz
    rcases hz with rfl | rfl | rfl | rfl | rfl
    · exact ⟨_, rfl, by omega, by omega⟩
    · exact ⟨_, rfl, by omega, by omega⟩
    · exact ⟨_, rfl, a5, by omega⟩
    · exact ⟨_, rfl, a6, by omega⟩
    · exact ⟨_, rfl, a7, by omega⟩
  simp
  exact q _ _ _ h8 ⟨by omega, by omega, by omega⟩ (by omega) (by omega)
end DL
namespace DL
open PySem PySem.Spec PyProof.Rows L2 DL.Lib
/-! ### more draws -/
def inB (lo hi : Int) : D → Prop
  | .int i => lo ≤ i ∧ i < hi
  | _ => False
@[simp] theorem inB_int (lo hi i : Int) : inB lo hi (.int i) = (lo ≤ i ∧ i < hi) := rfl
theorem WR_someB {f : SM Slot} (hs : Somer f) (lo hi : Int) {c : D} {ds : List D} {Q : Slot × DE → Prop} (hc : IsCup c) (h1 : ds ≠ []) (h2 : ds.length ≤ 1000000) (hb : ∀ d ∈ ds, inB lo hi d) (q : ∀ r c', IsCup c' → lo ≤ r → r < hi → Q (.val (.int r), [some (.own c'), some (.val (.list ds))])) :
    WR (f [some (.own c), some (.val (.list ds))]) Q := by
  refine WR_some hs hc h1 h2 fun d hd c' hc' => ?_
  have := hb d hd
  cases d with
  | int i => exact q i c' hc' this.1 this.2
  | _ => exact this.elim
@[simp] theorem o_eqB (a b : Bool) (neg : Bool) : dEq neg (.bool a) (.bool b) = .ok (.bool ((a == b) != neg)) := by
  unfold dEq
  rw [Rs.grd_pos ⟨⟨rfl, Nat.zero_le _⟩, ⟨rfl, Nat.zero_le _⟩⟩]
  cases a <;> cases b <;> rfl
@[simp] theorem is_non (neg : Bool) : dIs neg .none .none = .ok (.bool (true != neg)) := rfl
@[simp] theorem is_nonI (neg : Bool) (i : Int) : dIs neg (.int i) .none = .ok (.bool (false != neg)) := rfl
@[simp] theorem is_nonT (neg : Bool) (i : List D) : dIs neg (.tuple i) .none = .ok (.bool (false != neg)) := rfl
@[simp] theorem is_nonL (neg : Bool) (i : List D) : dIs neg (.list i) .none = .ok (.bool (false != neg)) := rfl
@[simp] theorem is_tr (neg b : Bool) : dIs neg (.bool b) (.bool true) = .ok (.bool (b != neg)) := by cases b <;> rfl
@[simp] theorem is_fl (neg b : Bool) : dIs neg (.bool b) (.bool false) = .ok (.bool ((!b) != neg)) := by cases b <;> rfl
theorem i62_of {a : Int} (h : -1000000000 ≤ a ∧ a ≤ 1000000000) : i62 a := ⟨by omega, by omega⟩
@[simp] theorem slOk {n : Nat} (h : n ≤ 1000000) : n < sizeLine := Nat.lt_of_le_of_lt h (by decide)
@[simp] theorem mul_okL {a b : Int} (h : -(2 ^ 64) < a ∧ a < 2 ^ 64) : dMul (.int a) (.int b) = .ok (.int (a * b)) := mul_ok (.inl h)
@[simp] theorem mul_okR {a b : Int} (h : -(2 ^ 64) < b ∧ b < 2 ^ 64) : dMul (.int a) (.int b) = .ok (.int (a * b)) := mul_ok (.inr h)
end DL
namespace DL
open PySem PySem.Spec PyProof.Rows L2 DL.Lib
/-! ### loops as folds -/
theorem WR_fold {σ α : Type} {g : MG} {b : MS} (h : α → D) (I : σ → DE → Prop) (step : σ → α → σ) : ∀ {xs : List α} {s : σ} {ρ : DE}, (∀ x ∈ xs, ∀ s ρ, I s ρ → WR (g (h x) ρ) fun ρ1 => WR (b ρ1) fun q => (q.1 = .nx ∨ q.1 = .ct) ∧ I (step s x) q.2) → I s ρ →
    WR (forL g b (xs.map h) ρ) fun q => q.1 = .nx ∧ I (xs.foldl step s) q.2
  | [], s, ρ, _, h0 => ⟨_, rfl, rfl, h0⟩
  | x :: xs, s, ρ, hs, h0 => by
    obtain ⟨ρ1, h1, ⟨fl, ρ2⟩, h2, h3, h4⟩ := hs x (List.mem_cons_self ..) s ρ h0
    rw [List.map_cons, List.foldl_cons]
    unfold forL
    rw [h1, Rs.bind_ok, h2, Rs.bind_ok]
    have ih := WR_fold h I step (xs := xs) (fun y hy => hs y (List.mem_cons_of_mem _ hy)) h4
    rcases h3 with rfl | rfl <;> exact ih
theorem fold_filter {α β : Type} (P : α → Bool) (f : α → β) : ∀ (xs : List α) (acc : List β), xs.foldl (fun acc x => if P x = true then acc ++ [f x] else acc) acc = acc ++ (xs.filter P).map f
  | [], acc => by simp
  | x :: xs, acc => by
    rw [List.foldl_cons, fold_filter P f xs, List.filter_cons]
    split <;> simp
/-! ### sorted pairs -/
def le2 (p q : Int × Int) : Bool := decide (p.1 < q.1 ∨ (p.1 = q.1 ∧ p.2 ≤ q.2))
def duoD (p : Int × Int) : D := .tuple [.int p.1, .int p.2]
def sort2 (ps : List (Int × Int)) : List (Int × Int) := ps.mergeSort le2
theorem sort2_perm (ps : List (Int × Int)) : (sort2 ps).Perm ps := List.mergeSort_perm ..
theorem sort2_le (ps : List (Int × Int)) : (sort2 ps).Pairwise fun p q => le2 p q = true :=
  List.pairwise_mergeSort (fun a b c h1 h2 => by simp only [le2, decide_eq_true_eq] at *; omega) (fun a b => by simp only [le2, Bool.or_eq_true, decide_eq_true_eq]; omega) ps
theorem sort2_of {ps qs : List (Int × Int)} (h : qs.Perm ps) (hs : qs.Pairwise fun p q => le2 p q = true) : sort2 ps = qs :=
  (List.Perm.eq_of_pairwise (fun a b _ _ h1 h2 => by
    simp only [le2, decide_eq_true_eq] at *
    exact Prod.ext (by omega) (by omega)) hs (sort2_le ps) (h.trans (sort2_perm ps).symm)).symm
theorem sortD2 (ps : List (Int × Int)) : sortD (ps.map duoD) = (sort2 ps).map duoD := by
  unfold sortD sort2
  refine (List.map_mergeSort fun a _ b _ => ?_).symm
  rw [PySem.W.dataLe_eq]
  simp only [cond_false, id, duoD, PySem.W.dataLt_ii, le2]
  rw [Bool.eq_iff_iff]
  simp only [Bool.not_eq_true', decide_eq_true_eq, decide_eq_false_iff_not]
  omega
theorem p_sort2 (ps : List (Int × Int)) : dSortA (.list (ps.map duoD)) = .ok (.list ((sort2 ps).map duoD)) := by
  have ok : alikeOk (ps.map duoD) := by
    refine ⟨?_, .inl ?_, ?_⟩
    · intro d hd d' hd'
      obtain ⟨p, _, rfl⟩ := List.mem_map.mp hd
      obtain ⟨q, _, rfl⟩ := List.mem_map.mp hd'
      rfl
    · intro d hd
      obtain ⟨p, _, rfl⟩ := List.mem_map.mp hd
      exact ⟨_, _, rfl⟩
    · intro d hd
      obtain ⟨p, _, rfl⟩ := List.mem_map.mp hd
      exact ⟨rfl, (nice_2 p.1 p.2).ok (by omega) |>.2⟩
  rw [← sortD2]
  unfold dSortA
  show dSorted _ = _
  unfold dSorted
  rw [show itemsD (.list (ps.map duoD)) = some (ps.map duoD) from rfl, x_ofO, Rs.bind_ok, if_pos ok]
/-! ### of k68 -/
theorem lo_le {a b w m : Int} (k : IsK a b) : nLo b w ≤ m ↔ w ≤ m * b := by
  have h1 := k.one
  have h2 := k.le
  have : -m ≤ (-w) / b ↔ -m * b ≤ -w := Int.le_ediv_iff_mul_le (by omega)
  rw [Int.neg_mul] at this
  unfold nLo
  omega
theorem hi_le {a b w m : Int} (k : IsK a b) : m ≤ w / a ↔ m * a ≤ w := Int.le_ediv_iff_mul_le (by have := k.one; omega)
theorem ints_of_B {lo hi : Int} : ∀ {ds : List D}, (∀ d ∈ ds, inB lo (hi + 1) d) → ∃ ns : List Int, ds = ns.map .int ∧ ∀ n ∈ ns, lo ≤ n ∧ n ≤ hi
  | [], _ => ⟨[], rfl, fun _ h => nomatch h⟩
  | d :: ds, h => by
    obtain ⟨ns, rfl, hn⟩ := ints_of_B fun z hz => h z (List.mem_cons_of_mem _ hz)
    have h1 := h d (List.mem_cons_self ..)
    cases d with
    | int i =>
      rw [inB_int] at h1
      refine ⟨i :: ns, rfl, fun n hn' => ?_⟩
      rcases List.mem_cons.mp hn' with rfl | hn'
      · omega
      · exact hn n hn'
    | _ => exact h1.elim
theorem eq_nil0 (neg : Bool) : dEq neg (.list []) (.list []) = .ok (.bool (true != neg)) := by
  unfold dEq
  rw [Rs.grd_pos ⟨⟨rfl, by decide⟩, ⟨rfl, by decide⟩⟩]
  rfl
theorem pow7 : dPow (.int 10) (.int 7) = .ok (.int 10000000) := by
  unfold dPow
  simp only []
  rw [Rs.grd_pos (by decide)]
  rfl
theorem pow6 : dPow (.int 10) (.int 6) = .ok (.int 1000000) := by
  unfold dPow
  simp only []
  rw [Rs.grd_pos (by decide)]
  rfl
theorem upD0 (n : Nat) : upD 0 n = (List.range n).map fun k : Nat => .int k := by
  unfold upD
  simp
theorem WR_foldN {σ α : Type} {g : MG} {b : MS} (h : α → D) (I : Nat → σ → DE → Prop) (step : σ → α → σ) (N : Nat) : ∀ {xs : List α} {s : σ} {ρ : DE} (i : Nat), i + xs.length = N → (∀ x ∈ xs, ∀ i s ρ, i < N → I i s ρ → WR (g (h x) ρ) fun ρ1 => WR (b ρ1) fun q => (q.1 = .nx ∨ q.1 = .ct) ∧ I (i + 1) (step s x) q.2) → I i s ρ →
    WR (forL g b (xs.map h) ρ) fun q => q.1 = .nx ∧ I N (xs.foldl step s) q.2
  | [], s, ρ, i, hi, _, h0 => ⟨_, rfl, rfl, by rw [← hi]; exact h0⟩
  | x :: xs, s, ρ, i, hi, hs, h0 => by
    rw [List.length_cons] at hi
    obtain ⟨ρ1, h1, ⟨fl, ρ2⟩, h2, h3, h4⟩ := hs x (List.mem_cons_self ..) i s ρ (by omega) h0
    rw [List.map_cons, List.foldl_cons]
    unfold forL
    rw [h1, Rs.bind_ok, h2, Rs.bind_ok]
    have ih := WR_foldN h I step N (xs := xs) (i + 1) (by omega) (fun y hy => hs y (List.mem_cons_of_mem _ hy)) h4
    rcases h3 with rfl | rfl <;> exact ih
/-- a loop that answers at the first that is so -/
theorem WR_find {α : Type} {g : MG} {b : MS} (h : α → D) (P : α → Bool) (I J : DE → Prop) (r : Slot) : ∀ {xs : List α} {ρ : DE}, (∀ x ∈ xs, ∀ ρ, I ρ → WR (g (h x) ρ) fun ρ1 => WR (b ρ1) fun q => if P x = true then q.1 = .rt r ∧ J q.2 else (q.1 = .nx ∨ q.1 = .ct) ∧ I q.2) → I ρ →
    WR (forL g b (xs.map h) ρ) fun q => if xs.any P = true then q.1 = .rt r ∧ J q.2 else q.1 = .nx ∧ I q.2
  | [], ρ, _, h0 => ⟨_, rfl, rfl, h0⟩
  | x :: xs, ρ, hs, h0 => by
    obtain ⟨ρ1, h1, ⟨fl, ρ2⟩, h2, h3⟩ := hs x (List.mem_cons_self ..) ρ h0
    rw [List.map_cons]
    unfold forL
    rw [h1, Rs.bind_ok, h2, Rs.bind_ok, List.any_cons]
    cases hp : P x with
    | true =>
      rw [hp, if_pos rfl] at h3
      obtain ⟨h3, h4⟩ := h3
      simp only at h3
      subst h3
      exact ⟨_, rfl, rfl, h4⟩
    | false =>
      rw [hp, if_neg (by simp)] at h3
      rw [Bool.false_or]
      have ih := WR_find h P I J r (xs := xs) (fun y hy => hs y (List.mem_cons_of_mem _ hy)) h3.2
      rcases h3.1 with h3 | h3 <;> simp only at h3 <;> subst h3 <;> exact ih
theorem WR_sq {m m' : MS} {ρ ρ1 : DE} {Q : Fl × DE → Prop} (h : m ρ = .ok (.nx, ρ1)) (h' : WR (m' ρ1) Q) : WR (mSq m m' ρ) Q := by
  rw [x_sq, h]
  exact h'
end DL
namespace DL
open PySem PySem.Spec PyProof.Rows L2 DL.Lib
/-! ### each coin so often -/
def spread (ps : List (Int × Int)) : List Int := (ps.map fun p => List.replicate p.2.toNat p.1).flatten
theorem rep_one {α : Type} (x : α) : ∀ k : Nat, (List.replicate k [x]).flatten = List.replicate k x
  | 0 => rfl
  | k + 1 => by rw [List.replicate_succ, List.flatten_cons, rep_one x k]; rfl
theorem spread_mem {cs hs : List Int} {v : Int} (h : v ∈ spread (cs.zip hs)) : v ∈ cs := by
  unfold spread at h
  obtain ⟨l, hl, hv⟩ := List.mem_flatten.mp h
  obtain ⟨p, hp, rfl⟩ := List.mem_map.mp hl
  rw [(List.mem_replicate.mp hv).2]
  exact (List.of_mem_zip hp).1
theorem spread_sum : ∀ {cs hs : List Int}, (∀ h ∈ hs, 0 ≤ h) → (spread (cs.zip hs)).sum = dot cs hs
  | [], _, _ => by simp [spread, dot]
  | _ :: _, [], _ => by simp [spread, dot]
  | c :: cs, h :: hs, h0 => by
    have ih := spread_sum (cs := cs) (hs := hs) fun x hx => h0 x (List.mem_cons_of_mem h hx)
    have hh := h0 h (List.mem_cons_self ..)
    unfold spread dot at ih ⊢
    rw [List.zip_cons_cons, List.map_cons, List.flatten_cons, List.sum_append, ih, List.map_cons, List.sum_cons, List.sum_replicate_int, Int.mul_comm]
    congr 2
    exact Int.toNat_of_nonneg hh
theorem spread_len : ∀ {cs hs : List Int}, hs.length = cs.length → (∀ h ∈ hs, 0 ≤ h) → ((spread (cs.zip hs)).length : Int) = hs.sum
  | [], [], _, _ => by simp [spread]
  | [], _ :: _, h, _ => by cases h
  | _ :: _, [], h, _ => by cases h
  | c :: cs, h :: hs, hl, h0 => by
    have ih := spread_len (cs := cs) (hs := hs) (by simpa using hl) fun x hx => h0 x (List.mem_cons_of_mem h hx)
    have hh := h0 h (List.mem_cons_self ..)
    unfold spread at ih ⊢
    rw [List.zip_cons_cons, List.map_cons, List.flatten_cons, List.length_append, List.length_replicate, List.sum_cons, ← ih]
    omega
theorem cnt_cons (c v : Int) (vs : List Int) : DL.cnt c (v :: vs) = DL.cnt c vs + if v = c then 1 else 0 := by
  unfold DL.cnt
  rw [List.filter_cons]
  by_cases h : v = c <;> simp [h]
theorem pick_sum (f : Int → Int) {v : Int} : ∀ {more : List Int}, more.Nodup → v ∈ more → (more.map fun c => f c * (if v = c then 1 else 0)).sum = f v
  | [], _, h => nomatch h
  | c :: more, hn, h => by
    have hn' := List.nodup_cons.mp hn
    rw [List.map_cons, List.sum_cons]
    by_cases hv : v = c
    · subst hv
      have : (more.map fun c => f c * (if v = c then 1 else 0)).sum = 0 := by
        have hz : ∀ c ∈ more, f c * (if v = c then 1 else 0) = 0 := fun c hc => by
          rw [if_neg (fun z : v = c => hn'.1 (z ▸ hc))]
          simp
        rw [List.map_congr_left hz]
        clear hz hn hn' h
        induction more with
        | nil => rfl
        | cons a l ih => rw [List.map_cons, List.sum_cons, ih]; rfl
      rw [this]
      simp
    · rw [pick_sum f hn'.2 ((List.mem_cons.mp h).resolve_left hv), if_neg hv]
      simp
theorem sum_map_add (f g : Int → Int) : ∀ l : List Int, (l.map fun c => f c + g c).sum = (l.map f).sum + (l.map g).sum
  | [] => rfl
  | c :: l => by
    rw [List.map_cons, List.map_cons, List.map_cons, List.sum_cons, List.sum_cons, List.sum_cons, sum_map_add f g l]
    omega
/-- a weighed sum of the numbers of each is a sum over all -/
theorem cnt_sum (f : Int → Int) {more : List Int} (hn : more.Nodup) : ∀ {vs : List Int}, (∀ v ∈ vs, v ∈ more) → (more.map fun c => f c * DL.cnt c vs).sum = (vs.map f).sum
  | [], _ => by
    have hz : ∀ c ∈ more, f c * DL.cnt c [] = 0 := fun c _ => by simp [DL.cnt]
    rw [List.map_congr_left hz]
    have z0 : ∀ l : List Int, (l.map fun _ => (0 : Int)).sum = 0 := fun l => by
      induction l with
      | nil => rfl
      | cons a l ih => rw [List.map_cons, List.sum_cons, ih]; rfl
    rw [z0]
    rfl
  | v :: vs, h => by
    have ih := cnt_sum f hn (vs := vs) fun x hx => h x (List.mem_cons_of_mem _ hx)
    have e : (more.map fun c => f c * DL.cnt c (v :: vs)) = more.map fun c => f c * DL.cnt c vs + f c * (if v = c then 1 else 0) := List.map_congr_left fun c _ => by rw [cnt_cons, Int.mul_add]
    rw [e, sum_map_add, ih, pick_sum f hn (h v (List.mem_cons_self ..)), List.map_cons, List.sum_cons]
    omega
theorem dot_map (f : Int → Int) : ∀ cs : List Int, dot cs (cs.map f) = (cs.map fun c => c * f c).sum
  | [] => rfl
  | c :: cs => by
    have ih := dot_map f cs
    unfold dot at ih ⊢
    rw [List.map_cons, List.zip_cons_cons, List.map_cons, List.sum_cons, ih, List.map_cons, List.sum_cons]
theorem dot_cnt {more vs : List Int} (hn : more.Nodup) (h : ∀ v ∈ vs, v ∈ more) : dot more (more.map fun c => DL.cnt c vs) = vs.sum := by
  rw [dot_map, cnt_sum (fun c => c) hn h]
  simp
theorem sum_cnt {more vs : List Int} (hn : more.Nodup) (h : ∀ v ∈ vs, v ∈ more) : (more.map fun c => DL.cnt c vs).sum = vs.length := by
  have := cnt_sum (fun _ => 1) hn h
  simp only [Int.one_mul] at this
  rw [this]
  clear this h
  induction vs with
  | nil => rfl
  | cons v vs ih => rw [List.map_cons, List.sum_cons, ih, List.length_cons]; omega
theorem cnt_le (c : Int) (vs : List Int) : 0 ≤ DL.cnt c vs ∧ DL.cnt c vs ≤ vs.length := by
  unfold DL.cnt
  have := List.length_filter_le (fun x => x == c) vs
  omega
theorem IsC.nodup {cs : List Int} (h : IsC cs) : cs.Nodup := h.asc.imp fun h => by omega
/-! ### dict of pairs -/
theorem p_dictP : ∀ (ks : List Int), ∃ es ks', dDictP (.list (ks.map fun k => .tuple [.int k, .bool true])) = .ok (.dict es) ∧ keysI es ks' ∧ ks'.Nodup ∧ ks'.length ≤ ks.length ∧ ∀ k, k ∈ ks' ↔ k ∈ ks := by
  have pairs : ∀ ks : List Int, pairsOf (ks.map fun k => PyData.tuple [.int k, .bool true]) = some (ks.map fun k => ((Sum.inl k : Key), PyData.bool true)) := by
    intro ks
    induction ks with
    | nil => rfl
    | cons k ks ih =>
      rw [List.map_cons]
      unfold pairsOf
      rw [ih]
      rfl
  have go : ∀ (ks : List Int) (es : List (D × D)) (ks0 : List Int), keysI es ks0 → ks0.Nodup → ∃ es' ks', mergeD es (ks.map fun k => ((Sum.inl k : Key), PyData.bool true)) = es' ∧ keysI es' ks' ∧ ks'.Nodup ∧ ks'.length ≤ ks0.length + ks.length ∧ ∀ k, k ∈ ks' ↔ k ∈ ks0 ∨ k ∈ ks := by
    intro ks
    induction ks with
    | nil => exact fun es ks0 h hn => ⟨es, ks0, rfl, h, hn, by simp, fun k => by simp⟩
    | cons k ks ih =>
      intro es ks0 h hn
      have h' := keysI_put h k (.bool true)
      have hn' : (if k ∈ ks0 then ks0 else ks0 ++ [k]).Nodup := by
        split
        · exact hn
        · rename_i hk
          exact List.nodup_append.mpr ⟨hn, by simp, fun a ha b hb => by
            simp at hb
            subst hb
            exact fun z => hk (z ▸ ha)⟩
      obtain ⟨es', ks', e, g1, g2, g3, g4⟩ := ih _ _ h' hn'
      refine ⟨es', ks', ?_, g1, g2, ?_, fun x => ?_⟩
      · rw [← e]
        rfl
      · rw [List.length_cons]
        split at g3
        · omega
        · rw [List.length_append] at g3
          simp at g3
          omega
      · rw [g4]
        split
        · rename_i hk
          simp only [List.mem_cons]
          constructor
          · rintro (z | z)
            · exact .inl z
            · exact .inr (.inr z)
          · rintro (z | rfl | z)
            · exact .inl z
            · exact .inl hk
            · exact .inr z
        · simp only [List.mem_cons, List.mem_append, List.not_mem_nil, or_false]
          constructor
          · rintro ((z | z) | z)
            · exact .inl z
            · exact .inr (.inl z)
            · exact .inr (.inr z)
          · rintro (z | z | z)
            · exact .inl (.inl z)
            · exact .inl (.inr z)
            · exact .inr z
  intro ks
  obtain ⟨es', ks', e, g1, g2, g3, g4⟩ := go ks [] [] rfl List.nodup_nil
  refine ⟨es', ks', ?_, g1, g2, by simpa using g3, fun k => by simpa using g4 k⟩
  unfold dDictP
  simp only []
  rw [pairs, x_ofO, Rs.bind_ok, e]
theorem p_sortDict {es : List (D × D)} {ks : List Int} (h : keysI es ks) (hl : ks.length < 64) : dSortA (.dict es) = .ok (.list ((isort ks).map .int)) := by
  unfold dSortA
  unfold keysI at h
  simp only [h, intsOf_map, x_ofO, Rs.bind_ok, Rs.grd_pos hl]
theorem ix_last (xs : List D) (d : D) : dIx (.list (xs ++ [d])) (.int (-1)) = .ok d ∧ dIx (.tuple (xs ++ [d])) (.int (-1)) = .ok d := by
  have : atI (xs ++ [d]) (-1) = some d := by
    unfold atI ixN
    rw [if_neg (by omega), if_pos (by simp; omega), Option.bind_some]
    rw [show ((-1 : Int) + ((xs ++ [d]).length : Nat)).toNat = xs.length by simp; omega]
    simp
  unfold dIx
  simp only []
  rw [this]
  exact ⟨rfl, rfl⟩
/-! ### lesser heaps -/
theorem alike_ints : ∀ a b : List Int, PySem.W.alikeAll (a.map .int) (b.map .int) = true
  | [], _ => by simp [PySem.W.alikeAll]
  | _ :: _, [] => by simp [PySem.W.alikeAll]
  | x :: a, y :: b => by simp [PySem.W.alikeAll, PySem.W.alike, alike_ints a b]
def lessB (a b : List Int) : Bool := PySem.W.dataLt (.tuple [.int a.sum, .tuple (a.map .int)]) (.tuple [.int b.sum, .tuple (b.map .int)])
theorem lessB_ne {a b : List Int} (h : a.sum ≠ b.sum) : lessB a b = decide (a.sum < b.sum) := by
  unfold lessB
  rw [PySem.W.dataLt_pair (by simp [PySem.W.alike]) (by simp [PySem.W.alike, alike_ints]), if_neg (by simpa [PyData.eqv] using h), PySem.W.dataLt_int]
theorem p_lessD (a b : List Int) : dOrd fLt (.tuple [.int a.sum, .tuple (a.map .int)]) (.tuple [.int b.sum, .tuple (b.map .int)]) = .ok (.bool (lessB a b)) := by
  have n2 : ∀ a : List Int, nice 2 (.tuple [.int a.sum, .tuple (a.map .int)]) := fun a => by (repeat' (first | assumption | exact an_nil _ | exact nk_int _ _ | exact nk_bool _ _ | exact nk_str _ _ | exact nk_none _ | exact an_ints _ _ | exact an_intsF _ _ _ | apply an_cons | apply an_app | apply nk_tup | apply nk_list))
  unfold dOrd fLt
  rw [Rs.grd_pos ⟨by simp [PySem.W.alike, PySem.W.alikeAll, alike_ints], by simp, (n2 a).ok (by omega), (n2 b).ok (by omega)⟩]
  rfl
theorem WR_sqP {m m' : MS} {ρ : DE} {Q : Fl × DE → Prop} (P : DE → Prop) (h : WR (m ρ) fun p => p.1 = .nx ∧ P p.2) (h' : ∀ ρ1, P ρ1 → WR (m' ρ1) Q) : WR (mSq m m' ρ) Q := by
  obtain ⟨⟨fl, ρ1⟩, e, h1, h2⟩ := h
  simp only at h1
  subst h1
  rw [x_sq, e]
  exact h' ρ1 h2
end DL
namespace DL
open PySem PySem.Spec PyProof.Rows L2 DL.Lib
/-! ### a loop over a range, by its turn -/
theorem WR_up {g : MG} {b : MS} (I : Nat → DE → Prop) (lo : Int) (n : Nat) {ρ : DE} (hs : ∀ i, i < n → ∀ ρ, I i ρ → WR (g (.int (lo + i)) ρ) fun ρ1 => WR (b ρ1) fun q => (q.1 = .nx ∨ q.1 = .ct) ∧ I (i + 1) q.2) (h0 : I 0 ρ) :
    WR (forL g b (upD lo n) ρ) fun q => q.1 = .nx ∧ I n q.2 := by
  have go : ∀ (k i : Nat) (ρ : DE), i + k = n → I i ρ → WR (forL g b ((List.range k).map fun j : Nat => .int (lo + i + j)) ρ) fun q => q.1 = .nx ∧ I n q.2 := by
    intro k
    induction k with
    | zero =>
      intro i ρ hi h
      have : i = n := by omega
      subst this
      exact ⟨_, rfl, rfl, h⟩
    | succ k ih =>
      intro i ρ hi h
      rw [List.range_succ_eq_map, List.map_cons, List.map_map]
      obtain ⟨ρ1, h1, ⟨fl, ρ2⟩, h2, h3, h4⟩ := hs i (by omega) ρ h
      unfold forL
      rw [show lo + (i : Int) + ((0 : Nat) : Int) = lo + i by omega, h1, Rs.bind_ok, h2, Rs.bind_ok]
      have ih' := ih (i + 1) ρ2 (by omega) h4
      rw [show ((List.range k).map ((fun j : Nat => PyData.int (lo + i + j)) ∘ Nat.succ)) = (List.range k).map fun j : Nat => .int (lo + ((i + 1 : Nat) : Int) + j) from List.map_congr_left fun j _ => by
        simp only [Function.comp]
        congr 1
        omega]
      rcases h3 with rfl | rfl <;> exact ih'
  have := go n 0 ρ (by omega) h0
  unfold upD
  rw [show ((List.range n).map fun k : Nat => PyData.int (lo + k)) = (List.range n).map fun j : Nat => .int (lo + ((0 : Nat) : Int) + j) from List.map_congr_left fun j _ => by simp]
  exact this
/-! ### the least of numbers -/
def minL : List Int → Int
  | [] => 0
  | x :: r => r.foldl min x
open Classical in
theorem p_min {ns : List Int} (h : ns ≠ []) : dBest PySem.W.minD (LI ns) = .ok (.int (minL ns)) := by
  cases ns with
  | nil => exact (h rfl).elim
  | cons n ns =>
    have ok : PySem.W.AlikeAll (.int n :: ns.map .int) ∧ ∀ e ∈ (PyData.int n :: ns.map .int), okD e := by
      have hi : ∀ e ∈ (PyData.int n :: ns.map .int), ∃ i : Int, e = .int i := fun e he => by
        rcases List.mem_cons.mp he with rfl | he
        · exact ⟨_, rfl⟩
        · obtain ⟨i, _, rfl⟩ := List.mem_map.mp he
          exact ⟨_, rfl⟩
      refine ⟨⟨fun x hx y hy => ?_, fun x hx => ?_⟩, fun x hx => ?_⟩
      · obtain ⟨i, rfl⟩ := hi x hx
        obtain ⟨j, rfl⟩ := hi y hy
        rfl
      · obtain ⟨i, rfl⟩ := hi x hx
        simp
      · obtain ⟨i, rfl⟩ := hi x hx
        exact ok_int i
    unfold dBest
    show (if PySem.W.AlikeAll (.int n :: ns.map .int) ∧ ∀ e ∈ (PyData.int n :: ns.map .int), okD e then Rs.ok (PySem.W.minD (.int n) (ns.map .int)) else .stuck) = _
    rw [if_pos ok, PySem.W.minD_ints]
    rfl
theorem foldl_min (x : Int) : ∀ r : List Int, r.foldl min x ≤ x ∧ (∀ y ∈ r, r.foldl min x ≤ y) ∧ (r.foldl min x = x ∨ r.foldl min x ∈ r) := by
  intro r
  induction r generalizing x with
  | nil => simp
  | cons a r ih =>
    obtain ⟨h1, h2, h3⟩ := ih (min x a)
    rw [List.foldl_cons]
    refine ⟨by omega, fun y hy => ?_, ?_⟩
    · rcases List.mem_cons.mp hy with rfl | hy
      · omega
      · exact h2 y hy
    · rcases h3 with h3 | h3
      · rw [h3]
        by_cases h : x ≤ a
        · exact .inl (by omega)
        · exact .inr (by rw [show min x a = a by omega]; exact List.mem_cons_self ..)
      · exact .inr (List.mem_cons_of_mem _ h3)
theorem minL_le {ns : List Int} {y : Int} (h : y ∈ ns) : minL ns ≤ y := by
  cases ns with
  | nil => cases h
  | cons x r =>
    rcases List.mem_cons.mp h with rfl | h
    · exact (foldl_min y r).1
    · exact (foldl_min x r).2.1 y h
theorem minL_mem {ns : List Int} (h : ns ≠ []) : minL ns ∈ ns := by
  cases ns with
  | nil => exact (h rfl).elim
  | cons x r =>
    rcases (foldl_min x r).2.2 with e | e
    · exact List.mem_cons.mpr (.inl e)
    · exact List.mem_cons_of_mem _ e
/-! ### fewest coins -/
def tab (cs : List Int) : Nat → List Int
  | 0 => [0]
  | n + 1 => tab cs n ++ [1 + minL ((cs.filter fun c => decide (c ≤ 1 + (n : Int))).map fun c => (tab cs n).getD (1 + (n : Int) - c).toNat 0)]
def best (cs : List Int) (n : Nat) : Int := (tab cs n).getD n 0
theorem tab_len (cs : List Int) : ∀ n, (tab cs n).length = n + 1
  | 0 => rfl
  | n + 1 => by simp [tab, tab_len cs n]
theorem tab_get (cs : List Int) : ∀ n k, k ≤ n → (tab cs n).getD k 0 = best cs k
  | 0, k, h => by
    have : k = 0 := by omega
    subst this
    rfl
  | n + 1, k, h => by
    by_cases e : k = n + 1
    · subst e
      rfl
    · rw [← tab_get cs n k (by omega)]
      show (tab cs n ++ [_]).getD k 0 = (tab cs n).getD k 0
      rw [List.getD_eq_getElem?_getD, List.getD_eq_getElem?_getD, List.getElem?_append_left (by rw [tab_len]; omega)]
theorem best_0 (cs : List Int) : best cs 0 = 0 := rfl
def opts (cs : List Int) (n : Nat) : List Int := (cs.filter fun c => decide (c ≤ 1 + (n : Int))).map fun c => best cs (1 + (n : Int) - c).toNat
theorem best_s {cs : List Int} (h : ∀ c ∈ cs, 1 ≤ c) (n : Nat) : best cs (n + 1) = 1 + minL (opts cs n) := by
  have e : (cs.filter fun c => decide (c ≤ 1 + (n : Int))).map (fun c => (tab cs n).getD (1 + (n : Int) - c).toNat 0) = opts cs n := by
    refine List.map_congr_left fun c hc => ?_
    have := h c (List.mem_filter.mp hc).1
    exact tab_get cs n _ (by omega)
  unfold best
  conv => lhs; unfold tab
  rw [e, List.getD_eq_getElem?_getD, List.getElem?_append_right (by rw [tab_len]; omega), tab_len]
  simp
/-- coins of which the first is 1 -/
structure IsO (cs : List Int) : Prop where
  c : IsC cs
  one : ∃ r, cs = 1 :: r
theorem IsO.mem {cs : List Int} (h : IsO cs) : (1 : Int) ∈ cs := by
  obtain ⟨r, rfl⟩ := h.one
  simp
theorem opts_ne {cs : List Int} (h : IsO cs) (n : Nat) : opts cs n ≠ [] := by
  have : best cs (1 + (n : Int) - 1).toNat ∈ opts cs n := List.mem_map.mpr ⟨1, List.mem_filter.mpr ⟨h.mem, by simp; omega⟩, rfl⟩
  exact List.ne_nil_of_mem this
theorem best_le {cs : List Int} (h : IsO cs) {c : Int} (hc : c ∈ cs) {n : Nat} (hn : c ≤ 1 + (n : Int)) : best cs (n + 1) ≤ 1 + best cs (1 + (n : Int) - c).toNat := by
  rw [best_s fun c hc => (h.c.rng c hc).1]
  have hm : best cs (1 + (n : Int) - c).toNat ∈ opts cs n := List.mem_map.mpr ⟨c, List.mem_filter.mpr ⟨hc, decide_eq_true hn⟩, rfl⟩
  have := minL_le hm
  omega
theorem best_ex {cs : List Int} (h : IsO cs) (n : Nat) : ∃ c ∈ cs, c ≤ 1 + (n : Int) ∧ best cs (n + 1) = 1 + best cs (1 + (n : Int) - c).toNat := by
  rw [best_s fun c hc => (h.c.rng c hc).1]
  have hm := minL_mem (opts_ne h n)
  generalize minL (opts cs n) = z at *
  obtain ⟨c, hc, e⟩ := List.mem_map.mp hm
  have := List.mem_filter.mp hc
  exact ⟨c, this.1, of_decide_eq_true this.2, by rw [e]⟩
theorem best_nn {cs : List Int} (h : IsO cs) : ∀ n, 0 ≤ best cs n ∧ best cs n ≤ n
  | 0 => by simp [best_0]
  | n + 1 => by
    obtain ⟨c, hc, hn, e⟩ := best_ex h n
    have c1 := (h.c.rng c hc).1
    have ih := best_nn h (1 + (n : Int) - c).toNat
    omega
/-! ### the tables -/
def fewL (cs : List Int) (n : Nat) : List D := (List.range (n + 1)).map fun k => .int (best cs k)
theorem fewL_len (cs : List Int) (n : Nat) : (fewL cs n).length = n + 1 := by simp [fewL]
theorem fewL_s (cs : List Int) (n : Nat) : fewL cs (n + 1) = fewL cs n ++ [.int (best cs (n + 1))] := by
  unfold fewL
  rw [List.range_succ, List.map_append]
  rfl
theorem fewL_ix {cs : List Int} {n : Nat} {k : Int} (h0 : 0 ≤ k) (hk : k ≤ n) : dIx (.list (fewL cs n)) (.int k) = .ok (.int (best cs k.toNat)) := by
  obtain ⟨j, rfl⟩ := Int.eq_ofNat_of_zero_le h0
  refine (ix_at ?_).1
  unfold fewL
  rw [List.getElem?_map, List.getElem?_range (by omega)]
  rfl
theorem e_fewest {cs : List Int} (h : IsO cs) {n : Nat} (hn : n ≤ 900000) : m_fewest_to [some (.val (T cs)), some (.val (.int n))] = .ok (.own (.list (fewL cs n)), [some (.val (T cs)), some (.val (.int n))]) := by
  have hl := h.c.len
  have w : WR (m_fewest_to [some (.val (T cs)), some (.val (.int n))]) fun r => r = (.own (.list (fewL cs n)), [some (.val (T cs)), some (.val (.int n))]) := by
    unfold m_fewest_to mDef b_fewest_to
    simp [i62_of (show -1000000000 ≤ (1 : Int) ∧ (1 : Int) ≤ 1000000000 by omega), i62_of (show -1000000000 ≤ (n : Int) + 1 ∧ (n : Int) + 1 ≤ 1000000000 by omega)]
    refine (WR_up (fun i ρ => ∃ x3, ρ = [some (.val (T cs)), some (.val (.int n)), some (.own (.list (fewL cs i))), x3, none]) 1 n ?_ ⟨none, rfl⟩).mono ?_
    · rintro i hi ρ ⟨x3, rfl⟩
      have e1 := lcL_ofF (g := mgName 4) (c := mTest (mBinP (dOrd fLe) 4 (mPeek 3))) (e := mBinP dIx 2 (mBinP dSub 3 (mPeek 4))) (vs := [4]) (ρ := [some (.val (T cs)), some (.val (.int n)), some (.own (.list (fewL cs i))), some (.val (.int (1 + i))), none]) (fun c : Int => .int c) (fun c => .int (best cs (1 + (i : Int) - c).toNat)) (fun c => decide (c ≤ 1 + (i : Int))) (xs := cs) fun c hc =>
        ⟨[some (.val (T cs)), some (.val (.int n)), some (.own (.list (fewL cs i))), some (.val (.int (1 + i))), some (.val (.int c))], by simp, by simp, fun hk => by
          have hk := of_decide_eq_true hk
          have := (h.c.rng c hc).1
          simp [fewL_ix (cs := cs) (n := i) (k := 1 + (i : Int) - c) (by omega) (by omega)], by simp⟩
      have e2 : (cs.filter fun c => decide (c ≤ 1 + (i : Int))).map (fun c => PyData.int (best cs (1 + (i : Int) - c).toNat)) = (opts cs i).map .int := by
        unfold opts
        rw [List.map_map]
        rfl
      rw [e2] at e1
      have e3 := p_min (opts_ne h i)
      have z1 : sz (opts cs i).length := sz_of (by
        unfold opts
        rw [List.length_map]
        exact Nat.le_trans (List.length_filter_le _ _) (by omega))
      have z2 : (fewL cs i).length ≤ 1000000 := by rw [fewL_len]; omega
      have e4 := best_s (cs := cs) (fun c hc => (h.c.rng c hc).1) i
      simp only [T] at e1 ⊢
      simp [seqD, e1, z1, z2, e3, fewL_s, e4]
    · rintro ⟨fl, ρ⟩ ⟨rfl, x3, rfl⟩
      simp
  obtain ⟨r, e, rfl⟩ := w
  exact e
theorem e_law_fewest {cs : List Int} (h : IsO cs) {n : Nat} (hn : n ≤ 900000) : m__law_fewest [some (.val (T cs)), some (.val (.int n))] = .ok (.own (.list (fewL cs n)), [some (.val (T cs)), some (.val (.int n))]) := by
  have hl := h.c.len
  have w : WR (m__law_fewest [some (.val (T cs)), some (.val (.int n))]) fun r => r = (.own (.list (fewL cs n)), [some (.val (T cs)), some (.val (.int n))]) := by
    unfold m__law_fewest mDef b__law_fewest
    simp [i62_of (show -1000000000 ≤ (1 : Int) ∧ (1 : Int) ≤ 1000000000 by omega), i62_of (show -1000000000 ≤ (n : Int) + 1 ∧ (n : Int) + 1 ≤ 1000000000 by omega)]
    refine (WR_up (fun i ρ => ∃ x3 x4, ρ = [some (.val (T cs)), some (.val (.int n)), some (.own (.list (fewL cs i))), x3, x4, none]) 1 n ?_ ⟨none, none, rfl⟩).mono ?_
    · rintro i hi ρ ⟨x3, x4, rfl⟩
      have e1 := lcL_ofF (g := mgName 5) (c := (mAndT (mTest (mBinP (dOrd fLe) 5 (mPeek 3))) (mTest (mBin (dIs true) (mBinP dIx 2 (mBinP dSub 3 (mPeek 5))) (mC .none))))) (e := mBinP dIx 2 (mBinP dSub 3 (mPeek 5))) (vs := [5]) (ρ := [some (.val (T cs)), some (.val (.int n)), some (.own (.list (fewL cs i))), some (.val (.int (1 + i))), x4, none]) (fun c : Int => .int c) (fun c => .int (best cs (1 + (i : Int) - c).toNat)) (fun c => decide (c ≤ 1 + (i : Int))) (xs := cs) fun c hc =>
        ⟨[some (.val (T cs)), some (.val (.int n)), some (.own (.list (fewL cs i))), some (.val (.int (1 + i))), x4, some (.val (.int c))], by simp, by
          have := (h.c.rng c hc).1
          by_cases hk : c ≤ 1 + (i : Int)
          · simp [hk, fewL_ix (cs := cs) (n := i) (k := 1 + (i : Int) - c) (by omega) (by omega)]
          · simp [hk], fun hk => by
          have hk := of_decide_eq_true hk
          have := (h.c.rng c hc).1
          simp [fewL_ix (cs := cs) (n := i) (k := 1 + (i : Int) - c) (by omega) (by omega)], by simp⟩
      have e2 : (cs.filter fun c => decide (c ≤ 1 + (i : Int))).map (fun c => PyData.int (best cs (1 + (i : Int) - c).toNat)) = (opts cs i).map .int := by
        unfold opts
        rw [List.map_map]
        rfl
      rw [e2] at e1
      have e3 := p_min (opts_ne h i)
      have z1 : sz (opts cs i).length := sz_of (by
        unfold opts
        rw [List.length_map]
        exact Nat.le_trans (List.length_filter_le _ _) (by omega))
      have z2 : (fewL cs i).length ≤ 1000000 := by rw [fewL_len]; omega
      have e4 := best_s (cs := cs) (fun c hc => (h.c.rng c hc).1) i
      have e5 := eq_nil (k := 1) (ds := (opts cs i).map .int) (by (repeat' (first | assumption | exact an_nil _ | exact nk_int _ _ | exact nk_bool _ _ | exact nk_str _ _ | exact nk_none _ | exact an_ints _ _ | exact an_intsF _ _ _ | apply an_cons | apply an_app | apply nk_tup | apply nk_list))) (by omega) true
      have e6 : ((opts cs i).map PyData.int).isEmpty = false := by
        have := opts_ne h i
        cases ho : opts cs i with
        | nil => exact (this ho).elim
        | cons a b => rfl
      rw [e6] at e5
      simp only [T] at e1 ⊢
      rw [Int.add_comm] at e4
      simp [seqD, e1, z1, z2, e3, e5, fewL_s, e4]
    · rintro ⟨fl, ρ⟩ ⟨rfl, x3, x4, rfl⟩
      simp
  obtain ⟨r, e, rfl⟩ := w
  exact e
end DL
namespace DL
open PySem PySem.Spec PyProof.Rows L2 DL.Lib
/-! ### sorted numbers; texts; sums of products -/
theorem WR.eq {α : Type} {r : Rs α} {b : α} (h : WR r fun a => a = b) : r = .ok b := by
  obtain ⟨a, e, rfl⟩ := h
  exact e
theorem p_sortI (ns : List Int) : dSortA (.list (ns.map .int)) = .ok (.list ((isort ns).map .int)) := by
  have ok : alikeOk (ns.map .int) := by
    have hi : ∀ d ∈ ns.map PyData.int, ∃ i : Int, d = .int i := fun d hd => by
      obtain ⟨i, _, rfl⟩ := List.mem_map.mp hd
      exact ⟨i, rfl⟩
    refine ⟨fun d hd d' hd' => ?_, .inr fun d hd => ?_, fun d hd => ?_⟩
    · obtain ⟨i, rfl⟩ := hi d hd
      obtain ⟨j, rfl⟩ := hi d' hd'
      rfl
    · obtain ⟨i, rfl⟩ := hi d hd
      exact ⟨by simp, fun xs => by simp⟩
    · obtain ⟨i, rfl⟩ := hi d hd
      exact ok_int i
  have e : sortD (ns.map PyData.int) = (isort ns).map .int := by
    unfold sortD isort
    refine (List.map_mergeSort fun a _ b _ => ?_).symm
    rw [PySem.W.dataLe_eq]
    simp only [cond_false, id, PySem.W.dataLt_int]
    rw [Bool.eq_iff_iff]
    simp only [Bool.not_eq_true', decide_eq_true_eq, decide_eq_false_iff_not]
    omega
  rw [← e]
  unfold dSortA
  split
  · rename_i es e
    cases e
  · unfold dSorted
    rw [show itemsD (.list (ns.map .int)) = some (ns.map .int) from rfl, x_ofO, Rs.bind_ok, if_pos ok]
theorem isort_mem {ns : List Int} {z : Int} : z ∈ isort ns ↔ z ∈ ns := (isort_perm ns).mem_iff
theorem isort_len (ns : List Int) : (isort ns).length = ns.length := (isort_perm ns).length_eq
theorem o_eqS (a b : Str) (neg : Bool) : dEq neg (.str a) (.str b) = .ok (.bool ((a == b) != neg)) := by
  unfold dEq
  rw [Rs.grd_pos ⟨⟨rfl, Nat.zero_le _⟩, ⟨rfl, Nat.zero_le _⟩⟩]
  simp [PyData.eqv]
theorem sz_ok {n : Nat} (h : n ≤ 1000000) : sz n := sz_of h
theorem p_dot {cs hs : List Int} (hc : ∀ c ∈ cs, -(2 ^ 64) < c ∧ c < 2 ^ 64) (hl : cs.length ≤ 1000000) (hh : hs.length ≤ 1000000) : m_sum_in [some (.val (T cs)), some (.val (T hs))] = .ok (.val (.int (dot cs hs)), [some (.val (T cs)), some (.val (T hs))]) := by
  unfold m_sum_in mDef b_sum_in
  simp
  rw [zip_map_int, lcL_of (f := fun p => .int (p.1 * p.2))]
  · simp
    rw [if_pos (sz_of (by omega))]
    have : (cs.zip hs).map (fun p => PyData.int (p.1 * p.2)) = ((cs.zip hs).map fun p => p.1 * p.2).map .int := by rw [List.map_map]; rfl
    rw [this, Rs.bind_ok, p_sumL]
    simp [dot]
  · intro p hp
    have hr := hc p.1 (List.of_mem_zip hp).1
    exact ⟨[some (.val (T cs)), some (.val (T hs)), some (.val (.int p.1)), some (.val (.int p.2))], by simp, by simp; rw [mul_ok (.inl (by omega))]; rfl, by simp⟩
theorem upD_s (a : Int) (n : Nat) : upD a (n + 1) = upD a n ++ [.int (a + n)] := by
  unfold upD
  rw [List.range_succ, List.map_append]
  rfl
theorem add_tup {a b : List D} (h : a.length + b.length ≤ 1000000) : dAdd (.tuple a) (.tuple b) = .ok (.tuple (a ++ b)) := by
  unfold dAdd
  simp only []
  rw [Rs.grd_pos (sz_of h)]
theorem add_lst {a b : List D} (h : a.length + b.length ≤ 1000000) : dAdd (.list a) (.list b) = .ok (.list (a ++ b)) := by
  unfold dAdd
  simp only []
  rw [Rs.grd_pos (sz_of h)]
theorem cat_lst {a b : List D} (h : a.length + b.length ≤ 1000000) : dCatL (.list a) (.list b) = .ok (.list (a ++ b)) := by
  unfold dCatL
  simp only []
  rw [Rs.grd_pos (sz_of h)]
theorem up_nil (a : Int) : upD a 0 = [] := rfl
theorem cut_mem {ds : List D} {lo hi : Option Int} : ∀ d ∈ DL.cutD ds lo hi, d ∈ ds := fun d hd => by
  unfold DL.cutD at hd
  exact List.mem_of_mem_drop (List.mem_of_mem_take hd)
theorem cut_len (ds : List D) (lo hi : Option Int) : (DL.cutD ds lo hi).length ≤ ds.length := by
  unfold DL.cutD
  rw [List.length_take, List.length_drop]
  omega
theorem eq_nilT {k : Nat} {ds : List D} (h : nice k (.tuple ds)) (hk : k ≤ 60) (neg : Bool) : dEq neg (.tuple ds) (.tuple []) = .ok (.bool (ds.isEmpty != neg)) := by
  unfold dEq
  rw [Rs.grd_pos ⟨h.ok hk, ⟨rfl, by decide⟩⟩]
  cases ds with
  | nil => rfl
  | cons d ds => rfl
theorem WR_def {n k : Nat} {P : List Nat} {b : MS} {ρ : DE} {Q : Slot × DE → Prop} (hn : ρ.length = n) (h : WR (b (ρ ++ List.replicate k none)) fun p => match p.1 with
    | .rt d => Q (d, backD P p.2 ρ)
    | .nx => Q (.val .none, backD P p.2 ρ)
    | _ => False) : WR (mDef n k P b ρ) Q := by
  obtain ⟨⟨fl, ρ'⟩, e, q⟩ := h
  unfold mDef
  rw [Rs.grd_pos hn, e, Rs.bind_ok]
  cases fl with
  | nx => exact ⟨_, rfl, q⟩
  | rt s => exact ⟨_, rfl, q⟩
  | _ => exact q.elim
theorem map_cut {α β : Type} (f : α → β) (ts : List α) (lo hi : Option Int) : DL.cutD (ts.map f) lo hi = (DL.cutD ts lo hi).map f := by
  unfold DL.cutD
  rw [List.length_map, List.map_take, List.map_drop]
theorem cut_tup (ds : List D) (lo hi : Option Int) : dCut lo hi (.tuple ds) = .ok (.tuple (DL.cutD ds lo hi)) := rfl
theorem cut_memA {α : Type} {ds : List α} {lo hi : Option Int} : ∀ d ∈ DL.cutD ds lo hi, d ∈ ds := fun d hd => by
  unfold DL.cutD at hd
  exact List.mem_of_mem_drop (List.mem_of_mem_take hd)
theorem cut_lenA {α : Type} (ds : List α) (lo hi : Option Int) : (DL.cutD ds lo hi).length ≤ ds.length := by
  unfold DL.cutD
  rw [List.length_take, List.length_drop]
  omega
theorem rev_tup (ds : List D) : dRev (.tuple ds) = .ok (.tuple ds.reverse) := rfl
end DL
namespace DL
open PySem PySem.Spec PyProof.Rows L2 DL.Lib
/-! ### texts in order -/
def slt (a b : Str) : Bool := decide (a.cps.toList < b.cps.toList)
def ssort (ks : List Str) : List Str := ks.mergeSort fun a b => !slt b a
theorem ssort_perm (ks : List Str) : (ssort ks).Perm ks := List.mergeSort_perm ..
theorem str_ext {a b : Str} (h : a.cps.toList = b.cps.toList) : a = b := by
  obtain ⟨⟨a⟩⟩ := a
  obtain ⟨⟨b⟩⟩ := b
  simp at h
  rw [h]
theorem slt_ne {a b : Str} (h : (!slt b a) = true) (hn : a ≠ b) : slt a b = true := by
  unfold slt at *
  simp only [Bool.not_eq_true', decide_eq_false_iff_not, decide_eq_true_eq] at *
  apply Decidable.byContradiction
  intro h2
  exact hn (str_ext (List.le_antisymm (List.not_lt.mp h) (List.not_lt.mp h2)))
theorem ssort_le (ks : List Str) : (ssort ks).Pairwise fun a b => (!slt b a) = true := by
  refine List.pairwise_mergeSort (fun a b c h1 h2 => ?_) (fun a b => ?_) ks
  · unfold slt at *
    simp only [Bool.not_eq_true', decide_eq_false_iff_not] at *
    exact List.not_lt.mpr (List.le_trans (List.not_lt.mp h1) (List.not_lt.mp h2))
  · unfold slt
    rcases List.le_total a.cps.toList b.cps.toList with h | h
    · have := List.not_lt.mpr h
      simp [this]
    · have := List.not_lt.mpr h
      simp [this]
theorem ssort_lt {ks : List Str} (h : ks.Nodup) : (ssort ks).Pairwise fun a b => slt a b = true := by
  have h2 : (ssort ks).Nodup := (ssort_perm ks).nodup_iff.mpr h
  exact (List.pairwise_and_iff.mpr ⟨ssort_le ks, h2⟩).imp fun h => slt_ne h.1 h.2
theorem p_sortS (ks : List Str) : dSortA (.list (ks.map .str)) = .ok (.list ((ssort ks).map .str)) := by
  have ok : alikeOk (ks.map .str) := by
    have hi : ∀ d ∈ ks.map PyData.str, ∃ i : Str, d = .str i := fun d hd => by
      obtain ⟨i, _, rfl⟩ := List.mem_map.mp hd
      exact ⟨i, rfl⟩
    refine ⟨fun d hd d' hd' => ?_, .inr fun d hd => ?_, fun d hd => ?_⟩
    · obtain ⟨i, rfl⟩ := hi d hd
      obtain ⟨j, rfl⟩ := hi d' hd'
      rfl
    · obtain ⟨i, rfl⟩ := hi d hd
      exact ⟨by simp, fun xs => by simp⟩
    · obtain ⟨i, rfl⟩ := hi d hd
      exact ⟨rfl, Nat.zero_le _⟩
  have e : sortD (ks.map PyData.str) = (ssort ks).map .str := by
    unfold sortD ssort
    refine (List.map_mergeSort fun a _ b _ => ?_).symm
    rw [PySem.W.dataLe_eq]
    simp only [cond_false, id, PySem.W.dataLt_str]
    rfl
  rw [← e]
  unfold dSortA
  split
  · rename_i es e
    cases e
  · unfold dSorted
    rw [show itemsD (.list (ks.map .str)) = some (ks.map .str) from rfl, x_ofO, Rs.bind_ok, if_pos ok]
theorem o_ltS (a b : Str) : dOrd fLt (.str a) (.str b) = .ok (.bool (slt a b)) := by
  unfold dOrd fLt
  rw [Rs.grd_pos ⟨rfl, (fun z => by cases z), ⟨rfl, Nat.zero_le _⟩, ⟨rfl, Nat.zero_le _⟩⟩, PySem.W.dataLt_str]
  rfl
theorem an_strs (k : Nat) (ks : List Str) : AllN k (ks.map .str) := ⟨fun d hd => by
  obtain ⟨i, _, rfl⟩ := List.mem_map.mp hd
  exact nk_str k i⟩
/-! ### names -/
def LET : Str := "abcdefghijklmnopqrstuvwxyz"
def SGN : Str := "abcdefghijklmnopqrstuvwxyz0123456789"
def fnm (z : Str) : Bool := decide (1 ≤ z.length ∧ z.length ≤ 12) && (match z.cps.toList with
  | c :: r => sIn ⟨#[c]⟩ LET && (c :: r).all fun c => sIn ⟨#[c]⟩ SGN
  | [] => false)
def fnmD : D → Bool
  | .str z => fnm z
  | _ => false
theorem len_str {z : Str} (hz : z.length ≤ 1000) : dLen (.str z) = .ok (.int z.length) := by
  unfold dLen
  simp only []
  rw [Rs.grd_pos (sz_of (by omega))]
theorem p_fits_name (z : Str) (hz : z.length ≤ 1000) : m_fits_name [some (.val (.str z))] = .ok (.val (.bool (fnm z)), [some (.val (.str z))]) := by
  have el := len_str hz
  have zl : z.cps.toList.length = z.length := rfl
  unfold m_fits_name mDef b_fits_name fnm
  by_cases h1 : 1 ≤ z.length
  · have h1' : (1 : Int) ≤ z.length := by omega
    by_cases h2 : z.length ≤ 12
    · have h2' : (z.length : Int) ≤ 12 := by omega
      cases hc : z.cps.toList with
      | nil =>
        rw [hc] at zl
        simp at zl
        omega
      | cons c r =>
        have i0 : dIx (.str z) (.int 0) = .ok (.str ⟨#[c]⟩) := by
          unfold dIx
          simp only []
          rw [Rs.grd_pos (sz_of (by omega)), hc, show atI (c :: r) 0 = some c by simp [atI, ixN]]
          rfl
        have e2 : lcL (mgName 1) mYes (mBinP (dIn false) 1 (mC (.str "abcdefghijklmnopqrstuvwxyz0123456789"))) [1] (charsD z) [some (.val (.str z)), none] = .ok ((c :: r).map fun c => .bool (sIn ⟨#[c]⟩ SGN), [some (.val (.str z)), none]) := by
          unfold charsD
          rw [hc]
          refine lcL_of _ _ fun c _ => ⟨[some (.val (.str z)), some (.val (.str ⟨#[c]⟩))], by simp, ?_, by simp⟩
          simp [dIn, SGN]
        have e3 := p_all (c :: r) fun c => sIn ⟨#[c]⟩ SGN
        have hrl : r.length + 1 ≤ 1000000 := by
          rw [hc] at zl
          simp at zl
          omega
        have d1 : dIn false (.str ⟨#[c]⟩) (.str "abcdefghijklmnopqrstuvwxyz") = .ok (.bool (sIn ⟨#[c]⟩ LET)) := by
          unfold dIn LET
          simp
        generalize hba : (c :: r).all (fun c => sIn ⟨#[c]⟩ SGN) = ba at *
        generalize hm : (c :: r).map (fun c => PyData.bool (sIn ⟨#[c]⟩ SGN)) = bl at *
        have hbl : bl.length ≤ 1000000 := by
          rw [← hm]
          simp
          omega
        cases hs : sIn ⟨#[c]⟩ LET with
        | false =>
          rw [hs] at d1
          simp [el, h1, h2, h1', h2', i0, d1, dIsi, isiD, hs]
        | true =>
          rw [hs] at d1
          simp [el, h1, h2, h1', h2', i0, d1, seqD, e2, e3, hbl, dIsi, isiD, hs]
          rw [← hba, List.all_cons]
    · have h2' : ¬ (z.length : Int) ≤ 12 := by omega
      simp [el, h1, h2, h1', h2', dIsi, isiD]
  · have h1' : ¬ (1 : Int) ≤ z.length := by omega
    simp [el, h1, h1', dIsi, isiD]
theorem p_no_name (d : D) {k : Nat} (n : nice k d) (h : ∀ z, d ≠ .str z) : m_fits_name [some (.val d)] = .ok (.val (.bool false), [some (.val d)]) := by
  unfold m_fits_name mDef b_fits_name
  have hn := n.noD
  cases d with
  | str z => exact (h z rfl).elim
  | dict es => cases hn
  | _ => simp [dIsi, isiD]
/-! ### drawn names -/
def poolA : List Str := ["a", "ab", "b", "b1", "c", "d", "e", "ear", "f", "g", "h9", "h", "i", "j", "k", "k2"]
def poolB : List Str := ["l", "m", "n", "o", "p", "q", "r", "s", "t", "u", "v", "w", "x", "z"]
def pool : List Str := poolA ++ poolB
theorem pool_nodup : pool.Nodup := by decide +kernel
theorem pool_ok : ∀ z ∈ pool, fnm z = true ∧ z.length ≤ 3 := by decide +kernel
def NamesI (many : Int) (i : Nat) (ρ : DE) : Prop := ∃ (c : D) (ks ps : List Str) (x4 : Option Slot), IsCup c ∧ ks.length = i ∧ ps.length + i = 30 ∧ ks.Nodup ∧ ps.Nodup ∧ (∀ k ∈ ks, k ∈ pool) ∧ (∀ p ∈ ps, p ∈ pool ∧ p ∉ ks) ∧
  ρ = [some (.own c), some (.val (.int many)), some (.own (.list (ps.map .str))), some (.own (.list (ks.map .str))), x4, none]
def NamesJ (many : Int) (ks ps : List Str) (x4 : Option Slot) (ρ : DE) : Prop := ∃ (c : D) (z : Str), IsCup c ∧ z ∈ ps ∧
  ρ = [some (.own c), some (.val (.int many)), some (.val (.list (ps.map .str))), some (.own (.list ((ks ++ [z]).map .str))), x4, none]
theorem names_step {some' : SM Slot} (hs : Somer some') {many : Int} (h1 : 0 ≤ many ∧ many ≤ 30) (i : Nat) (hi : i < many.toNat) (ρ : DE) (t : D) (h : NamesI many i ρ) :
    WR (mgName 4 t ρ) fun ρ1 => WR ((mSq (mApp 3 (mD (mCallO some' 0 (mCons (mVar 2) mNil)))) (mSetF 2 (mLc (mSeq (mVar 2)) (mgName 5) (mTest (mBinP (dEq true) 5 (mBinP dIx 3 (mUn dNeg (mC (.int 1)))))) (mVar 5) [5]))) ρ1) fun q => (q.1 = .nx ∨ q.1 = .ct) ∧ NamesI many (i + 1) q.2 := by
  obtain ⟨c, ks, ps, x4, hc, k1, k2, k3, k4, k5, k6, rfl⟩ := h
  refine WR.of (a := [some (.own c), some (.val (.int many)), some (.own (.list (ps.map .str))), some (.own (.list (ks.map .str))), some (.val t), none]) rfl ?_
  have hps : ps ≠ [] := fun e => by rw [e] at k2; simp at k2; omega
  refine WR_sqP (NamesJ many ks ps (some (.val t))) ?_ ?_
  · have hz : ks.length ≤ 1000000 := by omega
    simp
    refine WR_some hs hc (by simpa using hps) (by rw [List.length_map]; omega) fun d hd c1 hc1 => ?_
    obtain ⟨z, hz', rfl⟩ := List.mem_map.mp hd
    simp [hz]
    exact ⟨c1, z, hc1, hz', by simp⟩
  rintro ρ1 ⟨c1, z, hc1, hz, rfl⟩
  have e : ∀ s2 : Option Slot, lcL (mgName 5) (mTest (mBinP (dEq true) 5 (mBinP dIx 3 (mUn dNeg (mC (.int 1)))))) (mVar 5) [5] (ps.map .str) [some (.own c1), some (.val (.int many)), s2, some (.own (.list ((ks ++ [z]).map .str))), some (.val t), none] =
      .ok ((ps.filter fun x => x != z).map .str, [some (.own c1), some (.val (.int many)), s2, some (.own (.list ((ks ++ [z]).map .str))), some (.val t), none]) := by
    intro s2
    have i1 : dIx (.list ((ks ++ [z]).map .str)) (.int (-1)) = .ok (.str z) := by
      rw [List.map_append]
      exact (ix_last _ _).1
    generalize (ks ++ [z]).map PyData.str = kd at *
    refine lcL_ofF (k := fun x => x != z) (ρ := [some (.own c1), some (.val (.int many)), s2, some (.own (.list kd)), some (.val t), none]) .str .str fun x hx => ?_
    refine ⟨[some (.own c1), some (.val (.int many)), s2, some (.own (.list kd)), some (.val t), some (.val (.str x))], by simp, ?_, fun _ => by simp, by simp⟩
    have := o_eqS x z true
    simp [i1, this]
    cases hxz : x == z <;> simp [bne, hxz]
  have hl : (ps.filter fun x => x != z).length + 1 = ps.length := by
    have e3 := k4.erase_eq_filter z
    have e4 := List.length_erase_of_mem hz
    have : 0 < ps.length := List.length_pos_iff.mpr hps
    rw [← e3, e4]
    omega
  have hz2 : sz (ps.filter fun x => x != z).length := sz_of (by omega)
  simp [seqD, e, hz2, -List.map_append]
  refine ⟨c1, ks ++ [z], ps.filter fun x => x != z, _, hc1, by simp [k1], by omega, ?_, k4.filter _, fun k hk => ?_, fun p hp => ?_, rfl⟩
  · rw [List.nodup_append]
    refine ⟨k3, by simp, fun a ha b hb => ?_⟩
    rw [List.mem_singleton] at hb
    subst hb
    exact fun e => (k6 b hz).2 (e ▸ ha)
  · rcases List.mem_append.mp hk with hk | hk
    · exact k5 k hk
    · rw [List.mem_singleton] at hk
      subst hk
      exact (k6 k hz).1
  · obtain ⟨p1, p2⟩ := List.mem_filter.mp hp
    refine ⟨(k6 p p1).1, fun z' => ?_⟩
    rcases List.mem_append.mp z' with z' | z'
    · exact (k6 p p1).2 z'
    · rw [List.mem_singleton] at z'
      subst z'
      simp at p2
theorem WR_names {some' : SM Slot} (hs : Somer some') {c : D} {many : Int} {Q : Slot × DE → Prop} (hc : IsCup c) (h1 : 0 ≤ many ∧ many ≤ 30)
    (q : ∀ (ks : List Str) (c' : D), IsCup c' → (ks.length : Int) = many → (∀ k ∈ ks, k ∈ pool) → ks.Pairwise (fun a b => slt a b = true) → Q (.own (.list (ks.map .str)), [some (.own c'), some (.val (.int many))])) :
    WR (m__law_names some' [some (.own c), some (.val (.int many))]) Q := by
  refine WR_def rfl ?_
  show WR (b__law_names some' [some (.own c), some (.val (.int many)), none, none, none, none]) _
  unfold b__law_names
  refine WR_sqP (fun ρ => ρ = [some (.own c), some (.val (.int many)), some (.own (.list (poolA.map .str))), none, none, none]) ?_ ?_
  · simp [poolA]
  rintro ρ1 rfl
  have cat : dCatL (.list (poolA.map .str)) (.list (poolB.map .str)) = .ok (.list (pool.map .str)) := by
    rw [cat_lst (by decide)]
    unfold pool
    rw [List.map_append]
  refine WR_sqP (fun ρ => ρ = [some (.own c), some (.val (.int many)), some (.own (.list (pool.map .str))), none, none, none]) ?_ ?_
  · generalize poolA.map PyData.str = pa at *
    generalize pool.map PyData.str = pp at *
    simp [poolB] at cat
    simp [cat]
  rintro ρ1 rfl
  have pl : pool.length = 30 := by decide
  have pn := pool_nodup
  refine WR_sqP (fun ρ => ρ = [some (.own c), some (.val (.int many)), some (.own (.list (pool.map .str))), some (.own (.list [])), none, none]) ?_ ?_
  · simp
  rintro ρ1 rfl
  refine WR_sqP (NamesI many many.toNat) ?_ ?_
  · have h62 : i62 many := i62_of (by omega)
    simp [h62, pl]
    refine (WR_up (lo := 0) (n := many.toNat) (NamesI many) (fun i hi ρ h => names_step hs h1 i hi ρ _ h) ⟨c, [], pool, none, hc, rfl, by rw [pl], .nil, pn, by simp, fun p hp => ⟨hp, by simp⟩, rfl⟩).mono ?_
    rintro ⟨fl, ρ⟩ ⟨rfl, h⟩
    exact ⟨rfl, h⟩
  rintro ρ1 ⟨c1, ks, ps, x4, hc1, k1, k2, k3, k4, k5, k6, rfl⟩
  have st := p_sortS ks
  simp [st]
  refine q (ssort ks) c1 hc1 (by rw [(ssort_perm ks).length_eq]; omega) (fun k hk => k5 k ((ssort_perm ks).mem_iff.mp hk)) (ssort_lt k3)
end DL
namespace DL
open PySem PySem.Spec PyProof.Rows L2 DL.Lib
/-! ### divisors -/
def GI (g : Nat) (ρ : DE) : Prop := ∃ m n : Nat, Nat.gcd m n = g ∧ ρ = [some (.val (.int m)), some (.val (.int n))]
def GM (ρ : DE) : Nat := match ρ with
  | [_, some (.val (.int y))] => y.toNat
  | _ => 0
theorem gcd_turn (m n : Nat) : Nat.gcd n (m % n) = Nat.gcd m n := by
  rw [Nat.gcd_comm n, ← Nat.gcd_rec, Nat.gcd_comm]
theorem e_cd (m n : Nat) : m_common_divisor [some (.val (.int m)), some (.val (.int n))] = .ok (.val (.int (Nat.gcd m n)), [some (.val (.int m)), some (.val (.int n))]) := by
  apply WR.eq
  refine WR_def rfl ?_
  show WR (b_common_divisor [some (.val (.int m)), some (.val (.int n))]) _
  unfold b_common_divisor
  refine WR_sqP (fun ρ => ∃ y, ρ = [some (.val (.int (Nat.gcd m n))), y]) ?_ ?_
  · refine WR_wh (GI (Nat.gcd m n)) GM _ (Nat.le_refl _) ⟨m, n, rfl, rfl⟩ ?_
    rintro ρ ⟨a, b, hg, rfl⟩
    by_cases hb : 0 < b
    · have hb' : (0 : Int) < b := by omega
      have hm := o_mod (a := (a : Int)) hb'
      have e1 : (a : Int) % (b : Int) = ((a % b : Nat) : Int) := rfl
      rw [e1] at hm
      simp [hb', hm, hb]
      refine ⟨⟨b, a % b, by rw [gcd_turn, hg], rfl⟩, ?_⟩
      have := Nat.mod_lt a hb
      simp only [GM]
      omega
    · have hb0 : b = 0 := by omega
      subst hb0
      simp at hg ⊢
      rw [hg]
  rintro ρ1 ⟨y, rfl⟩
  simp
def lowD (n o : Nat) : D := .tuple [.int ((n : Int) / (Nat.gcd o n : Int)), .int ((o : Int) / (Nat.gcd o n : Int))]
theorem gcd_rng {n o : Nat} (h0 : 0 < o) (h : o < 2 ^ 199) : (0 : Int) < (Nat.gcd o n : Int) ∧ (Nat.gcd o n : Int) < 2 ^ 200 := by
  have h1 := Nat.gcd_pos_of_pos_left n h0
  have h2 := Nat.gcd_le_left n h0
  have : (2 : Nat) ^ 199 < 2 ^ 200 := by decide
  have h3 : Nat.gcd o n < 2 ^ 200 := by omega
  constructor
  · omega
  · exact_mod_cast h3
theorem abs_nat (n : Nat) : dAbs (.int (n : Int)) = .ok (.int (n : Int)) := by
  rw [o_abs, if_neg (by omega)]
theorem e_low (n o : Nat) (h0 : 0 < o) (h : o < 2 ^ 199) : m_lowered [some (.val (.int n)), some (.val (.int o))] = .ok (.val (lowD n o), [some (.val (.int n)), some (.val (.int o))]) := by
  have g := gcd_rng (n := n) h0 h
  have e1 := e_cd o n
  have e2 := abs_nat n
  have e3 := o_fdiv (a := (n : Int)) g.1 g.2
  have e4 := o_fdiv (a := (o : Int)) g.1 g.2
  unfold m_lowered mDef b_lowered lowD
  generalize ((Nat.gcd o n : Nat) : Int) = k at *
  simp [e1, e2, e3, e4, -o_abs]
def GJ (g n o : Nat) (ρ : DE) : Prop := ∃ a b : Nat, Nat.gcd a b = g ∧ ρ = [some (.val (.int n)), some (.val (.int o)), some (.val (.int a)), some (.val (.int b))]
def GN (ρ : DE) : Nat := match ρ with
  | [_, _, _, some (.val (.int y))] => y.toNat
  | _ => 0
theorem e_law_low (n o : Nat) (h0 : 0 < o) (h : o < 2 ^ 199) : m__law_lowered [some (.val (.int n)), some (.val (.int o))] = .ok (.val (lowD n o), [some (.val (.int n)), some (.val (.int o))]) := by
  have g := gcd_rng (n := n) h0 h
  have e2 := abs_nat n
  apply WR.eq
  refine WR_def rfl ?_
  show WR (b__law_lowered [some (.val (.int n)), some (.val (.int o)), none, none]) _
  unfold b__law_lowered
  refine WR_sqP (fun ρ => ρ = [some (.val (.int n)), some (.val (.int o)), some (.val (.int n)), some (.val (.int o))]) ?_ ?_
  · simp [e2, -o_abs]
  rintro ρ1 rfl
  refine WR_sqP (fun ρ => ∃ y, ρ = [some (.val (.int n)), some (.val (.int o)), some (.val (.int (Nat.gcd o n))), y]) ?_ ?_
  · refine WR_wh (GJ (Nat.gcd o n) n o) GN _ (Nat.le_refl _) ⟨n, o, Nat.gcd_comm n o, rfl⟩ ?_
    rintro ρ ⟨a, b, hg, rfl⟩
    by_cases hb : 0 < b
    · have hb' : (0 : Int) < b := by omega
      have hm := o_mod (a := (a : Int)) hb'
      have e1 : (a : Int) % (b : Int) = ((a % b : Nat) : Int) := rfl
      rw [e1] at hm
      simp [hb', hm, hb]
      refine ⟨⟨b, a % b, by rw [gcd_turn, hg], rfl⟩, ?_⟩
      have := Nat.mod_lt a hb
      simp only [GN]
      omega
    · have hb0 : b = 0 := by omega
      subst hb0
      simp at hg ⊢
      rw [hg]
  rintro ρ1 ⟨y, rfl⟩
  have e3 := o_fdiv (a := (n : Int)) g.1 g.2
  have e4 := o_fdiv (a := (o : Int)) g.1 g.2
  unfold lowD
  generalize ((Nat.gcd o n : Nat) : Int) = k at *
  simp [e3, e4]
/-! ### ingots -/
structure Ing where
  n : Str
  w : Int
  p : List Int
def ingD (i : Ing) : D := .tuple [.str i.n, .int i.w, T i.p]
structure IsIng (m : Nat) (i : Ing) : Prop where
  nm : fnm i.n = true
  nl : i.n.length ≤ 1000
  w : 1 ≤ i.w ∧ i.w ≤ 1000
  pl : i.p.length = m
  pr : ∀ z ∈ i.p, 0 ≤ z ∧ z ≤ 1000
  ps : i.p.sum = 1000
structure IsIngs (m : Nat) (is : List Ing) : Prop where
  mm : 1 ≤ m ∧ m ≤ 4
  len : 1 ≤ is.length ∧ is.length ≤ 8
  all : ∀ i ∈ is, IsIng m i
  asc : (is.map (·.n)).Pairwise fun a b => slt a b = true
abbrev TI (is : List Ing) : D := .tuple (is.map ingD)
theorem ing0 (i : Ing) : dIx (ingD i) (.int 0) = .ok (.str i.n) := rfl
theorem ing1 (i : Ing) : dIx (ingD i) (.int 1) = .ok (.int i.w) := rfl
theorem ing2 (i : Ing) : dIx (ingD i) (.int 2) = .ok (T i.p) := rfl
theorem ing_nice (i : Ing) : nice 2 (ingD i) := by
  unfold ingD
  (repeat' (first | assumption | exact an_nil _ | exact nk_int _ _ | exact nk_bool _ _ | exact nk_str _ _ | exact nk_none _ | exact an_ints _ _ | exact an_intsF _ _ _ | apply an_cons | apply an_app | apply nk_tup | apply nk_list))
theorem ings_an (is : List Ing) : AllN 2 (is.map ingD) := ⟨fun d hd => by
  obtain ⟨t, _, rfl⟩ := List.mem_map.mp hd
  exact ing_nice t⟩
theorem g_parts {m : Nat} {i : Ing} (hm : 1 ≤ m ∧ m ≤ 4) (h : IsIng m i) : m_fits_parts [some (.val (T i.p))] = .ok (.val (.bool true), [some (.val (T i.p))]) := by
  have hl := h.pl
  have ht : isTup 1 4 (T i.p) = true := by simp [isTup]; omega
  have hz : sz i.p.length := sz_of (by omega)
  have e : lcL (mgName 1) mYes (mD (mCall m_fits_whole (mCons (mVar 1) (mCons (mC (.int 0)) (mCons (mC (.int 1000)) mNil))))) [1] (i.p.map .int) [some (.val (T i.p)), none] = .ok (i.p.map fun z => .bool (fitsW 0 1000 (.int z)), [some (.val (T i.p)), none]) :=
    lcL_of _ _ fun z hz => ⟨[some (.val (T i.p)), some (.val (.int z))], by simp, by simp, by simp⟩
  have ha : i.p.all (fun z => fitsW 0 1000 (.int z)) = true := by
    rw [List.all_eq_true]
    intro z hz
    have := h.pr z hz
    simp [fitsW]
    omega
  have hs := p_sumT i.p
  rw [h.ps] at hs
  unfold m_fits_parts mDef b_fits_parts
  simp [ht, seqD, e, hz, p_all, ha, -List.all_eq_true, hs]
theorem g_ingot {m : Nat} {i : Ing} (hm : 1 ≤ m ∧ m ≤ 4) (h : IsIng m i) : m_fits_ingot [some (.val (ingD i))] = .ok (.val (.bool true), [some (.val (ingD i))]) := by
  have e0 := ing0 i
  have e1 := ing1 i
  have e2 := ing2 i
  have ht : isTup 3 3 (ingD i) = true := by simp [isTup, ingD]
  have hn := (ing_nice i).noD
  have f0 := p_fits_name i.n h.nl
  rw [h.nm] at f0
  have f2 := g_parts hm h
  have f1 : fitsW 1 1000 (.int i.w) = true := by
    have := h.w
    simp [fitsW]
    omega
  unfold m_fits_ingot mDef b_fits_ingot
  generalize ingD i = d at *
  simp [e0, e1, e2, ht, hn, f0, f1, f2]
theorem zip_map_str (a b : List Str) : zipD (a.map .str) (b.map .str) = (a.zip b).map fun p => .tuple [.str p.1, .str p.2] := by
  unfold zipD
  rw [List.zip_map, List.map_map]
  rfl
theorem rise_str {ks : List Str} (h : ks.Pairwise fun a b => slt a b = true) : (ks.zip ks.tail).all (fun p => slt p.1 p.2) = true := by
  induction ks with
  | nil => rfl
  | cons a cs ih =>
    cases cs with
    | nil => rfl
    | cons b cs =>
      have h2 := List.pairwise_cons.mp h
      have := ih h2.2
      simp only [List.tail_cons, List.zip_cons_cons, List.all_cons, Bool.and_eq_true] at this ⊢
      exact ⟨h2.1 b (List.mem_cons_self ..), this⟩
theorem p_rising_str (ks : List Str) (h : ks.length ≤ 1000000) : m_is_rising [some (.val (.list (ks.map .str)))] = .ok (.val (.bool ((ks.zip ks.tail).all fun p => slt p.1 p.2)), [some (.val (.list (ks.map .str)))]) := by
  unfold m_is_rising mDef b_is_rising
  simp [dCut, cut_tail]
  rw [← List.map_tail, zip_map_str, lcL_of (f := fun p => .bool (slt p.1 p.2))]
  · simp
    rw [if_pos (sz_of (by omega))]
    simp [p_all]
  · intro p hp
    exact ⟨[some (.val (.list (ks.map .str))), some (.val (.str p.1)), some (.val (.str p.2))], by simp, by simp [o_ltS], by simp⟩
theorem setN_const {m : Int} : ∀ {ns : List Int}, ns ≠ [] → (∀ z ∈ ns, z = m) → setN ns = 1
  | [], h, _ => (h rfl).elim
  | n :: ns, _, h => by
    have go : ∀ ns : List Int, (∀ z ∈ ns, z = m) → ns.foldl step_dedup [m] = [m] := by
      intro ns
      induction ns with
      | nil => exact fun _ => rfl
      | cons a r ih =>
        intro h
        rw [List.foldl_cons, h a (List.mem_cons_self ..)]
        have : step_dedup [m] m = [m] := by simp [step_dedup]
        rw [this]
        exact ih fun z hz => h z (List.mem_cons_of_mem _ hz)
    unfold setN
    rw [List.foldl_cons, h n (List.mem_cons_self ..)]
    have : step_dedup [] m = [m] := by simp [step_dedup]
    rw [this, go ns fun z hz => h z (List.mem_cons_of_mem _ hz)]
    rfl
theorem g_ingots {m : Nat} {is : List Ing} (h : IsIngs m is) : m_fits_ingots [some (.val (TI is))] = .ok (.val (.bool true), [some (.val (TI is))]) := by
  have hl := h.len
  have ht : isTup 1 8 (TI is) = true := by simp [isTup]; omega
  have hz : sz is.length := sz_of (by omega)
  have e : lcL (mgName 1) mYes (mD (mCall m_fits_ingot (mCons (mVar 1) mNil))) [1] (is.map ingD) [some (.val (TI is)), none] = .ok (is.map fun _ => .bool true, [some (.val (TI is)), none]) :=
    lcL_of ingD (fun _ => .bool true) fun i hi => ⟨[some (.val (TI is)), some (.val (ingD i))], by simp, by simp [g_ingot h.mm (h.all i hi)], by simp⟩
  have ha : dAll (.list (is.map fun _ => .bool true)) = .ok (.bool true) := by
    rw [p_all is fun _ => true]
    simp
  have e2 : lcL (mgName 1) mYes (mBinP dIx 1 (mC (.int 0))) [1] (is.map ingD) [some (.val (TI is)), none] = .ok (is.map fun i => .str i.n, [some (.val (TI is)), none]) :=
    lcL_of ingD (fun i => .str i.n) fun i hi => ⟨[some (.val (TI is)), some (.val (ingD i))], by simp, by simp [ing0], by simp⟩
  have m2 : (is.map fun i => PyData.str i.n) = (is.map (·.n)).map .str := by rw [List.map_map]; rfl
  rw [m2] at e2
  have r := p_rising_str (is.map (·.n)) (by rw [List.length_map]; omega)
  rw [rise_str h.asc] at r
  have e3 : lcL (mgName 1) mYes (mUn dLen (mBinP dIx 1 (mC (.int 2)))) [1] (is.map ingD) [some (.val (TI is)), none] = .ok (is.map fun i => .int (i.p.length : Int), [some (.val (TI is)), none]) :=
    lcL_of ingD (fun i => .int (i.p.length : Int)) fun i hi => ⟨[some (.val (TI is)), some (.val (ingD i))], by simp, by simp [ing2], by simp⟩
  have m3 : (is.map fun i => PyData.int (i.p.length : Int)) = (is.map fun i => (i.p.length : Int)).map .int := by rw [List.map_map]; rfl
  rw [m3] at e3
  have sn : setN (is.map fun i => (i.p.length : Int)) = 1 := by
    refine setN_const (m := (m : Int)) (fun z => ?_) fun z hz => ?_
    · rw [List.map_eq_nil_iff] at z
      rw [z] at hl
      simp at hl
    · obtain ⟨i, hi, rfl⟩ := List.mem_map.mp hz
      rw [(h.all i hi).pl]
  have z3 : is.length ≤ 4000 := by omega
  have zi : (is.map fun i => (i.p.length : Int)).length = is.length := List.length_map ..
  have zn : (is.map (·.n)).length = is.length := List.length_map ..
  have ls : dLenSet (.list ((is.map fun i => (i.p.length : Int)).map .int)) = .ok (.int 1) := by
    rw [x_lenSet, intsOf_map]
    simp [z3, sn]
  have zs : sz ((is.map (·.n)).map PyData.str).length := sz_of (by simp; omega)
  have zs3 : sz ((is.map fun i => (i.p.length : Int)).map PyData.int).length := sz_of (by simp; omega)
  unfold m_fits_ingots mDef b_fits_ingots
  unfold TI at *
  generalize (is.map (·.n)).map PyData.str = k1 at *
  generalize (is.map fun i => (i.p.length : Int)).map PyData.int = k2 at *
  simp [ht, seqD, e, hz, ha, e2, r, e3, ls, zs, zs3, -x_lenSet]
theorem g_need_ingots {m : Nat} {is : List Ing} (h : IsIngs m is) : m_need_ingots [some (.val (TI is))] = .ok (.val .none, [some (.val (TI is))]) := by
  unfold m_need_ingots mDef b_need_ingots
  simp [g_ingots h]
end DL
namespace DL
open PySem PySem.Spec PyProof.Rows L2 DL.Lib
/-! ### bounds -/
def bdD (b : Int × Int) : D := .tuple [.int b.1, .int b.2]
structure IsB (m : Nat) (bs : List (Int × Int)) : Prop where
  len : bs.length = m
  rng : ∀ b ∈ bs, 0 ≤ b.1 ∧ b.1 ≤ b.2 ∧ b.2 ≤ 1000
abbrev TB (bs : List (Int × Int)) : D := .tuple (bs.map bdD)
theorem bd0 (b : Int × Int) : dIx (bdD b) (.int 0) = .ok (.int b.1) := rfl
theorem bd1 (b : Int × Int) : dIx (bdD b) (.int 1) = .ok (.int b.2) := rfl
theorem ing_head {m : Nat} {is : List Ing} (h : IsIngs m is) : ∃ i0 ∈ is, dIx (TI is) (.int 0) = .ok (ingD i0) := by
  have hl := h.len
  refine ⟨is[0]'(by omega), List.getElem_mem _, ?_⟩
  have := (ix_at (ds := is.map ingD) (i := 0) (d := ingD (is[0]'(by omega))) (by rw [List.getElem?_map, List.getElem?_eq_getElem (by omega)]; rfl)).2
  simpa using this
theorem many_metals {m : Nat} {is : List Ing} (h : IsIngs m is) : ∃ d p, dIx (TI is) (.int 0) = .ok d ∧ dIx d (.int 2) = .ok (T p) ∧ p.length = m := by
  obtain ⟨i0, h0, e⟩ := ing_head h
  exact ⟨_, _, e, ing2 i0, (h.all i0 h0).pl⟩
theorem bd_noD (b : Int × Int) : noD (bdD b) = true := by
  unfold bdD
  simp
theorem g_bounds {m : Nat} {is : List Ing} {bs : List (Int × Int)} (h : IsIngs m is) (hb : IsB m bs) : m_fits_bounds [some (.val (TI is)), some (.val (TB bs))] = .ok (.val (.bool true), [some (.val (TI is)), some (.val (TB bs))]) := by
  obtain ⟨d0, p0, e0, e1, e2⟩ := many_metals h
  have hm := h.mm
  have hl := hb.len
  have ht : isTup m m (TB bs) = true := by simp [isTup, hl]
  have hz : sz bs.length := sz_of (by omega)
  have e3 : ∀ x2 : Option Slot, lcL (mgName 3) mYes (mD (mCall m_is_tuple_of (mCons (mVar 3) (mCons (mC (.int 2)) (mCons (mC (.int 2)) mNil))))) [3] (bs.map bdD) [some (.val (TI is)), some (.val (TB bs)), x2, none] = .ok (bs.map fun _ => .bool true, [some (.val (TI is)), some (.val (TB bs)), x2, none]) := fun x2 => by
    refine lcL_of bdD (fun _ => .bool true) fun b hb' => ⟨[some (.val (TI is)), some (.val (TB bs)), x2, some (.val (bdD b))], by simp, ?_, by simp⟩
    have h1 : isTup 2 2 (bdD b) = true := by simp [isTup, bdD]
    simp [bd_noD, h1]
  have a3 : dAll (.list (bs.map fun _ => .bool true)) = .ok (.bool true) := by
    rw [p_all bs fun _ => true]
    simp
  have e4 : ∀ x2 : Option Slot, lcL (mgName 3) mYes (mAnd (mD (mCall m_fits_whole (mCons (mBinP dIx 3 (mC (.int 0))) (mCons (mC (.int 0)) (mCons (mC (.int 1000)) mNil))))) (mD (mCall m_fits_whole (mCons (mBinP dIx 3 (mC (.int 1))) (mCons (mBinP dIx 3 (mC (.int 0))) (mCons (mC (.int 1000)) mNil)))))) [3] (bs.map bdD) [some (.val (TI is)), some (.val (TB bs)), x2, none] = .ok (bs.map fun _ => .bool true, [some (.val (TI is)), some (.val (TB bs)), x2, none]) := fun x2 => by
    refine lcL_of bdD (fun _ => .bool true) fun b hb' => ⟨[some (.val (TI is)), some (.val (TB bs)), x2, some (.val (bdD b))], by simp, ?_, by simp⟩
    have r := hb.rng b hb'
    have f0 : fitsW 0 1000 (.int b.1) = true := by simp [fitsW]; omega
    have f1 : fitsW b.1 1000 (.int b.2) = true := by simp [fitsW]; omega
    simp [bd0, bd1, f0, f1]
  unfold m_fits_bounds mDef b_fits_bounds
  generalize hTI : TI is = ti at *
  simp [e0, e1, e2, ht, seqD, e3, hz, a3, e4]
theorem g_need_bounds {m : Nat} {is : List Ing} {bs : List (Int × Int)} (h : IsIngs m is) (hb : IsB m bs) : m_need_bounds [some (.val (TI is)), some (.val (TB bs))] = .ok (.val .none, [some (.val (TI is)), some (.val (TB bs))]) := by
  unfold m_need_bounds mDef b_need_bounds
  simp [g_bounds h hb]
/-! ### mixtures -/
structure IsX (is : List Ing) (w : Int) (as : List Int) : Prop where
  ww : 1 ≤ w
  len : as.length = is.length
  rng : ∀ p ∈ as.zip is, 0 ≤ p.1 ∧ p.1 ≤ w * p.2.w
  pos : 0 < as.sum
abbrev mixD (w : Int) (as : List Int) : D := .tuple [.int w, T as]
theorem mix0 (w : Int) (as : List Int) : dIx (mixD w as) (.int 0) = .ok (.int w) := rfl
theorem mix1 (w : Int) (as : List Int) : dIx (mixD w as) (.int 1) = .ok (T as) := rfl
theorem zip_map2 {α β : Type} (f : α → D) (g : β → D) (a : List α) (b : List β) : zipD (a.map f) (b.map g) = (a.zip b).map fun p => .tuple [f p.1, g p.2] := by
  unfold zipD
  rw [List.zip_map, List.map_map]
  rfl
theorem g_mixture {m : Nat} {is : List Ing} {w : Int} {as : List Int} (h : IsIngs m is) (hx : IsX is w as) : m_fits_mixture [some (.val (TI is)), some (.val (mixD w as))] = .ok (.val (.bool true), [some (.val (TI is)), some (.val (mixD w as))]) := by
  have hl := h.len
  have hal := hx.len
  have hw := hx.ww
  have ht : isTup 2 2 (mixD w as) = true := by simp [isTup]
  have hn : noD (mixD w as) = true := by simp
  have ht2 : isTup is.length is.length (T as) = true := by simp [isTup, hal]
  have hz : sz as.length := sz_of (by omega)
  have m0 := mix0 w as
  have m1 := mix1 w as
  have hs := p_sumT as
  have hp := hx.pos
  generalize hmd : mixD w as = md at *
  have e1 : lcL (mgName 2) mYes (mD (mCall m_is_whole (mCons (mVar 2) mNil))) [2] (as.map .int) [some (.val (TI is)), some (.val md), none, none] = .ok (as.map fun _ => .bool true, [some (.val (TI is)), some (.val md), none, none]) :=
    lcL_of _ _ fun z hz => ⟨[some (.val (TI is)), some (.val md), some (.val (.int z)), none], by simp, by simp [isW], by simp⟩
  have a1 : dAll (.list (as.map fun _ => .bool true)) = .ok (.bool true) := by
    rw [p_all as fun _ => true]
    simp
  have e2 : lcL (mgTup 2 (mgCons (mgName 2) (mgCons (mgName 3) mgNil))) mYes (mChain (dOrd fLe) (dOrd fLe) (mC (.int 0)) (mVar 2) (mBin dMul (mBinP dIx 1 (mC (.int 0))) (mBinP dIx 3 (mC (.int 1))))) [2, 3] ((as.zip is).map fun p => .tuple [.int p.1, ingD p.2]) [some (.val (TI is)), some (.val md), none, none] =
      .ok ((as.zip is).map fun _ => .bool true, [some (.val (TI is)), some (.val md), none, none]) := by
    refine lcL_of (fun p : Int × Ing => .tuple [.int p.1, ingD p.2]) (fun _ => .bool true) fun p hp => ⟨[some (.val (TI is)), some (.val md), some (.val (.int p.1)), some (.val (ingD p.2))], by simp, ?_, by simp⟩
    have r := hx.rng p hp
    have hi := (h.all p.2 (List.of_mem_zip hp).2).w
    have mu : dMul (.int w) (.int p.2.w) = .ok (.int (w * p.2.w)) := mul_ok (.inr (by omega))
    simp [m0, ing1, mu, r.1, r.2]
  have a2 : dAll (.list ((as.zip is).map fun _ => .bool true)) = .ok (.bool true) := by
    rw [p_all (as.zip is) fun _ => true]
    simp
  have hz2 : sz (as.zip is).length := sz_of (by rw [List.length_zip]; omega)
  have zm := zip_map2 PyData.int ingD as is
  unfold m_fits_mixture mDef b_fits_mixture
  simp [ht, hn, m0, m1, isW, hw, show ¬ w < 1 by omega, ht2, seqD, e1, hz, a1, hs, hp, zm, e2, a2]
  rw [if_pos (sz_of (by omega))]
  simp [a2]
theorem g_need_mixture {m : Nat} {is : List Ing} {w : Int} {as : List Int} (h : IsIngs m is) (hx : IsX is w as) : m_need_mixture [some (.val (TI is)), some (.val (mixD w as))] = .ok (.val .none, [some (.val (TI is)), some (.val (mixD w as))]) := by
  unfold m_need_mixture mDef b_need_mixture
  simp [g_mixture h hx]
/-! ### metals -/
def metalAt (is : List Ing) (as : List Int) (k : Nat) : Int := ((as.zip is).map fun p => p.1 * p.2.p.getD k 0).sum
def metal (m : Nat) (is : List Ing) (as : List Int) : List Int := (List.range m).map (metalAt is as)
theorem metal_len (m : Nat) (is : List Ing) (as : List Int) : (metal m is as).length = m := by simp [metal]
theorem part_ix {m : Nat} {i : Ing} (h : IsIng m i) {k : Nat} (hk : k < m) : dIx (T i.p) (.int k) = .ok (.int (i.p.getD k 0)) := by
  have hl := h.pl
  refine (ix_at (ds := i.p.map .int) (i := k) (d := .int (i.p.getD k 0)) ?_).2
  rw [List.getElem?_map, List.getElem?_eq_getElem (by omega), List.getD_eq_getElem?_getD, List.getElem?_eq_getElem (by omega)]
  rfl
theorem part_rng {m : Nat} {i : Ing} (h : IsIng m i) {k : Nat} (hk : k < m) : 0 ≤ i.p.getD k 0 ∧ i.p.getD k 0 ≤ 1000 := by
  have hl := h.pl
  rw [List.getD_eq_getElem?_getD, List.getElem?_eq_getElem (by omega)]
  exact h.pr _ (List.getElem_mem _)
theorem e_metal {m : Nat} {is : List Ing} {as : List Int} (h : IsIngs m is) (hl : as.length ≤ 1000) : m_metal_in [some (.val (TI is)), some (.val (T as))] = .ok (.own (LI (metal m is as)), [some (.val (TI is)), some (.val (T as))]) := by
  obtain ⟨d0, p0, e0, e1, e2⟩ := many_metals h
  have hm := h.mm
  have zm := zip_map2 PyData.int ingD as is
  have hz2 : (as.zip is).length ≤ 1000000 := by rw [List.length_zip]; omega
  have inner : ∀ k, k < m → lcL (mgTup 2 (mgCons (mgName 2) (mgCons (mgName 3) mgNil))) mYes (mBinP dMul 2 (mBin dIx (mBinP dIx 3 (mC (.int 2))) (mPeek 4))) [2, 3] ((as.zip is).map fun p => .tuple [.int p.1, ingD p.2]) [some (.val (TI is)), some (.val (T as)), none, none, some (.val (.int k))] =
      .ok ((as.zip is).map fun p => .int (p.1 * p.2.p.getD k 0), [some (.val (TI is)), some (.val (T as)), none, none, some (.val (.int k))]) := fun k hk => by
    refine lcL_of (fun p : Int × Ing => .tuple [.int p.1, ingD p.2]) (fun p => .int (p.1 * p.2.p.getD k 0)) fun p hp => ⟨[some (.val (TI is)), some (.val (T as)), some (.val (.int p.1)), some (.val (ingD p.2)), some (.val (.int k))], by simp, ?_, by simp⟩
    have hi := h.all p.2 (List.of_mem_zip hp).2
    have r := part_rng hi hk
    have mu : dMul (.int p.1) (.int (p.2.p.getD k 0)) = .ok (.int (p.1 * p.2.p.getD k 0)) := mul_ok (.inr (by omega))
    simp only [x_binP, x_peek]
    simp [ing2, part_ix hi hk, mu, -List.getD_eq_getElem?_getD]
  have outer : lcL (mgName 4) mYes (mUn dSum (mLc (mZip (mVar 1) (mVar 0)) (mgTup 2 (mgCons (mgName 2) (mgCons (mgName 3) mgNil))) mYes (mBinP dMul 2 (mBin dIx (mBinP dIx 3 (mC (.int 2))) (mPeek 4))) [2, 3])) [4] (upD 0 m) [some (.val (TI is)), some (.val (T as)), none, none, none] =
      .ok ((List.range m).map fun k => .int (metalAt is as k), [some (.val (TI is)), some (.val (T as)), none, none, none]) := by
    rw [upD0]
    refine lcL_of (fun k : Nat => .int k) (fun k => .int (metalAt is as k)) fun k hk => ⟨[some (.val (TI is)), some (.val (T as)), none, none, some (.val (.int k))], by simp, ?_, by simp⟩
    have hk' : k < m := List.mem_range.mp hk
    have hs := p_sumL ((as.zip is).map fun p => p.1 * p.2.p.getD k 0)
    have hmm : ((as.zip is).map fun p => p.1 * p.2.p.getD k 0).map PyData.int = (as.zip is).map fun p => .int (p.1 * p.2.p.getD k 0) := by rw [List.map_map]; rfl
    unfold LI at hs
    rw [hmm] at hs
    have inn := inner k hk'
    have hz3 : sz ((as.zip is).map fun p => PyData.int (p.1 * p.2.p.getD k 0)).length := sz_of (by rw [List.length_map]; exact hz2)
    unfold metalAt
    generalize (as.zip is).map (fun p => PyData.int (p.1 * p.2.p.getD k 0)) = zl at *
    simp [zm, inn, hz3, hs, -List.getD_eq_getElem?_getD]
  have h62 : i62 (m : Int) := i62_of (by omega)
  have hz4 : m ≤ 1000000 := by omega
  have hmm : (metal m is as).map PyData.int = (List.range m).map fun k => .int (metalAt is as k) := by unfold metal; rw [List.map_map]; rfl
  unfold m_metal_in mDef b_metal_in LI
  rw [hmm]
  generalize TI is = ti at *
  simp [e0, e1, e2, h62, outer, hz4]
end DL
namespace DL
open PySem PySem.Spec PyProof.Rows L2 DL.Lib
/-! ### the law's own metals, and what is kept -/
def MetI (m : Nat) (is : List Ing) (as : List Int) (i : Nat) (ρ : DE) : Prop := ∃ x3, ρ = [some (.val (TI is)), some (.val (T as)), some (.own (.list ((List.range i).map fun k => .int (metalAt is as k)))), x3, none, none]
theorem e_law_metal {m : Nat} {is : List Ing} {as : List Int} (h : IsIngs m is) (hl : as.length ≤ 1000) : m__law_metal [some (.val (TI is)), some (.val (T as))] = .ok (.own (LI (metal m is as)), [some (.val (TI is)), some (.val (T as))]) := by
  obtain ⟨d0, p0, e0, e1, e2⟩ := many_metals h
  have hm := h.mm
  have zm := zip_map2 PyData.int ingD as is
  have hz2 : (as.zip is).length ≤ 1000000 := by rw [List.length_zip]; omega
  have inner : ∀ k, k < m → ∀ x2 : Option Slot, lcL (mgTup 2 (mgCons (mgName 4) (mgCons (mgName 5) mgNil))) mYes (mBinP dMul 4 (mBin dIx (mBinP dIx 5 (mC (.int 2))) (mPeek 3))) [4, 5] ((as.zip is).map fun p => .tuple [.int p.1, ingD p.2]) [some (.val (TI is)), some (.val (T as)), x2, some (.val (.int k)), none, none] =
      .ok ((as.zip is).map fun p => .int (p.1 * p.2.p.getD k 0), [some (.val (TI is)), some (.val (T as)), x2, some (.val (.int k)), none, none]) := fun k hk x2 => by
    refine lcL_of (fun p : Int × Ing => .tuple [.int p.1, ingD p.2]) (fun p => .int (p.1 * p.2.p.getD k 0)) fun p hp => ⟨[some (.val (TI is)), some (.val (T as)), x2, some (.val (.int k)), some (.val (.int p.1)), some (.val (ingD p.2))], by simp, ?_, by simp⟩
    have hi := h.all p.2 (List.of_mem_zip hp).2
    have r := part_rng hi hk
    have mu : dMul (.int p.1) (.int (p.2.p.getD k 0)) = .ok (.int (p.1 * p.2.p.getD k 0)) := mul_ok (.inr (by omega))
    simp only [x_binP, x_peek]
    simp [ing2, part_ix hi hk, mu, -List.getD_eq_getElem?_getD]
  have h62 : i62 (m : Int) := i62_of (by omega)
  have hmm : (metal m is as).map PyData.int = (List.range m).map fun k => .int (metalAt is as k) := by unfold metal; rw [List.map_map]; rfl
  apply WR.eq
  refine WR_def rfl ?_
  show WR (b__law_metal [some (.val (TI is)), some (.val (T as)), none, none, none, none]) _
  unfold b__law_metal
  refine WR_sqP (MetI m is as 0) ?_ ?_
  · simp
    exact ⟨_, rfl⟩
  rintro ρ1 ⟨x3, rfl⟩
  refine WR_sqP (MetI m is as m) ?_ ?_
  · have go : WR (forL (mgName 3) (mApp 2 (mUn dSum (mLc (mZip (mVar 1) (mVar 0)) (mgTup 2 (mgCons (mgName 4) (mgCons (mgName 5) mgNil))) mYes (mBinP dMul 4 (mBin dIx (mBinP dIx 5 (mC (.int 2))) (mPeek 3))) [4, 5]))) (upD 0 m)
        [some (.val (TI is)), some (.val (T as)), some (.own (.list ((List.range 0).map fun k => .int (metalAt is as k)))), x3, none, none]) fun q => q.1 = .nx ∧ MetI m is as m q.2 := by
      refine WR_up (lo := 0) (n := m) (MetI m is as) (fun k hk ρ hi => ?_) ⟨_, rfl⟩
      obtain ⟨y3, rfl⟩ := hi
      rw [show (0 : Int) + (k : Int) = k by omega]
      refine WR.of (a := [some (.val (TI is)), some (.val (T as)), some (.own (.list ((List.range k).map fun k => .int (metalAt is as k)))), some (.val (.int k)), none, none]) rfl ?_
      have hs := p_sumL ((as.zip is).map fun p => p.1 * p.2.p.getD k 0)
      have hmm : ((as.zip is).map fun p => p.1 * p.2.p.getD k 0).map PyData.int = (as.zip is).map fun p => .int (p.1 * p.2.p.getD k 0) := by rw [List.map_map]; rfl
      unfold LI at hs
      rw [hmm] at hs
      have inn := inner k hk
      have hz3 : sz ((as.zip is).map fun p => PyData.int (p.1 * p.2.p.getD k 0)).length := sz_of (by rw [List.length_map]; exact hz2)
      have hap : ((List.range k).map fun k => PyData.int (metalAt is as k)) ++ [.int (metalAt is as k)] = (List.range (k + 1)).map fun k => .int (metalAt is as k) := by rw [List.range_succ, List.map_append]; rfl
      have hln : ((List.range k).map fun k => PyData.int (metalAt is as k)).length ≤ 1000000 := by rw [List.length_map, List.length_range]; omega
      have hs' : dSum (.list ((as.zip is).map fun p => .int (p.1 * p.2.p.getD k 0))) = .ok (.int (metalAt is as k)) := hs
      unfold MetI
      rw [← hap]
      generalize (as.zip is).map (fun p => PyData.int (p.1 * p.2.p.getD k 0)) = zl at *
      generalize (List.range k).map (fun k => PyData.int (metalAt is as k)) = rl at *
      simp [zm, inn, hz3, hs', hln, -List.getD_eq_getElem?_getD]
    generalize TI is = ti at *
    simp [e0, e1, e2, h62]
    exact go
  rintro ρ1 ⟨y3, rfl⟩
  unfold LI
  rw [hmm]
  simp
def bdOk (is : List Ing) (bs : List (Int × Int)) (as : List Int) (k : Nat) : Bool := decide ((bs.getD k (0, 0)).1 * as.sum ≤ metalAt is as k) && decide (metalAt is as k ≤ (bs.getD k (0, 0)).2 * as.sum)
def kept (m : Nat) (is : List Ing) (bs : List (Int × Int)) (as : List Int) : Bool := (List.range m).all (bdOk is bs as)
theorem bd_rng {m : Nat} {bs : List (Int × Int)} (hb : IsB m bs) {k : Nat} (hk : k < m) : 0 ≤ (bs.getD k (0, 0)).1 ∧ (bs.getD k (0, 0)).1 ≤ (bs.getD k (0, 0)).2 ∧ (bs.getD k (0, 0)).2 ≤ 1000 := by
  have hl := hb.len
  rw [List.getD_eq_getElem?_getD, List.getElem?_eq_getElem (by omega)]
  exact hb.rng _ (List.getElem_mem _)
theorem bd_ix {m : Nat} {bs : List (Int × Int)} (hb : IsB m bs) {k : Nat} (hk : k < m) : dIx (TB bs) (.int k) = .ok (bdD (bs.getD k (0, 0))) := by
  have hl := hb.len
  refine (ix_at (ds := bs.map bdD) (i := k) (d := bdD (bs.getD k (0, 0))) ?_).2
  rw [List.getElem?_map, List.getElem?_eq_getElem (by omega), List.getD_eq_getElem?_getD, List.getElem?_eq_getElem (by omega)]
  rfl
theorem metal_ix (m : Nat) (is : List Ing) (as : List Int) {k : Nat} (hk : k < m) : dIx (LI (metal m is as)) (.int k) = .ok (.int (metalAt is as k)) := by
  refine (ix_at (ds := (metal m is as).map .int) (i := k) (d := .int (metalAt is as k)) ?_).1
  unfold metal
  rw [List.getElem?_map, List.getElem?_map, List.getElem?_range hk]
  rfl
theorem zip_metal {m : Nat} {is : List Ing} {bs : List (Int × Int)} {as : List Int} (hb : IsB m bs) : zipD ((metal m is as).map .int) (bs.map bdD) = (List.range m).map fun k => .tuple [.int (metalAt is as k), bdD (bs.getD k (0, 0))] := by
  have hl := hb.len
  apply List.ext_getElem
  · simp [zipD, metal, hl]
  · intro k h1 h2
    have hk : k < m := by simpa using h2
    simp [zipD, metal, List.getD_eq_getElem?_getD, List.getElem?_eq_getElem (show k < bs.length by omega)]
theorem e_is_kept {m : Nat} {is : List Ing} {bs : List (Int × Int)} {as : List Int} (h : IsIngs m is) (hb : IsB m bs) (hl : as.length ≤ 1000) :
    m_is_kept [some (.val (TI is)), some (.val (TB bs)), some (.val (T as))] = .ok (.val (.bool (kept m is bs as)), [some (.val (TI is)), some (.val (TB bs)), some (.val (T as))]) := by
  have hm := h.mm
  have em := e_metal h hl
  have zm := zip_metal (is := is) (as := as) hb
  have hs := p_sumT as
  have e : lcL (mgTup 2 (mgCons (mgName 4) (mgCons (mgTup 2 (mgCons (mgName 5) (mgCons (mgName 6) mgNil))) mgNil))) mYes (mChain (dOrd fLe) (dOrd fLe) (mBinP dMul 5 (mPeek 3)) (mVar 4) (mBinP dMul 6 (mPeek 3))) [4, 5, 6] ((List.range m).map fun k => .tuple [.int (metalAt is as k), bdD (bs.getD k (0, 0))]) [some (.val (TI is)), some (.val (TB bs)), some (.val (T as)), some (.val (.int as.sum)), none, none, none] =
      .ok ((List.range m).map fun k => .bool (bdOk is bs as k), [some (.val (TI is)), some (.val (TB bs)), some (.val (T as)), some (.val (.int as.sum)), none, none, none]) := by
    refine lcL_of (fun k : Nat => .tuple [.int (metalAt is as k), bdD (bs.getD k (0, 0))]) (fun k => .bool (bdOk is bs as k)) fun k hk => ?_
    have hk' : k < m := List.mem_range.mp hk
    have r := bd_rng hb hk'
    unfold bdOk
    generalize bs.getD k (0, 0) = b at *
    refine ⟨[some (.val (TI is)), some (.val (TB bs)), some (.val (T as)), some (.val (.int as.sum)), some (.val (.int (metalAt is as k))), some (.val (.int b.1)), some (.val (.int b.2))], by unfold bdD; simp, ?_, by simp⟩
    have m1 : dMul (.int b.1) (.int as.sum) = .ok (.int (b.1 * as.sum)) := mul_ok (.inl (by omega))
    have m2 : dMul (.int b.2) (.int as.sum) = .ok (.int (b.2 * as.sum)) := mul_ok (.inl (by omega))
    by_cases q : b.1 * as.sum ≤ metalAt is as k <;> simp [m1, m2, q]
  have ha := p_all (List.range m) (bdOk is bs as)
  have hz : m ≤ 1000000 := by omega
  have hz' : sz ((List.range m).map fun k => PyData.bool (bdOk is bs as k)).length := sz_of (by simp; omega)
  unfold m_is_kept mDef b_is_kept kept
  generalize (List.range m).all (bdOk is bs as) = r at *
  generalize (List.range m).map (fun k => PyData.bool (bdOk is bs as k)) = bl at *
  generalize (List.range m).map (fun k => PyData.tuple [.int (metalAt is as k), bdD (bs.getD k (0, 0))]) = zl at *
  unfold LI at em
  generalize (metal m is as).map PyData.int = ml at *
  simp [hs, em, zm, e, hz', ha]
theorem e_law_within {m : Nat} {is : List Ing} {bs : List (Int × Int)} {as : List Int} (h : IsIngs m is) (hb : IsB m bs) (hl : as.length ≤ 1000) :
    m__law_within m__law_metal [some (.val (TI is)), some (.val (TB bs)), some (.val (T as))] = .ok (.val (.bool (kept m is bs as)), [some (.val (TI is)), some (.val (TB bs)), some (.val (T as))]) := by
  have hm := h.mm
  have em := e_law_metal h hl
  have hs := p_sumT as
  have hln : (metal m is as).length = m := metal_len m is as
  have e : ∀ x4 : Slot, x4.d = LI (metal m is as) → lcL (mgName 5) (mNotT (mTest (mChain (dOrd fLe) (dOrd fLe) (mBin dMul (mBin dIx (mBinP dIx 1 (mPeek 5)) (mC (.int 0))) (mPeek 3)) (mBinP dIx 4 (mPeek 5)) (mBin dMul (mBin dIx (mBinP dIx 1 (mPeek 5)) (mC (.int 1))) (mPeek 3))))) (mVar 5) [5] (upD 0 m) [some (.val (TI is)), some (.val (TB bs)), some (.val (T as)), some (.val (.int as.sum)), some x4, none] =
      .ok (((List.range m).filter fun k => !bdOk is bs as k).map fun k : Nat => .int (k : Int), [some (.val (TI is)), some (.val (TB bs)), some (.val (T as)), some (.val (.int as.sum)), some x4, none]) := by
    intro x4 h4
    rw [upD0]
    refine lcL_ofF (fun k : Nat => .int (k : Int)) (fun k : Nat => .int (k : Int)) (fun k => !bdOk is bs as k) fun k hk => ?_
    have hk' : k < m := List.mem_range.mp hk
    have r := bd_rng hb hk'
    have b0 := bd_ix hb hk'
    have mi := metal_ix m is as hk'
    unfold bdOk
    generalize bs.getD k (0, 0) = b at *
    refine ⟨[some (.val (TI is)), some (.val (TB bs)), some (.val (T as)), some (.val (.int as.sum)), some x4, some (.val (.int k))], by simp, ?_, fun _ => by simp, by simp⟩
    have m1 : dMul (.int b.1) (.int as.sum) = .ok (.int (b.1 * as.sum)) := mul_ok (.inl (by omega))
    have m2 : dMul (.int b.2) (.int as.sum) = .ok (.int (b.2 * as.sum)) := mul_ok (.inl (by omega))
    generalize TB bs = tb at *
    generalize LI (metal m is as) = ml at *
    by_cases q : b.1 * as.sum ≤ metalAt is as k <;> simp [b0, bd0, bd1, mi, m1, m2, q, h4]
  have hn : nice 1 (.list (((List.range m).filter fun k => !bdOk is bs as k).map fun k : Nat => .int (k : Int))) := nk_list ⟨fun d hd => by
    obtain ⟨_, _, rfl⟩ := List.mem_map.mp hd
    exact nk_int _ _⟩
  have hq := eq_nil hn (by omega) false
  have hb' : (((List.range m).filter fun k => !bdOk is bs as k).map fun k : Nat => PyData.int (k : Int)).isEmpty = kept m is bs as := by
    rw [Bool.eq_iff_iff, List.isEmpty_iff, List.map_eq_nil_iff, List.filter_eq_nil_iff]
    unfold kept
    rw [List.all_eq_true]
    simp
  rw [hb'] at hq
  have hz : sz (((List.range m).filter fun k => !bdOk is bs as k).map fun k : Nat => PyData.int (k : Int)).length := sz_of (by
    rw [List.length_map]
    have := List.length_filter_le (fun k => !bdOk is bs as k) (List.range m)
    rw [List.length_range] at this
    omega)
  have h62 : i62 (m : Int) := i62_of (by omega)
  unfold m__law_within mDef b__law_within
  generalize ((List.range m).filter fun k => !bdOk is bs as k).map (fun k : Nat => PyData.int (k : Int)) = fl at *
  have el : dLen (LI (metal m is as)) = .ok (.int m) := by rw [i_lenL, List.length_map, hln]
  generalize LI (metal m is as) = ml at *
  have e' := e (.val ml) rfl
  simp [hs, em, el, h62, e', hz, hq]
end DL
namespace DL
open PySem PySem.Spec PyProof.Rows L2 DL.Lib
/-! ### drawn ingots, mixtures, bounds -/
theorem set_at {ds : List D} {i : Nat} (hi : i < ds.length) (v : D) : dSetK (.list ds) (.int (i : Int)) v = .ok (.list (ds.set i v)) := by
  have : ixN ds.length (i : Int) = some i := by
    unfold ixN
    simp
    omega
  unfold dSetK
  simp only []
  rw [this]
  rfl
def PartI (metals : Int) (i : Nat) (ρ : DE) : Prop := ∃ (c : D) (left : Int) (fs : List Int) (x4 x5 : Option Slot), IsCup c ∧ 0 ≤ left ∧ left ≤ 1000 ∧ fs.length = i ∧ (∀ z ∈ fs, 0 ≤ z ∧ z ≤ 1000) ∧ fs.sum + left = 1000 ∧
  ρ = [some (.own c), some (.val (.int metals)), some (.val (.int left)), some (.val (T fs)), x4, x5]
def PartJ (metals left : Int) (fs : List Int) (t : D) (ρ : DE) : Prop := ∃ (c : D) (p : Int), IsCup c ∧ 0 ≤ p ∧ p ≤ left ∧ ρ = [some (.own c), some (.val (.int metals)), some (.val (.int left)), some (.val (T fs)), some (.val t), some (.val (.int p))]
theorem WR_parts {some' roll : SM Slot} (R : Roller roll) (S : Somer some') {c : D} {metals : Int} {Q : Slot × DE → Prop} (hc : IsCup c) (hm : 1 ≤ metals ∧ metals ≤ 4)
    (q : ∀ (p : List Int) (c' : D), IsCup c' → (p.length : Int) = metals → (∀ z ∈ p, 0 ≤ z ∧ z ≤ 1000) → p.sum = 1000 → Q (.val (T p), [some (.own c'), some (.val (.int metals))])) :
    WR (m__law_parts some' roll 1000 [some (.own c), some (.val (.int metals))]) Q := by
  refine WR_def rfl ?_
  show WR (b__law_parts some' roll 1000 [some (.own c), some (.val (.int metals)), none, none, none, none]) _
  unfold b__law_parts
  refine WR_sqP (PartI metals 0) ?_ ?_
  · simp
    exact ⟨c, 1000, [], _, _, hc, by omega, by omega, rfl, by simp, by simp, rfl⟩
  intro ρ1 I
  refine WR_sqP (PartI metals (metals.toNat - 1)) ?_ ?_
  · obtain ⟨c, left, fs, x4, x5, hc, l0, l1, f0, f1, f2, rfl⟩ := I
    have h62 : i62 (metals - 1) := i62_of (by omega)
    simp [h62]
    refine (WR_up (lo := 0) (n := metals.toNat - 1) (PartI metals) (fun i hi ρ h => ?_) ⟨c, left, fs, x4, x5, hc, l0, l1, f0, f1, f2, rfl⟩).mono ?_
    · obtain ⟨c, left, fs, x4, x5, hc, l0, l1, f0, f1, f2, rfl⟩ := h
      generalize PyData.int (0 + (i : Int)) = t
      refine WR.of (a := [some (.own c), some (.val (.int metals)), some (.val (.int left)), some (.val (T fs)), some (.val t), x5]) rfl ?_
      refine WR_sqP (PartJ metals left fs t) ?_ ?_
      · simp
        refine WR_roll R hc (by omega) (by omega) fun r c1 h1 a1 b1 => ?_
        simp
        refine WR_roll R h1 (by omega) (by omega) fun r2 c2 h2 a2 b2 => ?_
        have hd : dFdiv (.int left) (.int 2) = .ok (.int (left / 2)) := o_fdiv (by omega) (by omega)
        simp [hd]
        refine WR_someB S 0 (left + 1) h2 (by simp) (by simp) (fun d hd => ?_) fun p c3 h3 p0 p1 => ?_
        · simp only [List.mem_cons, List.not_mem_nil, or_false] at hd
          rcases hd with rfl | rfl | rfl | rfl | rfl <;> simp only [inB] <;> omega
        · simp
          exact ⟨c3, p, h3, p0, by omega, rfl⟩
      rintro ρ1 ⟨c3, p, h3, p0, p1, rfl⟩
      have ha : dAdd (T fs) (.tuple [.int p]) = .ok (T (fs ++ [p])) := by
        rw [add_tup (by simp; omega)]
        simp [T]
      unfold T at *
      generalize hfd : fs.map PyData.int = fd at *
      simp [ha]
      refine ⟨c3, left - p, fs ++ [p], some (.val t), some (.val (.int p)), h3, by omega, by omega, by simp [f0], fun z hz => ?_, ?_, by simp [T, hfd]⟩
      · rcases List.mem_append.mp hz with hz | hz
        · exact f1 z hz
        · rw [List.mem_singleton] at hz
          subst hz
          omega
      · rw [List.sum_append]
        simp
        omega
    · rintro ⟨fl, ρ⟩ ⟨rfl, h⟩
      exact ⟨rfl, h⟩
  rintro ρ1 ⟨c, left, fs, x4, x5, hc, l0, l1, f0, f1, f2, rfl⟩
  have ha : dAdd (T fs) (.tuple [.int left]) = .ok (T (fs ++ [left])) := by
    rw [add_tup (by simp; omega)]
    simp [T]
  have q' := q (fs ++ [left]) c hc (by rw [List.length_append]; simp; omega) (fun z hz => by
    rcases List.mem_append.mp hz with hz | hz
    · exact f1 z hz
    · rw [List.mem_singleton] at hz
      subst hz
      omega) (by rw [List.sum_append]; simp; omega)
  unfold T at *
  generalize fs.map PyData.int = fd at *
  generalize (fs ++ [left]).map PyData.int = fe at *
  simp [ha]
  exact q'
def IngJ (most metals : Int) (ks : List Str) (ds : List D) (ρ : DE) : Prop := ∃ (c : D) (is : List Ing) (rest : List Str) (x4 : Option Slot), IsCup c ∧ ds = rest.map .str ∧ is.map (·.n) ++ rest = ks ∧ (∀ i ∈ is, IsIng metals.toNat i) ∧
  ρ = [some (.own c), some (.val (.int most)), some (.val (.int metals)), some (.val (TI is)), x4]
theorem ing_add {is : List Ing} {i : Ing} (h : is.length ≤ 1000) : dAdd (TI is) (.tuple [ingD i]) = .ok (TI (is ++ [i])) := by
  rw [add_tup (by simp; omega)]
  simp [TI]
def IngK (most : Int) (ρ : DE) : Prop := ∃ (metals : Int), 1 ≤ metals ∧ metals ≤ 4 ∧ IngJ most metals [] [] ρ
theorem WR_ingots {some' roll : SM Slot} (R : Roller roll) (S : Somer some') {c : D} {most : Int} {Q : Slot × DE → Prop} (hc : IsCup c) (hm : 1 ≤ most ∧ most ≤ 8)
    (q : ∀ (m : Nat) (is : List Ing) (c' : D), IsCup c' → IsIngs m is → Q (.val (TI is), [some (.own c'), some (.val (.int most))])) :
    WR (m__law_ingots roll (m__law_names some') some' (m__law_parts some' roll 1000) 1000 [some (.own c), some (.val (.int most))]) Q := by
  refine WR_def rfl ?_
  show WR (b__law_ingots roll (m__law_names some') some' (m__law_parts some' roll 1000) 1000 [some (.own c), some (.val (.int most)), none, none, none]) _
  unfold b__law_ingots
  refine WR_sqP (IngK most) ?_ ?_
  · simp
    refine WR_roll R hc (by omega) (by omega) fun r c1 h1 a1 b1 => ?_
    simp
    exact ⟨1 + r, by omega, by omega, c1, [], [], none, h1, rfl, rfl, by simp, rfl⟩
  rintro ρ1 ⟨metals, m1, m4, c1, is, rest, x4, h1, e1, e2, hi, rfl⟩
  have his : is = [] := by
    have := (List.append_eq_nil_iff.mp e2).1
    exact List.map_eq_nil_iff.mp this
  subst his
  refine WR_sqP (fun ρ => ∃ ks : List Str, 1 ≤ ks.length ∧ ks.length ≤ 8 ∧ (∀ k ∈ ks, k ∈ pool) ∧ ks.Pairwise (fun a b => slt a b = true) ∧ IngJ most metals ks [] ρ) ?_ ?_
  · simp
    refine WR_roll R h1 (by omega) (by omega) fun r c2 h2 a2 b2 => ?_
    simp
    refine WR_names S h2 (by omega) fun ks c3 h3 k1 k2 k3 => ?_
    simp [seqD]
    refine WR_for (IngJ most metals ks) ⟨c3, [], ks, x4, h3, rfl, rfl, by simp, rfl⟩ ?_ (fun ρ h => ⟨rfl, ks, by omega, by omega, k2, k3, h⟩)
    rintro d ds ρ ⟨c4, is, rest, y4, h4, e3, e4, hi4, rfl⟩
    cases rest with
    | nil => cases e3
    | cons k rest =>
      rw [List.map_cons] at e3
      obtain ⟨rfl, rfl⟩ := List.cons.inj e3
      have hk : k ∈ ks := by rw [← e4]; simp
      have hp := pool_ok k (k2 k hk)
      have hil : is.length ≤ 8 := by
        have := congrArg List.length e4
        simp at this
        omega
      refine WR.of (a := [some (.own c4), some (.val (.int most)), some (.val (.int metals)), some (.val (TI is)), some (.val (.str k))]) rfl ?_
      have add := fun i : Ing => ing_add (is := is) (i := i) (by omega)
      have fin : ∀ i : Ing, i.n = k → IsIng metals.toNat i → ∀ c' : D, IsCup c' → IngJ most metals ks (rest.map .str) [some (.own c'), some (.val (.int most)), some (.val (.int metals)), some (.val (TI (is ++ [i]))), some (.val (.str k))] := fun i e h c' hc' =>
        ⟨c', is ++ [i], rest, _, hc', rfl, by rw [List.map_append, List.append_assoc]; simp [e, e4], fun x hx => by
          rcases List.mem_append.mp hx with hx | hx
          · exact hi4 x hx
          · rw [List.mem_singleton] at hx
            subst hx
            exact h, rfl⟩
      generalize hti : TI is = ti at *
      simp
      refine WR_roll R h4 (by omega) (by omega) fun r2 c5 h5 a5 b5 => ?_
      simp
      refine WR_someB S 1 1001 h5 (by simp) (by simp) (fun d hd => ?_) fun w c6 h6 w1 w2 => ?_
      · simp only [List.mem_cons, List.not_mem_nil, or_false] at hd
        rcases hd with rfl | rfl | rfl | rfl <;> simp only [inB] <;> omega
      simp
      refine WR_parts R S h6 ⟨m1, m4⟩ fun p c7 h7 pl pr ps => ?_
      have ad : dAdd ti (.tuple [.tuple [.str k, .int w, T p]]) = .ok (TI (is ++ [⟨k, w, p⟩])) := add ⟨k, w, p⟩
      simp [ad]
      exact fin ⟨k, w, p⟩ rfl ⟨hp.1, show k.length ≤ 1000 from by have := hp.2; omega, show 1 ≤ w ∧ w ≤ 1000 from ⟨w1, by omega⟩, show p.length = metals.toNat from by omega, pr, ps⟩ c7 h7
  rintro ρ1 ⟨ks, k1, k8, kp, ka, c3, is, rest, y4, h3, e3, e4, hi3, rfl⟩
  have hr : rest = [] := List.map_eq_nil_iff.mp e3.symm
  subst hr
  rw [List.append_nil] at e4
  subst e4
  rw [List.length_map] at k1 k8
  simp
  exact q metals.toNat is c3 h3 ⟨by omega, ⟨k1, k8⟩, hi3, ka⟩
end DL
namespace DL
open PySem PySem.Spec PyProof.Rows L2 DL.Lib
/-! ### drawn mixtures and bounds -/
def MixJ (is : List Ing) (w : Int) (ρ : DE) : Prop := ∃ c, IsCup c ∧ ρ = [some (.own c), some (.val (TI is)), some (.val (.int w)), none, none, none]
def MixK (is : List Ing) (w : Int) (n : Nat) (ρ : DE) : Prop := ∃ (c : D) (as : List Int), IsCup c ∧ as.length = n ∧ (∀ p ∈ as.zip is, 0 ≤ p.1 ∧ p.1 ≤ w * p.2.w) ∧ ρ = [some (.own c), some (.val (TI is)), some (.val (.int w)), some (.own (LI as)), none, none]
def MixR (w : Int) (is : List Ing) (d z : D) : Prop := ∃ (i : Ing) (a : Int), i ∈ is ∧ d = ingD i ∧ z = .int a ∧ 0 ≤ a ∧ a ≤ w * i.w
def MixL (is : List Ing) (w : Int) (as : List Int) (ρ : DE) : Prop := ∃ (c : D) (k : Nat), IsCup c ∧ k < is.length ∧ ρ = [some (.own c), some (.val (TI is)), some (.val (.int w)), some (.own (LI as)), none, some (.val (.int (k : Int)))]
theorem ing_inj {i j : Ing} (h : ingD i = ingD j) : i.w = j.w := by
  unfold ingD at h
  simp only [PyData.tuple.injEq, List.cons.injEq, PyData.int.injEq] at h
  exact h.2.1
theorem mix_all {w : Int} {js : List Ing} : ∀ {is : List Ing} {zs : List D}, All2 (MixR w js) (is.map ingD) zs → ∃ as : List Int, zs = as.map .int ∧ as.length = is.length ∧ ∀ p ∈ as.zip is, 0 ≤ p.1 ∧ p.1 ≤ w * p.2.w
  | [], _, .nil => ⟨[], rfl, rfl, by simp⟩
  | i :: is, _, .cons h t => by
    obtain ⟨j, a, _, e, rfl, a0, a1⟩ := h
    obtain ⟨as, rfl, l, r⟩ := mix_all t
    refine ⟨a :: as, rfl, by simp [l], fun p hp => ?_⟩
    rw [List.zip_cons_cons] at hp
    rcases List.mem_cons.mp hp with rfl | hp
    · exact ⟨a0, by rw [ing_inj e]; exact a1⟩
    · exact r p hp
theorem WR_mixture {some' roll : SM Slot} (R : Roller roll) (S : Somer some') {m : Nat} {is : List Ing} (hi : IsIngs m is) {c : D} {Q : Slot × DE → Prop} (hc : IsCup c)
    (q : ∀ (w : Int) (as : List Int) (c' : D), IsCup c' → IsX is w as → w ≤ 1000 → (∀ a ∈ as, a ≤ 1000000) → Q (.val (mixD w as), [some (.own c'), some (.val (TI is))])) :
    WR (m__law_mixture some' roll 1000 [some (.own c), some (.val (TI is))]) Q := by
  have hl := hi.len
  refine WR_def rfl ?_
  show WR (b__law_mixture some' roll 1000 [some (.own c), some (.val (TI is)), none, none, none, none]) _
  unfold b__law_mixture
  refine WR_sqP (fun ρ => ∃ w : Int, 1 ≤ w ∧ w ≤ 1000 ∧ MixJ is w ρ) ?_ ?_
  · simp
    refine WR_someB S 1 1001 hc (by simp) (by simp) (fun d hd => ?_) fun w c1 h1 w1 w2 => ?_
    · simp only [List.mem_cons, List.not_mem_nil, or_false] at hd
      rcases hd with rfl | rfl | rfl | rfl | rfl | rfl <;> simp only [inB] <;> omega
    · simp
      exact ⟨w, w1, by omega, c1, h1, rfl⟩
  rintro ρ1 ⟨w, w1, w2, c1, h1, rfl⟩
  refine WR_sqP (MixK is w is.length) ?_ ?_
  · simp [seqD]
    refine WR_map (MixJ is w) (MixR w is) ⟨c1, h1, rfl⟩ ?_ ?_
    · rintro d hd ρ ⟨c, hc, rfl⟩
      obtain ⟨i, hi', rfl⟩ := List.mem_map.mp hd
      have hw := (hi.all i hi').w
      have p0 : 0 ≤ w * i.w := Int.mul_nonneg (by omega) (by omega)
      have p1 : w * i.w ≤ 1000 * 1000 := Int.mul_le_mul w2 hw.2 (by omega) (by omega)
      have mu : dMul (.int w) (.int i.w) = .ok (.int (w * i.w)) := mul_ok (.inr (by omega))
      have e1 := ing1 i
      have fin : ∀ (a : Int) (c' : D), IsCup c' → 0 ≤ a → a < w * i.w + 1 → MixR w is (ingD i) (.int a) ∧ MixJ is w [some (.own c'), some (.val (TI is)), some (.val (.int w)), none, none, none] := fun a c' hc' a0 a1 => ⟨⟨i, a, hi', rfl, rfl, a0, by omega⟩, c', hc', rfl⟩
      generalize w * i.w = x at *
      generalize ingD i = di at *
      generalize TI is = ti at *
      simp [e1, mu]
      refine WR_roll R hc (by omega) (by omega) fun r c2 h2 a2 b2 => ?_
      simp [e1, mu]
      refine WR_someB S 0 (x + 1) h2 (by simp) (by simp) (fun d hd => ?_) fun a c3 h3 a0 a1 => ?_
      · simp only [List.mem_cons, List.not_mem_nil, or_false] at hd
        rcases hd with rfl | rfl | rfl <;> simp only [inB] <;> omega
      · simp
        exact fin a c3 h3 a0 a1
    · rintro zs ρ' ⟨c2, h2, rfl⟩ lz _ ha
      obtain ⟨as, rfl, l, r⟩ := mix_all ha
      have hz : sz as.length := sz_of (by omega)
      generalize hti : TI is = ti at *
      simp [hz]
      exact ⟨c2, as, h2, l, r, by rw [hti]⟩
  rintro ρ1 ⟨c2, as, h2, al, ar, rfl⟩
  refine WR_sqP (MixL is w as) ?_ ?_
  · simp
    refine WR_roll R h2 (by omega) (by omega) fun r c3 h3 a3 b3 => ?_
    simp
    exact ⟨c3, r.toNat, h3, by omega, by rw [show ((r.toNat : Nat) : Int) = r by omega]⟩
  rintro ρ1 ⟨c3, k, h3, hk, rfl⟩
  obtain ⟨a0, ha0⟩ : ∃ a0, as[k]? = some a0 := ⟨_, List.getElem?_eq_getElem (by omega)⟩
  have ia : dIx (LI as) (.int (k : Int)) = .ok (.int a0) := (ix_at (ds := as.map .int) (i := k) (d := .int a0) (by rw [List.getElem?_map, ha0]; rfl)).1
  have st := fun v : Int => set_at (ds := as.map .int) (i := k) (by rw [List.length_map]; omega) (.int v)
  have sm : ∀ v : Int, (as.map PyData.int).set k (.int v) = (as.set k v).map .int := fun v => by rw [List.map_set]
  have X : IsX is w (as.set k (if 1 < a0 then a0 else 1)) := by
    refine ⟨w1, by rw [List.length_set]; exact al, fun p hp => ?_, ?_⟩
    · obtain ⟨j, hj⟩ := List.mem_iff_getElem?.mp hp
      obtain ⟨e1, e2⟩ := List.getElem?_zip_eq_some.mp hj
      have hi' := hi.all p.2 (List.mem_of_getElem? e2)
      by_cases hjk : k = j
      · subst hjk
        rw [List.getElem?_set_self (by omega)] at e1
        have e1 := Option.some.inj e1
        have := ar (a0, p.2) (List.mem_iff_getElem?.mpr ⟨k, List.getElem?_zip_eq_some.mpr ⟨ha0, e2⟩⟩)
        simp only at this
        have hw := hi'.w
        have : 1 ≤ w * p.2.w := by
          have := Int.mul_le_mul w1 hw.1 (by omega) (by omega)
          omega
        rw [← e1]
        split <;> omega
      · rw [List.getElem?_set_ne hjk] at e1
        exact ar p (List.mem_iff_getElem?.mpr ⟨j, List.getElem?_zip_eq_some.mpr ⟨e1, e2⟩⟩)
    · have nn : ∀ z ∈ as.set k (if 1 < a0 then a0 else 1), 0 ≤ z := fun z hz => by
        rcases List.mem_or_eq_of_mem_set hz with hz | hz
        · obtain ⟨j, hj⟩ := List.mem_iff_getElem?.mp hz
          have hjl := (List.getElem?_eq_some_iff.mp hj).1
          exact (ar (z, is[j]'(by omega)) (List.mem_iff_getElem?.mpr ⟨j, List.getElem?_zip_eq_some.mpr ⟨hj, List.getElem?_eq_getElem (by omega)⟩⟩)).1
        · rw [hz]
          split <;> omega
      have mem : (if 1 < a0 then a0 else 1) ∈ as.set k (if 1 < a0 then a0 else 1) := List.mem_set (by omega) _
      have key : ∀ (l : List Int) (x : Int), (∀ z ∈ l, 0 ≤ z) → x ∈ l → x ≤ l.sum := by
        intro l
        induction l with
        | nil => exact fun x _ h => nomatch h
        | cons y l ih =>
          intro x h hx
          rw [List.sum_cons]
          have h0 := h y (List.mem_cons_self ..)
          have hs : 0 ≤ l.sum := by
            cases l with
            | nil => simp
            | cons u l => exact Int.le_trans (h u (by simp)) (ih u (fun z hz => h z (List.mem_cons_of_mem _ hz)) (List.mem_cons_self ..))
          rcases List.mem_cons.mp hx with rfl | hx
          · omega
          · have := ih x (fun z hz => h z (List.mem_cons_of_mem _ hz)) hx
            omega
      have := key _ _ nn mem
      have h1 : (1 : Int) ≤ (if 1 < a0 then a0 else 1) := by split <;> omega
      omega
  have big : ∀ a ∈ as.set k (if 1 < a0 then a0 else 1), a ≤ 1000000 := fun a ha => by
    obtain ⟨j, hj⟩ := List.mem_iff_getElem?.mp ha
    have hjl := (List.getElem?_eq_some_iff.mp hj).1
    have hjl' : j < is.length := by rw [List.length_set] at hjl; omega
    have := X.rng (a, is[j]) (List.mem_iff_getElem?.mpr ⟨j, List.getElem?_zip_eq_some.mpr ⟨hj, List.getElem?_eq_getElem hjl'⟩⟩)
    have hw := (hi.all is[j] (List.getElem_mem _)).w
    have p1 : w * is[j].w ≤ 1000 * 1000 := Int.mul_le_mul w2 hw.2 (by omega) (by omega)
    simp only at this
    omega
  have q' := q w _ c3 h3 X w2 big
  unfold LI at *
  unfold mixD T at q'
  rw [← sm] at q'
  have dt : ∀ ds : List D, dTup (.list ds) = .ok (.tuple ds) := fun _ => rfl
  generalize TI is = ti at *
  have hmx : dMax2 (.int 1) (.int a0) = .ok (.int (if 1 < a0 then a0 else 1)) := by
    rw [o_max]
  have st' := st (if 1 < a0 then a0 else 1)
  generalize (as.map PyData.int).set k (.int (if 1 < a0 then a0 else 1)) = rs at *
  generalize as.map PyData.int = ds at *
  generalize (if 1 < a0 then a0 else 1) = v at *
  simp [ia, hmx, st', dt, -o_max]
  exact q'
/-! #### bounds -/
def BdI (is : List Ing) (ps qs : List Int) (way : Int) (ds : List D) (ρ : DE) : Prop := ∃ (c : D) (bs : List (Int × Int)) (rest : List (Int × Int)) (x6 x7 x8 x9 x10 x11 : Option Slot), IsCup c ∧ ds = rest.map (fun p => .tuple [.int p.1, .int p.2]) ∧ bs.length + rest.length = (ps.zip qs).length ∧
  (∀ p ∈ rest, 0 ≤ p.1 ∧ p.1 ≤ 1000 ∧ 0 ≤ p.2 ∧ p.2 ≤ 1000) ∧ (∀ b ∈ bs, 0 ≤ b.1 ∧ b.1 ≤ b.2 ∧ b.2 ≤ 1000) ∧
  ρ = [some (.own c), some (.val (TI is)), some (.val (TB bs)), some (.val (T ps)), some (.val (T qs)), some (.val (.int way)), x6, x7, x8, x9, x10, x11]
def Bd0 (is : List Ing) (m : Nat) (ρ : DE) : Prop := ∃ (c : D) (ps qs : List Int), IsCup c ∧ ps.length = m ∧ qs.length = m ∧ (∀ z ∈ ps, 0 ≤ z ∧ z ≤ 1000) ∧ (∀ z ∈ qs, 0 ≤ z ∧ z ≤ 1000) ∧ ρ = [some (.own c), some (.val (TI is)), some (.val (.tuple [])), some (.val (T ps)), some (.val (T qs)), none, none, none, none, none, none, none]
def Bd1 (is : List Ing) (m : Nat) (way : Int) (ρ : DE) : Prop := ∃ (c : D) (ps qs : List Int), IsCup c ∧ ps.length = m ∧ qs.length = m ∧ (∀ z ∈ ps, 0 ≤ z ∧ z ≤ 1000) ∧ (∀ z ∈ qs, 0 ≤ z ∧ z ≤ 1000) ∧ ρ = [some (.own c), some (.val (TI is)), some (.val (.tuple [])), some (.val (T ps)), some (.val (T qs)), some (.val (.int way)), none, none, none, none, none, none]
def Bd2 (is : List Ing) (m : Nat) (ρ : DE) : Prop := ∃ (c : D) (bs : List (Int × Int)) (x3 x4 x5 x6 x7 x8 x9 x10 x11 : Option Slot), IsCup c ∧ IsB m bs ∧ ρ = [some (.own c), some (.val (TI is)), some (.val (TB bs)), x3, x4, x5, x6, x7, x8, x9, x10, x11]
/-- two numbers of the turn -/
def Bd3 (is : List Ing) (bs : List (Int × Int)) (x3 x4 x5 x6 x7 x10 x11 : Option Slot) (ρ : DE) : Prop := ∃ (c : D) (lo hi : Int), IsCup c ∧ 0 ≤ lo ∧ lo ≤ 1000 ∧ 0 ≤ hi ∧ hi ≤ 1000 ∧ ρ = [some (.own c), some (.val (TI is)), some (.val (TB bs)), x3, x4, x5, x6, x7, some (.val (.int lo)), some (.val (.int hi)), x10, x11]
def Bd4 (is : List Ing) (bs : List (Int × Int)) (x3 x4 x5 x6 x7 : Option Slot) (mid lo hi : Int) (ρ : DE) : Prop := ∃ (c : D) (sl : Int), IsCup c ∧ 0 ≤ sl ∧ sl < 60 ∧ ρ = [some (.own c), some (.val (TI is)), some (.val (TB bs)), x3, x4, x5, x6, x7, some (.val (.int lo)), some (.val (.int hi)), some (.val (.int mid)), some (.val (.int sl))]
theorem bd_add {bs : List (Int × Int)} {b : Int × Int} (h : bs.length ≤ 1000) : dAdd (TB bs) (.tuple [bdD b]) = .ok (TB (bs ++ [b])) := by
  rw [add_tup (by simp; omega)]
  simp [TB]
theorem WR_bounds {some' roll : SM Slot} (R : Roller roll) (S : Somer some') {m : Nat} {is : List Ing} (hi : IsIngs m is) {c : D} {Q : Slot × DE → Prop} (hc : IsCup c)
    (q : ∀ (bs : List (Int × Int)) (c' : D), IsCup c' → IsB m bs → Q (.val (TB bs), [some (.own c'), some (.val (TI is))])) :
    WR (m__law_bounds some' roll 1001 1001 60 1000 1000 [some (.own c), some (.val (TI is))]) Q := by
  have hl := hi.len
  have hm := hi.mm
  refine WR_def rfl ?_
  show WR (b__law_bounds some' roll 1001 1001 60 1000 1000 [some (.own c), some (.val (TI is)), none, none, none, none, none, none, none, none, none, none]) _
  unfold b__law_bounds
  refine WR_sqP (Bd0 is m) ?_ ?_
  · have tp : ∀ {d : D}, d ∈ is.map ingD → ∃ i ∈ is, d = ingD i := fun {d} hd => by
      obtain ⟨i, hi', rfl⟩ := List.mem_map.mp hd
      exact ⟨i, hi', rfl⟩
    have hne : is.map ingD ≠ [] := by
      intro z
      rw [List.map_eq_nil_iff] at z
      rw [z] at hl
      simp at hl
    have fin : ∀ i ∈ is, ∀ j ∈ is, ∀ c' : D, IsCup c' → Bd0 is m [some (.own c'), some (.val (TI is)), some (.val (.tuple [])), some (.val (T i.p)), some (.val (T j.p)), none, none, none, none, none, none, none] := fun i hi' j hj c' hc' => ⟨c', i.p, j.p, hc', (hi.all i hi').pl, (hi.all j hj).pl, (hi.all i hi').pr, (hi.all j hj).pr, rfl⟩
    unfold TI at *
    have hlen : (is.map ingD).length ≤ 1000000 := by rw [List.length_map]; omega
    generalize is.map ingD = ds at *
    simp
    refine WR_someT S hc hne hlen fun d hd c1 h1 => ?_
    obtain ⟨i, hi', rfl⟩ := tp hd
    simp [ing2]
    refine WR_someT S h1 hne hlen fun d hd c2 h2 => ?_
    obtain ⟨j, hj, rfl⟩ := tp hd
    simp [ing2]
    exact fin i hi' j hj c2 h2
  rintro ρ1 ⟨c1, ps, qs, h1, pl, ql, pr, qr, rfl⟩
  refine WR_sqP (fun ρ => ∃ way, Bd1 is m way ρ) ?_ ?_
  · simp
    refine WR_roll R h1 (by omega) (by omega) fun r c2 h2 a2 b2 => ?_
    simp
    exact ⟨r, c2, ps, qs, h2, pl, ql, pr, qr, rfl⟩
  rintro ρ1 ⟨way, c2, ps, qs, h2, pl, ql, pr, qr, rfl⟩
  refine WR_sqP (Bd2 is m) ?_ ?_
  · have zm := zip_map_int ps qs
    have hzl : (ps.zip qs).length = m := by rw [List.length_zip]; omega
    simp
    rw [zm]
    refine WR_for (BdI is ps qs way) ⟨c2, [], ps.zip qs, _, _, _, _, _, _, h2, rfl, by simp, fun p hp => ?_, by simp, rfl⟩ ?_ ?_
    · have h1 := pr p.1 (List.of_mem_zip hp).1
      have h2 := qr p.2 (List.of_mem_zip hp).2
      exact ⟨h1.1, h1.2, h2.1, h2.2⟩
    · rintro d ds ρ ⟨c, bs, rest, x6, x7, x8, x9, x10, x11, hc, e1, e2, r1, b1, rfl⟩
      cases rest with
      | nil => cases e1
      | cons p rest =>
        rw [List.map_cons] at e1
        obtain ⟨rfl, rfl⟩ := List.cons.inj e1
        have hp := r1 p (List.mem_cons_self ..)
        have hbl : bs.length ≤ 4 := by rw [List.length_cons] at e2; omega
        refine WR.of (a := [some (.own c), some (.val (TI is)), some (.val (TB bs)), some (.val (T ps)), some (.val (T qs)), some (.val (.int way)), some (.val (.int p.1)), some (.val (.int p.2)), x8, x9, x10, x11]) (by simp) ?_
        have fin : ∀ (b : Int × Int) (c' : D) (y8 y9 y10 y11 : Option Slot), IsCup c' → (0 ≤ b.1 ∧ b.1 ≤ b.2 ∧ b.2 ≤ 1000) → BdI is ps qs way (rest.map fun p => .tuple [.int p.1, .int p.2]) [some (.own c'), some (.val (TI is)), some (.val (TB (bs ++ [b]))), some (.val (T ps)), some (.val (T qs)), some (.val (.int way)), some (.val (.int p.1)), some (.val (.int p.2)), y8, y9, y10, y11] := fun b c' y8 y9 y10 y11 hc' hb =>
          ⟨c', bs ++ [b], rest, _, _, y8, y9, y10, y11, hc', rfl, by rw [List.length_append]; rw [List.length_cons] at e2; simp; omega, fun p hp => r1 p (List.mem_cons_of_mem _ hp), fun x hx => by
            rcases List.mem_append.mp hx with hx | hx
            · exact b1 x hx
            · rw [List.mem_singleton] at hx
              subst hx
              exact hb, rfl⟩
        have add := fun b => bd_add (bs := bs) (b := b) (by omega)
        refine WR_sqP (Bd3 is bs (some (.val (T ps))) (some (.val (T qs))) (some (.val (.int way))) (some (.val (.int p.1))) (some (.val (.int p.2))) x10 x11) ?_ ?_
        · simp
          refine WR_roll R hc (by omega) (by omega) fun lo c3 h3 a3 b3 => ?_
          simp
          refine WR_roll R h3 (by omega) (by omega) fun hi' c4 h4 a4 b4 => ?_
          simp
          exact ⟨c4, lo, hi', h4, a3, by omega, a4, by omega, rfl⟩
        rintro ρ1 ⟨c4, lo, hi', h4, lo0, lo1, hi0, hi1, rfl⟩
        obtain ⟨mid, hmid, mid0, mid1⟩ : ∃ mid : Int, (p.1 + p.2) / 2 = mid ∧ 0 ≤ mid ∧ mid ≤ 1000 := ⟨_, rfl, by omega, by omega⟩
        refine WR_sqP (fun ρ => ρ = [some (.own c4), some (.val (TI is)), some (.val (TB bs)), some (.val (T ps)), some (.val (T qs)), some (.val (.int way)), some (.val (.int p.1)), some (.val (.int p.2)), some (.val (.int lo)), some (.val (.int hi')), some (.val (.int mid)), x11]) ?_ ?_
        · have hd : dFdiv (.int (p.1 + p.2)) (.int 2) = .ok (.int mid) := by rw [o_fdiv (by omega) (by omega), hmid]
          simp [hd]
        rintro ρ1 rfl
        refine WR_sqP (Bd4 is bs (some (.val (T ps))) (some (.val (T qs))) (some (.val (.int way))) (some (.val (.int p.1))) (some (.val (.int p.2))) mid lo hi') ?_ ?_
        · simp
          refine WR_roll R h4 (by omega) (by omega) fun sl c5 h5 a5 b5 => ?_
          simp
          exact ⟨c5, sl, h5, a5, b5, rfl⟩
        rintro ρ1 ⟨c5, sl, h5, sl0, sl1, rfl⟩
        refine WR_sqP (Bd3 is bs (some (.val (T ps))) (some (.val (T qs))) (some (.val (.int way))) (some (.val (.int p.1))) (some (.val (.int p.2))) (some (.val (.int mid))) (some (.val (.int sl)))) ?_ ?_
        · by_cases hw : way < 2
          · simp [hw]
            exact ⟨c5, if 0 < mid - sl then mid - sl else 0, if mid + sl + 1 < 1000 then mid + sl + 1 else 1000, h5, by split <;> omega, by split <;> omega, by split <;> omega, by split <;> omega, by simp⟩
          · simp [hw]
            exact ⟨c5, lo, hi', h5, lo0, lo1, hi0, hi1, rfl⟩
        rintro ρ1 ⟨c6, lo', hi'', h6, l0, l1, g0, g1, rfl⟩
        simp
        refine WR_roll R h6 (by omega) (by omega) fun r c7 h7 a7 b7 => ?_
        by_cases hr : r = 0
        · have ad : dAdd (TB bs) (.tuple [.tuple [.int 0, .int 1000]]) = .ok (TB (bs ++ [(0, 1000)])) := add (0, 1000)
          generalize hti : TI is = ti at *
          generalize htb : TB bs = tb at *
          simp [hr, ad]
          exact fin (0, 1000) c7 _ _ _ _ h7 (by simp)
        · have ad := add (if hi'' < lo' then hi'' else lo', if hi'' > lo' then hi'' else lo')
          have ad' : dAdd (TB bs) (.tuple [.tuple [.int (if hi'' < lo' then hi'' else lo'), .int (if hi'' > lo' then hi'' else lo')]]) = .ok (TB (bs ++ [(if hi'' < lo' then hi'' else lo', if hi'' > lo' then hi'' else lo')])) := ad
          generalize hti : TI is = ti at *
          generalize htb : TB bs = tb at *
          simp [hr, ad', -gt_iff_lt]
          exact fin _ c7 _ _ _ _ h7 (by simp only; (repeat' split) <;> omega)
    · rintro ρ' ⟨c, bs, rest, x6, x7, x8, x9, x10, x11, hc, e1, e2, r1, b1, rfl⟩
      have hr : rest = [] := List.map_eq_nil_iff.mp e1.symm
      subst hr
      exact ⟨rfl, c, bs, _, _, _, _, _, _, _, _, _, hc, ⟨by simp at e2; omega, b1⟩, rfl⟩
  rintro ρ1 ⟨c3, bs, x3, x4, x5, x6, x7, x8, x9, x10, x11, h3, hb, rfl⟩
  simp
  exact q bs c3 h3 hb
end DL
namespace DL
open PySem PySem.Spec PyProof.Rows L2 DL.Lib
/-! ### what fits, of any value -/
def isum (ds : List D) : Option Int := (intsOf ds).map List.sum
def fitsP : D → Bool
  | .tuple ds => decide (1 ≤ ds.length ∧ ds.length ≤ 4) && (ds.all (fitsW 0 1000) && decide (isum ds = some 1000))
  | _ => false
theorem g_fits_parts (d : D) {k : Nat} (n : nice (k + 1) d) : m_fits_parts [some (.val d)] = .ok (.val (.bool (fitsP d)), [some (.val d)]) := by
  have hn := n.noD
  cases d with
  | tuple ds =>
    have hd := nice_of_tup n
    unfold m_fits_parts mDef b_fits_parts fitsP
    by_cases hl : 1 ≤ ds.length ∧ ds.length ≤ 4
    · have ht : isTup 1 4 (.tuple ds) = true := by simp [isTup]; omega
      have hz : sz ds.length := sz_of (by omega)
      have e : lcL (mgName 1) mYes (mD (mCall m_fits_whole (mCons (mVar 1) (mCons (mC (.int 0)) (mCons (mC (.int 1000)) mNil))))) [1] ds [some (.val (.tuple ds)), none] = .ok (ds.map fun d => .bool (fitsW 0 1000 d), [some (.val (.tuple ds)), none]) := by
        refine lcL_map fun e he => ⟨[some (.val (.tuple ds)), some (.val e)], by simp, ?_, by simp⟩
        simp [(hd e he).noD]
      cases ha : ds.all (fitsW 0 1000) with
      | false => simp [-List.all_eq_true, -List.all_eq_false, ht, seqD, e, hz, p_all, ha, hl]
      | true =>
        obtain ⟨ns, rfl, hr⟩ := ints_of_fits ha
        have hs := p_sumT ns
        have hi : isum (ns.map .int) = some ns.sum := by unfold isum; rw [intsOf_map]; rfl
        rw [List.length_map] at hl
        have pa := p_all (ns.map PyData.int) (fitsW 0 1000)
        rw [ha] at pa
        have hz2 : sz ((ns.map PyData.int).map fun d => PyData.bool (fitsW 0 1000 d)).length := sz_of (by simp; omega)
        generalize (ns.map PyData.int).map (fun d => PyData.bool (fitsW 0 1000 d)) = bl at *
        unfold T at hs
        simp [-List.all_eq_true, -List.all_eq_false, ht, seqD, e, hz2, pa, ha, hl, hs, hi]
        rw [Bool.eq_iff_iff]
        simp
    · have ht : isTup 1 4 (.tuple ds) = false := by
        simp only [isTup]
        rw [← Bool.not_eq_true]
        simp
        omega
      simp [ht, hl]
  | dict es => cases hn
  | _ => (unfold m_fits_parts mDef b_fits_parts fitsP; simp [isTup])
def fitsI : D → Bool
  | .tuple [a, b, c] => fnmD a && (fitsW 1 1000 b && fitsP c)
  | _ => false
structure Shrt (d : D) : Prop where
  n : nice 4 d
  s : ∀ a b c, d = .tuple [a, b, c] → ∀ z, a = .str z → z.length ≤ 1000
theorem g_fits_ingot (d : D) (h : Shrt d) : m_fits_ingot [some (.val d)] = .ok (.val (.bool (fitsI d)), [some (.val d)]) := by
  have n := h.n
  have hn := n.noD
  cases d with
  | tuple ds =>
    have hd := nice_of_tup n
    by_cases hl : ds.length = 3
    · match ds, hl, hd, h with
      | [a, b, c], _, hd, h =>
        have na := hd a (by simp)
        have nb := hd b (by simp)
        have nc := hd c (by simp)
        have e1 : m_fits_name [some (.val a)] = .ok (.val (.bool (fnmD a)), [some (.val a)]) := by
          cases a with
          | str z => exact p_fits_name z (h.s _ _ _ rfl z rfl)
          | _ => exact p_no_name _ na (fun z e => by cases e)
        have e2 := g_fits_parts c nc
        have i0 : dIx (.tuple [a, b, c]) (.int 0) = .ok a := rfl
        have i1 : dIx (.tuple [a, b, c]) (.int 1) = .ok b := rfl
        have i2 : dIx (.tuple [a, b, c]) (.int 2) = .ok c := rfl
        have ht : isTup 3 3 (.tuple [a, b, c]) = true := by simp [isTup]
        unfold m_fits_ingot mDef b_fits_ingot fitsI
        cases q1 : fnmD a <;> cases q2 : fitsW 1 1000 b <;> simp [ht, i0, i1, i2, e1, e2, nb.noD, q1, q2]
    · have ht : isTup 3 3 (.tuple ds) = false := by
        simp only [isTup]
        rw [← Bool.not_eq_true]
        simp
        omega
      have hf : fitsI (.tuple ds) = false := by
        match ds, hl with
        | [], _ => rfl
        | [_], _ => rfl
        | [_, _], _ => rfl
        | [_, _, _], hl => exact absurd rfl hl
        | _ :: _ :: _ :: _ :: _, _ => rfl
      rw [hf]
      unfold m_fits_ingot mDef b_fits_ingot
      simp [ht]
  | dict es => cases hn
  | _ => (unfold m_fits_ingot mDef b_fits_ingot fitsI; simp [isTup])
def NBI (d : D) : Prop := m_fits_ingots [some (.val d)] = .ok (.val (.bool false), [some (.val d)])
theorem NB_of {d : D} (h : m_fits_ingots [some (.val d)] = .ok (.val (.bool false), [some (.val d)])) : NBI d := h
theorem NB_len {d : D} (hn : noD d = true) (h : isTup 1 8 d = false) : NBI d := by
  refine NB_of ?_
  unfold m_fits_ingots mDef b_fits_ingots
  simp [hn, h]
theorem NB_odd {ds : List D} (hs : ∀ d ∈ ds, Shrt d) (h : ∃ d ∈ ds, fitsI d = false) : NBI (.tuple ds) := by
  by_cases hl : 1 ≤ ds.length ∧ ds.length ≤ 8
  · refine NB_of ?_
    have ht : isTup 1 8 (.tuple ds) = true := by simp [isTup]; omega
    have hz : sz ds.length := sz_of (by omega)
    have e : lcL (mgName 1) mYes (mD (mCall m_fits_ingot (mCons (mVar 1) mNil))) [1] ds [some (.val (.tuple ds)), none] = .ok (ds.map fun d => .bool (fitsI d), [some (.val (.tuple ds)), none]) := by
      refine lcL_map fun e he => ⟨[some (.val (.tuple ds)), some (.val e)], by simp, ?_, by simp⟩
      simp [g_fits_ingot e (hs e he)]
    have ha : ds.all fitsI = false := by
      obtain ⟨d, hd, hf⟩ := h
      rw [List.all_eq_false]
      exact ⟨d, hd, by simp [hf]⟩
    unfold m_fits_ingots mDef b_fits_ingots
    simp [-List.all_eq_true, -List.all_eq_false, ht, seqD, e, hz, p_all, ha]
  · refine NB_len (by simp) ?_
    simp only [isTup]
    rw [← Bool.not_eq_true]
    simp
    omega
/-- of ingots, each with metals of its own -/
theorem g_ingots_gen {is : List Ing} (hl : 1 ≤ is.length ∧ is.length ≤ 8) (h : ∀ i ∈ is, ∃ m, (1 ≤ m ∧ m ≤ 4) ∧ IsIng m i) :
    m_fits_ingots [some (.val (DL.TI is))] = .ok (.val (.bool ((((is.map (·.n)).zip (is.map (·.n)).tail).all fun p => slt p.1 p.2) && decide (setN (is.map fun i => (i.p.length : Int)) = 1))), [some (.val (DL.TI is))]) := by
  have ht : isTup 1 8 (DL.TI is) = true := by simp [isTup]; omega
  have hz : sz is.length := sz_of (by omega)
  have e : lcL (mgName 1) mYes (mD (mCall m_fits_ingot (mCons (mVar 1) mNil))) [1] (is.map ingD) [some (.val (DL.TI is)), none] = .ok (is.map fun _ => .bool true, [some (.val (DL.TI is)), none]) :=
    lcL_of ingD (fun _ => .bool true) fun i hi => ⟨[some (.val (DL.TI is)), some (.val (ingD i))], by simp, by obtain ⟨m, hm, hh⟩ := h i hi; simp [g_ingot hm hh], by simp⟩
  have ha : dAll (.list (is.map fun _ => .bool true)) = .ok (.bool true) := by
    rw [p_all is fun _ => true]
    simp
  have e2 : lcL (mgName 1) mYes (mBinP dIx 1 (mC (.int 0))) [1] (is.map ingD) [some (.val (DL.TI is)), none] = .ok (is.map fun i => .str i.n, [some (.val (DL.TI is)), none]) :=
    lcL_of ingD (fun i => .str i.n) fun i hi => ⟨[some (.val (DL.TI is)), some (.val (ingD i))], by simp, by simp [ing0], by simp⟩
  have m2 : (is.map fun i => PyData.str i.n) = (is.map (·.n)).map .str := by rw [List.map_map]; rfl
  rw [m2] at e2
  have r := p_rising_str (is.map (·.n)) (by rw [List.length_map]; omega)
  have e3 : lcL (mgName 1) mYes (mUn dLen (mBinP dIx 1 (mC (.int 2)))) [1] (is.map ingD) [some (.val (DL.TI is)), none] = .ok (is.map fun i => .int (i.p.length : Int), [some (.val (DL.TI is)), none]) :=
    lcL_of ingD (fun i => .int (i.p.length : Int)) fun i hi => ⟨[some (.val (DL.TI is)), some (.val (ingD i))], by simp, by simp [ing2], by simp⟩
  have m3 : (is.map fun i => PyData.int (i.p.length : Int)) = (is.map fun i => (i.p.length : Int)).map .int := by rw [List.map_map]; rfl
  rw [m3] at e3
  have z3 : is.length ≤ 4000 := by omega
  have ls : dLenSet (.list ((is.map fun i => (i.p.length : Int)).map .int)) = .ok (.int (setN (is.map fun i => (i.p.length : Int)))) := by
    rw [x_lenSet, intsOf_map]
    simp [z3]
  have zs : sz ((is.map (·.n)).map PyData.str).length := sz_of (by simp; omega)
  have zs3 : sz ((is.map fun i => (i.p.length : Int)).map PyData.int).length := sz_of (by simp; omega)
  generalize (((is.map (·.n)).zip (is.map (·.n)).tail).all fun p => slt p.1 p.2) = rb at *
  have sn1 : ((setN (is.map fun i => (i.p.length : Int)) : Nat) : Int) = 1 ↔ setN (is.map fun i => (i.p.length : Int)) = 1 := by omega
  generalize setN (is.map fun i => (i.p.length : Int)) = sn at *
  unfold m_fits_ingots mDef b_fits_ingots
  unfold DL.TI at *
  generalize (is.map (·.n)).map PyData.str = k1 at *
  generalize (is.map fun i => (i.p.length : Int)).map PyData.int = k2 at *
  cases rb with
  | false => simp [ht, seqD, e, hz, ha, e2, r, e3, ls, zs, zs3, -x_lenSet]
  | true =>
    simp [ht, seqD, e, hz, ha, e2, r, e3, ls, zs, zs3, -x_lenSet]
    try (rw [Bool.eq_iff_iff]; simp; omega)
theorem cut_init {α : Type} (xs : List α) : DL.cutD xs none (some (-1)) = xs.dropLast := by
  rw [List.dropLast_eq_take]
  unfold DL.cutD HT.sIx
  simp
  cases xs with
  | nil => rfl
  | cons a r =>
    congr 1
    simp
    omega
theorem rep_tup {x : D} {n : Nat} (h : n ≤ 12) : dMul (.tuple [x]) (.int n) = .ok (.tuple (List.replicate n x)) := by
  unfold dMul
  simp only []
  rw [Rs.grd_pos ⟨by omega, by omega, by simp; exact Nat.le_trans h (by decide)⟩]
  simp [rep_one]
theorem shrt3 {a b c : D} (n : nice 4 (.tuple [a, b, c])) (h : ∀ z, a = .str z → z.length ≤ 1000) : Shrt (.tuple [a, b, c]) := ⟨n, fun a' b' c' e z hz => by
  cases e
  exact h z hz⟩
theorem shrtN {d : D} (n : nice 4 d) (h : ∀ a b c, d ≠ .tuple [a, b, c]) : Shrt d := ⟨n, fun a b c e => (h a b c e).elim⟩
theorem shrt_ing {i : Ing} (h : i.n.length ≤ 1000) : Shrt (ingD i) := shrt3 ((ing_nice i).mono (by omega)) fun z e => by
  cases e
  exact h
theorem none_of {g : MG} {c : SM Bool} {e : SM D} {vs : List Nat} {ρ : DE} {ds : List D} (h : ∀ d ∈ ds, ∃ ρ1, g d (wipeD ρ vs) = .ok ρ1 ∧ c ρ1 = .ok (false, ρ1) ∧ unw ρ ρ1 vs = ρ) : lcL g c e vs ds ρ = .ok ([], ρ) := by
  have := lcL_pure (g := g) (c := c) (e := e) (vs := vs) (ρ := ρ) (f := fun d => d) (k := fun _ => false) (ds := ds) fun d hd => by
    obtain ⟨ρ1, h1, h2, h3⟩ := h d hd
    exact ⟨ρ1, h1, h2, (fun z => by cases z), h3⟩
  rw [this]
  simp
/-- how many unlike numbers: one only if all are alike -/
theorem setN_one {ns : List Int} (h : setN ns = 1) : ∀ x ∈ ns, ∀ y ∈ ns, x = y := by
  have any : ∀ k : Int, (ns.foldl step_dedup []).any (· == k) = ns.any (· == k) := fun k => by
    have := firstMet_any (fun i => ns.getD i 0) ns.length k
    rw [firstMet_all] at this
    rw [this]
    congr 1
    apply List.ext_getElem
    · simp
    · intro i h1 h2
      simp [List.getElem_range, List.getD_eq_getElem?_getD, List.getElem?_eq_getElem h2]
  unfold setN at h
  obtain ⟨a, ha⟩ := List.length_eq_one_iff.mp h
  rw [ha] at any
  have one : ∀ x ∈ ns, x = a := fun x hx => by
    have h1 : ns.any (· == x) = true := List.any_eq_true.mpr ⟨x, hx, by simp⟩
    rw [← any x] at h1
    simp at h1
    exact h1.symm
  intro x hx y hy
  rw [one x hx, one y hy]
theorem slt_trans {a b c : Str} (h : slt a b = true) (h' : slt b c = true) : slt a c = true := by
  unfold slt at *
  simp only [decide_eq_true_eq] at *
  exact List.lt_trans h h'
theorem slt_irr (a : Str) : slt a a = false := by
  unfold slt
  simp [List.lt_irrefl]
theorem rise_pair : ∀ {ks : List Str}, (ks.zip ks.tail).all (fun p => slt p.1 p.2) = true → ks.Pairwise fun a b => slt a b = true
  | [], _ => .nil
  | [_], _ => by simp
  | a :: b :: r, h => by
    simp only [List.tail_cons, List.zip_cons_cons, List.all_cons, Bool.and_eq_true] at h
    have ih := rise_pair (ks := b :: r) (by simp only [List.tail_cons]; exact h.2)
    rw [List.pairwise_cons]
    refine ⟨fun x hx => ?_, ih⟩
    rcases List.mem_cons.mp hx with rfl | hx
    · exact h.1
    · exact slt_trans h.1 ((List.pairwise_cons.mp ih).1 x hx)
end DL
namespace K42
open PySem PySem.Spec PyProof.Rows L2 DL
def topS (i : Nat) : Stmt := PySem.Challenge.pw_mintscales_k42_whole_ingots_and_mixtures.main.body.getD i (.Pass ⟨0, 0, 0, 0⟩)
structure Gs (mg : Str → Option Value) : Prop where
  b_abs : mg "abs" = none
  b_all : mg "all" = none
  b_bool : mg "bool" = none
  b_int : mg "int" = none
  b_isinstance : mg "isinstance" = none
  b_len : mg "len" = none
  b_list : mg "list" = none
  b_max : mg "max" = none
  b_range : mg "range" = none
  b_set : mg "set" = none
  b_sorted : mg "sorted" = none
  b_str : mg "str" = none
  b_sum : mg "sum" = none
  b_tuple : mg "tuple" = none
  b_zip : mg "zip" = none
  g_INGOTS : Glb mg "INGOTS" (.int 8)
  g_LETTERS : Glb mg "LETTERS" (.str "abcdefghijklmnopqrstuvwxyz")
  g_LONGEST : Glb mg "LONGEST" (.int 12)
  g_METALS : Glb mg "METALS" (.int 4)
  g_SIGNS : Glb mg "SIGNS" (.str "abcdefghijklmnopqrstuvwxyz0123456789")
  g_THOUSAND : Glb mg "THOUSAND" (.int 1000)
noncomputable section
abbrev m__law_cup : SM Slot := Lib.m__law_cup 61 293 4091 2077502969 199
theorem ln__law_cup : ∀ (ρ : DE) (q : Slot × DE), m__law_cup ρ = .ok q → ρ.length = 1 := Lib.ln__law_cup 61 293 4091 2077502969 199
abbrev m__law_roll : SM Slot := Lib.m__law_roll 30911 7927 2147483069 229 2147483077 809
theorem ln__law_roll : ∀ (ρ : DE) (q : Slot × DE), m__law_roll ρ = .ok q → ρ.length = 2 := Lib.ln__law_roll 30911 7927 2147483069 229 2147483077 809
def b__law_bent_bounds_0 : SM D :=
  (mBin dAdd (mBin dAdd (mCutP 1 none (some (mVar 2))) (mTup (mCons (mVar 7) mNil))) (mCutP 1 (some (mBinP dAdd 2 (mC (.int 1)))) none))
def b__law_bent_bounds : MS :=
  (mSq (mSetR 2 (mCallO m__law_roll 0 (mCons (mUn dLen (mPeek 1)) mNil)))
  (mSq (mAsgG (mgTup 2 (mgCons (mgName 3) (mgCons (mgName 4) mgNil))) (mBinP dIx 1 (mPeek 2)))
  (mSq (mSetF 5 (mLst (mCons (mTup (mCons (mBinP dAdd 4 (mC (.int 1))) (mCons (mVar 4) mNil))) (mCons (mTup (mCons (mUn dNeg (mC (.int 1))) (mCons (mVar 4) mNil))) (mCons (mTup (mCons (mVar 3) (mCons (mC (.int 1001)) mNil))) (mCons (mTup (mCons (mVar 3) mNil)) (mCons (mTup (mCons (mVar 3) (mCons (mVar 4) (mCons (mVar 4) mNil)))) (mCons (mLst (mCons (mVar 3) (mCons (mVar 4) mNil))) (mCons (mTup (mCons (mC .none) (mCons (mVar 4) mNil))) (mCons (mTup (mCons (mVar 3) (mCons (mC (.str "9")) mNil))) (mCons (mTup (mCons (mC (.bool true)) (mCons (mVar 4) mNil))) (mCons (mVar 3) (mCons (mC .none) mNil)))))))))))))
  (mSq (mSetF 6 (mLc (mSeq (mVar 5)) (mgName 7) mYes b__law_bent_bounds_0 [7]))
  (mRtR (mO (mBinP dCatL 6 (mLst (mCons (mUn dList (mPeek 1)) (mCons (mBinP dAdd 1 (mCutP 1 (some (mUn dNeg (mC (.int 1)))) none)) (mCons (mCutP 1 none (some (mUn dNeg (mC (.int 1))))) (mCons (mC .none) (mCons (mC (.str "bounds")) (mCons (mBinP dIx 1 (mPeek 2)) (mCons (mTup mNil) mNil)))))))))))))))
def m__law_bent_bounds : SM Slot := mDef 2 6 [0] b__law_bent_bounds
theorem ln__law_bent_bounds : ∀ (ρ : DE) (q : Slot × DE), m__law_bent_bounds ρ = .ok q → ρ.length = 2 := mDef_len
def b__law_bent_ingots_0 : SM D :=
  (mBin dAdd (mBin dAdd (mCutP 1 none (some (mVar 2))) (mTup (mCons (mVar 8) mNil))) (mCutP 1 (some (mBinP dAdd 2 (mC (.int 1)))) none))
def b__law_bent_ingots : MS :=
  (mSq (mSetR 2 (mCallO m__law_roll 0 (mCons (mUn dLen (mPeek 1)) mNil)))
  (mSq (mAsgG (mgTup 3 (mgCons (mgName 3) (mgCons (mgName 4) (mgCons (mgName 5) mgNil)))) (mBinP dIx 1 (mPeek 2)))
  (mSq (mSetF 6 (mLst (mCons (mTup (mCons (mVar 3) (mCons (mC (.int 0)) (mCons (mVar 5) mNil)))) (mCons (mTup (mCons (mVar 3) (mCons (mC (.int 1001)) (mCons (mVar 5) mNil)))) (mCons (mTup (mCons (mVar 3) (mCons (mC (.bool true)) (mCons (mVar 5) mNil)))) (mCons (mTup (mCons (mVar 3) (mCons (mC .none) (mCons (mVar 5) mNil)))) (mCons (mTup (mCons (mC (.str "A")) (mCons (mVar 4) (mCons (mVar 5) mNil)))) (mCons (mTup (mCons (mC (.str "")) (mCons (mVar 4) (mCons (mVar 5) mNil)))) mNil))))))))
  (mSq (mSetF 6 (mBinP dCatL 6 (mLst (mCons (mTup (mCons (mC .none) (mCons (mVar 4) (mCons (mVar 5) mNil)))) (mCons (mTup (mCons (mVar 3) (mCons (mVar 4) mNil))) (mCons (mTup (mCons (mVar 3) (mCons (mVar 4) (mCons (mVar 5) (mCons (mVar 5) mNil))))) (mCons (mLst (mCons (mVar 3) (mCons (mVar 4) (mCons (mVar 5) mNil)))) (mCons (mTup (mCons (mVar 3) (mCons (mVar 4) (mCons (mUn dList (mPeek 5)) mNil)))) (mCons (mC .none) mNil)))))))))
  (mSq (mSetF 6 (mBinP dCatL 6 (mLst (mCons (mTup (mCons (mVar 3) (mCons (mVar 4) (mCons (mBin dAdd (mCutP 5 none (some (mUn dNeg (mC (.int 1))))) (mTup (mCons (mBin dAdd (mBinP dIx 5 (mUn dNeg (mC (.int 1)))) (mC (.int 1))) mNil))) mNil)))) (mCons (mTup (mCons (mVar 3) (mCons (mVar 4) (mCons (mTup mNil) mNil)))) (mCons (mTup (mCons (mVar 3) (mCons (mVar 4) (mCons (mBin dAdd (mCutP 5 none (some (mUn dNeg (mC (.int 1))))) (mTup (mCons (mC .none) mNil))) mNil)))) (mCons (mVar 3) mNil)))))))
  (mSq (mSetF 6 (mBinP dCatL 6 (mLst (mCons (mTup (mCons (mVar 3) (mCons (mVar 4) (mCons (mBinP dAdd 5 (mBin dMul (mTup (mCons (mC (.int 0)) mNil)) (mBin dSub (mC (.int 5)) (mUn dLen (mPeek 5))))) mNil)))) (mCons (mTup (mCons (mVar 3) (mCons (mVar 4) (mCons (mBin dAdd (mTup (mCons (mUn dNeg (mC (.int 1))) (mCons (mC (.int 1001)) mNil))) (mCutP 5 (some (mC (.int 2))) none)) mNil)))) (mCons (mTup (mCons (mVar 3) (mCons (mVar 4) (mCons (mC (.int 1000)) mNil)))) mNil))))))
  (mSq (mSetF 7 (mBin dCatL (mLc (mSeq (mVar 6)) (mgName 8) mYes b__law_bent_ingots_0 [8]) (mLst (mCons (mUn dList (mPeek 1)) (mCons (mTup mNil) (mCons (mC .none) (mCons (mBinP dAdd 1 (mCutP 1 (some (mVar 2)) (some (mBinP dAdd 2 (mC (.int 1)))))) (mCons (mBinP dIx 1 (mPeek 2)) (mCons (mC (.str "ingots")) mNil)))))))))
  (mSq (mIfS (mTest (mBin (dOrd fGt) (mUn dLen (mPeek 1)) (mC (.int 1)))) (mSetF 7 (mBinP dCatL 7 (mLst (mCons (mUn dRev (mPeek 1)) (mCons (mBin dAdd (mBin dAdd (mCutP 1 none (some (mVar 2))) (mTup (mCons (mTup (mCons (mVar 3) (mCons (mVar 4) (mCons (mBinP dAdd 5 (mTup (mCons (mC (.int 0)) mNil))) mNil)))) mNil))) (mCutP 1 (some (mBinP dAdd 2 (mC (.int 1)))) none)) mNil))))) mNx)
  (mRtR (mVarR 7))))))))))
def m__law_bent_ingots : SM Slot := mDef 2 7 [0] b__law_bent_ingots
theorem ln__law_bent_ingots : ∀ (ρ : DE) (q : Slot × DE), m__law_bent_ingots ρ = .ok q → ρ.length = 2 := mDef_len
abbrev m__law_some : SM Slot := Lib.m__law_some m__law_roll
theorem ln__law_some : ∀ (ρ : DE) (q : Slot × DE), m__law_some ρ = .ok q → ρ.length = 2 := Lib.ln__law_some m__law_roll
abbrev m__law_names : SM Slot := Lib.m__law_names m__law_some
theorem ln__law_names : ∀ (ρ : DE) (q : Slot × DE), m__law_names ρ = .ok q → ρ.length = 2 := Lib.ln__law_names m__law_some
abbrev m__law_parts : SM Slot := Lib.m__law_parts m__law_some m__law_roll 1000
theorem ln__law_parts : ∀ (ρ : DE) (q : Slot × DE), m__law_parts ρ = .ok q → ρ.length = 2 := Lib.ln__law_parts m__law_some m__law_roll 1000
abbrev m__law_ingots : SM Slot := Lib.m__law_ingots m__law_roll m__law_names m__law_some m__law_parts 1000
theorem ln__law_ingots : ∀ (ρ : DE) (q : Slot × DE), m__law_ingots ρ = .ok q → ρ.length = 2 := Lib.ln__law_ingots m__law_roll m__law_names m__law_some m__law_parts 1000
def b__law_is_whole : MS :=
  (mRt (mAnd (mUn (dIsi .int) (mPeek 0)) (mNot (mUn (dIsi .bool) (mPeek 0)))))
def m__law_is_whole : SM Slot := mDef 1 0 [] b__law_is_whole
theorem ln__law_is_whole : ∀ (ρ : DE) (q : Slot × DE), m__law_is_whole ρ = .ok q → ρ.length = 1 := mDef_len
def b__law_is_mixture_0 : MS :=
  (mIfS (mOrT (mNotT (mTru (mD (mCall m__law_is_whole (mCons (mVar 2) mNil))))) (mNotT (mTest (mChain (dOrd fLe) (dOrd fLe) (mC (.int 0)) (mVar 2) (mBin dMul (mBinP dIx 1 (mC (.int 0))) (mBinP dIx 3 (mC (.int 1)))))))) (mRt (mC (.bool false))) mNx)
def b__law_is_mixture : MS :=
  (mSq (mIfS (mOrT (mNotT (mTru (mUn (dIsi .tuple) (mPeek 1)))) (mOrT (mTest (mBin (dEq true) (mUn dLen (mPeek 1)) (mC (.int 2)))) (mOrT (mNotT (mTru (mD (mCall m__law_is_whole (mCons (mBinP dIx 1 (mC (.int 0))) mNil))))) (mTest (mBin (dOrd fLt) (mBinP dIx 1 (mC (.int 0))) (mC (.int 1))))))) (mRt (mC (.bool false))) mNx)
  (mSq (mIfS (mOrT (mNotT (mTru (mUn (dIsi .tuple) (mBinP dIx 1 (mC (.int 1)))))) (mTest (mBin (dEq true) (mUn dLen (mBinP dIx 1 (mC (.int 1)))) (mUn dLen (mPeek 0))))) (mRt (mC (.bool false))) mNx)
  (mSq (mFor (mZip (mBinP dIx 1 (mC (.int 1))) (mVar 0)) (mgTup 2 (mgCons (mgName 2) (mgCons (mgName 3) mgNil))) b__law_is_mixture_0)
  (mRt (mBin (dOrd fGt) (mUn dSum (mBinP dIx 1 (mC (.int 1)))) (mC (.int 0)))))))
def m__law_is_mixture : SM Slot := mDef 2 2 [] b__law_is_mixture
theorem ln__law_is_mixture : ∀ (ρ : DE) (q : Slot × DE), m__law_is_mixture ρ = .ok q → ρ.length = 2 := mDef_len
abbrev m__law_mixture : SM Slot := Lib.m__law_mixture m__law_some m__law_roll 1000
theorem ln__law_mixture : ∀ (ρ : DE) (q : Slot × DE), m__law_mixture ρ = .ok q → ρ.length = 2 := Lib.ln__law_mixture m__law_some m__law_roll 1000
def b__law_near_0 : SM D :=
  (mTup (mCons (mVar 3) (mCons (mBin dAdd (mBin dAdd (mCutP 4 none (some (mVar 5))) (mTup (mCons (mVar 9) mNil))) (mCutP 4 (some (mBinP dAdd 5 (mC (.int 1)))) none)) mNil)))
def b__law_near : MS :=
  (mSq (mAsgG (mgTup 2 (mgCons (mgName 3) (mgCons (mgName 4) mgNil))) (mVar 2))
  (mSq (mSetR 5 (mCallO m__law_roll 0 (mCons (mUn dLen (mPeek 1)) mNil)))
  (mSq (mSet 6 (mBinP dMul 3 (mBin dIx (mBinP dIx 1 (mPeek 5)) (mC (.int 1)))))
  (mSq (mSetF 7 (mLst (mCons (mVar 6) (mCons (mBinP dAdd 6 (mC (.int 1))) (mCons (mUn dNeg (mC (.int 1))) (mCons (mC (.int 0)) (mCons (mC .none) (mCons (mC (.bool true)) (mCons (mC (.str "1")) (mCons (mTup (mCons (mC (.int 1)) mNil)) mNil))))))))))
  (mSq (mSetF 8 (mBin dCatL (mLc (mSeq (mVar 7)) (mgName 9) mYes b__law_near_0 [9]) (mLst (mCons (mTup (mCons (mC (.int 0)) (mCons (mVar 4) mNil))) (mCons (mTup (mCons (mUn dNeg (mC (.int 1))) (mCons (mVar 4) mNil))) (mCons (mTup (mCons (mC (.bool true)) (mCons (mVar 4) mNil))) (mCons (mTup (mCons (mC .none) (mCons (mVar 4) mNil))) mNil)))))))
  (mSq (mSetF 8 (mBinP dCatL 8 (mLst (mCons (mTup (mCons (mVar 3) (mCons (mBin dMul (mTup (mCons (mC (.int 0)) mNil)) (mUn dLen (mPeek 1))) mNil))) (mCons (mTup (mCons (mVar 3) (mCons (mBinP dAdd 4 (mTup (mCons (mC (.int 0)) mNil))) mNil))) (mCons (mTup (mCons (mVar 3) (mCons (mCutP 4 (some (mC (.int 1))) none) mNil))) (mCons (mTup (mCons (mVar 3) (mCons (mUn dList (mPeek 4)) mNil))) (mCons (mUn dList (mPeek 2)) mNil))))))))
  (mSq (mApp 8 (mCutP 2 none (some (mC (.int 1)))))
  (mRtR (mO (mBinP dCatL 8 (mLst (mCons (mTup (mCons (mVar 4) (mCons (mVar 3) mNil))) (mCons (mBinP dAdd 2 (mTup (mCons (mC (.int 1)) mNil))) (mCons (mVar 4) (mCons (mC .none) (mCons (mTup (mCons (mBinP dAdd 3 (mC (.int 1))) (mCons (mVar 4) mNil))) (mCons (mTup (mCons (mBin dPow (mC (.int 10)) (mC (.int 20))) (mCons (mVar 4) mNil))) (mCons (mTup (mCons (mUn dStr (mPeek 3)) (mCons (mVar 4) mNil))) mNil))))))))))))))))))
def m__law_near : SM Slot := mDef 3 7 [0] b__law_near
theorem ln__law_near : ∀ (ρ : DE) (q : Slot × DE), m__law_near ρ = .ok q → ρ.length = 3 := mDef_len
abbrev b__law_same : SM Slot → MS := Lib.b__law_same
abbrev r__law_same : Nat → SM Slot := Lib.r__law_same
abbrev m__law_same : SM Slot := r__law_same 4
theorem lr__law_same : ∀ (i : Nat) (ρ : DE) (q : Slot × DE), r__law_same i ρ = .ok q → ρ.length = 2 := Lib.lr__law_same
theorem ln__law_same : ∀ (ρ : DE) (q : Slot × DE), m__law_same ρ = .ok q → ρ.length = 2 := lr__law_same _
abbrev m_is_whole : SM Slot := Lib.m_is_whole
theorem ln_is_whole : ∀ (ρ : DE) (q : Slot × DE), m_is_whole ρ = .ok q → ρ.length = 1 := Lib.ln_is_whole
abbrev m_fits_whole : SM Slot := Lib.m_fits_whole
theorem ln_fits_whole : ∀ (ρ : DE) (q : Slot × DE), m_fits_whole ρ = .ok q → ρ.length = 3 := Lib.ln_fits_whole
abbrev m_is_tuple_of : SM Slot := Lib.m_is_tuple_of
theorem ln_is_tuple_of : ∀ (ρ : DE) (q : Slot × DE), m_is_tuple_of ρ = .ok q → ρ.length = 3 := Lib.ln_is_tuple_of
abbrev m_fits_bounds : SM Slot := Lib.m_fits_bounds
theorem ln_fits_bounds : ∀ (ρ : DE) (q : Slot × DE), m_fits_bounds ρ = .ok q → ρ.length = 2 := Lib.ln_fits_bounds
abbrev m_fits_name : SM Slot := Lib.m_fits_name
theorem ln_fits_name : ∀ (ρ : DE) (q : Slot × DE), m_fits_name ρ = .ok q → ρ.length = 1 := Lib.ln_fits_name
abbrev m_fits_parts : SM Slot := Lib.m_fits_parts
theorem ln_fits_parts : ∀ (ρ : DE) (q : Slot × DE), m_fits_parts ρ = .ok q → ρ.length = 1 := Lib.ln_fits_parts
abbrev m_fits_ingot : SM Slot := Lib.m_fits_ingot
theorem ln_fits_ingot : ∀ (ρ : DE) (q : Slot × DE), m_fits_ingot ρ = .ok q → ρ.length = 1 := Lib.ln_fits_ingot
abbrev m_is_rising : SM Slot := Lib.m_is_rising
theorem ln_is_rising : ∀ (ρ : DE) (q : Slot × DE), m_is_rising ρ = .ok q → ρ.length = 1 := Lib.ln_is_rising
abbrev m_fits_ingots : SM Slot := Lib.m_fits_ingots
theorem ln_fits_ingots : ∀ (ρ : DE) (q : Slot × DE), m_fits_ingots ρ = .ok q → ρ.length = 1 := Lib.ln_fits_ingots
abbrev m_need_ingots : SM Slot := Lib.m_need_ingots
theorem ln_need_ingots : ∀ (ρ : DE) (q : Slot × DE), m_need_ingots ρ = .ok q → ρ.length = 1 := Lib.ln_need_ingots
def b_are_bounds : MS :=
  (mSq (mDrp (mD (mCall m_need_ingots (mCons (mVar 0) mNil))))
  (mRtR (mCall m_fits_bounds (mCons (mVar 0) (mCons (mVar 1) mNil)))))
def m_are_bounds : SM Slot := mDef 2 0 [] b_are_bounds
theorem ln_are_bounds : ∀ (ρ : DE) (q : Slot × DE), m_are_bounds ρ = .ok q → ρ.length = 2 := mDef_len
def b_are_ingots : MS :=
  (mRtR (mCall m_fits_ingots (mCons (mVar 0) mNil)))
def m_are_ingots : SM Slot := mDef 1 0 [] b_are_ingots
theorem ln_are_ingots : ∀ (ρ : DE) (q : Slot × DE), m_are_ingots ρ = .ok q → ρ.length = 1 := mDef_len
abbrev m_fits_mixture : SM Slot := Lib.m_fits_mixture
theorem ln_fits_mixture : ∀ (ρ : DE) (q : Slot × DE), m_fits_mixture ρ = .ok q → ρ.length = 2 := Lib.ln_fits_mixture
def b_is_mixture : MS :=
  (mSq (mDrp (mD (mCall m_need_ingots (mCons (mVar 0) mNil))))
  (mRtR (mCall m_fits_mixture (mCons (mVar 0) (mCons (mVar 1) mNil)))))
def m_is_mixture : SM Slot := mDef 2 0 [] b_is_mixture
theorem ln_is_mixture : ∀ (ρ : DE) (q : Slot × DE), m_is_mixture ρ = .ok q → ρ.length = 2 := mDef_len
def b__law_right_0 : SM Bool :=
  (mTest (mBin (dIs true) (mD (mCall m_are_ingots (mCons (mVar 2) mNil))) (mC (.bool false))))
def b__law_right_1 : SM D :=
  (mVar 2)
def b__law_right_2 : SM D :=
  (mD (mCallO m__law_some 0 (mCons (mLst (mCons (mTup (mCons (mC (.int 0)) (mCons (mC (.int 1000)) mNil))) (mCons (mTup (mCons (mC (.int 0)) (mCons (mC (.int 0)) mNil))) (mCons (mTup (mCons (mC (.int 1000)) (mCons (mC (.int 1000)) mNil))) (mCons (mTup (mCons (mC (.int 5)) (mCons (mC (.int 6)) mNil))) (mCons (mTup (mCons (mD (mCallO m__law_roll 0 (mCons (mC (.int 500)) mNil))) (mCons (mC (.int 500)) mNil))) mNil)))))) mNil)))
def b__law_right_3 : SM Bool :=
  (mTest (mBin (dIs true) (mD (mCall m_are_bounds (mCons (mVar 1) (mCons (mVar 2) mNil)))) (mC (.bool false))))
def b__law_right_4 : SM D :=
  (mVar 2)
def b__law_right_5 : SM Bool :=
  (mNotT (mTru (mD (mCall m__law_same (mCons (mD (mCall m_is_mixture (mCons (mVar 1) (mCons (mVar 2) mNil)))) (mCons (mD (mCall m__law_is_mixture (mCons (mVar 1) (mCons (mVar 2) mNil)))) mNil))))))
def b__law_right_6 : SM D :=
  (mVar 2)
def b__law_right : MS :=
  (mSq (mSetR 1 (mCallO m__law_ingots 0 (mCons (mC (.int 8)) mNil)))
  (mSq (mIfS (mOrT (mTest (mBin (dIs true) (mD (mCall m_are_ingots (mCons (mVar 1) mNil))) (mC (.bool true)))) (mTest (mBin (dEq true) (mLc (mSeq (mD (mCallO m__law_bent_ingots 0 (mCons (mVar 1) mNil)))) (mgName 2) b__law_right_0 b__law_right_1 [2]) (mLst mNil)))) (mRt (mC (.bool false))) mNx)
  (mSq (mSet 3 (mUn dLen (mBin dIx (mBinP dIx 1 (mC (.int 0))) (mC (.int 2)))))
  (mSq (mSet 4 (mUn dTup (mLc (mRng1 (mVar 3)) (mgName 5) mYes b__law_right_2 [5])))
  (mSq (mIfS (mOrT (mTest (mBin (dIs true) (mD (mCall m_are_bounds (mCons (mVar 1) (mCons (mVar 4) mNil)))) (mC (.bool true)))) (mTest (mBin (dEq true) (mLc (mSeq (mD (mCallO m__law_bent_bounds 0 (mCons (mVar 4) mNil)))) (mgName 2) b__law_right_3 b__law_right_4 [2]) (mLst mNil)))) (mRt (mC (.bool false))) mNx)
  (mSq (mSetR 6 (mCallO m__law_mixture 0 (mCons (mVar 1) mNil)))
  (mSq (mSetF 7 (mBin dCatL (mD (mCallO m__law_near 0 (mCons (mVar 1) (mCons (mVar 6) mNil)))) (mLst (mCons (mVar 6) mNil))))
  (mRt (mBin (dEq false) (mLc (mSeq (mVar 7)) (mgName 2) b__law_right_5 b__law_right_6 [2]) (mLst mNil))))))))))
def m__law_right : SM Slot := mDef 1 7 [0] b__law_right
theorem ln__law_right : ∀ (ρ : DE) (q : Slot × DE), m__law_right ρ = .ok q → ρ.length = 1 := mDef_len
def b__law_written_0 : SM D :=
  (mBin dAdd (mC (.str "i")) (mUn dStr (mPeek 2)))
def b__law_written_1 : SM D :=
  (mTup (mCons (mVar 5) (mCons (mC (.int 1000)) (mCons (mTup (mCons (mVar 3) (mCons (mC (.int 0)) (mCons (mBin dSub (mC (.int 1000)) (mPeek 3)) (mCons (mC (.int 0)) mNil))))) mNil))))
def b__law_written_2 : SM D :=
  (mD (mCall m_are_ingots (mCons (mVar 8) mNil)))
def b__law_written_3 : SM D :=
  (mD (mCall m_is_mixture (mCons (mVar 9) (mCons (mVar 8) mNil))))
def b__law_written : MS :=
  (mSq (mSetF 1 (mLc (mRng1 (mC (.int 9))) (mgName 2) mYes b__law_written_0 [2]))
  (mSq (mSetR 3 (mCallO m__law_roll 0 (mCons (mC (.int 1001)) mNil)))
  (mSq (mSet 4 (mUn dTup (mLc (mSeq (mVar 1)) (mgName 5) mYes b__law_written_1 [5])))
  (mSq (mSet 6 (mTup (mCons (mTup (mCons (mC (.str "a")) (mCons (mC (.int 1)) (mCons (mTup (mCons (mVar 3) (mCons (mC (.int 0)) (mCons (mC (.int 0)) (mCons (mC (.int 0)) (mCons (mBin dSub (mC (.int 1000)) (mPeek 3)) mNil)))))) mNil)))) mNil)))
  (mSq (mSetF 7 (mLc (mSeq (mTup (mCons (mCutP 4 none (some (mC (.int 8)))) (mCons (mVar 4) (mCons (mVar 6) (mCons (mTup (mCons (mTup (mCons (mC (.str "a")) (mCons (mC (.int 1)) (mCons (mTup (mCons (mC (.int 1000)) mNil)) mNil)))) mNil)) (mCons (mTup (mCons (mTup (mCons (mC (.str "a")) (mCons (mC (.int 1)) (mCons (mTup (mCons (mC (.int 999)) mNil)) mNil)))) mNil)) (mCons (mTup (mCons (mTup (mCons (mC (.str "a")) (mCons (mC (.int 1000)) (mCons (mTup (mCons (mC (.int 0)) (mCons (mC (.int 1000)) mNil))) mNil)))) mNil)) mNil)))))))) (mgName 8) mYes b__law_written_2 [8]))
  (mSq (mIfS (mTest (mBinP (dEq true) 7 (mLst (mCons (mC (.bool true)) (mCons (mC (.bool false)) (mCons (mC (.bool false)) (mCons (mC (.bool true)) (mCons (mC (.bool false)) (mCons (mC (.bool true)) mNil))))))))) (mRt (mC (.bool false))) mNx)
  (mSq (mSet 9 (mTup (mCons (mTup (mCons (mC (.str "a")) (mCons (mC (.int 3)) (mCons (mTup (mCons (mC (.int 1000)) mNil)) mNil)))) (mCons (mTup (mCons (mC (.str "b")) (mCons (mC (.int 2)) (mCons (mTup (mCons (mC (.int 1000)) mNil)) mNil)))) mNil))))
  (mSq (mSetF 7 (mLc (mSeq (mTup (mCons (mTup (mCons (mC (.int 1)) (mCons (mTup (mCons (mC (.int 3)) (mCons (mC (.int 2)) mNil))) mNil))) (mCons (mTup (mCons (mC (.int 1)) (mCons (mTup (mCons (mC (.int 4)) (mCons (mC (.int 0)) mNil))) mNil))) (mCons (mTup (mCons (mC (.int 5)) (mCons (mTup (mCons (mC (.int 15)) (mCons (mC (.int 10)) mNil))) mNil))) (mCons (mTup (mCons (mC (.int 5)) (mCons (mTup (mCons (mC (.int 16)) (mCons (mC (.int 0)) mNil))) mNil))) (mCons (mTup (mCons (mC (.int 1)) (mCons (mTup (mCons (mC (.int 0)) (mCons (mC (.int 0)) mNil))) mNil))) mNil))))))) (mgName 8) mYes b__law_written_3 [8]))
  (mRt (mBinP (dEq false) 7 (mLst (mCons (mC (.bool true)) (mCons (mC (.bool false)) (mCons (mC (.bool true)) (mCons (mC (.bool false)) (mCons (mC (.bool false)) mNil))))))))))))))))
def m__law_written : SM Slot := mDef 1 9 [0] b__law_written
theorem ln__law_written : ∀ (ρ : DE) (q : Slot × DE), m__law_written ρ = .ok q → ρ.length = 1 := mDef_len
def b_law_0 : MS :=
  (mIfS (mNotT (mTru (mD (mCallO m__law_right 1 mNil)))) (mRt (mC (.bool false))) mNx)
def b_law : MS :=
  (mSq (mSetR 1 (mCall m__law_cup (mCons (mVar 0) mNil)))
  (mSq (mFor (mRng1 (mC (.int 5))) (mgName 2) b_law_0)
  (mRtR (mCallO m__law_written 1 mNil))))
def m_law : SM Slot := mDef 1 2 [] b_law
theorem ln_law : ∀ (ρ : DE) (q : Slot × DE), m_law ρ = .ok q → ρ.length = 1 := mDef_len
end
section
variable {P : Program} {w : World} {K : PySem.W.Frag} {mg : Str → Option Value} {base : Heap}
theorem sc__law_cup : FnScope ["script", "cell"] ["script"] (defScope (topS 26)) := ⟨rfl, rfl, rfl, by decide +kernel, rfl, by decide +kernel, by decide +kernel⟩
theorem ok__law_cup (G : Gs mg) (D : DefF K mg "_law_cup" (topS 26) ["script"])  : CalD P w K mg base 1 "_law_cup" 1 m__law_cup :=
  calD_of D sc__law_cup rfl rfl fun f cdv A outer s H E hr => ⟨_, (pss_cons (ps_set (i := 1) sc__law_cup.nd rfl (by first | exact .inl rfl | exact .inr rfl) (pe_callB call_abs (by rfl) G.b_abs bt_abs (pa_cons (pe_ix (ix_all (Room.u1 hr)) (pe_op op_catL (pe_callTy call_list_of (by rfl) G.b_list bt_list (pa_cons (pv 0) pa_nil)) (pe_lst (pa_cons pe_int pa_nil))) pe_int (ixn _)) pa_nil)))
  (pss_one (ps_ret (pe_lst (pa_cons (pe_ifExp (pt_cmpR (op_geP (Room.u64 hr)) (pv 1) (pe_op op_pow pe_int pe_int) (nomark _)) (pe_op op_fdivW (pv 1) pe_int) pe_int) (pa_cons (pe_op op_addA (pe_op op_mod (pe_callTy call_int1 (by rfl) G.b_int bt_int (pa_cons (pe_op op_addA (pe_op op_mulA (pv 1) pe_int) pe_int) pa_nil)) pe_int) pe_int) pa_nil)))))),
  (ds_seq (ds_set (by decide) (de_c1 c1_abs (DenE.con (de_op oc_ix (DenF.e (df_op of_catL (DenF.e (df_c1 c1f_list dc_peek)) (DenE.con (DenF.e (df_lst (dl_cons de_int dl_nil)))))) (DenE.con de_int)))))
  (ds_retR (dr_o (df_lst (dl_cons (de_if (dt_test (de_opP oc_ord (DenE.con (de_op oc_pow de_int (DenE.con de_int))))) (de_opP oc_fdiv (DenE.con de_int)) de_int) (dl_cons (de_op oc_add (de_op oc_mod (de_c1 c1_int (DenE.con (de_op oc_add (de_opP oc_mul (DenE.con de_int)) (DenE.con de_int)))) (DenE.con de_int)) (DenE.con de_int)) dl_nil))))))⟩
theorem sc__law_roll : FnScope ["cup", "many", "found", "deep"] ["cup", "many"] (defScope (topS 27)) := ⟨rfl, rfl, rfl, by decide +kernel, rfl, by decide +kernel, by decide +kernel⟩
theorem ok__law_roll (G : Gs mg) (D : DefF K mg "_law_roll" (topS 27) ["cup", "many"])  : CalD P w K mg base 1 "_law_roll" 2 m__law_roll :=
  calD_of D sc__law_roll rfl rfl fun f cdv A outer s H E hr => ⟨_, (pss_cons (ps_if (pt_cmpR (op_gtP (Room.u64 hr)) (pe_ix (ix_all (Room.u1 hr)) (pv 0) pe_int (ixn _)) pe_int (nomark _)) (pss_cons (ps_set (i := 2) sc__law_roll.nd rfl (by first | exact .inl rfl | exact .inr rfl) (pe_op op_mod (pe_callTy call_int1 (by rfl) G.b_int bt_int (pa_cons (pe_ix (ix_all (Room.u1 hr)) (pv 0) pe_int (ixn _)) pa_nil)) (pv 1)))
  (pss_cons (ps_asg (pe_op op_fdivW (pe_ix (ix_all (Room.u1 hr)) (pv 0) pe_int (ixn _)) (pv 1)) (pg_sub (pv 0) pe_int (set_all (Room.u1 hr))))
  (pss_one (ps_ret (pv 2))))) pss_nil)
  (pss_cons (ps_asg (pe_op op_mod (pe_callTy call_int1 (by rfl) G.b_int bt_int (pa_cons (pe_op op_addA (pe_op op_mulA (pe_ix (ix_all (Room.u1 hr)) (pv 0) pe_int (ixn _)) pe_int) pe_int) pa_nil)) pe_int) (pg_sub (pv 0) pe_int (set_all (Room.u1 hr))))
  (pss_cons (ps_set (i := 3) sc__law_roll.nd rfl (by first | exact .inl rfl | exact .inr rfl) (pe_op op_mod (pe_callTy call_int1 (by rfl) G.b_int bt_int (pa_cons (pe_op op_mulA (pe_ix (ix_all (Room.u1 hr)) (pv 0) pe_int (ixn _)) (pe_op op_addA (pe_ix (ix_all (Room.u1 hr)) (pv 0) pe_int (ixn _)) pe_int)) pa_nil)) pe_int))
  (pss_one (ps_ret (pe_op op_mod (pe_callTy call_int1 (by rfl) G.b_int bt_int (pa_cons (pe_op op_fdivW (pv 3) pe_int) pa_nil)) (pv 1))))))),
  (ds_seq (ds_if (dt_test (de_op oc_ord (de_opP oc_ix (DenE.con de_int)) (DenE.con de_int))) (ds_seq (ds_set (by decide) (de_op oc_mod (de_c1 c1_int (DenE.con (de_opP oc_ix (DenE.con de_int)))) dc_peek))
  (ds_seq (ds_put so_setA de_int (de_op oc_fdiv (de_opP oc_ix (DenE.con de_int)) dc_peek))
  (ds_retR dr_var))) ds_next)
  (ds_seq (ds_put so_setA de_int (de_op oc_mod (de_c1 c1_int (DenE.con (de_op oc_add (de_op oc_mul (de_opP oc_ix (DenE.con de_int)) (DenE.con de_int)) (DenE.con de_int)))) (DenE.con de_int)))
  (ds_seq (ds_set (by decide) (de_op oc_mod (de_c1 c1_int (DenE.con (de_op oc_mul (de_opP oc_ix (DenE.con de_int)) (DenE.con (de_op oc_add (de_opP oc_ix (DenE.con de_int)) (DenE.con de_int)))))) (DenE.con de_int)))
  (ds_ret (de_op oc_mod (de_c1 c1_int (DenE.con (de_opP oc_fdiv (DenE.con de_int)))) dc_peek)))))⟩
theorem sc__law_bent_bounds : FnScope ["cup", "bounds", "at", "low", "high", "odds", "rows", "odd"] ["cup", "bounds"] (defScope (topS 38)) := ⟨rfl, rfl, rfl, by decide +kernel, rfl, by decide +kernel, by decide +kernel⟩
theorem ok__law_bent_bounds (G : Gs mg) (D : DefF K mg "_law_bent_bounds" (topS 38) ["cup", "bounds"]) (c__law_roll : CalD P w K mg base 1 "_law_roll" 2 m__law_roll) : CalD P w K mg base 2 "_law_bent_bounds" 2 m__law_bent_bounds :=
  calD_of D sc__law_bent_bounds rfl rfl fun f cdv A outer s H E hr => ⟨_, (pss_cons (ps_set (i := 2) sc__law_bent_bounds.nd rfl (by first | exact .inl rfl | exact .inr rfl) (pe_cD c__law_roll hr (by omega) (by rfl) (pa_cons (pv 0) (pa_cons (pe_callB call_lenA (by rfl) G.b_len bt_len (pa_cons (pv 1) pa_nil)) pa_nil))))
  (pss_cons (ps_asg (pe_ix (ix_all (Room.u1 hr)) (pv 1) (pv 2) (ixn _)) (pg_tup rfl (pgs_cons (pg_name (i := 3) sc__law_bent_bounds.nd rfl (by first | exact .inl rfl | exact .inr rfl)) (pgs_cons (pg_name (i := 4) sc__law_bent_bounds.nd rfl (by first | exact .inl rfl | exact .inr rfl)) pgs_nil))))
  (pss_cons (ps_set (i := 5) sc__law_bent_bounds.nd rfl (by first | exact .inl rfl | exact .inr rfl) (pe_lst (pa_cons (pe_tup (pa_cons (pe_op op_addA (pv 4) pe_int) (pa_cons (pv 4) pa_nil))) (pa_cons (pe_tup (pa_cons (pe_un un_neg pe_int) (pa_cons (pv 4) pa_nil))) (pa_cons (pe_tup (pa_cons (pv 3) (pa_cons pe_int pa_nil))) (pa_cons (pe_tup (pa_cons (pv 3) pa_nil)) (pa_cons (pe_tup (pa_cons (pv 3) (pa_cons (pv 4) (pa_cons (pv 4) pa_nil)))) (pa_cons (pe_lst (pa_cons (pv 3) (pa_cons (pv 4) pa_nil))) (pa_cons (pe_tup (pa_cons pe_non (pa_cons (pv 4) pa_nil))) (pa_cons (pe_tup (pa_cons (pv 3) (pa_cons pe_str pa_nil))) (pa_cons (pe_tup (pa_cons pe_bl (pa_cons (pv 4) pa_nil))) (pa_cons (pv 3) (pa_cons pe_non pa_nil)))))))))))))
  (pss_cons (ps_setLc (i := 6) (own := [("odd", 7)]) rfl sc__law_bent_bounds.nd rfl rfl (sw_true rfl rfl rfl rfl) (pi_seq (pv 5)) (blkOk_by (by rfl)) (fun s H C cl fp => (pg_name (i := 7) sc__law_bent_bounds.nd rfl (by first | exact .inl rfl | exact .inr rfl))) (fun s H C cl fp => pts_nil) (fun s H C cl fp => (pe_op op_addA (pe_op op_addA (pe_slice sl_all (pv 1) po_none (po_some (pv 2))) (pe_tup (pa_cons (pv 7) pa_nil))) (pe_slice sl_all (pv 1) (po_some (pe_op op_addA (pv 2) pe_int)) po_none))))
  (pss_one (ps_ret (pe_op op_catL (pv 6) (pe_lst (pa_cons (pe_callTy call_list_of (by rfl) G.b_list bt_list (pa_cons (pv 1) pa_nil)) (pa_cons (pe_op op_addA (pv 1) (pe_slice sl_all (pv 1) (po_some (pe_un un_neg pe_int)) po_none)) (pa_cons (pe_slice sl_all (pv 1) po_none (po_some (pe_un un_neg pe_int))) (pa_cons pe_non (pa_cons pe_str (pa_cons (pe_ix (ix_all (Room.u1 hr)) (pv 1) (pv 2) (ixn _)) (pa_cons (pe_tup pa_nil) pa_nil))))))))))))))),
  (ds_seq (ds_setR (by decide) (dr_callO ln__law_roll (dl_cons (de_c1 c1_len dc_peek) dl_nil)))
  (ds_seq (ds_asgG (by decide) (de_opP oc_ix dc_peek) (dg_tup (dgs_cons dg_name (dgs_cons dg_name dgs_nil))))
  (ds_seq (ds_setF (by decide) (df_lst (dl_cons (de_tup (dl_cons (de_opP oc_add (DenE.con de_int)) (dl_cons de_var dl_nil))) (dl_cons (de_tup (dl_cons (de_un uc_neg (DenE.con de_int)) (dl_cons de_var dl_nil))) (dl_cons (de_tup (dl_cons de_var (dl_cons de_int dl_nil))) (dl_cons (de_tup (dl_cons de_var dl_nil)) (dl_cons (de_tup (dl_cons de_var (dl_cons de_var (dl_cons de_var dl_nil)))) (dl_cons (DenF.e (df_lst (dl_cons de_var (dl_cons de_var dl_nil)))) (dl_cons (de_tup (dl_cons de_non (dl_cons de_var dl_nil))) (dl_cons (de_tup (dl_cons de_var (dl_cons de_str dl_nil))) (dl_cons (de_tup (dl_cons de_bl (dl_cons de_var dl_nil))) (dl_cons de_var (dl_cons de_non dl_nil)))))))))))))
  (ds_seq (ds_setF (by decide) (df_lc (by decide) (di_seq de_var) dg_name dt_yes (de_op oc_add (de_op oc_add (de_cutP do_none (do_some de_var)) (DenE.con (de_tup (dl_cons de_var dl_nil)))) (DenE.con (de_cutP (do_some (de_opP oc_add (DenE.con de_int))) do_none)))))
  (ds_retR (dr_o (df_opP of_catL (DenE.con (DenF.e (df_lst (dl_cons (DenF.e (df_c1 c1f_list dc_peek)) (dl_cons (de_opP oc_add (DenE.con (de_cutP (do_some (de_un uc_neg (DenE.con de_int))) do_none))) (dl_cons (de_cutP do_none (do_some (de_un uc_neg (DenE.con de_int)))) (dl_cons de_non (dl_cons de_str (dl_cons (de_opP oc_ix dc_peek) (dl_cons (de_tup dl_nil) dl_nil)))))))))))))))))⟩
theorem sc__law_bent_ingots : FnScope ["cup", "ingots", "at", "name", "weight", "parts", "odds", "rows", "odd"] ["cup", "ingots"] (defScope (topS 37)) := ⟨rfl, rfl, rfl, by decide +kernel, rfl, by decide +kernel, by decide +kernel⟩
theorem ok__law_bent_ingots (G : Gs mg) (D : DefF K mg "_law_bent_ingots" (topS 37) ["cup", "ingots"]) (c__law_roll : CalD P w K mg base 1 "_law_roll" 2 m__law_roll) : CalD P w K mg base 2 "_law_bent_ingots" 2 m__law_bent_ingots :=
  calD_of D sc__law_bent_ingots rfl rfl fun f cdv A outer s H E hr => ⟨_, (pss_cons (ps_set (i := 2) sc__law_bent_ingots.nd rfl (by first | exact .inl rfl | exact .inr rfl) (pe_cD c__law_roll hr (by omega) (by rfl) (pa_cons (pv 0) (pa_cons (pe_callB call_lenA (by rfl) G.b_len bt_len (pa_cons (pv 1) pa_nil)) pa_nil))))
  (pss_cons (ps_asg (pe_ix (ix_all (Room.u1 hr)) (pv 1) (pv 2) (ixn _)) (pg_tup rfl (pgs_cons (pg_name (i := 3) sc__law_bent_ingots.nd rfl (by first | exact .inl rfl | exact .inr rfl)) (pgs_cons (pg_name (i := 4) sc__law_bent_ingots.nd rfl (by first | exact .inl rfl | exact .inr rfl)) (pgs_cons (pg_name (i := 5) sc__law_bent_ingots.nd rfl (by first | exact .inl rfl | exact .inr rfl)) pgs_nil)))))
  (pss_cons (ps_set (i := 6) sc__law_bent_ingots.nd rfl (by first | exact .inl rfl | exact .inr rfl) (pe_lst (pa_cons (pe_tup (pa_cons (pv 3) (pa_cons pe_int (pa_cons (pv 5) pa_nil)))) (pa_cons (pe_tup (pa_cons (pv 3) (pa_cons pe_int (pa_cons (pv 5) pa_nil)))) (pa_cons (pe_tup (pa_cons (pv 3) (pa_cons pe_bl (pa_cons (pv 5) pa_nil)))) (pa_cons (pe_tup (pa_cons (pv 3) (pa_cons pe_non (pa_cons (pv 5) pa_nil)))) (pa_cons (pe_tup (pa_cons pe_str (pa_cons (pv 4) (pa_cons (pv 5) pa_nil)))) (pa_cons (pe_tup (pa_cons pe_str (pa_cons (pv 4) (pa_cons (pv 5) pa_nil)))) pa_nil))))))))
  (pss_cons (ps_set (i := 6) sc__law_bent_ingots.nd rfl (by first | exact .inl rfl | exact .inr rfl) (pe_op op_catL (pv 6) (pe_lst (pa_cons (pe_tup (pa_cons pe_non (pa_cons (pv 4) (pa_cons (pv 5) pa_nil)))) (pa_cons (pe_tup (pa_cons (pv 3) (pa_cons (pv 4) pa_nil))) (pa_cons (pe_tup (pa_cons (pv 3) (pa_cons (pv 4) (pa_cons (pv 5) (pa_cons (pv 5) pa_nil))))) (pa_cons (pe_lst (pa_cons (pv 3) (pa_cons (pv 4) (pa_cons (pv 5) pa_nil)))) (pa_cons (pe_tup (pa_cons (pv 3) (pa_cons (pv 4) (pa_cons (pe_callTy call_list_of (by rfl) G.b_list bt_list (pa_cons (pv 5) pa_nil)) pa_nil)))) (pa_cons pe_non pa_nil)))))))))
  (pss_cons (ps_set (i := 6) sc__law_bent_ingots.nd rfl (by first | exact .inl rfl | exact .inr rfl) (pe_op op_catL (pv 6) (pe_lst (pa_cons (pe_tup (pa_cons (pv 3) (pa_cons (pv 4) (pa_cons (pe_op op_addA (pe_slice sl_all (pv 5) po_none (po_some (pe_un un_neg pe_int))) (pe_tup (pa_cons (pe_op op_addA (pe_ix (ix_all (Room.u1 hr)) (pv 5) (pe_un un_neg pe_int) (ixn _)) pe_int) pa_nil))) pa_nil)))) (pa_cons (pe_tup (pa_cons (pv 3) (pa_cons (pv 4) (pa_cons (pe_tup pa_nil) pa_nil)))) (pa_cons (pe_tup (pa_cons (pv 3) (pa_cons (pv 4) (pa_cons (pe_op op_addA (pe_slice sl_all (pv 5) po_none (po_some (pe_un un_neg pe_int))) (pe_tup (pa_cons pe_non pa_nil))) pa_nil)))) (pa_cons (pv 3) pa_nil)))))))
  (pss_cons (ps_set (i := 6) sc__law_bent_ingots.nd rfl (by first | exact .inl rfl | exact .inr rfl) (pe_op op_catL (pv 6) (pe_lst (pa_cons (pe_tup (pa_cons (pv 3) (pa_cons (pv 4) (pa_cons (pe_op op_addA (pv 5) (pe_op op_mulA (pe_tup (pa_cons pe_int pa_nil)) (pe_op op_sub pe_int (pe_callB call_lenA (by rfl) G.b_len bt_len (pa_cons (pv 5) pa_nil))))) pa_nil)))) (pa_cons (pe_tup (pa_cons (pv 3) (pa_cons (pv 4) (pa_cons (pe_op op_addA (pe_tup (pa_cons (pe_un un_neg pe_int) (pa_cons pe_int pa_nil))) (pe_slice sl_all (pv 5) (po_some pe_int) po_none)) pa_nil)))) (pa_cons (pe_tup (pa_cons (pv 3) (pa_cons (pv 4) (pa_cons pe_int pa_nil)))) pa_nil))))))
  (pss_cons (ps_set (i := 7) sc__law_bent_ingots.nd rfl (by first | exact .inl rfl | exact .inr rfl) (pe_op op_catL (pe_lc (own := [("odd", 8)]) rfl sc__law_bent_ingots.nd (pi_seq (pv 6)) (blkOk_by (by rfl)) (fun s H C cl fp => (pg_name (i := 8) sc__law_bent_ingots.nd rfl (by first | exact .inl rfl | exact .inr rfl))) (fun s H C cl fp => pts_nil) (fun s H C cl fp => (pe_op op_addA (pe_op op_addA (pe_slice sl_all (pv 1) po_none (po_some (pv 2))) (pe_tup (pa_cons (pv 8) pa_nil))) (pe_slice sl_all (pv 1) (po_some (pe_op op_addA (pv 2) pe_int)) po_none)))) (pe_lst (pa_cons (pe_callTy call_list_of (by rfl) G.b_list bt_list (pa_cons (pv 1) pa_nil)) (pa_cons (pe_tup pa_nil) (pa_cons pe_non (pa_cons (pe_op op_addA (pv 1) (pe_slice sl_all (pv 1) (po_some (pv 2)) (po_some (pe_op op_addA (pv 2) pe_int)))) (pa_cons (pe_ix (ix_all (Room.u1 hr)) (pv 1) (pv 2) (ixn _)) (pa_cons pe_str pa_nil)))))))))
  (pss_cons (ps_if (pt_cmpR (op_gtP (Room.u64 hr)) (pe_callB call_lenA (by rfl) G.b_len bt_len (pa_cons (pv 1) pa_nil)) pe_int (nomark _)) (pss_one (ps_set (i := 7) sc__law_bent_ingots.nd rfl (by first | exact .inl rfl | exact .inr rfl) (pe_op op_catL (pv 7) (pe_lst (pa_cons (pe_revA (pv 1)) (pa_cons (pe_op op_addA (pe_op op_addA (pe_slice sl_all (pv 1) po_none (po_some (pv 2))) (pe_tup (pa_cons (pe_tup (pa_cons (pv 3) (pa_cons (pv 4) (pa_cons (pe_op op_addA (pv 5) (pe_tup (pa_cons pe_int pa_nil))) pa_nil)))) pa_nil))) (pe_slice sl_all (pv 1) (po_some (pe_op op_addA (pv 2) pe_int)) po_none)) pa_nil)))))) pss_nil)
  (pss_one (ps_ret (pv 7))))))))))),
  (ds_seq (ds_setR (by decide) (dr_callO ln__law_roll (dl_cons (de_c1 c1_len dc_peek) dl_nil)))
  (ds_seq (ds_asgG (by decide) (de_opP oc_ix dc_peek) (dg_tup (dgs_cons dg_name (dgs_cons dg_name (dgs_cons dg_name dgs_nil)))))
  (ds_seq (ds_setF (by decide) (df_lst (dl_cons (de_tup (dl_cons de_var (dl_cons de_int (dl_cons de_var dl_nil)))) (dl_cons (de_tup (dl_cons de_var (dl_cons de_int (dl_cons de_var dl_nil)))) (dl_cons (de_tup (dl_cons de_var (dl_cons de_bl (dl_cons de_var dl_nil)))) (dl_cons (de_tup (dl_cons de_var (dl_cons de_non (dl_cons de_var dl_nil)))) (dl_cons (de_tup (dl_cons de_str (dl_cons de_var (dl_cons de_var dl_nil)))) (dl_cons (de_tup (dl_cons de_str (dl_cons de_var (dl_cons de_var dl_nil)))) dl_nil))))))))
  (ds_seq (ds_setF (by decide) (df_opP of_catL (DenE.con (DenF.e (df_lst (dl_cons (de_tup (dl_cons de_non (dl_cons de_var (dl_cons de_var dl_nil)))) (dl_cons (de_tup (dl_cons de_var (dl_cons de_var dl_nil))) (dl_cons (de_tup (dl_cons de_var (dl_cons de_var (dl_cons de_var (dl_cons de_var dl_nil))))) (dl_cons (DenF.e (df_lst (dl_cons de_var (dl_cons de_var (dl_cons de_var dl_nil))))) (dl_cons (de_tup (dl_cons de_var (dl_cons de_var (dl_cons (DenF.e (df_c1 c1f_list dc_peek)) dl_nil)))) (dl_cons de_non dl_nil)))))))))))
  (ds_seq (ds_setF (by decide) (df_opP of_catL (DenE.con (DenF.e (df_lst (dl_cons (de_tup (dl_cons de_var (dl_cons de_var (dl_cons (de_op oc_add (de_cutP do_none (do_some (de_un uc_neg (DenE.con de_int)))) (DenE.con (de_tup (dl_cons (de_op oc_add (de_opP oc_ix (DenE.con (de_un uc_neg (DenE.con de_int)))) (DenE.con de_int)) dl_nil)))) dl_nil)))) (dl_cons (de_tup (dl_cons de_var (dl_cons de_var (dl_cons (de_tup dl_nil) dl_nil)))) (dl_cons (de_tup (dl_cons de_var (dl_cons de_var (dl_cons (de_op oc_add (de_cutP do_none (do_some (de_un uc_neg (DenE.con de_int)))) (DenE.con (de_tup (dl_cons de_non dl_nil)))) dl_nil)))) (dl_cons de_var dl_nil)))))))))
  (ds_seq (ds_setF (by decide) (df_opP of_catL (DenE.con (DenF.e (df_lst (dl_cons (de_tup (dl_cons de_var (dl_cons de_var (dl_cons (de_opP oc_add (DenE.con (de_op oc_mul (de_tup (dl_cons de_int dl_nil)) (DenE.con (de_op oc_sub de_int (DenE.con (de_c1 c1_len dc_peek))))))) dl_nil)))) (dl_cons (de_tup (dl_cons de_var (dl_cons de_var (dl_cons (de_op oc_add (de_tup (dl_cons (de_un uc_neg (DenE.con de_int)) (dl_cons de_int dl_nil))) (DenE.con (de_cutP (do_some de_int) do_none))) dl_nil)))) (dl_cons (de_tup (dl_cons de_var (dl_cons de_var (dl_cons de_int dl_nil)))) dl_nil))))))))
  (ds_seq (ds_setF (by decide) (df_op of_catL (DenF.e (df_lc (by decide) (di_seq de_var) dg_name dt_yes (de_op oc_add (de_op oc_add (de_cutP do_none (do_some de_var)) (DenE.con (de_tup (dl_cons de_var dl_nil)))) (DenE.con (de_cutP (do_some (de_opP oc_add (DenE.con de_int))) do_none))))) (DenE.con (DenF.e (df_lst (dl_cons (DenF.e (df_c1 c1f_list dc_peek)) (dl_cons (de_tup dl_nil) (dl_cons de_non (dl_cons (de_opP oc_add (DenE.con (de_cutP (do_some de_var) (do_some (de_opP oc_add (DenE.con de_int)))))) (dl_cons (de_opP oc_ix dc_peek) (dl_cons de_str dl_nil)))))))))))
  (ds_seq (ds_if (dt_test (de_op oc_ord (de_c1 c1_len dc_peek) (DenE.con de_int))) (ds_setF (by decide) (df_opP of_catL (DenE.con (DenF.e (df_lst (dl_cons (de_rev dc_peek) (dl_cons (de_op oc_add (de_op oc_add (de_cutP do_none (do_some de_var)) (DenE.con (de_tup (dl_cons (de_tup (dl_cons de_var (dl_cons de_var (dl_cons (de_opP oc_add (DenE.con (de_tup (dl_cons de_int dl_nil)))) dl_nil)))) dl_nil)))) (DenE.con (de_cutP (do_some (de_opP oc_add (DenE.con de_int))) do_none))) dl_nil))))))) ds_next)
  (ds_retR dr_var)))))))))⟩
theorem sc__law_some : FnScope ["cup", "things"] ["cup", "things"] (defScope (topS 28)) := ⟨rfl, rfl, rfl, by decide +kernel, rfl, by decide +kernel, by decide +kernel⟩
theorem ok__law_some (G : Gs mg) (D : DefF K mg "_law_some" (topS 28) ["cup", "things"]) (c__law_roll : CalD P w K mg base 1 "_law_roll" 2 m__law_roll) : CalD P w K mg base 2 "_law_some" 2 m__law_some :=
  calD_of D sc__law_some rfl rfl fun f cdv A outer s H E hr => ⟨_, (pss_one (ps_ret (pe_ix (ix_all (Room.u1 hr)) (pv 1) (pe_cD c__law_roll hr (by omega) (by rfl) (pa_cons (pv 0) (pa_cons (pe_callB call_lenA (by rfl) G.b_len bt_len (pa_cons (pv 1) pa_nil)) pa_nil))) (ixn _)))),
  (ds_ret (de_opP oc_ix (DenE.con (de_r (dr_callO ln__law_roll (dl_cons (de_c1 c1_len dc_peek) dl_nil))))))⟩
theorem sc__law_names : FnScope ["cup", "many", "pool", "found", "turn", "one"] ["cup", "many"] (defScope (topS 30)) := ⟨rfl, rfl, rfl, by decide +kernel, rfl, by decide +kernel, by decide +kernel⟩
theorem ok__law_names (G : Gs mg) (D : DefF K mg "_law_names" (topS 30) ["cup", "many"]) (c__law_some : CalD P w K mg base 2 "_law_some" 2 m__law_some) : CalD P w K mg base 3 "_law_names" 2 m__law_names :=
  calD_of D sc__law_names rfl rfl fun f cdv A outer s H E hr => ⟨_, (pss_cons (ps_set (i := 2) sc__law_names.nd rfl (by first | exact .inl rfl | exact .inr rfl) (pe_lst (pa_cons pe_str (pa_cons pe_str (pa_cons pe_str (pa_cons pe_str (pa_cons pe_str (pa_cons pe_str (pa_cons pe_str (pa_cons pe_str (pa_cons pe_str (pa_cons pe_str (pa_cons pe_str (pa_cons pe_str (pa_cons pe_str (pa_cons pe_str (pa_cons pe_str (pa_cons pe_str pa_nil))))))))))))))))))
  (pss_cons (ps_set (i := 2) sc__law_names.nd rfl (by first | exact .inl rfl | exact .inr rfl) (pe_op op_catL (pv 2) (pe_lst (pa_cons pe_str (pa_cons pe_str (pa_cons pe_str (pa_cons pe_str (pa_cons pe_str (pa_cons pe_str (pa_cons pe_str (pa_cons pe_str (pa_cons pe_str (pa_cons pe_str (pa_cons pe_str (pa_cons pe_str (pa_cons pe_str (pa_cons pe_str pa_nil)))))))))))))))))
  (pss_cons (ps_set (i := 3) sc__law_names.nd rfl (by first | exact .inl rfl | exact .inr rfl) (pe_lst pa_nil))
  (pss_cons (ps_for PassesOwn.never rfl (pi_range1 (by rfl) G.b_range (pa_cons (pv 1) pa_nil)) (pg_name (i := 4) sc__law_names.nd rfl (by first | exact .inl rfl | exact .inr rfl)) (pss_cons (ps_expr (pe_bm PySem.F.plainAttrs_list PySem.F.slot_list_append PySem.F.type_list_append mt_append (pv 3) (pa_cons (pe_cD c__law_some hr (by omega) (by rfl) (pa_cons (pv 0) (pa_cons (pv 2) pa_nil))) pa_nil)))
  (pss_one (ps_setLc (i := 2) (own := [("one", 5)]) rfl sc__law_names.nd rfl rfl (sw_true rfl rfl rfl rfl) (pi_seq (pv 2)) (blkOk_by (by rfl)) (fun s H C cl fp => (pg_name (i := 5) sc__law_names.nd rfl (by first | exact .inl rfl | exact .inr rfl))) (fun s H C cl fp => (pts_one (pt_cmpR (op_neP (Room.u64 hr)) (pv 5) (pe_ix (ix_all (Room.u1 hr)) (pv 3) (pe_un un_neg pe_int) (ixn _)) (nomark _)))) (fun s H C cl fp => (pv 5))))))
  (pss_one (ps_ret (pe_callB (call_sortA rfl (Room.u64 hr)) (by rfl) G.b_sorted bt_sorted (pa_cons (pv 3) pa_nil)))))))),
  (ds_seq (ds_setF (by decide) (df_lst (dl_cons de_str (dl_cons de_str (dl_cons de_str (dl_cons de_str (dl_cons de_str (dl_cons de_str (dl_cons de_str (dl_cons de_str (dl_cons de_str (dl_cons de_str (dl_cons de_str (dl_cons de_str (dl_cons de_str (dl_cons de_str (dl_cons de_str (dl_cons de_str dl_nil))))))))))))))))))
  (ds_seq (ds_setF (by decide) (df_opP of_catL (DenE.con (DenF.e (df_lst (dl_cons de_str (dl_cons de_str (dl_cons de_str (dl_cons de_str (dl_cons de_str (dl_cons de_str (dl_cons de_str (dl_cons de_str (dl_cons de_str (dl_cons de_str (dl_cons de_str (dl_cons de_str (dl_cons de_str (dl_cons de_str dl_nil)))))))))))))))))))
  (ds_seq (ds_setF (by decide) (df_lst dl_nil))
  (ds_seq (ds_for (by decide) (di_rng1 de_var) dg_name (ds_seq (ds_app (de_r (dr_callO ln__law_some (dl_cons de_var dl_nil))))
  (ds_setF (by decide) (df_lc (by decide) (di_seq de_var) dg_name (dt_test (de_opP oc_eq (DenE.con (de_opP oc_ix (DenE.con (de_un uc_neg (DenE.con de_int))))))) de_var))))
  (ds_retR (dr_o (df_c1 c1f_sort dc_peek)))))))⟩
theorem sc__law_parts : FnScope ["cup", "metals", "left", "found", "metal", "part"] ["cup", "metals"] (defScope (topS 31)) := ⟨rfl, rfl, rfl, by decide +kernel, rfl, by decide +kernel, by decide +kernel⟩
theorem ok__law_parts (G : Gs mg) (D : DefF K mg "_law_parts" (topS 31) ["cup", "metals"]) (c__law_some : CalD P w K mg base 2 "_law_some" 2 m__law_some) (c__law_roll : CalD P w K mg base 1 "_law_roll" 2 m__law_roll) : CalD P w K mg base 3 "_law_parts" 2 m__law_parts :=
  calD_of D sc__law_parts rfl rfl fun f cdv A outer s H E hr => ⟨_, (pss_cons (ps_asg (pe_tup (pa_cons pe_int (pa_cons (pe_tup pa_nil) pa_nil))) (pg_tup rfl (pgs_cons (pg_name (i := 2) sc__law_parts.nd rfl (by first | exact .inl rfl | exact .inr rfl)) (pgs_cons (pg_name (i := 3) sc__law_parts.nd rfl (by first | exact .inl rfl | exact .inr rfl)) pgs_nil))))
  (pss_cons (ps_for PassesOwn.never rfl (pi_range1 (by rfl) G.b_range (pa_cons (pe_op op_sub (pv 1) pe_int) pa_nil)) (pg_name (i := 4) sc__law_parts.nd rfl (by first | exact .inl rfl | exact .inr rfl)) (pss_cons (ps_set (i := 5) sc__law_parts.nd rfl (by first | exact .inl rfl | exact .inr rfl) (pe_cD c__law_some hr (by omega) (by rfl) (pa_cons (pv 0) (pa_cons (pe_lst (pa_cons pe_int (pa_cons (pv 2) (pa_cons (pe_cD c__law_roll hr (by omega) (by rfl) (pa_cons (pv 0) (pa_cons (pe_op op_addA (pv 2) pe_int) pa_nil))) (pa_cons (pe_cD c__law_roll hr (by omega) (by rfl) (pa_cons (pv 0) (pa_cons (pe_op op_addA (pv 2) pe_int) pa_nil))) (pa_cons (pe_op op_fdivW (pv 2) pe_int) pa_nil)))))) pa_nil))))
  (pss_one (ps_par (i := 2) (j := 3) rfl sc__law_parts.nd rfl rfl (by decide) rfl rfl (pa_cons (pe_op op_sub (pv 2) (pv 5)) (pa_cons (pe_op op_addA (pv 3) (pe_tup (pa_cons (pv 5) pa_nil))) pa_nil)) rfl))))
  (pss_one (ps_ret (pe_op op_addA (pv 3) (pe_tup (pa_cons (pv 2) pa_nil))))))),
  (ds_seq (ds_asgG (by decide) (de_tup (dl_cons de_int (dl_cons (de_tup dl_nil) dl_nil))) (dg_tup (dgs_cons dg_name (dgs_cons dg_name dgs_nil))))
  (ds_seq (ds_for (by decide) (di_rng1 (de_opP oc_sub (DenE.con de_int))) dg_name (ds_seq (ds_setR (by decide) (dr_callO ln__law_some (dl_cons (DenF.e (df_lst (dl_cons de_int (dl_cons de_var (dl_cons (de_r (dr_callO ln__law_roll (dl_cons (de_opP oc_add (DenE.con de_int)) dl_nil))) (dl_cons (de_r (dr_callO ln__law_roll (dl_cons (de_opP oc_add (DenE.con de_int)) dl_nil))) (dl_cons (de_opP oc_fdiv (DenE.con de_int)) dl_nil))))))) dl_nil)))
  (ds_par (by decide) (dw_val (de_opP oc_sub dc_peek) (dw_val (de_opP oc_add (DenE.con (de_tup (dl_cons de_var dl_nil)))) dw_nil)))))
  (ds_ret (de_opP oc_add (DenE.con (de_tup (dl_cons de_var dl_nil)))))))⟩
theorem sc__law_ingots : FnScope ["cup", "most", "metals", "found", "name"] ["cup", "most"] (defScope (topS 32)) := ⟨rfl, rfl, rfl, by decide +kernel, rfl, by decide +kernel, by decide +kernel⟩
theorem ok__law_ingots (G : Gs mg) (D : DefF K mg "_law_ingots" (topS 32) ["cup", "most"]) (c__law_roll : CalD P w K mg base 1 "_law_roll" 2 m__law_roll) (c__law_names : CalD P w K mg base 3 "_law_names" 2 m__law_names) (c__law_parts : CalD P w K mg base 3 "_law_parts" 2 m__law_parts) (c__law_some : CalD P w K mg base 2 "_law_some" 2 m__law_some) : CalD P w K mg base 4 "_law_ingots" 2 m__law_ingots :=
  calD_of D sc__law_ingots rfl rfl fun f cdv A outer s H E hr => ⟨_, (pss_cons (ps_par (i := 2) (j := 3) rfl sc__law_ingots.nd rfl rfl (by decide) rfl rfl (pa_cons (pe_op op_addA pe_int (pe_cD c__law_roll hr (by omega) (by rfl) (pa_cons (pv 0) (pa_cons pe_int pa_nil)))) (pa_cons (pe_tup pa_nil) pa_nil)) rfl)
  (pss_cons (ps_for PassesOwn.never rfl (pi_seq (pe_cD c__law_names hr (by omega) (by rfl) (pa_cons (pv 0) (pa_cons (pe_op op_addA pe_int (pe_cD c__law_roll hr (by omega) (by rfl) (pa_cons (pv 0) (pa_cons (pv 1) pa_nil)))) pa_nil)))) (pg_name (i := 4) sc__law_ingots.nd rfl (by first | exact .inl rfl | exact .inr rfl)) (pss_one (ps_set (i := 3) sc__law_ingots.nd rfl (by first | exact .inl rfl | exact .inr rfl) (pe_op op_addA (pv 3) (pe_tup (pa_cons (pe_tup (pa_cons (pv 4) (pa_cons (pe_cD c__law_some hr (by omega) (by rfl) (pa_cons (pv 0) (pa_cons (pe_lst (pa_cons pe_int (pa_cons pe_int (pa_cons pe_int (pa_cons (pe_op op_addA pe_int (pe_cD c__law_roll hr (by omega) (by rfl) (pa_cons (pv 0) (pa_cons pe_int pa_nil)))) pa_nil))))) pa_nil))) (pa_cons (pe_cD c__law_parts hr (by omega) (by rfl) (pa_cons (pv 0) (pa_cons (pv 2) pa_nil))) pa_nil)))) pa_nil))))))
  (pss_one (ps_ret (pv 3))))),
  (ds_seq (ds_par (by decide) (dw_val (de_op oc_add de_int (DenE.con (de_r (dr_callO ln__law_roll (dl_cons de_int dl_nil))))) (dw_val (de_tup dl_nil) dw_nil)))
  (ds_seq (ds_for (by decide) (di_seq (de_r (dr_callO ln__law_names (dl_cons (de_op oc_add de_int (DenE.con (de_r (dr_callO ln__law_roll (dl_cons de_var dl_nil))))) dl_nil)))) dg_name (ds_set (by decide) (de_opP oc_add (DenE.con (de_tup (dl_cons (de_tup (dl_cons de_var (dl_cons (de_r (dr_callO ln__law_some (dl_cons (DenF.e (df_lst (dl_cons de_int (dl_cons de_int (dl_cons de_int (dl_cons (de_op oc_add de_int (DenE.con (de_r (dr_callO ln__law_roll (dl_cons de_int dl_nil))))) dl_nil)))))) dl_nil))) (dl_cons (de_r (dr_callO ln__law_parts (dl_cons de_var dl_nil))) dl_nil)))) dl_nil))))))
  (ds_retR dr_var)))⟩
theorem sc__law_is_whole : FnScope ["value"] ["value"] (defScope (topS 35)) := ⟨rfl, rfl, rfl, by decide +kernel, rfl, by decide +kernel, by decide +kernel⟩
theorem ok__law_is_whole (G : Gs mg) (D : DefF K mg "_law_is_whole" (topS 35) ["value"])  : CalD P w K mg base 1 "_law_is_whole" 1 m__law_is_whole :=
  calD_of D sc__law_is_whole rfl rfl fun f cdv A outer s H E hr => ⟨_, (pss_one (ps_ret (pe_andT (pe_callB call_isi (by rfl) G.b_isinstance bt_isinstance (pa_cons (pv 0) (pa_cons (pe_ty G.b_int bt_int) pa_nil))) (pe_one (pe_notT (pe_callB call_isi (by rfl) G.b_isinstance bt_isinstance (pa_cons (pv 0) (pa_cons (pe_ty G.b_bool bt_bool) pa_nil)))))))),
  (ds_ret (de_and (de_isi (T := .int) dc_peek) (de_not (DenE.con (de_isi (T := .bool) dc_peek)))))⟩
theorem sc__law_is_mixture : FnScope ["ingots", "value", "one", "ingot"] ["ingots", "value"] (defScope (topS 36)) := ⟨rfl, rfl, rfl, by decide +kernel, rfl, by decide +kernel, by decide +kernel⟩
theorem ok__law_is_mixture (G : Gs mg) (D : DefF K mg "_law_is_mixture" (topS 36) ["ingots", "value"]) (c__law_is_whole : CalD P w K mg base 1 "_law_is_whole" 1 m__law_is_whole) : CalD P w K mg base 2 "_law_is_mixture" 2 m__law_is_mixture :=
  calD_of D sc__law_is_mixture rfl rfl fun f cdv A outer s H E hr => ⟨_, (pss_cons (ps_if (PW.pt (pw_or (pt_not (pt_truth (pe_callB call_isi (by rfl) G.b_isinstance bt_isinstance (pa_cons (pv 1) (pa_cons (pe_ty G.b_tuple bt_tuple) pa_nil))) (fun _ => rfl))) (pw_or (pt_cmpR (op_neP (Room.u64 hr)) (pe_callB call_lenA (by rfl) G.b_len bt_len (pa_cons (pv 1) pa_nil)) pe_int (nomark _)) (pw_or (pt_not (pt_truth (pe_cD c__law_is_whole hr (by omega) (by rfl) (pa_cons (pe_ix (ix_all (Room.u1 hr)) (pv 1) pe_int (ixn _)) pa_nil)) (fun _ => rfl))) (pw_or1 (pt_cmpR (op_ltP (Room.u64 hr)) (pe_ix (ix_all (Room.u1 hr)) (pv 1) pe_int (ixn _)) pe_int (nomark _))))))) (pss_one (ps_ret pe_bl)) pss_nil)
  (pss_cons (ps_if (PW.pt (pw_or (pt_not (pt_truth (pe_callB call_isi (by rfl) G.b_isinstance bt_isinstance (pa_cons (pe_ix (ix_all (Room.u1 hr)) (pv 1) pe_int (ixn _)) (pa_cons (pe_ty G.b_tuple bt_tuple) pa_nil))) (fun _ => rfl))) (pw_or1 (pt_cmpR (op_neP (Room.u64 hr)) (pe_callB call_lenA (by rfl) G.b_len bt_len (pa_cons (pe_ix (ix_all (Room.u1 hr)) (pv 1) pe_int (ixn _)) pa_nil)) (pe_callB call_lenA (by rfl) G.b_len bt_len (pa_cons (pv 0) pa_nil)) (nomark _))))) (pss_one (ps_ret pe_bl)) pss_nil)
  (pss_cons (ps_for PassesOwn.never rfl (RZ.pi_zipA (by rfl) G.b_zip (pa_cons (pe_ix (ix_all (Room.u1 hr)) (pv 1) pe_int (ixn _)) (pa_cons (pv 0) pa_nil))) (pg_tup rfl (pgs_cons (pg_name (i := 2) sc__law_is_mixture.nd rfl (by first | exact .inl rfl | exact .inr rfl)) (pgs_cons (pg_name (i := 3) sc__law_is_mixture.nd rfl (by first | exact .inl rfl | exact .inr rfl)) pgs_nil))) (pss_one (ps_if (PW.pt (pw_or (pt_not (pt_truth (pe_cD c__law_is_whole hr (by omega) (by rfl) (pa_cons (pv 2) pa_nil)) (fun _ => rfl))) (pw_or1 (pt_not (pt_chain (op_leP (Room.u64 hr)) (op_leP (Room.u64 hr)) pe_int (pv 2) (pe_op op_mulA (pe_ix (ix_all (Room.u1 hr)) (pv 1) pe_int (ixn _)) (pe_ix (ix_all (Room.u1 hr)) (pv 3) pe_int (ixn _)))))))) (pss_one (ps_ret pe_bl)) pss_nil)))
  (pss_one (ps_ret (pe_cmpR (op_gtP (Room.u64 hr)) (pe_callB (cr_sumA rfl) (by rfl) G.b_sum bt_sum (pa_cons (pe_ix (ix_all (Room.u1 hr)) (pv 1) pe_int (ixn _)) pa_nil)) pe_int (nomark _))))))),
  (ds_seq (ds_if (dt_or (dt_not (dt_tru (DenE.con (de_isi (T := .tuple) dc_peek)))) (dt_or (dt_test (de_op oc_eq (de_c1 c1_len dc_peek) (DenE.con de_int))) (dt_or (dt_not (dt_tru (DenE.con (de_r (dr_call ln__law_is_whole (dl_cons (de_opP oc_ix (DenE.con de_int)) dl_nil)))))) (dt_test (de_op oc_ord (de_opP oc_ix (DenE.con de_int)) (DenE.con de_int)))))) (ds_ret de_bl) ds_next)
  (ds_seq (ds_if (dt_or (dt_not (dt_tru (DenE.con (de_isi (T := .tuple) (DenE.con (de_opP oc_ix (DenE.con de_int))))))) (dt_test (de_op oc_eq (de_c1 c1_len (DenE.con (de_opP oc_ix (DenE.con de_int)))) (DenE.con (de_c1 c1_len dc_peek))))) (ds_ret de_bl) ds_next)
  (ds_seq (ds_for (by decide) (di_zip (de_opP oc_ix (DenE.con de_int)) de_var) (dg_tup (dgs_cons dg_name (dgs_cons dg_name dgs_nil))) (ds_if (dt_or (dt_not (dt_tru (DenE.con (de_r (dr_call ln__law_is_whole (dl_cons de_var dl_nil)))))) (dt_not (dt_test (de_chain oc_ord oc_ord de_int de_var (DenE.con (de_op oc_mul (de_opP oc_ix (DenE.con de_int)) (DenE.con (de_opP oc_ix (DenE.con de_int))))))))) (ds_ret de_bl) ds_next))
  (ds_ret (de_op oc_ord (de_c1 c1_sum (DenE.con (de_opP oc_ix (DenE.con de_int)))) (DenE.con de_int))))))⟩
theorem sc__law_mixture : FnScope ["cup", "ingots", "whole", "amounts", "ingot", "at"] ["cup", "ingots"] (defScope (topS 34)) := ⟨rfl, rfl, rfl, by decide +kernel, rfl, by decide +kernel, by decide +kernel⟩
theorem ok__law_mixture (G : Gs mg) (D : DefF K mg "_law_mixture" (topS 34) ["cup", "ingots"]) (c__law_some : CalD P w K mg base 2 "_law_some" 2 m__law_some) (c__law_roll : CalD P w K mg base 1 "_law_roll" 2 m__law_roll) : CalD P w K mg base 3 "_law_mixture" 2 m__law_mixture :=
  calD_of D sc__law_mixture rfl rfl fun f cdv A outer s H E hr => ⟨_, (pss_cons (ps_set (i := 2) sc__law_mixture.nd rfl (by first | exact .inl rfl | exact .inr rfl) (pe_cD c__law_some hr (by omega) (by rfl) (pa_cons (pv 0) (pa_cons (pe_lst (pa_cons pe_int (pa_cons pe_int (pa_cons pe_int (pa_cons pe_int (pa_cons pe_int (pa_cons pe_int pa_nil))))))) pa_nil))))
  (pss_cons (ps_setLc (i := 3) (own := [("ingot", 4)]) rfl sc__law_mixture.nd rfl rfl (sw_true rfl rfl rfl rfl) (pi_seq (pv 1)) (blkOk_by (by rfl)) (fun s H C cl fp => (pg_name (i := 4) sc__law_mixture.nd rfl (by first | exact .inl rfl | exact .inr rfl))) (fun s H C cl fp => pts_nil) (fun s H C cl fp => (pe_cD c__law_some hr (by omega) (by rfl) (pa_cons (pv 0) (pa_cons (pe_lst (pa_cons pe_int (pa_cons (pe_cD c__law_roll hr (by omega) (by rfl) (pa_cons (pv 0) (pa_cons (pe_op op_addA (pe_op op_mulA (pv 2) (pe_ix (ix_all (Room.u1 hr)) (pv 4) pe_int (ixn _))) pe_int) pa_nil))) (pa_cons (pe_op op_mulA (pv 2) (pe_ix (ix_all (Room.u1 hr)) (pv 4) pe_int (ixn _))) pa_nil)))) pa_nil)))))
  (pss_cons (ps_set (i := 5) sc__law_mixture.nd rfl (by first | exact .inl rfl | exact .inr rfl) (pe_cD c__law_roll hr (by omega) (by rfl) (pa_cons (pv 0) (pa_cons (pe_callB call_lenA (by rfl) G.b_len bt_len (pa_cons (pv 1) pa_nil)) pa_nil))))
  (pss_cons (ps_asg (pe_callB (call_max2 rfl) (by rfl) G.b_max bt_max (pa_cons pe_int (pa_cons (pe_ix (ix_all (Room.u1 hr)) (pv 3) (pv 5) (ixn _)) pa_nil))) (pg_sub (pv 3) (pv 5) (set_all (Room.u1 hr))))
  (pss_one (ps_ret (pe_tup (pa_cons (pv 2) (pa_cons (pe_callTy call_tuple_of (by rfl) G.b_tuple bt_tuple (pa_cons (pv 3) pa_nil)) pa_nil))))))))),
  (ds_seq (ds_setR (by decide) (dr_callO ln__law_some (dl_cons (DenF.e (df_lst (dl_cons de_int (dl_cons de_int (dl_cons de_int (dl_cons de_int (dl_cons de_int (dl_cons de_int dl_nil)))))))) dl_nil)))
  (ds_seq (ds_setF (by decide) (df_lc (by decide) (di_seq de_var) dg_name dt_yes (de_r (dr_callO ln__law_some (dl_cons (DenF.e (df_lst (dl_cons de_int (dl_cons (de_r (dr_callO ln__law_roll (dl_cons (de_op oc_add (de_opP oc_mul (DenE.con (de_opP oc_ix (DenE.con de_int)))) (DenE.con de_int)) dl_nil))) (dl_cons (de_opP oc_mul (DenE.con (de_opP oc_ix (DenE.con de_int)))) dl_nil))))) dl_nil)))))
  (ds_seq (ds_setR (by decide) (dr_callO ln__law_roll (dl_cons (de_c1 c1_len dc_peek) dl_nil)))
  (ds_seq (ds_put so_setA de_var (de_c2 c2_max de_int (DenE.con (de_opP oc_ix dc_peek))))
  (ds_ret (de_tup (dl_cons de_var (dl_cons (de_c1 c1_tup dc_peek) dl_nil))))))))⟩
theorem sc__law_near : FnScope ["cup", "ingots", "mixture", "whole", "amounts", "at", "most", "odds", "found", "odd"] ["cup", "ingots", "mixture"] (defScope (topS 39)) := ⟨rfl, rfl, rfl, by decide +kernel, rfl, by decide +kernel, by decide +kernel⟩
theorem ok__law_near (G : Gs mg) (D : DefF K mg "_law_near" (topS 39) ["cup", "ingots", "mixture"]) (c__law_roll : CalD P w K mg base 1 "_law_roll" 2 m__law_roll) : CalD P w K mg base 2 "_law_near" 3 m__law_near :=
  calD_of D sc__law_near rfl rfl fun f cdv A outer s H E hr => ⟨_, (pss_cons (ps_asg (pv 2) (pg_tup rfl (pgs_cons (pg_name (i := 3) sc__law_near.nd rfl (by first | exact .inl rfl | exact .inr rfl)) (pgs_cons (pg_name (i := 4) sc__law_near.nd rfl (by first | exact .inl rfl | exact .inr rfl)) pgs_nil))))
  (pss_cons (ps_set (i := 5) sc__law_near.nd rfl (by first | exact .inl rfl | exact .inr rfl) (pe_cD c__law_roll hr (by omega) (by rfl) (pa_cons (pv 0) (pa_cons (pe_callB call_lenA (by rfl) G.b_len bt_len (pa_cons (pv 1) pa_nil)) pa_nil))))
  (pss_cons (ps_set (i := 6) sc__law_near.nd rfl (by first | exact .inl rfl | exact .inr rfl) (pe_op op_mulA (pv 3) (pe_ix (ix_all (Room.u1 hr)) (pe_ix (ix_all (Room.u1 hr)) (pv 1) (pv 5) (ixn _)) pe_int (ixn _))))
  (pss_cons (ps_set (i := 7) sc__law_near.nd rfl (by first | exact .inl rfl | exact .inr rfl) (pe_lst (pa_cons (pv 6) (pa_cons (pe_op op_addA (pv 6) pe_int) (pa_cons (pe_un un_neg pe_int) (pa_cons pe_int (pa_cons pe_non (pa_cons pe_bl (pa_cons pe_str (pa_cons (pe_tup (pa_cons pe_int pa_nil)) pa_nil))))))))))
  (pss_cons (ps_set (i := 8) sc__law_near.nd rfl (by first | exact .inl rfl | exact .inr rfl) (pe_op op_catL (pe_lc (own := [("odd", 9)]) rfl sc__law_near.nd (pi_seq (pv 7)) (blkOk_by (by rfl)) (fun s H C cl fp => (pg_name (i := 9) sc__law_near.nd rfl (by first | exact .inl rfl | exact .inr rfl))) (fun s H C cl fp => pts_nil) (fun s H C cl fp => (pe_tup (pa_cons (pv 3) (pa_cons (pe_op op_addA (pe_op op_addA (pe_slice sl_all (pv 4) po_none (po_some (pv 5))) (pe_tup (pa_cons (pv 9) pa_nil))) (pe_slice sl_all (pv 4) (po_some (pe_op op_addA (pv 5) pe_int)) po_none)) pa_nil))))) (pe_lst (pa_cons (pe_tup (pa_cons pe_int (pa_cons (pv 4) pa_nil))) (pa_cons (pe_tup (pa_cons (pe_un un_neg pe_int) (pa_cons (pv 4) pa_nil))) (pa_cons (pe_tup (pa_cons pe_bl (pa_cons (pv 4) pa_nil))) (pa_cons (pe_tup (pa_cons pe_non (pa_cons (pv 4) pa_nil))) pa_nil)))))))
  (pss_cons (ps_set (i := 8) sc__law_near.nd rfl (by first | exact .inl rfl | exact .inr rfl) (pe_op op_catL (pv 8) (pe_lst (pa_cons (pe_tup (pa_cons (pv 3) (pa_cons (pe_op op_mulA (pe_tup (pa_cons pe_int pa_nil)) (pe_callB call_lenA (by rfl) G.b_len bt_len (pa_cons (pv 1) pa_nil))) pa_nil))) (pa_cons (pe_tup (pa_cons (pv 3) (pa_cons (pe_op op_addA (pv 4) (pe_tup (pa_cons pe_int pa_nil))) pa_nil))) (pa_cons (pe_tup (pa_cons (pv 3) (pa_cons (pe_slice sl_all (pv 4) (po_some pe_int) po_none) pa_nil))) (pa_cons (pe_tup (pa_cons (pv 3) (pa_cons (pe_callTy call_list_of (by rfl) G.b_list bt_list (pa_cons (pv 4) pa_nil)) pa_nil))) (pa_cons (pe_callTy call_list_of (by rfl) G.b_list bt_list (pa_cons (pv 2) pa_nil)) pa_nil))))))))
  (pss_cons (ps_expr (pe_bm PySem.F.plainAttrs_list PySem.F.slot_list_append PySem.F.type_list_append mt_append (pv 8) (pa_cons (pe_slice sl_all (pv 2) po_none (po_some pe_int)) pa_nil)))
  (pss_one (ps_ret (pe_op op_catL (pv 8) (pe_lst (pa_cons (pe_tup (pa_cons (pv 4) (pa_cons (pv 3) pa_nil))) (pa_cons (pe_op op_addA (pv 2) (pe_tup (pa_cons pe_int pa_nil))) (pa_cons (pv 4) (pa_cons pe_non (pa_cons (pe_tup (pa_cons (pe_op op_addA (pv 3) pe_int) (pa_cons (pv 4) pa_nil))) (pa_cons (pe_tup (pa_cons (pe_op op_pow pe_int pe_int) (pa_cons (pv 4) pa_nil))) (pa_cons (pe_tup (pa_cons (pe_callTy call_strA (by rfl) G.b_str bt_str (pa_cons (pv 3) pa_nil)) (pa_cons (pv 4) pa_nil))) pa_nil)))))))))))))))))),
  (ds_seq (ds_asgG (by decide) de_var (dg_tup (dgs_cons dg_name (dgs_cons dg_name dgs_nil))))
  (ds_seq (ds_setR (by decide) (dr_callO ln__law_roll (dl_cons (de_c1 c1_len dc_peek) dl_nil)))
  (ds_seq (ds_set (by decide) (de_opP oc_mul (DenE.con (de_op oc_ix (de_opP oc_ix dc_peek) (DenE.con de_int)))))
  (ds_seq (ds_setF (by decide) (df_lst (dl_cons de_var (dl_cons (de_opP oc_add (DenE.con de_int)) (dl_cons (de_un uc_neg (DenE.con de_int)) (dl_cons de_int (dl_cons de_non (dl_cons de_bl (dl_cons de_str (dl_cons (de_tup (dl_cons de_int dl_nil)) dl_nil))))))))))
  (ds_seq (ds_setF (by decide) (df_op of_catL (DenF.e (df_lc (by decide) (di_seq de_var) dg_name dt_yes (de_tup (dl_cons de_var (dl_cons (de_op oc_add (de_op oc_add (de_cutP do_none (do_some de_var)) (DenE.con (de_tup (dl_cons de_var dl_nil)))) (DenE.con (de_cutP (do_some (de_opP oc_add (DenE.con de_int))) do_none))) dl_nil))))) (DenE.con (DenF.e (df_lst (dl_cons (de_tup (dl_cons de_int (dl_cons de_var dl_nil))) (dl_cons (de_tup (dl_cons (de_un uc_neg (DenE.con de_int)) (dl_cons de_var dl_nil))) (dl_cons (de_tup (dl_cons de_bl (dl_cons de_var dl_nil))) (dl_cons (de_tup (dl_cons de_non (dl_cons de_var dl_nil))) dl_nil)))))))))
  (ds_seq (ds_setF (by decide) (df_opP of_catL (DenE.con (DenF.e (df_lst (dl_cons (de_tup (dl_cons de_var (dl_cons (de_op oc_mul (de_tup (dl_cons de_int dl_nil)) (DenE.con (de_c1 c1_len dc_peek))) dl_nil))) (dl_cons (de_tup (dl_cons de_var (dl_cons (de_opP oc_add (DenE.con (de_tup (dl_cons de_int dl_nil)))) dl_nil))) (dl_cons (de_tup (dl_cons de_var (dl_cons (de_cutP (do_some de_int) do_none) dl_nil))) (dl_cons (de_tup (dl_cons de_var (dl_cons (DenF.e (df_c1 c1f_list dc_peek)) dl_nil))) (dl_cons (DenF.e (df_c1 c1f_list dc_peek)) dl_nil))))))))))
  (ds_seq (ds_app (de_cutP do_none (do_some de_int)))
  (ds_retR (dr_o (df_opP of_catL (DenE.con (DenF.e (df_lst (dl_cons (de_tup (dl_cons de_var (dl_cons de_var dl_nil))) (dl_cons (de_opP oc_add (DenE.con (de_tup (dl_cons de_int dl_nil)))) (dl_cons de_var (dl_cons de_non (dl_cons (de_tup (dl_cons (de_opP oc_add (DenE.con de_int)) (dl_cons de_var dl_nil))) (dl_cons (de_tup (dl_cons (de_op oc_pow de_int (DenE.con de_int)) (dl_cons de_var dl_nil))) (dl_cons (de_tup (dl_cons (de_c1 c1_str dc_peek) (dl_cons de_var dl_nil))) dl_nil))))))))))))))))))))⟩
theorem sc__law_same : FnScope ["told", "due", "at"] ["told", "due"] (defScope (topS 29)) := ⟨rfl, rfl, rfl, by decide +kernel, rfl, by decide +kernel, by decide +kernel⟩
theorem or__law_same (G : Gs mg) (D : DefF K mg "_law_same" (topS 29) ["told", "due"])  : ∀ i : Nat, CalD P w K mg base (1 + i) "_law_same" 2 (r__law_same i)
  | 0 => (calD_0 (k := 0) D sc__law_same rfl).mono (by omega)
  | i + 1 => by
    have IH := or__law_same G D  i
    have hmf := lr__law_same i
    show CalD P w K mg base (1 + i + 1) "_law_same" 2 (mDef 2 1 [] (b__law_same (r__law_same i)))
    generalize r__law_same i = mf at IH hmf
    exact calD_of D sc__law_same rfl rfl fun f cdv A outer s H E hr => ⟨_, (pss_cons (ps_if (pt_truth (pe_callB call_isi (by rfl) G.b_isinstance bt_isinstance (pa_cons (pv 1) (pa_cons (pe_ty G.b_tuple bt_tuple) pa_nil))) (fun _ => rfl)) (pss_cons (ps_if (PW.pt (pw_or (pt_not (pt_truth (pe_callB call_isi (by rfl) G.b_isinstance bt_isinstance (pa_cons (pv 0) (pa_cons (pe_ty G.b_tuple bt_tuple) pa_nil))) (fun _ => rfl))) (pw_or1 (pt_cmpR (op_neP (Room.u64 hr)) (pe_callB call_lenA (by rfl) G.b_len bt_len (pa_cons (pv 0) pa_nil)) (pe_callB call_lenA (by rfl) G.b_len bt_len (pa_cons (pv 1) pa_nil)) (nomark _))))) (pss_one (ps_ret pe_bl)) pss_nil)
  (pss_one (ps_ret (pe_callB (cr_all rfl) (by rfl) G.b_all bt_all (pa_cons (pe_lc (own := [("at", 2)]) rfl sc__law_same.nd (pi_range1 (by rfl) G.b_range (pa_cons (pe_callB call_lenA (by rfl) G.b_len bt_len (pa_cons (pv 1) pa_nil)) pa_nil)) (blkOk_by (by rfl)) (fun s H C cl fp => (pg_name (i := 2) sc__law_same.nd rfl (by first | exact .inl rfl | exact .inr rfl))) (fun s H C cl fp => pts_nil) (fun s H C cl fp => (pe_cD IH hr (by omega) (by rfl) (pa_cons (pe_ix (ix_all (Room.u1 hr)) (pv 0) (pv 2) (ixn _)) (pa_cons (pe_ix (ix_all (Room.u1 hr)) (pv 1) (pv 2) (ixn _)) pa_nil))))) pa_nil))))) pss_nil)
  (pss_cons (ps_if (pt_cmpR op_isA (pv 1) pe_non (nomark _)) (pss_one (ps_ret (pe_cmpR op_isA (pv 0) pe_non (nomark _)))) pss_nil)
  (pss_cons (ps_if (pt_truth (pe_callB call_isi (by rfl) G.b_isinstance bt_isinstance (pa_cons (pv 1) (pa_cons (pe_ty G.b_bool bt_bool) pa_nil))) (fun _ => rfl)) (pss_one (ps_ret (pe_ifExp (pt_truth (pv 1) (fun _ => rfl)) (pe_cmpR op_isA (pv 0) pe_bl (nomark _)) (pe_cmpR op_isA (pv 0) pe_bl (nomark _))))) pss_nil)
  (pss_cons (ps_if (pt_truth (pe_callB call_isi (by rfl) G.b_isinstance bt_isinstance (pa_cons (pv 1) (pa_cons (pe_ty G.b_int bt_int) pa_nil))) (fun _ => rfl)) (pss_one (ps_ret (pe_andT (pe_callB call_isi (by rfl) G.b_isinstance bt_isinstance (pa_cons (pv 0) (pa_cons (pe_ty G.b_int bt_int) pa_nil))) (pe_andT (pe_notT (pe_callB call_isi (by rfl) G.b_isinstance bt_isinstance (pa_cons (pv 0) (pa_cons (pe_ty G.b_bool bt_bool) pa_nil)))) (pe_one (pe_cmpR (op_eqP (Room.u64 hr)) (pe_callTy call_int1 (by rfl) G.b_int bt_int (pa_cons (pv 0) pa_nil)) (pv 1) (nomark _))))))) pss_nil)
  (pss_one (ps_ret (pe_andT (pe_callB call_isi (by rfl) G.b_isinstance bt_isinstance (pa_cons (pv 0) (pa_cons (pe_ty G.b_str bt_str) pa_nil))) (pe_one (pe_cmpR (op_eqP (Room.u64 hr)) (pe_callTy call_strA (by rfl) G.b_str bt_str (pa_cons (pv 0) pa_nil)) (pv 1) (nomark _)))))))))),
  (ds_seq (ds_if (dt_tru (DenE.con (de_isi (T := .tuple) dc_peek))) (ds_seq (ds_if (dt_or (dt_not (dt_tru (DenE.con (de_isi (T := .tuple) dc_peek)))) (dt_test (de_op oc_eq (de_c1 c1_len dc_peek) (DenE.con (de_c1 c1_len dc_peek))))) (ds_ret de_bl) ds_next)
  (ds_ret (de_c1 c1_all (DenE.con (DenF.e (df_lc (by decide) (di_rng1 (de_c1 c1_len dc_peek)) dg_name dt_yes (de_r (dr_call hmf (dl_cons (de_opP oc_ix dc_peek) (dl_cons (de_opP oc_ix dc_peek) dl_nil)))))))))) ds_next)
  (ds_seq (ds_if (dt_test (de_opP oc_is (DenE.con de_non))) (ds_ret (de_opP oc_is (DenE.con de_non))) ds_next)
  (ds_seq (ds_if (dt_tru (DenE.con (de_isi (T := .bool) dc_peek))) (ds_ret (de_if (dt_tru dc_peek) (de_opP oc_is (DenE.con de_bl)) (de_opP oc_is (DenE.con de_bl)))) ds_next)
  (ds_seq (ds_if (dt_tru (DenE.con (de_isi (T := .int) dc_peek))) (ds_ret (de_and (de_isi (T := .int) dc_peek) (de_and (de_not (DenE.con (de_isi (T := .bool) dc_peek))) (de_op oc_eq (de_c1 c1_int dc_peek) dc_peek)))) ds_next)
  (ds_ret (de_and (de_isi (T := .str) dc_peek) (de_op oc_eq (de_c1 c1_str dc_peek) dc_peek)))))))⟩
theorem ok__law_same (G : Gs mg) (D : DefF K mg "_law_same" (topS 29) ["told", "due"])  : CalD P w K mg base 5 "_law_same" 2 m__law_same := (or__law_same G D  4).mono (by decide)
theorem sc_is_whole : FnScope ["value"] ["value"] (defScope (topS 8)) := ⟨rfl, rfl, rfl, by decide +kernel, rfl, by decide +kernel, by decide +kernel⟩
theorem ok_is_whole (G : Gs mg) (D : DefF K mg "is_whole" (topS 8) ["value"])  : CalD P w K mg base 1 "is_whole" 1 m_is_whole :=
  calD_of D sc_is_whole rfl rfl fun f cdv A outer s H E hr => ⟨_, (pss_one (ps_ret (pe_andT (pe_callB call_isi (by rfl) G.b_isinstance bt_isinstance (pa_cons (pv 0) (pa_cons (pe_ty G.b_int bt_int) pa_nil))) (pe_one (pe_notT (pe_callB call_isi (by rfl) G.b_isinstance bt_isinstance (pa_cons (pv 0) (pa_cons (pe_ty G.b_bool bt_bool) pa_nil)))))))),
  (ds_ret (de_and (de_isi (T := .int) dc_peek) (de_not (DenE.con (de_isi (T := .bool) dc_peek)))))⟩
theorem sc_fits_whole : FnScope ["value", "low", "high"] ["value", "low", "high"] (defScope (topS 9)) := ⟨rfl, rfl, rfl, by decide +kernel, rfl, by decide +kernel, by decide +kernel⟩
theorem ok_fits_whole (G : Gs mg) (D : DefF K mg "fits_whole" (topS 9) ["value", "low", "high"]) (c_is_whole : CalD P w K mg base 1 "is_whole" 1 m_is_whole) : CalD P w K mg base 2 "fits_whole" 3 m_fits_whole :=
  calD_of D sc_fits_whole rfl rfl fun f cdv A outer s H E hr => ⟨_, (pss_one (ps_ret (pe_andT (pe_cD c_is_whole hr (by omega) (by rfl) (pa_cons (pv 0) pa_nil)) (pe_one (pe_chain (op_leP (Room.u64 hr)) (op_leP (Room.u64 hr)) (pv 1) (pv 0) (pv 2)))))),
  (ds_ret (de_and (de_r (dr_call ln_is_whole (dl_cons de_var dl_nil))) (de_chain oc_ord oc_ord de_var de_var dc_peek)))⟩
theorem sc_is_tuple_of : FnScope ["value", "least", "most"] ["value", "least", "most"] (defScope (topS 10)) := ⟨rfl, rfl, rfl, by decide +kernel, rfl, by decide +kernel, by decide +kernel⟩
theorem ok_is_tuple_of (G : Gs mg) (D : DefF K mg "is_tuple_of" (topS 10) ["value", "least", "most"])  : CalD P w K mg base 1 "is_tuple_of" 3 m_is_tuple_of :=
  calD_of D sc_is_tuple_of rfl rfl fun f cdv A outer s H E hr => ⟨_, (pss_one (ps_ret (pe_andT (pe_callB call_isi (by rfl) G.b_isinstance bt_isinstance (pa_cons (pv 0) (pa_cons (pe_ty G.b_tuple bt_tuple) pa_nil))) (pe_one (pe_chain (op_leP (Room.u64 hr)) (op_leP (Room.u64 hr)) (pv 1) (pe_callB call_lenA (by rfl) G.b_len bt_len (pa_cons (pv 0) pa_nil)) (pv 2)))))),
  (ds_ret (de_and (de_isi (T := .tuple) dc_peek) (de_chain oc_ord oc_ord de_var (de_c1 c1_len dc_peek) dc_peek)))⟩
theorem sc_fits_bounds : FnScope ["ingots", "value", "many", "one"] ["ingots", "value"] (defScope (topS 19)) := ⟨rfl, rfl, rfl, by decide +kernel, rfl, by decide +kernel, by decide +kernel⟩
theorem ok_fits_bounds (G : Gs mg) (D : DefF K mg "fits_bounds" (topS 19) ["ingots", "value"]) (c_is_tuple_of : CalD P w K mg base 1 "is_tuple_of" 3 m_is_tuple_of) (c_fits_whole : CalD P w K mg base 2 "fits_whole" 3 m_fits_whole) : CalD P w K mg base 3 "fits_bounds" 2 m_fits_bounds :=
  calD_of D sc_fits_bounds rfl rfl fun f cdv A outer s H E hr => ⟨_, (pss_cons (ps_set (i := 2) sc_fits_bounds.nd rfl (by first | exact .inl rfl | exact .inr rfl) (pe_callB call_lenA (by rfl) G.b_len bt_len (pa_cons (pe_ix (ix_all (Room.u1 hr)) (pe_ix (ix_all (Room.u1 hr)) (pv 0) pe_int (ixn _)) pe_int (ixn _)) pa_nil)))
  (pss_cons (ps_if (PW.pt (pw_or (pt_not (pt_truth (pe_cD c_is_tuple_of hr (by omega) (by rfl) (pa_cons (pv 1) (pa_cons (pv 2) (pa_cons (pv 2) pa_nil)))) (fun _ => rfl))) (pw_or1 (pt_not (pt_truth (pe_callB (cr_all rfl) (by rfl) G.b_all bt_all (pa_cons (pe_lc (own := [("one", 3)]) rfl sc_fits_bounds.nd (pi_seq (pv 1)) (blkOk_by (by rfl)) (fun s H C cl fp => (pg_name (i := 3) sc_fits_bounds.nd rfl (by first | exact .inl rfl | exact .inr rfl))) (fun s H C cl fp => pts_nil) (fun s H C cl fp => (pe_cD c_is_tuple_of hr (by omega) (by rfl) (pa_cons (pv 3) (pa_cons pe_int (pa_cons pe_int pa_nil)))))) pa_nil)) (fun _ => rfl)))))) (pss_one (ps_ret pe_bl)) pss_nil)
  (pss_one (ps_ret (pe_callB (cr_all rfl) (by rfl) G.b_all bt_all (pa_cons (pe_lc (own := [("one", 3)]) rfl sc_fits_bounds.nd (pi_seq (pv 1)) (blkOk_by (by rfl)) (fun s H C cl fp => (pg_name (i := 3) sc_fits_bounds.nd rfl (by first | exact .inl rfl | exact .inr rfl))) (fun s H C cl fp => pts_nil) (fun s H C cl fp => (pe_andT (pe_cD c_fits_whole hr (by omega) (by rfl) (pa_cons (pe_ix (ix_all (Room.u1 hr)) (pv 3) pe_int (ixn _)) (pa_cons pe_int (pa_cons (pe_g G.g_THOUSAND) pa_nil)))) (pe_one (pe_cD c_fits_whole hr (by omega) (by rfl) (pa_cons (pe_ix (ix_all (Room.u1 hr)) (pv 3) pe_int (ixn _)) (pa_cons (pe_ix (ix_all (Room.u1 hr)) (pv 3) pe_int (ixn _)) (pa_cons (pe_g G.g_THOUSAND) pa_nil)))))))) pa_nil)))))),
  (ds_seq (ds_set (by decide) (de_c1 c1_len (DenE.con (de_op oc_ix (de_opP oc_ix (DenE.con de_int)) (DenE.con de_int)))))
  (ds_seq (ds_if (dt_or (dt_not (dt_tru (DenE.con (de_r (dr_call ln_is_tuple_of (dl_cons de_var (dl_cons de_var (dl_cons de_var dl_nil)))))))) (dt_not (dt_tru (DenE.con (de_c1 c1_all (DenE.con (DenF.e (df_lc (by decide) (di_seq de_var) dg_name dt_yes (de_r (dr_call ln_is_tuple_of (dl_cons de_var (dl_cons de_int (dl_cons de_int dl_nil))))))))))))) (ds_ret de_bl) ds_next)
  (ds_ret (de_c1 c1_all (DenE.con (DenF.e (df_lc (by decide) (di_seq de_var) dg_name dt_yes (de_and (de_r (dr_call ln_fits_whole (dl_cons (de_opP oc_ix (DenE.con de_int)) (dl_cons de_int (dl_cons de_int dl_nil))))) (de_r (dr_call ln_fits_whole (dl_cons (de_opP oc_ix (DenE.con de_int)) (dl_cons (de_opP oc_ix (DenE.con de_int)) (dl_cons de_int dl_nil)))))))))))))⟩
theorem sc_fits_name : FnScope ["value", "sign"] ["value"] (defScope (topS 7)) := ⟨rfl, rfl, rfl, by decide +kernel, rfl, by decide +kernel, by decide +kernel⟩
theorem ok_fits_name (G : Gs mg) (D : DefF K mg "fits_name" (topS 7) ["value"])  : CalD P w K mg base 1 "fits_name" 1 m_fits_name :=
  calD_of D sc_fits_name rfl rfl fun f cdv A outer s H E hr => ⟨_, (pss_cons (ps_if (PW.pt (pw_or (pt_not (pt_truth (pe_callB call_isi (by rfl) G.b_isinstance bt_isinstance (pa_cons (pv 0) (pa_cons (pe_ty G.b_str bt_str) pa_nil))) (fun _ => rfl))) (pw_or1 (pt_not (pt_chain (op_leP (Room.u64 hr)) (op_leP (Room.u64 hr)) pe_int (pe_callB call_lenA (by rfl) G.b_len bt_len (pa_cons (pv 0) pa_nil)) (pe_g G.g_LONGEST)))))) (pss_one (ps_ret pe_bl)) pss_nil)
  (pss_one (ps_ret (pe_andT (pe_cmpR (op_inA (Room.u65 hr)) (pe_ix (ix_all (Room.u1 hr)) (pv 0) pe_int (ixn _)) (pe_g G.g_LETTERS) rfl) (pe_one (pe_callB (cr_all rfl) (by rfl) G.b_all bt_all (pa_cons (pe_lc (own := [("sign", 1)]) rfl sc_fits_name.nd (pi_seq (pv 0)) (blkOk_by (by rfl)) (fun s H C cl fp => (pg_name (i := 1) sc_fits_name.nd rfl (by first | exact .inl rfl | exact .inr rfl))) (fun s H C cl fp => pts_nil) (fun s H C cl fp => (pe_cmpR (op_inA (Room.u65 hr)) (pv 1) (pe_g G.g_SIGNS) rfl))) pa_nil))))))),
  (ds_seq (ds_if (dt_or (dt_not (dt_tru (DenE.con (de_isi (T := .str) dc_peek)))) (dt_not (dt_test (de_chain oc_ord oc_ord de_int (de_c1 c1_len dc_peek) (DenE.con de_int))))) (ds_ret de_bl) ds_next)
  (ds_ret (de_and (de_op oc_in (de_opP oc_ix (DenE.con de_int)) (DenE.con de_str)) (de_c1 c1_all (DenE.con (DenF.e (df_lc (by decide) (di_seq de_var) dg_name dt_yes (de_opP oc_in (DenE.con de_str)))))))))⟩
theorem sc_fits_parts : FnScope ["value", "one"] ["value"] (defScope (topS 16)) := ⟨rfl, rfl, rfl, by decide +kernel, rfl, by decide +kernel, by decide +kernel⟩
theorem ok_fits_parts (G : Gs mg) (D : DefF K mg "fits_parts" (topS 16) ["value"]) (c_is_tuple_of : CalD P w K mg base 1 "is_tuple_of" 3 m_is_tuple_of) (c_fits_whole : CalD P w K mg base 2 "fits_whole" 3 m_fits_whole) : CalD P w K mg base 3 "fits_parts" 1 m_fits_parts :=
  calD_of D sc_fits_parts rfl rfl fun f cdv A outer s H E hr => ⟨_, (pss_cons (ps_if (PW.pt (pw_or (pt_not (pt_truth (pe_cD c_is_tuple_of hr (by omega) (by rfl) (pa_cons (pv 0) (pa_cons pe_int (pa_cons (pe_g G.g_METALS) pa_nil)))) (fun _ => rfl))) (pw_or1 (pt_not (pt_truth (pe_callB (cr_all rfl) (by rfl) G.b_all bt_all (pa_cons (pe_lc (own := [("one", 1)]) rfl sc_fits_parts.nd (pi_seq (pv 0)) (blkOk_by (by rfl)) (fun s H C cl fp => (pg_name (i := 1) sc_fits_parts.nd rfl (by first | exact .inl rfl | exact .inr rfl))) (fun s H C cl fp => pts_nil) (fun s H C cl fp => (pe_cD c_fits_whole hr (by omega) (by rfl) (pa_cons (pv 1) (pa_cons pe_int (pa_cons (pe_g G.g_THOUSAND) pa_nil)))))) pa_nil)) (fun _ => rfl)))))) (pss_one (ps_ret pe_bl)) pss_nil)
  (pss_one (ps_ret (pe_cmpR (op_eqP (Room.u64 hr)) (pe_callB (cr_sumA rfl) (by rfl) G.b_sum bt_sum (pa_cons (pv 0) pa_nil)) (pe_g G.g_THOUSAND) (nomark _))))),
  (ds_seq (ds_if (dt_or (dt_not (dt_tru (DenE.con (de_r (dr_call ln_is_tuple_of (dl_cons de_var (dl_cons de_int (dl_cons de_int dl_nil)))))))) (dt_not (dt_tru (DenE.con (de_c1 c1_all (DenE.con (DenF.e (df_lc (by decide) (di_seq de_var) dg_name dt_yes (de_r (dr_call ln_fits_whole (dl_cons de_var (dl_cons de_int (dl_cons de_int dl_nil))))))))))))) (ds_ret de_bl) ds_next)
  (ds_ret (de_op oc_eq (de_c1 c1_sum dc_peek) (DenE.con de_int))))⟩
theorem sc_fits_ingot : FnScope ["value"] ["value"] (defScope (topS 17)) := ⟨rfl, rfl, rfl, by decide +kernel, rfl, by decide +kernel, by decide +kernel⟩
theorem ok_fits_ingot (G : Gs mg) (D : DefF K mg "fits_ingot" (topS 17) ["value"]) (c_is_tuple_of : CalD P w K mg base 1 "is_tuple_of" 3 m_is_tuple_of) (c_fits_name : CalD P w K mg base 1 "fits_name" 1 m_fits_name) (c_fits_whole : CalD P w K mg base 2 "fits_whole" 3 m_fits_whole) (c_fits_parts : CalD P w K mg base 3 "fits_parts" 1 m_fits_parts) : CalD P w K mg base 4 "fits_ingot" 1 m_fits_ingot :=
  calD_of D sc_fits_ingot rfl rfl fun f cdv A outer s H E hr => ⟨_, (pss_cons (ps_if (PW.pt (pw_or (pt_not (pt_truth (pe_cD c_is_tuple_of hr (by omega) (by rfl) (pa_cons (pv 0) (pa_cons pe_int (pa_cons pe_int pa_nil)))) (fun _ => rfl))) (pw_or1 (pt_not (pt_truth (pe_cD c_fits_name hr (by omega) (by rfl) (pa_cons (pe_ix (ix_all (Room.u1 hr)) (pv 0) pe_int (ixn _)) pa_nil)) (fun _ => rfl)))))) (pss_one (ps_ret pe_bl)) pss_nil)
  (pss_one (ps_ret (pe_andT (pe_cD c_fits_whole hr (by omega) (by rfl) (pa_cons (pe_ix (ix_all (Room.u1 hr)) (pv 0) pe_int (ixn _)) (pa_cons pe_int (pa_cons (pe_g G.g_THOUSAND) pa_nil)))) (pe_one (pe_cD c_fits_parts hr (by omega) (by rfl) (pa_cons (pe_ix (ix_all (Room.u1 hr)) (pv 0) pe_int (ixn _)) pa_nil))))))),
  (ds_seq (ds_if (dt_or (dt_not (dt_tru (DenE.con (de_r (dr_call ln_is_tuple_of (dl_cons de_var (dl_cons de_int (dl_cons de_int dl_nil)))))))) (dt_not (dt_tru (DenE.con (de_r (dr_call ln_fits_name (dl_cons (de_opP oc_ix (DenE.con de_int)) dl_nil))))))) (ds_ret de_bl) ds_next)
  (ds_ret (de_and (de_r (dr_call ln_fits_whole (dl_cons (de_opP oc_ix (DenE.con de_int)) (dl_cons de_int (dl_cons de_int dl_nil))))) (de_r (dr_call ln_fits_parts (dl_cons (de_opP oc_ix (DenE.con de_int)) dl_nil))))))⟩
theorem sc_is_rising : FnScope ["values", "one", "other"] ["values"] (defScope (topS 11)) := ⟨rfl, rfl, rfl, by decide +kernel, rfl, by decide +kernel, by decide +kernel⟩
theorem ok_is_rising (G : Gs mg) (D : DefF K mg "is_rising" (topS 11) ["values"])  : CalD P w K mg base 1 "is_rising" 1 m_is_rising :=
  calD_of D sc_is_rising rfl rfl fun f cdv A outer s H E hr => ⟨_, (pss_one (ps_ret (pe_callB (cr_all rfl) (by rfl) G.b_all bt_all (pa_cons (pe_lc (own := [("one", 1), ("other", 2)]) rfl sc_is_rising.nd (RZ.pi_zipA (by rfl) G.b_zip (pa_cons (pv 0) (pa_cons (pe_slice sl_all (pv 0) (po_some pe_int) po_none) pa_nil))) (blkOk_by (by rfl)) (fun s H C cl fp => (pg_tup rfl (pgs_cons (pg_name (i := 1) sc_is_rising.nd rfl (by first | exact .inl rfl | exact .inr rfl)) (pgs_cons (pg_name (i := 2) sc_is_rising.nd rfl (by first | exact .inl rfl | exact .inr rfl)) pgs_nil)))) (fun s H C cl fp => pts_nil) (fun s H C cl fp => (pe_cmpR (op_ltP (Room.u64 hr)) (pv 1) (pv 2) (nomark _)))) pa_nil)))),
  (ds_ret (de_c1 c1_all (DenE.con (DenF.e (df_lc (by decide) (di_zip de_var (de_cutP (do_some de_int) do_none)) (dg_tup (dgs_cons dg_name (dgs_cons dg_name dgs_nil))) dt_yes (de_opP oc_ord dc_peek))))))⟩
theorem sc_fits_ingots : FnScope ["value", "one"] ["value"] (defScope (topS 18)) := ⟨rfl, rfl, rfl, by decide +kernel, rfl, by decide +kernel, by decide +kernel⟩
theorem ok_fits_ingots (G : Gs mg) (D : DefF K mg "fits_ingots" (topS 18) ["value"]) (c_is_tuple_of : CalD P w K mg base 1 "is_tuple_of" 3 m_is_tuple_of) (c_fits_ingot : CalD P w K mg base 4 "fits_ingot" 1 m_fits_ingot) (c_is_rising : CalD P w K mg base 1 "is_rising" 1 m_is_rising) : CalD P w K mg base 5 "fits_ingots" 1 m_fits_ingots :=
  calD_of D sc_fits_ingots rfl rfl fun f cdv A outer s H E hr => ⟨_, (pss_cons (ps_if (PW.pt (pw_or (pt_not (pt_truth (pe_cD c_is_tuple_of hr (by omega) (by rfl) (pa_cons (pv 0) (pa_cons pe_int (pa_cons (pe_g G.g_INGOTS) pa_nil)))) (fun _ => rfl))) (pw_or1 (pt_not (pt_truth (pe_callB (cr_all rfl) (by rfl) G.b_all bt_all (pa_cons (pe_lc (own := [("one", 1)]) rfl sc_fits_ingots.nd (pi_seq (pv 0)) (blkOk_by (by rfl)) (fun s H C cl fp => (pg_name (i := 1) sc_fits_ingots.nd rfl (by first | exact .inl rfl | exact .inr rfl))) (fun s H C cl fp => pts_nil) (fun s H C cl fp => (pe_cD c_fits_ingot hr (by omega) (by rfl) (pa_cons (pv 1) pa_nil)))) pa_nil)) (fun _ => rfl)))))) (pss_one (ps_ret pe_bl)) pss_nil)
  (pss_one (ps_ret (pe_andT (pe_cD c_is_rising hr (by omega) (by rfl) (pa_cons (pe_lc (own := [("one", 1)]) rfl sc_fits_ingots.nd (pi_seq (pv 0)) (blkOk_by (by rfl)) (fun s H C cl fp => (pg_name (i := 1) sc_fits_ingots.nd rfl (by first | exact .inl rfl | exact .inr rfl))) (fun s H C cl fp => pts_nil) (fun s H C cl fp => (pe_ix (ix_all (Room.u1 hr)) (pv 1) pe_int (ixn _)))) pa_nil)) (pe_one (pe_cmpR (op_eqP (Room.u64 hr)) (pe_lenSetA (by rfl) G.b_len (by rfl) G.b_set (pe_lc (own := [("one", 1)]) rfl sc_fits_ingots.nd (pi_seq (pv 0)) (blkOk_by (by rfl)) (fun s H C cl fp => (pg_name (i := 1) sc_fits_ingots.nd rfl (by first | exact .inl rfl | exact .inr rfl))) (fun s H C cl fp => pts_nil) (fun s H C cl fp => (pe_callB call_lenA (by rfl) G.b_len bt_len (pa_cons (pe_ix (ix_all (Room.u1 hr)) (pv 1) pe_int (ixn _)) pa_nil))))) pe_int (nomark _))))))),
  (ds_seq (ds_if (dt_or (dt_not (dt_tru (DenE.con (de_r (dr_call ln_is_tuple_of (dl_cons de_var (dl_cons de_int (dl_cons de_int dl_nil)))))))) (dt_not (dt_tru (DenE.con (de_c1 c1_all (DenE.con (DenF.e (df_lc (by decide) (di_seq de_var) dg_name dt_yes (de_r (dr_call ln_fits_ingot (dl_cons de_var dl_nil))))))))))) (ds_ret de_bl) ds_next)
  (ds_ret (de_and (de_r (dr_call ln_is_rising (dl_cons (DenF.e (df_lc (by decide) (di_seq de_var) dg_name dt_yes (de_opP oc_ix (DenE.con de_int)))) dl_nil))) (de_op oc_eq (de_lenSet (DenE.con (DenF.e (df_lc (by decide) (di_seq de_var) dg_name dt_yes (de_c1 c1_len (DenE.con (de_opP oc_ix (DenE.con de_int)))))))) (DenE.con de_int)))))⟩
theorem sc_need_ingots : FnScope ["value"] ["value"] (defScope (topS 21)) := ⟨rfl, rfl, rfl, by decide +kernel, rfl, by decide +kernel, by decide +kernel⟩
theorem ok_need_ingots (G : Gs mg) (D : DefF K mg "need_ingots" (topS 21) ["value"]) (c_fits_ingots : CalD P w K mg base 5 "fits_ingots" 1 m_fits_ingots) : CalD P w K mg base 6 "need_ingots" 1 m_need_ingots :=
  calD_of D sc_need_ingots rfl rfl fun f cdv A outer s H E hr => ⟨_, (pss_one (ps_if (pt_not (pt_truth (pe_cD c_fits_ingots hr (by omega) (by rfl) (pa_cons (pv 0) pa_nil)) (fun _ => rfl))) (pss_one ps_never) pss_nil)),
  (ds_if (dt_not (dt_tru (DenE.con (de_r (dr_call ln_fits_ingots (dl_cons de_var dl_nil)))))) ds_never ds_next)⟩
theorem sc_are_bounds : FnScope ["ingots", "value"] ["ingots", "value"] (defScope (topS 23)) := ⟨rfl, rfl, rfl, by decide +kernel, rfl, by decide +kernel, by decide +kernel⟩
theorem ok_are_bounds (G : Gs mg) (D : DefF K mg "are_bounds" (topS 23) ["ingots", "value"]) (c_need_ingots : CalD P w K mg base 6 "need_ingots" 1 m_need_ingots) (c_fits_bounds : CalD P w K mg base 3 "fits_bounds" 2 m_fits_bounds) : CalD P w K mg base 7 "are_bounds" 2 m_are_bounds :=
  calD_of D sc_are_bounds rfl rfl fun f cdv A outer s H E hr => ⟨_, (pss_cons (ps_expr (pe_cD c_need_ingots hr (by omega) (by rfl) (pa_cons (pv 0) pa_nil)))
  (pss_one (ps_ret (pe_cD c_fits_bounds hr (by omega) (by rfl) (pa_cons (pv 0) (pa_cons (pv 1) pa_nil)))))),
  (ds_seq (ds_drop (de_r (dr_call ln_need_ingots (dl_cons de_var dl_nil))))
  (ds_retR (dr_call ln_fits_bounds (dl_cons de_var (dl_cons de_var dl_nil)))))⟩
theorem sc_are_ingots : FnScope ["value"] ["value"] (defScope (topS 22)) := ⟨rfl, rfl, rfl, by decide +kernel, rfl, by decide +kernel, by decide +kernel⟩
theorem ok_are_ingots (G : Gs mg) (D : DefF K mg "are_ingots" (topS 22) ["value"]) (c_fits_ingots : CalD P w K mg base 5 "fits_ingots" 1 m_fits_ingots) : CalD P w K mg base 6 "are_ingots" 1 m_are_ingots :=
  calD_of D sc_are_ingots rfl rfl fun f cdv A outer s H E hr => ⟨_, (pss_one (ps_ret (pe_cD c_fits_ingots hr (by omega) (by rfl) (pa_cons (pv 0) pa_nil)))),
  (ds_retR (dr_call ln_fits_ingots (dl_cons de_var dl_nil)))⟩
theorem sc_fits_mixture : FnScope ["ingots", "value", "one", "ingot"] ["ingots", "value"] (defScope (topS 20)) := ⟨rfl, rfl, rfl, by decide +kernel, rfl, by decide +kernel, by decide +kernel⟩
theorem ok_fits_mixture (G : Gs mg) (D : DefF K mg "fits_mixture" (topS 20) ["ingots", "value"]) (c_is_tuple_of : CalD P w K mg base 1 "is_tuple_of" 3 m_is_tuple_of) (c_is_whole : CalD P w K mg base 1 "is_whole" 1 m_is_whole) : CalD P w K mg base 2 "fits_mixture" 2 m_fits_mixture :=
  calD_of D sc_fits_mixture rfl rfl fun f cdv A outer s H E hr => ⟨_, (pss_cons (ps_if (PW.pt (pw_or (pt_not (pt_truth (pe_cD c_is_tuple_of hr (by omega) (by rfl) (pa_cons (pv 1) (pa_cons pe_int (pa_cons pe_int pa_nil)))) (fun _ => rfl))) (pw_or (pt_not (pt_truth (pe_cD c_is_whole hr (by omega) (by rfl) (pa_cons (pe_ix (ix_all (Room.u1 hr)) (pv 1) pe_int (ixn _)) pa_nil)) (fun _ => rfl))) (pw_or1 (pt_cmpR (op_ltP (Room.u64 hr)) (pe_ix (ix_all (Room.u1 hr)) (pv 1) pe_int (ixn _)) pe_int (nomark _)))))) (pss_one (ps_ret pe_bl)) pss_nil)
  (pss_cons (ps_if (PW.pt (pw_or (pt_not (pt_truth (pe_cD c_is_tuple_of hr (by omega) (by rfl) (pa_cons (pe_ix (ix_all (Room.u1 hr)) (pv 1) pe_int (ixn _)) (pa_cons (pe_callB call_lenA (by rfl) G.b_len bt_len (pa_cons (pv 0) pa_nil)) (pa_cons (pe_callB call_lenA (by rfl) G.b_len bt_len (pa_cons (pv 0) pa_nil)) pa_nil)))) (fun _ => rfl))) (pw_or1 (pt_not (pt_truth (pe_callB (cr_all rfl) (by rfl) G.b_all bt_all (pa_cons (pe_lc (own := [("one", 2)]) rfl sc_fits_mixture.nd (pi_seq (pe_ix (ix_all (Room.u1 hr)) (pv 1) pe_int (ixn _))) (blkOk_by (by rfl)) (fun s H C cl fp => (pg_name (i := 2) sc_fits_mixture.nd rfl (by first | exact .inl rfl | exact .inr rfl))) (fun s H C cl fp => pts_nil) (fun s H C cl fp => (pe_cD c_is_whole hr (by omega) (by rfl) (pa_cons (pv 2) pa_nil)))) pa_nil)) (fun _ => rfl)))))) (pss_one (ps_ret pe_bl)) pss_nil)
  (pss_one (ps_ret (pe_andT (pe_cmpR (op_gtP (Room.u64 hr)) (pe_callB (cr_sumA rfl) (by rfl) G.b_sum bt_sum (pa_cons (pe_ix (ix_all (Room.u1 hr)) (pv 1) pe_int (ixn _)) pa_nil)) pe_int (nomark _)) (pe_one (pe_callB (cr_all rfl) (by rfl) G.b_all bt_all (pa_cons (pe_lc (own := [("one", 2), ("ingot", 3)]) rfl sc_fits_mixture.nd (RZ.pi_zipA (by rfl) G.b_zip (pa_cons (pe_ix (ix_all (Room.u1 hr)) (pv 1) pe_int (ixn _)) (pa_cons (pv 0) pa_nil))) (blkOk_by (by rfl)) (fun s H C cl fp => (pg_tup rfl (pgs_cons (pg_name (i := 2) sc_fits_mixture.nd rfl (by first | exact .inl rfl | exact .inr rfl)) (pgs_cons (pg_name (i := 3) sc_fits_mixture.nd rfl (by first | exact .inl rfl | exact .inr rfl)) pgs_nil)))) (fun s H C cl fp => pts_nil) (fun s H C cl fp => (pe_chain (op_leP (Room.u64 hr)) (op_leP (Room.u64 hr)) pe_int (pv 2) (pe_op op_mulA (pe_ix (ix_all (Room.u1 hr)) (pv 1) pe_int (ixn _)) (pe_ix (ix_all (Room.u1 hr)) (pv 3) pe_int (ixn _)))))) pa_nil)))))))),
  (ds_seq (ds_if (dt_or (dt_not (dt_tru (DenE.con (de_r (dr_call ln_is_tuple_of (dl_cons de_var (dl_cons de_int (dl_cons de_int dl_nil)))))))) (dt_or (dt_not (dt_tru (DenE.con (de_r (dr_call ln_is_whole (dl_cons (de_opP oc_ix (DenE.con de_int)) dl_nil)))))) (dt_test (de_op oc_ord (de_opP oc_ix (DenE.con de_int)) (DenE.con de_int))))) (ds_ret de_bl) ds_next)
  (ds_seq (ds_if (dt_or (dt_not (dt_tru (DenE.con (de_r (dr_call ln_is_tuple_of (dl_cons (de_opP oc_ix (DenE.con de_int)) (dl_cons (de_c1 c1_len dc_peek) (dl_cons (de_c1 c1_len dc_peek) dl_nil)))))))) (dt_not (dt_tru (DenE.con (de_c1 c1_all (DenE.con (DenF.e (df_lc (by decide) (di_seq (de_opP oc_ix (DenE.con de_int))) dg_name dt_yes (de_r (dr_call ln_is_whole (dl_cons de_var dl_nil))))))))))) (ds_ret de_bl) ds_next)
  (ds_ret (de_and (de_op oc_ord (de_c1 c1_sum (DenE.con (de_opP oc_ix (DenE.con de_int)))) (DenE.con de_int)) (de_c1 c1_all (DenE.con (DenF.e (df_lc (by decide) (di_zip (de_opP oc_ix (DenE.con de_int)) de_var) (dg_tup (dgs_cons dg_name (dgs_cons dg_name dgs_nil))) dt_yes (de_chain oc_ord oc_ord de_int de_var (DenE.con (de_op oc_mul (de_opP oc_ix (DenE.con de_int)) (DenE.con (de_opP oc_ix (DenE.con de_int))))))))))))))⟩
theorem sc_is_mixture : FnScope ["ingots", "value"] ["ingots", "value"] (defScope (topS 24)) := ⟨rfl, rfl, rfl, by decide +kernel, rfl, by decide +kernel, by decide +kernel⟩
theorem ok_is_mixture (G : Gs mg) (D : DefF K mg "is_mixture" (topS 24) ["ingots", "value"]) (c_need_ingots : CalD P w K mg base 6 "need_ingots" 1 m_need_ingots) (c_fits_mixture : CalD P w K mg base 2 "fits_mixture" 2 m_fits_mixture) : CalD P w K mg base 7 "is_mixture" 2 m_is_mixture :=
  calD_of D sc_is_mixture rfl rfl fun f cdv A outer s H E hr => ⟨_, (pss_cons (ps_expr (pe_cD c_need_ingots hr (by omega) (by rfl) (pa_cons (pv 0) pa_nil)))
  (pss_one (ps_ret (pe_cD c_fits_mixture hr (by omega) (by rfl) (pa_cons (pv 0) (pa_cons (pv 1) pa_nil)))))),
  (ds_seq (ds_drop (de_r (dr_call ln_need_ingots (dl_cons de_var dl_nil))))
  (ds_retR (dr_call ln_fits_mixture (dl_cons de_var (dl_cons de_var dl_nil)))))⟩
theorem sc__law_right : FnScope ["cup", "ingots", "odd", "metals", "bounds", "metal", "mixture", "near"] ["cup"] (defScope (topS 40)) := ⟨rfl, rfl, rfl, by decide +kernel, rfl, by decide +kernel, by decide +kernel⟩
theorem ok__law_right (G : Gs mg) (D : DefF K mg "_law_right" (topS 40) ["cup"]) (c__law_ingots : CalD P w K mg base 4 "_law_ingots" 2 m__law_ingots) (c_are_ingots : CalD P w K mg base 6 "are_ingots" 1 m_are_ingots) (c__law_bent_ingots : CalD P w K mg base 2 "_law_bent_ingots" 2 m__law_bent_ingots) (c__law_some : CalD P w K mg base 2 "_law_some" 2 m__law_some) (c__law_roll : CalD P w K mg base 1 "_law_roll" 2 m__law_roll) (c_are_bounds : CalD P w K mg base 7 "are_bounds" 2 m_are_bounds) (c__law_bent_bounds : CalD P w K mg base 2 "_law_bent_bounds" 2 m__law_bent_bounds) (c__law_mixture : CalD P w K mg base 3 "_law_mixture" 2 m__law_mixture) (c__law_near : CalD P w K mg base 2 "_law_near" 3 m__law_near) (c__law_same : CalD P w K mg base 5 "_law_same" 2 m__law_same) (c__law_is_mixture : CalD P w K mg base 2 "_law_is_mixture" 2 m__law_is_mixture) (c_is_mixture : CalD P w K mg base 7 "is_mixture" 2 m_is_mixture) : CalD P w K mg base 8 "_law_right" 1 m__law_right :=
  calD_of D sc__law_right rfl rfl fun f cdv A outer s H E hr => ⟨_, (pss_cons (ps_set (i := 1) sc__law_right.nd rfl (by first | exact .inl rfl | exact .inr rfl) (pe_cD c__law_ingots hr (by omega) (by rfl) (pa_cons (pv 0) (pa_cons pe_int pa_nil))))
  (pss_cons (ps_if (PW.pt (pw_or (pt_cmpR op_isNotA (pe_cD c_are_ingots hr (by omega) (by rfl) (pa_cons (pv 1) pa_nil)) pe_bl (nomark _)) (pw_or1 (pt_cmpR (op_neP (Room.u64 hr)) (pe_lc (own := [("odd", 2)]) rfl sc__law_right.nd (pi_seq (pe_cD c__law_bent_ingots hr (by omega) (by rfl) (pa_cons (pv 0) (pa_cons (pv 1) pa_nil)))) (blkOk_by (by rfl)) (fun s H C cl fp => (pg_name (i := 2) sc__law_right.nd rfl (by first | exact .inl rfl | exact .inr rfl))) (fun s H C cl fp => (pts_one (pt_cmpR op_isNotA (pe_cD c_are_ingots hr (by omega) (by rfl) (pa_cons (pv 2) pa_nil)) pe_bl (nomark _)))) (fun s H C cl fp => (pv 2))) (pe_lst pa_nil) (nomark _))))) (pss_one (ps_ret pe_bl)) pss_nil)
  (pss_cons (ps_set (i := 3) sc__law_right.nd rfl (by first | exact .inl rfl | exact .inr rfl) (pe_callB call_lenA (by rfl) G.b_len bt_len (pa_cons (pe_ix (ix_all (Room.u1 hr)) (pe_ix (ix_all (Room.u1 hr)) (pv 1) pe_int (ixn _)) pe_int (ixn _)) pa_nil)))
  (pss_cons (ps_set (i := 4) sc__law_right.nd rfl (by first | exact .inl rfl | exact .inr rfl) (pe_callTy call_tuple_of (by rfl) G.b_tuple bt_tuple (pa_cons (pe_lc (own := [("metal", 5)]) rfl sc__law_right.nd (pi_range1 (by rfl) G.b_range (pa_cons (pv 3) pa_nil)) (blkOk_by (by rfl)) (fun s H C cl fp => (pg_name (i := 5) sc__law_right.nd rfl (by first | exact .inl rfl | exact .inr rfl))) (fun s H C cl fp => pts_nil) (fun s H C cl fp => (pe_cD c__law_some hr (by omega) (by rfl) (pa_cons (pv 0) (pa_cons (pe_lst (pa_cons (pe_tup (pa_cons pe_int (pa_cons pe_int pa_nil))) (pa_cons (pe_tup (pa_cons pe_int (pa_cons pe_int pa_nil))) (pa_cons (pe_tup (pa_cons pe_int (pa_cons pe_int pa_nil))) (pa_cons (pe_tup (pa_cons pe_int (pa_cons pe_int pa_nil))) (pa_cons (pe_tup (pa_cons (pe_cD c__law_roll hr (by omega) (by rfl) (pa_cons (pv 0) (pa_cons pe_int pa_nil))) (pa_cons pe_int pa_nil))) pa_nil)))))) pa_nil))))) pa_nil)))
  (pss_cons (ps_if (PW.pt (pw_or (pt_cmpR op_isNotA (pe_cD c_are_bounds hr (by omega) (by rfl) (pa_cons (pv 1) (pa_cons (pv 4) pa_nil))) pe_bl (nomark _)) (pw_or1 (pt_cmpR (op_neP (Room.u64 hr)) (pe_lc (own := [("odd", 2)]) rfl sc__law_right.nd (pi_seq (pe_cD c__law_bent_bounds hr (by omega) (by rfl) (pa_cons (pv 0) (pa_cons (pv 4) pa_nil)))) (blkOk_by (by rfl)) (fun s H C cl fp => (pg_name (i := 2) sc__law_right.nd rfl (by first | exact .inl rfl | exact .inr rfl))) (fun s H C cl fp => (pts_one (pt_cmpR op_isNotA (pe_cD c_are_bounds hr (by omega) (by rfl) (pa_cons (pv 1) (pa_cons (pv 2) pa_nil))) pe_bl (nomark _)))) (fun s H C cl fp => (pv 2))) (pe_lst pa_nil) (nomark _))))) (pss_one (ps_ret pe_bl)) pss_nil)
  (pss_cons (ps_set (i := 6) sc__law_right.nd rfl (by first | exact .inl rfl | exact .inr rfl) (pe_cD c__law_mixture hr (by omega) (by rfl) (pa_cons (pv 0) (pa_cons (pv 1) pa_nil))))
  (pss_cons (ps_set (i := 7) sc__law_right.nd rfl (by first | exact .inl rfl | exact .inr rfl) (pe_op op_catL (pe_cD c__law_near hr (by omega) (by rfl) (pa_cons (pv 0) (pa_cons (pv 1) (pa_cons (pv 6) pa_nil)))) (pe_lst (pa_cons (pv 6) pa_nil))))
  (pss_one (ps_ret (pe_cmpR (op_eqP (Room.u64 hr)) (pe_lc (own := [("odd", 2)]) rfl sc__law_right.nd (pi_seq (pv 7)) (blkOk_by (by rfl)) (fun s H C cl fp => (pg_name (i := 2) sc__law_right.nd rfl (by first | exact .inl rfl | exact .inr rfl))) (fun s H C cl fp => (pts_one (pt_not (pt_truth (pe_cD c__law_same hr (by omega) (by rfl) (pa_cons (pe_cD c_is_mixture hr (by omega) (by rfl) (pa_cons (pv 1) (pa_cons (pv 2) pa_nil))) (pa_cons (pe_cD c__law_is_mixture hr (by omega) (by rfl) (pa_cons (pv 1) (pa_cons (pv 2) pa_nil))) pa_nil))) (fun _ => rfl))))) (fun s H C cl fp => (pv 2))) (pe_lst pa_nil) (nomark _))))))))))),
  (ds_seq (ds_setR (by decide) (dr_callO ln__law_ingots (dl_cons de_int dl_nil)))
  (ds_seq (ds_if (dt_or (dt_test (de_op oc_is (de_r (dr_call ln_are_ingots (dl_cons de_var dl_nil))) (DenE.con de_bl))) (dt_test (de_op oc_eq (DenF.e (df_lc (by decide) (di_seq (de_r (dr_callO ln__law_bent_ingots (dl_cons de_var dl_nil)))) dg_name (dt_test (de_op oc_is (de_r (dr_call ln_are_ingots (dl_cons de_var dl_nil))) (DenE.con de_bl))) de_var)) (DenE.con (DenF.e (df_lst dl_nil)))))) (ds_ret de_bl) ds_next)
  (ds_seq (ds_set (by decide) (de_c1 c1_len (DenE.con (de_op oc_ix (de_opP oc_ix (DenE.con de_int)) (DenE.con de_int)))))
  (ds_seq (ds_set (by decide) (de_c1 c1_tup (DenE.con (DenF.e (df_lc (by decide) (di_rng1 de_var) dg_name dt_yes (de_r (dr_callO ln__law_some (dl_cons (DenF.e (df_lst (dl_cons (de_tup (dl_cons de_int (dl_cons de_int dl_nil))) (dl_cons (de_tup (dl_cons de_int (dl_cons de_int dl_nil))) (dl_cons (de_tup (dl_cons de_int (dl_cons de_int dl_nil))) (dl_cons (de_tup (dl_cons de_int (dl_cons de_int dl_nil))) (dl_cons (de_tup (dl_cons (de_r (dr_callO ln__law_roll (dl_cons de_int dl_nil))) (dl_cons de_int dl_nil))) dl_nil))))))) dl_nil))))))))
  (ds_seq (ds_if (dt_or (dt_test (de_op oc_is (de_r (dr_call ln_are_bounds (dl_cons de_var (dl_cons de_var dl_nil)))) (DenE.con de_bl))) (dt_test (de_op oc_eq (DenF.e (df_lc (by decide) (di_seq (de_r (dr_callO ln__law_bent_bounds (dl_cons de_var dl_nil)))) dg_name (dt_test (de_op oc_is (de_r (dr_call ln_are_bounds (dl_cons de_var (dl_cons de_var dl_nil)))) (DenE.con de_bl))) de_var)) (DenE.con (DenF.e (df_lst dl_nil)))))) (ds_ret de_bl) ds_next)
  (ds_seq (ds_setR (by decide) (dr_callO ln__law_mixture (dl_cons de_var dl_nil)))
  (ds_seq (ds_setF (by decide) (df_op of_catL (de_r (dr_callO ln__law_near (dl_cons de_var (dl_cons de_var dl_nil)))) (DenE.con (DenF.e (df_lst (dl_cons de_var dl_nil))))))
  (ds_ret (de_op oc_eq (DenF.e (df_lc (by decide) (di_seq de_var) dg_name (dt_not (dt_tru (DenE.con (de_r (dr_call ln__law_same (dl_cons (de_r (dr_call ln_is_mixture (dl_cons de_var (dl_cons de_var dl_nil)))) (dl_cons (de_r (dr_call ln__law_is_mixture (dl_cons de_var (dl_cons de_var dl_nil)))) dl_nil))))))) de_var)) (DenE.con (DenF.e (df_lst dl_nil))))))))))))⟩
theorem sc__law_written : FnScope ["cup", "names", "at", "part", "rows", "name", "five", "told", "value", "one"] ["cup"] (defScope (topS 41)) := ⟨rfl, rfl, rfl, by decide +kernel, rfl, by decide +kernel, by decide +kernel⟩
theorem ok__law_written (G : Gs mg) (D : DefF K mg "_law_written" (topS 41) ["cup"]) (c__law_roll : CalD P w K mg base 1 "_law_roll" 2 m__law_roll) (c_are_ingots : CalD P w K mg base 6 "are_ingots" 1 m_are_ingots) (c_is_mixture : CalD P w K mg base 7 "is_mixture" 2 m_is_mixture) : CalD P w K mg base 8 "_law_written" 1 m__law_written :=
  calD_of D sc__law_written rfl rfl fun f cdv A outer s H E hr => ⟨_, (pss_cons (ps_setLc (i := 1) (own := [("at", 2)]) rfl sc__law_written.nd rfl rfl (sw_true rfl rfl rfl rfl) (pi_range1 (by rfl) G.b_range (pa_cons pe_int pa_nil)) (blkOk_by (by rfl)) (fun s H C cl fp => (pg_name (i := 2) sc__law_written.nd rfl (by first | exact .inl rfl | exact .inr rfl))) (fun s H C cl fp => pts_nil) (fun s H C cl fp => (pe_op op_addA pe_str (pe_callTy call_strA (by rfl) G.b_str bt_str (pa_cons (pv 2) pa_nil)))))
  (pss_cons (ps_set (i := 3) sc__law_written.nd rfl (by first | exact .inl rfl | exact .inr rfl) (pe_cD c__law_roll hr (by omega) (by rfl) (pa_cons (pv 0) (pa_cons pe_int pa_nil))))
  (pss_cons (ps_set (i := 4) sc__law_written.nd rfl (by first | exact .inl rfl | exact .inr rfl) (pe_callTy call_tuple_of (by rfl) G.b_tuple bt_tuple (pa_cons (pe_lc (own := [("name", 5)]) rfl sc__law_written.nd (pi_seq (pv 1)) (blkOk_by (by rfl)) (fun s H C cl fp => (pg_name (i := 5) sc__law_written.nd rfl (by first | exact .inl rfl | exact .inr rfl))) (fun s H C cl fp => pts_nil) (fun s H C cl fp => (pe_tup (pa_cons (pv 5) (pa_cons pe_int (pa_cons (pe_tup (pa_cons (pv 3) (pa_cons pe_int (pa_cons (pe_op op_sub pe_int (pv 3)) (pa_cons pe_int pa_nil))))) pa_nil)))))) pa_nil)))
  (pss_cons (ps_set (i := 6) sc__law_written.nd rfl (by first | exact .inl rfl | exact .inr rfl) (pe_tup (pa_cons (pe_tup (pa_cons pe_str (pa_cons pe_int (pa_cons (pe_tup (pa_cons (pv 3) (pa_cons pe_int (pa_cons pe_int (pa_cons pe_int (pa_cons (pe_op op_sub pe_int (pv 3)) pa_nil)))))) pa_nil)))) pa_nil)))
  (pss_cons (ps_setLc (i := 7) (own := [("value", 8)]) rfl sc__law_written.nd rfl rfl (sw_true rfl rfl rfl rfl) (pi_seq (pe_tup (pa_cons (pe_slice sl_all (pv 4) po_none (po_some pe_int)) (pa_cons (pv 4) (pa_cons (pv 6) (pa_cons (pe_tup (pa_cons (pe_tup (pa_cons pe_str (pa_cons pe_int (pa_cons (pe_tup (pa_cons pe_int pa_nil)) pa_nil)))) pa_nil)) (pa_cons (pe_tup (pa_cons (pe_tup (pa_cons pe_str (pa_cons pe_int (pa_cons (pe_tup (pa_cons pe_int pa_nil)) pa_nil)))) pa_nil)) (pa_cons (pe_tup (pa_cons (pe_tup (pa_cons pe_str (pa_cons pe_int (pa_cons (pe_tup (pa_cons pe_int (pa_cons pe_int pa_nil))) pa_nil)))) pa_nil)) pa_nil)))))))) (blkOk_by (by rfl)) (fun s H C cl fp => (pg_name (i := 8) sc__law_written.nd rfl (by first | exact .inl rfl | exact .inr rfl))) (fun s H C cl fp => pts_nil) (fun s H C cl fp => (pe_cD c_are_ingots hr (by omega) (by rfl) (pa_cons (pv 8) pa_nil))))
  (pss_cons (ps_if (pt_cmpR (op_neP (Room.u64 hr)) (pv 7) (pe_lst (pa_cons pe_bl (pa_cons pe_bl (pa_cons pe_bl (pa_cons pe_bl (pa_cons pe_bl (pa_cons pe_bl pa_nil))))))) (nomark _)) (pss_one (ps_ret pe_bl)) pss_nil)
  (pss_cons (ps_set (i := 9) sc__law_written.nd rfl (by first | exact .inl rfl | exact .inr rfl) (pe_tup (pa_cons (pe_tup (pa_cons pe_str (pa_cons pe_int (pa_cons (pe_tup (pa_cons pe_int pa_nil)) pa_nil)))) (pa_cons (pe_tup (pa_cons pe_str (pa_cons pe_int (pa_cons (pe_tup (pa_cons pe_int pa_nil)) pa_nil)))) pa_nil))))
  (pss_cons (ps_setLc (i := 7) (own := [("value", 8)]) rfl sc__law_written.nd rfl rfl (sw_true rfl rfl rfl rfl) (pi_seq (pe_tup (pa_cons (pe_tup (pa_cons pe_int (pa_cons (pe_tup (pa_cons pe_int (pa_cons pe_int pa_nil))) pa_nil))) (pa_cons (pe_tup (pa_cons pe_int (pa_cons (pe_tup (pa_cons pe_int (pa_cons pe_int pa_nil))) pa_nil))) (pa_cons (pe_tup (pa_cons pe_int (pa_cons (pe_tup (pa_cons pe_int (pa_cons pe_int pa_nil))) pa_nil))) (pa_cons (pe_tup (pa_cons pe_int (pa_cons (pe_tup (pa_cons pe_int (pa_cons pe_int pa_nil))) pa_nil))) (pa_cons (pe_tup (pa_cons pe_int (pa_cons (pe_tup (pa_cons pe_int (pa_cons pe_int pa_nil))) pa_nil))) pa_nil))))))) (blkOk_by (by rfl)) (fun s H C cl fp => (pg_name (i := 8) sc__law_written.nd rfl (by first | exact .inl rfl | exact .inr rfl))) (fun s H C cl fp => pts_nil) (fun s H C cl fp => (pe_cD c_is_mixture hr (by omega) (by rfl) (pa_cons (pv 9) (pa_cons (pv 8) pa_nil)))))
  (pss_one (ps_ret (pe_cmpR (op_eqP (Room.u64 hr)) (pv 7) (pe_lst (pa_cons pe_bl (pa_cons pe_bl (pa_cons pe_bl (pa_cons pe_bl (pa_cons pe_bl pa_nil)))))) (nomark _)))))))))))),
  (ds_seq (ds_setF (by decide) (df_lc (by decide) (di_rng1 de_int) dg_name dt_yes (de_op oc_add de_str (DenE.con (de_c1 c1_str dc_peek)))))
  (ds_seq (ds_setR (by decide) (dr_callO ln__law_roll (dl_cons de_int dl_nil)))
  (ds_seq (ds_set (by decide) (de_c1 c1_tup (DenE.con (DenF.e (df_lc (by decide) (di_seq de_var) dg_name dt_yes (de_tup (dl_cons de_var (dl_cons de_int (dl_cons (de_tup (dl_cons de_var (dl_cons de_int (dl_cons (de_op oc_sub de_int dc_peek) (dl_cons de_int dl_nil))))) dl_nil)))))))))
  (ds_seq (ds_set (by decide) (de_tup (dl_cons (de_tup (dl_cons de_str (dl_cons de_int (dl_cons (de_tup (dl_cons de_var (dl_cons de_int (dl_cons de_int (dl_cons de_int (dl_cons (de_op oc_sub de_int dc_peek) dl_nil)))))) dl_nil)))) dl_nil)))
  (ds_seq (ds_setF (by decide) (df_lc (by decide) (di_seq (de_tup (dl_cons (de_cutP do_none (do_some de_int)) (dl_cons de_var (dl_cons de_var (dl_cons (de_tup (dl_cons (de_tup (dl_cons de_str (dl_cons de_int (dl_cons (de_tup (dl_cons de_int dl_nil)) dl_nil)))) dl_nil)) (dl_cons (de_tup (dl_cons (de_tup (dl_cons de_str (dl_cons de_int (dl_cons (de_tup (dl_cons de_int dl_nil)) dl_nil)))) dl_nil)) (dl_cons (de_tup (dl_cons (de_tup (dl_cons de_str (dl_cons de_int (dl_cons (de_tup (dl_cons de_int (dl_cons de_int dl_nil))) dl_nil)))) dl_nil)) dl_nil)))))))) dg_name dt_yes (de_r (dr_call ln_are_ingots (dl_cons de_var dl_nil)))))
  (ds_seq (ds_if (dt_test (de_opP oc_eq (DenE.con (DenF.e (df_lst (dl_cons de_bl (dl_cons de_bl (dl_cons de_bl (dl_cons de_bl (dl_cons de_bl (dl_cons de_bl dl_nil))))))))))) (ds_ret de_bl) ds_next)
  (ds_seq (ds_set (by decide) (de_tup (dl_cons (de_tup (dl_cons de_str (dl_cons de_int (dl_cons (de_tup (dl_cons de_int dl_nil)) dl_nil)))) (dl_cons (de_tup (dl_cons de_str (dl_cons de_int (dl_cons (de_tup (dl_cons de_int dl_nil)) dl_nil)))) dl_nil))))
  (ds_seq (ds_setF (by decide) (df_lc (by decide) (di_seq (de_tup (dl_cons (de_tup (dl_cons de_int (dl_cons (de_tup (dl_cons de_int (dl_cons de_int dl_nil))) dl_nil))) (dl_cons (de_tup (dl_cons de_int (dl_cons (de_tup (dl_cons de_int (dl_cons de_int dl_nil))) dl_nil))) (dl_cons (de_tup (dl_cons de_int (dl_cons (de_tup (dl_cons de_int (dl_cons de_int dl_nil))) dl_nil))) (dl_cons (de_tup (dl_cons de_int (dl_cons (de_tup (dl_cons de_int (dl_cons de_int dl_nil))) dl_nil))) (dl_cons (de_tup (dl_cons de_int (dl_cons (de_tup (dl_cons de_int (dl_cons de_int dl_nil))) dl_nil))) dl_nil))))))) dg_name dt_yes (de_r (dr_call ln_is_mixture (dl_cons de_var (dl_cons de_var dl_nil))))))
  (ds_ret (de_opP oc_eq (DenE.con (DenF.e (df_lst (dl_cons de_bl (dl_cons de_bl (dl_cons de_bl (dl_cons de_bl (dl_cons de_bl dl_nil))))))))))))))))))⟩
theorem sc_law : FnScope ["script", "cup", "turn"] ["script"] (defScope (topS 42)) := ⟨rfl, rfl, rfl, by decide +kernel, rfl, by decide +kernel, by decide +kernel⟩
theorem ok_law {fa : Addr} (G : Gs mg) (D : DefL K "law" (topS 42) fa "script") (c__law_cup : ∀ base, CalD P w K mg base 1 "_law_cup" 1 m__law_cup) (c__law_right : ∀ base, CalD P w K mg base 8 "_law_right" 1 m__law_right) (c__law_written : ∀ base, CalD P w K mg base 8 "_law_written" 1 m__law_written) :
    ∃ fd : FuncData, (∀ (s : Shared) (v : Value), BindsTo s fd ⟨[v], []⟩ [("script", v)]) ∧ ∀ base : Heap, K.In base → base.Ns mainGlobals mg → FnOk P w K mg base CX0 9 fa fd ["script"] (spD K 1 m_law) := by
  refine law_mk (j := 2) (p := []) (b := b_law) D sc_law rfl fun base cdv A outer s H E hr => ?_
  have c__law_cup := c__law_cup base
  have c__law_right := c__law_right base
  have c__law_written := c__law_written base
  exact ⟨_, (pss_cons (ps_set (i := 1) sc_law.nd rfl (by first | exact .inl rfl | exact .inr rfl) (pe_cD c__law_cup hr (by omega) (by rfl) (pa_cons (pv 0) pa_nil)))
  (pss_cons (ps_for PassesOwn.never rfl (pi_range1 (by rfl) G.b_range (pa_cons pe_int pa_nil)) (pg_name (i := 2) sc_law.nd rfl (by first | exact .inl rfl | exact .inr rfl)) (pss_one (ps_if (pt_not (pt_truth (pe_cD c__law_right hr (by omega) (by rfl) (pa_cons (pv 1) pa_nil)) (fun _ => rfl))) (pss_one (ps_ret pe_bl)) pss_nil)))
  (pss_one (ps_ret (pe_cD c__law_written hr (by omega) (by rfl) (pa_cons (pv 1) pa_nil)))))),
  (ds_seq (ds_setR (by decide) (dr_call ln__law_cup (dl_cons de_var dl_nil)))
  (ds_seq (ds_for (by decide) (di_rng1 de_int) dg_name (ds_if (dt_not (dt_tru (DenE.con (de_r (dr_callO ln__law_right dl_nil))))) (ds_ret de_bl) ds_next))
  (ds_retR (dr_callO ln__law_written dl_nil))))⟩
theorem all {fa : Addr} (G : Gs mg) (DL : DefL K "law" (topS 42) fa "script") (D__law_cup : DefF K mg "_law_cup" (topS 26) ["script"]) (D__law_roll : DefF K mg "_law_roll" (topS 27) ["cup", "many"]) (D__law_bent_bounds : DefF K mg "_law_bent_bounds" (topS 38) ["cup", "bounds"]) (D__law_bent_ingots : DefF K mg "_law_bent_ingots" (topS 37) ["cup", "ingots"]) (D__law_some : DefF K mg "_law_some" (topS 28) ["cup", "things"]) (D__law_names : DefF K mg "_law_names" (topS 30) ["cup", "many"]) (D__law_parts : DefF K mg "_law_parts" (topS 31) ["cup", "metals"]) (D__law_ingots : DefF K mg "_law_ingots" (topS 32) ["cup", "most"]) (D__law_is_whole : DefF K mg "_law_is_whole" (topS 35) ["value"]) (D__law_is_mixture : DefF K mg "_law_is_mixture" (topS 36) ["ingots", "value"]) (D__law_mixture : DefF K mg "_law_mixture" (topS 34) ["cup", "ingots"]) (D__law_near : DefF K mg "_law_near" (topS 39) ["cup", "ingots", "mixture"]) (D__law_same : DefF K mg "_law_same" (topS 29) ["told", "due"]) (D_is_whole : DefF K mg "is_whole" (topS 8) ["value"]) (D_fits_whole : DefF K mg "fits_whole" (topS 9) ["value", "low", "high"]) (D_is_tuple_of : DefF K mg "is_tuple_of" (topS 10) ["value", "least", "most"]) (D_fits_bounds : DefF K mg "fits_bounds" (topS 19) ["ingots", "value"]) (D_fits_name : DefF K mg "fits_name" (topS 7) ["value"]) (D_fits_parts : DefF K mg "fits_parts" (topS 16) ["value"]) (D_fits_ingot : DefF K mg "fits_ingot" (topS 17) ["value"]) (D_is_rising : DefF K mg "is_rising" (topS 11) ["values"]) (D_fits_ingots : DefF K mg "fits_ingots" (topS 18) ["value"]) (D_need_ingots : DefF K mg "need_ingots" (topS 21) ["value"]) (D_are_bounds : DefF K mg "are_bounds" (topS 23) ["ingots", "value"]) (D_are_ingots : DefF K mg "are_ingots" (topS 22) ["value"]) (D_fits_mixture : DefF K mg "fits_mixture" (topS 20) ["ingots", "value"]) (D_is_mixture : DefF K mg "is_mixture" (topS 24) ["ingots", "value"]) (D__law_right : DefF K mg "_law_right" (topS 40) ["cup"]) (D__law_written : DefF K mg "_law_written" (topS 41) ["cup"]) :
    ∃ fd : FuncData, (∀ (s : Shared) (v : Value), BindsTo s fd ⟨[v], []⟩ [("script", v)]) ∧ ∀ base : Heap, K.In base → base.Ns mainGlobals mg → FnOk P w K mg base CX0 9 fa fd ["script"] (spD K 1 m_law) := by
  have c__law_cup : ∀ base, CalD P w K mg base 1 "_law_cup" 1 m__law_cup := fun base => ok__law_cup G D__law_cup 
  have c__law_roll : ∀ base, CalD P w K mg base 1 "_law_roll" 2 m__law_roll := fun base => ok__law_roll G D__law_roll 
  have c__law_bent_bounds : ∀ base, CalD P w K mg base 2 "_law_bent_bounds" 2 m__law_bent_bounds := fun base => ok__law_bent_bounds G D__law_bent_bounds (c__law_roll base)
  have c__law_bent_ingots : ∀ base, CalD P w K mg base 2 "_law_bent_ingots" 2 m__law_bent_ingots := fun base => ok__law_bent_ingots G D__law_bent_ingots (c__law_roll base)
  have c__law_some : ∀ base, CalD P w K mg base 2 "_law_some" 2 m__law_some := fun base => ok__law_some G D__law_some (c__law_roll base)
  have c__law_names : ∀ base, CalD P w K mg base 3 "_law_names" 2 m__law_names := fun base => ok__law_names G D__law_names (c__law_some base)
  have c__law_parts : ∀ base, CalD P w K mg base 3 "_law_parts" 2 m__law_parts := fun base => ok__law_parts G D__law_parts (c__law_some base) (c__law_roll base)
  have c__law_ingots : ∀ base, CalD P w K mg base 4 "_law_ingots" 2 m__law_ingots := fun base => ok__law_ingots G D__law_ingots (c__law_roll base) (c__law_names base) (c__law_parts base) (c__law_some base)
  have c__law_is_whole : ∀ base, CalD P w K mg base 1 "_law_is_whole" 1 m__law_is_whole := fun base => ok__law_is_whole G D__law_is_whole 
  have c__law_is_mixture : ∀ base, CalD P w K mg base 2 "_law_is_mixture" 2 m__law_is_mixture := fun base => ok__law_is_mixture G D__law_is_mixture (c__law_is_whole base)
  have c__law_mixture : ∀ base, CalD P w K mg base 3 "_law_mixture" 2 m__law_mixture := fun base => ok__law_mixture G D__law_mixture (c__law_some base) (c__law_roll base)
  have c__law_near : ∀ base, CalD P w K mg base 2 "_law_near" 3 m__law_near := fun base => ok__law_near G D__law_near (c__law_roll base)
  have c__law_same : ∀ base, CalD P w K mg base 5 "_law_same" 2 m__law_same := fun base => ok__law_same G D__law_same 
  have c_is_whole : ∀ base, CalD P w K mg base 1 "is_whole" 1 m_is_whole := fun base => ok_is_whole G D_is_whole 
  have c_fits_whole : ∀ base, CalD P w K mg base 2 "fits_whole" 3 m_fits_whole := fun base => ok_fits_whole G D_fits_whole (c_is_whole base)
  have c_is_tuple_of : ∀ base, CalD P w K mg base 1 "is_tuple_of" 3 m_is_tuple_of := fun base => ok_is_tuple_of G D_is_tuple_of 
  have c_fits_bounds : ∀ base, CalD P w K mg base 3 "fits_bounds" 2 m_fits_bounds := fun base => ok_fits_bounds G D_fits_bounds (c_is_tuple_of base) (c_fits_whole base)
  have c_fits_name : ∀ base, CalD P w K mg base 1 "fits_name" 1 m_fits_name := fun base => ok_fits_name G D_fits_name 
  have c_fits_parts : ∀ base, CalD P w K mg base 3 "fits_parts" 1 m_fits_parts := fun base => ok_fits_parts G D_fits_parts (c_is_tuple_of base) (c_fits_whole base)
  have c_fits_ingot : ∀ base, CalD P w K mg base 4 "fits_ingot" 1 m_fits_ingot := fun base => ok_fits_ingot G D_fits_ingot (c_is_tuple_of base) (c_fits_name base) (c_fits_whole base) (c_fits_parts base)
  have c_is_rising : ∀ base, CalD P w K mg base 1 "is_rising" 1 m_is_rising := fun base => ok_is_rising G D_is_rising 
  have c_fits_ingots : ∀ base, CalD P w K mg base 5 "fits_ingots" 1 m_fits_ingots := fun base => ok_fits_ingots G D_fits_ingots (c_is_tuple_of base) (c_fits_ingot base) (c_is_rising base)
  have c_need_ingots : ∀ base, CalD P w K mg base 6 "need_ingots" 1 m_need_ingots := fun base => ok_need_ingots G D_need_ingots (c_fits_ingots base)
  have c_are_bounds : ∀ base, CalD P w K mg base 7 "are_bounds" 2 m_are_bounds := fun base => ok_are_bounds G D_are_bounds (c_need_ingots base) (c_fits_bounds base)
  have c_are_ingots : ∀ base, CalD P w K mg base 6 "are_ingots" 1 m_are_ingots := fun base => ok_are_ingots G D_are_ingots (c_fits_ingots base)
  have c_fits_mixture : ∀ base, CalD P w K mg base 2 "fits_mixture" 2 m_fits_mixture := fun base => ok_fits_mixture G D_fits_mixture (c_is_tuple_of base) (c_is_whole base)
  have c_is_mixture : ∀ base, CalD P w K mg base 7 "is_mixture" 2 m_is_mixture := fun base => ok_is_mixture G D_is_mixture (c_need_ingots base) (c_fits_mixture base)
  have c__law_right : ∀ base, CalD P w K mg base 8 "_law_right" 1 m__law_right := fun base => ok__law_right G D__law_right (c__law_ingots base) (c_are_ingots base) (c__law_bent_ingots base) (c__law_some base) (c__law_roll base) (c_are_bounds base) (c__law_bent_bounds base) (c__law_mixture base) (c__law_near base) (c__law_same base) (c__law_is_mixture base) (c_is_mixture base)
  have c__law_written : ∀ base, CalD P w K mg base 8 "_law_written" 1 m__law_written := fun base => ok__law_written G D__law_written (c__law_roll base) (c_are_ingots base) (c_is_mixture base)
  exact ok_law G DL c__law_cup c__law_right c__law_written
end
end K42
namespace K42
open PySem PySem.Spec PyProof.Rows L2 DL DL.Lib
theorem R : Roller m__law_roll := p_roll (by decide) (by decide) (by decide) (by decide)
theorem S : Somer m__law_some := p_some R
abbrev V (d : D) : Option DL.Slot := some (.val d)
def NB (d : D) : Prop := m_are_ingots [some (.val d)] = .ok (.val (.bool false), [some (.val d)])
theorem NBI.k {d : D} (h : NBI d) : NB d := by
  unfold NBI at h
  unfold NB m_are_ingots mDef b_are_ingots
  simp [h]
/-! ### values that are no ingots -/
def Bad (d : D) : Prop := Shrt d ∧ fitsI d = false
def O (x0 x2 x3 x4 x5 x7 : Option DL.Slot) (ti : D) (n : Nat) (ρ : DE) : Prop := ∃ os : List D, os.length ≤ n ∧ (∀ d ∈ os, Bad d) ∧ ρ = [x0, V ti, x2, x3, x4, x5, some (.own (.list os)), x7, none]
def RW0 (c : D) (is : List Ing) (x2 x3 x4 x5 : Option DL.Slot) (ρ : DE) : Prop := ∃ (rows : List D) (x6 : Option DL.Slot), rows.length ≤ 30 ∧ (∀ d ∈ rows, NB d) ∧ ρ = [some (.own c), V (DL.TI is), x2, x3, x4, x5, x6, some (.own (.list rows)), none]
theorem bad_odd {A B : List D} (hA : ∀ d ∈ A, Shrt d) (hB : ∀ d ∈ B, Shrt d) {d : D} (h : Bad d) : NB (.tuple (A ++ [d] ++ B)) := NBI.k (NB_odd (fun x hx => by
  rcases List.mem_append.mp hx with hx | hx
  · rcases List.mem_append.mp hx with hx | hx
    · exact hA x hx
    · rw [List.mem_singleton] at hx
      subst hx
      exact h.1
  · exact hB x hx) ⟨d, by simp, h.2⟩)
def AT (is : List Ing) (ρ : DE) : Prop := ∃ (c : D) (k : Nat), IsCup c ∧ k < is.length ∧ ρ = [some (.own c), V (DL.TI is), V (.int (k : Int)), none, none, none, none, none, none]
theorem WR_bent {m : Nat} {is : List Ing} (hi : IsIngs m is) {c : D} (hc : IsCup c) {Q : Slot × DE → Prop}
    (q : ∀ (rows : List D) (c' : D), IsCup c' → rows.length ≤ 40 → (∀ d ∈ rows, NB d) → Q (.own (.list rows), [some (.own c'), V (DL.TI is)])) : WR (m__law_bent_ingots [some (.own c), V (DL.TI is)]) Q := by
  have hl := hi.len
  have hm := hi.mm
  refine WR_def rfl ?_
  show WR (b__law_bent_ingots [some (.own c), V (DL.TI is), none, none, none, none, none, none, none]) _
  unfold b__law_bent_ingots
  refine WR_sqP (AT is) ?_ ?_
  · simp
    refine WR_roll R hc (by omega) (by omega) fun r c1 h1 a1 b1 => ?_
    simp
    refine ⟨c1, r.toNat, h1, by omega, ?_⟩
    rw [show ((r.toNat : Nat) : Int) = r by omega]
  rintro ρ1 ⟨c1, k, h1, hk, rfl⟩
  obtain ⟨i0, hi0⟩ : ∃ i0, is[k]? = some i0 := ⟨_, List.getElem?_eq_getElem hk⟩
  have him : i0 ∈ is := List.mem_of_getElem? hi0
  have hg := hi.all i0 him
  have ix : dIx (DL.TI is) (.int (k : Int)) = .ok (ingD i0) := (ix_at (ds := is.map ingD) (i := k) (d := ingD i0) (by rw [List.getElem?_map, hi0]; rfl)).2
  refine WR_sqP (fun ρ => ρ = [some (.own c1), V (DL.TI is), V (.int (k : Int)), V (.str i0.n), V (.int i0.w), V (T i0.p), none, none, none]) ?_ ?_
  · generalize DL.TI is = ti at *
    simp [ix]
    unfold ingD
    simp
  rintro ρ1 rfl
  have nl := hg.nl
  have pn : ∀ k, nice (k + 1) (T i0.p) := fun k => nk_tup (an_ints k _)
  have np : ∀ k, AllN k (i0.p.map PyData.int) := fun k => an_ints k _
  have gp : fitsP (T i0.p) = true := by
    unfold fitsP isum T
    simp only [intsOf_map, Option.map_some, hg.ps, decide_true, all_fits hg.pr, List.length_map, hg.pl, Bool.and_true, decide_eq_true_eq]
    exact hm
  have Ta : ∀ (n : Nat) (os ys : List D), os.length + ys.length ≤ n → n ≤ 100 → dCatL (.list os) (.list ys) = .ok (.list (os ++ ys)) := fun n os ys h h2 => cat_lst (by omega)
  refine WR_sqP (O (some (.own c1)) (V (.int (k : Int))) (V (.str i0.n)) (V (.int i0.w)) (V (T i0.p)) none (DL.TI is) 6) ?_ ?_
  · have pn2 := pn 2
    generalize T i0.p = tp at *
    generalize DL.TI is = ti at *
    simp
    refine ⟨_, ?_, ?_, rfl⟩
    · simp
    · intro d hd
      simp only [List.mem_cons, List.not_mem_nil, or_false] at hd
      rcases hd with rfl | rfl | rfl | rfl | rfl | rfl
      · exact ⟨shrt3 (by (repeat' (first | assumption | exact an_nil _ | exact nk_int _ _ | exact nk_bool _ _ | exact nk_str _ _ | exact nk_none _ | exact an_ints _ _ | exact an_intsF _ _ _ | apply an_cons | apply an_app | apply nk_tup | apply nk_list))) (fun z e => by cases e; exact nl), by simp [fitsI, fitsW]⟩
      · exact ⟨shrt3 (by (repeat' (first | assumption | exact an_nil _ | exact nk_int _ _ | exact nk_bool _ _ | exact nk_str _ _ | exact nk_none _ | exact an_ints _ _ | exact an_intsF _ _ _ | apply an_cons | apply an_app | apply nk_tup | apply nk_list))) (fun z e => by cases e; exact nl), by simp [fitsI, fitsW]⟩
      · exact ⟨shrt3 (by (repeat' (first | assumption | exact an_nil _ | exact nk_int _ _ | exact nk_bool _ _ | exact nk_str _ _ | exact nk_none _ | exact an_ints _ _ | exact an_intsF _ _ _ | apply an_cons | apply an_app | apply nk_tup | apply nk_list))) (fun z e => by cases e; exact nl), by simp [fitsI, fitsW]⟩
      · exact ⟨shrt3 (by (repeat' (first | assumption | exact an_nil _ | exact nk_int _ _ | exact nk_bool _ _ | exact nk_str _ _ | exact nk_none _ | exact an_ints _ _ | exact an_intsF _ _ _ | apply an_cons | apply an_app | apply nk_tup | apply nk_list))) (fun z e => by cases e; exact nl), by simp [fitsI, fitsW]⟩
      · exact ⟨shrt3 (by (repeat' (first | assumption | exact an_nil _ | exact nk_int _ _ | exact nk_bool _ _ | exact nk_str _ _ | exact nk_none _ | exact an_ints _ _ | exact an_intsF _ _ _ | apply an_cons | apply an_app | apply nk_tup | apply nk_list))) (fun z e => by cases e; decide +kernel), by
          have : fnmD (.str "A") = false := by unfold fnmD; decide +kernel
          simp [fitsI, this]⟩
      · exact ⟨shrt3 (by (repeat' (first | assumption | exact an_nil _ | exact nk_int _ _ | exact nk_bool _ _ | exact nk_str _ _ | exact nk_none _ | exact an_ints _ _ | exact an_intsF _ _ _ | apply an_cons | apply an_app | apply nk_tup | apply nk_list))) (fun z e => by cases e; decide +kernel), by
          have : fnmD (.str "") = false := by unfold fnmD; decide +kernel
          simp [fitsI, this]⟩
  rintro ρ1 ⟨os, o1, o2, rfl⟩
  refine WR_sqP (O (some (.own c1)) (V (.int (k : Int))) (V (.str i0.n)) (V (.int i0.w)) (V (T i0.p)) none (DL.TI is) 12) ?_ ?_
  · have pn2 := pn 2
    have pn1 := pn 1
    have np2 := np 2
    generalize hT : T i0.p = tp at *
    generalize DL.TI is = ti at *
    have dl : dList tp = .ok (.list (i0.p.map .int)) := by rw [← hT]; rfl
    generalize i0.p.map PyData.int = pl at *
    simp [dl]
    rw [Ta 12 _ _ (by simp; omega) (by omega)]
    simp
    refine ⟨_, ?_, ?_, rfl⟩
    · simp
      omega
    · intro d hd
      simp only [List.mem_append, List.mem_cons, List.not_mem_nil, or_false] at hd
      rcases hd with hd | rfl | rfl | rfl | rfl | rfl | rfl
      · exact o2 d hd
      · exact ⟨shrt3 (by (repeat' (first | assumption | exact an_nil _ | exact nk_int _ _ | exact nk_bool _ _ | exact nk_str _ _ | exact nk_none _ | exact an_ints _ _ | exact an_intsF _ _ _ | apply an_cons | apply an_app | apply nk_tup | apply nk_list))) (fun z e => by cases e), by simp [fitsI, fnmD]⟩
      · exact ⟨shrtN (by (repeat' (first | assumption | exact an_nil _ | exact nk_int _ _ | exact nk_bool _ _ | exact nk_str _ _ | exact nk_none _ | exact an_ints _ _ | exact an_intsF _ _ _ | apply an_cons | apply an_app | apply nk_tup | apply nk_list))) (fun a b c e => by simp at e), by simp [fitsI]⟩
      · exact ⟨shrtN (by (repeat' (first | assumption | exact an_nil _ | exact nk_int _ _ | exact nk_bool _ _ | exact nk_str _ _ | exact nk_none _ | exact an_ints _ _ | exact an_intsF _ _ _ | apply an_cons | apply an_app | apply nk_tup | apply nk_list))) (fun a b c e => by simp at e), by simp [fitsI]⟩
      · exact ⟨shrtN (by (repeat' (first | assumption | exact an_nil _ | exact nk_int _ _ | exact nk_bool _ _ | exact nk_str _ _ | exact nk_none _ | exact an_ints _ _ | exact an_intsF _ _ _ | apply an_cons | apply an_app | apply nk_tup | apply nk_list))) (fun a b c e => by simp at e), by simp [fitsI]⟩
      · exact ⟨shrt3 (by (repeat' (first | assumption | exact an_nil _ | exact nk_int _ _ | exact nk_bool _ _ | exact nk_str _ _ | exact nk_none _ | exact an_ints _ _ | exact an_intsF _ _ _ | apply an_cons | apply an_app | apply nk_tup | apply nk_list))) (fun z e => by cases e; exact nl), by simp [fitsI, fitsP]⟩
      · exact ⟨shrtN (by (repeat' (first | assumption | exact an_nil _ | exact nk_int _ _ | exact nk_bool _ _ | exact nk_str _ _ | exact nk_none _ | exact an_ints _ _ | exact an_intsF _ _ _ | apply an_cons | apply an_app | apply nk_tup | apply nk_list))) (fun a b c e => by simp at e), by simp [fitsI]⟩
  rintro ρ1 ⟨os, o1, o2, rfl⟩
  have hp0 : i0.p ≠ [] := fun e => by
    have := hg.pl
    rw [e] at this
    simp at this
    omega
  obtain ⟨z, hz⟩ : ∃ z, i0.p = i0.p.dropLast ++ [z] := ⟨_, (List.dropLast_concat_getLast hp0).symm⟩
  have hq : (i0.p.map PyData.int).dropLast = i0.p.dropLast.map .int := (List.map_dropLast).symm
  have sm : i0.p.dropLast.sum + z = 1000 := by
    have := hg.ps
    rw [hz, List.sum_append] at this
    simpa using this
  have kc : dCut none (some (-1)) (T i0.p) = .ok (.tuple (i0.p.dropLast.map .int)) := by rw [cut_tup, cut_init, hq]
  have kl : dIx (T i0.p) (.int (-1)) = .ok (.int z) := by
    have : (T i0.p) = .tuple (i0.p.dropLast.map .int ++ [.int z]) := by
      unfold T
      conv => lhs; rw [hz]
      rw [List.map_append]
      rfl
    rw [this]
    exact (ix_last _ _).2
  have dll : (i0.p.dropLast.map PyData.int).length ≤ 4 := by
    rw [List.length_map, List.length_dropLast, hg.pl]
    omega
  have ndl : ∀ k, AllN k (i0.p.dropLast.map PyData.int) := fun k => an_ints k _
  have f1 : fitsP (.tuple (i0.p.dropLast.map .int ++ [.int (z + 1)])) = false := by
    have e : i0.p.dropLast.map PyData.int ++ [.int (z + 1)] = (i0.p.dropLast ++ [z + 1]).map .int := by rw [List.map_append]; rfl
    have : (i0.p.dropLast ++ [z + 1]).sum = 1001 := by rw [List.sum_append]; simp; omega
    rw [e]
    simp only [fitsP, isum, intsOf_map, Option.map_some, this]
    simp
  refine WR_sqP (O (some (.own c1)) (V (.int (k : Int))) (V (.str i0.n)) (V (.int i0.w)) (V (T i0.p)) none (DL.TI is) 16) ?_ ?_
  · have nd2 := ndl 2
    generalize hT : T i0.p = tp at *
    generalize DL.TI is = ti at *
    generalize i0.p.dropLast.map PyData.int = pd at *
    have a1 : dAdd (.tuple pd) (.tuple [.int (z + 1)]) = .ok (.tuple (pd ++ [.int (z + 1)])) := add_tup (by simp; omega)
    have a2 : dAdd (.tuple pd) (.tuple [.none]) = .ok (.tuple (pd ++ [.none])) := add_tup (by simp; omega)
    simp [kc, kl, a1, a2]
    rw [Ta 16 _ _ (by simp; omega) (by omega)]
    simp
    refine ⟨_, ?_, ?_, rfl⟩
    · simp
      omega
    · intro d hd
      simp only [List.mem_append, List.mem_cons, List.not_mem_nil, or_false] at hd
      rcases hd with hd | rfl | rfl | rfl | rfl
      · exact o2 d hd
      · exact ⟨shrt3 (by (repeat' (first | assumption | exact an_nil _ | exact nk_int _ _ | exact nk_bool _ _ | exact nk_str _ _ | exact nk_none _ | exact an_ints _ _ | exact an_intsF _ _ _ | apply an_cons | apply an_app | apply nk_tup | apply nk_list))) (fun z e => by cases e; exact nl), by simp [fitsI, f1]⟩
      · exact ⟨shrt3 (by (repeat' (first | assumption | exact an_nil _ | exact nk_int _ _ | exact nk_bool _ _ | exact nk_str _ _ | exact nk_none _ | exact an_ints _ _ | exact an_intsF _ _ _ | apply an_cons | apply an_app | apply nk_tup | apply nk_list))) (fun z e => by cases e; exact nl), by simp [fitsI, fitsP]⟩
      · exact ⟨shrt3 (by (repeat' (first | assumption | exact an_nil _ | exact nk_int _ _ | exact nk_bool _ _ | exact nk_str _ _ | exact nk_none _ | exact an_ints _ _ | exact an_intsF _ _ _ | apply an_cons | apply an_app | apply nk_tup | apply nk_list))) (fun z e => by cases e; exact nl), by simp [fitsI, fitsP, fitsW]⟩
      · exact ⟨shrtN (by (repeat' (first | assumption | exact an_nil _ | exact nk_int _ _ | exact nk_bool _ _ | exact nk_str _ _ | exact nk_none _ | exact an_ints _ _ | exact an_intsF _ _ _ | apply an_cons | apply an_app | apply nk_tup | apply nk_list))) (fun a b c e => by simp at e), by simp [fitsI]⟩
  rintro ρ1 ⟨os, o1, o2, rfl⟩
  refine WR_sqP (O (some (.own c1)) (V (.int (k : Int))) (V (.str i0.n)) (V (.int i0.w)) (V (T i0.p)) none (DL.TI is) 19) ?_ ?_
  · have hpl : (i0.p.map PyData.int).length = m := by rw [List.length_map, hg.pl]
    have np2 := np 2
    have nc2 : AllN 2 (DL.cutD (i0.p.map PyData.int) (some 2) none) := an_cut (np 2)
    have lc2 := cut_len (i0.p.map PyData.int) (some 2) none
    have k2 : dCut (some 2) none (T i0.p) = .ok (.tuple (DL.cutD (i0.p.map PyData.int) (some 2) none)) := cut_tup _ _ _
    have el : dLen (T i0.p) = .ok (.int m) := by rw [i_len, hpl]
    have mu : dMul (.tuple [.int 0]) (.int (5 - (m : Int))) = .ok (.tuple (List.replicate (5 - m) (.int 0))) := by
      rw [show (5 : Int) - (m : Int) = ((5 - m : Nat) : Int) by omega]
      exact rep_tup (by omega)
    have a1 : dAdd (T i0.p) (.tuple (List.replicate (5 - m) (.int 0))) = .ok (.tuple (i0.p.map .int ++ List.replicate (5 - m) (.int 0))) := add_tup (by rw [List.length_replicate]; omega)
    have a2 : dAdd (.tuple [.int (-1), .int 1001]) (.tuple (DL.cutD (i0.p.map PyData.int) (some 2) none)) = .ok (.tuple ([.int (-1), .int 1001] ++ DL.cutD (i0.p.map PyData.int) (some 2) none)) := add_tup (by simp; omega)
    have nr : AllN 2 (List.replicate (5 - m) (PyData.int 0)) := ⟨fun d hd => by rw [List.eq_of_mem_replicate hd]; exact nk_int _ _⟩
    have f2 : fitsP (.tuple (i0.p.map .int ++ List.replicate (5 - m) (.int 0))) = false := by
      have : (i0.p.map PyData.int ++ List.replicate (5 - m) (PyData.int 0)).length = 5 := by rw [List.length_append, hpl, List.length_replicate]; omega
      simp only [fitsP, this]
      simp
    generalize hT : T i0.p = tp at *
    generalize DL.TI is = ti at *
    generalize DL.cutD (i0.p.map PyData.int) (some 2) none = cd at *
    generalize i0.p.map PyData.int = pl at *
    generalize List.replicate (5 - m) (PyData.int 0) = zs at *
    simp [k2, el, mu, a1, a2]
    rw [Ta 19 _ _ (by simp; omega) (by omega)]
    simp
    refine ⟨_, ?_, ?_, rfl⟩
    · simp
      omega
    · intro d hd
      simp only [List.mem_append, List.mem_cons, List.not_mem_nil, or_false] at hd
      rcases hd with hd | rfl | rfl | rfl
      · exact o2 d hd
      · exact ⟨shrt3 (by (repeat' (first | assumption | exact an_nil _ | exact nk_int _ _ | exact nk_bool _ _ | exact nk_str _ _ | exact nk_none _ | exact an_ints _ _ | exact an_intsF _ _ _ | apply an_cons | apply an_app | apply nk_tup | apply nk_list))) (fun z e => by cases e; exact nl), by simp [fitsI, f2]⟩
      · exact ⟨shrt3 (by (repeat' (first | assumption | exact an_nil _ | exact nk_int _ _ | exact nk_bool _ _ | exact nk_str _ _ | exact nk_none _ | exact an_ints _ _ | exact an_intsF _ _ _ | apply an_cons | apply an_app | apply nk_tup | apply nk_list))) (fun z e => by cases e; exact nl), by simp [fitsI, fitsP, fitsW]⟩
      · exact ⟨shrt3 (by (repeat' (first | assumption | exact an_nil _ | exact nk_int _ _ | exact nk_bool _ _ | exact nk_str _ _ | exact nk_none _ | exact an_ints _ _ | exact an_intsF _ _ _ | apply an_cons | apply an_app | apply nk_tup | apply nk_list))) (fun z e => by cases e; exact nl), by simp [fitsI, fitsP]⟩
  rintro ρ1 ⟨os, o1, o2, rfl⟩
  -- the rows
  have sh : ∀ d ∈ is.map ingD, Shrt d := fun d hd => by
    obtain ⟨i, hi', rfl⟩ := List.mem_map.mp hd
    exact shrt_ing (hi.all i hi').nl
  have sh1 : ∀ lo hi' : Option Int, ∀ d ∈ DL.cutD (is.map ingD) lo hi', Shrt d := fun lo hi' d hd => sh d (cut_memA d hd)
  have lA := cut_len (is.map ingD) none (some (k : Int))
  have lB := cut_len (is.map ingD) (some ((k : Int) + 1)) none
  have lI : (is.map ingD).length = is.length := List.length_map ..
  have kA : dCut none (some (k : Int)) (DL.TI is) = .ok (.tuple (DL.cutD (is.map ingD) none (some (k : Int)))) := cut_tup _ _ _
  have kB : dCut (some ((k : Int) + 1)) none (DL.TI is) = .ok (.tuple (DL.cutD (is.map ingD) (some ((k : Int) + 1)) none)) := cut_tup _ _ _
  have kD : dCut (some (k : Int)) (some ((k : Int) + 1)) (DL.TI is) = .ok (.tuple [ingD i0]) := by
    rw [cut_tup, map_cut]
    have : DL.cutD is (some (k : Int)) (some ((k : Int) + 1)) = [i0] := by
      unfold DL.cutD
      rw [show HT.sIx is.length 0 (some (k : Int)) = min k is.length from HT.sIx_nat is.length 0 k, show HT.sIx is.length is.length (some ((k : Int) + 1)) = min (k + 1) is.length from HT.sIx_nat is.length is.length (k + 1)]
      rw [show min k is.length = k by omega, show min (k + 1) is.length = k + 1 by omega, show k + 1 - k = 1 by omega, List.drop_eq_getElem_cons hk]
      rw [List.getElem?_eq_getElem hk] at hi0
      rw [Option.some.inj hi0]
      rfl
    rw [this]
    rfl
  have oks : ∀ i ∈ is, ∃ m, (1 ≤ m ∧ m ≤ 4) ∧ IsIng m i := fun i h => ⟨m, hm, hi.all i h⟩
  -- doubled, and turned round
  have nd : NB (DL.TI (is ++ [i0])) := by
    by_cases h9 : is.length = 8
    · exact NBI.k (NB_len (by simp) (by simp [isTup, h9]))
    · refine NBI.k (NB_of ?_)
      rw [g_ingots_gen (by rw [List.length_append]; simp; omega) (fun i h => by
        rcases List.mem_append.mp h with h | h
        · exact oks i h
        · rw [List.mem_singleton] at h
          subst h
          exact oks _ him)]
      have hf : (((is ++ [i0]).map (·.n)).zip ((is ++ [i0]).map (·.n)).tail).all (fun p => slt p.1 p.2) = false := by
        rw [← Bool.not_eq_true]
        intro h
        have := rise_pair h
        rw [List.map_append, List.pairwise_append] at this
        have := this.2.2 i0.n (List.mem_map.mpr ⟨i0, him, rfl⟩) i0.n (by simp)
        rw [slt_irr] at this
        cases this
      rw [hf]
      rfl
  have ad : dAdd (DL.TI is) (.tuple [ingD i0]) = .ok (DL.TI (is ++ [i0])) := ing_add (by omega)
  have nI : NB (ingD i0) := NBI.k (NB_odd (fun d hd => by
    simp only [List.mem_cons, List.not_mem_nil, or_false] at hd
    rcases hd with rfl | rfl | rfl
    · exact shrtN (by (repeat' (first | assumption | exact an_nil _ | exact nk_int _ _ | exact nk_bool _ _ | exact nk_str _ _ | exact nk_none _ | exact an_ints _ _ | exact an_intsF _ _ _ | apply an_cons | apply an_app | apply nk_tup | apply nk_list))) (fun a b c e => by cases e)
    · exact shrtN (by (repeat' (first | assumption | exact an_nil _ | exact nk_int _ _ | exact nk_bool _ _ | exact nk_str _ _ | exact nk_none _ | exact an_ints _ _ | exact an_intsF _ _ _ | apply an_cons | apply an_app | apply nk_tup | apply nk_list))) (fun a b c e => by cases e)
    · refine ⟨(nice_T i0.p).mono (by omega), fun a b c e z hz => ?_⟩
      subst hz
      have : PyData.str z ∈ i0.p.map PyData.int := by
        have h2 := PyData.tuple.inj e
        rw [h2]
        simp
      obtain ⟨_, _, h3⟩ := List.mem_map.mp this
      cases h3) ⟨.str i0.n, by simp, rfl⟩)
  have nr : 1 < is.length → NB (.tuple (is.map ingD).reverse) := fun h2 => by
    have e : (.tuple (is.map ingD).reverse : D) = DL.TI is.reverse := by unfold DL.TI; rw [List.map_reverse]
    rw [e]
    refine NBI.k (NB_of ?_)
    rw [g_ingots_gen (by rw [List.length_reverse]; omega) (fun i h => oks i (List.mem_reverse.mp h))]
    have hf : ((is.reverse.map (·.n)).zip (is.reverse.map (·.n)).tail).all (fun p => slt p.1 p.2) = false := by
      rw [← Bool.not_eq_true]
      intro h
      have h3 := rise_pair h
      rw [List.map_reverse, List.pairwise_reverse] at h3
      have h4 := hi.asc
      match his : is, h2, h3, h4 with
      | a :: b :: r, _, h3, h4 =>
        simp only [List.map_cons] at h3 h4
        have q1 := (List.pairwise_cons.mp h3).1 b.n (by simp)
        have q2 := (List.pairwise_cons.mp h4).1 b.n (by simp)
        have := slt_trans q1 q2
        rw [slt_irr] at this
        cases this
    rw [hf]
    rfl
  refine WR_sqP (RW0 c1 is (V (.int (k : Int))) (V (.str i0.n)) (V (.int i0.w)) (V (T i0.p))) ?_ ?_
  · have bad : ∀ d ∈ os, NB (.tuple (DL.cutD (is.map ingD) none (some (k : Int)) ++ [d] ++ DL.cutD (is.map ingD) (some ((k : Int) + 1)) none)) := fun d hd => bad_odd (sh1 _ _) (sh1 _ _) (o2 d hd)
    have nL : NB (.list (is.map ingD)) := NBI.k (NB_len (by simp) rfl)
    have nE : NB (.tuple []) := NBI.k (NB_len (by simp) rfl)
    have nN : NB .none := NBI.k (NB_len (by simp) rfl)
    have nS : NB (.str "ingots") := NBI.k (NB_len (by simp) rfl)
    have dl : dList (DL.TI is) = .ok (.list (is.map ingD)) := rfl
    generalize T i0.p = tp at *
    generalize ingD i0 = di at *
    generalize DL.TI (is ++ [i0]) = tj at *
    generalize hti : DL.TI is = ti at *
    generalize is.map ingD = il at *
    generalize DL.cutD il none (some (k : Int)) = cA at *
    generalize DL.cutD il (some ((k : Int) + 1)) none = cB at *
    have e : ∀ x6 : Option DL.Slot, lcL (mgName 8) mYes b__law_bent_ingots_0 [8] os [some (.own c1), V ti, V (.int (k : Int)), V (.str i0.n), V (.int i0.w), V tp, x6, none, none] =
        .ok (os.map fun d => .tuple (cA ++ [d] ++ cB), [some (.own c1), V ti, V (.int (k : Int)), V (.str i0.n), V (.int i0.w), V tp, x6, none, none]) := by
      intro x6
      refine lcL_map fun d hd => ⟨[some (.own c1), V ti, V (.int (k : Int)), V (.str i0.n), V (.int i0.w), V tp, x6, none, V d], by simp, ?_, by simp⟩
      have u1 : dAdd (.tuple cA) (.tuple [d]) = .ok (.tuple (cA ++ [d])) := add_tup (by simp; omega)
      have u2 : dAdd (.tuple (cA ++ [d])) (.tuple cB) = .ok (.tuple (cA ++ [d] ++ cB)) := add_tup (by simp; omega)
      unfold b__law_bent_ingots_0
      simp only [x_bin, x_cutP]
      simp [kA, kB, u1, u2]
    have hz : sz (os.map fun d => PyData.tuple (cA ++ [d] ++ cB)).length := sz_of (by simp; omega)
    have rl : (os.map fun d => PyData.tuple (cA ++ [d] ++ cB)).length ≤ 19 := by simp; omega
    have rb : ∀ x ∈ (os.map fun d => PyData.tuple (cA ++ [d] ++ cB)), NB x := fun x hx => by
      obtain ⟨d, hd, rfl⟩ := List.mem_map.mp hx
      exact bad d hd
    generalize os.map (fun d => PyData.tuple (cA ++ [d] ++ cB)) = rs at *
    simp [seqD, e, hz, dl, kD, ad, ix]
    rw [Ta 30 _ _ (by simp; omega) (by omega)]
    simp
    refine ⟨_, _, ?_, ?_, by rw [hti]⟩
    · simp
      omega
    · intro d hd
      simp only [List.mem_append, List.mem_cons, List.not_mem_nil, or_false] at hd
      rcases hd with hd | rfl | rfl | rfl | rfl | rfl | rfl
      · exact rb d hd
      · exact nL
      · exact nE
      · exact nN
      · exact nd
      · exact nI
      · exact nS
  rintro ρ1 ⟨rows, x6, r1, r2, rfl⟩
  have el : dLen (DL.TI is) = .ok (.int is.length) := by rw [i_len, lI]
  by_cases h2 : 1 < is.length
  · have h2' : (1 : Int) < is.length := by omega
    -- one with a metal more
    have nM : NB (.tuple (DL.cutD (is.map ingD) none (some (k : Int)) ++ [.tuple [.str i0.n, .int i0.w, .tuple (i0.p.map .int ++ [.int 0])]] ++ DL.cutD (is.map ingD) (some ((k : Int) + 1)) none)) := by
      obtain ⟨i1, hi1⟩ : ∃ i1 : Ing, i1 = ⟨i0.n, i0.w, i0.p ++ [0]⟩ := ⟨_, rfl⟩
      have e1 : (.tuple [.str i0.n, .int i0.w, .tuple (i0.p.map .int ++ [.int 0])] : D) = ingD i1 := by
        rw [hi1]
        unfold ingD T
        simp
      rw [e1]
      have pl1 : i1.p.length = m + 1 := by rw [hi1]; simp [hg.pl]
      by_cases h4 : m = 4
      · refine bad_odd (sh1 _ _) (sh1 _ _) ⟨shrt_ing (by rw [hi1]; exact nl), ?_⟩
        have : fitsP (T i1.p) = false := by
          have hl5 : (i1.p.map PyData.int).length = 5 := by rw [List.length_map, pl1, h4]
          simp only [fitsP, hl5]
          simp
        unfold ingD
        simp [fitsI, this]
      · have g1 : IsIng (m + 1) i1 := ⟨by rw [hi1]; exact hg.nm, by rw [hi1]; exact nl, by rw [hi1]; exact hg.w, pl1, fun z hz => by
          rw [hi1] at hz
          rcases List.mem_append.mp hz with hz | hz
          · exact hg.pr z hz
          · rw [List.mem_singleton] at hz
            subst hz
            omega, by rw [hi1]; show (i0.p ++ [0]).sum = 1000; rw [List.sum_append, hg.ps]; rfl⟩
        have cA : DL.cutD (is.map ingD) none (some (k : Int)) = (is.take k).map ingD := by rw [map_cut, cut_take]
        have cB : DL.cutD (is.map ingD) (some ((k : Int) + 1)) none = (is.drop (k + 1)).map ingD := by
          rw [map_cut]
          congr 1
          unfold DL.cutD
          rw [show HT.sIx is.length 0 (some ((k : Int) + 1)) = min (k + 1) is.length from HT.sIx_nat is.length 0 (k + 1), HT.sIx_none, show min (k + 1) is.length = k + 1 by omega]
          rw [List.take_of_length_le (by rw [List.length_drop]; exact Nat.le_refl _)]
        have eT : (.tuple ((is.take k).map ingD ++ [ingD i1] ++ (is.drop (k + 1)).map ingD) : D) = DL.TI (is.take k ++ [i1] ++ is.drop (k + 1)) := by
          unfold DL.TI
          simp
        rw [cA, cB, eT]
        have hlen : (is.take k ++ [i1] ++ is.drop (k + 1)).length = is.length := by
          rw [List.length_append, List.length_append, List.length_take, List.length_drop]
          simp
          omega
        refine NBI.k (NB_of ?_)
        rw [g_ingots_gen (by omega) (fun i h => by
          rcases List.mem_append.mp h with h | h
          · rcases List.mem_append.mp h with h | h
            · exact oks i (List.mem_of_mem_take h)
            · rw [List.mem_singleton] at h
              subst h
              exact ⟨m + 1, by omega, g1⟩
          · exact oks i (List.mem_of_mem_drop h))]
        have hf : decide (setN ((is.take k ++ [i1] ++ is.drop (k + 1)).map fun i => (i.p.length : Int)) = 1) = false := by
          rw [decide_eq_false_iff_not]
          intro h
          have ho := setN_one h
          obtain ⟨j, hj, hjm⟩ : ∃ j, j ∈ is ∧ j ∈ is.take k ++ [i1] ++ is.drop (k + 1) := by
            by_cases hk0 : k = 0
            · refine ⟨is[1]'(by omega), List.getElem_mem _, List.mem_append_right _ ?_⟩
              subst hk0
              exact List.mem_iff_getElem.mpr ⟨0, by rw [List.length_drop]; omega, by simp⟩
            · refine ⟨is[0]'(by omega), List.getElem_mem _, List.mem_append_left _ (List.mem_append_left _ ?_)⟩
              exact List.mem_iff_getElem.mpr ⟨0, by rw [List.length_take]; omega, by simp⟩
          have := ho (j.p.length : Int) (List.mem_map.mpr ⟨j, hjm, rfl⟩) (i1.p.length : Int) (List.mem_map.mpr ⟨i1, by simp, rfl⟩)
          rw [(hi.all j hj).pl, pl1] at this
          omega
        rw [hf, Bool.and_false]
    have a0 : dAdd (T i0.p) (.tuple [.int 0]) = .ok (.tuple (i0.p.map .int ++ [.int 0])) := add_tup (by rw [List.length_map, hg.pl]; simp; omega)
    have nr' := nr h2
    have rv : dRev (DL.TI is) = .ok (.tuple (is.map ingD).reverse) := rev_tup _
    have q' := fun (rows : List D) (h : rows.length ≤ 40) (h' : ∀ d ∈ rows, NB d) => q rows c1 h1 h h'
    generalize i0.p.map PyData.int ++ [PyData.int 0] = p0 at *
    generalize T i0.p = tp at *
    generalize ingD i0 = di at *
    generalize hti : DL.TI is = ti at *
    generalize (is.map ingD).reverse = ir at *
    generalize is.map ingD = il at *
    generalize DL.cutD il none (some (k : Int)) = cA at *
    generalize DL.cutD il (some ((k : Int) + 1)) none = cB at *
    have u1 : dAdd (.tuple cA) (.tuple [.tuple [.str i0.n, .int i0.w, .tuple p0]]) = .ok (.tuple (cA ++ [.tuple [.str i0.n, .int i0.w, .tuple p0]])) := add_tup (by simp; omega)
    have u2 : dAdd (.tuple (cA ++ [.tuple [.str i0.n, .int i0.w, .tuple p0]])) (.tuple cB) = .ok (.tuple (cA ++ [.tuple [.str i0.n, .int i0.w, .tuple p0]] ++ cB)) := add_tup (by simp; omega)
    simp only [List.append_assoc, List.singleton_append] at u1 u2 nM
    simp [el, h2', rv, kA, kB, a0, u1, u2]
    rw [Ta 40 _ _ (by simp; omega) (by omega)]
    simp
    refine q' _ ?_ ?_
    · simp
      omega
    · intro d hd
      simp only [List.mem_append, List.mem_cons, List.not_mem_nil, or_false] at hd
      rcases hd with hd | rfl | rfl
      · exact r2 d hd
      · exact nr'
      · exact nM
  · have h2' : ¬ (1 : Int) < is.length := by omega
    have q' := q rows c1 h1 (by omega) r2
    generalize DL.TI is = ti at *
    simp [el, h2']
    exact q'
/-! ### values that are no bounds -/
def fitsB1 : D → Bool
  | .tuple [a, b] => fitsW 0 1000 a && (match a with
    | .int lo => fitsW lo 1000 b
    | _ => false)
  | _ => false
def NBd (ti d : D) : Prop := m_are_bounds [V ti, V d] = .ok (.val (.bool false), [V ti, V d])
theorem e_are_bounds {m : Nat} {is : List Ing} (hi : IsIngs m is) {d : D} {b : Bool} (h : m_fits_bounds [V (DL.TI is), V d] = .ok (.val (.bool b), [V (DL.TI is), V d])) : m_are_bounds [V (DL.TI is), V d] = .ok (.val (.bool b), [V (DL.TI is), V d]) := by
  have e := g_need_ingots hi
  unfold m_are_bounds mDef b_are_bounds
  generalize DL.TI is = ti at *
  simp [e, h]
theorem NBd_len {m : Nat} {is : List Ing} (hi : IsIngs m is) {d : D} (hn : noD d = true) (h : isTup m m d = false) : NBd (DL.TI is) d := by
  obtain ⟨d0, p0, e0, e1, e2⟩ := many_metals hi
  refine e_are_bounds hi ?_
  show Lib.m_fits_bounds _ = _
  unfold Lib.m_fits_bounds mDef Lib.b_fits_bounds
  generalize DL.TI is = ti at *
  simp [e0, e1, e2, hn, h]
theorem NBd_odd {m : Nat} {is : List Ing} (hi : IsIngs m is) {ds : List D} (hs : AllN 3 ds) (h : ∃ d ∈ ds, fitsB1 d = false) : NBd (DL.TI is) (.tuple ds) := by
  obtain ⟨d0, p0, e0, e1, e2⟩ := many_metals hi
  have hm := hi.mm
  by_cases hl : ds.length = m
  · refine e_are_bounds hi ?_
    have ht : isTup m m (.tuple ds) = true := by simp [isTup, hl]
    have hz : sz ds.length := sz_of (by omega)
    have e3 : ∀ x2 : Option DL.Slot, lcL (mgName 3) mYes (mD (mCall Lib.m_is_tuple_of (mCons (mVar 3) (mCons (mC (.int 2)) (mCons (mC (.int 2)) mNil))))) [3] ds [V (DL.TI is), V (.tuple ds), x2, none] = .ok (ds.map fun d => .bool (isTup 2 2 d), [V (DL.TI is), V (.tuple ds), x2, none]) := fun x2 => by
      refine lcL_map fun d hd => ⟨[V (DL.TI is), V (.tuple ds), x2, V d], by simp, ?_, by simp⟩
      simp [(hs.all d hd).noD]
    have a3 := p_all ds (isTup 2 2)
    have hz3 : sz (ds.map fun d => PyData.bool (isTup 2 2 d)).length := sz_of (by simp; omega)
    show Lib.m_fits_bounds _ = _
    unfold Lib.m_fits_bounds mDef Lib.b_fits_bounds
    cases hp : ds.all (isTup 2 2) with
    | false =>
      rw [hp] at a3
      generalize DL.TI is = ti at *
      generalize ds.map (fun d => PyData.bool (isTup 2 2 d)) = bl at *
      simp [e0, e1, e2, ht, seqD, e3, hz3, a3]
    | true =>
      rw [hp] at a3
      have e4 : ∀ x2 : Option DL.Slot, lcL (mgName 3) mYes (mAnd (mD (mCall Lib.m_fits_whole (mCons (mBinP dIx 3 (mC (.int 0))) (mCons (mC (.int 0)) (mCons (mC (.int 1000)) mNil))))) (mD (mCall Lib.m_fits_whole (mCons (mBinP dIx 3 (mC (.int 1))) (mCons (mBinP dIx 3 (mC (.int 0))) (mCons (mC (.int 1000)) mNil)))))) [3] ds [V (DL.TI is), V (.tuple ds), x2, none] = .ok (ds.map fun d => .bool (fitsB1 d), [V (DL.TI is), V (.tuple ds), x2, none]) := fun x2 => by
        refine lcL_map fun d hd => ⟨[V (DL.TI is), V (.tuple ds), x2, V d], by simp, ?_, by simp⟩
        have h2 := List.all_eq_true.mp hp d hd
        have hn := hs.all d hd
        cases d with
        | tuple es =>
          have he := nice_of_tup hn
          simp only [isTup, decide_eq_true_eq] at h2
          have h3 : es.length = 2 := by omega
          match es, h3, he with
          | [a, b], _, he =>
            have na := (he a (by simp)).noD
            have nb := (he b (by simp)).noD
            have i0 : dIx (.tuple [a, b]) (.int 0) = .ok a := rfl
            have i1 : dIx (.tuple [a, b]) (.int 1) = .ok b := rfl
            unfold fitsB1
            cases hf : fitsW 0 1000 a with
            | false => simp [i0, i1, na, hf]
            | true =>
              cases a with
              | int lo => simp [i0, i1, nb, hf]
              | _ => simp [fitsW] at hf
        | _ => simp [isTup] at h2
      have a4 := p_all ds fitsB1
      have hf : ds.all fitsB1 = false := by
        obtain ⟨d, hd, hf⟩ := h
        rw [List.all_eq_false]
        exact ⟨d, hd, by simp [hf]⟩
      rw [hf] at a4
      have hz4 : sz (ds.map fun d => PyData.bool (fitsB1 d)).length := sz_of (by simp; omega)
      generalize DL.TI is = ti at *
      generalize ds.map (fun d => PyData.bool (isTup 2 2 d)) = bl at *
      generalize ds.map (fun d => PyData.bool (fitsB1 d)) = cl at *
      simp [e0, e1, e2, ht, seqD, e3, hz3, a3, e4, hz4, a4]
  · exact NBd_len hi (by simp) (by
      simp only [isTup]
      rw [← Bool.not_eq_true]
      simp
      omega)
def BT (bs : List (Int × Int)) (ρ : DE) : Prop := ∃ (c : D) (k : Nat), IsCup c ∧ k < bs.length ∧ ρ = [some (.own c), V (TB bs), V (.int (k : Int)), none, none, none, none, none]
def BO (c : D) (tb : D) (x2 x3 x4 : Option DL.Slot) (ρ : DE) : Prop := ∃ os : List D, os.length ≤ 11 ∧ (∀ d ∈ os, nice 2 d ∧ fitsB1 d = false) ∧ ρ = [some (.own c), V tb, x2, x3, x4, some (.own (.list os)), none, none]
theorem WR_bentB {m : Nat} {is : List Ing} (hi : IsIngs m is) {bs : List (Int × Int)} (hb : IsB m bs) {c : D} (hc : IsCup c) {Q : Slot × DE → Prop}
    (q : ∀ (rows : List D) (c' : D), IsCup c' → rows.length ≤ 40 → (∀ d ∈ rows, NBd (DL.TI is) d) → Q (.own (.list rows), [some (.own c'), V (TB bs)])) : WR (m__law_bent_bounds [some (.own c), V (TB bs)]) Q := by
  have hm := hi.mm
  have hl := hb.len
  refine WR_def rfl ?_
  show WR (b__law_bent_bounds [some (.own c), V (TB bs), none, none, none, none, none, none]) _
  unfold b__law_bent_bounds
  refine WR_sqP (BT bs) ?_ ?_
  · simp
    refine WR_roll R hc (by omega) (by omega) fun r c1 h1 a1 b1 => ?_
    simp
    refine ⟨c1, r.toNat, h1, by omega, ?_⟩
    rw [show ((r.toNat : Nat) : Int) = r by omega]
  rintro ρ1 ⟨c1, k, h1, hk, rfl⟩
  have ix := bd_ix hb (show k < m by omega)
  have rg := bd_rng hb (show k < m by omega)
  generalize bs.getD k (0, 0) = b at *
  refine WR_sqP (fun ρ => ρ = [some (.own c1), V (TB bs), V (.int (k : Int)), V (.int b.1), V (.int b.2), none, none, none]) ?_ ?_
  · generalize TB bs = tb at *
    simp [ix]
    unfold bdD
    simp
  rintro ρ1 rfl
  refine WR_sqP (BO c1 (TB bs) (V (.int (k : Int))) (V (.int b.1)) (V (.int b.2))) ?_ ?_
  · generalize TB bs = tb at *
    simp
    refine ⟨_, ?_, ?_, rfl⟩
    · simp
    · intro d hd
      simp only [List.mem_cons, List.not_mem_nil, or_false] at hd
      rcases hd with rfl | rfl | rfl | rfl | rfl | rfl | rfl | rfl | rfl | rfl | rfl
      · refine ⟨by (repeat' (first | assumption | exact an_nil _ | exact nk_int _ _ | exact nk_bool _ _ | exact nk_str _ _ | exact nk_none _ | exact an_ints _ _ | exact an_intsF _ _ _ | apply an_cons | apply an_app | apply nk_tup | apply nk_list)), ?_⟩
        simp only [fitsB1, fitsW]
        rw [← Bool.not_eq_true]
        simp
        omega
      · exact ⟨by (repeat' (first | assumption | exact an_nil _ | exact nk_int _ _ | exact nk_bool _ _ | exact nk_str _ _ | exact nk_none _ | exact an_ints _ _ | exact an_intsF _ _ _ | apply an_cons | apply an_app | apply nk_tup | apply nk_list)), by simp [fitsB1, fitsW]⟩
      · refine ⟨by (repeat' (first | assumption | exact an_nil _ | exact nk_int _ _ | exact nk_bool _ _ | exact nk_str _ _ | exact nk_none _ | exact an_ints _ _ | exact an_intsF _ _ _ | apply an_cons | apply an_app | apply nk_tup | apply nk_list)), ?_⟩
        simp only [fitsB1, fitsW]
        rw [← Bool.not_eq_true]
        simp
      · exact ⟨by (repeat' (first | assumption | exact an_nil _ | exact nk_int _ _ | exact nk_bool _ _ | exact nk_str _ _ | exact nk_none _ | exact an_ints _ _ | exact an_intsF _ _ _ | apply an_cons | apply an_app | apply nk_tup | apply nk_list)), by simp [fitsB1]⟩
      · exact ⟨by (repeat' (first | assumption | exact an_nil _ | exact nk_int _ _ | exact nk_bool _ _ | exact nk_str _ _ | exact nk_none _ | exact an_ints _ _ | exact an_intsF _ _ _ | apply an_cons | apply an_app | apply nk_tup | apply nk_list)), by simp [fitsB1]⟩
      · exact ⟨by (repeat' (first | assumption | exact an_nil _ | exact nk_int _ _ | exact nk_bool _ _ | exact nk_str _ _ | exact nk_none _ | exact an_ints _ _ | exact an_intsF _ _ _ | apply an_cons | apply an_app | apply nk_tup | apply nk_list)), by simp [fitsB1]⟩
      · exact ⟨by (repeat' (first | assumption | exact an_nil _ | exact nk_int _ _ | exact nk_bool _ _ | exact nk_str _ _ | exact nk_none _ | exact an_ints _ _ | exact an_intsF _ _ _ | apply an_cons | apply an_app | apply nk_tup | apply nk_list)), by simp [fitsB1, fitsW]⟩
      · exact ⟨by (repeat' (first | assumption | exact an_nil _ | exact nk_int _ _ | exact nk_bool _ _ | exact nk_str _ _ | exact nk_none _ | exact an_ints _ _ | exact an_intsF _ _ _ | apply an_cons | apply an_app | apply nk_tup | apply nk_list)), by simp [fitsB1, fitsW]⟩
      · exact ⟨by (repeat' (first | assumption | exact an_nil _ | exact nk_int _ _ | exact nk_bool _ _ | exact nk_str _ _ | exact nk_none _ | exact an_ints _ _ | exact an_intsF _ _ _ | apply an_cons | apply an_app | apply nk_tup | apply nk_list)), by simp [fitsB1, fitsW]⟩
      · exact ⟨by (repeat' (first | assumption | exact an_nil _ | exact nk_int _ _ | exact nk_bool _ _ | exact nk_str _ _ | exact nk_none _ | exact an_ints _ _ | exact an_intsF _ _ _ | apply an_cons | apply an_app | apply nk_tup | apply nk_list)), by simp [fitsB1]⟩
      · exact ⟨by (repeat' (first | assumption | exact an_nil _ | exact nk_int _ _ | exact nk_bool _ _ | exact nk_str _ _ | exact nk_none _ | exact an_ints _ _ | exact an_intsF _ _ _ | apply an_cons | apply an_app | apply nk_tup | apply nk_list)), by simp [fitsB1]⟩
  rintro ρ1 ⟨os, o1, o2, rfl⟩
  have nb : ∀ d ∈ bs.map bdD, nice 3 d := fun d hd => by
    obtain ⟨x, _, rfl⟩ := List.mem_map.mp hd
    unfold bdD
    (repeat' (first | assumption | exact an_nil _ | exact nk_int _ _ | exact nk_bool _ _ | exact nk_str _ _ | exact nk_none _ | exact an_ints _ _ | exact an_intsF _ _ _ | apply an_cons | apply an_app | apply nk_tup | apply nk_list))
  have nc : ∀ lo hi' : Option Int, ∀ d ∈ DL.cutD (bs.map bdD) lo hi', nice 3 d := fun lo hi' d hd => nb d (cut_memA d hd)
  have lA := cut_len (bs.map bdD) none (some (k : Int))
  have lB := cut_len (bs.map bdD) (some ((k : Int) + 1)) none
  have lL : (bs.map bdD).length = m := by rw [List.length_map, hl]
  have kA : dCut none (some (k : Int)) (TB bs) = .ok (.tuple (DL.cutD (bs.map bdD) none (some (k : Int)))) := cut_tup _ _ _
  have kB : dCut (some ((k : Int) + 1)) none (TB bs) = .ok (.tuple (DL.cutD (bs.map bdD) (some ((k : Int) + 1)) none)) := cut_tup _ _ _
  have kE : dCut none (some (-1)) (TB bs) = .ok (.tuple (bs.map bdD).dropLast) := by rw [cut_tup, cut_init]
  have kF : dCut (some (-1)) none (TB bs) = .ok (.tuple (DL.cutD (bs.map bdD) (some (-1)) none)) := cut_tup _ _ _
  have lF : (DL.cutD (bs.map bdD) (some (-1)) none).length = 1 := by
    unfold DL.cutD
    rw [HT.sIx_none]
    unfold HT.sIx
    simp [hl]
    omega
  have bad : ∀ d ∈ os, NBd (DL.TI is) (.tuple (DL.cutD (bs.map bdD) none (some (k : Int)) ++ [d] ++ DL.cutD (bs.map bdD) (some ((k : Int) + 1)) none)) := fun d hd => NBd_odd hi ⟨fun x hx => by
    rcases List.mem_append.mp hx with hx | hx
    · rcases List.mem_append.mp hx with hx | hx
      · exact nc _ _ x hx
      · rw [List.mem_singleton] at hx
        subst hx
        exact (o2 x hd).1.mono (by omega)
    · exact nc _ _ x hx⟩ ⟨d, by simp, (o2 d hd).2⟩
  have bL : NBd (DL.TI is) (.list (bs.map bdD)) := NBd_len hi (by simp) rfl
  have bP : NBd (DL.TI is) (.tuple (bs.map bdD ++ DL.cutD (bs.map bdD) (some (-1)) none)) := NBd_len hi (by simp) (by simp [isTup, lF, hl]; omega)
  have bD' : NBd (DL.TI is) (.tuple (bs.map bdD).dropLast) := NBd_len hi (by simp) (by simp [isTup, hl]; omega)
  have bN : NBd (DL.TI is) .none := NBd_len hi (by simp) rfl
  have bS : NBd (DL.TI is) (.str "bounds") := NBd_len hi (by simp) rfl
  have b1 : NBd (DL.TI is) (bdD b) := NBd_odd hi (by (repeat' (first | assumption | exact an_nil _ | exact nk_int _ _ | exact nk_bool _ _ | exact nk_str _ _ | exact nk_none _ | exact an_ints _ _ | exact an_intsF _ _ _ | apply an_cons | apply an_app | apply nk_tup | apply nk_list))) ⟨.int b.1, by simp, rfl⟩
  have b0 : NBd (DL.TI is) (.tuple []) := NBd_len hi (by simp) (by simp [isTup]; omega)
  have dl : dList (TB bs) = .ok (.list (bs.map bdD)) := rfl
  have aP : dAdd (TB bs) (.tuple (DL.cutD (bs.map bdD) (some (-1)) none)) = .ok (.tuple (bs.map bdD ++ DL.cutD (bs.map bdD) (some (-1)) none)) := add_tup (by omega)
  have q' := fun (rows : List D) (c' : D) (h0 : IsCup c') (h : rows.length ≤ 40) (h' : ∀ d ∈ rows, NBd (DL.TI is) d) => q rows c' h0 h h'
  generalize DL.TI is = ti at *
  generalize bdD b = bb at *
  generalize htb : TB bs = tb at *
  generalize DL.cutD (bs.map bdD) (some (-1)) none = cF at *
  generalize (bs.map bdD).dropLast = cE at *
  generalize bs.map bdD = bl at *
  generalize DL.cutD bl none (some (k : Int)) = cA at *
  generalize DL.cutD bl (some ((k : Int) + 1)) none = cB at *
  have e : ∀ x5 : Option DL.Slot, lcL (mgName 7) mYes b__law_bent_bounds_0 [7] os [some (.own c1), V tb, V (.int (k : Int)), V (.int b.1), V (.int b.2), x5, none, none] =
      .ok (os.map fun d => .tuple (cA ++ [d] ++ cB), [some (.own c1), V tb, V (.int (k : Int)), V (.int b.1), V (.int b.2), x5, none, none]) := by
    intro x5
    refine lcL_map fun d hd => ⟨[some (.own c1), V tb, V (.int (k : Int)), V (.int b.1), V (.int b.2), x5, none, V d], by simp, ?_, by simp⟩
    have u1 : dAdd (.tuple cA) (.tuple [d]) = .ok (.tuple (cA ++ [d])) := add_tup (by simp; omega)
    have u2 : dAdd (.tuple (cA ++ [d])) (.tuple cB) = .ok (.tuple (cA ++ [d] ++ cB)) := add_tup (by simp; omega)
    unfold b__law_bent_bounds_0
    simp only [x_bin, x_cutP]
    simp [kA, kB, u1, u2]
  have hz : sz (os.map fun d => PyData.tuple (cA ++ [d] ++ cB)).length := sz_of (by simp; omega)
  have rl : (os.map fun d => PyData.tuple (cA ++ [d] ++ cB)).length ≤ 11 := by simp; omega
  have rb : ∀ x ∈ (os.map fun d => PyData.tuple (cA ++ [d] ++ cB)), NBd ti x := fun x hx => by
    obtain ⟨d, hd, rfl⟩ := List.mem_map.mp hx
    exact bad d hd
  generalize os.map (fun d => PyData.tuple (cA ++ [d] ++ cB)) = rs at *
  have cat : ∀ ys : List D, ys.length ≤ 20 → dCatL (.list rs) (.list ys) = .ok (.list (rs ++ ys)) := fun ys h => cat_lst (by omega)
  simp [seqD, e, hz, dl, kF, aP, kE, ix]
  rw [cat _ (by simp)]
  simp
  refine q' _ c1 h1 ?_ ?_
  · simp
    omega
  · intro d hd
    simp only [List.mem_append, List.mem_cons, List.not_mem_nil, or_false] at hd
    rcases hd with hd | rfl | rfl | rfl | rfl | rfl | rfl | rfl
    · exact rb d hd
    · exact bL
    · exact bP
    · exact bD'
    · exact bN
    · exact bS
    · exact b1
    · exact b0
/-! ### which values are mixtures -/
def okX (w : Int) (p : D × Ing) : Bool := match p.1 with
  | .int a => decide (0 ≤ a) && decide (a ≤ w * p.2.w)
  | _ => false
def fitsX (is : List Ing) : D → Bool
  | .tuple [.int w, .tuple ds] => decide (1 ≤ w) && (decide (ds.length = is.length) && ((ds.zip is).all (okX w) && decide (0 < (isum ds).getD 0)))
  | _ => false
theorem ints_of_W : ∀ {ds : List D}, ds.all isW = true → ∃ ns : List Int, ds = ns.map .int
  | [], _ => ⟨[], rfl⟩
  | d :: ds, h => by
    rw [List.all_cons, Bool.and_eq_true] at h
    obtain ⟨ns, rfl⟩ := ints_of_W h.2
    cases d with
    | int i => exact ⟨i :: ns, rfl⟩
    | _ => simp [isW] at h
theorem okX_W {w : Int} : ∀ {ds : List D} {is : List Ing}, ds.length = is.length → (ds.zip is).all (okX w) = true → ds.all isW = true
  | [], _, _, _ => rfl
  | _ :: _, [], h, _ => by simp at h
  | d :: ds, i :: is, hl, h => by
    rw [List.zip_cons_cons, List.all_cons, Bool.and_eq_true] at h
    rw [List.all_cons, okX_W (by simpa using hl) h.2, Bool.and_true]
    cases d with
    | int i => rfl
    | _ => simp [okX] at h
theorem e_is_mixture {m : Nat} {is : List Ing} (hi : IsIngs m is) {d : D} {b : Bool} (h : m_fits_mixture [V (DL.TI is), V d] = .ok (.val (.bool b), [V (DL.TI is), V d])) : m_is_mixture [V (DL.TI is), V d] = .ok (.val (.bool b), [V (DL.TI is), V d]) := by
  have e := g_need_ingots hi
  unfold m_is_mixture mDef b_is_mixture
  generalize DL.TI is = ti at *
  simp [e, h]
theorem len2 {ds : List D} (h : isTup 2 2 (.tuple ds) = false) {is : List Ing} : fitsX is (.tuple ds) = false := by
  match ds, h with
  | [], _ => simp [fitsX]
  | [_], _ => simp [fitsX]
  | [_, _], h => simp [isTup] at h
  | _ :: _ :: _ :: _, _ => simp [fitsX]
theorem mix_shape {d : D} (h : isTup 2 2 d = true) : ∃ a b, d = .tuple [a, b] := by
  cases d with
  | tuple ds =>
    simp only [isTup, decide_eq_true_eq] at h
    match ds, h with
    | [a, b], _ => exact ⟨a, b, rfl⟩
    | [], h => simp at h
    | [_], h => simp at h
    | _ :: _ :: _ :: _, h => simp at h; omega
  | _ => simp [isTup] at h
theorem noTup {d : D} (h : isTup 2 2 d = false) {is : List Ing} : fitsX is d = false := by
  cases d with
  | tuple ds => exact len2 h
  | _ => rfl
theorem p_mix {m : Nat} {is : List Ing} (hi : IsIngs m is) (d : D) (n : nice 3 d) : m_is_mixture [V (DL.TI is), V d] = .ok (.val (.bool (fitsX is d)), [V (DL.TI is), V d]) := by
  refine e_is_mixture hi ?_
  have hl := hi.len
  have hn := n.noD
  show Lib.m_fits_mixture _ = _
  cases ht : isTup 2 2 d with
  | false =>
    rw [noTup ht]
    unfold Lib.m_fits_mixture mDef Lib.b_fits_mixture
    generalize DL.TI is = ti at *
    simp [ht, hn]
  | true =>
    obtain ⟨a, b, rfl⟩ := mix_shape ht
    have na := nice_of_tup n a (by simp)
    have nb := nice_of_tup n b (by simp)
    have i0 : dIx (.tuple [a, b]) (.int 0) = .ok a := rfl
    have i1 : dIx (.tuple [a, b]) (.int 1) = .ok b := rfl
    cases hw : isW a with
    | false =>
      have : fitsX is (.tuple [a, b]) = false := by
        cases a <;> simp [isW] at hw <;> simp [fitsX]
      rw [this]
      unfold Lib.m_fits_mixture mDef Lib.b_fits_mixture
      generalize DL.TI is = ti at *
      simp [ht, hn, i0, na.noD, hw]
    | true =>
      cases a with
      | int w =>
        by_cases h1 : w < 1
        · have : fitsX is (.tuple [.int w, b]) = false := by
            cases b <;> simp [fitsX]
            intro h2
            omega
          rw [this]
          unfold Lib.m_fits_mixture mDef Lib.b_fits_mixture
          generalize DL.TI is = ti at *
          simp [ht, hn, i0, na.noD, hw, h1]
        · cases ht2 : isTup is.length is.length b with
          | false =>
            have : fitsX is (.tuple [.int w, b]) = false := by
              cases b with
              | tuple ds =>
                have : ¬ ds.length = is.length := by
                  simp only [isTup] at ht2
                  rw [← Bool.not_eq_true] at ht2
                  simp at ht2
                  omega
                simp [fitsX, this]
              | _ => simp [fitsX]
            rw [this]
            have el : dLen (DL.TI is) = .ok (.int is.length) := by rw [i_len, List.length_map]
            unfold Lib.m_fits_mixture mDef Lib.b_fits_mixture
            generalize DL.TI is = ti at *
            simp [ht, hn, i0, i1, na.noD, nb.noD, hw, h1, el, ht2]
          | true =>
            cases b with
            | tuple ds =>
              have hds : ds.length = is.length := by
                simp only [isTup, decide_eq_true_eq] at ht2
                omega
              have nd := nice_of_tup nb
              have el : dLen (DL.TI is) = .ok (.int is.length) := by rw [i_len, List.length_map]
              have ew : lcL (mgName 2) mYes (mD (mCall Lib.m_is_whole (mCons (mVar 2) mNil))) [2] ds [V (DL.TI is), V (.tuple [.int w, .tuple ds]), none, none] = .ok (ds.map fun d => .bool (isW d), [V (DL.TI is), V (.tuple [.int w, .tuple ds]), none, none]) := by
                refine lcL_map fun d hd => ⟨[V (DL.TI is), V (.tuple [.int w, .tuple ds]), V d, none], by simp, ?_, by simp⟩
                simp [(nd d hd).noD]
              have aw := p_all ds isW
              have hzw : sz (ds.map fun d => PyData.bool (isW d)).length := sz_of (by simp; omega)
              cases hW : ds.all isW with
              | false =>
                have : fitsX is (.tuple [.int w, .tuple ds]) = false := by
                  have : (ds.zip is).all (okX w) = false := by
                    rw [← Bool.not_eq_true]
                    intro h
                    rw [okX_W hds h] at hW
                    cases hW
                  simp only [fitsX, this]
                  simp
                rw [this]
                rw [hW] at aw
                unfold Lib.m_fits_mixture mDef Lib.b_fits_mixture
                generalize DL.TI is = ti at *
                generalize ds.map (fun d => PyData.bool (isW d)) = bl at *
                simp [ht, hn, i0, i1, na.noD, nb.noD, hw, h1, el, ht2, seqD, ew, hzw, aw]
              | true =>
                obtain ⟨as, rfl⟩ := ints_of_W hW
                rw [List.length_map] at hds
                rw [hW] at aw
                have zm := zip_map2 PyData.int ingD as is
                have e2 : lcL (mgTup 2 (mgCons (mgName 2) (mgCons (mgName 3) mgNil))) mYes (mChain (dOrd fLe) (dOrd fLe) (mC (.int 0)) (mVar 2) (mBin dMul (mBinP dIx 1 (mC (.int 0))) (mBinP dIx 3 (mC (.int 1))))) [2, 3] ((as.zip is).map fun p => .tuple [.int p.1, ingD p.2]) [V (DL.TI is), V (.tuple [.int w, .tuple (as.map .int)]), none, none] =
                    .ok ((as.zip is).map fun p => .bool (okX w (.int p.1, p.2)), [V (DL.TI is), V (.tuple [.int w, .tuple (as.map .int)]), none, none]) := by
                  refine lcL_of (fun p : Int × Ing => .tuple [.int p.1, ingD p.2]) (fun p => .bool (okX w (.int p.1, p.2))) fun p hp => ⟨[V (DL.TI is), V (.tuple [.int w, .tuple (as.map .int)]), V (.int p.1), V (ingD p.2)], by simp, ?_, by simp⟩
                  have hii := (hi.all p.2 (List.of_mem_zip hp).2).w
                  have mu : dMul (.int w) (.int p.2.w) = .ok (.int (w * p.2.w)) := mul_ok (.inr (by omega))
                  have j1 := ing1 p.2
                  unfold okX
                  generalize ingD p.2 = di at *
                  generalize PyData.tuple [.int w, .tuple (as.map .int)] = md at *
                  by_cases q : 0 ≤ p.1 <;> simp [i0, j1, mu, q]
                have a2 := p_all (as.zip is) fun p => okX w (.int p.1, p.2)
                have hz2 : sz ((as.zip is).map fun p => PyData.bool (okX w (.int p.1, p.2))).length := sz_of (by simp; omega)
                have hs := p_sumT as
                have ef : fitsX is (.tuple [.int w, .tuple (as.map .int)]) = (decide (0 < as.sum) && (as.zip is).all fun p => okX w (.int p.1, p.2)) := by
                  have h3 : (1 : Int) ≤ w := by omega
                  have hl3 : (as.map PyData.int).length = is.length := by rw [List.length_map]; exact hds
                  have hz3 : ((as.map PyData.int).zip is).all (okX w) = (as.zip is).all fun p => okX w (.int p.1, p.2) := by
                    rw [List.zip_map_left, List.all_map]
                    rfl
                  simp only [fitsX, isum, intsOf_map, hl3, hz3, h3]
                  simp [-List.all_eq_true, Bool.and_comm]
                rw [ef]
                generalize (as.zip is).all (fun p => okX w (.int p.1, p.2)) = r at *
                generalize (as.zip is).map (fun p => PyData.bool (okX w (.int p.1, p.2))) = bl at *
                generalize (as.zip is).map (fun p => PyData.tuple [.int p.1, ingD p.2]) = zl at *
                generalize hbw : (as.map PyData.int).map (fun d => PyData.bool (isW d)) = bw at *
                unfold T at hs
                unfold Lib.m_fits_mixture mDef Lib.b_fits_mixture
                have sq : seqD (.tuple (as.map .int)) = .ok (as.map .int) := rfl
                have dT : ∀ x, DL.TI is = x → dLen x = .ok (.int is.length) := fun x h => h ▸ el
                have zz : ∀ x y, x = (.tuple (as.map .int) : D) → y = DL.TI is → True := fun _ _ _ _ => trivial
                unfold DL.TI at *
                generalize as.map PyData.int = al at *
                generalize is.map ingD = il at *
                cases hpos : decide (0 < as.sum) with
                | false =>
                  have : ¬ 0 < as.sum := by simpa using hpos
                  simp [ht, hn, i0, i1, na.noD, nb.noD, hw, h1, el, ht2, sq, ew, hzw, aw, hs, this]
                | true =>
                  have : 0 < as.sum := by simpa using hpos
                  simp [ht, hn, i0, i1, na.noD, nb.noD, hw, h1, el, ht2, sq, ew, hzw, aw, hs, this, zm, e2, hz2, a2]
            | _ => simp [isTup] at ht2
      | _ => simp [isW] at hw
/-! #### the law's own judge -/
theorem l_whole (d : D) (h : noD d = true) : m__law_is_whole [V d] = .ok (.val (.bool (isW d)), [V d]) := p_is_whole d h
def LX (ti md : D) (ρ : DE) : Prop := ∃ x2 x3 : Option DL.Slot, ρ = [V ti, V md, x2, x3]
theorem l_mix {m : Nat} {is : List Ing} (hi : IsIngs m is) (d : D) (n : nice 3 d) : m__law_is_mixture [V (DL.TI is), V d] = .ok (.val (.bool (fitsX is d)), [V (DL.TI is), V d]) := by
  have hl := hi.len
  have hn := n.noD
  have el : dLen (DL.TI is) = .ok (.int is.length) := by rw [i_len, List.length_map]
  cases ht : isTup 2 2 d with
  | false =>
    rw [noTup ht]
    unfold m__law_is_mixture mDef b__law_is_mixture
    cases d with
    | tuple ds =>
      have : ¬ (ds.length : Int) = 2 := by
        simp only [isTup] at ht
        rw [← Bool.not_eq_true] at ht
        simp at ht
        omega
      generalize DL.TI is = ti at *
      simp [this]
    | dict es => cases hn
    | _ => (generalize DL.TI is = ti at *; simp [dIsi, isiD])
  | true =>
    obtain ⟨a, b, rfl⟩ := mix_shape ht
    have na := nice_of_tup n a (by simp)
    have nb := nice_of_tup n b (by simp)
    have i0 : dIx (.tuple [a, b]) (.int 0) = .ok a := rfl
    have i1 : dIx (.tuple [a, b]) (.int 1) = .ok b := rfl
    have lw := l_whole a na.noD
    cases hw : isW a with
    | false =>
      have : fitsX is (.tuple [a, b]) = false := by
        cases a <;> simp [isW] at hw <;> simp [fitsX]
      rw [this]
      rw [hw] at lw
      unfold m__law_is_mixture mDef b__law_is_mixture
      generalize DL.TI is = ti at *
      simp [i0, lw]
    | true =>
      rw [hw] at lw
      cases a with
      | int w =>
        by_cases h1 : w < 1
        · have : fitsX is (.tuple [.int w, b]) = false := by
            cases b <;> simp [fitsX]
            intro h2
            omega
          rw [this]
          unfold m__law_is_mixture mDef b__law_is_mixture
          generalize DL.TI is = ti at *
          simp [i0, lw, h1]
        · have hbl : (∃ ds, b = .tuple ds ∧ ds.length = is.length) ∨ (fitsX is (.tuple [.int w, b]) = false ∧ ((∃ ds, b = .tuple ds ∧ ds.length ≠ is.length) ∨ ∀ ds, b ≠ .tuple ds)) := by
            cases b with
            | tuple ds =>
              by_cases h : ds.length = is.length
              · exact .inl ⟨ds, rfl, h⟩
              · exact .inr ⟨by simp [fitsX, h], .inl ⟨ds, rfl, h⟩⟩
            | _ => exact .inr ⟨by simp [fitsX], .inr fun ds e => by cases e⟩
          rcases hbl with ⟨ds, rfl, hds⟩ | ⟨hf, hb⟩
          · have nd := nice_of_tup nb
            obtain ⟨md, hmd⟩ : ∃ md : D, md = .tuple [.int w, .tuple ds] := ⟨_, rfl⟩
            rw [← hmd] at i0 i1
            have zm : zipD ds (is.map ingD) = (ds.zip is).map fun p => .tuple [p.1, ingD p.2] := by
              have := zip_map2 (fun d : D => d) ingD ds is
              rwa [List.map_id'] at this
            have fd : WR (forL (mgTup 2 (mgCons (mgName 2) (mgCons (mgName 3) mgNil))) b__law_is_mixture_0 ((ds.zip is).map fun p => .tuple [p.1, ingD p.2]) [V (DL.TI is), V md, none, none]) fun q => if (ds.zip is).any (fun p => !okX w p) = true then q.1 = .rt (.val (.bool false)) ∧ LX (DL.TI is) md q.2 else q.1 = .nx ∧ LX (DL.TI is) md q.2 := by
              refine WR_find (fun p : D × Ing => .tuple [p.1, ingD p.2]) (fun p => !okX w p) (LX (DL.TI is) md) (LX (DL.TI is) md) (.val (.bool false)) (fun p hp ρ h => ?_) ⟨none, none, rfl⟩
              obtain ⟨x2, x3, rfl⟩ := h
              refine WR.of (a := [V (DL.TI is), V md, V p.1, V (ingD p.2)]) (by simp) ?_
              have np := nd p.1 (List.of_mem_zip hp).1
              have hii := (hi.all p.2 (List.of_mem_zip hp).2).w
              have mu : dMul (.int w) (.int p.2.w) = .ok (.int (w * p.2.w)) := mul_ok (.inr (by omega))
              have j1 := ing1 p.2
              have lw1 := l_whole p.1 np.noD
              obtain ⟨e, i⟩ := p
              simp only at *
              have fin : LX (DL.TI is) md [V (DL.TI is), V md, V e, V (ingD i)] := ⟨_, _, rfl⟩
              unfold b__law_is_mixture_0 okX
              generalize ingD i = di at *
              generalize DL.TI is = ti at *
              cases e with
              | int a =>
                have hw1 : isW (.int a) = true := rfl
                rw [hw1] at lw1
                by_cases q1 : 0 ≤ a
                · by_cases q2 : a ≤ w * i.w
                  · simp [lw1, i0, j1, mu, q1, q2]
                    exact fin
                  · simp [lw1, i0, j1, mu, q1, q2]
                    exact fin
                · simp [lw1, i0, j1, mu, q1]
                  exact fin
              | dict es => exact absurd np.noD (by simp [noD])
              | _ => (simp only [isW] at lw1; simp [lw1]; exact fin)
            have hany : (ds.zip is).any (fun p => !okX w p) = !(ds.zip is).all (okX w) := by
              rw [List.any_eq_not_all_not]
              simp
            rw [hany] at fd
            have edl : dLen (.tuple ds) = .ok (.int is.length) := by rw [i_len, hds]
            apply WR.eq
            refine WR_def rfl ?_
            show WR (b__law_is_mixture [V (DL.TI is), V (.tuple [.int w, .tuple ds]), none, none]) _
            rw [← hmd]
            have efx : fitsX is md = (decide (1 ≤ w) && (decide (ds.length = is.length) && ((ds.zip is).all (okX w) && decide (0 < (isum ds).getD 0)))) := by
              rw [hmd]
              rfl
            have tup : dIsi .tuple md = .ok (.bool true) := by rw [hmd]; rfl
            have lmd : dLen md = .ok (.int 2) := by rw [hmd]; rfl
            have hsum : (ds.zip is).all (okX w) = true → dSum (.tuple ds) = .ok (.int ((isum ds).getD 0)) := fun h => by
              obtain ⟨as, rfl⟩ := ints_of_W (okX_W hds h)
              have := p_sumT as
              unfold isum
              rw [intsOf_map]
              exact this
            have h1' : (1 : Int) ≤ w := by omega
            unfold b__law_is_mixture
            unfold DL.TI at fd el ⊢
            have zmT : (match itemsD (.tuple ds), itemsD (.tuple (is.map ingD)) with
              | some a, some b => zipD a b
              | _, _ => []) = zipD ds (is.map ingD) := rfl
            generalize hil : is.map ingD = il at *
            simp [tup, lmd, i0, i1, lw, h1, edl, el, zm]
            refine fd.mono ?_
            rintro ⟨fl, ρ⟩ q
            cases hall : (ds.zip is).all (okX w) with
            | false =>
              rw [hall] at q efx
              simp only [Bool.not_false, if_true] at q
              obtain ⟨rfl, x2, x3, rfl⟩ := q
              simp [efx]
            | true =>
              rw [hall] at q efx
              simp only [Bool.not_true, Bool.false_eq_true, if_false] at q
              obtain ⟨rfl, x2, x3, rfl⟩ := q
              have hs := hsum hall
              simp [efx, i1, hs, hds, h1']
          · rw [hf]
            unfold m__law_is_mixture mDef b__law_is_mixture
            rcases hb with ⟨ds, rfl, hne⟩ | hb
            · have hne' : ¬ (ds.length : Int) = is.length := by omega
              generalize DL.TI is = ti at *
              simp [i0, i1, lw, h1, el, hne']
            · cases b with
              | tuple ds => exact absurd rfl (hb ds)
              | dict es => exact absurd nb.noD (by simp [noD])
              | _ => (generalize DL.TI is = ti at *; simp [i0, i1, lw, h1, dIsi, isiD])
      | _ => simp [isW] at hw
/-! ### values near a mixture -/
def N0 (ti md : D) (w : Int) (ta : D) (n : Nat) (ρ : DE) : Prop := ∃ (c : D) (k : Nat), IsCup c ∧ k < n ∧ ρ = [some (.own c), V ti, V md, V (.int w), V ta, V (.int (k : Int)), none, none, none, none]
def N1 (c ti md : D) (w : Int) (ta : D) (x5 x6 : Option DL.Slot) (ρ : DE) : Prop := ∃ os : List D, os.length ≤ 8 ∧ AllN 1 os ∧ ρ = [some (.own c), V ti, V md, V (.int w), V ta, x5, x6, some (.own (.list os)), none, none]
def N2 (c ti md : D) (w : Int) (ta : D) (x5 x6 : Option DL.Slot) (n : Nat) (ρ : DE) : Prop := ∃ (x7 : Option DL.Slot) (fs : List D), fs.length ≤ n ∧ AllN 3 fs ∧ ρ = [some (.own c), V ti, V md, V (.int w), V ta, x5, x6, x7, some (.own (.list fs)), none]
theorem pow20 : dPow (.int 10) (.int 20) = .ok (.int (10 ^ 20)) := by
  unfold dPow
  simp only []
  rw [Rs.grd_pos (by decide)]
  rfl
theorem str_ok {w : Int} (h : 1 ≤ w ∧ w ≤ 1000) : dStr (.int w) = .ok (.str (toString w)) := by
  unfold dStr
  simp only []
  rw [Rs.grd_pos]
  rw [Nat.log2_lt (by omega)]
  exact Nat.lt_of_lt_of_le (show w.natAbs < 2 ^ 10 by omega) (Nat.pow_le_pow_right (by omega) (by omega))
theorem WR_near {m : Nat} {is : List Ing} (hi : IsIngs m is) {w : Int} {as : List Int} (hx : IsX is w as) (hw : w ≤ 1000) {c : D} (hc : IsCup c) {Q : Slot × DE → Prop}
    (q : ∀ (rows : List D) (c' : D), IsCup c' → rows.length ≤ 40 → AllN 3 rows → Q (.own (.list rows), [some (.own c'), V (DL.TI is), V (mixD w as)])) : WR (m__law_near [some (.own c), V (DL.TI is), V (mixD w as)]) Q := by
  have hl := hi.len
  have hal := hx.len
  refine WR_def rfl ?_
  show WR (b__law_near [some (.own c), V (DL.TI is), V (mixD w as), none, none, none, none, none, none, none]) _
  unfold b__law_near
  refine WR_sqP (fun ρ => ρ = [some (.own c), V (DL.TI is), V (mixD w as), V (.int w), V (T as), none, none, none, none, none]) ?_ ?_
  · unfold mixD
    simp
  rintro ρ1 rfl
  have lT : dLen (DL.TI is) = .ok (.int is.length) := by rw [i_len, List.length_map]
  have nm : nice 2 (mixD w as) := by unfold mixD T; (repeat' (first | assumption | exact an_nil _ | exact nk_int _ _ | exact nk_bool _ _ | exact nk_str _ _ | exact nk_none _ | exact an_ints _ _ | exact an_intsF _ _ _ | apply an_cons | apply an_app | apply nk_tup | apply nk_list))
  have md1 : dCut none (some 1) (mixD w as) = .ok (.tuple [.int w]) := by rw [cut_tup]; rfl
  have mdL : dList (mixD w as) = .ok (.list [.int w, T as]) := rfl
  have mdA : dAdd (mixD w as) (.tuple [.int 1]) = .ok (.tuple [.int w, T as, .int 1]) := add_tup (by simp)
  refine WR_sqP (N0 (DL.TI is) (mixD w as) w (T as) is.length) ?_ ?_
  · generalize DL.TI is = ti at *
    generalize mixD w as = md at *
    generalize T as = ta at *
    simp [lT]
    refine WR_roll R hc (by omega) (by omega) fun r c1 h1 a1 b1 => ?_
    simp
    refine ⟨c1, r.toNat, h1, by omega, ?_⟩
    rw [show ((r.toNat : Nat) : Int) = r by omega]
  rintro ρ1 ⟨c1, k, h1, hk, rfl⟩
  obtain ⟨i0, hi0⟩ : ∃ i0, is[k]? = some i0 := ⟨_, List.getElem?_eq_getElem hk⟩
  have hwt := (hi.all i0 (List.mem_of_getElem? hi0)).w
  have ix : dIx (DL.TI is) (.int (k : Int)) = .ok (ingD i0) := (ix_at (ds := is.map ingD) (i := k) (d := ingD i0) (by rw [List.getElem?_map, hi0]; rfl)).2
  have j1 := ing1 i0
  have mu : dMul (.int w) (.int i0.w) = .ok (.int (w * i0.w)) := mul_ok (.inr (by omega))
  refine WR_sqP (fun ρ => ρ = [some (.own c1), V (DL.TI is), V (mixD w as), V (.int w), V (T as), V (.int (k : Int)), V (.int (w * i0.w)), none, none, none]) ?_ ?_
  · generalize DL.TI is = ti at *
    generalize mixD w as = md at *
    generalize T as = ta at *
    generalize ingD i0 = di at *
    simp [ix, j1, mu]
  rintro ρ1 rfl
  generalize w * i0.w = top at *
  have nas : ∀ k, AllN k (as.map PyData.int) := fun k => an_ints k _
  have lAs : (as.map PyData.int).length = is.length := by rw [List.length_map, hal]
  refine WR_sqP (N1 c1 (DL.TI is) (mixD w as) w (T as) (V (.int (k : Int))) (V (.int top))) ?_ ?_
  · generalize DL.TI is = ti at *
    generalize mixD w as = md at *
    generalize T as = ta at *
    simp
    exact ⟨_, by simp, by (repeat' (first | assumption | exact an_nil _ | exact nk_int _ _ | exact nk_bool _ _ | exact nk_str _ _ | exact nk_none _ | exact an_ints _ _ | exact an_intsF _ _ _ | apply an_cons | apply an_app | apply nk_tup | apply nk_list)), rfl⟩
  rintro ρ1 ⟨os, o1, o2, rfl⟩
  have kA : dCut none (some (k : Int)) (T as) = .ok (.tuple (DL.cutD (as.map .int) none (some (k : Int)))) := cut_tup _ _ _
  have kB : dCut (some ((k : Int) + 1)) none (T as) = .ok (.tuple (DL.cutD (as.map .int) (some ((k : Int) + 1)) none)) := cut_tup _ _ _
  have k1 : dCut (some 1) none (T as) = .ok (.tuple (DL.cutD (as.map .int) (some 1) none)) := cut_tup _ _ _
  have nA : ∀ j, AllN j (DL.cutD (as.map PyData.int) none (some (k : Int))) := fun j => an_cut (nas j)
  have nB : ∀ j, AllN j (DL.cutD (as.map PyData.int) (some ((k : Int) + 1)) none) := fun j => an_cut (nas j)
  have nC : ∀ j, AllN j (DL.cutD (as.map PyData.int) (some 1) none) := fun j => an_cut (nas j)
  have lA := cut_len (as.map PyData.int) none (some (k : Int))
  have lB := cut_len (as.map PyData.int) (some ((k : Int) + 1)) none
  have dl : dList (T as) = .ok (.list (as.map .int)) := rfl
  have a0 : dAdd (T as) (.tuple [.int 0]) = .ok (.tuple (as.map .int ++ [.int 0])) := add_tup (by simp; omega)
  have mz : dMul (.tuple [.int 0]) (.int is.length) = .ok (.tuple (List.replicate is.length (.int 0))) := rep_tup (by omega)
  have nz : ∀ j, AllN j (List.replicate is.length (PyData.int 0)) := fun j => ⟨fun d hd => by rw [List.eq_of_mem_replicate hd]; exact nk_int _ _⟩
  have nta : ∀ j, nice (j + 1) (T as) := fun j => nk_tup (nas j)
  refine WR_sqP (N2 c1 (DL.TI is) (mixD w as) w (T as) (V (.int (k : Int))) (V (.int top)) 12) ?_ ?_
  · have nta := nta 1
    have nA := nA 1
    have nB := nB 1
    generalize DL.TI is = ti at *
    generalize mixD w as = md at *
    generalize T as = ta at *
    generalize as.map PyData.int = al at *
    generalize DL.cutD al none (some (k : Int)) = cA at *
    generalize DL.cutD al (some ((k : Int) + 1)) none = cB at *
    have e : ∀ x7 x8 : Option DL.Slot, lcL (mgName 9) mYes b__law_near_0 [9] os [some (.own c1), V ti, V md, V (.int w), V ta, V (.int (k : Int)), V (.int top), x7, x8, none] =
        .ok (os.map fun d => .tuple [.int w, .tuple (cA ++ [d] ++ cB)], [some (.own c1), V ti, V md, V (.int w), V ta, V (.int (k : Int)), V (.int top), x7, x8, none]) := by
      intro x7 x8
      refine lcL_map fun d hd => ⟨[some (.own c1), V ti, V md, V (.int w), V ta, V (.int (k : Int)), V (.int top), x7, x8, V d], by simp, ?_, by simp⟩
      have u1 : dAdd (.tuple cA) (.tuple [d]) = .ok (.tuple (cA ++ [d])) := add_tup (by simp; omega)
      have u2 : dAdd (.tuple (cA ++ [d])) (.tuple cB) = .ok (.tuple (cA ++ [d] ++ cB)) := add_tup (by simp; omega)
      unfold b__law_near_0
      simp only [List.append_assoc, List.singleton_append] at u2
      simp [kA, kB, u1, u2]
    have nR : AllN 3 (os.map fun d => PyData.tuple [.int w, .tuple (cA ++ [d] ++ cB)]) := ⟨fun x hx => by
      obtain ⟨d, hd, rfl⟩ := List.mem_map.mp hx
      have nd := o2.all d hd
      (repeat' (first | assumption | exact an_nil _ | exact nk_int _ _ | exact nk_bool _ _ | exact nk_str _ _ | exact nk_none _ | exact an_ints _ _ | exact an_intsF _ _ _ | apply an_cons | apply an_app | apply nk_tup | apply nk_list))⟩
    have hz : sz (os.map fun d => PyData.tuple [.int w, .tuple (cA ++ [d] ++ cB)]).length := sz_of (by simp; omega)
    have rl : (os.map fun d => PyData.tuple [.int w, .tuple (cA ++ [d] ++ cB)]).length ≤ 8 := by simp; omega
    generalize os.map (fun d => PyData.tuple [.int w, .tuple (cA ++ [d] ++ cB)]) = rs at *
    have cat : ∀ ys : List D, ys.length ≤ 20 → dCatL (.list rs) (.list ys) = .ok (.list (rs ++ ys)) := fun ys h => cat_lst (by omega)
    have nta3 : nice 2 ta := nta
    simp [seqD, e, hz]
    rw [cat _ (by simp)]
    simp
    refine ⟨_, _, by simp; omega, an_app nR ?_, rfl⟩
    (repeat' (first | assumption | exact an_nil _ | exact nk_int _ _ | exact nk_bool _ _ | exact nk_str _ _ | exact nk_none _ | exact an_ints _ _ | exact an_intsF _ _ _ | apply an_cons | apply an_app | apply nk_tup | apply nk_list))
  rintro ρ1 ⟨x7, fs, f1, f2, rfl⟩
  have Cat : ∀ (os ys : List D), os.length ≤ 100 → ys.length ≤ 20 → dCatL (.list os) (.list ys) = .ok (.list (os ++ ys)) := fun os ys h h2 => cat_lst (by omega)
  refine WR_sqP (N2 c1 (DL.TI is) (mixD w as) w (T as) (V (.int (k : Int))) (V (.int top)) 17) ?_ ?_
  · have nta := nta 1
    have nas := nas 1
    have nC := nC 1
    have nz := nz 1
    generalize DL.TI is = ti at *
    generalize mixD w as = md at *
    generalize T as = ta at *
    generalize as.map PyData.int = al at *
    generalize DL.cutD al (some 1) none = cC at *
    generalize List.replicate is.length (PyData.int 0) = zs at *
    simp [lT, mz, a0, k1, dl, mdL]
    rw [Cat _ _ (by omega) (by simp)]
    simp
    refine ⟨_, _, by simp; omega, an_app f2 ?_, rfl⟩
    (repeat' (first | assumption | exact an_nil _ | exact nk_int _ _ | exact nk_bool _ _ | exact nk_str _ _ | exact nk_none _ | exact an_ints _ _ | exact an_intsF _ _ _ | apply an_cons | apply an_app | apply nk_tup | apply nk_list))
  rintro ρ1 ⟨x7', fs, f1, f2, rfl⟩
  refine WR_sqP (N2 c1 (DL.TI is) (mixD w as) w (T as) (V (.int (k : Int))) (V (.int top)) 18) ?_ ?_
  · have hf : fs.length ≤ 1000000 := by omega
    generalize DL.TI is = ti at *
    generalize mixD w as = md at *
    generalize T as = ta at *
    simp [md1, hf]
    exact ⟨_, _, by simp; omega, an_app f2 (by (repeat' (first | assumption | exact an_nil _ | exact nk_int _ _ | exact nk_bool _ _ | exact nk_str _ _ | exact nk_none _ | exact an_ints _ _ | exact an_intsF _ _ _ | apply an_cons | apply an_app | apply nk_tup | apply nk_list))), rfl⟩
  rintro ρ1 ⟨x7'', fs, f1, f2, rfl⟩
  have st := str_ok (w := w) ⟨hx.ww, hw⟩
  have nta3 : nice 3 (T as) := nta 2
  have nta := nta 1
  generalize DL.TI is = ti at *
  generalize mixD w as = md at *
  generalize T as = ta at *
  simp [mdA, pow20, st]
  rw [Cat _ _ (by omega) (by simp)]
  simp
  refine q _ c1 h1 (by simp; omega) (an_app f2 ?_)
  (repeat' (first | assumption | exact an_nil _ | exact nk_int _ _ | exact nk_bool _ _ | exact nk_str _ _ | exact nk_none _ | exact an_ints _ _ | exact an_intsF _ _ _ | apply an_cons | apply an_app | apply nk_tup | apply nk_list))
/-! ### one turn -/
def R1 (ρ : DE) : Prop := ∃ (c : D) (m : Nat) (is : List Ing), IsCup c ∧ IsIngs m is ∧ ρ = [some (.own c), V (DL.TI is), none, none, none, none, none, none]
def R2 (is : List Ing) (x3 x4 : Option DL.Slot) (ρ : DE) : Prop := ∃ c : D, IsCup c ∧ ρ = [some (.own c), V (DL.TI is), none, x3, x4, none, none, none]
def R4 (is : List Ing) (m : Nat) (ρ : DE) : Prop := ∃ (c : D) (bs : List (Int × Int)), IsCup c ∧ IsB m bs ∧ ρ = [some (.own c), V (DL.TI is), none, V (.int m), V (TB bs), none, none, none]
def R6 (is : List Ing) (x3 x4 : Option DL.Slot) (ρ : DE) : Prop := ∃ (c : D) (w : Int) (as : List Int), IsCup c ∧ IsX is w as ∧ w ≤ 1000 ∧ ρ = [some (.own c), V (DL.TI is), none, x3, x4, none, V (mixD w as), none]
def R7 (is : List Ing) (x3 x4 x6 : Option DL.Slot) (ρ : DE) : Prop := ∃ (c : D) (rows : List D), IsCup c ∧ rows.length ≤ 50 ∧ AllN 3 rows ∧ ρ = [some (.own c), V (DL.TI is), none, x3, x4, none, x6, some (.own (.list rows))]
def bdz (z : D) : Prop := ∃ b : Int × Int, z = bdD b ∧ 0 ≤ b.1 ∧ b.1 ≤ b.2 ∧ b.2 ≤ 1000
theorem bds_of : ∀ {zs : List D}, (∀ z ∈ zs, bdz z) → ∃ bs : List (Int × Int), zs = bs.map bdD ∧ ∀ b ∈ bs, 0 ≤ b.1 ∧ b.1 ≤ b.2 ∧ b.2 ≤ 1000
  | [], _ => ⟨[], rfl, by simp⟩
  | z :: zs, h => by
    obtain ⟨b, rfl, hb⟩ := h z (List.mem_cons_self ..)
    obtain ⟨bs, rfl, hbs⟩ := bds_of fun z hz => h z (List.mem_cons_of_mem _ hz)
    exact ⟨b :: bs, rfl, fun x hx => by
      rcases List.mem_cons.mp hx with rfl | hx
      · exact hb
      · exact hbs x hx⟩
theorem e_are {m : Nat} {is : List Ing} (hi : IsIngs m is) : m_are_ingots [V (DL.TI is)] = .ok (.val (.bool true), [V (DL.TI is)]) := by
  have e := g_ingots hi
  unfold m_are_ingots mDef b_are_ingots
  generalize DL.TI is = ti at *
  simp [e]
theorem eqn (neg : Bool) : dEq neg (.list []) (.list []) = .ok (.bool (true != neg)) := eq_nil (nk_list (an_nil 0)) (by omega) neg
theorem sameB (b : Bool) : m__law_same [some (.val (.bool b)), some (.val (.bool b))] = .ok (.val (.bool true), [some (.val (.bool b)), some (.val (.bool b))]) := p_same 3 (.bool b) rfl
theorem right {c : D} (hc : IsCup c) : WR (m__law_right [some (.own c)]) fun q => q.1 = .val (.bool true) ∧ ∃ c', IsCup c' ∧ q.2 = [some (.own c')] := by
  refine WR_def rfl ?_
  show WR (b__law_right [some (.own c), none, none, none, none, none, none, none]) _
  unfold b__law_right
  refine WR_sqP R1 ?_ ?_
  · simp
    refine WR_ingots R S hc (by omega) fun m is c1 h1 hi => ?_
    simp
    exact ⟨c1, m, is, h1, hi, rfl⟩
  rintro ρ1 ⟨c1, m, is, h1, hi, rfl⟩
  have hm := hi.mm
  have ea := e_are hi
  refine WR_sqP (R2 is none none) ?_ ?_
  · have fin : ∀ c' : D, IsCup c' → R2 is none none [some (.own c'), V (DL.TI is), none, none, none, none, none, none] := fun c' h => ⟨c', h, rfl⟩
    have wb := fun {Q : Slot × DE → Prop} => WR_bent hi h1 (Q := Q)
    generalize DL.TI is = ti at *
    simp [ea]
    refine wb fun rows c2 h2 rl rb => ?_
    have e : lcL (mgName 2) b__law_right_0 b__law_right_1 [2] rows [some (.own c2), V ti, none, none, none, none, none, none] = .ok ([], [some (.own c2), V ti, none, none, none, none, none, none]) := by
      refine none_of fun d hd => ⟨[some (.own c2), V ti, V d, none, none, none, none, none], by simp, ?_, by simp⟩
      have := rb d hd
      unfold NB at this
      unfold b__law_right_0
      simp [this]
    simp [seqD, e, eqn]
    exact fin c2 h2
  rintro ρ1 ⟨c2, h2, rfl⟩
  obtain ⟨d0, p0, e0, e1, e2⟩ := many_metals hi
  refine WR_sqP (R2 is (V (.int m)) none) ?_ ?_
  · have fin : ∀ c' : D, IsCup c' → R2 is (V (.int m)) none [some (.own c'), V (DL.TI is), none, V (.int m), none, none, none, none] := fun c' h => ⟨c', h, rfl⟩
    generalize DL.TI is = ti at *
    simp [e0, e1, e2]
    exact fin c2 h2
  rintro ρ1 ⟨c3, h3, rfl⟩
  refine WR_sqP (R4 is m) ?_ ?_
  · have h62 : i62 (m : Int) := i62_of (by omega)
    have fin : ∀ (c' : D) (bs : List (Int × Int)), IsCup c' → IsB m bs → R4 is m [some (.own c'), V (DL.TI is), none, V (.int m), V (TB bs), none, none, none] := fun c' bs h hb => ⟨c', bs, h, hb, rfl⟩
    simp [h62]
    refine WR_map (R2 is (V (.int m)) none) (fun _ z => bdz z) ⟨c3, h3, rfl⟩ ?_ ?_
    · rintro d hd ρ ⟨c', hc', rfl⟩
      unfold b__law_right_2
      simp
      refine WR_roll R hc' (by omega) (by omega) fun r c4 h4 a4 b4 => ?_
      simp
      refine WR_some S h4 (by simp) (by simp) fun z hz c5 h5 => ?_
      have : bdz z := by
        simp only [List.mem_cons, List.not_mem_nil, or_false] at hz
        rcases hz with rfl | rfl | rfl | rfl | rfl
        · exact ⟨(0, 1000), rfl, by simp⟩
        · exact ⟨(0, 0), rfl, by simp⟩
        · exact ⟨(1000, 1000), rfl, by simp⟩
        · exact ⟨(5, 6), rfl, by simp⟩
        · exact ⟨(r, 500), rfl, by simp only; omega⟩
      simp
      exact ⟨this, c5, h5, rfl⟩
    · rintro zs ρ' ⟨c4, h4, rfl⟩ lz hz _
      obtain ⟨bs, rfl, hb⟩ := bds_of (zs := zs) fun z hz' => by
        obtain ⟨_, _, h⟩ := hz z hz'
        exact h
      have hbl : bs.length = m := by
        rw [List.length_map] at lz
        rw [lz]
        simp [upD]
      have f := fin c4 bs h4 ⟨hbl, hb⟩
      unfold TB at f
      have hz2 : sz (bs.map bdD).length := sz_of (by rw [List.length_map]; omega)
      generalize bs.map bdD = bl at *
      simp [hz2, dTup]
      exact f
  rintro ρ1 ⟨c4, bs, h4, hb, rfl⟩
  have eb := e_are_bounds hi (g_bounds hi hb)
  refine WR_sqP (R2 is (V (.int m)) (V (TB bs))) ?_ ?_
  · have fin : ∀ c' : D, IsCup c' → R2 is (V (.int m)) (V (TB bs)) [some (.own c'), V (DL.TI is), none, V (.int m), V (TB bs), none, none, none] := fun c' h => ⟨c', h, rfl⟩
    have wb := fun {Q : Slot × DE → Prop} => WR_bentB hi hb h4 (Q := Q)
    generalize DL.TI is = ti at *
    generalize TB bs = tb at *
    simp [eb]
    refine wb fun rows c5 h5 rl rb => ?_
    have e : lcL (mgName 2) b__law_right_3 b__law_right_4 [2] rows [some (.own c5), V ti, none, V (.int m), V tb, none, none, none] = .ok ([], [some (.own c5), V ti, none, V (.int m), V tb, none, none, none]) := by
      refine none_of fun d hd => ⟨[some (.own c5), V ti, V d, V (.int m), V tb, none, none, none], by simp, ?_, by simp⟩
      have := rb d hd
      unfold NBd at this
      unfold b__law_right_3
      simp [this]
    simp [seqD, e, eqn]
    exact fin c5 h5
  rintro ρ1 ⟨c5, h5, rfl⟩
  refine WR_sqP (R6 is (V (.int m)) (V (TB bs))) ?_ ?_
  · simp
    refine WR_mixture R S hi h5 fun w as c6 h6 hx hw _ => ?_
    simp
    exact ⟨c6, w, as, h6, hx, hw, rfl⟩
  rintro ρ1 ⟨c6, w, as, h6, hx, hw, rfl⟩
  refine WR_sqP (R7 is (V (.int m)) (V (TB bs)) (V (mixD w as))) ?_ ?_
  · have fin : ∀ (c' : D) (rows : List D), IsCup c' → rows.length ≤ 50 → AllN 3 rows → R7 is (V (.int m)) (V (TB bs)) (V (mixD w as)) [some (.own c'), V (DL.TI is), none, V (.int m), V (TB bs), none, V (mixD w as), some (.own (.list rows))] := fun c' rows h h1 h2 => ⟨c', rows, h, h1, h2, rfl⟩
    have wn := fun {Q : Slot × DE → Prop} => WR_near hi hx hw h6 (Q := Q)
    have nm : nice 3 (mixD w as) := by unfold mixD T; (repeat' (first | assumption | exact an_nil _ | exact nk_int _ _ | exact nk_bool _ _ | exact nk_str _ _ | exact nk_none _ | exact an_ints _ _ | exact an_intsF _ _ _ | apply an_cons | apply an_app | apply nk_tup | apply nk_list))
    generalize DL.TI is = ti at *
    generalize TB bs = tb at *
    generalize mixD w as = md at *
    simp
    refine wn fun rows c7 h7 rl rn => ?_
    have cat : dCatL (.list rows) (.list [md]) = .ok (.list (rows ++ [md])) := cat_lst (by simp; omega)
    simp [cat]
    exact fin c7 _ h7 (by simp; omega) (an_app rn (by (repeat' (first | assumption | exact an_nil _ | exact nk_int _ _ | exact nk_bool _ _ | exact nk_str _ _ | exact nk_none _ | exact an_ints _ _ | exact an_intsF _ _ _ | apply an_cons | apply an_app | apply nk_tup | apply nk_list))))
  rintro ρ1 ⟨c7, rows, h7, rl, rn, rfl⟩
  have e : ∀ x7 : Option DL.Slot, lcL (mgName 2) b__law_right_5 b__law_right_6 [2] rows [some (.own c7), V (DL.TI is), none, V (.int m), V (TB bs), none, V (mixD w as), x7] = .ok ([], [some (.own c7), V (DL.TI is), none, V (.int m), V (TB bs), none, V (mixD w as), x7]) := by
    intro x7
    refine none_of fun d hd => ⟨[some (.own c7), V (DL.TI is), V d, V (.int m), V (TB bs), none, V (mixD w as), x7], by simp, ?_, by simp⟩
    have e1 := p_mix hi d (rn.all d hd)
    have e2 := l_mix hi d (rn.all d hd)
    have e3 := sameB (fitsX is d)
    unfold b__law_right_5
    generalize DL.TI is = ti at *
    generalize TB bs = tb at *
    generalize mixD w as = md at *
    simp [e1, e2, e3]
  generalize DL.TI is = ti at *
  generalize TB bs = tb at *
  generalize mixD w as = md at *
  simp [seqD, e, eqn]
  exact h7
/-! ### by hand -/
theorem eq_self {k : Nat} {d : D} (n : nice k d) (hk : k ≤ 60) (neg : Bool) : dEq neg d d = .ok (.bool (true != neg)) := by
  unfold dEq
  rw [Rs.grd_pos ⟨n.ok hk, n.ok hk⟩, PySem.SeqAt.eqv_refl_plain d n.1]
def nm (k : Nat) : Str := (["i0", "i1", "i2", "i3", "i4", "i5", "i6", "i7", "i8"] : List Str).getD k ""
theorem nm_eq : ∀ k ∈ List.range 9, ("i" : Str) ++ (toString (k : Int) : Str) = nm k := by decide +kernel
theorem nm_ok : ∀ k ∈ List.range 9, fnm (nm k) = true ∧ (nm k).length ≤ 2 := by decide +kernel
theorem nm_asc : ((List.range 8).map nm).Pairwise fun a b => slt a b = true := by decide +kernel
def ing (part : Int) (k : Nat) : Ing := ⟨nm k, 1000, [part, 0, 1000 - part, 0]⟩
theorem ing_ok {part : Int} (h : 0 ≤ part ∧ part ≤ 1000) {k : Nat} (hk : k < 9) : IsIng 4 (ing part k) := by
  have := nm_ok k (List.mem_range.mpr hk)
  refine ⟨this.1, show (nm k).length ≤ 1000 by omega, show 1 ≤ (1000 : Int) ∧ (1000 : Int) ≤ 1000 by omega, rfl, fun z hz => ?_, ?_⟩
  · have hz' : z ∈ [part, 0, 1000 - part, 0] := hz
    simp only [List.mem_cons, List.not_mem_nil, or_false] at hz'
    omega
  · show [part, 0, 1000 - part, 0].sum = 1000
    simp
    omega
theorem eight {part : Int} (h : 0 ≤ part ∧ part ≤ 1000) : IsIngs 4 ((List.range 8).map (ing part)) := ⟨by omega, by simp, fun i hi => by
  obtain ⟨k, hk, rfl⟩ := List.mem_map.mp hi
  exact ing_ok h (by have := List.mem_range.mp hk; omega), by
  rw [List.map_map]
  exact nm_asc⟩
def ia : Ing := ⟨"a", 1, [1000]⟩
def ib : Ing := ⟨"a", 1000, [0, 1000]⟩
def is2 : List Ing := [⟨"a", 3, [1000]⟩, ⟨"b", 2, [1000]⟩]
theorem oka : IsIngs 1 [ia] := ⟨by omega, by simp, fun i hi => by
  rw [List.mem_singleton] at hi
  subst hi
  exact ⟨by decide +kernel, by decide +kernel, by decide, rfl, by decide, by decide⟩, by simp⟩
theorem okb : IsIngs 2 [ib] := ⟨by omega, by simp, fun i hi => by
  rw [List.mem_singleton] at hi
  subst hi
  exact ⟨by decide +kernel, by decide +kernel, by decide, rfl, by decide, by decide⟩, by simp⟩
theorem ok2 : IsIngs 1 is2 := by
  refine ⟨by omega, by decide, fun i hi => ?_, by decide +kernel⟩
  simp only [is2, List.mem_cons, List.not_mem_nil, or_false] at hi
  rcases hi with rfl | rfl
  all_goals exact ⟨by decide +kernel, by decide +kernel, by decide, rfl, by decide, by decide⟩
def W0 (ρ : DE) : Prop := ∃ (c : D) (part : Int), IsCup c ∧ 0 ≤ part ∧ part ≤ 1000 ∧ ρ = [some (.own c), some (.own (.list ((List.range 9).map fun k => .str (nm k)))), none, V (.int part), none, none, none, none, none, none]
theorem lenA : ("a" : Str).length ≤ 1000 := by decide +kernel
theorem written {c : D} (hc : IsCup c) : WR (m__law_written [some (.own c)]) fun q => q.1 = .val (.bool true) ∧ ∃ c', q.2 = [some (.own c')] := by
  refine WR_def rfl ?_
  show WR (b__law_written [some (.own c), none, none, none, none, none, none, none, none, none]) _
  unfold b__law_written
  refine WR_sqP (fun ρ => ρ = [some (.own c), some (.own (.list ((List.range 9).map fun k => .str (nm k)))), none, none, none, none, none, none, none, none]) ?_ ?_
  · have e : lcL (mgName 2) mYes b__law_written_0 [2] (upD 0 9) [some (.own c), none, none, none, none, none, none, none, none, none] = .ok ((List.range 9).map fun k => .str (nm k), [some (.own c), none, none, none, none, none, none, none, none, none]) := by
      rw [upD0]
      refine lcL_of (fun k : Nat => .int k) (fun k => .str (nm k)) fun k hk => ⟨[some (.own c), none, V (.int k), none, none, none, none, none, none, none], by simp, ?_, by simp⟩
      have hk' := List.mem_range.mp hk
      have e1 : dStr (.int (k : Int)) = .ok (.str (toString (k : Int))) := by
        unfold dStr
        simp only []
        rw [Rs.grd_pos]
        by_cases h0 : k = 0
        · subst h0
          decide
        · rw [Nat.log2_lt (by omega)]
          exact Nat.lt_of_lt_of_le (show (k : Int).natAbs < 2 ^ 10 by omega) (Nat.pow_le_pow_right (by omega) (by omega))
      have e2 : dAdd (.str "i") (.str (toString (k : Int))) = .ok (.str (nm k)) := by
        rw [← nm_eq k hk]
        unfold dAdd
        simp only []
        rw [Rs.grd_pos]
        refine sz_of ?_
        have : ∀ k ∈ List.range 9, ("i" : Str).length + (toString (k : Int) : Str).length ≤ 1000000 := by decide +kernel
        exact this k hk
      have e3 : toString (k : Int) = (k : Int).repr := rfl
      rw [e3] at e1 e2
      unfold b__law_written_0
      simp [e1, e2]
    have hz : sz ((List.range 9).map fun k => PyData.str (nm k)).length := sz_of (by simp)
    generalize (List.range 9).map (fun k => PyData.str (nm k)) = nl at *
    simp [i62_of, e, hz]
  rintro ρ1 rfl
  refine WR_sqP W0 ?_ ?_
  · simp only [x_setR]
    simp
    refine WR_roll R hc (by omega) (by omega) fun r c1 h1 a1 b1 => ?_
    simp
    exact ⟨c1, r, h1, a1, by omega, rfl⟩
  rintro ρ1 ⟨c1, part, h1, p0, p1, rfl⟩
  have hp : 0 ≤ part ∧ part ≤ 1000 := ⟨p0, p1⟩
  refine WR_sqP (fun ρ => ∃ x1, ρ = [some (.own c1), x1, none, V (.int part), V (DL.TI ((List.range 9).map (ing part))), none, none, none, none, none]) ?_ ?_
  · have e : ∀ x1 : Option DL.Slot, lcL (mgName 5) mYes b__law_written_1 [5] ((List.range 9).map fun k => .str (nm k)) [some (.own c1), x1, none, V (.int part), none, none, none, none, none, none] = .ok ((List.range 9).map fun k => ingD (ing part k), [some (.own c1), x1, none, V (.int part), none, none, none, none, none, none]) := by
      intro x1
      refine lcL_of (fun k : Nat => .str (nm k)) (fun k => ingD (ing part k)) fun k hk => ⟨[some (.own c1), x1, none, V (.int part), none, V (.str (nm k)), none, none, none, none], by simp, ?_, by simp⟩
      unfold b__law_written_1 ingD ing
      simp [T]
    have hz : sz ((List.range 9).map fun k => ingD (ing part k)).length := sz_of (by simp)
    have hT : DL.TI ((List.range 9).map (ing part)) = .tuple ((List.range 9).map fun k => ingD (ing part k)) := by unfold DL.TI; rw [List.map_map]; rfl
    rw [hT]
    generalize (List.range 9).map (fun k => ingD (ing part k)) = il at *
    generalize (List.range 9).map (fun k => PyData.str (nm k)) = nl at *
    simp [seqD, e, hz, dTup]
  rintro ρ1 ⟨x1, rfl⟩
  obtain ⟨five, hfive⟩ : ∃ five : D, five = .tuple [.tuple [.str "a", .int 1, .tuple [.int part, .int 0, .int 0, .int 0, .int (1000 - part)]]] := ⟨_, rfl⟩
  refine WR_sqP (fun ρ => ρ = [some (.own c1), x1, none, V (.int part), V (DL.TI ((List.range 9).map (ing part))), none, V five, none, none, none]) ?_ ?_
  · rw [hfive]
    generalize DL.TI ((List.range 9).map (ing part)) = ti at *
    simp
  rintro ρ1 rfl
  have t1 := e_are (eight hp)
  have k8 : dCut none (some 8) (DL.TI ((List.range 9).map (ing part))) = .ok (DL.TI ((List.range 8).map (ing part))) := by
    rw [cut_tup, map_cut, show (8 : Int) = ((8 : Nat) : Int) from rfl, cut_take]
    rfl
  have t2 : NB (DL.TI ((List.range 9).map (ing part))) := NBI.k (NB_len (by simp) (by simp [isTup]))
  have t3 : NB five := by
    rw [hfive]
    refine NBI.k (NB_odd (fun d hd => ?_) ⟨_, List.mem_singleton.mpr rfl, by simp [fitsI, fitsP]⟩)
    rw [List.mem_singleton] at hd
    subst hd
    exact shrt3 (by (repeat' (first | assumption | exact an_nil _ | exact nk_int _ _ | exact nk_bool _ _ | exact nk_str _ _ | exact nk_none _ | exact an_ints _ _ | exact an_intsF _ _ _ | apply an_cons | apply an_app | apply nk_tup | apply nk_list))) (fun z e => by cases e; exact lenA)
  have t4 := e_are oka
  have t5 : NB (.tuple [.tuple [.str "a", .int 1, .tuple [.int 999]]]) := by
    refine NBI.k (NB_odd (fun d hd => ?_) ⟨_, List.mem_singleton.mpr rfl, by decide +kernel⟩)
    rw [List.mem_singleton] at hd
    subst hd
    exact shrt3 (by (repeat' (first | assumption | exact an_nil _ | exact nk_int _ _ | exact nk_bool _ _ | exact nk_str _ _ | exact nk_none _ | exact an_ints _ _ | exact an_intsF _ _ _ | apply an_cons | apply an_app | apply nk_tup | apply nk_list))) (fun z e => by cases e; exact lenA)
  have t6 := e_are okb
  have u4 : DL.TI [ia] = .tuple [.tuple [.str "a", .int 1, .tuple [.int 1000]]] := rfl
  have u6 : DL.TI [ib] = .tuple [.tuple [.str "a", .int 1000, .tuple [.int 0, .int 1000]]] := rfl
  rw [u4] at t4
  rw [u6] at t6
  unfold NB at t2 t3 t5
  have q1 := eq_self (k := 1) (d := .list [.bool true, .bool false, .bool false, .bool true, .bool false, .bool true]) (by (repeat' (first | assumption | exact an_nil _ | exact nk_int _ _ | exact nk_bool _ _ | exact nk_str _ _ | exact nk_none _ | exact an_ints _ _ | exact an_intsF _ _ _ | apply an_cons | apply an_app | apply nk_tup | apply nk_list))) (by omega) true
  have q2 := eq_self (k := 1) (d := .list [.bool true, .bool false, .bool true, .bool false, .bool false]) (by (repeat' (first | assumption | exact an_nil _ | exact nk_int _ _ | exact nk_bool _ _ | exact nk_str _ _ | exact nk_none _ | exact an_ints _ _ | exact an_intsF _ _ _ | apply an_cons | apply an_app | apply nk_tup | apply nk_list))) (by omega) false
  generalize DL.TI ((List.range 9).map (ing part)) = ti at *
  generalize DL.TI ((List.range 8).map (ing part)) = t8 at *
  refine WR_sqP (fun ρ => ρ = [some (.own c1), x1, none, V (.int part), V ti, none, V five, some (.own (.list [.bool true, .bool false, .bool false, .bool true, .bool false, .bool true])), none, none]) ?_ ?_
  · simp [k8, seqD, lcL, b__law_written_2, t1, t2, t3, t4, t5, t6]
  rintro ρ1 rfl
  refine WR_sqP (fun ρ => ∃ x7, ρ = [some (.own c1), x1, none, V (.int part), V ti, none, V five, x7, none, none]) ?_ ?_
  · simp [q1]
  rintro ρ1 ⟨x7, rfl⟩
  have u9 : DL.TI is2 = .tuple [.tuple [.str "a", .int 3, .tuple [.int 1000]], .tuple [.str "b", .int 2, .tuple [.int 1000]]] := rfl
  refine WR_sqP (fun ρ => ρ = [some (.own c1), x1, none, V (.int part), V ti, none, V five, x7, none, V (DL.TI is2)]) ?_ ?_
  · rw [u9]
    simp
  rintro ρ1 rfl
  have v := fun (w a b : Int) => p_mix ok2 (.tuple [.int w, .tuple [.int a, .int b]]) (by (repeat' (first | assumption | exact an_nil _ | exact nk_int _ _ | exact nk_bool _ _ | exact nk_str _ _ | exact nk_none _ | exact an_ints _ _ | exact an_intsF _ _ _ | apply an_cons | apply an_app | apply nk_tup | apply nk_list)))
  have v1 := v 1 3 2
  have v2 := v 1 4 0
  have v3 := v 5 15 10
  have v4 := v 5 16 0
  have v5 := v 1 0 0
  rw [show fitsX is2 (.tuple [.int 1, .tuple [.int 3, .int 2]]) = true by decide +kernel] at v1
  rw [show fitsX is2 (.tuple [.int 1, .tuple [.int 4, .int 0]]) = false by decide +kernel] at v2
  rw [show fitsX is2 (.tuple [.int 5, .tuple [.int 15, .int 10]]) = true by decide +kernel] at v3
  rw [show fitsX is2 (.tuple [.int 5, .tuple [.int 16, .int 0]]) = false by decide +kernel] at v4
  rw [show fitsX is2 (.tuple [.int 1, .tuple [.int 0, .int 0]]) = false by decide +kernel] at v5
  generalize DL.TI is2 = t2' at *
  simp [seqD, lcL, b__law_written_3, v1, v2, v3, v4, v5, q2]
def IP (ρ : DE) : Prop := ∃ d c x2, IsCup c ∧ ρ = [some (.val d), some (.own c), x2]
theorem plain (ns : List Int) (hl : ns.length ≤ 63) (hb : ∀ z ∈ ns, PySem.Builtin.Int.intBits z ≤ 1048576) : ∃ ρ1, m_law [some (.val (.list (ns.map .int)))] = .ok (.val (.bool true), ρ1) := by
  have h : WR (m_law [some (.val (LI ns))]) (fun p => p.1 = .val (.bool true)) := by
    unfold m_law mDef b_law
    obtain ⟨c, hc, ec⟩ := p_cup (c0 := 61) (c1 := 293) (c2 := 4091) (c3 := 2077502969) (c4 := 199) (by decide) (by decide) (by decide) ns hl
    simp [ec, i62_of]
    refine WR_for (fun _ => IP) ⟨_, c, _, hc, rfl⟩ ?_ ?_
    · rintro t _ ρ ⟨d, c, x2, hc, rfl⟩
      refine WR.of (a := [some (.val d), some (.own c), some (.val t)]) rfl ?_
      obtain ⟨⟨s, ρ1⟩, e, q1, c', h', q2⟩ := right hc
      simp only at q1 q2
      subst q1 q2
      unfold b_law_0
      simp [e]
      exact ⟨d, c', _, h', rfl⟩
    · rintro ρ' ⟨d, c, x2, hc, rfl⟩
      obtain ⟨⟨s, ρ1⟩, e, q1, c', q2⟩ := written hc
      simp only at q1 q2
      subst q1 q2
      simp [e]
  obtain ⟨⟨s, ρ1⟩, e, q⟩ := h
  cases q
  exact ⟨ρ1, e⟩
end K42
open PySem PySem.W PyProof.Rows
set_option maxHeartbeats 0 in
theorem PySem.Challenge.cw_mintscales_k42_whole_ingots_and_mixtures_holds : PySem.Challenge.rw_mintscales_k42_whole_ingots_and_mixtures.Holds := by
  w_on; o_law; k_head; (case hw => w_witness2)
  k_fill
  refine L2.walk_ofB (l := PySem.Challenge.rw_mintscales_k42_whole_ingots_and_mixtures) (n := 63) (k := 9) (x := "script") (CX := fun _ => L2.CX0) (sp := fun w => DL.spD _ 1 K42.m_law) rfl (by decide) rfl ⟨rfl, by decide, by decide⟩ (fun w h Y => PySem.W.kIn_of Y) ?F (fun _ _ _ ns hl hb _ hS => DL.law_sp hS (K42.plain ns hl hb)) (fun _ _ _ _ _ h => h)
  case F =>
    intro w mg fa h KX G hmg
    refine' K42.all ?gs ?dl ?d__law_cup ?d__law_roll ?d__law_bent_bounds ?d__law_bent_ingots ?d__law_some ?d__law_names ?d__law_parts ?d__law_ingots ?d__law_is_whole ?d__law_is_mixture ?d__law_mixture ?d__law_near ?d__law_same ?d_is_whole ?d_fits_whole ?d_is_tuple_of ?d_fits_bounds ?d_fits_name ?d_fits_parts ?d_fits_ingot ?d_is_rising ?d_fits_ingots ?d_need_ingots ?d_are_bounds ?d_are_ingots ?d_fits_mixture ?d_is_mixture ?d__law_right ?d__law_written
    case gs =>
      refine' ⟨PySem.W.mg_none_of KX G ?b_abs, PySem.W.mg_none_of KX G ?b_all, PySem.W.mg_none_of KX G ?b_bool, PySem.W.mg_none_of KX G ?b_int, PySem.W.mg_none_of KX G ?b_isinstance, PySem.W.mg_none_of KX G ?b_len, PySem.W.mg_none_of KX G ?b_list, PySem.W.mg_none_of KX G ?b_max, PySem.W.mg_none_of KX G ?b_range, PySem.W.mg_none_of KX G ?b_set, PySem.W.mg_none_of KX G ?b_sorted, PySem.W.mg_none_of KX G ?b_str, PySem.W.mg_none_of KX G ?b_sum, PySem.W.mg_none_of KX G ?b_tuple, PySem.W.mg_none_of KX G ?b_zip, DL.glb_int KX G ?g_INGOTS, DL.glb_str KX G ?g_LETTERS, DL.glb_int KX G ?g_LONGEST, DL.glb_int KX G ?g_METALS, DL.glb_str KX G ?g_SIGNS, DL.glb_int KX G ?g_THOUSAND⟩
      (case b_abs => k_is); (case b_all => k_is); (case b_bool => k_is); (case b_int => k_is); (case b_isinstance => k_is); (case b_len => k_is); (case b_list => k_is); (case b_max => k_is); (case b_range => k_is); (case b_set => k_is); (case b_sorted => k_is); (case b_str => k_is); (case b_sum => k_is); (case b_tuple => k_is); (case b_zip => k_is); (case g_INGOTS => k_is); (case g_LETTERS => k_is); (case g_LONGEST => k_is); (case g_METALS => k_is); (case g_SIGNS => k_is); (case g_THOUSAND => k_is)
    case dl =>
      refine' DL.defL_mk KX G hmg ?a ?l ?c ?k (fun _ _ _ _ _ _ _ => rfl)
      (case a => k_is); (case l => k_is); (case c => k_is); (case k => k_is)
    case d__law_cup =>
      refine' DL.defF_mk KX G ?a ?l ?c ?k (fun _ _ _ _ _ _ us hl => match us, hl with | [_], _ => rfl)
      (case a => k_is); (case l => k_is); (case c => k_is); (case k => k_is)
    case d__law_roll =>
      refine' DL.defF_mk KX G ?a ?l ?c ?k (fun _ _ _ _ _ _ us hl => match us, hl with | [_, _], _ => rfl)
      (case a => k_is); (case l => k_is); (case c => k_is); (case k => k_is)
    case d__law_bent_bounds =>
      refine' DL.defF_mk KX G ?a ?l ?c ?k (fun _ _ _ _ _ _ us hl => match us, hl with | [_, _], _ => rfl)
      (case a => k_is); (case l => k_is); (case c => k_is); (case k => k_is)
    case d__law_bent_ingots =>
      refine' DL.defF_mk KX G ?a ?l ?c ?k (fun _ _ _ _ _ _ us hl => match us, hl with | [_, _], _ => rfl)
      (case a => k_is); (case l => k_is); (case c => k_is); (case k => k_is)
    case d__law_some =>
      refine' DL.defF_mk KX G ?a ?l ?c ?k (fun _ _ _ _ _ _ us hl => match us, hl with | [_, _], _ => rfl)
      (case a => k_is); (case l => k_is); (case c => k_is); (case k => k_is)
    case d__law_names =>
      refine' DL.defF_mk KX G ?a ?l ?c ?k (fun _ _ _ _ _ _ us hl => match us, hl with | [_, _], _ => rfl)
      (case a => k_is); (case l => k_is); (case c => k_is); (case k => k_is)
    case d__law_parts =>
      refine' DL.defF_mk KX G ?a ?l ?c ?k (fun _ _ _ _ _ _ us hl => match us, hl with | [_, _], _ => rfl)
      (case a => k_is); (case l => k_is); (case c => k_is); (case k => k_is)
    case d__law_ingots =>
      refine' DL.defF_mk KX G ?a ?l ?c ?k (fun _ _ _ _ _ _ us hl => match us, hl with | [_, _], _ => rfl)
      (case a => k_is); (case l => k_is); (case c => k_is); (case k => k_is)
    case d__law_is_whole =>
      refine' DL.defF_mk KX G ?a ?l ?c ?k (fun _ _ _ _ _ _ us hl => match us, hl with | [_], _ => rfl)
      (case a => k_is); (case l => k_is); (case c => k_is); (case k => k_is)
    case d__law_is_mixture =>
      refine' DL.defF_mk KX G ?a ?l ?c ?k (fun _ _ _ _ _ _ us hl => match us, hl with | [_, _], _ => rfl)
      (case a => k_is); (case l => k_is); (case c => k_is); (case k => k_is)
    case d__law_mixture =>
      refine' DL.defF_mk KX G ?a ?l ?c ?k (fun _ _ _ _ _ _ us hl => match us, hl with | [_, _], _ => rfl)
      (case a => k_is); (case l => k_is); (case c => k_is); (case k => k_is)
    case d__law_near =>
      refine' DL.defF_mk KX G ?a ?l ?c ?k (fun _ _ _ _ _ _ us hl => match us, hl with | [_, _, _], _ => rfl)
      (case a => k_is); (case l => k_is); (case c => k_is); (case k => k_is)
    case d__law_same =>
      refine' DL.defF_mk KX G ?a ?l ?c ?k (fun _ _ _ _ _ _ us hl => match us, hl with | [_, _], _ => rfl)
      (case a => k_is); (case l => k_is); (case c => k_is); (case k => k_is)
    case d_is_whole =>
      refine' DL.defF_mk KX G ?a ?l ?c ?k (fun _ _ _ _ _ _ us hl => match us, hl with | [_], _ => rfl)
      (case a => k_is); (case l => k_is); (case c => k_is); (case k => k_is)
    case d_fits_whole =>
      refine' DL.defF_mk KX G ?a ?l ?c ?k (fun _ _ _ _ _ _ us hl => match us, hl with | [_, _, _], _ => rfl)
      (case a => k_is); (case l => k_is); (case c => k_is); (case k => k_is)
    case d_is_tuple_of =>
      refine' DL.defF_mk KX G ?a ?l ?c ?k (fun _ _ _ _ _ _ us hl => match us, hl with | [_, _, _], _ => rfl)
      (case a => k_is); (case l => k_is); (case c => k_is); (case k => k_is)
    case d_fits_bounds =>
      refine' DL.defF_mk KX G ?a ?l ?c ?k (fun _ _ _ _ _ _ us hl => match us, hl with | [_, _], _ => rfl)
      (case a => k_is); (case l => k_is); (case c => k_is); (case k => k_is)
    case d_fits_name =>
      refine' DL.defF_mk KX G ?a ?l ?c ?k (fun _ _ _ _ _ _ us hl => match us, hl with | [_], _ => rfl)
      (case a => k_is); (case l => k_is); (case c => k_is); (case k => k_is)
    case d_fits_parts =>
      refine' DL.defF_mk KX G ?a ?l ?c ?k (fun _ _ _ _ _ _ us hl => match us, hl with | [_], _ => rfl)
      (case a => k_is); (case l => k_is); (case c => k_is); (case k => k_is)
    case d_fits_ingot =>
      refine' DL.defF_mk KX G ?a ?l ?c ?k (fun _ _ _ _ _ _ us hl => match us, hl with | [_], _ => rfl)
      (case a => k_is); (case l => k_is); (case c => k_is); (case k => k_is)
    case d_is_rising =>
      refine' DL.defF_mk KX G ?a ?l ?c ?k (fun _ _ _ _ _ _ us hl => match us, hl with | [_], _ => rfl)
      (case a => k_is); (case l => k_is); (case c => k_is); (case k => k_is)
    case d_fits_ingots =>
      refine' DL.defF_mk KX G ?a ?l ?c ?k (fun _ _ _ _ _ _ us hl => match us, hl with | [_], _ => rfl)
      (case a => k_is); (case l => k_is); (case c => k_is); (case k => k_is)
    case d_need_ingots =>
      refine' DL.defF_mk KX G ?a ?l ?c ?k (fun _ _ _ _ _ _ us hl => match us, hl with | [_], _ => rfl)
      (case a => k_is); (case l => k_is); (case c => k_is); (case k => k_is)
    case d_are_bounds =>
      refine' DL.defF_mk KX G ?a ?l ?c ?k (fun _ _ _ _ _ _ us hl => match us, hl with | [_, _], _ => rfl)
      (case a => k_is); (case l => k_is); (case c => k_is); (case k => k_is)
    case d_are_ingots =>
      refine' DL.defF_mk KX G ?a ?l ?c ?k (fun _ _ _ _ _ _ us hl => match us, hl with | [_], _ => rfl)
      (case a => k_is); (case l => k_is); (case c => k_is); (case k => k_is)
    case d_fits_mixture =>
      refine' DL.defF_mk KX G ?a ?l ?c ?k (fun _ _ _ _ _ _ us hl => match us, hl with | [_, _], _ => rfl)
      (case a => k_is); (case l => k_is); (case c => k_is); (case k => k_is)
    case d_is_mixture =>
      refine' DL.defF_mk KX G ?a ?l ?c ?k (fun _ _ _ _ _ _ us hl => match us, hl with | [_, _], _ => rfl)
      (case a => k_is); (case l => k_is); (case c => k_is); (case k => k_is)
    case d__law_right =>
      refine' DL.defF_mk KX G ?a ?l ?c ?k (fun _ _ _ _ _ _ us hl => match us, hl with | [_], _ => rfl)
      (case a => k_is); (case l => k_is); (case c => k_is); (case k => k_is)
    case d__law_written =>
      refine' DL.defF_mk KX G ?a ?l ?c ?k (fun _ _ _ _ _ _ us hl => match us, hl with | [_], _ => rfl)
      (case a => k_is); (case l => k_is); (case c => k_is); (case k => k_is)
