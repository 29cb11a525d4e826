import PyProof.Rows.All
import Wide.All
import OpenK.AllK
import Wide.FinOn
import HandS.ForMost
import HandS.Walk
import HandS.Wide
import HandS.IsInst
import HandS.TupAny
import HandS.TupLen
import HandS.More
import HandS.DictComp
import KE.KDictCopyH
import KE.DatumOrd
import KE.DatumIndex
import KE.DatumMore
import KE.DatumMoreOrd
import PySem.Challenge.RW_togetherapart_k24_tables_without_a_ring
set_option Elab.async false
set_option linter.all false
set_option autoImplicit false
set_option maxRecDepth 100000
set_option maxHeartbeats 4000000
/-! Lay1: data values, what they stand for, the abstract machine state. -/
namespace Ly
open PySem L2

/-- data, deep -/
inductive D where
  | non | bl (b : Bool) | int (i : Int) | str (x : Str) | lst (xs : List D) | tup (xs : List D)
  | dct (kvs : List (Key × D)) | dctT (kvs : List (List Key × D)) | adr (a : Addr) | ty (n : String)

def scal : D → Bool
  | .non | .bl _ | .int _ | .str _ | .ty _ => true
  | _ => false

mutual
inductive Rp (K : PySem.W.Frag) (F : Hp) : V → D → Prop
  | non : Rp K F .non .non
  | bl (b : Bool) : Rp K F (.bl b) (.bl b)
  | int (i : Int) : Rp K F (.int i) (.int i)
  | str (x : Str) : Rp K F (.str x) (.str x)
  | ty (n : String) : Rp K F (.ty n) (.ty n)
  | lst {a : Addr} {xs : List V} {ds : List D} : SqL K F a xs → RpL K F xs ds → Rp K F (.ref a) (.lst ds)
  | tup {a : Addr} {xs : List V} {ds : List D} : F a = some (.tup xs) → RpL K F xs ds → Rp K F (.ref a) (.tup ds)
  | dct {a : Addr} {kvs : List (Key × V)} {ds : List (Key × D)} : Rd F a (.dK kvs) → RpK K F kvs ds → Rp K F (.ref a) (.dct ds)
  | dctT {a : Addr} {kvs : List (List Key × V)} {ds : List (List Key × D)} : Rd F a (.dT kvs) → RpT K F kvs ds → Rp K F (.ref a) (.dctT ds)
  | adr (a : Addr) : Rp K F (.ref a) (.adr a)
inductive RpL (K : PySem.W.Frag) (F : Hp) : List V → List D → Prop
  | nil : RpL K F [] []
  | cons {v : V} {vs : List V} {d : D} {ds : List D} : Rp K F v d → RpL K F vs ds → RpL K F (v :: vs) (d :: ds)
inductive RpK (K : PySem.W.Frag) (F : Hp) : List (Key × V) → List (Key × D) → Prop
  | nil : RpK K F [] []
  | cons {k : Key} {v : V} {vs : List (Key × V)} {d : D} {ds : List (Key × D)} : Rp K F v d → RpK K F vs ds → RpK K F ((k, v) :: vs) ((k, d) :: ds)
inductive RpT (K : PySem.W.Frag) (F : Hp) : List (List Key × V) → List (List Key × D) → Prop
  | nil : RpT K F [] []
  | cons {k : List Key} {v : V} {vs : List (List Key × V)} {d : D} {ds : List (List Key × D)} : Rp K F v d → RpT K F vs ds → RpT K F ((k, v) :: vs) ((k, d) :: ds)
end

/-- all of the one stands in the other -/
def Ex (F G : Hp) : Prop := ∀ a o, F a = some o → G a = some o
theorem Ex.refl (F : Hp) : Ex F F := fun _ _ h => h
theorem Ex.trans {F G I : Hp} (a : Ex F G) (b : Ex G I) : Ex F I := fun x o h => b x o (a x o h)
theorem Ex.new {F : Hp} {p : Addr} {o : HO} (h : F p = none) : Ex F (upd F p o) := fun a u e => by
  rw [upd_ne (ne_of_none e h)]; exact e
theorem Ex.rd {F G : Hp} {a : Addr} {u : HO} (e : Ex F G) (h : Rd F a u) : Rd G a u := by
  rcases h with h | ⟨o, h⟩
  · exact .inl (e _ _ h)
  · exact .inr ⟨o, e _ _ h⟩
theorem Ex.sqL {K : PySem.W.Frag} {F G : Hp} {a : Addr} {xs : List V} (e : Ex F G) (h : SqL K F a xs) : SqL K G a xs := by
  rcases h with h | h
  · exact .inl (e.rd h)
  · exact .inr h
theorem Ex.sqT {K : PySem.W.Frag} {F G : Hp} {a : Addr} {xs : List V} (e : Ex F G) (h : SqT K F a xs) : SqT K G a xs := by
  rcases h with h | h
  · exact .inl (e.rd h)
  · exact .inr h

/-- what is read of the one is read of the other, locked or not -/
def nf : HO → Bool
  | .frz _ _ => false
  | _ => true
def Lk (F G : Hp) : Prop := (∀ a u, nf u = true → Rd F a u → Rd G a u) ∧ ∀ a xs, F a = some (.tup xs) → G a = some (.tup xs)
theorem Ex.lk {F G : Hp} (e : Ex F G) : Lk F G := ⟨fun a u _ h => e.rd h, fun a xs h => e _ _ h⟩

mutual
theorem Rp.lk {K : PySem.W.Frag} {F G : Hp} (e : Lk F G) : ∀ {d : D} {v : V}, Rp K F v d → Rp K G v d
  | .non, _, .non => .non
  | .bl _, _, .bl b => .bl b
  | .int _, _, .int i => .int i
  | .str _, _, .str x => .str x
  | .ty _, _, .ty n => .ty n
  | .lst ds, _, .lst h r => .lst (by
      rcases h with h | h
      · exact .inl (e.1 _ _ rfl h)
      · exact .inr h) (RpL.lk e r)
  | .tup ds, _, .tup h r => .tup (e.2 _ _ h) (RpL.lk e r)
  | .dct ds, _, .dct h r => .dct (e.1 _ _ rfl h) (RpK.lk e r)
  | .dctT ds, _, .dctT h r => .dctT (e.1 _ _ rfl h) (RpT.lk e r)
  | .adr _, _, .adr a => .adr a
theorem RpL.lk {K : PySem.W.Frag} {F G : Hp} (e : Lk F G) : ∀ {ds : List D} {vs : List V}, RpL K F vs ds → RpL K G vs ds
  | [], _, .nil => .nil
  | _ :: _, _, .cons h r => .cons (Rp.lk e h) (RpL.lk e r)
theorem RpK.lk {K : PySem.W.Frag} {F G : Hp} (e : Lk F G) : ∀ {ds : List (Key × D)} {vs : List (Key × V)}, RpK K F vs ds → RpK K G vs ds
  | [], _, .nil => .nil
  | _ :: _, _, .cons h r => .cons (Rp.lk e h) (RpK.lk e r)
theorem RpT.lk {K : PySem.W.Frag} {F G : Hp} (e : Lk F G) : ∀ {ds : List (List Key × D)} {vs : List (List Key × V)}, RpT K F vs ds → RpT K G vs ds
  | [], _, .nil => .nil
  | _ :: _, _, .cons h r => .cons (Rp.lk e h) (RpT.lk e r)
end
section
variable {K : PySem.W.Frag} {F G : Hp}
theorem Rp.up (e : Ex F G) {d : D} {v : V} (h : Rp K F v d) : Rp K G v d := Rp.lk e.lk h
theorem RpL.up (e : Ex F G) {ds : List D} {vs : List V} (h : RpL K F vs ds) : RpL K G vs ds := RpL.lk e.lk h
theorem RpK.up (e : Ex F G) {ds : List (Key × D)} {vs : List (Key × V)} (h : RpK K F vs ds) : RpK K G vs ds := RpK.lk e.lk h
theorem RpT.up (e : Ex F G) {ds : List (List Key × D)} {vs : List (List Key × V)} (h : RpT K F vs ds) : RpT K G vs ds := RpT.lk e.lk h
theorem RpL.length : ∀ {ds : List D} {vs : List V}, RpL K F vs ds → vs.length = ds.length
  | [], _, .nil => rfl
  | _ :: _, _, .cons _ r => congrArg (· + 1) r.length
theorem RpK.length : ∀ {ds : List (Key × D)} {vs : List (Key × V)}, RpK K F vs ds → vs.length = ds.length
  | [], _, .nil => rfl
  | _ :: _, _, .cons _ r => congrArg (· + 1) r.length
theorem RpT.length : ∀ {ds : List (List Key × D)} {vs : List (List Key × V)}, RpT K F vs ds → vs.length = ds.length
  | [], _, .nil => rfl
  | _ :: _, _, .cons _ r => congrArg (· + 1) r.length
theorem RpL.get : ∀ {ds : List D} {vs : List V} {i : Nat} {d : D}, RpL K F vs ds → ds[i]? = some d → ∃ v, vs[i]? = some v ∧ Rp K F v d
  | [], _, _, _, .nil, h => by simp at h
  | _ :: _, _, 0, _, .cons h _, e => by
    simp at e; subst e; exact ⟨_, rfl, h⟩
  | _ :: _, _, i + 1, _, .cons _ r, e => by
    obtain ⟨v, h1, h2⟩ := RpL.get r (i := i) (by simpa using e)
    exact ⟨v, by simpa using h1, h2⟩
theorem RpL.getV : ∀ {ds : List D} {vs : List V} {i : Nat} {v : V}, RpL K F vs ds → vs[i]? = some v → ∃ d, ds[i]? = some d ∧ Rp K F v d
  | [], _, _, _, .nil, h => by simp at h
  | _ :: _, _, 0, _, .cons h _, e => by
    simp at e; subst e; exact ⟨_, rfl, h⟩
  | _ :: _, _, i + 1, _, .cons _ r, e => by
    obtain ⟨v, h1, h2⟩ := RpL.getV r (i := i) (by simpa using e)
    exact ⟨v, by simpa using h1, h2⟩
theorem RpL.app : ∀ {ds es : List D} {vs ws : List V}, RpL K F vs ds → RpL K F ws es → RpL K F (vs ++ ws) (ds ++ es)
  | [], _, _, _, .nil, s => s
  | _ :: _, _, _, _, .cons h r, s => .cons h (RpL.app r s)
theorem RpL.set {d : D} {v : V} (h : Rp K F v d) : ∀ {ds : List D} {vs : List V} (i : Nat), RpL K F vs ds → RpL K F (vs.set i v) (ds.set i d)
  | [], _, _, .nil => .nil
  | _ :: _, _, 0, .cons _ r => .cons h r
  | _ :: _, _, i + 1, .cons q r => .cons q (RpL.set h i r)
theorem RpL.take : ∀ {ds : List D} {vs : List V} (n : Nat), RpL K F vs ds → RpL K F (vs.take n) (ds.take n)
  | _, _, 0, _ => .nil
  | [], _, _ + 1, .nil => .nil
  | _ :: _, _, n + 1, .cons h r => .cons h (RpL.take n r)
theorem RpL.drop : ∀ {ds : List D} {vs : List V} (n : Nat), RpL K F vs ds → RpL K F (vs.drop n) (ds.drop n)
  | _, _, 0, r => r
  | [], _, _ + 1, .nil => .nil
  | _ :: _, _, n + 1, .cons _ r => RpL.drop n r
theorem RpL.eraseIdx : ∀ {ds : List D} {vs : List V} (n : Nat), RpL K F vs ds → RpL K F (vs.eraseIdx n) (ds.eraseIdx n)
  | [], _, _, .nil => .nil
  | _ :: _, _, 0, .cons _ r => r
  | _ :: _, _, n + 1, .cons h r => .cons h (RpL.eraseIdx n r)
theorem RpL.dropLast : ∀ {ds : List D} {vs : List V}, RpL K F vs ds → RpL K F vs.dropLast ds.dropLast
  | [], _, .nil => .nil
  | [_], _, .cons _ .nil => .nil
  | _ :: _ :: _, _, .cons h (.cons q r) => .cons h (RpL.dropLast (.cons q r))
theorem RpL.rev : ∀ {ds : List D} {vs : List V}, RpL K F vs ds → RpL K F vs.reverse ds.reverse
  | [], _, .nil => .nil
  | _ :: _, _, .cons h r => by
    rw [List.reverse_cons, List.reverse_cons]
    exact (RpL.rev r).app (.cons h .nil)
theorem RpL.rep {d : D} {v : V} (h : Rp K F v d) : ∀ n, RpL K F (List.replicate n v) (List.replicate n d)
  | 0 => .nil
  | n + 1 => .cons h (RpL.rep h n)
theorem rpl_ints : ∀ (ns : List Int), RpL K F (ns.map V.int) (ns.map D.int)
  | [] => .nil
  | n :: ns => .cons (.int n) (rpl_ints ns)
theorem of_rpl_ints : ∀ {ns : List Int} {vs : List V}, RpL K F vs (ns.map D.int) → vs = ns.map V.int
  | [], _, .nil => rfl
  | n :: ns, _, .cons h r => by
    cases h
    exact congrArg (_ :: ·) (of_rpl_ints r)
theorem of_rpl_bls : ∀ {ns : List Bool} {vs : List V}, RpL K F vs (ns.map D.bl) → vs = ns.map V.bl
  | [], _, .nil => rfl
  | n :: ns, _, .cons h r => by
    cases h
    exact congrArg (_ :: ·) (of_rpl_bls r)
theorem of_rpl_strs : ∀ {ns : List Str} {vs : List V}, RpL K F vs (ns.map D.str) → vs = ns.map V.str
  | [], _, .nil => rfl
  | n :: ns, _, .cons h r => by
    cases h
    exact congrArg (_ :: ·) (of_rpl_strs r)
theorem RpK.val : ∀ {ds : List (Key × D)} {vs : List (Key × V)} (k : Key), RpK K F vs ds →
    (∃ v d, valV vs k = some v ∧ (ds.find? fun kv => decide (kv.1 = k)).map (·.2) = some d ∧ Rp K F v d) ∨ (valV vs k = none ∧ (ds.find? fun kv => decide (kv.1 = k)).map (·.2) = none)
  | [], _, k, .nil => .inr ⟨rfl, rfl⟩
  | (k', d) :: ds, _, k, @RpK.cons _ _ _ v vs _ _ h r => by
    unfold valV
    by_cases e : k' = k
    · refine .inl ⟨v, d, ?_, ?_, h⟩ <;> simp [List.find?_cons, e]
    · have ih := RpK.val k r
      unfold valV at ih
      simpa [List.find?_cons, e] using ih
theorem RpT.val : ∀ {ds : List (List Key × D)} {vs : List (List Key × V)} (k : List Key), RpT K F vs ds →
    (∃ v d, valV vs k = some v ∧ (ds.find? fun kv => decide (kv.1 = k)).map (·.2) = some d ∧ Rp K F v d) ∨ (valV vs k = none ∧ (ds.find? fun kv => decide (kv.1 = k)).map (·.2) = none)
  | [], _, k, .nil => .inr ⟨rfl, rfl⟩
  | (k', d) :: ds, _, k, @RpT.cons _ _ _ v vs _ _ h r => by
    unfold valV
    by_cases e : k' = k
    · refine .inl ⟨v, d, ?_, ?_, h⟩ <;> simp [List.find?_cons, e]
    · have ih := RpT.val k r
      unfold valV at ih
      simpa [List.find?_cons, e] using ih
/-- a scalar is the same wherever -/
theorem Rp.scal {d : D} {v : V} (h : Rp K F v d) (s : scal d = true) : Rp K G v d := by
  cases h with
  | non => exact .non
  | bl b => exact .bl b
  | int i => exact .int i
  | str x => exact .str x
  | ty n => exact .ty n
  | lst _ _ => cases s
  | tup _ _ => cases s
  | dct _ _ => cases s
  | dctT _ _ => cases s
  | adr _ => cases s
end

/-- what an object of one's own holds -/
inductive ObjR (K : PySem.W.Frag) (F : Hp) : HO → D → Prop
  | lst {xs : List V} {ds : List D} : RpL K F xs ds → ObjR K F (.lst xs) (.lst ds)
  | dct {kvs : List (Key × V)} {ds : List (Key × D)} : RpK K F kvs ds → ObjR K F (.dK kvs) (.dct ds)
  | dctT {kvs : List (List Key × V)} {ds : List (List Key × D)} : RpT K F kvs ds → ObjR K F (.dT kvs) (.dctT ds)
theorem ObjR.up {K : PySem.W.Frag} {F G : Hp} (e : Ex F G) {o : HO} {d : D} : ObjR K F o d → ObjR K G o d
  | .lst r => .lst (r.up e)
  | .dct r => .dct (r.up e)
  | .dctT r => .dctT (r.up e)
theorem ObjR.lk {K : PySem.W.Frag} {F G : Hp} (e : Lk F G) {o : HO} {d : D} : ObjR K F o d → ObjR K G o d
  | .lst r => .lst (r.lk e)
  | .dct r => .dct (r.lk e)
  | .dctT r => .dctT (r.lk e)
theorem ObjR.rp {K : PySem.W.Frag} {F : Hp} {o : HO} {d : D} {p : Addr} (h : ObjR K F o d) (e : F p = some o) : Rp K F (.ref p) d := by
  cases h with
  | lst r => exact .lst (.inl (.inl e)) r
  | dct r => exact .dct (.inl e) r
  | dctT r => exact .dctT (.inl e) r

inductive Sl where
  | un | fz (d : D) | at (i : Nat)
inductive Ow where
  | gone | has (d : D)

/-- the heap: F stands still, R is the callers', the rest one's own -/
structure Hst (K : PySem.W.Frag) (F R : Hp) (ps : List Addr) (os : List Ow) (H : Hp) : Prop where
  sub : Ex F H
  oth : ∀ p o, R p = some o → F p = none ∧ H p = some o ∧ ∀ xs, o ≠ .tup xs
  len : ps.length = os.length
  own : ∀ (i : Nat) (p : Addr) (d : D), ps[i]? = some p → os[i]? = some (Ow.has d) → F p = none ∧ R p = none ∧ ∃ o, H p = some o ∧ ObjR K F o d
  dis : ∀ (i j : Nat) (p : Addr), ps[i]? = some p → ps[j]? = some p → (∃ d, os[i]? = some (Ow.has d)) → (∃ d, os[j]? = some (Ow.has d)) → i = j

def SlR (K : PySem.W.Frag) (F : Hp) (ps : List Addr) : Option V → Sl → Prop
  | _, .un => True
  | some v, .fz d => Rp K F v d
  | some v, .at i => ∃ p, ps[i]? = some p ∧ v = .ref p
  | none, _ => False
abbrev Slots (K : PySem.W.Frag) (F : Hp) (ps : List Addr) : L2.St → List Sl → Prop := Paired (SlR K F ps)

structure St (K : PySem.W.Frag) (R F : Hp) (ps : List Addr) (ρ : List Sl) (os : List Ow) (σ : L2.St) (H : Hp) : Prop where
  sl : Slots K F ps σ ρ
  hst : Hst K F R ps os H

theorem SlR.up {K : PySem.W.Frag} {F G : Hp} {ps qs : List Addr} (e : Ex F G) (q : ps <+: qs) : ∀ {ov : Option V} {s : Sl}, SlR K F ps ov s → SlR K G qs ov s
  | _, .un, _ => True.intro
  | some _, .fz _, h => Rp.up e h
  | some _, .at i, ⟨p, h1, h2⟩ => ⟨p, by
      obtain ⟨t, rfl⟩ := q
      rw [List.getElem?_append_left (List.getElem?_eq_some_iff.mp h1).1]; exact h1, h2⟩
  | none, .fz _, h => h
  | none, .at _, h => h
theorem Slots.up {K : PySem.W.Frag} {F G : Hp} {ps qs : List Addr} (e : Ex F G) (q : ps <+: qs) {σ : L2.St} {ρ : List Sl} (h : Slots K F ps σ ρ) : Slots K G qs σ ρ :=
  Paired.mapP h fun _ _ r => SlR.up e q r
theorem Paired.getR {α β : Type} {F : α → β → Prop} : ∀ {l : List α} {m : List β} {i : Nat} {b : β}, Paired F l m → m[i]? = some b → ∃ a, l[i]? = some a ∧ F a b
  | _, _, _, _, .nil, h => by simp at h
  | _, _, 0, _, .cons r _, h => by simp at h; subst h; exact ⟨_, rfl, r⟩
  | _, _, i + 1, _, .cons _ t, h => by
    obtain ⟨a, h1, h2⟩ := Paired.getR t (i := i) (by simpa using h)
    exact ⟨a, by simpa using h1, h2⟩
theorem Paired.setR {α β : Type} {F : α → β → Prop} {a : α} {b : β} (h : F a b) : ∀ {l : List α} {m : List β} (i : Nat), Paired F l m → Paired F (l.set i a) (m.set i b)
  | _, _, _, .nil => .nil
  | _, _, 0, .cons _ t => .cons h t
  | _, _, i + 1, .cons r t => .cons r (Paired.setR h i t)
section
variable {K : PySem.W.Frag} {R F G H : Hp} {ps : List Addr} {ρ : List Sl} {os : List Ow} {σ : L2.St} {p : Addr} {o : HO} {d : D} {v : V}
theorem St.fz (h : St K R F ps ρ os σ H) {i : Nat} (e : ρ[i]? = some (.fz d)) : ∃ v, σ[i]? = some (some v) ∧ Rp K F v d := by
  obtain ⟨a, h1, h2⟩ := Paired.getR h.sl e
  cases a with
  | none => exact h2.elim
  | some v => exact ⟨v, h1, h2⟩
theorem St.at (h : St K R F ps ρ os σ H) {i j : Nat} (e : ρ[i]? = some (.at j)) : ∃ p, σ[i]? = some (some (.ref p)) ∧ ps[j]? = some p := by
  obtain ⟨a, h1, h2⟩ := Paired.getR h.sl e
  cases a with
  | none => exact h2.elim
  | some v =>
    obtain ⟨p, h3, rfl⟩ := h2
    exact ⟨p, h1, h3⟩
/-- a new object that stands still -/
theorem Hst.newF (h : Hst K F R ps os H) (hp : H p = none) : Ex F (upd F p o) ∧ Hst K (upd F p o) R ps os (upd H p o) := by
  have hF : F p = none := by
    cases q : F p with
    | none => rfl
    | some u => rw [h.sub _ _ q] at hp; cases hp
  have e : Ex F (upd F p o) := Ex.new hF
  refine ⟨e, ⟨fun a u q => ?_, fun a u q => ?_, h.len, fun i a d h1 h2 => ?_, h.dis⟩⟩
  · by_cases z : a = p
    · subst z; rw [upd_same] at q ⊢; exact q
    · rw [upd_ne z] at q ⊢; exact h.sub _ _ q
  · obtain ⟨q1, q2, q3⟩ := h.oth a u q
    have z : a ≠ p := ne_of_none q2 hp
    rw [upd_ne z, upd_ne z]; exact ⟨q1, q2, q3⟩
  · obtain ⟨q1, q2, w, q3, q4⟩ := h.own i a d h1 h2
    have z : a ≠ p := ne_of_none q3 hp
    rw [upd_ne z, upd_ne z]; exact ⟨q1, q2, w, q3, q4.up e⟩
theorem St.newF (h : St K R F ps ρ os σ H) (hp : H p = none) : Ex F (upd F p o) ∧ St K R (upd F p o) ps ρ os σ (upd H p o) := by
  obtain ⟨e, q⟩ := h.hst.newF hp (o := o)
  exact ⟨e, ⟨h.sl.up e (List.prefix_refl _), q⟩⟩
/-- a new object of one's own -/
theorem Hst.newO (h : Hst K F R ps os H) (hp : H p = none) (hr : ObjR K F o d) : Hst K F R (ps ++ [p]) (os ++ [Ow.has d]) (upd H p o) := by
  have hF : F p = none := by
    cases q : F p with
    | none => rfl
    | some u => rw [h.sub _ _ q] at hp; cases hp
  have hR : R p = none := by
    cases q : R p with
    | none => rfl
    | some u => rw [(h.oth _ _ q).2.1] at hp; cases hp
  have key : ∀ i a, (ps ++ [p])[i]? = some a → (∃ d, (os ++ [Ow.has d])[i]? = some (Ow.has d)) → (i < ps.length ∧ ps[i]? = some a) ∨ (i = ps.length ∧ a = p) := fun i a h1 _ => by
    by_cases z : i < ps.length
    · rw [List.getElem?_append_left z] at h1; exact .inl ⟨z, h1⟩
    · rw [List.getElem?_append_right (by omega)] at h1
      have : i - ps.length = 0 := by
        have := (List.getElem?_eq_some_iff.mp h1).1
        simp at this; omega
      rw [this] at h1; simp at h1
      exact .inr ⟨by omega, h1.symm⟩
  refine ⟨fun a u q => ?_, fun a u q => ?_, by simp [h.len], fun i a e h1 h2 => ?_, fun i j a h1 h2 ⟨d1, h3⟩ ⟨d2, h4⟩ => ?_⟩
  · have z : a ≠ p := ne_of_none q hF
    rw [upd_ne z]; exact h.sub _ _ q
  · obtain ⟨q1, q2, q3⟩ := h.oth a u q
    have z : a ≠ p := ne_of_none q2 hp
    rw [upd_ne z]; exact ⟨q1, q2, q3⟩
  · by_cases z : i < ps.length
    · rw [List.getElem?_append_left z] at h1
      rw [List.getElem?_append_left (by rw [← h.len]; exact z)] at h2
      obtain ⟨q1, q2, w, q3, q4⟩ := h.own i a e h1 h2
      have z : a ≠ p := ne_of_none q3 hp
      rw [upd_ne z]; exact ⟨q1, q2, w, q3, q4⟩
    · have z2 : i = ps.length := by
        have := (List.getElem?_eq_some_iff.mp h1).1
        simp at this; omega
      subst z2
      rw [List.getElem?_append_right (Nat.le_refl _)] at h1
      rw [h.len, List.getElem?_append_right (Nat.le_refl _)] at h2
      simp at h1 h2
      subst h1; subst h2
      exact ⟨hF, hR, o, upd_same, hr⟩
  · have old : ∀ i, i < ps.length → ps[i]? = some a → (∃ d', (os ++ [Ow.has d])[i]? = some (Ow.has d')) → a ≠ p ∧ ∃ d', os[i]? = some (Ow.has d') := fun i z q ⟨d', w⟩ => by
      rw [List.getElem?_append_left (by rw [← h.len]; exact z)] at w
      obtain ⟨_, _, _, q3, _⟩ := h.own i a d' q w
      exact ⟨ne_of_none q3 hp, d', w⟩
    by_cases zi : i < ps.length <;> by_cases zj : j < ps.length
    · rw [List.getElem?_append_left zi] at h1
      rw [List.getElem?_append_left zj] at h2
      exact h.dis i j a h1 h2 (old i zi h1 ⟨d1, h3⟩).2 (old j zj h2 ⟨d2, h4⟩).2
    · rw [List.getElem?_append_left zi] at h1
      have z2 : j = ps.length := by
        have := (List.getElem?_eq_some_iff.mp h2).1
        simp at this; omega
      subst z2
      rw [List.getElem?_append_right (Nat.le_refl _)] at h2
      simp at h2
      exact absurd h2.symm (old i zi h1 ⟨d1, h3⟩).1
    · rw [List.getElem?_append_left zj] at h2
      have z2 : i = ps.length := by
        have := (List.getElem?_eq_some_iff.mp h1).1
        simp at this; omega
      subst z2
      rw [List.getElem?_append_right (Nat.le_refl _)] at h1
      simp at h1
      exact absurd h1.symm (old j zj h2 ⟨d2, h4⟩).1
    · have z1 : i = ps.length := by
        have := (List.getElem?_eq_some_iff.mp h1).1
        simp at this; omega
      have z2 : j = ps.length := by
        have := (List.getElem?_eq_some_iff.mp h2).1
        simp at this; omega
      rw [z1, z2]
theorem St.newO (h : St K R F ps ρ os σ H) (hp : H p = none) (hr : ObjR K F o d) : St K R F (ps ++ [p]) ρ (os ++ [Ow.has d]) σ (upd H p o) :=
  ⟨h.sl.up (Ex.refl _) (List.prefix_append _ _), h.hst.newO hp hr⟩
theorem St.set (h : St K R F ps ρ os σ H) (i : Nat) {s : Sl} {ov : Option V} (r : SlR K F ps ov s) : St K R F ps (ρ.set i s) os (σ.set i ov) H := ⟨Paired.setR r i h.sl, h.hst⟩
/-- one's own object is changed -/
theorem Hst.wr (h : Hst K F R ps os H) {i : Nat} {d' : D} {o' : HO} (hi : ps[i]? = some p) (hd : os[i]? = some (Ow.has d)) (hr : ObjR K F o' d') : Hst K F R ps (os.set i (Ow.has d')) (upd H p o') := by
  obtain ⟨a1, a2, w, a3, _⟩ := h.own i p d hi hd
  refine ⟨fun a u q => ?_, fun a u q => ?_, by simp [h.len], fun j a e h1 h2 => ?_, fun j k a h1 h2 h3 h4 => ?_⟩
  · rw [upd_ne (ne_of_none q a1)]; exact h.sub _ _ q
  · obtain ⟨q1, q2, q3⟩ := h.oth a u q
    rw [upd_ne (ne_of_none q a2)]; exact ⟨q1, q2, q3⟩
  · by_cases z : j = i
    · subst z
      rw [hi] at h1; cases h1
      rw [List.getElem?_set_self (by rw [← h.len]; exact (List.getElem?_eq_some_iff.mp hi).1)] at h2
      cases h2
      exact ⟨a1, a2, o', upd_same, hr⟩
    · rw [List.getElem?_set_ne (Ne.symm z)] at h2
      obtain ⟨q1, q2, w', q3, q4⟩ := h.own j a e h1 h2
      have z2 : a ≠ p := fun e' => by
        subst e'
        exact z (h.dis j i a h1 hi ⟨_, h2⟩ ⟨_, hd⟩)
      rw [upd_ne z2]; exact ⟨q1, q2, w', q3, q4⟩
  · have g : ∀ (j : Nat), (∃ d2 : D, (os.set i (Ow.has d'))[j]? = some (Ow.has d2)) → ∃ d2 : D, os[j]? = some (Ow.has d2) := fun j hq => by
      obtain ⟨d2, q⟩ := hq
      by_cases z : j = i
      · subst z; exact ⟨_, hd⟩
      · rw [List.getElem?_set_ne (Ne.symm z)] at q; exact ⟨_, q⟩
    exact h.dis j k a h1 h2 (g j h3) (g k h4)
theorem St.wr (h : St K R F ps ρ os σ H) {i : Nat} {d' : D} {o' : HO} (hi : ps[i]? = some p) (hd : os[i]? = some (Ow.has d)) (hr : ObjR K F o' d') : St K R F ps ρ (os.set i (Ow.has d')) σ (upd H p o') := ⟨h.sl, h.hst.wr hi hd hr⟩
/-- one's own object stands still from now on -/
theorem Hst.still (h : Hst K F R ps os H) {i : Nat} (hi : ps[i]? = some p) (hd : os[i]? = some (Ow.has d)) : ∃ o, Ex F (upd F p o) ∧ ObjR K (upd F p o) o d ∧ Hst K (upd F p o) R ps (os.set i .gone) H := by
  obtain ⟨a1, a2, o, a3, a4⟩ := h.own i p d hi hd
  have e : Ex F (upd F p o) := Ex.new a1
  refine ⟨o, e, a4.up e, ⟨fun a u q => ?_, fun a u q => ?_, by simp [h.len], fun j a e' h1 h2 => ?_, fun j k a h1 h2 h3 h4 => ?_⟩⟩
  · by_cases z : a = p
    · subst z; rw [upd_same] at q; cases q; exact a3
    · rw [upd_ne z] at q; exact h.sub _ _ q
  · obtain ⟨q1, q2, q3⟩ := h.oth a u q
    rw [upd_ne (ne_of_none q a2)]; exact ⟨q1, q2, q3⟩
  · by_cases z : j = i
    · subst z
      rw [List.getElem?_set_self (by rw [← h.len]; exact (List.getElem?_eq_some_iff.mp hi).1)] at h2
      cases h2
    · rw [List.getElem?_set_ne (Ne.symm z)] at h2
      obtain ⟨q1, q2, w', q3, q4⟩ := h.own j a e' h1 h2
      have z2 : a ≠ p := fun e'' => by
        subst e''
        exact z (h.dis j i a h1 hi ⟨_, h2⟩ ⟨_, hd⟩)
      rw [upd_ne z2]; exact ⟨q1, q2, w', q3, q4.up e⟩
  · have g : ∀ (j : Nat), (∃ d2 : D, (os.set i Ow.gone)[j]? = some (Ow.has d2)) → ∃ d2 : D, os[j]? = some (Ow.has d2) := fun j hq => by
      obtain ⟨d2, q⟩ := hq
      by_cases z : j = i
      · subst z
        rw [List.getElem?_set_self (by rw [← h.len]; exact (List.getElem?_eq_some_iff.mp hi).1)] at q
        cases q
      · rw [List.getElem?_set_ne (Ne.symm z)] at q; exact ⟨_, q⟩
    exact h.dis j k a h1 h2 (g j h3) (g k h4)
/-- the last of one's own is forgotten -/
theorem Hst.cut (h : Hst K F R ps os H) (n : Nat) : Hst K F R (ps.take n) (os.take n) H := by
  have g1 : ∀ i a, (ps.take n)[i]? = some a → ps[i]? = some a := fun i a q => by
    rw [List.getElem?_take] at q
    split at q
    · exact q
    · cases q
  have g2 : ∀ i a, (os.take n)[i]? = some a → os[i]? = some a := fun i a q => by
    rw [List.getElem?_take] at q
    split at q
    · exact q
    · cases q
  exact ⟨h.sub, h.oth, by simp [h.len], fun i p d h1 h2 => h.own i p d (g1 _ _ h1) (g2 _ _ h2), fun i j p h1 h2 ⟨d1, h3⟩ ⟨d2, h4⟩ => h.dis i j p (g1 _ _ h1) (g1 _ _ h2) ⟨d1, g2 _ _ h3⟩ ⟨d2, g2 _ _ h4⟩⟩
end
end Ly

set_option Elab.async false
set_option linter.all false
set_option autoImplicit false
set_option maxRecDepth 100000
set_option maxHeartbeats 4000000
/-! Lay2: what a reading evaluates to over the abstract state; statements. -/
namespace Ly
open PySem L2

class Enc (α : Type) where
  enc : α → D
abbrev E {α : Type} [Enc α] (x : α) : D := Enc.enc x
structure T3 (α β γ : Type) where
  a : α
  b : β
  c : γ
structure T4 (α β γ δ : Type) where
  a : α
  b : β
  c : γ
  d : δ
structure T5 (α β γ δ ε : Type) where
  a : α
  b : β
  c : γ
  d : δ
  e : ε
structure T1 (α : Type) where
  a : α
/-- a tuple of any length -/
structure Tup (α : Type) where
  l : List α
structure Dct (α : Type) where
  l : List (Key × α)
structure DctT (α : Type) where
  l : List (List Key × α)
@[reducible] instance : Enc Int := ⟨.int⟩
@[reducible] instance : Enc Bool := ⟨.bl⟩
@[reducible] instance : Enc Str := ⟨.str⟩
@[reducible] instance : Enc Unit := ⟨fun _ => .non⟩
@[reducible] instance : Enc D := ⟨id⟩
@[reducible] instance {α : Type} [Enc α] : Enc (List α) := ⟨fun xs => .lst (xs.map E)⟩
@[reducible] instance {α : Type} [Enc α] : Enc (Tup α) := ⟨fun xs => .tup (xs.l.map E)⟩
@[reducible] instance {α β : Type} [Enc α] [Enc β] : Enc (α × β) := ⟨fun p => .tup [E p.1, E p.2]⟩
@[reducible] instance {α : Type} [Enc α] : Enc (T1 α) := ⟨fun p => .tup [E p.a]⟩
@[reducible] instance {α β γ : Type} [Enc α] [Enc β] [Enc γ] : Enc (T3 α β γ) := ⟨fun p => .tup [E p.a, E p.b, E p.c]⟩
@[reducible] instance {α β γ δ : Type} [Enc α] [Enc β] [Enc γ] [Enc δ] : Enc (T4 α β γ δ) := ⟨fun p => .tup [E p.a, E p.b, E p.c, E p.d]⟩
@[reducible] instance {α β γ δ ε : Type} [Enc α] [Enc β] [Enc γ] [Enc δ] [Enc ε] : Enc (T5 α β γ δ ε) := ⟨fun p => .tup [E p.a, E p.b, E p.c, E p.d, E p.e]⟩
@[reducible] instance {α : Type} [Enc α] : Enc (Dct α) := ⟨fun d => .dct (d.l.map fun p => (p.1, E p.2))⟩
@[reducible] instance {α : Type} [Enc α] : Enc (DctT α) := ⟨fun d => .dctT (d.l.map fun p => (p.1, E p.2))⟩

/-! ### what evaluates to what -/
def EvS (K : PySem.W.Frag) (te : TE) (ρ : List Sl) (os : List Ow) (s : Sl) (os' : List Ow) : Prop :=
  ∀ (R F : Hp) (ps : List Addr) (σ : L2.St) (H : Hp) (Q : VK), St K R F ps ρ os σ H → (∀ v F' H', Ex F F' → St K R F' ps ρ os' σ H' → SlR K F' ps (some v) s → Q v H') → te σ H Q
abbrev Ev (K : PySem.W.Frag) (te : TE) (ρ : List Sl) (os : List Ow) (d : D) (os' : List Ow) : Prop := EvS K te ρ os (.fz d) os'
/-- a new object of one's own, laid behind the others -/
def EvN (K : PySem.W.Frag) (te : TE) (ρ : List Sl) (os : List Ow) (d : D) (os' : List Ow) : Prop :=
  ∀ (R F : Hp) (ps : List Addr) (σ : L2.St) (H : Hp) (Q : VK), St K R F ps ρ os σ H → (∀ p F' H', Ex F F' → St K R F' (ps ++ [p]) ρ (os' ++ [.has d]) σ H' → St K R F' ps ρ os' σ H' → Q (.ref p) H') → te σ H Q
def EvT (K : PySem.W.Frag) (tt : TT) (ρ : List Sl) (os : List Ow) (b : Bool) (os' : List Ow) : Prop :=
  ∀ (R F : Hp) (ps : List Addr) (σ : L2.St) (H : Hp) (Q : Bool → Hp → Prop), St K R F ps ρ os σ H → (∀ F' H', Ex F F' → St K R F' ps ρ os' σ H' → Q b H') → tt σ H Q
def EvA (K : PySem.W.Frag) (ta : TA) (ρ : List Sl) (os : List Ow) (ss : List Sl) (os' : List Ow) : Prop :=
  ∀ (R F : Hp) (ps : List Addr) (σ : L2.St) (H : Hp) (Q : List V → Hp → Prop), St K R F ps ρ os σ H → (∀ vs F' H', Ex F F' → St K R F' ps ρ os' σ H' → Paired (SlR K F' ps) (vs.map some) ss → Q vs H') → ta σ H Q
def EvO (K : PySem.W.Frag) (to : TO) (ρ : List Sl) (os : List Ow) (o : Option Int) (os' : List Ow) : Prop :=
  ∀ (R F : Hp) (ps : List Addr) (σ : L2.St) (H : Hp) (Q : Option Int → Hp → Prop), St K R F ps ρ os σ H → (∀ F' H', Ex F F' → St K R F' ps ρ os' σ H' → Q o H') → to σ H Q

/-- what a slot's value is like, seen now -/
def Look (os : List Ow) : Sl → D → Prop
  | .fz d, e => d = e
  | .at i, e => os[i]? = some (.has e)
  | .un, _ => False

section
variable {K : PySem.W.Frag} {R F G H : Hp} {ps : List Addr} {ρ : List Sl} {os os1 os2 os3 : List Ow} {σ : L2.St} {s t : Sl} {d e : D} {te ta tb : TE} {tt tu : TT}

theorem St.len (h : St K R F ps ρ os σ H) : ps.length = os.length := h.hst.len
/-- a view of it in the heap -/
theorem St.seeL (h : St K R F ps ρ os σ H) {v : V} {ds : List D} (r : SlR K F ps (some v) s) (k : Look os s (.lst ds)) : ∃ a xs, v = .ref a ∧ SqL K H a xs ∧ RpL K F xs ds := by
  cases s with
  | un => exact k.elim
  | fz d =>
    cases (show d = .lst ds from k)
    cases (show Rp K F v (.lst ds) from r) with
    | lst h1 h2 => exact ⟨_, _, rfl, h.hst.sub.sqL h1, h2⟩
  | «at» i =>
    obtain ⟨p, h1, rfl⟩ := r
    obtain ⟨_, _, o, h2, h3⟩ := h.hst.own i p _ h1 k
    cases h3 with
    | lst h4 => exact ⟨p, _, rfl, .inl (.inl h2), h4⟩
theorem St.seeT (h : St K R F ps ρ os σ H) {v : V} {ds : List D} (r : SlR K F ps (some v) s) (k : Look os s (.tup ds)) : ∃ a xs, v = .ref a ∧ SqT K H a xs ∧ RpL K F xs ds := by
  cases s with
  | un => exact k.elim
  | fz d =>
    cases (show d = .tup ds from k)
    cases (show Rp K F v (.tup ds) from r) with
    | tup h1 h2 => exact ⟨_, _, rfl, .inl (.inl (h.hst.sub _ _ h1)), h2⟩
  | «at» i =>
    obtain ⟨p, h1, rfl⟩ := r
    obtain ⟨_, _, o, h2, h3⟩ := h.hst.own i p _ h1 k
    cases h3
theorem St.seeK (h : St K R F ps ρ os σ H) {v : V} {ds : List (Key × D)} (r : SlR K F ps (some v) s) (k : Look os s (.dct ds)) : ∃ a xs, v = .ref a ∧ Rd H a (.dK xs) ∧ RpK K F xs ds := by
  cases s with
  | un => exact k.elim
  | fz d =>
    cases (show d = .dct ds from k)
    cases (show Rp K F v (.dct ds) from r) with
    | dct h1 h2 => exact ⟨_, _, rfl, h.hst.sub.rd h1, h2⟩
  | «at» i =>
    obtain ⟨p, h1, rfl⟩ := r
    obtain ⟨_, _, o, h2, h3⟩ := h.hst.own i p _ h1 k
    cases h3 with
    | dct h4 => exact ⟨p, _, rfl, .inl h2, h4⟩
theorem St.seeD (h : St K R F ps ρ os σ H) {v : V} {ds : List (List Key × D)} (r : SlR K F ps (some v) s) (k : Look os s (.dctT ds)) : ∃ a xs, v = .ref a ∧ Rd H a (.dT xs) ∧ RpT K F xs ds := by
  cases s with
  | un => exact k.elim
  | fz d =>
    cases (show d = .dctT ds from k)
    cases (show Rp K F v (.dctT ds) from r) with
    | dctT h1 h2 => exact ⟨_, _, rfl, h.hst.sub.rd h1, h2⟩
  | «at» i =>
    obtain ⟨p, h1, rfl⟩ := r
    obtain ⟨_, _, o, h2, h3⟩ := h.hst.own i p _ h1 k
    cases h3 with
    | dctT h4 => exact ⟨p, _, rfl, .inl h2, h4⟩

theorem ev_var {i : Nat} (h : ρ[i]? = some s) (hs : s ≠ .un := by exact fun z => nomatch z) : EvS K (tVar i) ρ os s os := fun R F ps σ H Q I q => by
  obtain ⟨a, h1, h2⟩ := Paired.getR I.sl h
  cases a with
  | none =>
    cases s with
    | un => exact absurd rfl hs
    | fz d => exact h2.elim
    | «at» i => exact h2.elim
  | some v => exact ⟨v, h1, q v F H (Ex.refl F) I h2⟩
theorem ev_non : Ev K (tC .non) ρ os .non os := fun R F ps σ H Q I q => q _ F H (Ex.refl F) I .non
theorem ev_bl {b : Bool} : Ev K (tC (.bl b)) ρ os (.bl b) os := fun R F ps σ H Q I q => q _ F H (Ex.refl F) I (.bl b)
theorem ev_int {i : Int} : Ev K (tC (.int i)) ρ os (.int i) os := fun R F ps σ H Q I q => q _ F H (Ex.refl F) I (.int i)
theorem ev_str {x : Str} : Ev K (tC (.str x)) ρ os (.str x) os := fun R F ps σ H Q I q => q _ F H (Ex.refl F) I (.str x)
theorem ev_is {te : TE} (h : Ev K te ρ os d os1) (q : d = e) : Ev K te ρ os e os1 := q ▸ h
/-- a binary operation, its operands' values scalar: by their values -/
theorem ev_op {r : R2} {x y : D} (ha : Ev K ta ρ os x os1) (hb : Ev K tb ρ os1 y os2)
    (hr : ∀ R F ps σ H (Q : VK) v w, St K R F ps ρ os2 σ H → Rp K F v x → Rp K F w y → (∀ v F' H', Ex F F' → St K R F' ps ρ os2 σ H' → Rp K F' v d → Q v H') → r v w H Q) : Ev K (tOp r ta tb) ρ os d os2 :=
  fun R F ps σ H Q I q => ha R F ps σ H _ I fun v F1 H1 e1 I1 r1 => hb R F1 ps σ H1 _ I1 fun w F2 H2 e2 I2 r2 =>
    hr R F2 ps σ H2 Q v w I2 (Rp.up e2 r1) r2 fun u F3 H3 e3 I3 r3 => q u F3 H3 ((e1.trans e2).trans e3) I3 r3
theorem ev_I0 {g : Int → Int → V} {i j : Int} (ha : Ev K ta ρ os (.int i) os1) (hb : Ev K tb ρ os1 (.int j) os2) (hg : ∀ F, Rp K F (g i j) d) : Ev K (tOp (rI0 g) ta tb) ρ os d os2 :=
  ev_op ha hb fun R F ps σ H Q v w I r1 r2 q => by
    cases r1; cases r2
    exact ⟨i, j, rfl, rfl, q _ F H (Ex.refl F) I (hg F)⟩
theorem ev_I {C : Int → Int → Prop} {g : Int → Int → V} {i j : Int} (ha : Ev K ta ρ os (.int i) os1) (hb : Ev K tb ρ os1 (.int j) os2) (hc : C i j) (hg : ∀ F, Rp K F (g i j) d) : Ev K (tOp (rI C g) ta tb) ρ os d os2 :=
  ev_op ha hb fun R F ps σ H Q v w I r1 r2 q => by
    cases r1; cases r2
    exact ⟨i, j, rfl, rfl, hc, q _ F H (Ex.refl F) I (hg F)⟩
theorem ev_add {i j : Int} (ha : Ev K ta ρ os (.int i) os1) (hb : Ev K tb ρ os1 (.int j) os2) : Ev K (tOp (rI0 fun i j => .int (i + j)) ta tb) ρ os (.int (i + j)) os2 := ev_I0 ha hb fun _ => .int _
theorem ev_sub {i j : Int} (ha : Ev K ta ρ os (.int i) os1) (hb : Ev K tb ρ os1 (.int j) os2) : Ev K (tOp (rI0 fun i j => .int (i - j)) ta tb) ρ os (.int (i - j)) os2 := ev_I0 ha hb fun _ => .int _
theorem ev_mulW {i j : Int} (ha : Ev K ta ρ os (.int i) os1) (hb : Ev K tb ρ os1 (.int j) os2) (hc : CMulW i j) : Ev K (tOp (rI CMulW fun i j => .int (i * j)) ta tb) ρ os (.int (i * j)) os2 := ev_I ha hb hc fun _ => .int _
theorem ev_mul {i j : Int} (ha : Ev K ta ρ os (.int i) os1) (hb : Ev K tb ρ os1 (.int j) os2) (hc : CMul i j) : Ev K (tOp (rI CMul fun i j => .int (i * j)) ta tb) ρ os (.int (i * j)) os2 := ev_I ha hb hc fun _ => .int _
theorem ev_fdiv {i j : Int} (ha : Ev K ta ρ os (.int i) os1) (hb : Ev K tb ρ os1 (.int j) os2) (hc : CDivN i j) : Ev K (tOp (rI CDivN fun i j => .int (i.fdiv j)) ta tb) ρ os (.int (i.fdiv j)) os2 := ev_I ha hb hc fun _ => .int _
theorem ev_mod {i j : Int} (ha : Ev K ta ρ os (.int i) os1) (hb : Ev K tb ρ os1 (.int j) os2) (hc : j ≠ 0) : Ev K (tOp (rI (fun _ j => j ≠ 0) fun i j => .int (i.fmod j)) ta tb) ρ os (.int (i.fmod j)) os2 := ev_I ha hb hc fun _ => .int _
theorem ev_pow {i j : Int} (ha : Ev K ta ρ os (.int i) os1) (hb : Ev K tb ρ os1 (.int j) os2) (hc : CPow i j) : Ev K (tOp (rI CPow fun i j => .int (i ^ j.toNat)) ta tb) ρ os (.int (i ^ j.toNat)) os2 := ev_I ha hb hc fun _ => .int _
theorem ev_lt {i j : Int} (ha : Ev K ta ρ os (.int i) os1) (hb : Ev K tb ρ os1 (.int j) os2) : Ev K (tOp (rI0 fun i j => .bl (decide (i < j))) ta tb) ρ os (.bl (decide (i < j))) os2 := ev_I0 ha hb fun _ => .bl _
theorem ev_le {i j : Int} (ha : Ev K ta ρ os (.int i) os1) (hb : Ev K tb ρ os1 (.int j) os2) : Ev K (tOp (rI0 fun i j => .bl (decide (i ≤ j))) ta tb) ρ os (.bl (decide (i ≤ j))) os2 := ev_I0 ha hb fun _ => .bl _
theorem ev_gt {i j : Int} (ha : Ev K ta ρ os (.int i) os1) (hb : Ev K tb ρ os1 (.int j) os2) : Ev K (tOp (rI0 fun i j => .bl (decide (j < i))) ta tb) ρ os (.bl (decide (j < i))) os2 := ev_I0 ha hb fun _ => .bl _
theorem ev_ge {i j : Int} (ha : Ev K ta ρ os (.int i) os1) (hb : Ev K tb ρ os1 (.int j) os2) : Ev K (tOp (rI0 fun i j => .bl (decide (j ≤ i))) ta tb) ρ os (.bl (decide (j ≤ i))) os2 := ev_I0 ha hb fun _ => .bl _
theorem ev_un {g : Int → V} {i : Int} (ha : Ev K ta ρ os (.int i) os1) (hg : ∀ F, Rp K F (g i) d) : Ev K (tUn (rU g) ta) ρ os d os1 := fun R F ps σ H Q I q => ha R F ps σ H _ I fun v F1 H1 e1 I1 r1 => by
  cases (show Rp K F1 v (.int i) from r1)
  exact ⟨i, rfl, q _ F1 H1 e1 I1 (hg F1)⟩
theorem ev_neg {i : Int} (ha : Ev K ta ρ os (.int i) os1) : Ev K (tUn (rU fun i => .int (-i)) ta) ρ os (.int (-i)) os1 := ev_un ha fun _ => .int _
/-- == of scalars of one kind -/
theorem ev_eqI {i j : Int} (ha : Ev K ta ρ os (.int i) os1) (hb : Ev K tb ρ os1 (.int j) os2) : Ev K (tOp rEq ta tb) ρ os (.bl (decide (i = j))) os2 :=
  ev_op ha hb fun R F ps σ H Q v w I r1 r2 q => by
    cases r1; cases r2
    refine ⟨rfl, q _ F H (Ex.refl F) I ?_⟩
    rw [show decide (V.int i = V.int j) = decide (i = j) by simp]
    exact .bl _
theorem ev_neI {i j : Int} (ha : Ev K ta ρ os (.int i) os1) (hb : Ev K tb ρ os1 (.int j) os2) : Ev K (tOp rNe ta tb) ρ os (.bl (!decide (i = j))) os2 :=
  ev_op ha hb fun R F ps σ H Q v w I r1 r2 q => by
    cases r1; cases r2
    refine ⟨rfl, q _ F H (Ex.refl F) I ?_⟩
    rw [show decide (V.int i = V.int j) = decide (i = j) by simp]
    exact .bl _
theorem ev_eqS {i j : Str} (ha : Ev K ta ρ os (.str i) os1) (hb : Ev K tb ρ os1 (.str j) os2) : Ev K (tOp rEq ta tb) ρ os (.bl (decide (i = j))) os2 :=
  ev_op ha hb fun R F ps σ H Q v w I r1 r2 q => by
    cases r1; cases r2
    refine ⟨rfl, q _ F H (Ex.refl F) I ?_⟩
    rw [show decide (V.str i = V.str j) = decide (i = j) by simp]
    exact .bl _
theorem ev_neS {i j : Str} (ha : Ev K ta ρ os (.str i) os1) (hb : Ev K tb ρ os1 (.str j) os2) : Ev K (tOp rNe ta tb) ρ os (.bl (!decide (i = j))) os2 :=
  ev_op ha hb fun R F ps σ H Q v w I r1 r2 q => by
    cases r1; cases r2
    refine ⟨rfl, q _ F H (Ex.refl F) I ?_⟩
    rw [show decide (V.str i = V.str j) = decide (i = j) by simp]
    exact .bl _
theorem ev_eqB {i j : Bool} (ha : Ev K ta ρ os (.bl i) os1) (hb : Ev K tb ρ os1 (.bl j) os2) : Ev K (tOp rEq ta tb) ρ os (.bl (decide (i = j))) os2 :=
  ev_op ha hb fun R F ps σ H Q v w I r1 r2 q => by
    cases r1; cases r2
    refine ⟨rfl, q _ F H (Ex.refl F) I ?_⟩
    rw [show decide (V.bl i = V.bl j) = decide (i = j) by simp]
    exact .bl _
/-- is None -/
def isNon : D → Bool
  | .non => true
  | _ => false
theorem rp_non {v : V} (r : Rp K F v d) : decide (v = .non) = isNon d := by
  cases r <;> first | rfl | (simp [isNon])
theorem ev_isN (ha : Ev K ta ρ os d os1) : Ev K (tOp (fun x y H Q => y = .non ∧ Q (.bl (decide (x = .non))) H) ta (tC .non)) ρ os (.bl (isNon d)) os1 := fun R F ps σ H Q I q =>
  ha R F ps σ H _ I fun v F1 H1 e1 I1 r1 => ⟨rfl, q _ F1 H1 e1 I1 (by rw [rp_non (show Rp K F1 v d from r1)]; exact .bl _)⟩
theorem ev_notN (ha : Ev K ta ρ os d os1) : Ev K (tOp (fun x y H Q => y = .non ∧ Q (.bl (!decide (x = .non))) H) ta (tC .non)) ρ os (.bl (!isNon d)) os1 := fun R F ps σ H Q I q =>
  ha R F ps σ H _ I fun v F1 H1 e1 I1 r1 => ⟨rfl, q _ F1 H1 e1 I1 (by rw [rp_non (show Rp K F1 v d from r1)]; exact .bl _)⟩

/-! tests -/
theorem et_test {b : Bool} (h : Ev K te ρ os (.bl b) os1) : EvT K (tTest te) ρ os b os1 := fun R F ps σ H Q I q => h R F ps σ H _ I fun v F1 H1 e1 I1 r1 => by
  cases (show Rp K F1 v (.bl b) from r1)
  exact ⟨b, rfl, q F1 H1 e1 I1⟩
theorem et_B {b : Bool} (h : Ev K te ρ os (.bl b) os1) : EvT K (tB te) ρ os b os1 := fun R F ps σ H Q I q => h R F ps σ H _ I fun v F1 H1 e1 I1 r1 => by
  cases (show Rp K F1 v (.bl b) from r1)
  exact ⟨b, rfl, q F1 H1 e1 I1⟩
theorem et_is {a b : Bool} (h : EvT K tt ρ os a os1) (e : a = b) : EvT K tt ρ os b os1 := e ▸ h
theorem et_not {a : Bool} (h : EvT K tt ρ os a os1) : EvT K (tNot tt) ρ os (!a) os1 := fun R F ps σ H Q I q => h R F ps σ H _ I fun F1 H1 e1 I1 => q F1 H1 e1 I1
theorem et_and {a b : Bool} (h : EvT K tt ρ os a os1) (h1 : a = true → EvT K tu ρ os1 b os2) (h2 : a = false → b = false ∧ os2 = os1) : EvT K (tAnd tt tu) ρ os b os2 := fun R F ps σ H Q I q => h R F ps σ H _ I fun F1 H1 e1 I1 => by
  cases a with
  | true =>
    show tu σ H1 Q
    exact h1 rfl R F1 ps σ H1 Q I1 fun F2 H2 e2 I2 => q F2 H2 (e1.trans e2) I2
  | false =>
    obtain ⟨rfl, rfl⟩ := h2 rfl
    exact q F1 H1 e1 I1
theorem et_or {a b : Bool} (h : EvT K tt ρ os a os1) (h1 : a = false → EvT K tu ρ os1 b os2) (h2 : a = true → b = true ∧ os2 = os1) : EvT K (tOr tt tu) ρ os b os2 := fun R F ps σ H Q I q => h R F ps σ H _ I fun F1 H1 e1 I1 => by
  cases a with
  | true =>
    obtain ⟨rfl, rfl⟩ := h2 rfl
    exact q F1 H1 e1 I1
  | false =>
    show tu σ H1 Q
    exact h1 rfl R F1 ps σ H1 Q I1 fun F2 H2 e2 I2 => q F2 H2 (e1.trans e2) I2
theorem ev_andV {a b : Bool} (h : Ev K ta ρ os (.bl a) os1) (h1 : a = true → Ev K tb ρ os1 (.bl b) os2) (h2 : a = false → b = false ∧ os2 = os1) : Ev K (tAndV ta tb) ρ os (.bl b) os2 := fun R F ps σ H Q I q => h R F ps σ H _ I fun v F1 H1 e1 I1 r1 => by
  cases (show Rp K F1 v (.bl a) from r1)
  refine ⟨a, rfl, ?_⟩
  cases a with
  | true =>
    show tb σ H1 Q
    exact h1 rfl R F1 ps σ H1 Q I1 fun v F2 H2 e2 I2 r2 => q v F2 H2 (e1.trans e2) I2 r2
  | false =>
    obtain ⟨rfl, rfl⟩ := h2 rfl
    exact q _ F1 H1 e1 I1 (.bl false)
theorem ev_orV {a b : Bool} (h : Ev K ta ρ os (.bl a) os1) (h1 : a = false → Ev K tb ρ os1 (.bl b) os2) (h2 : a = true → b = true ∧ os2 = os1) : Ev K (tOrV ta tb) ρ os (.bl b) os2 := fun R F ps σ H Q I q => h R F ps σ H _ I fun v F1 H1 e1 I1 r1 => by
  cases (show Rp K F1 v (.bl a) from r1)
  refine ⟨a, rfl, ?_⟩
  cases a with
  | true =>
    obtain ⟨rfl, rfl⟩ := h2 rfl
    exact q _ F1 H1 e1 I1 (.bl true)
  | false =>
    show tb σ H1 Q
    exact h1 rfl R F1 ps σ H1 Q I1 fun v F2 H2 e2 I2 r2 => q v F2 H2 (e1.trans e2) I2 r2
theorem ev_notV {a : Bool} (h : Ev K ta ρ os (.bl a) os1) : Ev K (tNotV ta) ρ os (.bl (!a)) os1 := fun R F ps σ H Q I q => h R F ps σ H _ I fun v F1 H1 e1 I1 r1 => by
  cases (show Rp K F1 v (.bl a) from r1)
  exact ⟨a, rfl, q _ F1 H1 e1 I1 (.bl _)⟩
theorem ev_if {b : Bool} (h : EvT K tt ρ os b os1) (h1 : b = true → EvS K ta ρ os1 s os2) (h2 : b = false → EvS K tb ρ os1 s os2) : EvS K (tIf tt ta tb) ρ os s os2 := fun R F ps σ H Q I q => h R F ps σ H _ I fun F1 H1 e1 I1 => by
  cases b with
  | true =>
    show ta σ H1 Q
    exact h1 rfl R F1 ps σ H1 Q I1 fun v F2 H2 e2 I2 r2 => q v F2 H2 (e1.trans e2) I2 r2
  | false =>
    show tb σ H1 Q
    exact h2 rfl R F1 ps σ H1 Q I1 fun v F2 H2 e2 I2 r2 => q v F2 H2 (e1.trans e2) I2 r2
theorem en_if {b : Bool} (h : EvT K tt ρ os b os1) (h1 : b = true → EvN K ta ρ os1 d os2) (h2 : b = false → EvN K tb ρ os1 d os2) : EvN K (tIf tt ta tb) ρ os d os2 := fun R F ps σ H Q I q => h R F ps σ H _ I fun F1 H1 e1 I1 => by
  cases b with
  | true =>
    show ta σ H1 Q
    exact h1 rfl R F1 ps σ H1 Q I1 fun p F2 H2 e2 I2 I3 => q p F2 H2 (e1.trans e2) I2 I3
  | false =>
    show tb σ H1 Q
    exact h2 rfl R F1 ps σ H1 Q I1 fun p F2 H2 e2 I2 I3 => q p F2 H2 (e1.trans e2) I2 I3

/-! arguments, displays -/
theorem ea_nil : EvA K tNil ρ os [] os := fun R F ps σ H Q I q => q [] F H (Ex.refl F) I .nil
theorem ea_cons {tr : TA} {ss : List Sl} (h : EvS K te ρ os s os1) (hr : EvA K tr ρ os1 ss os2) : EvA K (tCons te tr) ρ os (s :: ss) os2 := fun R F ps σ H Q I q =>
  h R F ps σ H _ I fun v F1 H1 e1 I1 r1 => hr R F1 ps σ H1 _ I1 fun vs F2 H2 e2 I2 r2 => q (v :: vs) F2 H2 (e1.trans e2) I2 (.cons (SlR.up e2 (List.prefix_refl _) r1) r2)
theorem rpl_of {F : Hp} : ∀ {ds : List D} {vs : List V}, Paired (SlR K F ps) (vs.map some) (ds.map Sl.fz) → RpL K F vs ds
  | [], [], _ => .nil
  | [], _ :: _, h => nomatch h
  | _ :: _, [], h => nomatch h
  | _ :: _, _ :: _, .cons h r => .cons h (rpl_of r)
/-- a new object is one's own, or stands still -/
theorem en_new {ta : TA} {ds : List D} (h : EvA K ta ρ os (ds.map Sl.fz) os1) (hl : ds.length ≤ sizeLine) : EvN K (tLst ta) ρ os (.lst ds) os1 := fun R F ps σ H Q I q =>
  h R F ps σ H _ I fun vs F1 H1 e1 I1 r1 => by
    have r := rpl_of r1
    refine ⟨by rw [r.length]; exact hl, fun p hp => ?_⟩
    have I2 := I1.newO hp (.lst r)
    refine q p F1 _ e1 I2 ⟨I1.sl, ?_⟩
    have := I2.hst.cut ps.length
    rw [List.take_left, show ps.length = os1.length from I1.hst.len, List.take_left] at this
    exact this
theorem ev_tup {ta : TA} {ds : List D} (h : EvA K ta ρ os (ds.map Sl.fz) os1) (hl : ds.length ≤ sizeLine) : Ev K (tTup ta) ρ os (.tup ds) os1 := fun R F ps σ H Q I q =>
  h R F ps σ H _ I fun vs F1 H1 e1 I1 r1 => by
    have r := rpl_of r1
    refine ⟨by rw [r.length]; exact hl, fun p hp => ?_⟩
    obtain ⟨e2, I2⟩ := I1.newF hp (o := .tup vs)
    exact q (.ref p) _ _ (e1.trans e2) I2 (.tup upd_same (r.up e2))
/-- what is one's own and new may stand still at once -/
theorem ev_frz (h : EvN K te ρ os d os1) : Ev K te ρ os d os1 := fun R F ps σ H Q I q => h R F ps σ H _ I fun p F1 H1 e1 I1 I2 => by
  have hl : ps.length = os1.length := I2.hst.len
  obtain ⟨o, e2, r, J⟩ := I1.hst.still (i := ps.length) (p := p) (d := d) (by simp) (by rw [hl]; simp)
  refine q (.ref p) _ H1 (e1.trans e2) ⟨I2.sl.up e2 (List.prefix_refl _), ?_⟩ (r.rp upd_same)
  have := J.cut ps.length
  rw [List.take_left, List.take_set, hl, List.take_left, List.set_eq_of_length_le (by omega)] at this
  exact this
theorem ev_lst {ta : TA} {ds : List D} (h : EvA K ta ρ os (ds.map Sl.fz) os1) (hl : ds.length ≤ sizeLine) : Ev K (tLst ta) ρ os (.lst ds) os1 := ev_frz (en_new h hl)

/-! lists -/
theorem ev_len {ta : TA} {ds : List D} (h : EvA K ta ρ os [s] os1) (k : Look os1 s (.lst ds) ∨ Look os1 s (.tup ds)) :
    Ev K (tCB (fun xs H Q => ∃ p ys, xs = [.ref p] ∧ (SqL K H p ys ∨ SqT K H p ys) ∧ Q (.int ys.length) H) ta) ρ os (.int ds.length) os1 := fun R F ps σ H Q I q =>
  h R F ps σ H _ I fun vs F1 H1 e1 I1 r1 => by
    cases vs with
    | nil => cases r1
    | cons v vs =>
      cases r1 with
      | cons r r' =>
        cases vs with
        | cons _ _ => cases r'
        | nil =>
          rcases k with k | k
          · obtain ⟨a, xs, rfl, h1, h2⟩ := I1.seeL r k
            exact ⟨a, xs, rfl, .inl h1, q _ F1 H1 e1 I1 (by rw [h2.length]; exact .int _)⟩
          · obtain ⟨a, xs, rfl, h1, h2⟩ := I1.seeT r k
            exact ⟨a, xs, rfl, .inr h1, q _ F1 H1 e1 I1 (by rw [h2.length]; exact .int _)⟩
theorem atI_rp {xs : List V} {ds : List D} {i : Int} (r : RpL K F xs ds) (h : atI ds i = some d) : ∃ v, atI xs i = some v ∧ Rp K F v d := by
  unfold atI at h ⊢
  rw [r.length]
  cases e : ixN ds.length i with
  | none => rw [e] at h; cases h
  | some j =>
    rw [e] at h
    exact r.get h
theorem ev_ixL {ds : List D} {i : Int} (ha : EvS K ta ρ os s os1) (hb : Ev K tb ρ os1 (.int i) os2) (k : Look os2 s (.lst ds)) (h : atI ds i = some d) : Ev K (tOp (rIxL K) ta tb) ρ os d os2 := fun R F ps σ H Q I q =>
  ha R F ps σ H _ I fun v F1 H1 e1 I1 r1 => hb R F1 ps σ H1 _ I1 fun w F2 H2 e2 I2 r2 => by
    cases (show Rp K F2 w (.int i) from r2)
    obtain ⟨a, xs, rfl, h1, h2⟩ := I2.seeL (SlR.up e2 (List.prefix_refl _) r1) k
    obtain ⟨x, h3, h4⟩ := atI_rp h2 h
    exact ⟨a, xs, i, x, rfl, rfl, h1, h3, q x F2 H2 (e1.trans e2) I2 h4⟩
theorem ev_ixT {ds : List D} {i : Int} (ha : EvS K ta ρ os s os1) (hb : Ev K tb ρ os1 (.int i) os2) (k : Look os2 s (.tup ds)) (h : atI ds i = some d) : Ev K (tOp (rIxT K) ta tb) ρ os d os2 := fun R F ps σ H Q I q =>
  ha R F ps σ H _ I fun v F1 H1 e1 I1 r1 => hb R F1 ps σ H1 _ I1 fun w F2 H2 e2 I2 r2 => by
    cases (show Rp K F2 w (.int i) from r2)
    obtain ⟨a, xs, rfl, h1, h2⟩ := I2.seeT (SlR.up e2 (List.prefix_refl _) r1) k
    obtain ⟨x, h3, h4⟩ := atI_rp h2 h
    exact ⟨a, xs, i, x, rfl, rfl, h1, h3, q x F2 H2 (e1.trans e2) I2 h4⟩
/-- list(xs) -/
theorem en_list {ta : TA} {ds : List D} (h : EvA K ta ρ os [s] os1) (k : Look os1 s (.lst ds) ∨ Look os1 s (.tup ds)) :
    EvN K (tCB (fun xs H Q => ∃ p ys, xs = [.ref p] ∧ (SqL K H p ys ∨ SqT K H p ys) ∧ ∀ l, H l = none → Q (.ref l) (upd H l (.lst ys))) ta) ρ os (.lst ds) os1 := fun R F ps σ H Q I q =>
  h R F ps σ H _ I fun vs F1 H1 e1 I1 r1 => by
    have fin : ∀ {xs : List V}, RpL K F1 xs ds → ∀ l, H1 l = none → Q (.ref l) (upd H1 l (.lst xs)) := fun {xs} r l hl => by
      have I2 := I1.newO hl (.lst r)
      refine q l F1 _ e1 I2 ⟨I1.sl, ?_⟩
      have := I2.hst.cut ps.length
      rw [List.take_left, show ps.length = os1.length from I1.hst.len, List.take_left] at this
      exact this
    cases vs with
    | nil => cases r1
    | cons v vs =>
      cases r1 with
      | cons r r' =>
        cases vs with
        | cons _ _ => cases r'
        | nil =>
          rcases k with k | k
          · obtain ⟨a, xs, rfl, h1, h2⟩ := I1.seeL r k
            exact ⟨a, xs, rfl, .inl h1, fin h2⟩
          · obtain ⟨a, xs, rfl, h1, h2⟩ := I1.seeT r k
            exact ⟨a, xs, rfl, .inr h1, fin h2⟩

/-! ### statements -/
structure Post where
  nx : List Sl → List Ow → Prop
  rt : Sl → List Ow → Prop
  bk : List Sl → List Ow → Prop := fun _ _ => False
  ct : List Sl → List Ow → Prop := fun _ _ => False
structure Cont (K : PySem.W.Frag) (R : Hp) (P : Post) (F : Hp) (ps : List Addr) (Dn : Ends) : Prop where
  nx : ∀ ρ' os' F' ps' σ' H', Ex F F' → ps <+: ps' → St K R F' ps' ρ' os' σ' H' → P.nx ρ' os' → Dn.nx σ' H'
  rt : ∀ s ρ' os' F' ps' σ' v H', Ex F F' → ps <+: ps' → St K R F' ps' ρ' os' σ' H' → SlR K F' ps' (some v) s → P.rt s os' → Dn.rt v H'
  bk : ∀ ρ' os' F' ps' σ' H', Ex F F' → ps <+: ps' → St K R F' ps' ρ' os' σ' H' → P.bk ρ' os' → Dn.bk σ' H'
  ct : ∀ ρ' os' F' ps' σ' H', Ex F F' → ps <+: ps' → St K R F' ps' ρ' os' σ' H' → P.ct ρ' os' → Dn.ct σ' H'
theorem Cont.up {P : Post} {F F' : Hp} {ps ps' : List Addr} {Dn : Ends} (c : Cont K R P F ps Dn) (e : Ex F F') (q : ps <+: ps') : Cont K R P F' ps' Dn :=
  ⟨fun ρ' os' G qs σ' H' e' q' => c.nx ρ' os' G qs σ' H' (e.trans e') (q.trans q'), fun s ρ' os' G qs σ' v H' e' q' => c.rt s ρ' os' G qs σ' v H' (e.trans e') (q.trans q'),
   fun ρ' os' G qs σ' H' e' q' => c.bk ρ' os' G qs σ' H' (e.trans e') (q.trans q'), fun ρ' os' G qs σ' H' e' q' => c.ct ρ' os' G qs σ' H' (e.trans e') (q.trans q')⟩
def Run (K : PySem.W.Frag) (ts : TS) (ρ : List Sl) (os : List Ow) (P : Post) : Prop :=
  ∀ (R F : Hp) (ps : List Addr) (σ : L2.St) (H : Hp) (Dn : Ends), St K R F ps ρ os σ H → Cont K R P F ps Dn → ts Dn σ H
variable {P : Post} {t u : TS}
theorem run_seq (h : Run K t ρ os { P with nx := fun ρ' os' => Run K u ρ' os' P }) : Run K (tSeq t u) ρ os P := fun R F ps σ H Dn I c =>
  h R F ps σ H _ I ⟨fun ρ' os' F' ps' σ' H' e q I' r => r R F' ps' σ' H' Dn I' (c.up e q), c.rt, c.bk, c.ct⟩
theorem run_next (h : P.nx ρ os) : Run K tNext ρ os P := fun R F ps σ H Dn I c => c.nx ρ os F ps σ H (Ex.refl F) (List.prefix_refl _) I h
theorem run_break (h : P.bk ρ os) : Run K tBreak ρ os P := fun R F ps σ H Dn I c => c.bk ρ os F ps σ H (Ex.refl F) (List.prefix_refl _) I h
theorem run_cont (h : P.ct ρ os) : Run K tCont ρ os P := fun R F ps σ H Dn I c => c.ct ρ os F ps σ H (Ex.refl F) (List.prefix_refl _) I h
theorem run_asg {i : Nat} (h : EvS K te ρ os s os1) (k : P.nx (ρ.set i s) os1) : Run K (tAsg te (gName i)) ρ os P := fun R F ps σ H Dn I c =>
  h R F ps σ H _ I fun v F1 H1 e1 I1 r1 => c.nx _ _ F1 ps _ H1 e1 (List.prefix_refl _) (I1.set i r1) k
theorem run_asgN {i : Nat} (h : EvN K te ρ os d os1) (k : P.nx (ρ.set i (.at os1.length)) (os1 ++ [.has d])) : Run K (tAsg te (gName i)) ρ os P := fun R F ps σ H Dn I c =>
  h R F ps σ H _ I fun p F1 H1 e1 I1 I2 => c.nx _ _ F1 _ _ H1 e1 (List.prefix_append _ _) (I1.set i (s := .at os1.length) (ov := some (.ref p)) ⟨p, by rw [← I2.hst.len]; simp, rfl⟩) k
theorem run_if {b : Bool} (h : EvT K tt ρ os b os1) (h1 : b = true → Run K t ρ os1 P) (h2 : b = false → Run K u ρ os1 P) : Run K (tIfS tt t u) ρ os P := fun R F ps σ H Dn I c =>
  h R F ps σ H _ I fun F1 H1 e1 I1 => by
    cases b with
    | true => exact h1 rfl R F1 ps σ H1 Dn I1 (c.up e1 (List.prefix_refl _))
    | false => exact h2 rfl R F1 ps σ H1 Dn I1 (c.up e1 (List.prefix_refl _))
theorem run_ret (h : EvS K te ρ os s os1) (k : P.rt s os1) : Run K (tRet te) ρ os P := fun R F ps σ H Dn I c =>
  h R F ps σ H _ I fun v F1 H1 e1 I1 r1 => c.rt s ρ os1 F1 ps σ v H1 e1 (List.prefix_refl _) I1 r1 k
theorem run_retN (h : EvN K te ρ os d os1) (k : P.rt (.at os1.length) (os1 ++ [.has d])) : Run K (tRet te) ρ os P := fun R F ps σ H Dn I c =>
  h R F ps σ H _ I fun p F1 H1 e1 I1 I2 => c.rt (.at os1.length) ρ _ F1 _ σ _ H1 e1 (List.prefix_append _ _) I1 ⟨p, by rw [← I2.hst.len]; simp, rfl⟩ k
theorem run_retU (k : P.rt (.fz .non) os) : Run K tRetN ρ os P := fun R F ps σ H Dn I c => c.rt (.fz .non) ρ os F ps σ .non H (Ex.refl F) (List.prefix_refl _) I Rp.non k
theorem run_drop (h : EvS K te ρ os s os1) (k : P.nx ρ os1) : Run K (tDrop te) ρ os P := fun R F ps σ H Dn I c =>
  h R F ps σ H _ I fun v F1 H1 e1 I1 r1 => c.nx _ _ F1 ps _ H1 e1 (List.prefix_refl _) I1 k
theorem set_self {α : Type} {l : List α} {i : Nat} {a : α} (h : l[i]? = some a) : l.set i a = l := by
  apply List.ext_getElem?
  intro k
  rw [List.getElem?_set]
  by_cases e : i = k
  · subst e
    have := (List.getElem?_eq_some_iff.mp h).1
    rw [if_pos rfl, if_pos this, h]
  · simp [e]
/-- a variable's own object stands still from now on -/
theorem run_still {i j : Nat} (hi : ρ[j]? = some (.at i)) (hd : os[i]? = some (.has d)) (h : Run K t (ρ.set j (.fz d)) (os.set i .gone) P) : Run K t ρ os P := fun R F ps σ H Dn I c => by
  obtain ⟨p, h1, h2⟩ := I.at hi
  obtain ⟨o, e, r, J⟩ := I.hst.still h2 hd
  refine h R (upd F p o) ps σ H Dn ⟨?_, J⟩ (c.up e (List.prefix_refl _))
  have := Paired.setR (F := SlR K (upd F p o) ps) (a := some (.ref p)) (b := .fz d) (r.rp upd_same) j (I.sl.up e (List.prefix_refl _))
  rwa [set_self h1] at this

end
end Ly

set_option Elab.async false
set_option linter.all false
set_option autoImplicit false
set_option maxRecDepth 100000
set_option maxHeartbeats 4000000
/-! Lay3: loops, comprehensions, lists that change, calls, a def's promise. -/
namespace Ly
open PySem PySem.Spec PyProof.Rows L2

/-! ### plain loops -/
inductive Ctl (S R : Type) where
  | nx (s : S) | bk (s : S) | rt (r : R)
def loopM {α S R : Type} (b : α → S → Option (Ctl S R)) : List α → S → Option (Ctl S R)
  | [], s => some (.nx s)
  | x :: xs, s => match b x s with
    | none => none
    | some (.nx s') => loopM b xs s'
    | some (.bk s') => some (.nx s')
    | some (.rt r) => some (.rt r)
def whileM {S R : Type} (c : S → Option Bool) (b : S → Option (Ctl S R)) : Nat → S → Option (Ctl S R)
  | 0, _ => none
  | n + 1, s => match c s with
    | none => none
    | some false => some (.nx s)
    | some true => match b s with
      | none => none
      | some (.nx s') => whileM c b n s'
      | some (.bk s') => some (.nx s')
      | some (.rt r) => some (.rt r)
def compM {α β S : Type} (f : α → S → Option (Option β × S)) : List α → S → Option (List β × S)
  | [], s => some ([], s)
  | x :: xs, s => match f x s with
    | none => none
    | some (y, s1) => match compM f xs s1 with
      | none => none
      | some (ys, s2) => some ((match y with | some v => v :: ys | none => ys), s2)
def LIM : Nat := 16777216
def comp {α β S : Type} (f : α → S → Option (Option β × S)) (xs : List α) (s : S) : Option (List β × S) := if xs.length ≤ LIM then compM f xs s else none
def obind {α β : Type} (m : Option α) (k : α → Option β) : Option β := match m with
  | none => none
  | some a => k a
theorem obind_some {α β : Type} {m : Option α} {k : α → Option β} {r : β} (h : obind m k = some r) : ∃ a, m = some a ∧ k a = some r := by
  cases m with
  | none => cases h
  | some a => exact ⟨a, rfl, h⟩
theorem cond_t {α : Type} {b : Bool} {x y : α} {r : α} (hb : b = true) (h : cond b x y = r) : x = r := by rw [hb] at h; exact h
theorem cond_f {α : Type} {b : Bool} {x y : α} {r : α} (hb : b = false) (h : cond b x y = r) : y = r := by rw [hb] at h; exact h
theorem compM_len {α β S : Type} {f : α → S → Option (Option β × S)} : ∀ {xs : List α} {s : S} {ys : List β} {s' : S}, compM f xs s = some (ys, s') → ys.length ≤ xs.length
  | [], _, _, _, h => by cases h; exact Nat.le_refl _
  | x :: xs, s, ys, s', h => by
    unfold compM at h
    split at h
    · cases h
    · rename_i y s1 e
      split at h
      · cases h
      · rename_i zs s2 e2
        have ih := compM_len e2
        cases h
        cases y with
        | none => exact Nat.le_succ_of_le ih
        | some v => exact Nat.succ_le_succ ih

section
variable {K : PySem.W.Frag} {R F G H : Hp} {ps : List Addr} {ρ ρ' : List Sl} {os os1 os2 os3 : List Ow} {σ : L2.St} {s t : Sl} {d e : D} {te ta tb : TE} {tt tu : TT} {P : Post}

/-! ### weakening -/
inductive WkS (n : Nat) : List Sl → List Sl → Prop
  | nil : WkS n [] []
  | un {s : Sl} {r r' : List Sl} : WkS n r r' → WkS n (s :: r) (.un :: r')
  | fz {d : D} {r r' : List Sl} : WkS n r r' → WkS n (.fz d :: r) (.fz d :: r')
  | at {i : Nat} {r r' : List Sl} : i < n → WkS n r r' → WkS n (.at i :: r) (.at i :: r')
inductive WkO : List Ow → List Ow → Prop
  | nil {os : List Ow} : WkO os []
  | gone {o : Ow} {os os' : List Ow} : WkO os os' → WkO (o :: os) (.gone :: os')
  | has {d : D} {os os' : List Ow} : WkO os os' → WkO (.has d :: os) (.has d :: os')
structure Wk (ρ : List Sl) (os : List Ow) (ρ' : List Sl) (os' : List Ow) : Prop where
  s : WkS os'.length ρ ρ'
  o : WkO os os'
theorem WkO.get : ∀ {os os' : List Ow} {i : Nat} {d : D}, WkO os os' → os'[i]? = some (.has d) → os[i]? = some (.has d)
  | _, _, _, _, .nil, h => by simp at h
  | _, _, 0, _, .gone _, h => by simp at h
  | _, _, i + 1, _, .gone w, h => by simpa using WkO.get w (i := i) (by simpa using h)
  | _, _, 0, _, .has _, h => by simpa using h
  | _, _, i + 1, _, .has w, h => by simpa using WkO.get w (i := i) (by simpa using h)
theorem WkO.len : ∀ {os os' : List Ow}, WkO os os' → os'.length ≤ os.length
  | _, _, .nil => Nat.zero_le _
  | _, _, .gone w => Nat.succ_le_succ w.len
  | _, _, .has w => Nat.succ_le_succ w.len
theorem Hst.wk (h : Hst K F R ps os H) {os' : List Ow} (w : WkO os os') : Hst K F R (ps.take os'.length) os' H := by
  have g1 : ∀ i a, (ps.take os'.length)[i]? = some a → ps[i]? = some a := fun i a q => by
    rw [List.getElem?_take] at q
    split at q
    · exact q
    · cases q
  have hl := w.len
  have hp := h.len
  exact ⟨h.sub, h.oth, by rw [List.length_take]; omega, fun i p d h1 h2 => h.own i p d (g1 _ _ h1) (w.get h2), fun i j p h1 h2 ⟨d1, h3⟩ ⟨d2, h4⟩ => h.dis i j p (g1 _ _ h1) (g1 _ _ h2) ⟨d1, w.get h3⟩ ⟨d2, w.get h4⟩⟩
theorem WkS.sl {n : Nat} : ∀ {σ : L2.St} {ρ ρ' : List Sl}, Slots K F ps σ ρ → WkS n ρ ρ' → Slots K F (ps.take n) σ ρ'
  | _, _, _, .nil, .nil => .nil
  | _, _, _, .cons _ t, .un w => .cons (by unfold SlR; trivial) (WkS.sl t w)
  | _, _, _, .cons r t, .fz w => .cons (by
      rename_i a _ _ _ _
      cases a with
      | none => exact r.elim
      | some v => exact r) (WkS.sl t w)
  | _, _, _, .cons r t, .at hi w => .cons (by
      rename_i a _ _ _ _
      cases a with
      | none => exact r.elim
      | some v =>
        obtain ⟨p, h1, h2⟩ := r
        exact ⟨p, by rw [List.getElem?_take_of_lt hi]; exact h1, h2⟩) (WkS.sl t w)
theorem St.wk (h : St K R F ps ρ os σ H) {os' : List Ow} (w : Wk ρ os ρ' os') : St K R F (ps.take os'.length) ρ' os' σ H := ⟨WkS.sl h.sl w.s, h.hst.wk w.o⟩
theorem take_pre {ps qs : List Addr} {n : Nat} (h : ps <+: qs) (e : n = ps.length) : ps <+: qs.take n := by
  subst e
  obtain ⟨t, rfl⟩ := h
  rw [List.take_left]
  exact List.prefix_refl _

/-! ### targets -/
def TgB (K : PySem.W.Frag) (g : TG) (d : D) (ρ ρ' : List Sl) (js : List Nat) : Prop :=
  ∀ (R F : Hp) (ps : List Addr) (os : List Ow) (σ : L2.St) (H : Hp) (v : V) (Q : L2.St → Hp → Prop), St K R F ps ρ os σ H → Rp K F v d →
    (∀ σ', St K R F ps ρ' os σ' H → (∀ i, i ∉ js → σ'[i]? = σ[i]?) → σ'.length = σ.length → Q σ' H) → g v σ H Q
def TgBs (K : PySem.W.Frag) (g : TGs) (ds : List D) (ρ ρ' : List Sl) (js : List Nat) : Prop :=
  ∀ (R F : Hp) (ps : List Addr) (os : List Ow) (σ : L2.St) (H : Hp) (vs : List V) (Q : L2.St → Hp → Prop), St K R F ps ρ os σ H → RpL K F vs ds →
    (∀ σ', St K R F ps ρ' os σ' H → (∀ i, i ∉ js → σ'[i]? = σ[i]?) → σ'.length = σ.length → Q σ' H) → g vs σ H Q
theorem tgb_name {i : Nat} : TgB K (gName i) d ρ (ρ.set i (.fz d)) [i] := fun R F ps os σ H v Q I r q =>
  q _ (I.set i (s := .fz d) (ov := some v) r) (fun j hj => List.getElem?_set_ne (fun z => hj (by rw [z]; exact List.mem_singleton.mpr rfl))) (List.length_set ..)
theorem tgbs_nil : TgBs K gNil [] ρ ρ [] := fun R F ps os σ H vs Q I r q => by
  cases r
  exact ⟨rfl, q σ I (fun _ _ => rfl) rfl⟩
theorem tgbs_cons {g : TG} {gs : TGs} {ds : List D} {ρ2 : List Sl} {is js : List Nat} (h1 : TgB K g d ρ ρ' is) (h2 : TgBs K gs ds ρ' ρ2 js) : TgBs K (gCons g gs) (d :: ds) ρ ρ2 (is ++ js) := fun R F ps os σ H vs Q I r q => by
  cases r with
  | cons r1 r2 =>
    refine ⟨_, _, rfl, h1 R F ps os σ H _ _ I r1 fun σ1 I1 e1 l1 => h2 R F ps os σ1 H _ _ I1 r2 fun σ2 I2 e2 l2 => q σ2 I2 (fun i hi => ?_) (l2.trans l1)⟩
    rw [e2 i fun z => hi (List.mem_append.mpr (.inr z)), e1 i fun z => hi (List.mem_append.mpr (.inl z))]
theorem tgb_tup {gs : TGs} {ds : List D} {n : Nat} {js : List Nat} (h : TgBs K gs ds ρ ρ' js) (hn : ds.length = n) : TgB K (gTup K n gs) (.tup ds) ρ ρ' js := fun R F ps os σ H v Q I r q => by
  obtain ⟨a, xs, rfl, h1, h2⟩ := I.seeT (s := .fz (.tup ds)) (v := v) r rfl
  exact ⟨a, xs, rfl, h1, by rw [h2.length]; exact hn, h R F ps os σ H xs Q I h2 q⟩
theorem run_asgT {g : TG} {js : List Nat} (h : Ev K te ρ os d os1) (hg : TgB K g d ρ ρ' js) (k : P.nx ρ' os1) : Run K (tAsg te g) ρ os P := fun R F ps σ H Dn I c =>
  h R F ps σ H _ I fun v F1 H1 e1 I1 r1 => hg R F1 ps os1 σ H1 v _ I1 r1 fun σ' I2 _ _ => c.nx _ _ F1 ps _ H1 e1 (List.prefix_refl _) I2 k
/-- a, b = e, f -/
theorem run_par {i j : Nat} {ta : TA} (h : EvA K ta ρ os [s, t] os1) (k : P.nx ((ρ.set i s).set j t) os1) : Run K (tPar i j ta) ρ os P := fun R F ps σ H Dn I c =>
  h R F ps σ H _ I fun vs F1 H1 e1 I1 r1 => by
    match vs, r1 with
    | [v, w], .cons r1 (.cons r2 .nil) => exact ⟨v, w, rfl, c.nx _ _ F1 ps _ H1 e1 (List.prefix_refl _) ((I1.set i r1).set j r2) k⟩

/-! ### what is walked -/
def Walks (K : PySem.W.Frag) (J : It) (F : Hp) (ds : List D) : Prop :=
  Walk J ds.length (fun H => Ex F H) fun i H x H' => ∃ d, ds[i]? = some d ∧ ∀ (R F2 : Hp) (ps : List Addr) (os : List Ow), Ex F F2 → Hst K F2 R ps os H → ∃ F3, Ex F2 F3 ∧ Hst K F3 R ps os H' ∧ Rp K F3 x d
def Src (K : PySem.W.Frag) (wi : TI) (ρ : List Sl) (os : List Ow) (ds : List D) (os' : List Ow) : Prop :=
  ∀ (R F : Hp) (ps : List Addr) (σ : L2.St) (H : Hp) (Q : It → Hp → Prop), St K R F ps ρ os σ H → (∀ J F' H', Ex F F' → St K R F' ps ρ os' σ H' → Walks K J F' ds → Q J H') → wi σ H Q
theorem src_list {ds : List D} (h : Ev K te ρ os (.lst ds) os1) : Src K (iList K te) ρ os ds os1 := fun R F ps σ H Q I q =>
  h R F ps σ H _ I fun v F1 H1 e1 I1 r1 => by
    cases (show Rp K F1 v (.lst ds) from r1) with
    | @lst a xs _ h1 h2 =>
      refine ⟨a, rfl, ⟨xs, I1.hst.sub.sqL h1⟩, q _ F1 H1 e1 I1 ?_⟩
      unfold Walks
      rw [← h2.length]
      refine walk_list.mono (fun H' e => e.sqL h1) fun i H' x H'' hi e y => ?_
      obtain ⟨rfl, y⟩ := y
      obtain ⟨d, q1, q2⟩ := h2.getV y
      exact ⟨d, q1, fun R F2 ps os e2 I2 => ⟨F2, Ex.refl _, I2, q2.up e2⟩⟩
theorem src_tup {ds : List D} (h : Ev K te ρ os (.tup ds) os1) : Src K (iTup K te) ρ os ds os1 := fun R F ps σ H Q I q =>
  h R F ps σ H _ I fun v F1 H1 e1 I1 r1 => by
    have r2 : Rp K F1 v (.tup ds) := r1
    have : ∃ a xs, v = .ref a ∧ SqT K F1 a xs ∧ RpL K F1 xs ds := by
      cases r2 with
      | tup h1 h2 => exact ⟨_, _, rfl, .inl (.inl h1), h2⟩
    obtain ⟨a, xs, rfl, h1, h2⟩ := this
    refine ⟨a, rfl, ⟨xs, I1.hst.sub.sqT h1⟩, q _ F1 H1 e1 I1 ?_⟩
    unfold Walks
    rw [← h2.length]
    refine walk_tup.mono (fun H' e => e.sqT h1) fun i H' x H'' hi e y => ?_
    obtain ⟨rfl, y⟩ := y
    obtain ⟨d, q1, q2⟩ := h2.getV y
    exact ⟨d, q1, fun R F2 ps os e2 I2 => ⟨F2, Ex.refl _, I2, q2.up e2⟩⟩
/-- lo, lo + 1, .. below hi -/
def rng (lo hi : Int) : List Int := (List.range (hi - lo).toNat).map fun (i : Nat) => lo + (i : Int)
theorem rng_len {lo hi : Int} : (rng lo hi).length = (hi - lo).toNat := by simp [rng]
theorem rng_get {lo hi : Int} {i : Nat} (h : i < (hi - lo).toNat) : (rng lo hi)[i]? = some (lo + (i : Int)) := by
  unfold rng
  rw [List.getElem?_map, List.getElem?_range h]
  rfl
def rngOk (lo hi : Int) : Bool := decide (-(2 ^ 62) ≤ lo ∧ lo < 2 ^ 62 ∧ -(2 ^ 62) ≤ hi ∧ hi < 2 ^ 62)
theorem walks_range {lo hi : Int} : Walks K (Itr lo (hi - lo).toNat) F ((rng lo hi).map D.int) := by
  unfold Walks
  rw [List.length_map, rng_len]
  refine walk_range.mono (fun _ _ => True.intro) fun i H x H' hi _ y => ?_
  obtain ⟨rfl, rfl⟩ := y
  exact ⟨.int (lo + i), by rw [List.getElem?_map, rng_get hi]; rfl, fun R F2 ps os _ I => ⟨F2, Ex.refl _, I, .int _⟩⟩
theorem one_of {F : Hp} {vs : List V} {d : D} (h : Paired (SlR K F ps) (vs.map some) [.fz d]) : ∃ v, vs = [v] ∧ Rp K F v d := by
  match vs, h with
  | [v], .cons r .nil => exact ⟨v, rfl, r⟩
theorem two_of {F : Hp} {vs : List V} {d e : D} (h : Paired (SlR K F ps) (vs.map some) [.fz d, .fz e]) : ∃ v w, vs = [v, w] ∧ Rp K F v d ∧ Rp K F w e := by
  match vs, h with
  | [v, w], .cons r (.cons q .nil) => exact ⟨v, w, rfl, r, q⟩
theorem oneS_of {F : Hp} {vs : List V} {s : Sl} (h : Paired (SlR K F ps) (vs.map some) [s]) : ∃ v, vs = [v] ∧ SlR K F ps (some v) s := by
  match vs, h with
  | [v], .cons r .nil => exact ⟨v, rfl, r⟩
theorem src_rng1 {ta : TA} {n : Int} (h : EvA K ta ρ os [.fz (.int n)] os1) (hn : rngOk 0 n = true) : Src K (iRng1 ta) ρ os ((rng 0 n).map D.int) os1 := fun R F ps σ H Q I q =>
  h R F ps σ H _ I fun vs F1 H1 e1 I1 r1 => by
    obtain ⟨v, rfl, r⟩ := one_of r1
    cases r
    have := of_decide_eq_true hn
    refine ⟨n, rfl, by omega, by omega, q _ F1 H1 e1 I1 ?_⟩
    have w := walks_range (K := K) (F := F1) (lo := 0) (hi := n)
    rw [Int.sub_zero] at w
    exact w
theorem src_rng2 {ta : TA} {m n : Int} (h : EvA K ta ρ os [.fz (.int m), .fz (.int n)] os1) (hn : rngOk m n = true) : Src K (iRng2 ta) ρ os ((rng m n).map D.int) os1 := fun R F ps σ H Q I q =>
  h R F ps σ H _ I fun vs F1 H1 e1 I1 r1 => by
    obtain ⟨v, w, rfl, r, r'⟩ := two_of r1
    cases r; cases r'
    have := of_decide_eq_true hn
    exact ⟨m, n, rfl, ⟨by omega, by omega, by omega, by omega⟩, q _ F1 H1 e1 I1 walks_range⟩

/-! ### for -/
abbrev LPost {S Rr : Type} (P : Post) (shape : S → List Sl) (osh : S → List Ow) (RP : Rr → Sl → List Ow → Prop) (c : Ctl S Rr) : Post where
  nx := fun ρ' os' => ∃ s', c = .nx s' ∧ Wk ρ' os' (shape s') (osh s')
  ct := fun ρ' os' => ∃ s', c = .nx s' ∧ Wk ρ' os' (shape s') (osh s')
  bk := fun ρ' os' => ∃ s', c = .bk s' ∧ Wk ρ' os' (shape s') (osh s')
  rt := fun sl os' => ∃ r, c = .rt r ∧ RP r sl os'
theorem loopM_drop {α S Rr : Type} {b : α → S → Option (Ctl S Rr)} {xs : List α} {i : Nat} {x : α} {s : S} (h : xs[i]? = some x) :
    loopM b (xs.drop i) s = match b x s with
      | none => none
      | some (.nx s') => loopM b (xs.drop (i + 1)) s'
      | some (.bk s') => some (.nx s')
      | some (.rt r) => some (.rt r) := by
  obtain ⟨hi, rfl⟩ := List.getElem?_eq_some_iff.mp h
  rw [List.drop_eq_getElem_cons hi]
  rfl
theorem for_at {α S Rr : Type} [Enc α] {wi : TI} {g : TG} {tb : TS} {xs : List α} {b : α → S → Option (Ctl S Rr)} {s0 : S} {c : Ctl S Rr} (shape : S → List Sl) (osh : S → List Ow) (RP : Rr → Sl → List Ow → Prop)
    (hm : loopM b xs s0 = some c) (hw : Wk ρ os1 (shape s0) (osh s0)) (hn : ∀ s, (osh s).length = os1.length)
    (hb : ∀ x s c', x ∈ xs → b x s = some c' → ∃ ρ' js, TgB K g (E x) (shape s) ρ' js ∧ Run K tb ρ' (osh s) (LPost P shape osh RP c'))
    (hx : ∀ s, c = .nx s → P.nx (shape s) (osh s)) (hr : ∀ r, c = .rt r → ∀ sl os', RP r sl os' → P.rt sl os')
    {σ : L2.St} {H : Hp} {Dn : Ends} (len : ps.length = os1.length) (cn : Cont K R P F ps Dn)
    (hs : ∀ Q : It → Hp → Prop, (∀ J F' H', Ex F F' → St K R F' ps ρ os1 σ H' → Walks K J F' (xs.map E) → Q J H') → wi σ H Q) : tFor wi g tb Dn σ H :=
  hs _ fun J F1 H1 e1 I1 w => by
    have hps : ps.length = os1.length := I1.hst.len
    let Pv : Nat → L2.St → Hp → Prop := fun i σ' H' => ∃ s F' ps', loopM b (xs.drop i) s = some c ∧ Ex F1 F' ∧ ps <+: ps' ∧ St K R F' ps' (shape s) (osh s) σ' H'
    have hEnd : ∀ s F' ps' σ' H', c = .nx s → Ex F1 F' → ps <+: ps' → St K R F' ps' (shape s) (osh s) σ' H' → Dn.nx σ' H' := fun s F' ps' σ' H' hc e p J => cn.nx _ _ F' ps' σ' H' (e1.trans e) p J (hx s hc)
    have fin : ∀ {s' : S} {ρ' : List Sl} {os' : List Ow} {F' : Hp} {ps' : List Addr} {σ' : L2.St} {H' : Hp}, ps <+: ps' → St K R F' ps' ρ' os' σ' H' → Wk ρ' os' (shape s') (osh s') → ps <+: ps'.take (osh s').length ∧ St K R F' (ps'.take (osh s').length) (shape s') (osh s') σ' H' :=
      fun {s' ρ' os' F' ps' σ' H'} p J w => ⟨take_pre p ((hn s').trans hps.symm), J.wk w⟩
    refine for_it w Pv ?_ ?_ ?_ ?_
    · obtain ⟨p, J0⟩ := fin (List.prefix_refl ps) I1 hw
      exact ⟨s0, F1, _, hm, Ex.refl _, p, J0⟩
    · rintro i σ' H' _ ⟨s, F', ps', _, e, _, J'⟩
      exact e.trans J'.hst.sub
    · rintro i v σ' H' H'' hi ⟨s, F', ps', hl, e, p, J'⟩ ⟨d, hd, hy⟩
      rw [List.getElem?_map] at hd
      obtain ⟨x, hx', rfl⟩ := Option.map_eq_some_iff.mp hd
      obtain ⟨F3, e3, J3, r3⟩ := hy R F' ps' (osh s) e J'.hst
      have J4 : St K R F3 ps' (shape s) (osh s) σ' H'' := ⟨J'.sl.up e3 (List.prefix_refl _), J3⟩
      rw [loopM_drop hx'] at hl
      cases hbx : b x s with
      | none => rw [hbx] at hl; cases hl
      | some c' =>
        rw [hbx] at hl
        obtain ⟨ρ', js, ht, hrun⟩ := hb x s c' (List.mem_of_getElem? hx') hbx
        refine ht R F3 ps' (osh s) σ' H'' v _ J4 r3 fun σ2 J5 _ _ => hrun R F3 ps' σ2 H'' _ J5 ⟨?_, ?_, ?_, ?_⟩
        · rintro ρ2 os2 F4 ps4 σ4 H4 e4 p4 J6 ⟨s', hc, w'⟩
          subst hc
          obtain ⟨p5, J7⟩ := fin (p.trans p4) J6 w'
          exact ⟨s', F4, _, hl, e.trans (e3.trans e4), p5, J7⟩
        · rintro sl ρ2 os2 F4 ps4 σ4 v4 H4 e4 p4 J6 r6 ⟨r, hc, hR⟩
          subst hc
          cases hl
          exact cn.rt sl _ os2 F4 ps4 σ4 v4 H4 (e1.trans (e.trans (e3.trans e4))) (p.trans p4) J6 r6 (hr r rfl sl os2 hR)
        · rintro ρ2 os2 F4 ps4 σ4 H4 e4 p4 J6 ⟨s', hc, w'⟩
          subst hc
          cases hl
          obtain ⟨p5, J7⟩ := fin (p.trans p4) J6 w'
          exact hEnd s' F4 _ σ4 H4 rfl (e.trans (e3.trans e4)) p5 J7
        · rintro ρ2 os2 F4 ps4 σ4 H4 e4 p4 J6 ⟨s', hc, w'⟩
          subst hc
          obtain ⟨p5, J7⟩ := fin (p.trans p4) J6 w'
          exact ⟨s', F4, _, hl, e.trans (e3.trans e4), p5, J7⟩
    · rintro σ' H' ⟨s, F', ps', hl, e, p, J'⟩
      rw [List.length_map, List.drop_length] at hl
      exact hEnd s F' ps' σ' H' (Option.some.inj hl).symm e p J'

theorem run_for {α S Rr : Type} [Enc α] {wi : TI} {g : TG} {tb : TS} {xs : List α} {b : α → S → Option (Ctl S Rr)} {s0 : S} {c : Ctl S Rr} (shape : S → List Sl) (osh : S → List Ow) (RP : Rr → Sl → List Ow → Prop)
    (hs : Src K wi ρ os (xs.map E) os1) (hm : loopM b xs s0 = some c) (hw : Wk ρ os1 (shape s0) (osh s0)) (hn : ∀ s, (osh s).length = os1.length)
    (hb : ∀ x s c', x ∈ xs → b x s = some c' → ∃ ρ' js, TgB K g (E x) (shape s) ρ' js ∧ Run K tb ρ' (osh s) (LPost P shape osh RP c'))
    (hx : ∀ s, c = .nx s → P.nx (shape s) (osh s)) (hr : ∀ r, c = .rt r → ∀ sl os', RP r sl os' → P.rt sl os') : Run K (tFor wi g tb) ρ os P := fun R F ps σ H Dn I cn => by
  by_cases hl : ps.length = os1.length
  · exact for_at shape osh RP hm hw hn hb hx hr hl cn fun Q q => hs R F ps σ H Q I q
  · exact hs R F ps σ H _ I fun J F1 H1 e1 I1 w => absurd I1.hst.len hl

/-! ### while -/
theorem run_while {S Rr : Type} {tb : TS} {cM : S → Option Bool} {b : S → Option (Ctl S Rr)} {n : Nat} {s0 : S} {c : Ctl S Rr} (shape : S → List Sl) (osh : S → List Ow) (RP : Rr → Sl → List Ow → Prop)
    (hm : whileM cM b n s0 = some c) (hw : Wk ρ os (shape s0) (osh s0)) (hn : ∀ s, (osh s).length = os.length)
    (ht : ∀ s q, cM s = some q → EvT K tt (shape s) (osh s) q (osh s))
    (hb : ∀ s c', cM s = some true → b s = some c' → Run K tb (shape s) (osh s) (LPost P shape osh RP c'))
    (hx : ∀ s, c = .nx s → P.nx (shape s) (osh s)) (hr : ∀ r, c = .rt r → ∀ sl os', RP r sl os' → P.rt sl os') : Run K (tWhile tt tb) ρ os P := fun R F ps σ H Dn I cn => by
  have hps : ps.length = os.length := I.hst.len
  have fin : ∀ {s' : S} {ρ' : List Sl} {os' : List Ow} {F' : Hp} {ps' : List Addr} {σ' : L2.St} {H' : Hp}, ps <+: ps' → St K R F' ps' ρ' os' σ' H' → Wk ρ' os' (shape s') (osh s') → ps <+: ps'.take (osh s').length ∧ St K R F' (ps'.take (osh s').length) (shape s') (osh s') σ' H' :=
    fun {s' ρ' os' F' ps' σ' H'} p J w => ⟨take_pre p ((hn s').trans hps.symm), J.wk w⟩
  refine ⟨fun m σ' H' => ∃ s F' ps', whileM cM b m s = some c ∧ Ex F F' ∧ ps <+: ps' ∧ St K R F' ps' (shape s) (osh s) σ' H', ⟨n, ?_⟩, ?_⟩
  · obtain ⟨p, J0⟩ := fin (List.prefix_refl ps) I hw
    exact ⟨s0, F, _, hm, Ex.refl _, p, J0⟩
  · rintro m σ' H' ⟨s, F', ps', hl, e, p, J⟩
    cases m with
    | zero => cases hl
    | succ m =>
      unfold whileM at hl
      cases hc : cM s with
      | none => rw [hc] at hl; cases hl
      | some q =>
        rw [hc] at hl
        refine ht s q hc R F' ps' σ' H' _ J fun F2 H2 e2 J2 => ?_
        cases q with
        | false =>
          cases hl
          exact cn.nx _ _ F2 ps' σ' H2 (e.trans e2) p J2 (hx s rfl)
        | true =>
          cases hbx : b s with
          | none => rw [hbx] at hl; cases hl
          | some c' =>
            rw [hbx] at hl
            refine ⟨fun σ3 H3 => ∃ s F' ps', whileM cM b m s = some c ∧ Ex F F' ∧ ps <+: ps' ∧ St K R F' ps' (shape s) (osh s) σ3 H3, fun σ3 H3 h3 => ⟨m, Nat.lt_succ_self m, h3⟩, ?_⟩
            refine hb s c' hc hbx R F2 ps' σ' H2 _ J2 ⟨?_, ?_, ?_, ?_⟩
            · rintro ρ2 os2 F4 ps4 σ4 H4 e4 p4 J6 ⟨s', hc, w'⟩
              subst hc
              obtain ⟨p5, J7⟩ := fin (p.trans p4) J6 w'
              exact ⟨s', F4, _, hl, e.trans (e2.trans e4), p5, J7⟩
            · rintro sl ρ2 os2 F4 ps4 σ4 v4 H4 e4 p4 J6 r6 ⟨r, hc, hR⟩
              subst hc
              cases hl
              exact cn.rt sl _ os2 F4 ps4 σ4 v4 H4 (e.trans (e2.trans e4)) (p.trans p4) J6 r6 (hr r rfl sl os2 hR)
            · rintro ρ2 os2 F4 ps4 σ4 H4 e4 p4 J6 ⟨s', hc, w'⟩
              subst hc
              cases hl
              obtain ⟨p5, J7⟩ := fin (p.trans p4) J6 w'
              exact cn.nx _ _ F4 _ σ4 H4 (e.trans (e2.trans e4)) p5 J7 (hx s' rfl)
            · rintro ρ2 os2 F4 ps4 σ4 H4 e4 p4 J6 ⟨s', hc, w'⟩
              subst hc
              obtain ⟨p5, J7⟩ := fin (p.trans p4) J6 w'
              exact ⟨s', F4, _, hl, e.trans (e2.trans e4), p5, J7⟩

/-! ### list comprehensions -/
def wipeS (ρ : List Sl) : List Nat → List Sl
  | [] => ρ
  | v :: vs => (wipeS ρ vs).set v .un
theorem slots_wipe (h : Slots K F ps σ ρ) : ∀ vs : List Nat, Slots K F ps (wipe σ vs) (wipeS ρ vs)
  | [] => h
  | v :: vs => Paired.setR (by unfold SlR; trivial) v (slots_wipe h vs)
theorem wipe_get (σ : L2.St) (i : Nat) : ∀ vs : List Nat, (wipe σ vs)[i]? = if i ∈ vs then (σ[i]?).map (fun _ => none) else σ[i]?
  | [] => by simp [wipe]
  | v :: vs => by
    unfold wipe
    have ih := wipe_get σ i vs
    by_cases e : v = i
    · subst e
      rw [List.getElem?_set, if_pos rfl, wipe_length]
      by_cases hl : v < σ.length
      · simp [hl]
      · rw [if_neg hl]
        simp [List.getElem?_eq_none_iff.mpr (Nat.le_of_not_lt hl)]
    · rw [List.getElem?_set_ne e, ih]
      have : (i ∈ v :: vs) ↔ i ∈ vs := by
        rw [List.mem_cons]
        exact ⟨fun h => h.resolve_left fun z => e z.symm, .inr⟩
      by_cases m : i ∈ vs
      · rw [if_pos m, if_pos (this.mpr m)]
      · rw [if_neg m, if_neg fun z => m (this.mp z)]
theorem wipe_back {σ σ' : L2.St} {vs js : List Nat} (h : ∀ i, i ∉ js → σ'[i]? = (wipe σ vs)[i]?) (hl : σ'.length = (wipe σ vs).length) (hj : ∀ j ∈ js, j ∈ vs) : wipe σ' vs = wipe σ vs := by
  apply List.ext_getElem?
  intro i
  rw [wipe_get, wipe_get]
  rw [wipe_length] at hl
  by_cases m : i ∈ vs
  · rw [if_pos m, if_pos m]
    by_cases hi : i < σ.length
    · rw [List.getElem?_eq_getElem hi, List.getElem?_eq_getElem (by omega)]
      rfl
    · rw [List.getElem?_eq_none_iff.mpr (by omega), List.getElem?_eq_none_iff.mpr (by omega)]
  · rw [if_neg m, if_neg m, h i fun z => m (hj i z), wipe_get, if_neg m]
theorem compM_drop {α β S : Type} {f : α → S → Option (Option β × S)} {xs : List α} {i : Nat} {x : α} {s : S} (h : xs[i]? = some x) :
    compM f (xs.drop i) s = match f x s with
    | none => none
    | some (y, s1) => match compM f (xs.drop (i + 1)) s1 with
      | none => none
      | some (ys, s2) => some ((match y with | some v => v :: ys | none => ys), s2) := by
  obtain ⟨hi, rfl⟩ := List.getElem?_eq_some_iff.mp h
  rw [List.drop_eq_getElem_cons hi]
  rfl
theorem Hst.lock1 (h : Hst K F R ps os H) {p : Addr} {xs : List V} (hp : H p = none) : R p = none ∧ F p = none ∧ Hst K F (upd R p (.lst xs)) ps os (upd H p (.lst xs)) := by
  have hF : F p = none := by
    cases q : F p with
    | none => rfl
    | some u => rw [h.sub _ _ q] at hp; cases hp
  have hR : R p = none := by
    cases q : R p with
    | none => rfl
    | some u => rw [(h.oth _ _ q).2.1] at hp; cases hp
  refine ⟨hR, hF, ⟨fun a u q => ?_, fun a u q => ?_, h.len, fun i a d h1 h2 => ?_, h.dis⟩⟩
  · rw [upd_ne (ne_of_none q hF)]; exact h.sub _ _ q
  · by_cases z : a = p
    · subst z
      rw [upd_same] at q ⊢
      cases q
      exact ⟨hF, rfl, fun _ z => nomatch z⟩
    · rw [upd_ne z] at q ⊢
      exact h.oth a u q
  · obtain ⟨q1, q2, w, q3, q4⟩ := h.own i a d h1 h2
    have z : a ≠ p := ne_of_none q3 hp
    exact ⟨q1, by rw [upd_ne z]; exact q2, w, by rw [upd_ne z]; exact q3, q4⟩
theorem Hst.set1 {p : Addr} {xs ys : List V} (h : Hst K F (upd R p (.lst xs)) ps os H) : Hst K F (upd R p (.lst ys)) ps os (upd H p (.lst ys)) := by
  obtain ⟨hF, hH, _⟩ := h.oth p _ upd_same
  refine ⟨fun a u q => ?_, fun a u q => ?_, h.len, fun i a d h1 h2 => ?_, h.dis⟩
  · rw [upd_ne (ne_of_none q hF)]; exact h.sub _ _ q
  · by_cases z : a = p
    · subst z
      rw [upd_same] at q ⊢
      cases q
      exact ⟨hF, rfl, fun _ z => nomatch z⟩
    · rw [upd_ne z] at q ⊢
      exact h.oth a u (by rw [upd_ne z]; exact q)
  · obtain ⟨q1, q2, w, q3, q4⟩ := h.own i a d h1 h2
    have z : a ≠ p := fun z => by
      subst z
      rw [upd_same] at q2
      cases q2
    exact ⟨q1, by rw [upd_ne z] at q2 ⊢; exact q2, w, by rw [upd_ne z]; exact q3, q4⟩
theorem Hst.unlock1 {p : Addr} {xs : List V} {ds : List D} (h : Hst K F (upd R p (.lst xs)) ps os H) (hR : R p = none) (r : RpL K F xs ds) : Hst K F R (ps ++ [p]) (os ++ [.has (.lst ds)]) H ∧ Hst K F R ps os H := by
  obtain ⟨hF, hH, _⟩ := h.oth p _ upd_same
  have base : Hst K F R ps os H := by
    refine ⟨h.sub, fun a u q => ?_, h.len, fun i a d h1 h2 => ?_, h.dis⟩
    · exact h.oth a u (by rw [upd_ne (ne_of_none q hR)]; exact q)
    · obtain ⟨q1, q2, w, q3, q4⟩ := h.own i a d h1 h2
      have z : a ≠ p := fun z => by
        subst z
        rw [upd_same] at q2
        cases q2
      exact ⟨q1, by rw [upd_ne z] at q2; exact q2, w, q3, q4⟩
  have ne : ∀ i a d, ps[i]? = some a → os[i]? = some (Ow.has d) → a ≠ p := fun i a d h1 h2 z => by
    obtain ⟨_, q2, _⟩ := h.own i a d h1 h2
    subst z
    rw [upd_same] at q2
    cases q2
  refine ⟨⟨base.sub, base.oth, by simp [h.len], fun i a d h1 h2 => ?_, fun i j a h1 h2 ⟨d1, h3⟩ ⟨d2, h4⟩ => ?_⟩, base⟩
  · by_cases z : i < ps.length
    · rw [List.getElem?_append_left z] at h1
      rw [List.getElem?_append_left (by rw [← h.len]; exact z)] at h2
      exact base.own i a d h1 h2
    · have z2 : i = ps.length := by
        have := (List.getElem?_eq_some_iff.mp h1).1
        simp at this; omega
      subst z2
      rw [List.getElem?_append_right (Nat.le_refl _)] at h1
      rw [h.len, List.getElem?_append_right (Nat.le_refl _)] at h2
      simp at h1 h2
      subst h1; subst h2
      exact ⟨hF, hR, _, hH, .lst r⟩
  · have key : ∀ i d, (ps ++ [p])[i]? = some a → (os ++ [Ow.has (.lst ds)])[i]? = some (Ow.has d) → (i < ps.length ∧ ps[i]? = some a ∧ os[i]? = some (Ow.has d)) ∨ (i = ps.length ∧ a = p) := fun i d q1 q2 => by
      by_cases z : i < ps.length
      · rw [List.getElem?_append_left z] at q1
        rw [List.getElem?_append_left (by rw [← h.len]; exact z)] at q2
        exact .inl ⟨z, q1, q2⟩
      · have z2 : i = ps.length := by
          have := (List.getElem?_eq_some_iff.mp q1).1
          simp at this; omega
        subst z2
        rw [List.getElem?_append_right (Nat.le_refl _)] at q1
        simp at q1
        exact .inr ⟨rfl, q1.symm⟩
    rcases key i d1 h1 h3 with ⟨a1, a2, a3⟩ | ⟨a1, a2⟩ <;> rcases key j d2 h2 h4 with ⟨b1, b2, b3⟩ | ⟨b1, b2⟩
    · exact base.dis i j a a2 b2 ⟨_, a3⟩ ⟨_, b3⟩
    · exact absurd b2 (ne i a d1 a2 a3)
    · exact absurd a2 (ne j a d2 b2 b3)
    · rw [a1, b1]
/-- [e for x in xs if t] -/
theorem en_lc {α β S : Type} [Enc α] [Enc β] {wi : TI} {g : TG} {xs : List α} {f : α → S → Option (Option β × S)} {s0 s1 : S} {ys : List β} {vs : List Nat} (osh : S → List Ow)
    (hs : Src K wi ρ os (xs.map E) os1) (hm : comp f xs s0 = some (ys, s1)) (h0 : os1 = osh s0)
    (hb : ∀ x s y s', x ∈ xs → f x s = some (y, s') → ∃ ρ' js, TgB K g (E x) (wipeS ρ vs) ρ' js ∧ (∀ j ∈ js, j ∈ vs) ∧ ∃ q osm, EvT K tt ρ' (osh s) q osm ∧
      (q = true → ∃ z, y = some z ∧ Ev K te ρ' osm (E z) (osh s')) ∧ (q = false → y = none ∧ osm = osh s')) :
    EvN K (tLc wi g tt te vs) ρ os (E ys) (osh s1) := fun R F ps σ H Q I k =>
  hs R F ps σ H _ I fun J F1 H1 e1 I1 w => by
    intro Dl hD
    subst h0
    unfold comp at hm
    split at hm
    case isFalse => cases hm
    rename_i hlim
    have hys : ys.length ≤ sizeLine := Nat.le_trans (compM_len hm) hlim
    obtain ⟨hR, hF, J0⟩ := I1.hst.lock1 (xs := []) hD
    let Pv : Nat → Hp → Prop := fun i H' => ∃ s F' acc zs as, H' Dl = some (.lst acc) ∧ compM f (xs.drop i) s = some (zs, s1) ∧ as ++ zs = ys ∧ Ex F1 F' ∧ RpL K F' acc (as.map E) ∧ Hst K F' (upd R Dl (.lst acc)) ps (osh s) H'
    refine lc_it w Pv ?_ ?_ ?_ ?_
    · exact ⟨s0, F1, [], ys, [], upd_same, hm, rfl, Ex.refl _, .nil, J0⟩
    · rintro i H' _ ⟨s, F', acc, zs, as, _, _, _, e, _, J'⟩
      exact e.trans J'.sub
    · rintro i v H' H'' hi ⟨s, F', acc, zs, as, hacc, hl, hcat, e, ra, J'⟩ ⟨d, hd, hy⟩
      rw [List.getElem?_map] at hd
      obtain ⟨x, hx', rfl⟩ := Option.map_eq_some_iff.mp hd
      obtain ⟨F3, e3, J3, r3⟩ := hy _ F' ps (osh s) e J'
      rw [compM_drop hx'] at hl
      cases hbx : f x s with
      | none => rw [hbx] at hl; cases hl
      | some ys' =>
        obtain ⟨y, s'⟩ := ys'
        rw [hbx] at hl
        simp only at hl
        cases hrest : compM f (xs.drop (i + 1)) s' with
        | none => rw [hrest] at hl; cases hl
        | some q2 =>
          obtain ⟨zs', s2⟩ := q2
          rw [hrest] at hl
          simp only [Option.some.injEq, Prod.mk.injEq] at hl
          obtain ⟨hz, rfl⟩ := hl
          obtain ⟨ρ', js, ht, hjs, q, osm, hT, hq1, hq2⟩ := hb x s y s' (List.mem_of_getElem? hx') hbx
          have Iw : St K (upd R Dl (.lst acc)) F3 ps (wipeS ρ vs) (osh s) (wipe σ vs) H'' := ⟨slots_wipe (I1.sl.up (e.trans e3) (List.prefix_refl _)) vs, J3⟩
          refine ht _ F3 ps (osh s) _ H'' v _ Iw r3 fun σ2 J5 eq5 l5 => ⟨wipe_back eq5 l5 hjs, ?_⟩
          refine hT _ F3 ps σ2 H'' _ J5 fun F4 H4 e4 J6 => ?_
          cases q with
          | false =>
            obtain ⟨rfl, rfl⟩ := hq2 rfl
            simp only at hz
            subst hz
            refine ⟨s', F4, acc, zs', as, (J6.hst.oth Dl _ upd_same).2.1, hrest, hcat, e.trans (e3.trans e4), ra.up (e3.trans e4), J6.hst⟩
          | true =>
            obtain ⟨z, rfl, hE⟩ := hq1 rfl
            simp only at hz
            subst hz
            refine hE _ F4 ps σ2 H4 _ J6 fun w F5 H5 e5 J7 r7 => ?_
            have hacc5 := (J7.hst.oth Dl _ upd_same).2.1
            have r5 := ra.up (e3.trans (e4.trans e5))
            refine ⟨acc, hacc5, ?_, s', F5, acc ++ [w], zs', as ++ [z], upd_same, hrest, by rw [List.append_assoc]; exact hcat, e.trans (e3.trans (e4.trans e5)), ?_, J7.hst.set1⟩
            · rw [ra.length, List.length_map]
              have := congrArg List.length hcat
              simp at this
              omega
            · rw [List.map_append]
              exact r5.app (.cons r7 .nil)
    · rintro H' ⟨s, F', acc, zs, as, hacc, hl, hcat, e, ra, J'⟩
      rw [List.length_map, List.drop_length] at hl
      cases hl
      rw [List.append_nil] at hcat
      subst hcat
      obtain ⟨a1, a2⟩ := J'.unlock1 hR ra
      have sl : Slots K F' ps σ ρ := I1.sl.up e (List.prefix_refl _)
      exact k Dl F' H' (e1.trans e) ⟨sl.up (Ex.refl _) (List.prefix_append _ _), a1⟩ ⟨sl, a2⟩

/-! ### lists that change -/
theorem map_eraseIdx {α β : Type} {f : α → β} : ∀ {xs : List α} {n : Nat}, (xs.eraseIdx n).map f = (xs.map f).eraseIdx n
  | [], _ => rfl
  | _ :: _, 0 => rfl
  | _ :: _, n + 1 => by
    show _ :: _ = _ :: _
    rw [map_eraseIdx]
theorem map_set {α β : Type} {f : α → β} {x : α} : ∀ {xs : List α} {n : Nat}, (xs.set n x).map f = (xs.map f).set n (f x)
  | [], _ => rfl
  | _ :: _, 0 => rfl
  | _ :: _, n + 1 => by
    show _ :: _ = _ :: _
    rw [map_set]
theorem St.lst (h : St K R F ps ρ os σ H) {i : Nat} {p : Addr} {ds : List D} (hp : ps[i]? = some p) (hk : os[i]? = some (.has (.lst ds))) : ∃ xs, H p = some (.lst xs) ∧ RpL K F xs ds := by
  obtain ⟨_, _, o, h2, h3⟩ := h.hst.own i p _ hp hk
  cases h3 with
  | lst r => exact ⟨_, h2, r⟩
theorem look_at {ds : List D} {i : Nat} (h : os[i]? = some (.has (.lst ds))) : Look os (.at i) (.lst ds) := h
theorem ev_append {α : Type} [Enc α] {xs : List α} {x : α} {i : Nat} (ha : EvS K ta ρ os (.at i) os) (h0 : ∃ ds, os[i]? = some (.has (.lst ds))) (hb : Ev K tb ρ os (E x) os1) (hk : os1[i]? = some (.has (E xs))) (hz : xs.length < LIM) :
    Ev K (tBM K "list" rAppend ta (tCons tb tNil)) ρ os .non (os1.set i (.has (E (xs ++ [x])))) := fun R F ps σ H Q I q =>
  ha R F ps σ H _ I fun v F1 H1 e1 I1 r1 => by
    obtain ⟨p, hp, rfl⟩ := r1
    obtain ⟨ds, h0⟩ := h0
    obtain ⟨xs0, hx0, _⟩ := I1.lst hp h0
    refine ⟨.inl ⟨rfl, xs0, .inl (.inl hx0)⟩, hb R F1 ps σ H1 _ I1 fun w F2 H2 e2 I2 r2 => ?_⟩
    obtain ⟨vs, hv, r⟩ := I2.lst hp hk
    refine ⟨p, vs, w, rfl, rfl, hv, by rw [r.length, List.length_map]; exact hz, q .non F2 _ (e1.trans e2) (I2.wr (d' := E (xs ++ [x])) hp hk ?_) .non⟩
    show ObjR K F2 (.lst (vs ++ [w])) (.lst ((xs ++ [x]).map E))
    rw [List.map_append]
    exact .lst (r.app (.cons r2 .nil))
theorem ev_popAt {α : Type} [Enc α] {xs : List α} {x : α} {i : Nat} {n : Int} (ha : EvS K ta ρ os (.at i) os) (h0 : ∃ ds, os[i]? = some (.has (.lst ds))) (hb : Ev K tb ρ os (.int n) os1) (hk : os1[i]? = some (.has (E xs))) (hn : 0 ≤ n) (hx : xs[n.toNat]? = some x) (hz : xs.length ≤ LIM) :
    Ev K (tBM K "list" rPopAt ta (tCons tb tNil)) ρ os (E x) (os1.set i (.has (E (xs.eraseIdx n.toNat)))) := fun R F ps σ H Q I q =>
  ha R F ps σ H _ I fun v F1 H1 e1 I1 r1 => by
    obtain ⟨p, hp, rfl⟩ := r1
    obtain ⟨ds, h0⟩ := h0
    obtain ⟨xs0, hx0, _⟩ := I1.lst hp h0
    refine ⟨.inl ⟨rfl, xs0, .inl (.inl hx0)⟩, hb R F1 ps σ H1 _ I1 fun w F2 H2 e2 I2 r2 => ?_⟩
    cases (show Rp K F2 w (.int n) from r2)
    obtain ⟨vs, hv, r⟩ := I2.lst hp hk
    have hlen : vs.length = xs.length := by rw [r.length, List.length_map]
    have hlt := (List.getElem?_eq_some_iff.mp hx).1
    obtain ⟨y, hy, ry⟩ := r.get (i := n.toNat) (d := E x) (by rw [List.getElem?_map, hx]; rfl)
    have hz' : xs.length ≤ 16777216 := hz
    refine ⟨p, vs, n, n.toNat, y, rfl, rfl, hv, by omega, by omega, PySem.seqIndex_of hn (by omega), hy, q y F2 _ (e1.trans e2) (I2.wr (d' := E (xs.eraseIdx n.toNat)) hp hk ?_) ry⟩
    show ObjR K F2 (.lst (vs.eraseIdx n.toNat)) (.lst ((xs.eraseIdx n.toNat).map E))
    rw [map_eraseIdx]
    exact .lst (r.eraseIdx _)
/-- xs[i] = e -/
theorem run_setL {α : Type} [Enc α] {xs : List α} {x : α} {i : Nat} {n : Int} {j : Nat} (h : Ev K te ρ os (E x) os1) (ha : EvS K ta ρ os1 (.at i) os1) (hb : Ev K tb ρ os1 (.int n) os2) (hk : os2[i]? = some (.has (E xs))) (hj : ixN xs.length n = some j)
    (k : P.nx ρ (os2.set i (.has (E (xs.set j x))))) : Run K (tAsg te (gSub ta tb rSetL)) ρ os P := fun R F ps σ H Dn I c =>
  h R F ps σ H _ I fun v F1 H1 e1 I1 r1 => ha R F1 ps σ H1 _ I1 fun u F2 H2 e2 I2 r2 => hb R F2 ps σ H2 _ I2 fun w F3 H3 e3 I3 r3 => by
    obtain ⟨p, hp, rfl⟩ := r2
    cases (show Rp K F3 w (.int n) from r3)
    obtain ⟨vs, hv, r⟩ := I3.lst hp hk
    refine ⟨p, vs, n, j, rfl, rfl, hv, by rw [r.length, List.length_map]; exact hj, c.nx _ _ F3 ps σ _ ((e1.trans e2).trans e3) (List.prefix_refl _) (I3.wr (d' := E (xs.set j x)) hp hk ?_) k⟩
    show ObjR K F3 (.lst (vs.set j v)) (.lst ((xs.set j x).map E))
    rw [map_set]
    exact .lst (r.set (Rp.up (e2.trans e3) r1) j)
/-- xs[i] of a list of data -/
theorem atI_map {α β : Type} {f : α → β} {xs : List α} {i : Int} {x : α} (h : atI xs i = some x) : atI (xs.map f) i = some (f x) := by
  unfold atI at h ⊢
  rw [List.length_map]
  cases e : ixN xs.length i with
  | none => rw [e] at h; cases h
  | some j =>
    rw [e] at h
    show (xs.map f)[j]? = some (f x)
    rw [List.getElem?_map, show xs[j]? = some x from h]
    rfl
theorem ev_ix {α : Type} [Enc α] {xs : List α} {x : α} {i : Int} (ha : EvS K ta ρ os s os1) (hb : Ev K tb ρ os1 (.int i) os2) (k : Look os2 s (E xs)) (h : atI xs i = some x) : Ev K (tOp (rIxL K) ta tb) ρ os (E x) os2 :=
  ev_ixL ha hb k (atI_map h)
theorem ev_ixTT {α : Type} [Enc α] {xs : Tup α} {x : α} {i : Int} (ha : EvS K ta ρ os s os1) (hb : Ev K tb ρ os1 (.int i) os2) (k : Look os2 s (E xs)) (h : atI xs.l i = some x) : Ev K (tOp (rIxT K) ta tb) ρ os (E x) os2 :=
  ev_ixT ha hb k (atI_map h)
theorem ev_lenL {α : Type} [Enc α] {xs : List α} {ta : TA} (h : EvA K ta ρ os [s] os1) (k : Look os1 s (E xs)) :
    Ev K (tCB (fun xs H Q => ∃ p ys, xs = [.ref p] ∧ (SqL K H p ys ∨ SqT K H p ys) ∧ Q (.int ys.length) H) ta) ρ os (.int (xs.length : Int)) os1 := by
  have := ev_len h (.inl k)
  rwa [List.length_map] at this
theorem ev_lenT {α : Type} [Enc α] {xs : Tup α} {ta : TA} (h : EvA K ta ρ os [s] os1) (k : Look os1 s (E xs)) :
    Ev K (tCB (fun xs H Q => ∃ p ys, xs = [.ref p] ∧ (SqL K H p ys ∨ SqT K H p ys) ∧ Q (.int ys.length) H) ta) ρ os (.int (xs.l.length : Int)) os1 := by
  have := ev_len h (.inr k)
  rwa [List.length_map] at this

/-! ### a def's promise -/
inductive Ret where
  | fz (d : D) | nw (d : D)
def RetK (K : PySem.W.Frag) (R F : Hp) (ps : List Addr) (os' : List Ow) (Q : VK) : Ret → Prop
  | .fz d => ∀ v F' H', Ex F F' → Hst K F' R ps os' H' → Rp K F' v d → Q v H'
  | .nw d => ∀ p F' H', Ex F F' → Hst K F' R (ps ++ [p]) (os' ++ [.has d]) H' → Hst K F' R ps os' H' → Q (.ref p) H'
abbrev Rel := List Sl → List Ow → Ret → List Ow → Prop
def spR (K : PySem.W.Frag) (Rl : Rel) : Sp := fun vs H Q _ => ∃ (R F : Hp) (ps : List Addr) (ρ : List Sl) (os : List Ow) (r : Ret) (os' : List Ow), Rl ρ os r os' ∧ St K R F ps ρ os (vs.map some) H ∧ RetK K R F ps os' Q r
def RetP (n : Nat) (os' : List Ow) : Ret → Sl → List Ow → Prop
  | .fz d, .fz e, os2 => e = d ∧ WkO os2 os'
  | .fz d, .at i, os2 => n ≤ i ∧ os2[i]? = some (.has d) ∧ WkO os2 os'
  | .nw d, .at i, os2 => n ≤ i ∧ os2[i]? = some (.has d) ∧ WkO os2 os'
  | _, _, _ => False
abbrev PostR (r : Ret) (os' : List Ow) : Post where
  nx := fun _ os2 => RetP os'.length os' r (.fz .non) os2
  rt := RetP os'.length os' r
theorem Hst.pick (h : Hst K F R ps os H) {i : Nat} {p : Addr} {os' : List Ow} (w : WkO os os') (hi : os'.length ≤ i) (hp : ps[i]? = some p) (hd : os[i]? = some (.has d)) : Hst K F R (ps.take os'.length ++ [p]) (os' ++ [.has d]) H := by
  have b := h.wk w
  have hlen : (ps.take os'.length).length = os'.length := b.len
  have key : ∀ j a d', (ps.take os'.length ++ [p])[j]? = some a → (os' ++ [Ow.has d])[j]? = some (Ow.has d') → (j < os'.length ∧ ps[j]? = some a ∧ os[j]? = some (Ow.has d')) ∨ (j = os'.length ∧ a = p ∧ d' = d) := fun j a d' q1 q2 => by
    by_cases z : j < os'.length
    · rw [List.getElem?_append_left (by omega), List.getElem?_take_of_lt z] at q1
      rw [List.getElem?_append_left z] at q2
      exact .inl ⟨z, q1, w.get q2⟩
    · have z2 : j = os'.length := by
        have := (List.getElem?_eq_some_iff.mp q2).1
        simp at this; omega
      subst z2
      rw [List.getElem?_append_right (by omega)] at q1
      rw [List.getElem?_append_right (Nat.le_refl _)] at q2
      simp [hlen] at q1 q2
      exact .inr ⟨rfl, by
        first
          | exact q1.symm
          | (have hh := h.len
             have h3 := (List.getElem?_eq_some_iff.mp hp).1
             have : min os'.length ps.length = os'.length := by omega
             simp [this] at q1
             exact q1.symm), q2.symm⟩
  refine ⟨h.sub, h.oth, by simp [b.len], fun j a d' q1 q2 => ?_, fun j k a q1 q2 ⟨d1, q3⟩ ⟨d2, q4⟩ => ?_⟩
  · rcases key j a d' q1 q2 with ⟨_, a2, a3⟩ | ⟨_, rfl, rfl⟩
    · exact h.own j a d' a2 a3
    · exact h.own i a d' hp hd
  · rcases key j a d1 q1 q3 with ⟨a1, a2, a3⟩ | ⟨a1, rfl, rfl⟩ <;> rcases key k a d2 q2 q4 with ⟨b1, b2, b3⟩ | ⟨b1, b2, _⟩
    · exact h.dis j k a a2 b2 ⟨_, a3⟩ ⟨_, b3⟩
    · subst b2
      exact absurd (h.dis j i a a2 hp ⟨_, a3⟩ ⟨_, hd⟩) (by omega)
    · exact absurd (h.dis k i a b2 hp ⟨_, b3⟩ ⟨_, hd⟩) (by omega)
    · rw [a1, b1]
/-- a def keeps its promise, by a run of its body -/
theorem fn_R {P : Program} {w : World} {mg : Str → Option Value} {base : Heap} {x qual : Str} {st : Stmt} {f : Addr} {fd : FuncData} {N pars : List Str} {k : Nat} {Rl : Rel} (Fn : Fun K x qual st f fd) (S : FnScope N pars (defScope st))
    (hl : ∀ ρ os r os', Rl ρ os r os' → ρ.length = pars.length ∧ os'.length = os.length)
    (hbody : ∀ (cdv : Value) (A : Around) (outer : List Env) (s : Shared) (H : Hp) (E : XK), Room k (A.deeper (envOfC qual (defScope st) s.heap.objs.size f cdv)) →
      ∃ t, PSs (cxOf CX0 P w K mg base N qual (defScope st) f cdv A outer s H E).nox (defBody st) t ∧ ∀ ρ os r os', Rl ρ os r os' → Run K t (ρ ++ List.replicate (N.length - pars.length) .un) os (PostR r os')) :
    FnOk P w K mg base CX0 (k + 1) f fd pars (spR K Rl) := by
  refine Fn.ok S (fun vs H Q E h => ?_) (fun cdv A outer s H vs Q E hr h => ?_)
  · obtain ⟨R, F, ps, ρ, os, r, os', hR, I, _⟩ := h
    have := Paired.length I.sl
    rw [List.length_map] at this
    rw [this]; exact (hl _ _ _ _ hR).1
  · obtain ⟨R, F, ps, ρ, os, r, os', hR, I, kq⟩ := h
    obtain ⟨t, ht, hrun⟩ := hbody cdv A outer s H E hr
    refine ⟨t, ht, ?_⟩
    have hlen : vs.length = pars.length := by
      have := Paired.length I.sl
      rw [List.length_map] at this
      rw [this]; exact (hl _ _ _ _ hR).1
    have hos : os'.length = ps.length := by rw [(hl _ _ _ _ hR).2, I.hst.len]
    have I2 : St K R F ps (ρ ++ List.replicate (N.length - pars.length) .un) os (L2.start N vs) H := by
      refine ⟨?_, I.hst⟩
      unfold L2.start
      rw [hlen]
      have app : ∀ {a : L2.St} {b : List Sl} {c : L2.St} {e : List Sl}, Slots K F ps a b → Slots K F ps c e → Slots K F ps (a ++ c) (b ++ e) := by
        intro a b c e h1 h2
        induction h1 with
        | nil => exact h2
        | cons r _ ih => exact .cons r ih
      refine app I.sl ?_
      generalize N.length - pars.length = m
      induction m with
      | zero => exact .nil
      | succ m ih => exact .cons (by unfold SlR; trivial) ih
    have fin : ∀ sl ρ' os2 F' ps' σ' v H', Ex F F' → ps <+: ps' → St K R F' ps' ρ' os2 σ' H' → SlR K F' ps' (some v) sl → RetP os'.length os' r sl os2 → Q v H' := by
      intro sl ρ' os2 F' ps' σ' v H' e p J rs hp
      have cut : ∀ {os2 : List Ow} {F' : Hp}, Hst K F' R ps' os2 H' → WkO os2 os' → Hst K F' R ps os' H' := fun {os2 F'} J w => by
        have := J.wk w
        rw [hos] at this
        obtain ⟨t, rfl⟩ := p
        rwa [List.take_left] at this
      cases r with
      | fz d =>
        cases sl with
        | un => exact hp.elim
        | fz d' =>
          obtain ⟨rfl, w⟩ := hp
          exact kq v F' H' e (cut J.hst w) rs
        | «at» i =>
          obtain ⟨hi, hd, w⟩ := hp
          obtain ⟨a, h1, rfl⟩ := rs
          obtain ⟨o, e2, r2, J2⟩ := J.hst.still h1 hd
          refine kq _ _ H' (e.trans e2) (cut J2 ?_) (r2.rp upd_same)
          have : ∀ {os os' : List Ow} {i : Nat}, WkO os os' → os'.length ≤ i → WkO (os.set i .gone) os' := by
            intro os os' i w
            induction w generalizing i with
            | nil => intro _; exact .nil
            | gone _ ih =>
              intro h
              cases i with
              | zero => simp at h
              | succ i => exact .gone (ih (by simpa using h))
            | has _ ih =>
              intro h
              cases i with
              | zero => simp at h
              | succ i => exact .has (ih (by simpa using h))
          exact this w hi
      | nw d =>
        cases sl with
        | un => exact hp.elim
        | fz d' => exact hp.elim
        | «at» i =>
          obtain ⟨hi, hd, w⟩ := hp
          obtain ⟨a, h1, rfl⟩ := rs
          have := J.hst.pick w hi h1 hd
          have c := cut J.hst w
          rw [hos] at this
          obtain ⟨t, rfl⟩ := p
          rw [List.take_left] at this
          exact kq a F' H' e this c
    refine hrun _ _ _ _ hR R F ps _ H _ I2 ⟨fun ρ' os2 F' ps' σ' H' e p J h => ?_, fun sl ρ' os2 F' ps' σ' v H' e p J rs h => fin sl ρ' os2 F' ps' σ' v H' e p J rs h, fun _ _ _ _ _ _ _ _ _ h => h.elim, fun _ _ _ _ _ _ _ _ _ h => h.elim⟩
    exact fin (.fz .non) ρ' os2 F' ps' σ' .non H' e p J Rp.non h

/-! ### calls -/
/-- one object more of one's own -/
theorem Hst.add (h : Hst K F R ps os H) {p : Addr} {o : HO} (h1 : F p = none) (h2 : R p = none) (h3 : ∀ (i : Nat) (d : D), ps[i]? = some p → os[i]? = some (Ow.has d) → False) (h4 : H p = some o) (h5 : ObjR K F o d) : Hst K F R (ps ++ [p]) (os ++ [.has d]) H := by
  have key : ∀ i a d', (ps ++ [p])[i]? = some a → (os ++ [Ow.has d])[i]? = some (Ow.has d') → (i < ps.length ∧ ps[i]? = some a ∧ os[i]? = some (Ow.has d')) ∨ (i = ps.length ∧ a = p ∧ d' = d) := fun i a d' q1 q2 => by
    by_cases z : i < ps.length
    · rw [List.getElem?_append_left z] at q1
      rw [List.getElem?_append_left (by rw [← h.len]; exact z)] at q2
      exact .inl ⟨z, q1, q2⟩
    · have z2 : i = ps.length := by
        have := (List.getElem?_eq_some_iff.mp q1).1
        simp at this; omega
      subst z2
      rw [List.getElem?_append_right (Nat.le_refl _)] at q1
      rw [h.len, List.getElem?_append_right (Nat.le_refl _)] at q2
      simp at q1 q2
      exact .inr ⟨rfl, q1.symm, q2.symm⟩
  refine ⟨h.sub, h.oth, by simp [h.len], fun i a d' q1 q2 => ?_, fun i j a q1 q2 ⟨d1, q3⟩ ⟨d2, q4⟩ => ?_⟩
  · rcases key i a d' q1 q2 with ⟨_, b2, b3⟩ | ⟨_, rfl, rfl⟩
    · exact h.own i a d' b2 b3
    · exact ⟨h1, h2, o, h4, h5⟩
  · rcases key i a d1 q1 q3 with ⟨a1, a2, a3⟩ | ⟨a1, a2, _⟩ <;> rcases key j a d2 q2 q4 with ⟨b1, b2, b3⟩ | ⟨b1, b2, _⟩
    · exact h.dis i j a a2 b2 ⟨_, a3⟩ ⟨_, b3⟩
    · subst b2; exact (h3 i d1 a2 a3).elim
    · subst a2; exact (h3 j d2 b2 b3).elim
    · rw [a1, b1]
/-- the callees' heap: one's own objects are lent to nobody, but the one at n -/
theorem Hst.lend0 (h : Hst K F R ps os H) : ∃ R', Hst K F R' [] [] H ∧ (∀ a, R' a = none → R a = none ∧ ∀ (i : Nat) (d : D), ps[i]? = some a → os[i]? = some (Ow.has d) → False) ∧ ∀ F' H', Ex F F' → Hst K F' R' [] [] H' → Hst K F' R ps os H' := by
  classical
  let mine : Addr → Prop := fun a => ∃ (i : Nat) (d : D), ps[i]? = some a ∧ os[i]? = some (Ow.has d)
  refine ⟨fun a => if mine a then H a else R a, ⟨h.sub, fun a u q => ?_, rfl, fun i a d h1 _ => by simp at h1, fun i j a h1 _ _ _ => by simp at h1⟩, fun a q => ?_, fun F' H' e J => ?_⟩
  · by_cases m : mine a
    · simp only [m, if_true] at q
      obtain ⟨i, d, h1, h2⟩ := m
      obtain ⟨q1, q2, w, q3, q4⟩ := h.own i a d h1 h2
      refine ⟨q1, q, fun xs z => ?_⟩
      subst z
      rw [q3] at q
      cases q
      cases q4
    · simp only [m, if_false] at q
      exact h.oth a u q
  · by_cases m : mine a
    · simp only [m, if_true] at q
      obtain ⟨i, d, h1, h2⟩ := m
      obtain ⟨q1, q2, w, q3, q4⟩ := h.own i a d h1 h2
      rw [q3] at q; cases q
    · simp only [m, if_false] at q
      exact ⟨q, fun i d h1 h2 => m ⟨i, d, h1, h2⟩⟩
  · refine ⟨J.sub, fun a u q => ?_, h.len, fun i a d h1 h2 => ?_, h.dis⟩
    · have m : ¬ mine a := fun ⟨i, d, h1, h2⟩ => by
        obtain ⟨_, q2, _⟩ := h.own i a d h1 h2
        rw [q] at q2; cases q2
      exact J.oth a u (by simp only [m, if_false]; exact q)
    · obtain ⟨q1, q2, w, q3, q4⟩ := h.own i a d h1 h2
      have m : mine a := ⟨i, d, h1, h2⟩
      obtain ⟨z1, z2, _⟩ := J.oth a w (by simp only [m, if_true]; exact q3)
      exact ⟨z1, q2, w, z2, q4.up e⟩
theorem Hst.lend1 (h : Hst K F R ps os H) {n : Nat} {p : Addr} (hp : ps[n]? = some p) (hd : os[n]? = some (.has d)) :
    ∃ R', Hst K F R' [p] [.has d] H ∧ (∀ a, R' a = none → a ≠ p → R a = none ∧ ∀ (i : Nat) (d : D), ps[i]? = some a → os[i]? = some (Ow.has d) → False) ∧ ∀ F' H' o', Ex F F' → Hst K F' R' [p] [o'] H' → Hst K F' R ps (os.set n o') H' := by
  classical
  let mine : Addr → Prop := fun a => ∃ (i : Nat) (d : D), i ≠ n ∧ ps[i]? = some a ∧ os[i]? = some (Ow.has d)
  have np : ¬ mine p := fun ⟨i, d', h0, h1, h2⟩ => h0 (h.dis i n p h1 hp ⟨_, h2⟩ ⟨_, hd⟩)
  have hRp := (h.own n p d hp hd)
  refine ⟨fun a => if mine a then H a else R a, ⟨h.sub, fun a u q => ?_, rfl, fun i a d' h1 h2 => ?_, fun i j a h1 h2 _ _ => ?_⟩, fun a q hne => ?_, fun F' H' o' e J => ?_⟩
  · by_cases m : mine a
    · simp only [m, if_true] at q
      obtain ⟨i, d, h0, h1, h2⟩ := m
      obtain ⟨q1, q2, w, q3, q4⟩ := h.own i a d h1 h2
      refine ⟨q1, q, fun xs z => ?_⟩
      subst z
      rw [q3] at q
      cases q
      cases q4
    · simp only [m, if_false] at q
      exact h.oth a u q
  · cases i with
    | zero =>
      simp at h1 h2
      subst h1; subst h2
      obtain ⟨q1, q2, q3⟩ := hRp
      exact ⟨q1, by simp only [np, if_false]; exact q2, q3⟩
    | succ i => simp at h1
  · cases i with
    | zero =>
      cases j with
      | zero => rfl
      | succ j => simp at h2
    | succ i => simp at h1
  · by_cases m : mine a
    · simp only [m, if_true] at q
      obtain ⟨i, d, h0, h1, h2⟩ := m
      obtain ⟨q1, q2, w, q3, q4⟩ := h.own i a d h1 h2
      rw [q3] at q; cases q
    · simp only [m, if_false] at q
      exact ⟨q, fun i d h1 h2 => m ⟨i, d, fun z => by
        subst z
        rw [hp] at h1
        cases h1
        exact hne rfl, h1, h2⟩⟩
  · refine ⟨J.sub, fun a u q => ?_, by simp [h.len], fun i a d' h1 h2 => ?_, fun i j a h1 h2 ⟨d1, h3⟩ ⟨d2, h4⟩ => ?_⟩
    · have m : ¬ mine a := fun ⟨i, d, _, h1, h2⟩ => by
        obtain ⟨_, q2, _⟩ := h.own i a d h1 h2
        rw [q] at q2; cases q2
      exact J.oth a u (by simp only [m, if_false]; exact q)
    · by_cases z : i = n
      · subst z
        rw [hp] at h1; cases h1
        rw [List.getElem?_set_self (by rw [← h.len]; exact (List.getElem?_eq_some_iff.mp hp).1)] at h2
        cases h2
        obtain ⟨q1, q2, q3⟩ := J.own 0 p d' rfl rfl
        exact ⟨q1, hRp.2.1, q3⟩
      · rw [List.getElem?_set_ne (Ne.symm z)] at h2
        obtain ⟨q1, q2, w, q3, q4⟩ := h.own i a d' h1 h2
        have m : mine a := ⟨i, d', z, h1, h2⟩
        obtain ⟨z1, z2, _⟩ := J.oth a w (by simp only [m, if_true]; exact q3)
        exact ⟨z1, q2, w, z2, q4.up e⟩
    · have g : ∀ (j : Nat), (∃ d2 : D, (os.set n o')[j]? = some (Ow.has d2)) → ∃ d2 : D, os[j]? = some (Ow.has d2) := fun j hq => by
        obtain ⟨d2, q⟩ := hq
        by_cases z : j = n
        · subst z; exact ⟨_, hd⟩
        · rw [List.getElem?_set_ne (Ne.symm z)] at q; exact ⟨_, q⟩
      exact h.dis i j a h1 h2 (g i ⟨_, h3⟩) (g j ⟨_, h4⟩)
theorem slots_fz {F : Hp} {ps qs : List Addr} : ∀ {ds : List D} {vs : L2.St}, Slots K F ps vs (ds.map Sl.fz) → Slots K F qs vs (ds.map Sl.fz)
  | [], [], .nil => .nil
  | d :: ds, none :: vs, .cons r t => (show False from r).elim
  | d :: ds, some v :: vs, .cons r t => .cons (show Rp K F v d from r) (slots_fz t)
/-- f(..), nothing of one's own goes in: an answer that stands still -/
theorem ev_call {Rl : Rel} {ta : TA} {ds : List D} {EE : XK} (ha : EvA K ta ρ os (ds.map Sl.fz) os1) (hR : Rl (ds.map Sl.fz) [] (.fz d) []) : Ev K (tCall (spR K Rl) [] EE ta) ρ os d os1 := fun R F ps σ H Q I q =>
  ha R F ps σ H _ I fun vs F1 H1 e1 I1 r1 => by
    obtain ⟨R', J, _, back⟩ := I1.hst.lend0
    refine ⟨R', F1, [], _, [], _, [], hR, ⟨by rw [List.append_nil]; exact slots_fz r1, J⟩, fun v F2 H2 e2 J2 r2 => ?_⟩
    exact q v F2 H2 (e1.trans e2) ⟨I1.sl.up e2 (List.prefix_refl _), back F2 H2 e2 J2⟩ r2
/-- .. a new object -/
theorem en_call {Rl : Rel} {ta : TA} {ds : List D} {EE : XK} (ha : EvA K ta ρ os (ds.map Sl.fz) os1) (hR : Rl (ds.map Sl.fz) [] (.nw d) []) : EvN K (tCall (spR K Rl) [] EE ta) ρ os d os1 := fun R F ps σ H Q I q =>
  ha R F ps σ H _ I fun vs F1 H1 e1 I1 r1 => by
    obtain ⟨R', J, free, back⟩ := I1.hst.lend0
    refine ⟨R', F1, [], _, [], _, [], hR, ⟨by rw [List.append_nil]; exact slots_fz r1, J⟩, fun p F2 H2 e2 J2 J3 => ?_⟩
    have B := back F2 H2 e2 J3
    obtain ⟨p1, p2, o, p3, p4⟩ := J2.own 0 p d rfl rfl
    have hsl := I1.sl.up e2 (List.prefix_refl ps)
    exact q p F2 H2 (e1.trans e2) ⟨hsl.up (Ex.refl _) (List.prefix_append _ _), B.add p1 (free p p2).1 (free p p2).2 p3 p4⟩ ⟨hsl, B⟩
def lendS (n : Nat) : Sl → Sl
  | .fz d => .fz d
  | .at i => if i = n then .at 0 else .un
  | .un => .un
theorem slots_lend {F : Hp} {ps : List Addr} {n : Nat} {p : Addr} (hp : ps[n]? = some p) : ∀ {ss : List Sl} {vs : L2.St}, Slots K F ps vs ss → Slots K F [p] vs (ss.map (lendS n))
  | [], [], .nil => .nil
  | s :: ss, ov :: vs, .cons r t => .cons (by
      cases s with
      | un => show SlR K F [p] ov .un; unfold SlR; trivial
      | fz d =>
        cases ov with
        | none => exact (show False from r).elim
        | some v => exact (show Rp K F v d from r)
      | «at» i =>
        show SlR K F [p] ov (if i = n then .at 0 else .un)
        by_cases e : i = n
        · subst e
          rw [if_pos rfl]
          cases ov with
          | none => exact (show False from r).elim
          | some v =>
            obtain ⟨a, h1, h2⟩ := r
            rw [hp] at h1
            cases h1
            exact ⟨p, rfl, h2⟩
        · rw [if_neg e]
          unfold SlR; trivial) (slots_lend hp t)
/-- f(.., x, ..), x one's own and changed -/
theorem ev_call1 {Rl : Rel} {ta : TA} {ss : List Sl} {n : Nat} {o' : Ow} {EE : XK} (ha : EvA K ta ρ os ss os1) (hk : os1[n]? = some (.has e)) (hR : Rl (ss.map (lendS n)) [.has e] (.fz d) [o']) : Ev K (tCall (spR K Rl) [] EE ta) ρ os d (os1.set n o') := fun R F ps σ H Q I q =>
  ha R F ps σ H _ I fun vs F1 H1 e1 I1 r1 => by
    have hn : n < ps.length := by
      rw [I1.hst.len]
      exact (List.getElem?_eq_some_iff.mp hk).1
    obtain ⟨p, hp⟩ : ∃ p, ps[n]? = some p := ⟨_, List.getElem?_eq_getElem hn⟩
    obtain ⟨R', J, _, back⟩ := I1.hst.lend1 hp hk
    refine ⟨R', F1, [p], _, [.has e], _, [o'], hR, ⟨by rw [List.append_nil]; exact slots_lend hp r1, J⟩, fun v F2 H2 e2 J2 r2 => ?_⟩
    exact q v F2 H2 (e1.trans e2) ⟨I1.sl.up e2 (List.prefix_refl _), back F2 H2 o' e2 J2⟩ r2
theorem en_call1 {Rl : Rel} {ta : TA} {ss : List Sl} {n : Nat} {o' : Ow} {EE : XK} (ha : EvA K ta ρ os ss os1) (hk : os1[n]? = some (.has e)) (hR : Rl (ss.map (lendS n)) [.has e] (.nw d) [o']) : EvN K (tCall (spR K Rl) [] EE ta) ρ os d (os1.set n o') := fun R F ps σ H Q I q =>
  ha R F ps σ H _ I fun vs F1 H1 e1 I1 r1 => by
    have hn : n < ps.length := by
      rw [I1.hst.len]
      exact (List.getElem?_eq_some_iff.mp hk).1
    obtain ⟨p, hp⟩ : ∃ p, ps[n]? = some p := ⟨_, List.getElem?_eq_getElem hn⟩
    obtain ⟨R', J, free, back⟩ := I1.hst.lend1 hp hk
    refine ⟨R', F1, [p], _, [.has e], _, [o'], hR, ⟨by rw [List.append_nil]; exact slots_lend hp r1, J⟩, fun a F2 H2 e2 J2 J3 => ?_⟩
    have B := back F2 H2 o' e2 J3
    obtain ⟨p1, p2, o, p3, p4⟩ := J2.own 1 a d rfl rfl
    have hsl := I1.sl.up e2 (List.prefix_refl ps)
    obtain ⟨q1, q2, w, q3, q4⟩ := J.own 0 p e rfl rfl
    by_cases hne : a = p
    · subst hne
      -- the new object is not the lent one
      cases o' with
      | has d' => exact absurd (J2.dis 0 1 a rfl rfl ⟨_, rfl⟩ ⟨_, rfl⟩) (by decide)
      | gone =>
        have z : ∀ i d', ps[i]? = some a → (os1.set n Ow.gone)[i]? = some (Ow.has d') → False := fun i d' h1 h2 => by
          by_cases zi : i = n
          · subst zi
            rw [List.getElem?_set_self (by rw [← I1.hst.len]; exact hn)] at h2
            cases h2
          · rw [List.getElem?_set_ne (Ne.symm zi)] at h2
            exact zi (I1.hst.dis i n a h1 hp ⟨_, h2⟩ ⟨_, hk⟩)
        exact q a F2 H2 (e1.trans e2) ⟨hsl.up (Ex.refl _) (List.prefix_append _ _), B.add p1 (I1.hst.own n a e hp hk).2.1 z p3 p4⟩ ⟨hsl, B⟩
    · have fr := free a p2 hne
      have z : ∀ i d', ps[i]? = some a → (os1.set n o')[i]? = some (Ow.has d') → False := fun i d' h1 h2 => by
        by_cases zi : i = n
        · subst zi
          rw [hp] at h1
          cases h1
          exact hne rfl
        · rw [List.getElem?_set_ne (Ne.symm zi)] at h2
          exact fr.2 i d' h1 h2
      exact q a F2 H2 (e1.trans e2) ⟨hsl.up (Ex.refl _) (List.prefix_append _ _), B.add p1 fr.1 z p3 p4⟩ ⟨hsl, B⟩
/-- f(.., x, ..), x one's own and only looked at, the answer a scalar -/
theorem Hst.view (h : Hst K F R ps os H) : ∃ G, Ex F G ∧ Hst K G R [] [] H ∧ (∀ (i : Nat) (p : Addr) (d : D), ps[i]? = some p → os[i]? = some (Ow.has d) → Rp K G (.ref p) d) ∧ ∀ G' H', Ex G G' → Hst K G' R [] [] H' → Hst K F R ps os H' := by
  classical
  let mine : Addr → Prop := fun a => ∃ (i : Nat) (d : D), ps[i]? = some a ∧ os[i]? = some (Ow.has d)
  have hG : ∀ a, mine a → F a = none := fun a ⟨i, d, h1, h2⟩ => (h.own i a d h1 h2).1
  have e : Ex F (fun a => if mine a then H a else F a) := fun a u q => by
    by_cases m : mine a
    · rw [hG a m] at q; cases q
    · simp only [m, if_false]; exact q
  refine ⟨fun a => if mine a then H a else F a, e, ⟨fun a u q => ?_, fun a u q => ?_, rfl, fun i a d h1 _ => by simp at h1, fun i j a h1 _ _ _ => by simp at h1⟩, fun i p d h1 h2 => ?_, fun G' H' e' J => ?_⟩
  · by_cases m : mine a
    · simp only [m, if_true] at q; exact q
    · simp only [m, if_false] at q; exact h.sub a u q
  · have m : ¬ mine a := fun ⟨i, d, h1, h2⟩ => by
      obtain ⟨_, q2, _⟩ := h.own i a d h1 h2
      rw [q] at q2; cases q2
    obtain ⟨q1, q2, q3⟩ := h.oth a u q
    exact ⟨by simp only [m, if_false]; exact q1, q2, q3⟩
  · obtain ⟨q1, q2, w, q3, q4⟩ := h.own i p d h1 h2
    have m : mine p := ⟨i, d, h1, h2⟩
    exact (q4.up e).rp (by simp only [m, if_true]; exact q3)
  · refine ⟨(e.trans e').trans J.sub, fun a u q => ?_, h.len, fun i a d h1 h2 => ?_, h.dis⟩
    · obtain ⟨q1, q2, q3⟩ := J.oth a u q
      exact ⟨(h.oth a u q).1, q2, q3⟩
    · obtain ⟨q1, q2, w, q3, q4⟩ := h.own i a d h1 h2
      have m : mine a := ⟨i, d, h1, h2⟩
      exact ⟨q1, q2, w, J.sub _ _ (e' _ _ (by simp only [m, if_true]; exact q3)), q4⟩
theorem ev_callV {Rl : Rel} {ta : TA} {ss : List Sl} {ds : List D} {EE : XK} (ha : EvA K ta ρ os ss os1) (hv : Paired (Look os1) ss ds) (hR : Rl (ds.map Sl.fz) [] (.fz d) []) (hsc : scal d = true) : Ev K (tCall (spR K Rl) [] EE ta) ρ os d os1 := fun R F ps σ H Q I q =>
  ha R F ps σ H _ I fun vs F1 H1 e1 I1 r1 => by
    obtain ⟨G, eG, J, see, back⟩ := I1.hst.view
    have sl : ∀ {vs : List V} {ss : List Sl} {ds : List D}, Paired (SlR K F1 ps) (vs.map some) ss → Paired (Look os1) ss ds → Slots K G [] (vs.map some) (ds.map Sl.fz) := by
      intro vs
      induction vs with
      | nil =>
        intro ss ds h1 h2
        cases h1
        cases h2
        exact .nil
      | cons v vs ih =>
        intro ss ds h1 h2
        cases h1 with
        | @cons _ s _ ss r t =>
          cases h2 with
          | @cons _ d _ ds k t2 =>
            refine .cons ?_ (ih t t2)
            show Rp K G v d
            cases s with
            | un => exact k.elim
            | fz d' =>
              have : d' = d := k
              subst this
              exact Rp.up eG r
            | «at» i =>
              obtain ⟨p, h1, rfl⟩ := r
              exact see i p d h1 k
    refine ⟨R, G, [], _, [], _, [], hR, ⟨by rw [List.append_nil]; exact sl r1 hv, J⟩, fun v F2 H2 e2 J2 r2 => ?_⟩
    exact q v F1 H2 e1 ⟨I1.sl, back F2 H2 e2 J2⟩ (Rp.scal r2 hsc)
end
end Ly

set_option Elab.async false
set_option linter.all false
set_option autoImplicit false
set_option maxRecDepth 100000
set_option maxHeartbeats 4000000
/-! Lay4: more expressions; the plain partial operations that the mirrors are made of. -/
namespace Ly
open PySem PySem.Spec PyProof.Rows L2

structure LH2 (α β : Type) where
  a : α
  b : β
structure LH3 (α β γ : Type) where
  a : α
  b : β
  c : γ
structure LH4 (α β γ δ : Type) where
  a : α
  b : β
  c : γ
  d : δ
@[reducible] instance {α β : Type} [Enc α] [Enc β] : Enc (LH2 α β) := ⟨fun p => .lst [E p.a, E p.b]⟩
@[reducible] instance {α β γ : Type} [Enc α] [Enc β] [Enc γ] : Enc (LH3 α β γ) := ⟨fun p => .lst [E p.a, E p.b, E p.c]⟩
@[reducible] instance {α β γ δ : Type} [Enc α] [Enc β] [Enc γ] [Enc δ] : Enc (LH4 α β γ δ) := ⟨fun p => .lst [E p.a, E p.b, E p.c, E p.d]⟩
/-- a list or a tuple -/
inductive Sq (α : Type) where
  | l (xs : List α) | t (xs : List α)
def Sq.v {α : Type} : Sq α → List α
  | .l xs => xs
  | .t xs => xs
@[reducible] instance {α : Type} [Enc α] : Enc (Sq α) := ⟨fun s => match s with | .l xs => .lst (xs.map E) | .t xs => .tup (xs.map E)⟩

/-! ### plain partial operations -/
def fdivI (i j : Int) : Option Int := if j ≠ 0 ∧ j.natAbs < 1073741824 then some (i.fdiv j) else none
def modI (i j : Int) : Option Int := if j ≠ 0 then some (i.fmod j) else none
def mulI (i j : Int) : Option Int := if i.natAbs.log2 + j.natAbs.log2 < 1000000 then some (i * j) else none
def powI (i j : Int) : Option Int := if 0 ≤ j ∧ j ≤ 1000000 ∧ i.natAbs < 2 ^ 64 then some (i ^ j.toNat) else none
def rngL (lo hi : Int) : Option (List Int) := if rngOk lo hi then some (rng lo hi) else none
def appL {α : Type} (xs : List α) (x : α) : Option (List α) := if xs.length < LIM then some (xs ++ [x]) else none
def popL {α : Type} (xs : List α) (n : Int) : Option (α × List α) := if 0 ≤ n ∧ xs.length ≤ LIM then (xs[n.toNat]?).map fun x => (x, xs.eraseIdx n.toNat) else none
def setL {α : Type} (xs : List α) (n : Int) (x : α) : Option (List α) := (ixN xs.length n).map fun j => xs.set j x
def insL {α : Type} (xs : List α) (n : Int) (x : α) : Option (List α) := if 0 ≤ n ∧ n < 2 ^ 63 ∧ xs.length < LIM then some (xs.take n.toNat ++ [x] ++ xs.drop n.toNat) else none
def absI (i : Int) : Int := if i < 0 then -i else i
def max2 (i j : Int) : Int := if j > i then j else i
def min2 (i j : Int) : Int := if j < i then j else i
def guard (b : Bool) : Option Unit := if b then some () else none
def ctl {S R β : Type} : Ctl S R → (S → β) → (R → β) → β
  | .nx s, f, _ => f s
  | .bk s, f, _ => f s
  | .rt r, _, g => g r
theorem guard_some {b : Bool} {u : Unit} (h : guard b = some u) : b = true := by
  unfold guard at h
  split at h
  · assumption
  · cases h
/-- loops that are not left by a return -/
def loopN {α S : Type} (b : α → S → Option (Ctl S Empty)) (xs : List α) (s : S) : Option S := match loopM b xs s with
  | some (.nx s) => some s
  | _ => none
def whileN {S : Type} (c : S → Option Bool) (b : S → Option (Ctl S Empty)) (n : Nat) (s : S) : Option S := match whileM c b n s with
  | some (.nx s) => some s
  | _ => none
theorem loopN_some {α S : Type} {b : α → S → Option (Ctl S Empty)} {xs : List α} {s s' : S} (h : loopN b xs s = some s') : loopM b xs s = some (.nx s') := by
  unfold loopN at h
  split at h
  · cases h; assumption
  · cases h
theorem whileN_some {S : Type} {c : S → Option Bool} {b : S → Option (Ctl S Empty)} {n : Nat} {s s' : S} (h : whileN c b n s = some s') : whileM c b n s = some (.nx s') := by
  unfold whileN at h
  split at h
  · cases h; assumption
  · cases h

section
variable {K : PySem.W.Frag} {R F G H : Hp} {ps : List Addr} {ρ ρ' : List Sl} {os os1 os2 os3 : List Ow} {σ : L2.St} {s t : Sl} {d e : D} {te ta tb tc : TE} {tt tu : TT} {P : Post}

theorem ev_fdivO {i j r : Int} (ha : Ev K ta ρ os (.int i) os1) (hb : Ev K tb ρ os1 (.int j) os2) (h : fdivI i j = some r) : Ev K (tOp (rI CDivN fun i j => .int (i.fdiv j)) ta tb) ρ os (.int r) os2 := by
  unfold fdivI at h
  split at h
  · cases h
    rename_i h
    exact ev_fdiv ha hb h
  · cases h
theorem ev_modO {i j r : Int} (ha : Ev K ta ρ os (.int i) os1) (hb : Ev K tb ρ os1 (.int j) os2) (h : modI i j = some r) : Ev K (tOp (rI (fun _ j => j ≠ 0) fun i j => .int (i.fmod j)) ta tb) ρ os (.int r) os2 := by
  unfold modI at h
  split at h
  · cases h
    rename_i h
    exact ev_mod ha hb h
  · cases h
theorem ev_mulO {i j r : Int} (ha : Ev K ta ρ os (.int i) os1) (hb : Ev K tb ρ os1 (.int j) os2) (h : mulI i j = some r) : Ev K (tOp (rI CMulW fun i j => .int (i * j)) ta tb) ρ os (.int r) os2 := by
  unfold mulI at h
  split at h
  · cases h
    rename_i h
    exact ev_mulW ha hb h
  · cases h
theorem ev_powO {i j r : Int} (ha : Ev K ta ρ os (.int i) os1) (hb : Ev K tb ρ os1 (.int j) os2) (h : powI i j = some r) : Ev K (tOp (rI CPow fun i j => .int (i ^ j.toNat)) ta tb) ρ os (.int r) os2 := by
  unfold powI at h
  split at h
  · cases h
    rename_i h
    exact ev_pow ha hb h
  · cases h
theorem src_rng1O {ta : TA} {n : Int} {xs : List Int} (h : EvA K ta ρ os [.fz (.int n)] os1) (hn : rngL 0 n = some xs) : Src K (iRng1 ta) ρ os (xs.map E) os1 := by
  unfold rngL at hn
  split at hn
  · cases hn
    rename_i hn
    exact src_rng1 h hn
  · cases hn
theorem src_rng2O {ta : TA} {m n : Int} {xs : List Int} (h : EvA K ta ρ os [.fz (.int m), .fz (.int n)] os1) (hn : rngL m n = some xs) : Src K (iRng2 ta) ρ os (xs.map E) os1 := by
  unfold rngL at hn
  split at hn
  · cases hn
    rename_i hn
    exact src_rng2 h hn
  · cases hn
theorem src_lst {α : Type} [Enc α] {xs : List α} (h : Ev K te ρ os (E xs) os1) : Src K (iList K te) ρ os (xs.map E) os1 := src_list h
theorem src_tupT {α : Type} [Enc α] {xs : Tup α} (h : Ev K te ρ os (E xs) os1) : Src K (iTup K te) ρ os (xs.l.map E) os1 := src_tup h
theorem ev_appO {α : Type} [Enc α] {xs ys : List α} {x : α} {i : Nat} (ha : EvS K ta ρ os (.at i) os) (h0 : ∃ ds, os[i]? = some (.has (.lst ds))) (hb : Ev K tb ρ os (E x) os1) (hk : os1[i]? = some (.has (E xs))) (h : appL xs x = some ys) :
    Ev K (tBM K "list" rAppend ta (tCons tb tNil)) ρ os .non (os1.set i (.has (E ys))) := by
  unfold appL at h
  split at h
  · cases h
    rename_i h
    exact ev_append ha h0 hb hk h
  · cases h
theorem ev_popO {α : Type} [Enc α] {xs ys : List α} {x : α} {i : Nat} {n : Int} (ha : EvS K ta ρ os (.at i) os) (h0 : ∃ ds, os[i]? = some (.has (.lst ds))) (hb : Ev K tb ρ os (.int n) os1) (hk : os1[i]? = some (.has (E xs))) (h : popL xs n = some (x, ys)) :
    Ev K (tBM K "list" rPopAt ta (tCons tb tNil)) ρ os (E x) (os1.set i (.has (E ys))) := by
  unfold popL at h
  split at h
  · rename_i hc
    obtain ⟨y, hy, he⟩ := Option.map_eq_some_iff.mp h
    cases he
    exact ev_popAt ha h0 hb hk hc.1 hy hc.2
  · cases h
theorem run_setO {α : Type} [Enc α] {xs ys : List α} {x : α} {i : Nat} {n : Int} (h : Ev K te ρ os (E x) os1) (ha : EvS K ta ρ os1 (.at i) os1) (hb : Ev K tb ρ os1 (.int n) os2) (hk : os2[i]? = some (.has (E xs))) (hj : setL xs n x = some ys)
    (k : P.nx ρ (os2.set i (.has (E ys)))) : Run K (tAsg te (gSub ta tb rSetL)) ρ os P := by
  unfold setL at hj
  obtain ⟨j, hj2, rfl⟩ := Option.map_eq_some_iff.mp hj
  exact run_setL h ha hb hk hj2 k
/-- xs[n] = e, a list of unlike things -/
theorem run_setD {ds : List D} {i : Nat} {n : Int} {j : Nat} (h : Ev K te ρ os d os1) (ha : EvS K ta ρ os1 (.at i) os1) (hb : Ev K tb ρ os1 (.int n) os2) (hk : os2[i]? = some (.has (.lst ds))) (hj : ixN ds.length n = some j)
    (k : P.nx ρ (os2.set i (.has (.lst (ds.set j d))))) : Run K (tAsg te (gSub ta tb rSetL)) ρ os P := fun R F ps σ H Dn I c =>
  h R F ps σ H _ I fun v F1 H1 e1 I1 r1 => ha R F1 ps σ H1 _ I1 fun u F2 H2 e2 I2 r2 => hb R F2 ps σ H2 _ I2 fun w F3 H3 e3 I3 r3 => by
    obtain ⟨p, hp, rfl⟩ := r2
    cases (show Rp K F3 w (.int n) from r3)
    obtain ⟨vs, hv, r⟩ := I3.lst hp hk
    exact ⟨p, vs, n, j, rfl, rfl, hv, by rw [r.length]; exact hj, c.nx _ _ F3 ps σ _ ((e1.trans e2).trans e3) (List.prefix_refl _) (I3.wr hp hk (.lst (r.set (Rp.up (e2.trans e3) r1) j))) k⟩
/-- xs.insert(n, e) -/
theorem ev_insO {α : Type} [Enc α] {xs ys : List α} {x : α} {i : Nat} {n : Int} (ha : EvS K ta ρ os (.at i) os) (h0 : ∃ ds, os[i]? = some (.has (.lst ds))) (hb : Ev K tb ρ os (.int n) os1) (hc : Ev K tc ρ os1 (E x) os2) (hk : os2[i]? = some (.has (E xs))) (h : insL xs n x = some ys) :
    Ev K (tBM K "list" (fun x vs H Q => ∃ (l : Addr) (xs : List V) (i : Int) (y : V), x = .ref l ∧ vs = [.int i, y] ∧ H l = some (.lst xs) ∧ xs.length < sizeLine ∧ 0 ≤ i ∧ i < 2 ^ 63 ∧
    Q .non (upd H l (.lst (xs.take i.toNat ++ [y] ++ xs.drop i.toNat)))) ta (tCons tb (tCons tc tNil))) ρ os .non (os2.set i (.has (E ys))) := fun R F ps σ H Q I q =>
  ha R F ps σ H _ I fun v F1 H1 e1 I1 r1 => by
    obtain ⟨p, hp, rfl⟩ := r1
    obtain ⟨ds, h0⟩ := h0
    obtain ⟨xs0, hx0, _⟩ := I1.lst hp h0
    unfold insL at h
    split at h
    case isFalse => cases h
    rename_i hcond
    cases h
    refine ⟨.inl ⟨rfl, xs0, .inl (.inl hx0)⟩, hb R F1 ps σ H1 _ I1 fun w F2 H2 e2 I2 r2 => hc R F2 ps σ H2 _ I2 fun u F3 H3 e3 I3 r3 => ?_⟩
    cases (show Rp K F2 w (.int n) from r2)
    obtain ⟨vs, hv, r⟩ := I3.lst hp hk
    refine ⟨p, vs, n, u, rfl, rfl, hv, by rw [r.length, List.length_map]; exact hcond.2.2, hcond.1, hcond.2.1, q .non F3 _ ((e1.trans e2).trans e3) (I3.wr (d' := E (xs.take n.toNat ++ [x] ++ xs.drop n.toNat)) hp hk ?_) .non⟩
    show ObjR K F3 (.lst (vs.take n.toNat ++ [u] ++ vs.drop n.toNat)) (.lst ((xs.take n.toNat ++ [x] ++ xs.drop n.toNat).map E))
    rw [List.map_append, List.map_append, List.map_take, List.map_drop]
    exact .lst (((r.take _).app (.cons r3 .nil)).app (r.drop _))

/-! numbers -/
theorem ev_abs {i : Int} {ta : TA} (h : EvA K ta ρ os [.fz (.int i)] os1) : Ev K (tCB (fun xs H Q => ∃ i, xs = [.int i] ∧ Q (.int (if i < 0 then -i else i)) H) ta) ρ os (.int (absI i)) os1 := fun R F ps σ H Q I q =>
  h R F ps σ H _ I fun vs F1 H1 e1 I1 r1 => by
    obtain ⟨v, rfl, r⟩ := one_of r1
    cases r
    exact ⟨i, rfl, q _ F1 H1 e1 I1 (.int _)⟩
theorem ev_int1 {i : Int} {ta : TA} (h : EvA K ta ρ os [.fz (.int i)] os1) : Ev K (tCB (fun xs H Q => (∃ i, xs = [.int i] ∧ Q (.int i) H) ∨ ∃ k, xs = [.bl k] ∧ Q (.int (if k then 1 else 0)) H) ta) ρ os (.int i) os1 := fun R F ps σ H Q I q =>
  h R F ps σ H _ I fun vs F1 H1 e1 I1 r1 => by
    obtain ⟨v, rfl, r⟩ := one_of r1
    cases r
    exact .inl ⟨i, rfl, q _ F1 H1 e1 I1 (.int _)⟩
theorem ev_max2 {i j : Int} {ta : TA} (h : EvA K ta ρ os [.fz (.int i), .fz (.int j)] os1) : Ev K (tCB (fun xs H Q => ∃ i j, xs = [.int i, .int j] ∧ Q (.int (if j > i then j else i)) H) ta) ρ os (.int (max2 i j)) os1 := fun R F ps σ H Q I q =>
  h R F ps σ H _ I fun vs F1 H1 e1 I1 r1 => by
    obtain ⟨v, w, rfl, r, r'⟩ := two_of r1
    cases r; cases r'
    exact ⟨i, j, rfl, q _ F1 H1 e1 I1 (.int _)⟩
theorem ev_min2 {i j : Int} {ta : TA} (h : EvA K ta ρ os [.fz (.int i), .fz (.int j)] os1) : Ev K (tCB (fun xs H Q => ∃ i j, xs = [.int i, .int j] ∧ Q (.int (if j < i then j else i)) H) ta) ρ os (.int (min2 i j)) os1 := fun R F ps σ H Q I q =>
  h R F ps σ H _ I fun vs F1 H1 e1 I1 r1 => by
    obtain ⟨v, w, rfl, r, r'⟩ := two_of r1
    cases r; cases r'
    exact ⟨i, j, rfl, q _ F1 H1 e1 I1 (.int _)⟩

/-! isinstance -/
def tyN : D → String
  | .non => "NoneType"
  | .bl _ => "bool"
  | .int _ => "int"
  | .str _ => "str"
  | .lst _ => "list"
  | .tup _ => "tuple"
  | .dct _ => "dict"
  | .dctT _ => "dict"
  | .adr _ => "?"
  | .ty _ => "?"
theorem tyX_of (h : Hst K F R ps os H) {v : V} (r : Rp K F v d) (hq : tyN d ≠ "?") (hd : ∀ ds, d = .dctT ds → ∀ a o u, v = .ref a → F a ≠ some (.frz o u)) : TyX K H v (.type (tyN d)) := by
  cases r with
  | non => exact .base .non
  | bl b => exact .base (.bl b)
  | int i => exact .base (.int i)
  | str x => exact .base (.str x)
  | ty n => exact absurd rfl hq
  | @lst a xs ds h1 h2 =>
    rcases h1 with (h1 | ⟨o, h1⟩) | ⟨o, its, n, h1, h3, _⟩
    · exact .base (.lst (h.sub _ _ h1))
    · exact .base (.frz (h.sub _ _ h1))
    · exact .kList h1 h3
  | tup h1 h2 => exact .base (.tup (h.sub _ _ h1))
  | dct h1 h2 =>
    rcases h1 with h1 | ⟨o, h1⟩
    · exact .base (.dK (h.sub _ _ h1))
    · exact .fDict (h.sub _ _ h1)
  | dctT h1 h2 =>
    rcases h1 with h1 | ⟨o, h1⟩
    · exact .base (.dT (h.sub _ _ h1))
    · exact absurd h1 (hd _ rfl _ _ _ rfl)
  | adr a => exact absurd rfl hq
theorem twoS_of {F : Hp} {vs : List V} {s t : Sl} (h : Paired (SlR K F ps) (vs.map some) [s, t]) : ∃ v w, vs = [v, w] ∧ SlR K F ps (some v) s ∧ SlR K F ps (some w) t := by
  match vs, h with
  | [v, w], .cons r (.cons q .nil) => exact ⟨v, w, rfl, r, q⟩
theorem ev_ty {n : String} : Ev K (tC (.ty n)) ρ os (.ty n) os := fun R F ps σ H Q I q => q _ F H (Ex.refl F) I (.ty n)
def notT : D → Bool
  | .dctT _ => false
  | .adr _ => false
  | .ty _ => false
  | _ => true
theorem tyN_ok (h : notT d = true) : tyN d ≠ "?" := by
  cases d <;> first | (cases h; done) | (simp [tyN])
theorem ev_isi {n : String} {b : Bool} {ta : TA} (h : EvA K ta ρ os [.fz d, .fz (.ty n)] os1) (hq : notT d = true) (hb : kitB (tyN d) n = some b) : Ev K (tCB (rIsi K) ta) ρ os (.bl b) os1 := fun R F ps σ H Q I q =>
  h R F ps σ H _ I fun vs F1 H1 e1 I1 r1 => by
    obtain ⟨v, w, rfl, r, r'⟩ := two_of r1
    cases r'
    exact ⟨v, .ty n, _, .type n, b, rfl, .ty n, tyX_of I1.hst r (tyN_ok hq) (fun ds e => by subst e; cases hq), kit_ty hb, q _ F1 H1 e1 I1 (.bl b)⟩

theorem take_app_le {α : Type} {l m : List α} {n : Nat} (h : l.length ≤ n) : (l ++ m).take n = l ++ m.take (n - l.length) := by
  rw [List.take_append, List.take_of_length_le h]
/-! a join behind an if -/
theorem run_join {V' : Type} {v : V'} {ts us : TS} (shape : V' → List Sl) (osh : V' → List Ow) (hn : os.length ≤ (osh v).length) (hif : Run K ts ρ os { P with nx := fun ρ' os' => Wk ρ' os' (shape v) (osh v) }) (hrest : Run K us (shape v) (osh v) P) : Run K (tSeq ts us) ρ os P := fun R F ps σ H Dn I c =>
  hif R F ps σ H _ I ⟨fun ρ' os' F' ps' σ' H' e p J w => by
    have hp : ps <+: ps'.take (osh v).length := by
      obtain ⟨t, rfl⟩ := p
      have : ps.length ≤ (osh v).length := by rw [I.hst.len]; exact hn
      rw [take_app_le this]
      exact List.prefix_append _ _
    exact hrest R F' _ σ' H' Dn (J.wk w) (c.up e hp), c.rt, c.bk, c.ct⟩
theorem run_nxW {ρ2 : List Sl} {osn : List Ow} (h : Wk ρ os ρ2 osn) (hP : P.nx = fun ρ' os' => Wk ρ' os' ρ2 osn) : P.nx ρ os := by rw [hP]; exact h
/-- a for that is not left -/
theorem run_forN {α S : Type} [Enc α] {wi : TI} {g : TG} {tb : TS} {xs : List α} {b : α → S → Option (Ctl S Empty)} {s0 s1 : S} (shape : S → List Sl) (osh : S → List Ow)
    (hs : Src K wi ρ os (xs.map E) os1) (hm : loopN b xs s0 = some s1) (hw : Wk ρ os1 (shape s0) (osh s0)) (hn : ∀ s, (osh s).length = os1.length)
    (hb : ∀ x s c', x ∈ xs → b x s = some c' → ∃ ρ' js, TgB K g (E x) (shape s) ρ' js ∧ Run K tb ρ' (osh s) (LPost P shape osh (fun (_ : Empty) _ _ => False) c'))
    (hx : P.nx (shape s1) (osh s1)) : Run K (tFor wi g tb) ρ os P :=
  run_for shape osh (fun (_ : Empty) _ _ => False) hs (loopN_some hm) hw hn hb (fun s e => by cases e; exact hx) (fun r => nomatch r)
theorem run_whileN {S : Type} {tb : TS} {cM : S → Option Bool} {b : S → Option (Ctl S Empty)} {n : Nat} {s0 s1 : S} (shape : S → List Sl) (osh : S → List Ow)
    (hm : whileN cM b n s0 = some s1) (hw : Wk ρ os (shape s0) (osh s0)) (hn : ∀ s, (osh s).length = os.length)
    (ht : ∀ s q, cM s = some q → EvT K tt (shape s) (osh s) q (osh s))
    (hb : ∀ s c', cM s = some true → b s = some c' → Run K tb (shape s) (osh s) (LPost P shape osh (fun (_ : Empty) _ _ => False) c'))
    (hx : P.nx (shape s1) (osh s1)) : Run K (tWhile tt tb) ρ os P :=
  run_while shape osh (fun (_ : Empty) _ _ => False) (whileN_some hm) hw hn ht hb (fun s e => by cases e; exact hx) (fun r => nomatch r)

/-! truth values, joined -/
theorem et_andP {a b : Bool} (h : EvT K tt ρ os a os1) (h1 : EvT K tu ρ os1 b os1) : EvT K (tAnd tt tu) ρ os (a && b) os1 := by
  cases a with
  | true => exact et_and h (fun _ => h1) (fun z => nomatch z)
  | false => exact et_and h (fun z => nomatch z) (fun _ => ⟨rfl, rfl⟩)
theorem et_orP {a b : Bool} (h : EvT K tt ρ os a os1) (h1 : EvT K tu ρ os1 b os1) : EvT K (tOr tt tu) ρ os (a || b) os1 := by
  cases a with
  | true => exact et_or h (fun z => nomatch z) (fun _ => ⟨rfl, rfl⟩)
  | false => exact et_or h (fun _ => h1) (fun z => nomatch z)
theorem ev_andP {a b : Bool} (h : Ev K ta ρ os (.bl a) os1) (h1 : Ev K tb ρ os1 (.bl b) os1) : Ev K (tAndV ta tb) ρ os (.bl (a && b)) os1 := by
  cases a with
  | true => exact ev_andV h (fun _ => h1) (fun z => nomatch z)
  | false => exact ev_andV h (fun z => nomatch z) (fun _ => ⟨rfl, rfl⟩)
theorem ev_orP {a b : Bool} (h : Ev K ta ρ os (.bl a) os1) (h1 : Ev K tb ρ os1 (.bl b) os1) : Ev K (tOrV ta tb) ρ os (.bl (a || b)) os1 := by
  cases a with
  | true => exact ev_orV h (fun z => nomatch z) (fun _ => ⟨rfl, rfl⟩)
  | false => exact ev_orV h (fun _ => h1) (fun z => nomatch z)
theorem ev_ifP {α : Type} [Enc α] {b : Bool} {x y : α} (h : EvT K tt ρ os b os1) (h1 : Ev K ta ρ os1 (E x) os1) (h2 : Ev K tb ρ os1 (E y) os1) : Ev K (tIf tt ta tb) ρ os (E (cond b x y)) os1 := by
  cases b with
  | true => exact ev_if h (fun _ => h1) (fun z => nomatch z)
  | false => exact ev_if h (fun z => nomatch z) (fun _ => h2)
theorem cond_tt {b : Bool} {v : Bool} {os0 : List Ow} (hb : b = false) (h : cond b (some true) (some v) = some true ∨ True) : True := True.intro
end
end Ly

set_option Elab.async false
set_option linter.all false
set_option autoImplicit false
set_option maxRecDepth 100000
set_option maxHeartbeats 4000000
/-! Lay5: data of any kind; comprehensions without effects; sums of truths. -/
namespace Ly
open PySem PySem.Spec PyProof.Rows L2

def dIx : D → Int → Option D
  | .lst ds, i => atI ds i
  | .tup ds, i => atI ds i
  | _, _ => none
def dLen : D → Option Int
  | .lst ds => some ds.length
  | .tup ds => some ds.length
  | _ => none
def dTup : D → Option (List D)
  | .tup ds => some ds
  | _ => none
def dLst : D → Option (List D)
  | .lst ds => some ds
  | _ => none
def dIsi (d : D) (n : String) : Option Bool := if notT d then kitB (tyN d) n else none
def mapO {α β : Type} (f : α → β) (xs : List α) : Option (List β) := if xs.length ≤ LIM then some (xs.map f) else none
def filtO {α β : Type} (p : α → Bool) (f : α → β) (xs : List α) : Option (List β) := if xs.length ≤ LIM then some ((xs.filter p).map f) else none
theorem compM_map {α β : Type} {p : α → Bool} {f : α → β} : ∀ {xs : List α}, compM (fun x (_ : Unit) => some (cond (p x) (some (f x)) none, ())) xs () = some ((xs.filter p).map f, ())
  | [] => rfl
  | x :: xs => by
    have ih := compM_map (p := p) (f := f) (xs := xs)
    simp only [compM, ih]
    cases h : p x <;> simp [List.filter_cons, h]

section
variable {K : PySem.W.Frag} {R F G H : Hp} {ps : List Addr} {ρ ρ' : List Sl} {os os1 os2 os3 : List Ow} {σ : L2.St} {s t : Sl} {d e : D} {te ta tb tc : TE} {tt tu : TT} {P : Post}
/-- xs[i], a list or a tuple -/
theorem ev_ixQ {ds : List D} {i : Int} (ha : EvS K ta ρ os s os1) (hb : Ev K tb ρ os1 (.int i) os2) (k : Look os2 s (.lst ds) ∨ Look os2 s (.tup ds)) (h : atI ds i = some d) : Ev K (tOp (rIx K) ta tb) ρ os d os2 := fun R F ps σ H Q I q => by
  rcases k with k | k
  · exact ha R F ps σ H _ I fun v F1 H1 e1 I1 r1 => hb R F1 ps σ H1 _ I1 fun w F2 H2 e2 I2 r2 => by
      cases (show Rp K F2 w (.int i) from r2)
      obtain ⟨a, xs, rfl, h1, h2⟩ := I2.seeL (SlR.up e2 (List.prefix_refl _) r1) k
      obtain ⟨x, h3, h4⟩ := atI_rp h2 h
      exact .inl ⟨a, xs, i, x, rfl, rfl, h1, h3, q x F2 H2 (e1.trans e2) I2 h4⟩
  · exact ha R F ps σ H _ I fun v F1 H1 e1 I1 r1 => hb R F1 ps σ H1 _ I1 fun w F2 H2 e2 I2 r2 => by
      cases (show Rp K F2 w (.int i) from r2)
      obtain ⟨a, xs, rfl, h1, h2⟩ := I2.seeT (SlR.up e2 (List.prefix_refl _) r1) k
      obtain ⟨x, h3, h4⟩ := atI_rp h2 h
      exact .inr (.inl ⟨a, xs, i, x, rfl, rfl, h1, h3, q x F2 H2 (e1.trans e2) I2 h4⟩)
theorem look_sq {α : Type} [Enc α] {xs : Sq α} (k : Look os s (E xs)) : Look os s (.lst (xs.v.map E)) ∨ Look os s (.tup (xs.v.map E)) := by
  cases xs with
  | l xs => exact .inl k
  | t xs => exact .inr k
theorem ev_ixSq {α : Type} [Enc α] {xs : Sq α} {x : α} {i : Int} (ha : EvS K ta ρ os s os1) (hb : Ev K tb ρ os1 (.int i) os2) (k : Look os2 s (E xs)) (h : atI xs.v i = some x) : Ev K (tOp (rIx K) ta tb) ρ os (E x) os2 :=
  ev_ixQ ha hb (look_sq k) (atI_map h)
theorem ev_ixD {c : D} {i : Int} (ha : EvS K ta ρ os s os1) (hb : Ev K tb ρ os1 (.int i) os2) (k : Look os2 s c) (h : dIx c i = some d) : Ev K (tOp (rIx K) ta tb) ρ os d os2 := by
  cases c <;> first | (cases h; done) | exact ev_ixQ ha hb (.inl k) h | exact ev_ixQ ha hb (.inr k) h
theorem ev_lenSq {α : Type} [Enc α] {xs : Sq α} {ta : TA} (h : EvA K ta ρ os [s] os1) (k : Look os1 s (E xs)) :
    Ev K (tCB (fun xs H Q => ∃ p ys, xs = [.ref p] ∧ (SqL K H p ys ∨ SqT K H p ys) ∧ Q (.int ys.length) H) ta) ρ os (.int (xs.v.length : Int)) os1 := by
  have := ev_len h (look_sq k)
  rwa [List.length_map] at this
theorem ev_lenD {c : D} {n : Int} {ta : TA} (h : EvA K ta ρ os [s] os1) (k : Look os1 s c) (hn : dLen c = some n) :
    Ev K (tCB (fun xs H Q => ∃ p ys, xs = [.ref p] ∧ (SqL K H p ys ∨ SqT K H p ys) ∧ Q (.int ys.length) H) ta) ρ os (.int n) os1 := by
  cases c <;> first | (cases hn; done) | (cases hn; exact ev_len h (.inl k)) | (cases hn; exact ev_len h (.inr k))
theorem en_listSq {α : Type} [Enc α] {xs : Sq α} {ta : TA} (h : EvA K ta ρ os [s] os1) (k : Look os1 s (E xs)) :
    EvN K (tCB (fun xs H Q => ∃ p ys, xs = [.ref p] ∧ (SqL K H p ys ∨ SqT K H p ys) ∧ ∀ l, H l = none → Q (.ref l) (upd H l (.lst ys))) ta) ρ os (E xs.v) os1 := en_list h (look_sq k)
theorem ev_tupL {α : Type} [Enc α] {xs : List α} {ta : TA} (h : EvA K ta ρ os [s] os1) (k : Look os1 s (E xs)) :
    Ev K (tCB (fun xs H Q => ∃ p ys, xs = [.ref p] ∧ ((SqL K H p ys ∧ ∀ l, H l = none → Q (.ref l) (upd H l (.tup ys))) ∨ (SqT K H p ys ∧ Q (.ref p) H))) ta) ρ os (E (⟨xs⟩ : Tup α)) os1 := fun R F ps σ H Q I q =>
  h R F ps σ H _ I fun vs F1 H1 e1 I1 r1 => by
    obtain ⟨v, rfl, r⟩ := oneS_of r1
    obtain ⟨a, ys, rfl, h1, h2⟩ := I1.seeL r k
    refine ⟨a, ys, rfl, .inl ⟨h1, fun l hl => ?_⟩⟩
    obtain ⟨e2, I2⟩ := I1.newF hl (o := .tup ys)
    exact q (.ref l) _ _ (e1.trans e2) I2 (.tup upd_same (h2.up e2))
theorem src_dTup {ds : List D} (h : Ev K te ρ os d os1) (hd : dTup d = some ds) : Src K (iTup K te) ρ os (ds.map E) os1 := by
  cases d <;> first | (cases hd; done) | skip
  cases hd
  rw [show ds.map E = ds from List.map_id ds]
  exact src_tup h
theorem src_dLst {ds : List D} (h : Ev K te ρ os d os1) (hd : dLst d = some ds) : Src K (iList K te) ρ os (ds.map E) os1 := by
  cases d <;> first | (cases hd; done) | skip
  cases hd
  rw [show ds.map E = ds from List.map_id ds]
  exact src_list h
theorem ev_isiD {n : String} {b : Bool} {ta : TA} (h : EvA K ta ρ os [.fz d, .fz (.ty n)] os1) (hb : dIsi d n = some b) : Ev K (tCB (rIsi K) ta) ρ os (.bl b) os1 := by
  unfold dIsi at hb
  split at hb
  · rename_i hq
    exact ev_isi h hq hb
  · cases hb
theorem ev_isI {i j : Int} (h : Ev K te ρ os (.int i) os1) (q : i = j) : Ev K te ρ os (.int j) os1 := q ▸ h
theorem rpl_bls {F : Hp} {vs : List V} {bs : List Bool} (r : RpL K F vs (bs.map E)) : vs = bs.map V.bl := of_rpl_bls r
theorem ev_all {bs : List Bool} {ta : TA} (h : EvA K ta ρ os [s] os1) (k : Look os1 s (E bs)) : Ev K (tCB (rAll K) ta) ρ os (.bl (bs.all id)) os1 := fun R F ps σ H Q I q =>
  h R F ps σ H _ I fun vs F1 H1 e1 I1 r1 => by
    obtain ⟨v, rfl, r⟩ := oneS_of r1
    obtain ⟨a, ys, rfl, h1, h2⟩ := I1.seeL r k
    have := rpl_bls h2
    subst this
    exact ⟨a, bs, rfl, h1, q _ F1 H1 e1 I1 (.bl _)⟩
theorem ev_any {bs : List Bool} {ta : TA} (h : EvA K ta ρ os [s] os1) (k : Look os1 s (E bs)) : Ev K (tCB (rAny K) ta) ρ os (.bl (bs.any id)) os1 := fun R F ps σ H Q I q =>
  h R F ps σ H _ I fun vs F1 H1 e1 I1 r1 => by
    obtain ⟨v, rfl, r⟩ := oneS_of r1
    obtain ⟨a, ys, rfl, h1, h2⟩ := I1.seeL r k
    have := rpl_bls h2
    subst this
    exact ⟨a, bs, rfl, h1, q _ F1 H1 e1 I1 (.bl _)⟩
/-- comprehensions whose parts are plain -/
theorem en_lcM {α β : Type} [Enc α] [Enc β] {wi : TI} {g : TG} {xs : List α} {f : α → β} {ys : List β} {vs : List Nat} (hs : Src K wi ρ os (xs.map E) os1) (hm : mapO f xs = some ys)
    (hb : ∀ x, x ∈ xs → ∃ ρ' js, TgB K g (E x) (wipeS ρ vs) ρ' js ∧ (∀ j ∈ js, j ∈ vs) ∧ Ev K te ρ' os1 (E (f x)) os1) : EvN K (tLc wi g tYes te vs) ρ os (E ys) os1 := by
  unfold mapO at hm
  split at hm
  case isFalse => cases hm
  rename_i hl
  cases hm
  have e : xs.map f = (xs.filter fun _ => true).map f := by rw [List.filter_eq_self.mpr fun _ _ => rfl]
  rw [e]
  refine en_lc (S := Unit) (f := fun x _ => some (cond ((fun _ => true) x) (some (f x)) none, ())) (s1 := ()) (fun _ => os1) hs (by unfold comp; rw [if_pos hl]; exact compM_map) rfl fun x s y s' hx h => ?_
  obtain ⟨ρ', js, h1, h2, h3⟩ := hb x hx
  refine ⟨ρ', js, h1, h2, true, os1, fun R F ps σ H Q I q => q F H (Ex.refl F) I, fun _ => ?_, fun z => nomatch z⟩
  cases h
  exact ⟨_, rfl, h3⟩
theorem en_lcF {α β : Type} [Enc α] [Enc β] {wi : TI} {g : TG} {xs : List α} {p : α → Bool} {f : α → β} {ys : List β} {vs : List Nat} (hs : Src K wi ρ os (xs.map E) os1) (hm : filtO p f xs = some ys)
    (hb : ∀ x, x ∈ xs → ∃ ρ' js, TgB K g (E x) (wipeS ρ vs) ρ' js ∧ (∀ j ∈ js, j ∈ vs) ∧ EvT K tt ρ' os1 (p x) os1 ∧ (p x = true → Ev K te ρ' os1 (E (f x)) os1)) : EvN K (tLc wi g tt te vs) ρ os (E ys) os1 := by
  unfold filtO at hm
  split at hm
  case isFalse => cases hm
  rename_i hl
  cases hm
  refine en_lc (S := Unit) (f := fun x _ => some (cond (p x) (some (f x)) none, ())) (s1 := ()) (fun _ => os1) hs (by unfold comp; rw [if_pos hl]; exact compM_map) rfl fun x s y s' hx h => ?_
  obtain ⟨ρ', js, h1, h2, h3, h4⟩ := hb x hx
  refine ⟨ρ', js, h1, h2, p x, os1, h3, fun hp => ?_, fun hp => ?_⟩
  · cases h
    exact ⟨_, by rw [hp]; rfl, h4 hp⟩
  · cases h
    exact ⟨by rw [hp]; rfl, rfl⟩
/-- x += e, x -= e -/
theorem run_aug {f : Int → Int → Int} {i : Nat} {a b : Int} (hx : ρ[i]? = some (.fz (.int a))) (h : Ev K te ρ os (.int b) os1) (k : P.nx (ρ.set i (.fz (.int (f a b)))) os1) : Run K (tAug i te (ipI f)) ρ os P := fun R F ps σ H Dn I c => by
  obtain ⟨v, h1, h2⟩ := I.fz hx
  cases h2
  refine ⟨_, h1, h R F ps σ H _ I fun w F1 H1 e1 I1 r1 => ?_⟩
  cases (show Rp K F1 w (.int b) from r1)
  exact ⟨a, b, rfl, rfl, c.nx _ _ F1 ps _ H1 e1 (List.prefix_refl _) (I1.set i (s := .fz (.int (f a b))) (ov := some (.int (f a b))) (Rp.int _)) k⟩
theorem run_augAdd {i : Nat} {a b : Int} (hx : ρ[i]? = some (.fz (.int a))) (h : Ev K te ρ os (.int b) os1) (k : P.nx (ρ.set i (.fz (.int (a + b)))) os1) : Run K (tAug i te (ipI (· + ·))) ρ os P := run_aug hx h k
theorem run_augSub {i : Nat} {a b : Int} (hx : ρ[i]? = some (.fz (.int a))) (h : Ev K te ρ os (.int b) os1) (k : P.nx (ρ.set i (.fz (.int (a - b)))) os1) : Run K (tAug i te (ipI (· - ·))) ρ os P := run_aug hx h k
end
end Ly

set_option Elab.async false
set_option linter.all false
set_option autoImplicit false
set_option maxRecDepth 100000
set_option maxHeartbeats 4000000
/-! Lay6: the syntax rules, with the written part a letter (so that they serve within a block, too). -/
namespace Ly
open PySem PySem.Spec PyProof.Rows L2
section
variable {X : Cx} {K : PySem.W.Frag}
theorem ix_listK (hK : X.K = K) : IxR X (rIxL K) := by subst hK; exact ix_list
theorem ix_tupK (hK : X.K = K) : IxR X (rIxT K) := by subst hK; exact ix_tup
theorem ix_seqK (hK : X.K = K) : IxR X (rIx K) := by subst hK; exact ix_seq
theorem call_lenK (hK : X.K = K) : CallR X (.builtin "len") (fun xs H Q => ∃ p ys, xs = [.ref p] ∧ (SqL K H p ys ∨ SqT K H p ys) ∧ Q (.int ys.length) H) := by subst hK; exact call_len_seq
theorem call_listK (hK : X.K = K) : CallR X (.type "list") (fun xs H Q => ∃ p ys, xs = [.ref p] ∧ (SqL K H p ys ∨ SqT K H p ys) ∧ ∀ l, H l = none → Q (.ref l) (upd H l (.lst ys))) := by subst hK; exact call_list_of
theorem call_tupleK (hK : X.K = K) : CallR X (.type "tuple") (fun xs H Q => ∃ p ys, xs = [.ref p] ∧ ((SqL K H p ys ∧ ∀ l, H l = none → Q (.ref l) (upd H l (.tup ys))) ∨ (SqT K H p ys ∧ Q (.ref p) H))) := by subst hK; exact call_tuple_of
theorem call_isK (hK : X.K = K) : CallR X (.builtin "isinstance") (rIsi K) := by subst hK; exact call_isi
theorem call_allK (hc : X.calm = true) (hK : X.K = K) : CallR X (.builtin "all") (rAll K) := by subst hK; exact cr_all hc
theorem call_anyK (hc : X.calm = true) (hK : X.K = K) : CallR X (.builtin "any") (rAny K) := by subst hK; exact cr_any hc
theorem pi_listK {tg l : Expr} {tl : TE} (hK : X.K = K) (hl : PE X l tl) : PI X tg l (iList K tl) := by subst hK; exact pi_list hl
theorem pi_tupK {tg l : Expr} {tl : TE} (hK : X.K = K) (hl : PE X l tl) : PI X tg l (iTup K tl) := by subst hK; exact pi_tup hl
theorem pg_tupK {es : List Expr} {k : Nat} {t : TGs} {n : Nat} {pos : Pos} (hK : X.K = K) (hc : X.calm = true) (h : PGs X es t)
    (hn : (assignEach es X.env).length = n := by rfl) (hst : (assignEach es X.env).findIdx? (·.1) = none := by rfl) : PG X (.Tuple es k pos) (gTup K n t) := by subst hK; exact pg_tup hc h hn hst
theorem pe_bmK {T : String} {name : Str} {id : String} {r : V → List V → Hp → VK → Prop} {o e : Expr} {es : List Expr} {to : TE} {t : TA} {apos cpos : Pos} (hK : X.K = K) (pa : PlainAttrs T) (slot : Slot T name id) (hty : typeOf (.builtin id) = pure (.type "method_descriptor")) (hm : MtR X id r) (ho : PE X o to) (ha : PA X (e :: es) t)
    (hbase : attributeBase o name X.env (eval o X.env) = eval o X.env := by rfl)
    (hfew : ((backTo cpos (starEach (e :: es) X.env)).all (fun x => !x.1) && (backToKw cpos (keywordEach [] X.env)).all (fun x => x.1.isSome)
      && decide ((e :: es).length + ([] : List Keyword).length + (if ([] : List Keyword).isEmpty then 0 else 1) < 30)) = true := by rfl)
    (hline : (apos.endLine == cpos.line) = true := by rfl) (hs : starEach (e :: es) X.env = (false, eval e X.env) :: starEach es X.env := by rfl) (hplain : (backTo cpos (starEach es X.env)).any (·.1) = false := by rfl) :
    PE X (.Call (.Attribute o name apos) (e :: es) [] cpos) (tBM K T r to t) := by subst hK; exact pe_bm pa slot hty hm ho ha hbase hfew hline hs hplain
end
end Ly

set_option Elab.async false
set_option linter.all false
set_option autoImplicit false
set_option maxRecDepth 100000
set_option maxHeartbeats 4000000
/-! Lay7: dicts; any length; scalars compared. -/
namespace Ly
open PySem PySem.Spec PyProof.Rows L2

def keyD : Key → D
  | .inl i => .int i
  | .inr x => .str x
@[reducible] instance : Enc Key := ⟨keyD⟩
/-- a tuple that is a key -/
structure TK where
  l : List Key
@[reducible] instance : Enc TK := ⟨fun t => .tup (t.l.map keyD)⟩
section
variable {κ α : Type} [DecidableEq κ]
def dget (l : List (κ × α)) (k : κ) : Option α := (l.find? fun kv => decide (kv.1 = k)).map (·.2)
def dhas (l : List (κ × α)) (k : κ) : Bool := (dget l k).isSome
def dput (l : List (κ × α)) (k : κ) (v : α) : List (κ × α) :=
  if (l.any fun kv => decide (kv.1 = k)) = true then l.map (fun kv => if kv.1 = k then (kv.1, v) else kv) else l ++ [(k, v)]
def dputO (l : List (κ × α)) (k : κ) (v : α) : Option (List (κ × α)) := if l.length < LIM then some (dput l k v) else none
theorem dget_map {β : Type} {f : α → β} {l : List (κ × α)} {k : κ} : dget (l.map fun p => (p.1, f p.2)) k = (dget l k).map f := by
  unfold dget
  induction l with
  | nil => rfl
  | cons p l ih =>
    by_cases e : p.1 = k
    · simp [List.find?_cons, e]
    · simpa [List.find?_cons, e] using ih
theorem dhas_map {β : Type} {f : α → β} {l : List (κ × α)} {k : κ} : dhas (l.map fun p => (p.1, f p.2)) k = dhas l k := by
  unfold dhas
  rw [dget_map, Option.isSome_map]
theorem dput_map {β : Type} {f : α → β} {l : List (κ × α)} {k : κ} {v : α} : (dput l k v).map (fun p => (p.1, f p.2)) = dput (l.map fun p => (p.1, f p.2)) k (f v) := by
  unfold dput
  rw [List.any_map]
  have e : ((fun kv : κ × β => decide (kv.1 = k)) ∘ fun p : κ × α => (p.1, f p.2)) = fun kv => decide (kv.1 = k) := rfl
  rw [e]
  split
  · rw [List.map_map, List.map_map]
    apply List.map_congr_left
    intro p _
    by_cases h : p.1 = k <;> simp [h]
  · simp
end
/-- a D as a key -/
def dKey : D → Option Key
  | .int i => some (.inl i)
  | .str x => some (.inr x)
  | _ => none
def dKeys : List D → Option (List Key)
  | [] => some []
  | d :: ds => match dKey d, dKeys ds with
    | some k, some ks => some (k :: ks)
    | _, _ => none
def dTK : D → Option TK
  | .tup ds => (dKeys ds).map TK.mk
  | _ => none
theorem dKey_eq {d : D} {k : Key} (h : dKey d = some k) : d = keyD k := by
  cases d <;> first | (cases h; done) | (cases h; rfl)
theorem dKeys_eq : ∀ {ds : List D} {ks : List Key}, dKeys ds = some ks → ds = ks.map keyD
  | [], _, h => by cases h; rfl
  | d :: ds, ks, h => by
    unfold dKeys at h
    split at h
    · rename_i k ks' h1 h2
      cases h
      rw [dKey_eq h1, dKeys_eq h2]
      rfl
    · cases h
theorem dTK_eq {d : D} {k : TK} (h : dTK d = some k) : d = E k := by
  cases d <;> first | (cases h; done) | skip
  obtain ⟨ks, h1, rfl⟩ := Option.map_eq_some_iff.mp h
  rw [dKeys_eq h1]
  rfl
def dDct : D → Option (List (Key × D))
  | .dct l => some l
  | _ => none
def dDctT : D → Option (List (List Key × D))
  | .dctT l => some l
  | _ => none
/-- scalars of one kind compared -/
def dEq : D → D → Option Bool
  | .int i, .int j => some (decide (i = j))
  | .bl i, .bl j => some (decide (i = j))
  | .str i, .str j => some (decide (i = j))
  | _, _ => none
/-- len of anything -/
def dLenA : D → Option Int
  | .lst ds => some ds.length
  | .tup ds => some ds.length
  | .dct ds => some ds.length
  | _ => none

section
variable {K : PySem.W.Frag} {R F G H : Hp} {ps : List Addr} {ρ ρ' : List Sl} {os os1 os2 os3 : List Ow} {σ : L2.St} {s t : Sl} {d e : D} {te ta tb tc td tk tv : TE} {tt tu : TT} {P : Post}
theorem rpk_put {d : D} {v : V} (h : Rp K F v d) (k : Key) : ∀ {vs : List (Key × V)} {ds : List (Key × D)}, RpK K F vs ds → RpK K F (putK vs k v) (dput ds k d) := by
  intro vs ds r
  have ha : (vs.any fun kv => decide (kv.1 = k)) = ds.any fun kv => decide (kv.1 = k) := by
    clear h
    induction vs generalizing ds with
    | nil => cases r; rfl
    | cons p vs ih =>
      cases r with
      | cons h r =>
        rw [List.any_cons, List.any_cons, ih r]
  have mp : ∀ {vs : List (Key × V)} {ds : List (Key × D)}, RpK K F vs ds → RpK K F (vs.map fun kv => if kv.1 = k then (kv.1, v) else kv) (ds.map fun kv => if kv.1 = k then (kv.1, d) else kv) := by
    intro vs
    induction vs with
    | nil => intro ds r; cases r; exact .nil
    | cons p vs ih =>
      intro ds r
      cases r with
      | @cons k2 _ _ d2 ds q2 r2 =>
        rw [List.map_cons, List.map_cons]
        by_cases e : k2 = k
        · simp only [e, if_true]; exact .cons h (ih r2)
        · simp only [e, if_false]; exact .cons q2 (ih r2)
  have app : ∀ {vs : List (Key × V)} {ds : List (Key × D)}, RpK K F vs ds → RpK K F (vs ++ [(k, v)]) (ds ++ [(k, d)]) := by
    intro vs
    induction vs with
    | nil => intro ds r; cases r; exact .cons h .nil
    | cons p vs ih => intro ds r; cases r with | cons q r => exact .cons q (ih r)
  unfold putK dput
  rw [ha]
  split
  · exact mp r
  · exact app r
theorem rpt_put {d : D} {v : V} (h : Rp K F v d) (k : List Key) : ∀ {vs : List (List Key × V)} {ds : List (List Key × D)}, RpT K F vs ds → RpT K F (putK vs k v) (dput ds k d) := by
  intro vs ds r
  have ha : (vs.any fun kv => decide (kv.1 = k)) = ds.any fun kv => decide (kv.1 = k) := by
    clear h
    induction vs generalizing ds with
    | nil => cases r; rfl
    | cons p vs ih =>
      cases r with
      | cons h r =>
        rw [List.any_cons, List.any_cons, ih r]
  have mp : ∀ {vs : List (List Key × V)} {ds : List (List Key × D)}, RpT K F vs ds → RpT K F (vs.map fun kv => if kv.1 = k then (kv.1, v) else kv) (ds.map fun kv => if kv.1 = k then (kv.1, d) else kv) := by
    intro vs
    induction vs with
    | nil => intro ds r; cases r; exact .nil
    | cons p vs ih =>
      intro ds r
      cases r with
      | @cons k2 _ _ d2 ds q2 r2 =>
        rw [List.map_cons, List.map_cons]
        by_cases e : k2 = k
        · simp only [e, if_true]; exact .cons h (ih r2)
        · simp only [e, if_false]; exact .cons q2 (ih r2)
  have app : ∀ {vs : List (List Key × V)} {ds : List (List Key × D)}, RpT K F vs ds → RpT K F (vs ++ [(k, v)]) (ds ++ [(k, d)]) := by
    intro vs
    induction vs with
    | nil => intro ds r; cases r; exact .cons h .nil
    | cons p vs ih => intro ds r; cases r with | cons q r => exact .cons q (ih r)
  unfold putK dput
  rw [ha]
  split
  · exact mp r
  · exact app r
theorem rp_key {v : V} {k : Key} (r : Rp K F v (keyD k)) : v = kV k := by
  cases k with
  | inl i => cases r; rfl
  | inr x => cases r; rfl
theorem rpl_keys : ∀ {ks : List Key} {vs : List V}, RpL K F vs (ks.map keyD) → vs = ks.map kV
  | [], _, .nil => rfl
  | k :: ks, _, .cons h r => by
    rw [rp_key h, rpl_keys r]
    rfl
theorem rp_tk {v : V} {ks : List Key} (e : Ex F H) (r : Rp K F v (.tup (ks.map keyD))) : ∃ b, v = .ref b ∧ H b = some (.tup (ks.map kV)) := by
  cases r with
  | tup h1 h2 =>
    rw [rpl_keys h2] at h1
    exact ⟨_, rfl, e _ _ h1⟩
/-! reading -/
theorem seeGetK (h : St K R F ps ρ os σ H) {v y : V} {ds : List (Key × D)} {k : Key} (r : SlR K F ps (some v) s) (l : Look os s (.dct ds)) (ry : Rp K F y (keyD k)) :
    ∃ a o, v = .ref a ∧ DGet H a y o ∧ o.isSome = dhas ds k ∧ ∀ d, dget ds k = some d → ∃ w, o = some w ∧ Rp K F w d := by
  obtain ⟨a, xs, rfl, h1, h2⟩ := h.seeK r l
  refine ⟨a, valV xs k, rfl, .inl ⟨xs, k, h1, rp_key ry, rfl⟩, ?_, fun d hd => ?_⟩
  · unfold dhas dget
    rcases RpK.val k h2 with ⟨w, d', e1, e2, _⟩ | ⟨e1, e2⟩
    · rw [e1, e2]; rfl
    · rw [e1, e2]
      rfl
  · unfold dget at hd
    rcases RpK.val k h2 with ⟨w, d', e1, e2, e3⟩ | ⟨e1, e2⟩
    · rw [e2] at hd
      cases hd
      exact ⟨w, e1, e3⟩
    · rw [e2] at hd; cases hd
theorem seeGetT (h : St K R F ps ρ os σ H) {v y : V} {ds : List (List Key × D)} {k : List Key} (r : SlR K F ps (some v) s) (l : Look os s (.dctT ds)) (ry : Rp K F y (.tup (k.map keyD))) :
    ∃ a o, v = .ref a ∧ DGet H a y o ∧ o.isSome = dhas ds k ∧ ∀ d, dget ds k = some d → ∃ w, o = some w ∧ Rp K F w d := by
  obtain ⟨a, xs, rfl, h1, h2⟩ := h.seeD r l
  obtain ⟨b, rfl, hb⟩ := rp_tk h.hst.sub ry
  refine ⟨a, valV xs k, rfl, .inr ⟨xs, k, b, h1, rfl, hb, rfl⟩, ?_, fun d hd => ?_⟩
  · unfold dhas dget
    rcases RpT.val k h2 with ⟨w, d', e1, e2, _⟩ | ⟨e1, e2⟩
    · rw [e1, e2]; rfl
    · rw [e1, e2]
      rfl
  · unfold dget at hd
    rcases RpT.val k h2 with ⟨w, d', e1, e2, e3⟩ | ⟨e1, e2⟩
    · rw [e2] at hd
      cases hd
      exact ⟨w, e1, e3⟩
    · rw [e2] at hd; cases hd
theorem ev_dgetKD {ds : List (Key × D)} {k : Key} (hd : EvS K td ρ os s os1) (hk : Ev K tk ρ os1 (keyD k) os2) (l : Look os2 s (.dct ds)) (h : dget ds k = some d) : Ev K (tDGet td tk) ρ os d os2 := fun R F ps σ H Q I q =>
  hd R F ps σ H _ I fun v F1 H1 e1 I1 r1 => hk R F1 ps σ H1 _ I1 fun y F2 H2 e2 I2 r2 => by
    obtain ⟨a, o, rfl, g, _, c⟩ := seeGetK I2 (SlR.up e2 (List.prefix_refl _) r1) l r2
    obtain ⟨w, rfl, rw'⟩ := c d h
    exact ⟨a, w, rfl, g, q w F2 H2 (e1.trans e2) I2 rw'⟩
theorem ev_dgetTD {ds : List (List Key × D)} {k : List Key} (hd : EvS K td ρ os s os1) (hk : Ev K tk ρ os1 (.tup (k.map keyD)) os2) (l : Look os2 s (.dctT ds)) (h : dget ds k = some d) : Ev K (tDGet td tk) ρ os d os2 := fun R F ps σ H Q I q =>
  hd R F ps σ H _ I fun v F1 H1 e1 I1 r1 => hk R F1 ps σ H1 _ I1 fun y F2 H2 e2 I2 r2 => by
    obtain ⟨a, o, rfl, g, _, c⟩ := seeGetT I2 (SlR.up e2 (List.prefix_refl _) r1) l r2
    obtain ⟨w, rfl, rw'⟩ := c d h
    exact ⟨a, w, rfl, g, q w F2 H2 (e1.trans e2) I2 rw'⟩
theorem ev_dgetK {α : Type} [Enc α] {l : List (Key × α)} {k : Key} {x : α} (hd : EvS K td ρ os s os1) (hk : Ev K tk ρ os1 (keyD k) os2) (lk : Look os2 s (E (⟨l⟩ : Dct α))) (h : dget l k = some x) : Ev K (tDGet td tk) ρ os (E x) os2 :=
  ev_dgetKD hd hk lk (by rw [dget_map, h]; rfl)
theorem ev_dgetT {α : Type} [Enc α] {l : List (List Key × α)} {k : List Key} {x : α} (hd : EvS K td ρ os s os1) (hk : Ev K tk ρ os1 (.tup (k.map keyD)) os2) (lk : Look os2 s (E (⟨l⟩ : DctT α))) (h : dget l k = some x) : Ev K (tDGet td tk) ρ os (E x) os2 :=
  ev_dgetTD hd hk lk (by rw [dget_map, h]; rfl)
theorem ev_dinKD {ds : List (Key × D)} {k : Key} (hk : Ev K tk ρ os (keyD k) os1) (hd : EvS K td ρ os1 s os2) (l : Look os2 s (.dct ds)) : Ev K (tDIn tk td) ρ os (.bl (dhas ds k)) os2 := fun R F ps σ H Q I q =>
  hk R F ps σ H _ I fun y F1 H1 e1 I1 r1 => hd R F1 ps σ H1 _ I1 fun v F2 H2 e2 I2 r2 => by
    obtain ⟨a, o, rfl, g, c, _⟩ := seeGetK I2 r2 l (Rp.up e2 r1)
    exact ⟨a, o, rfl, g, q _ F2 H2 (e1.trans e2) I2 (by rw [c]; exact .bl _)⟩
theorem ev_dinTD {ds : List (List Key × D)} {k : List Key} (hk : Ev K tk ρ os (.tup (k.map keyD)) os1) (hd : EvS K td ρ os1 s os2) (l : Look os2 s (.dctT ds)) : Ev K (tDIn tk td) ρ os (.bl (dhas ds k)) os2 := fun R F ps σ H Q I q =>
  hk R F ps σ H _ I fun y F1 H1 e1 I1 r1 => hd R F1 ps σ H1 _ I1 fun v F2 H2 e2 I2 r2 => by
    obtain ⟨a, o, rfl, g, c, _⟩ := seeGetT I2 r2 l (Rp.up e2 r1)
    exact ⟨a, o, rfl, g, q _ F2 H2 (e1.trans e2) I2 (by rw [c]; exact .bl _)⟩
theorem ev_dniKD {ds : List (Key × D)} {k : Key} (hk : Ev K tk ρ os (keyD k) os1) (hd : EvS K td ρ os1 s os2) (l : Look os2 s (.dct ds)) : Ev K (tDNotIn tk td) ρ os (.bl (!dhas ds k)) os2 := fun R F ps σ H Q I q =>
  hk R F ps σ H _ I fun y F1 H1 e1 I1 r1 => hd R F1 ps σ H1 _ I1 fun v F2 H2 e2 I2 r2 => by
    obtain ⟨a, o, rfl, g, c, _⟩ := seeGetK I2 r2 l (Rp.up e2 r1)
    exact ⟨a, o, rfl, g, q _ F2 H2 (e1.trans e2) I2 (by rw [c]; exact .bl _)⟩
theorem ev_dniTD {ds : List (List Key × D)} {k : List Key} (hk : Ev K tk ρ os (.tup (k.map keyD)) os1) (hd : EvS K td ρ os1 s os2) (l : Look os2 s (.dctT ds)) : Ev K (tDNotIn tk td) ρ os (.bl (!dhas ds k)) os2 := fun R F ps σ H Q I q =>
  hk R F ps σ H _ I fun y F1 H1 e1 I1 r1 => hd R F1 ps σ H1 _ I1 fun v F2 H2 e2 I2 r2 => by
    obtain ⟨a, o, rfl, g, c, _⟩ := seeGetT I2 r2 l (Rp.up e2 r1)
    exact ⟨a, o, rfl, g, q _ F2 H2 (e1.trans e2) I2 (by rw [c]; exact .bl _)⟩
theorem ev_dinK {α : Type} [Enc α] {l : List (Key × α)} {k : Key} (hk : Ev K tk ρ os (keyD k) os1) (hd : EvS K td ρ os1 s os2) (lk : Look os2 s (E (⟨l⟩ : Dct α))) : Ev K (tDIn tk td) ρ os (.bl (dhas l k)) os2 := by
  have := ev_dinKD hk hd lk
  rwa [dhas_map] at this
theorem ev_dinT {α : Type} [Enc α] {l : List (List Key × α)} {k : List Key} (hk : Ev K tk ρ os (.tup (k.map keyD)) os1) (hd : EvS K td ρ os1 s os2) (lk : Look os2 s (E (⟨l⟩ : DctT α))) : Ev K (tDIn tk td) ρ os (.bl (dhas l k)) os2 := by
  have := ev_dinTD hk hd lk
  rwa [dhas_map] at this
theorem ev_dniK {α : Type} [Enc α] {l : List (Key × α)} {k : Key} (hk : Ev K tk ρ os (keyD k) os1) (hd : EvS K td ρ os1 s os2) (lk : Look os2 s (E (⟨l⟩ : Dct α))) : Ev K (tDNotIn tk td) ρ os (.bl (!dhas l k)) os2 := by
  have := ev_dniKD hk hd lk
  rwa [dhas_map] at this
theorem ev_dniT {α : Type} [Enc α] {l : List (List Key × α)} {k : List Key} (hk : Ev K tk ρ os (.tup (k.map keyD)) os1) (hd : EvS K td ρ os1 s os2) (lk : Look os2 s (E (⟨l⟩ : DctT α))) : Ev K (tDNotIn tk td) ρ os (.bl (!dhas l k)) os2 := by
  have := ev_dniTD hk hd lk
  rwa [dhas_map] at this
/-! making -/
theorem en_dnewK {α : Type} [Enc α] : EvN K tDNewK ρ os (E (⟨[]⟩ : Dct α)) os := fun R F ps σ H Q I q p hp => by
  have I2 := I.newO hp (o := .dK []) (.dct .nil)
  exact q p F _ (Ex.refl F) I2 ⟨I.sl, by
    have := I2.hst.cut ps.length
    rwa [List.take_left, show ps.length = os.length from I.hst.len, List.take_left] at this⟩
theorem en_dnewT {α : Type} [Enc α] : EvN K tDNewT ρ os (E (⟨[]⟩ : DctT α)) os := fun R F ps σ H Q I q p hp => by
  have I2 := I.newO hp (o := .dT []) (.dctT .nil)
  exact q p F _ (Ex.refl F) I2 ⟨I.sl, by
    have := I2.hst.cut ps.length
    rwa [List.take_left, show ps.length = os.length from I.hst.len, List.take_left] at this⟩
/-- d[k] = e -/
theorem run_dputK {α : Type} [Enc α] {l l' : List (Key × α)} {k : Key} {x : α} {i : Nat} (hv : Ev K tv ρ os (E x) os1) (hd : EvS K td ρ os1 (.at i) os1) (hk : Ev K tk ρ os1 (keyD k) os2) (lk : os2[i]? = some (.has (E (⟨l⟩ : Dct α)))) (h : dputO l k x = some l')
    (kk : P.nx ρ (os2.set i (.has (E (⟨l'⟩ : Dct α))))) : Run K (sDPut td tk tv) ρ os P := fun R F ps σ H Dn I c =>
  hv R F ps σ H _ I fun v F1 H1 e1 I1 r1 => hd R F1 ps σ H1 _ I1 fun u F2 H2 e2 I2 r2 => hk R F2 ps σ H2 _ I2 fun y F3 H3 e3 I3 r3 => by
    obtain ⟨p, hp, rfl⟩ := r2
    unfold dputO at h
    split at h
    case isFalse => cases h
    rename_i hz
    cases h
    obtain ⟨_, _, o, ho, hr⟩ := I3.hst.own i p _ hp lk
    cases hr with
    | @dct kvs _ r =>
      have hl : kvs.length < sizeLine := by rw [r.length, List.length_map]; exact hz
      refine ⟨p, _, rfl, .inl ⟨kvs, k, ho, rp_key r3, hl, rfl⟩, c.nx _ _ F3 ps σ _ ((e1.trans e2).trans e3) (List.prefix_refl _) (I3.wr (d' := E (⟨dput l k x⟩ : Dct α)) hp lk ?_) kk⟩
      show ObjR K F3 _ (.dct ((dput l k x).map fun p => (p.1, E p.2)))
      rw [dput_map]
      exact .dct (rpk_put (Rp.up (e2.trans e3) r1) k r)
theorem run_dputT {α : Type} [Enc α] {l l' : List (List Key × α)} {k : List Key} {x : α} {i : Nat} (hv : Ev K tv ρ os (E x) os1) (hd : EvS K td ρ os1 (.at i) os1) (hk : Ev K tk ρ os1 (.tup (k.map keyD)) os2) (lk : os2[i]? = some (.has (E (⟨l⟩ : DctT α)))) (h : dputO l k x = some l')
    (kk : P.nx ρ (os2.set i (.has (E (⟨l'⟩ : DctT α))))) : Run K (sDPut td tk tv) ρ os P := fun R F ps σ H Dn I c =>
  hv R F ps σ H _ I fun v F1 H1 e1 I1 r1 => hd R F1 ps σ H1 _ I1 fun u F2 H2 e2 I2 r2 => hk R F2 ps σ H2 _ I2 fun y F3 H3 e3 I3 r3 => by
    obtain ⟨p, hp, rfl⟩ := r2
    obtain ⟨b, rfl, hb⟩ := rp_tk I3.hst.sub r3
    unfold dputO at h
    split at h
    case isFalse => cases h
    rename_i hz
    cases h
    obtain ⟨_, _, o, ho, hr⟩ := I3.hst.own i p _ hp lk
    cases hr with
    | @dctT kvs _ r =>
      have hl : kvs.length < sizeLine := by rw [r.length, List.length_map]; exact hz
      refine ⟨p, _, rfl, .inr ⟨kvs, k, b, ho, rfl, hb, hl, rfl⟩, c.nx _ _ F3 ps σ _ ((e1.trans e2).trans e3) (List.prefix_refl _) (I3.wr (d' := E (⟨dput l k x⟩ : DctT α)) hp lk ?_) kk⟩
      show ObjR K F3 _ (.dctT ((dput l k x).map fun p => (p.1, E p.2)))
      rw [dput_map]
      exact .dctT (rpt_put (Rp.up (e2.trans e3) r1) k r)
/-! any length -/
theorem CallR.or {X : Cx} {f : Value} {r r' : List V → Hp → VK → Prop} (h : CallR X f r) (h' : CallR X f r') : CallR X f (fun xs H Q => r xs H Q ∨ r' xs H Q) := by
  intro pins s σ H xs us Q I rv q
  rcases q with q | q
  · exact h pins s σ H xs us Q I rv q
  · exact h' pins s σ H xs us Q I rv q
def rLenSq (K : PySem.W.Frag) : List V → Hp → VK → Prop := fun xs H Q => ∃ p ys, xs = [.ref p] ∧ (SqL K H p ys ∨ SqT K H p ys) ∧ Q (.int ys.length) H
def rLenDk : List V → Hp → VK → Prop := fun xs H Q => ∃ a kvs, xs = [V.ref a] ∧ Rd H a (.dK kvs) ∧ Q (.int kvs.length) H
theorem call_lenDk {X : Cx} : CallR X (.builtin "len") rLenDk := by
  intro pins s σ H xs us Q I r h
  obtain ⟨a, kvs, rfl, ha, q⟩ := h
  obtain ⟨u, rfl, ru⟩ := vals1 r
  cases ru
  exact d_len I ha fun t s' I' => ⟨.int kvs.length, H, I', ⟨t, rfl⟩, q⟩
theorem call_lenA {X : Cx} (hK : X.K = K) : CallR X (.builtin "len") (fun xs H Q => rLenSq K xs H Q ∨ rLenDk xs H Q) := CallR.or (call_lenK hK) call_lenDk
theorem ev_lenA {c : D} {n : Int} {ta : TA} (h : EvA K ta ρ os [s] os1) (k : Look os1 s c) (hn : dLenA c = some n) : Ev K (tCB (fun xs H Q => rLenSq K xs H Q ∨ rLenDk xs H Q) ta) ρ os (.int n) os1 := fun R F ps σ H Q I q =>
  h R F ps σ H _ I fun vs F1 H1 e1 I1 r1 => by
    obtain ⟨v, rfl, r⟩ := oneS_of r1
    cases c with
    | lst ds =>
      cases hn
      obtain ⟨a, xs, rfl, h1, h2⟩ := I1.seeL r k
      exact .inl ⟨a, xs, rfl, .inl h1, q _ F1 H1 e1 I1 (by rw [h2.length]; exact .int _)⟩
    | tup ds =>
      cases hn
      obtain ⟨a, xs, rfl, h1, h2⟩ := I1.seeT r k
      exact .inl ⟨a, xs, rfl, .inr h1, q _ F1 H1 e1 I1 (by rw [h2.length]; exact .int _)⟩
    | dct ds =>
      cases hn
      obtain ⟨a, xs, rfl, h1, h2⟩ := I1.seeK r k
      exact .inr ⟨a, xs, rfl, h1, q _ F1 H1 e1 I1 (by rw [h2.length]; exact .int _)⟩
    | _ => cases hn
theorem ev_lenK {α : Type} [Enc α] {l : List (Key × α)} {ta : TA} (h : EvA K ta ρ os [s] os1) (k : Look os1 s (E (⟨l⟩ : Dct α))) : Ev K (tCB (fun xs H Q => rLenSq K xs H Q ∨ rLenDk xs H Q) ta) ρ os (.int (l.length : Int)) os1 :=
  ev_lenA h k (by show some ((l.map _).length : Int) = _; rw [List.length_map])
/-! scalars compared -/
theorem ev_eqD {a b : D} {r : Bool} (ha : Ev K ta ρ os a os1) (hb : Ev K tb ρ os1 b os2) (h : dEq a b = some r) : Ev K (tOp rEq ta tb) ρ os (.bl r) os2 := by
  cases a <;> first | (cases h; done) | skip
  all_goals (cases b <;> first | (cases h; done) | skip)
  · cases h; exact ev_eqB ha hb
  · cases h; exact ev_eqI ha hb
  · cases h; exact ev_eqS ha hb
/-! a dict walked by its keys -/
theorem ps_lockO {X : Cx} {st : Stmt} {t : TS} (h : PS X st t) : PS X st (fun D σ H => tLock t D σ H ∨ t D σ H) := ⟨fun pins s σ H D I q => by
  rcases q with q | q
  · exact (ps_lock h).run pins s σ H D I q
  · exact h.run pins s σ H D I q⟩
theorem lk_lock {p : Addr} {u : HO} {o : Obj} (hu : F p = some u) (hn : nf u = true) (ht : ∀ xs, u ≠ .tup xs) : Lk F (upd F p (.frz o u)) := by
  refine ⟨fun a w hw h => ?_, fun a xs h => ?_⟩
  · by_cases e : a = p
    · subst e
      rcases h with h | ⟨o', h⟩
      · rw [hu] at h; cases h
        exact .inr ⟨o, upd_same⟩
      · rw [hu] at h; cases h
        cases hn
    · rcases h with h | ⟨o', h⟩
      · exact .inl (by rw [upd_ne e]; exact h)
      · exact .inr ⟨o', by rw [upd_ne e]; exact h⟩
  · by_cases e : a = p
    · subst e
      rw [hu] at h; cases h
      exact absurd rfl (ht xs)
    · rw [upd_ne e]; exact h
theorem lk_unlock {p : Addr} {u : HO} {o : Obj} (hu : F p = some (.frz o u)) (hn : nf u = true) : Lk F (upd F p u) := by
  refine ⟨fun a w hw h => ?_, fun a xs h => ?_⟩
  · by_cases e : a = p
    · subst e
      rcases h with h | ⟨o', h⟩
      · rw [hu] at h; cases h
        cases hw
      · rw [hu] at h; cases h
        exact .inl upd_same
    · rcases h with h | ⟨o', h⟩
      · exact .inl (by rw [upd_ne e]; exact h)
      · exact .inr ⟨o', by rw [upd_ne e]; exact h⟩
  · by_cases e : a = p
    · subst e
      rw [hu] at h; cases h
    · rw [upd_ne e]; exact h
theorem SlR.lk (e : Lk F G) : ∀ {ov : Option V} {s : Sl}, SlR K F ps ov s → SlR K G ps ov s
  | _, .un, _ => True.intro
  | some _, .fz _, h => Rp.lk e h
  | some _, .at i, h => h
  | none, .fz _, h => h
  | none, .at _, h => h
/-- what stands still at p is exchanged for what reads the same -/
theorem St.swap (h : St K R F ps ρ os σ H) {p : Addr} {u u' : HO} (hu : F p = some u) (e : Lk F (upd F p u')) : St K R (upd F p u') ps ρ os σ (upd H p u') := by
  refine ⟨Paired.mapP h.sl fun _ _ r => SlR.lk e r, ⟨fun a w q => ?_, fun a w q => ?_, h.hst.len, fun i a d h1 h2 => ?_, h.hst.dis⟩⟩
  · by_cases z : a = p
    · subst z
      rw [upd_same] at q ⊢; exact q
    · rw [upd_ne z] at q ⊢; exact h.hst.sub _ _ q
  · obtain ⟨q1, q2, q3⟩ := h.hst.oth a w q
    have z : a ≠ p := fun z => by
      subst z
      rw [hu] at q1; cases q1
    exact ⟨by rw [upd_ne z]; exact q1, by rw [upd_ne z]; exact q2, q3⟩
  · obtain ⟨q1, q2, w, q3, q4⟩ := h.hst.own i a d h1 h2
    have z : a ≠ p := fun z => by
      subst z
      rw [hu] at q1; cases q1
    exact ⟨by rw [upd_ne z]; exact q1, q2, w, by rw [upd_ne z]; exact q3, q4.lk e⟩
/-- a new walk is a new tuple's at most -/
theorem walks_keys {p : Addr} {o : Obj} {kvs : List (Key × V)} {ds : List (Key × D)} (hp : F p = some (.frz o (.dK kvs))) (r : RpK K F kvs ds) : Walks K (Itk p o kvs) F ((ds.map (·.1)).map E) := by
  unfold Walks
  have hl : ((ds.map (·.1)).map (E : Key → D)).length = kvs.length := by rw [List.length_map, List.length_map, r.length]
  rw [hl]
  refine walk_keys.mono (fun H' e => e _ _ hp) fun i H' x H'' hi e y => ?_
  obtain ⟨rfl, k, v, hk, rfl⟩ := y
  have key : ∀ {kvs : List (Key × V)} {ds : List (Key × D)} {i : Nat}, RpK K F kvs ds → kvs[i]? = some (k, v) → (ds.map (·.1))[i]? = some k := by
    intro kvs
    induction kvs with
    | nil => intro ds i _ h; simp at h
    | cons a kvs ih =>
      intro ds i r h
      cases r with
      | cons _ r =>
        cases i with
        | zero => simp at h; simp [h.1]
        | succ i => simpa using ih r (by simpa using h)
  refine ⟨E k, by rw [List.getElem?_map, key r hk]; rfl, fun R F2 ps os e2 I2 => ⟨F2, Ex.refl _, I2, ?_⟩⟩
  cases k with
  | inl i => exact .int i
  | inr x => exact .str x
theorem walks_keysT {p : Addr} {o : Obj} {kvs : List (List Key × V)} {ds : List (List Key × D)} (hp : F p = some (.frz o (.dT kvs))) (r : RpT K F kvs ds) : Walks K (Itkt p o kvs) F ((ds.map fun kv => (⟨kv.1⟩ : TK)).map E) := by
  unfold Walks
  have hl : ((ds.map fun kv => (⟨kv.1⟩ : TK)).map (E : TK → D)).length = kvs.length := by rw [List.length_map, List.length_map, r.length]
  rw [hl]
  refine walk_keysT.mono (fun H' e => e _ _ hp) fun i H' x H'' hi e y => ?_
  obtain ⟨rfl, k, v, b, hk, rfl, hb⟩ := y
  have key : ∀ {kvs : List (List Key × V)} {ds : List (List Key × D)} {i : Nat}, RpT K F kvs ds → kvs[i]? = some (k, v) → (ds.map fun kv => (⟨kv.1⟩ : TK))[i]? = some ⟨k⟩ := by
    intro kvs
    induction kvs with
    | nil => intro ds i _ h; simp at h
    | cons a kvs ih =>
      intro ds i r h
      cases r with
      | cons _ r =>
        cases i with
        | zero => simp at h; simp [h.1]
        | succ i => simpa using ih r (by simpa using h)
  have keys : ∀ {F : Hp} (ks : List Key), RpL K F (ks.map kV) (ks.map keyD) := by
    intro F ks
    induction ks with
    | nil => exact .nil
    | cons k ks ih =>
      refine .cons ?_ ih
      cases k with
      | inl i => exact .int i
      | inr x => exact .str x
  refine ⟨E (⟨k⟩ : TK), by rw [List.getElem?_map, key r hk]; rfl, fun R F2 ps os e2 I2 => ?_⟩
  cases hF : F2 b with
  | some w =>
    have := I2.sub _ _ hF
    rw [hb] at this
    cases this
    exact ⟨F2, Ex.refl _, I2, .tup hF (keys k)⟩
  | none =>
    have e3 : Ex F2 (upd F2 b (.tup (k.map kV))) := Ex.new hF
    refine ⟨_, e3, ⟨fun a w q => ?_, fun a w q => ?_, I2.len, fun i a d h1 h2 => ?_, I2.dis⟩, .tup upd_same (keys k)⟩
    · by_cases z : a = b
      · subst z
        rw [upd_same] at q; cases q; exact hb
      · rw [upd_ne z] at q; exact I2.sub _ _ q
    · obtain ⟨q1, q2, q3⟩ := I2.oth a w q
      have z : a ≠ b := fun z => by
        subst z
        rw [hb] at q2; cases q2
        exact q3 _ rfl
      exact ⟨by rw [upd_ne z]; exact q1, q2, q3⟩
    · obtain ⟨q1, q2, w, q3, q4⟩ := I2.own i a d h1 h2
      have z : a ≠ b := fun z => by
        subst z
        rw [hb] at q3; cases q3
        cases q4
      exact ⟨by rw [upd_ne z]; exact q1, q2, w, q3, q4.up e3⟩
/-- for k in d, d a name that stands still -/
theorem run_lock_core {wi : TI} {g : TG} {tb : TS} {α S Rr : Type} [Enc α] {xs : List α} {b : α → S → Option (Ctl S Rr)} {s0 : S} {c : Ctl S Rr} (shape : S → List Sl) (osh : S → List Ow) (RP : Rr → Sl → List Ow → Prop)
    (hm : loopM b xs s0 = some c) (hw : Wk ρ os (shape s0) (osh s0)) (hn : ∀ s, (osh s).length = os.length)
    (hb : ∀ x s c', x ∈ xs → b x s = some c' → ∃ ρ' js, TgB K g (E x) (shape s) ρ' js ∧ Run K tb ρ' (osh s) (LPost P shape osh RP c'))
    (hx : ∀ s, c = .nx s → P.nx (shape s) (osh s)) (hr : ∀ r, c = .rt r → ∀ sl os', RP r sl os' → P.rt sl os')
    {Dn : Ends} (I : St K R F ps ρ os σ H) (cn : Cont K R P F ps Dn) {p : Addr} {u : HO} (hF : F p = some u) (hnf : nf u = true) (htu : ∀ xs, u ≠ .tup xs) (hmu : Mut (some u))
    (src : ∀ (o : Obj) (F1 H1 : Hp), F1 p = some (.frz o u) → St K R F1 ps ρ os σ H1 → ∀ Q : It → Hp → Prop, (∀ J F' H', Ex F1 F' → St K R F' ps ρ os σ H' → Walks K J F' (xs.map E) → Q J H') → wi σ H1 Q) : tLock (tFor wi g tb) Dn σ H := by
  refine ⟨p, u, I.hst.sub _ _ hF, hmu, fun od => ?_⟩
  have e1 := lk_lock (o := od) hF hnf htu
  have I1 := I.swap hF e1
  have back : ∀ {ρ' : List Sl} {os' : List Ow} {F' : Hp} {ps' : List Addr} {σ' : L2.St} {H' : Hp}, Ex (upd F p (.frz od u)) F' → St K R F' ps' ρ' os' σ' H' → H' p = some (.frz od u) ∧ Ex F (upd F' p u) ∧ St K R (upd F' p u) ps' ρ' os' σ' (upd H' p u) := fun {ρ' os' F' ps' σ' H'} e J => by
    have hp : F' p = some (.frz od u) := e _ _ upd_same
    refine ⟨J.hst.sub _ _ hp, fun a w q => ?_, J.swap hp (lk_unlock hp hnf)⟩
    by_cases z : a = p
    · subst z
      rw [hF] at q; cases q
      exact upd_same
    · rw [upd_ne z]
      exact e _ _ (by rw [upd_ne z]; exact q)
  refine for_at (P := P) shape osh RP hm hw hn hb hx hr I1.hst.len ⟨fun ρ' os' F' ps' σ' H' e q J r => ?_, fun sl ρ' os' F' ps' σ' v H' e q J rs r => ?_, fun ρ' os' F' ps' σ' H' e q J r => ?_, fun ρ' os' F' ps' σ' H' e q J r => ?_⟩ (src od _ _ upd_same I1)
  · obtain ⟨a1, a2, a3⟩ := back e J
    exact ⟨a1, cn.nx _ _ _ _ _ _ a2 q a3 r⟩
  · obtain ⟨a1, a2, a3⟩ := back e J
    exact ⟨a1, cn.rt sl _ _ _ _ _ v _ a2 q a3 (SlR.lk (lk_unlock (e _ _ upd_same) hnf) rs) r⟩
  · obtain ⟨a1, a2, a3⟩ := back e J
    exact ⟨a1, cn.bk _ _ _ _ _ _ a2 q a3 r⟩
  · obtain ⟨a1, a2, a3⟩ := back e J
    exact ⟨a1, cn.ct _ _ _ _ _ _ a2 q a3 r⟩
theorem run_forKD {S Rr : Type} {g : TG} {tb : TS} {i : Nat} {ds : List (Key × D)} {b : Key → S → Option (Ctl S Rr)} {s0 : S} {c : Ctl S Rr} (shape : S → List Sl) (osh : S → List Ow) (RP : Rr → Sl → List Ow → Prop)
    (hi : ρ[i]? = some (.fz (.dct ds))) (hm : loopM b (ds.map (·.1)) s0 = some c) (hw : Wk ρ os (shape s0) (osh s0)) (hn : ∀ s, (osh s).length = os.length)
    (hb : ∀ x s c', x ∈ ds.map (·.1) → b x s = some c' → ∃ ρ' js, TgB K g (E x) (shape s) ρ' js ∧ Run K tb ρ' (osh s) (LPost P shape osh RP c'))
    (hx : ∀ s, c = .nx s → P.nx (shape s) (osh s)) (hr : ∀ r, c = .rt r → ∀ sl os', RP r sl os' → P.rt sl os') : Run K (fun D σ H => tLock (tFor (iKeys (tVar i)) g tb) D σ H ∨ tFor (iKeys (tVar i)) g tb D σ H) ρ os P := fun R F ps σ H Dn I cn => by
  obtain ⟨v, hv, r⟩ := I.fz hi
  cases r with
  | @dct a kvs _ h1 h2 =>
    rcases h1 with h1 | ⟨o, h1⟩
    · refine .inl (run_lock_core shape osh RP hm hw hn hb hx hr I cn h1 rfl (fun _ z => nomatch z) True.intro fun o F1 H1 q J Q k => ?_)
      refine ⟨_, hv, a, o, rfl, .inl ⟨kvs, J.hst.sub _ _ q, k _ F1 H1 (Ex.refl _) J (walks_keys q ?_)⟩⟩
      obtain ⟨v', hv', r'⟩ := J.fz hi
      rw [hv] at hv'
      cases hv'
      cases r' with
      | dct h1' h2' =>
        rcases h1' with h1' | ⟨o', h1'⟩
        · rw [q] at h1'; cases h1'
        · rw [q] at h1'; cases h1'
          exact h2'
    · refine .inr (for_at shape osh RP hm hw hn hb hx hr I.hst.len cn fun Q k => ?_)
      exact ⟨_, hv, a, o, rfl, .inl ⟨kvs, I.hst.sub _ _ h1, k _ F H (Ex.refl _) I (walks_keys h1 h2)⟩⟩
theorem run_forTD {S Rr : Type} {g : TG} {tb : TS} {i : Nat} {ds : List (List Key × D)} {b : TK → S → Option (Ctl S Rr)} {s0 : S} {c : Ctl S Rr} (shape : S → List Sl) (osh : S → List Ow) (RP : Rr → Sl → List Ow → Prop)
    (hi : ρ[i]? = some (.fz (.dctT ds))) (hm : loopM b (ds.map fun kv => ⟨kv.1⟩) s0 = some c) (hw : Wk ρ os (shape s0) (osh s0)) (hn : ∀ s, (osh s).length = os.length)
    (hb : ∀ x s c', x ∈ ds.map (fun kv => (⟨kv.1⟩ : TK)) → b x s = some c' → ∃ ρ' js, TgB K g (E x) (shape s) ρ' js ∧ Run K tb ρ' (osh s) (LPost P shape osh RP c'))
    (hx : ∀ s, c = .nx s → P.nx (shape s) (osh s)) (hr : ∀ r, c = .rt r → ∀ sl os', RP r sl os' → P.rt sl os') : Run K (fun D σ H => tLock (tFor (iKeys (tVar i)) g tb) D σ H ∨ tFor (iKeys (tVar i)) g tb D σ H) ρ os P := fun R F ps σ H Dn I cn => by
  obtain ⟨v, hv, r⟩ := I.fz hi
  cases r with
  | @dctT a kvs _ h1 h2 =>
    rcases h1 with h1 | ⟨o, h1⟩
    · refine .inl (run_lock_core shape osh RP hm hw hn hb hx hr I cn h1 rfl (fun _ z => nomatch z) True.intro fun o F1 H1 q J Q k => ?_)
      refine ⟨_, hv, a, o, rfl, .inr ⟨kvs, J.hst.sub _ _ q, k _ F1 H1 (Ex.refl _) J (walks_keysT q ?_)⟩⟩
      obtain ⟨v', hv', r'⟩ := J.fz hi
      rw [hv] at hv'
      cases hv'
      cases r' with
      | dctT h1' h2' =>
        rcases h1' with h1' | ⟨o', h1'⟩
        · rw [q] at h1'; cases h1'
        · rw [q] at h1'; cases h1'
          exact h2'
    · refine .inr (for_at shape osh RP hm hw hn hb hx hr I.hst.len cn fun Q k => ?_)
      exact ⟨_, hv, a, o, rfl, .inr ⟨kvs, I.hst.sub _ _ h1, k _ F H (Ex.refl _) I (walks_keysT h1 h2)⟩⟩
end
end Ly

set_option Elab.async false
set_option linter.all false
set_option autoImplicit false
set_option maxRecDepth 100000
set_option maxHeartbeats 4000000
/-! Lay8: dicts whose keys are tuples: comprehensions, update; data compared, the least and the greatest. -/
namespace Ly
open PySem PySem.Spec PyProof.Rows L2

/-! ### d[k] = v within a block, the key a tuple -/
theorem put_tup {X : Cx} {pins : List (Addr × Obj)} {σ : L2.St} {H : Hp} {s : Shared} {A : Around} {E : Value → Shared → Prop} {a b : Addr} {kvs : List (List L2.Key × V)} {k : List L2.Key} {v : V} {r : Value} {Q : Unit → Shared → Prop}
    (hu : A.units + 1 < cLine) (I : Inv X pins σ H s) (e : H a = some (.dT kvs)) (eb : H b = some (.tup (k.map kV))) (l : kvs.length < sizeLine) (rv : RelV v r)
    (h : ∀ s', Inv X pins σ (upd H a (.dT (putK kvs k v))) s' → Q () s') : wpAny (model X.prog X.w) A (dictSet a (.ref b) r) Q E s := by
  obtain ⟨z, hd, xs, rel, dd⟩ := dt_of I.hok e
  have h1 : xs.length ≤ sizeLine := by rw [← Paired.length rel]; omega
  have h2 : (putK kvs k v).length ≤ sizeLine := by have := length_putK kvs k v; omega
  have room : (tupleKind (mixKind X.prog X.w)).room A := show A.units < cLine by omega
  refine wpAny_dictSet_heap (hsz := h1) room (key_of I.hok eb) dd fun h' d2 hs => h _ ?_
  obtain ⟨q, es, ep, q1, q2, q3, q4, _, q5⟩ := d2
  refine d_write I (by rw [e]; exact True.intro) hs ⟨q, q1⟩ ⟨h2, hd, _, (rel.put k eb rv).keeps fun c ys ec => ?_, q, es, ep, q1, q2, q3, q4, q5⟩
  exact (upd_ne (ne_of ec e (fun z => nomatch z))).trans ec

section
variable {X : Cx}
/-- {k: v for target in iter if ..}, the keys tuples: Dl the new dict -/
def tDcT (wi : TI) (g : TG) (tt : TT) (tk tv : TE) (vs : List Nat) : TE := fun σ H Q => wi σ H fun J H1 => ∀ Dl, H1 Dl = none → ∃ W : Nat → Nat → Hp → Prop, (∃ m, W 0 m (upd H1 Dl (.dT []))) ∧ ∀ i m H, W i m H →
  (J.stop i H ∧ Q (.ref Dl) H) ∨ (J.go i H ∧ ∃ Nx : Hp → Prop, (∀ H', Nx H' → ∃ m', m' < m ∧ W (i + 1) m' H') ∧ ∀ x H', J.yld i H x H' → g x (wipe σ vs) H' fun σ2 H2 => wipe σ2 vs = wipe σ vs ∧ tt σ2 H2 fun b H3 =>
    if b = true then tk σ2 H3 fun y H4 => tv σ2 H4 fun z H5 => ∃ kvs k b, y = .ref b ∧ H5 b = some (.tup (k.map kV)) ∧ H5 Dl = some (.dT kvs) ∧ kvs.length < sizeLine ∧ Nx (upd H5 Dl (.dT (putK kvs k z))) else Nx H3)
abbrev Blks (X : Cx) (scope : Scope) (f : Cx → Prop) : Prop := ∀ (s : Shared) (H : Hp) (C : Addr) (cl : List (Str × Addr)) (fp : List Addr), f (X.blk s H scope (compEnvC scope cl C X.env) fp)
theorem dcT_core {pins : List (Addr × Obj)} {s : Shared} {σ : L2.St} {H : Hp} {Q : VK} {kx vx tg iter : Expr} {ifs : List Expr} {scope : Scope} {own : List (Str × Nat)} {pos pos' : Pos} {wi : TI} {g : TG} {tt : TT} {tk tv : TE} {use : Option (Value → Sem Unit)} {Qf : Value → Shared → Prop}
    (hu : X.A.units + 1 < cLine) (hc : X.calm = true) (hN : X.N.Nodup) (I : Inv X pins σ H s) (hi : PI X tg iter wi) (ok : BlkOk X.N X.env.scope scope own)
    (hg : Blks X scope fun Y => PG Y tg g) (ht : Blks X scope fun Y => PTs Y ifs tt) (hk : Blks X scope fun Y => PE Y kx tk) (he : Blks X scope fun Y => PE Y vx tv) (hs : ∀ x, foldedSetIterable iter X.env x = pure x)
    (h : tDcT wi g tt tk tv (own.map (·.2)) σ H Q)
    (hRR : ∀ Dl C s' m H', Inv X pins σ H' s' → Q (.ref Dl) H' → s'.heap.Ns C m → FpOk X pins H' C → compPost (model X.prog X.w) X.A X.xe use Qf (.ref Dl) C (.ok .next) s') :
    wpAny (model X.prog X.w) X.A (comprehension (.DictComp kx vx [⟨tg, iter, ifs, 0⟩] scope pos) scope X.env pos' newDict false (eval iter X.env) use) Qf X.xe s := by
  have free : ∀ y ∈ scope.names, y.2 = .free → ∃ c, X.env.cells.lookup y.1 = some c := fun y hy e => (ok.free y hy e).elim (fun k => I.ok.has _ (.inl k)) fun k => I.ok.has _ (.inr k)
  refine wpAny_comprehension_free (use := use) rfl hs (closure_ok free) ok.kind (fun y hy e => (ok.uniq y hy).trans (congrArg some e)) (thn (hi.run pins s σ H _ I h) fun v0 sa ha => thn ha fun v1 sb hb => ?_)
  obtain ⟨it, fp, tn, J, Hb, e, Ib, T, st, fr, q⟩ := hb
  subst e
  refine wpAny_newObj_type (newEnv_comp ?_)
  generalize hDl : sb.heap.objs.size = Dl
  have nD : Hb Dl = none := Ib.hok.fresh (Nat.le_of_eq hDl)
  obtain ⟨W, ⟨m0, w0⟩, turn⟩ := q Dl nD
  generalize hsc : ({ sb with heap := sb.heap.push { cls := .type "dict", data := .dict #[] } } : Shared) = sc
  have Ic : Inv X pins σ (upd Hb Dl (.dT [])) sc := by
    subst hsc
    subst hDl
    exact Ib.laid (t' := sb.toks) (fun b o e => Heap.get?_push_of_some _ e) (Nat.le_refl _) (dt_empty sb.heap Ib.big)
  have ec : sc.heap = sb.heap.push { cls := .type "dict", data := .dict #[] } := by subst hsc; rfl
  have small : ∀ b ∈ fp, b < sb.heap.objs.size := fun b hb => let ⟨o, e, _⟩ := T.obj _ _ st b hb; Heap.lt_size e
  have frc : ∀ b ∈ fp, FpOk X pins (upd Hb Dl (.dT [])) b ∧ b < sc.heap.objs.size := fun b hb => ⟨⟨(upd_ne (by rw [← hDl]; exact Nat.ne_of_lt (small b hb))).trans (fr b hb).1, (fr b hb).2⟩, by rw [ec, Heap.size_push]; exact Nat.lt_succ_of_lt (small b hb)⟩
  have stc : tn 0 sc.heap := T.keep _ _ _ st fun b _ o e => by rw [ec]; exact Heap.get?_push_of_some _ e
  have Id := block_start Ic ok hN frc
  have cells := cellsFrom (sc.heap.objs.size + 1) scope.names (cloFrom X.env.cells scope.names [])
  have pg := hg sc (upd Hb Dl (.dT [])) sc.heap.objs.size (cellsFrom (sc.heap.objs.size + 1) scope.names (cloFrom X.env.cells scope.names [])) fp
  have pt := ht sc (upd Hb Dl (.dT [])) sc.heap.objs.size (cellsFrom (sc.heap.objs.size + 1) scope.names (cloFrom X.env.cells scope.names [])) fp
  have pk := hk sc (upd Hb Dl (.dT [])) sc.heap.objs.size (cellsFrom (sc.heap.objs.size + 1) scope.names (cloFrom X.env.cells scope.names [])) fp
  have pv' := he sc (upd Hb Dl (.dT [])) sc.heap.objs.size (cellsFrom (sc.heap.objs.size + 1) scope.names (cloFrom X.env.cells scope.names [])) fp
  show codeAny _ _ (.compStart (.DictComp kx vx [⟨tg, iter, ifs, 0⟩] scope pos) 0 (.ref it) (.ref Dl) (compEnvC scope (cellsFrom (sc.heap.objs.size + 1) scope.names (cloFrom X.env.cells scope.names [])) sc.heap.objs.size X.env)) (compPost (model X.prog X.w) X.A X.xe use Qf (.ref Dl) sc.heap.objs.size) { sc with heap := pushCells (sc.heap.push { cls := .type "dict", data := .dict #[] }) scope.names }
  have nfp : ∀ b ∈ fp, (upd Hb Dl (.dT [])) b = none := fun b hb => (frc b hb).1.1
  generalize hce : compEnvC scope (cellsFrom (sc.heap.objs.size + 1) scope.names (cloFrom X.env.cells scope.names [])) sc.heap.objs.size X.env = ce at Id pg pt pk pv' ⊢
  have cL : ce.locals = sc.heap.objs.size := by subst hce; rfl
  generalize hHc : upd Hb Dl (.dT []) = Hc at Ic Id pg pt pk pv' w0 nfp frc
  generalize hsd : ({ sc with heap := pushCells (sc.heap.push { cls := .type "dict", data := .dict #[] }) scope.names } : Shared) = sd at Id ⊢
  have std : tn 0 sd.heap := T.keep _ _ _ stc fun b _ o e => by subst hsd; exact pushCells_keeps _ _ _ _ (Heap.get?_push_of_some _ e)
  have stat : ∀ {σ' : L2.St} {H' : Hp} {s' : Shared}, Inv (X.blk sc Hc scope ce fp) [] σ' H' s' → (∀ b ∈ fp, H' b = none) → ∀ b ∈ fp, FpOk (X.blk sc Hc scope ce fp) [] H' b := fun {_ _ _} J hn b hb =>
    ⟨hn b hb, (J.ok.exf b hb).1, J.ok.exfs b hb, .inl hb, fun x c e => (J.ok.exf b hb).2 x c e, fun p hp => nomatch (show p ∈ ([] : List (Addr × Obj)) from hp)⟩
  have loop : codeAny (model X.prog X.w) X.A (.compLoop (.DictComp kx vx [⟨tg, iter, ifs, 0⟩] scope pos) 0 (.ref it) (.ref Dl) ce) (compPost (model X.prog X.w) X.A X.xe use Qf (.ref Dl) sc.heap.objs.size) sd := by
    refine compLoop_anyD (fun n s' => ∃ i H', Inv (X.blk sc Hc scope ce fp) [] (wipe σ (own.map (·.2))) H' s' ∧ tn i s'.heap ∧ (∀ b ∈ fp, H' b = none) ∧ W i n H') ?_ m0 ⟨0, Hc, Id, std, nfp, w0⟩
    rintro n s5 ⟨i, H5, J5, t5, n5, w5⟩
    rcases turn i n H5 w5 with ⟨stop, qq⟩ | ⟨go, Nx, hNx, step⟩
    · refine thnF (T.done (X.blk sc Hc scope ce fp) rfl rfl rfl hc i [] s5 _ H5 (fun _ _ => False) J5 (stat J5 n5) t5 stop) fun r s6 ⟨hr, J6⟩ => ?_
      subst hr
      have J7 : Inv X pins σ H5 s6 := Ic.call' (ch := fp) J6.os J6.base J6.hok J6.bare fun b hb => ⟨(frc b hb).1.2.2.2.1, (frc b hb).1.2.1, (frc b hb).1.2.2.2.2.1, (frc b hb).1.2.2.2.2.2⟩
      have nC : H5 sc.heap.objs.size = none := cL ▸ (show H5 ce.locals = none from J6.free)
      obtain ⟨m, hm, _⟩ := J6.loc
      exact hRR Dl sc.heap.objs.size s6 m H5 J7 qq (cL ▸ (show s6.heap.Ns ce.locals m from hm)) (Ic.fpOk (Nat.le_refl _) nC)
    · refine thnF (T.item (X.blk sc Hc scope ce fp) rfl rfl rfl hc i [] s5 _ H5 (fun _ _ => False) J5 (stat J5 n5) t5 go) fun r s6 ⟨u, hr, h6⟩ => ?_
      subst hr
      refine thnF h6 fun _ s7 ⟨x, H7, J7, r7, y7, t7, n7⟩ => ?_
      have J7' := J7.pinned (stat J7 n7) (T.obj _ _ t7)
      refine thnF (pg.run _ s7 _ H7 x u _ J7' r7 (step x H7 y7)) fun _ s8 ⟨σ8, H8, J8, hw8, q8⟩ => thnF (pt.run _ s8 σ8 H8 _ J8 q8) fun b s9 ⟨H9, J9, q9⟩ => ?_
      have fin : ∀ {s' : Shared} {H' : Hp}, Inv (X.blk sc Hc scope ce fp) ([] ++ pinsAt fp s7.heap) σ8 H' s' → Nx H' → ∃ m, m < n ∧ ∃ i H', Inv (X.blk sc Hc scope ce fp) [] (wipe σ (own.map (·.2))) H' s' ∧ tn i s'.heap ∧ (∀ b ∈ fp, H' b = none) ∧ W i m H' := fun {s' H'} J' nx => by
        obtain ⟨m', lt, w'⟩ := hNx H' nx
        have pin' : ∀ b ∈ fp, ∀ o, s7.heap.get? b = some o → s'.heap.get? b = some o ∧ H' b = none := fun b hb o e => let z := J'.pin (b, o) (List.mem_append_right _ (List.mem_append_right _ (mem_pinsAt hb e))); ⟨z.1, z.2.1⟩
        refine ⟨m', lt, i + 1, H', (J'.unpinned (pins := [])).weak (by rw [← hw8, wipe_length]) (fun j v e => (wipe_some (hw8.symm ▸ e)).1), T.keep _ _ _ t7 fun b hb o e => (pin' b hb o e).1, fun b hb => ?_, w'⟩
        obtain ⟨o, e, _⟩ := T.obj _ _ t7 b hb
        exact (pin' b hb o e).2
      cases b with
      | false => simpa using fin J9 (by simpa using q9)
      | true =>
        simp only [if_true] at q9 ⊢
        refine thnF (pk.run _ s9 σ8 H9 _ J9 q9) fun z sx ⟨yk, Hx, Jx, rx, qx⟩ => thnF (pv'.run _ sx σ8 Hx _ Jx qx) fun z2 sy ⟨yv, Hy, Jy, ry, kvs, k, b, ek, hb, hDy, hzy, nx⟩ => ?_
        subst ek
        cases (show z = Value.ref b from rx)
        exact put_tup (X := X.blk sc Hc scope ce fp) hu Jy hDy hb hzy ry fun s' J' => fin J' nx
  exact codeAny_compStart_dict loop (T.self X.A 0 _ _ _ std loop)
theorem pe_dcT {kx vx tg iter : Expr} {ifs : List Expr} {scope : Scope} {own : List (Str × Nat)} {pos : Pos} {wi : TI} {g : TG} {tt : TT} {tk tv : TE} (hu : X.A.units + 1 < cLine) (hc : X.calm = true) (hN : X.N.Nodup) (hi : PI X tg iter wi) (ok : BlkOk X.N X.env.scope scope own)
    (hg : Blks X scope fun Y => PG Y tg g) (ht : Blks X scope fun Y => PTs Y ifs tt) (hk : Blks X scope fun Y => PE Y kx tk) (he : Blks X scope fun Y => PE Y vx tv) (hs : ∀ x, foldedSetIterable iter X.env x = pure x := by intro _; rfl) :
    PE X (.DictComp kx vx [⟨tg, iter, ifs, 0⟩] scope pos) (tDcT wi g tt tk tv (own.map (·.2))) := ⟨fun pins s σ H Q I h => by
  rw [arm_eval_DictComp]
  refine dcT_core hu hc hN I hi ok hg ht hk he hs h fun Dl C s' m H' J q hn f => ⟨m, hn, fun h2 sb => ?_⟩
  obtain ⟨f0, f1, f2, f3, f4, f5⟩ := f
  exact ⟨.ref Dl, H', J.turned (t' := s'.toks) (fun b o hb e => (sb.2 b hb).trans e) f0 f1 f3 f4 f5, rfl, q⟩⟩
end

/-! ### d.update(e), tuples as keys -/
def mergeT {κ α : Type} [DecidableEq κ] (l m : List (κ × α)) : List (κ × α) := m.foldl (fun acc p => dput acc p.1 p.2) l
def mergeV (l m : List (List L2.Key × V)) : List (List L2.Key × V) := m.foldl (fun acc p => putK acc p.1 p.2) l
/-- a key's hash, of ints alone -/
def hashT : List L2.Key → Option (List Int)
  | [] => some []
  | .inl i :: ks => (hashT ks).map fun l => hashInt i :: l
  | .inr _ :: _ => none
def hashK (k : List L2.Key) : Option Int := (hashT k).map fun l => reduceHash (Builtin.Tuple.tupleHashOf l)
theorem hashT_eq {w : World} : ∀ {k : List L2.Key} {l : List Int}, hashT k = some l → k.map (keyH w) = l
  | [], _, h => by cases h; rfl
  | .inl i :: ks, l, h => by
    unfold hashT at h
    obtain ⟨l', h1, rfl⟩ := Option.map_eq_some_iff.mp h
    rw [List.map_cons, hashT_eq h1]
    rfl
  | .inr _ :: _, _, h => by cases h
theorem hashK_eq {P : Program} {w : World} {k : List L2.Key} {n : Int} (h : hashK k = some n) : tupleKeyHash (mixKind P w) k = n := by
  unfold hashK at h
  obtain ⟨l, h1, rfl⟩ := Option.map_eq_some_iff.mp h
  unfold tupleKeyHash
  rw [show (mixKind P w).hash = keyH w from rfl, hashT_eq h1]
/-- the hashes are told, and none is another's -/
def hashOk {α : Type} (m : List (List L2.Key × α)) : Bool := (m.map fun p => hashK p.1).all (·.isSome) && decide (m.map fun p => hashK p.1).Nodup
def updO {α : Type} (l m : List (List L2.Key × α)) : Option (List (List L2.Key × α)) :=
  if l.length + m.length ≤ LIM ∧ (l.isEmpty = false ∨ hashOk m = true) then some (mergeT l m) else none
theorem kt_merge {H : Hp} : ∀ {m : List (List L2.Key × V)} {ys : List (List L2.Key × Addr × Value)} {l : List (List L2.Key × V)} {xs : List (List L2.Key × Addr × Value)}, KT H l xs → KT H m ys → KT H (mergeV l m) (storedAllH xs ys)
  | [], _, _, _, r, .nil => r
  | p :: m, q :: ys, l, xs, r, .cons ⟨h1, h2, h3⟩ t => by
    obtain ⟨k, v⟩ := p
    obtain ⟨k', a, u⟩ := q
    have h1' : k = k' := h1
    subst h1'
    show KT H (mergeV (putK l k v) m) (storedAllH (storedH xs k a u) ys)
    exact kt_merge (r.put k h2 h3) t
def rUpdT : V → List V → Hp → VK → Prop := fun x xs H Q => ∃ a b l m, x = .ref a ∧ xs = [.ref b] ∧ a ≠ b ∧ H a = some (.dT l) ∧ Rd H b (.dT m) ∧ l.length + m.length ≤ sizeLine ∧ (mergeV l m).length ≤ sizeLine ∧ (l.isEmpty = false ∨ hashOk m = true) ∧ Q .non (upd H a (.dT (mergeV l m)))
theorem mt_updT {X : Cx} (hu : X.A.units + 1 < cLine) : MtR X "dict.update" rUpdT := by
  intro pins s σ H x vs v us Q I rx rv h
  obtain ⟨a, b, l, m, rfl, rfl, hne, ha, hb, hz, hz2, hh, q⟩ := h
  cases rx
  obtain ⟨u, rfl, ru⟩ := rv.one
  cases ru
  obtain ⟨z1, s1, xs, r1, d1⟩ := dt_of I.hok ha
  obtain ⟨z2, s2, ys, r2, d2⟩ := dt_rd I.hok hb
  have room : (tupleKind (mixKind X.prog X.w)).room X.A.in1 := show X.A.in1.units < cLine by
    show X.A.units + 1 < cLine
    exact hu
  have keys : ∀ {m : List (List L2.Key × V)} {ys : List (List L2.Key × Addr × Value)}, KT H m ys → ys.map (·.1) = m.map (·.1) := fun {m ys} r => by
    induction r with
    | nil => rfl
    | cons h _ ih => rw [List.map_cons, List.map_cons, ih, h.1]
  refine call_update_dictH (hsz := by rw [← Paired.length r1, ← Paired.length r2]; exact hz) room hne s2 d1 d2 ?_ fun h' e1 e2 hs => ?_
  · rcases hh with hh | hh
    · refine .inl fun e => ?_
      have := Paired.length r1
      rw [e] at this
      cases l with
      | nil => cases hh
      | cons _ _ => cases this
    · refine .inr ⟨fun x hx => ?_, ?_⟩
      · obtain ⟨_, _, _, _, _, _, _, his, _⟩ := d2
        exact (his x hx).typeIs
      · unfold hashOk at hh
        rw [Bool.and_eq_true] at hh
        have hn := of_decide_eq_true hh.2
        have ha := List.all_eq_true.mp hh.1
        have hk := keys r2
        have e3 : (ys.map fun x => (tupleKind (mixKind X.prog X.w)).hash x.1).map some = m.map fun p => hashK p.1 := by
          rw [show (ys.map fun x => (tupleKind (mixKind X.prog X.w)).hash x.1) = (ys.map (·.1)).map (tupleKeyHash (mixKind X.prog X.w)) by rw [List.map_map]; rfl, hk, List.map_map, List.map_map]
          apply List.map_congr_left
          intro p hp
          have := ha (hashK p.1) (List.mem_map.mpr ⟨p, hp, rfl⟩)
          obtain ⟨n, hn⟩ := Option.isSome_iff_exists.mp this
          show some (tupleKeyHash (mixKind X.prog X.w) p.1) = hashK p.1
          rw [hn, hashK_eq hn]
        rw [← e3] at hn
        exact List.Pairwise.of_map some (fun a b h e => h (congrArg some e)) hn
  · obtain ⟨o, es, ep, q1, q2, q3, q4, _, q5⟩ := e1
    refine ⟨.non, _, d_write (ob := .dT (mergeV l m)) I (by rw [ha]; exact True.intro) hs ⟨o, q1⟩ ⟨hz2, s1, _, (kt_merge r1 r2).keeps fun c ys ec => ?_, o, es, ep, q1, q2, q3, q4, q5⟩, rfl, q⟩
    exact (upd_ne (ne_of ec ha (fun z => nomatch z))).trans ec
end Ly

set_option Elab.async false
set_option linter.all false
set_option autoImplicit false
set_option maxRecDepth 100000
set_option maxHeartbeats 4000000
/-! Lay9: + of lists and tuples, min and max, dict comprehensions, displays, update. -/
namespace Ly
open PySem PySem.Spec PyProof.Rows L2

/-! ### xs + ys -/
def rCatL (K : PySem.W.Frag) : R2 := fun x y H Q => ∃ a b xs ys, x = .ref a ∧ y = .ref b ∧ SqL K H a xs ∧ SqL K H b ys ∧ xs.length + ys.length ≤ sizeLine ∧ ∀ p, H p = none → Q (.ref p) (upd H p (.lst (xs ++ ys)))
theorem op_catL {X : Cx} : OpR X (binaryOp .Add) (rCatL X.K) := by
  intro pins s σ H x y v u Q I rx ry h
  obtain ⟨a, b, xs, ys, rfl, rfl, ha, hb, hz, q⟩ := h
  cases rx
  cases ry
  obtain ⟨its, r1, ⟨⟨cls, dd, data, sl⟩, n, ho, hc, hd, he⟩, _⟩ := I.list ha
  obtain ⟨its2, r2, ⟨⟨cls2, dd2, data2, sl2⟩, n2, ho2, hc2, hd2, he2⟩, _⟩ := I.list hb
  simp only at hc hd he hc2 hd2 he2
  subst hc hd he hc2 hd2 he2
  have e : its.toArray ++ its2.toArray = (its ++ its2).toArray := by simp
  refine concat_meets ⟨_, ho, rfl⟩ ⟨_, ho2, rfl⟩ noFill_list_add seq_list_add PySem.F.slot_list_add PySem.F.entry_list_add (PySem.F.args_list_add_2 _ _)
    (list_addW a b its.toArray its2.toArray n n2 none none sl sl2 (by rw [List.size_toArray, List.size_toArray, ← r1.length, ← r2.length]; exact hz)) ⟨ho, ho2, ?_⟩
  rw [e]
  exact ⟨.ref _, _, I.lnew (t' := s.toks) (r1.append r2) (by rw [List.length_append]; omega), rfl, q _ I.fresh⟩
theorem op_catLK {X : Cx} {K : PySem.W.Frag} (hK : X.K = K) : OpR X (binaryOp .Add) (rCatL K) := by subst hK; exact op_catL
theorem op_catAK {X : Cx} {K : PySem.W.Frag} (hK : X.K = K) : OpR X (binaryOp .Add) (rCatA K) := by subst hK; exact op_catA
def catL {α : Type} (xs ys : List α) : Option (List α) := if xs.length + ys.length ≤ LIM then some (xs ++ ys) else none
def dCat : D → D → Option D
  | .tup a, .tup b => (catL a b).map D.tup
  | _, _ => none
/-! ### min, max of ints -/
def minL : List Int → Option Int
  | [] => none
  | x :: xs => some (xs.foldl (fun a y => if y < a then y else a) x)
def maxL : List Int → Option Int
  | [] => none
  | x :: xs => some (xs.foldl (fun a y => if a < y then y else a) x)
def rExtI (K : PySem.W.Frag) (f : List Int → Option Int) : List V → Hp → VK → Prop := fun vs H Q => ∃ p ns m, vs = [.ref p] ∧ (SqL K H p (ns.map V.int) ∨ SqT K H p (ns.map V.int)) ∧ f ns = some m ∧ Q (.int m) H
theorem minOf_int (x : Int) (xs : List Int) : PySem.W.minOf x xs = xs.foldl (fun a y => if y < a then y else a) x := by
  unfold PySem.W.minOf
  congr 1
  funext a y
  by_cases h : y < a
  · rw [if_pos h, if_pos (show PySem.W.DatumOrd.lt y a = true from by show decide _ = true; exact decide_eq_true h)]
  · rw [if_neg h, if_neg (show ¬ PySem.W.DatumOrd.lt y a = true from by show ¬ decide _ = true; simpa using h)]
theorem maxOf_int (x : Int) (xs : List Int) : PySem.W.maxOf x xs = xs.foldl (fun a y => if a < y then y else a) x := by
  unfold PySem.W.maxOf
  congr 1
  funext a y
  by_cases h : a < y
  · rw [if_pos h, if_pos (show PySem.W.DatumOrd.lt a y = true from by show decide _ = true; exact decide_eq_true h)]
  · rw [if_neg h, if_neg (show ¬ PySem.W.DatumOrd.lt a y = true from by show ¬ decide _ = true; simpa using h)]
theorem depth_int : PySem.W.Datum.depth Int = 0 := rfl
theorem call_minI {X : Cx} {K : PySem.W.Frag} (hc : X.calm = true) (hK : X.K = K) (hu : X.A.units + 64 < cLine) : CallR X (.builtin "min") (rExtI K minL) := by
  subst hK
  intro pins s σ H vs us Q I r h
  obtain ⟨p, ns, m, rfl, hs, hm, q⟩ := h
  rw [Vals.ref1 r]
  cases ns with
  | nil => cases hm
  | cons x xs =>
    cases hm
    rcases hs with hs | hs
    · obtain ⟨its, rv, hl, _⟩ := I.list hs
      refine PySem.W.min_list_datum (I.ok.hd hc) hl.isList (PySem.W.HoldAll.of_ints (intsAre_of rv)) (by rw [depth_int]; omega) fun i v h' tk hi hh hk => ?_
      obtain ⟨as, hh⟩ := hh
      rw [minOf_int] at hh
      cases hh
      exact ⟨.int (xs.foldl (fun a y => if y < a then y else a) x), H, I.kept hk, ⟨_, rfl⟩, q⟩
    · obtain ⟨its, rv, hl, _⟩ := I.tuple hs
      refine PySem.W.min_tuple_datum (I.ok.hd hc) hl (PySem.W.HoldAll.of_ints (intsAre_of rv)) (by rw [depth_int]; omega) fun i v h' tk hi hh hk => ?_
      obtain ⟨as, hh⟩ := hh
      rw [minOf_int] at hh
      cases hh
      exact ⟨.int (xs.foldl (fun a y => if y < a then y else a) x), H, I.kept hk, ⟨_, rfl⟩, q⟩
theorem call_maxI {X : Cx} {K : PySem.W.Frag} (hc : X.calm = true) (hK : X.K = K) (hu : X.A.units + 64 < cLine) : CallR X (.builtin "max") (rExtI K maxL) := by
  subst hK
  intro pins s σ H vs us Q I r h
  obtain ⟨p, ns, m, rfl, hs, hm, q⟩ := h
  rw [Vals.ref1 r]
  cases ns with
  | nil => cases hm
  | cons x xs =>
    cases hm
    rcases hs with hs | hs
    · obtain ⟨its, rv, hl, _⟩ := I.list hs
      refine PySem.W.max_list_datum (I.ok.hd hc) hl.isList (PySem.W.HoldAll.of_ints (intsAre_of rv)) (by rw [depth_int]; omega) fun i v h' tk hi hh hk => ?_
      obtain ⟨as, hh⟩ := hh
      rw [maxOf_int] at hh
      cases hh
      exact ⟨.int (xs.foldl (fun a y => if a < y then y else a) x), H, I.kept hk, ⟨_, rfl⟩, q⟩
    · obtain ⟨its, rv, hl, _⟩ := I.tuple hs
      refine PySem.W.max_tuple_datum (I.ok.hd hc) hl (PySem.W.HoldAll.of_ints (intsAre_of rv)) (by rw [depth_int]; omega) fun i v h' tk hi hh hk => ?_
      obtain ⟨as, hh⟩ := hh
      rw [maxOf_int] at hh
      cases hh
      exact ⟨.int (xs.foldl (fun a y => if a < y then y else a) x), H, I.kept hk, ⟨_, rfl⟩, q⟩
def dInts : List D → Option (List Int)
  | [] => some []
  | .int i :: ds => (dInts ds).map (i :: ·)
  | _ :: _ => none
theorem dInts_eq : ∀ {ds : List D} {is : List Int}, dInts ds = some is → ds = is.map D.int
  | [], _, h => by cases h; rfl
  | .int i :: ds, is, h => by
    unfold dInts at h
    obtain ⟨l, h1, rfl⟩ := Option.map_eq_some_iff.mp h
    rw [dInts_eq h1]
    rfl
  | .non :: _, _, h | .bl _ :: _, _, h | .str _ :: _, _, h | .lst _ :: _, _, h | .tup _ :: _, _, h | .dct _ :: _, _, h | .dctT _ :: _, _, h | .adr _ :: _, _, h | .ty _ :: _, _, h => by cases h
/-- the ints of a list or a tuple -/
def dIs : D → Option (List Int)
  | .lst ds => dInts ds
  | .tup ds => dInts ds
  | _ => none
def dMin (d : D) : Option Int := (dIs d).bind minL
def dMax (d : D) : Option Int := (dIs d).bind maxL
section
variable {K : PySem.W.Frag} {R F G H : Hp} {ps : List Addr} {ρ ρ' : List Sl} {os os1 os2 os3 : List Ow} {σ : L2.St} {s t : Sl} {d e : D} {te ta tb tc td tk tv : TE} {tt tu : TT} {P : Post}
theorem ev_ext {f : List Int → Option Int} {is : List Int} {m : Int} {ta : TA} (h : EvA K ta ρ os [s] os1) (k : Look os1 s (.lst (is.map D.int)) ∨ Look os1 s (.tup (is.map D.int))) (hm : f is = some m) : Ev K (tCB (rExtI K f) ta) ρ os (.int m) os1 := fun R F ps σ H Q I q =>
  h R F ps σ H _ I fun vs F1 H1 e1 I1 r1 => by
    obtain ⟨v, rfl, r⟩ := oneS_of r1
    rcases k with k | k
    · obtain ⟨a, ys, rfl, h1, h2⟩ := I1.seeL r k
      rw [of_rpl_ints h2] at h1
      exact ⟨a, is, m, rfl, .inl h1, hm, q _ F1 H1 e1 I1 (.int _)⟩
    · obtain ⟨a, ys, rfl, h1, h2⟩ := I1.seeT r k
      rw [of_rpl_ints h2] at h1
      exact ⟨a, is, m, rfl, .inr h1, hm, q _ F1 H1 e1 I1 (.int _)⟩
theorem ev_extL {f : List Int → Option Int} {is : List Int} {m : Int} {ta : TA} (h : EvA K ta ρ os [s] os1) (k : Look os1 s (E is)) (hm : f is = some m) : Ev K (tCB (rExtI K f) ta) ρ os (.int m) os1 := ev_ext h (.inl k) hm
theorem ev_extT {f : List Int → Option Int} {is : Tup Int} {m : Int} {ta : TA} (h : EvA K ta ρ os [s] os1) (k : Look os1 s (E is)) (hm : f is.l = some m) : Ev K (tCB (rExtI K f) ta) ρ os (.int m) os1 := ev_ext h (.inr k) hm
theorem ev_extD {f : List Int → Option Int} {c : D} {m : Int} {ta : TA} (h : EvA K ta ρ os [s] os1) (k : Look os1 s c) (hm : (dIs c).bind f = some m) : Ev K (tCB (rExtI K f) ta) ρ os (.int m) os1 := by
  obtain ⟨is, h1, h2⟩ := Option.bind_eq_some_iff.mp hm
  cases c <;> first | (cases h1; done) | skip
  · exact ev_ext h (.inl (by rw [← dInts_eq h1]; exact k)) h2
  · exact ev_ext h (.inr (by rw [← dInts_eq h1]; exact k)) h2
/-! + -/
theorem St.fin (I : St K R F ps ρ os σ H) {p : Addr} {o : HO} (hp : H p = none) (r : ObjR K F o d) : St K R F (ps ++ [p]) ρ (os ++ [.has d]) σ (upd H p o) ∧ St K R F ps ρ os σ (upd H p o) := by
  have I2 := I.newO hp r
  refine ⟨I2, I.sl, ?_⟩
  have := I2.hst.cut ps.length
  rwa [List.take_left, show ps.length = os.length from I.hst.len, List.take_left] at this
theorem ev_catT {a b : List D} (ha : Ev K ta ρ os (.tup a) os1) (hb : Ev K tb ρ os1 (.tup b) os2) (hz : a.length + b.length ≤ LIM) : Ev K (tOp (rCatA K) ta tb) ρ os (.tup (a ++ b)) os2 := fun R F ps σ H Q I q =>
  ha R F ps σ H _ I fun v F1 H1 e1 I1 r1 => hb R F1 ps σ H1 _ I1 fun w F2 H2 e2 I2 r2 => by
    obtain ⟨x, xs, rfl, h1, h2⟩ := I2.seeT (SlR.up e2 (List.prefix_refl _) r1) (k := (rfl : Look os2 (.fz (.tup a)) (.tup a)))
    obtain ⟨y, ys, rfl, h3, h4⟩ := I2.seeT r2 (k := (rfl : Look os2 (.fz (.tup b)) (.tup b)))
    refine ⟨x, y, xs, ys, rfl, rfl, h1, h3, by rw [h2.length, h4.length]; exact hz, fun z => ?_, fun z z' => ?_, fun z z' p hp => ?_⟩
    · subst z
      cases h2
      exact q _ F2 H2 (e1.trans e2) I2 r2
    · subst z'
      cases h4
      exact q _ F2 H2 (e1.trans e2) I2 (by rw [List.append_nil]; exact Rp.up e2 r1)
    · obtain ⟨e3, I3⟩ := I2.newF hp (o := .tup (xs ++ ys))
      exact q (.ref p) _ _ ((e1.trans e2).trans e3) I3 (.tup upd_same ((h2.app h4).up e3))
theorem ev_catD {a b c : D} (ha : Ev K ta ρ os a os1) (hb : Ev K tb ρ os1 b os2) (h : dCat a b = some c) : Ev K (tOp (rCatA K) ta tb) ρ os c os2 := by
  cases a <;> first | (cases h; done) | skip
  cases b <;> first | (cases h; done) | skip
  obtain ⟨l, h1, rfl⟩ := Option.map_eq_some_iff.mp h
  unfold catL at h1
  split at h1
  · cases h1
    rename_i hz
    exact ev_catT ha hb hz
  · cases h1
theorem ev_catTu {α : Type} [Enc α] {a b : Tup α} {c : List α} (ha : Ev K ta ρ os (E a) os1) (hb : Ev K tb ρ os1 (E b) os2) (h : catL a.l b.l = some c) : Ev K (tOp (rCatA K) ta tb) ρ os (E (⟨c⟩ : Tup α)) os2 := by
  unfold catL at h
  split at h
  · cases h
    rename_i hz
    have := ev_catT ha hb (by rw [List.length_map, List.length_map]; exact hz)
    rwa [← List.map_append] at this
  · cases h
theorem en_cat {α : Type} [Enc α] {a b c : List α} (ha : Ev K ta ρ os (E a) os1) (hb : Ev K tb ρ os1 (E b) os2) (h : catL a b = some c) : EvN K (tOp (rCatL K) ta tb) ρ os (E c) os2 := fun R F ps σ H Q I q =>
  ha R F ps σ H _ I fun v F1 H1 e1 I1 r1 => hb R F1 ps σ H1 _ I1 fun w F2 H2 e2 I2 r2 => by
    unfold catL at h
    split at h
    case isFalse => cases h
    rename_i hz
    cases h
    obtain ⟨x, xs, rfl, h1, h2⟩ := I2.seeL (SlR.up e2 (List.prefix_refl _) r1) (k := (rfl : Look os2 (.fz (E a)) (.lst (a.map E))))
    obtain ⟨y, ys, rfl, h3, h4⟩ := I2.seeL r2 (k := (rfl : Look os2 (.fz (E b)) (.lst (b.map E))))
    refine ⟨x, y, xs, ys, rfl, rfl, h1, h3, by rw [h2.length, h4.length, List.length_map, List.length_map]; exact hz, fun p hp => ?_⟩
    obtain ⟨i1, i2⟩ := I2.fin hp (o := .lst (xs ++ ys)) (d := E (a ++ b)) (by
      show ObjR K F2 _ (.lst ((a ++ b).map E))
      rw [List.map_append]
      exact .lst (h2.app h4))
    exact q p F2 _ (e1.trans e2) i1 i2
/-! ### dicts -/
theorem ev_tkD {k : TK} (h : EvS K te ρ os (.fz d) os1) (e : dTK d = some k) : Ev K te ρ os (.tup (k.l.map keyD)) os1 := by
  have := dTK_eq e
  subst this
  exact h
theorem ev_keyD {k : Key} (h : EvS K te ρ os (.fz d) os1) (e : dKey d = some k) : Ev K te ρ os (keyD k) os1 := by
  have := dKey_eq e
  subst this
  exact h
def rLenDT : List V → Hp → VK → Prop := fun xs H Q => ∃ (p : Addr) (kvs : List (List Key × V)), xs = [.ref p] ∧ Rd H p (.dT kvs) ∧ Q (.int ((kvs.length : Nat) : Int)) H
theorem call_lenDT {X : Cx} : CallR X (.builtin "len") rLenDT := by
  intro pins s σ H xs us Q I r h
  obtain ⟨p, kvs, rfl, hp, q⟩ := h
  obtain ⟨u, rfl, rx⟩ := vals1 r
  obtain rfl : u = .ref p := rx
  obtain ⟨z, hd, ys, rel, dd⟩ := dt_rd I.hok hp
  have hl : kvs.length = ys.length := Paired.length rel
  refine call_len_dictH hd dd (by rw [← hl]; rw [sizeLine_eq] at z; omega) ?_
  rw [← hl]
  exact ⟨.int ((kvs.length : Nat) : Int), H, I.tok _, ⟨_, rfl⟩, q⟩
theorem rpt_len : ∀ {vs : List (List Key × V)} {ds : List (List Key × D)}, RpT K F vs ds → vs.length = ds.length
  | _, _, .nil => rfl
  | _, _, .cons _ r => by rw [List.length_cons, List.length_cons, rpt_len r]
theorem ev_lenDT {α : Type} [Enc α] {l : List (List Key × α)} {ta : TA} (h : EvA K ta ρ os [s] os1) (k : Look os1 s (E (⟨l⟩ : DctT α))) : Ev K (tCB rLenDT ta) ρ os (.int (l.length : Int)) os1 := fun R F ps σ H Q I q =>
  h R F ps σ H _ I fun vs F1 H1 e1 I1 r1 => by
    obtain ⟨v, rfl, r⟩ := oneS_of r1
    obtain ⟨a, xs, rfl, h1, h2⟩ := I1.seeD r k
    exact ⟨a, xs, rfl, h1, q _ F1 H1 e1 I1 (by rw [rpt_len h2, List.length_map]; exact .int _)⟩
/-! update -/
theorem rpt_merge : ∀ {ms : List (List Key × V)} {md : List (List Key × D)} {vs : List (List Key × V)} {ds : List (List Key × D)}, RpT K F ms md → RpT K F vs ds → RpT K F (mergeV vs ms) (mergeT ds md)
  | _, _, _, _, .nil, r => r
  | _, _, vs, ds, @RpT.cons _ _ k v ms d md h t, r => (rpt_merge t (rpt_put h k r) : RpT K F (mergeV (putK vs k v) ms) (mergeT (dput ds k d) md))
theorem mergeT_map {α β : Type} {f : α → β} : ∀ {m l : List (List Key × α)}, (mergeT l m).map (fun p => (p.1, f p.2)) = mergeT (l.map fun p => (p.1, f p.2)) (m.map fun p => (p.1, f p.2))
  | [], _ => rfl
  | p :: m, l => by
    show (mergeT (dput l p.1 p.2) m).map _ = mergeT (dput (l.map fun p => (p.1, f p.2)) p.1 (f p.2)) (m.map fun p => (p.1, f p.2))
    rw [mergeT_map, dput_map]
theorem rpt_keys : ∀ {vs : List (List Key × V)} {ds : List (List Key × D)}, RpT K F vs ds → vs.map (·.1) = ds.map (·.1)
  | _, _, .nil => rfl
  | _, _, .cons _ r => by rw [List.map_cons, List.map_cons, rpt_keys r]
theorem length_dput {κ α : Type} [DecidableEq κ] {l : List (κ × α)} {k : κ} {v : α} : (dput l k v).length ≤ l.length + 1 := by
  unfold dput
  split
  · rw [List.length_map]; omega
  · rw [List.length_append]; exact Nat.le_refl _
theorem length_mergeT {κ α : Type} [DecidableEq κ] : ∀ {m l : List (κ × α)}, (mergeT l m).length ≤ l.length + m.length
  | [], l => by show l.length ≤ _; omega
  | p :: m, l => by
    have h1 := length_mergeT (m := m) (l := dput l p.1 p.2)
    have h2 := length_dput (l := l) (k := p.1) (v := p.2)
    show (mergeT (dput l p.1 p.2) m).length ≤ _
    rw [List.length_cons]; omega
theorem hashOk_keys {α β : Type} {l : List (List Key × α)} {m : List (List Key × β)} (h : l.map (·.1) = m.map (·.1)) : hashOk l = hashOk m := by
  unfold hashOk
  have e : ∀ {γ : Type} (z : List (List Key × γ)), (z.map fun p => hashK p.1) = (z.map (·.1)).map hashK := fun z => by rw [List.map_map]; rfl
  rw [e l, e m, h]
theorem ev_updO {α : Type} [Enc α] {l m l' : List (List Key × α)} {i : Nat} (ha : EvS K ta ρ os (.at i) os) (h0 : ∃ l0 : List (List Key × D), os[i]? = some (.has (.dctT l0))) (hb : Ev K tb ρ os (E (⟨m⟩ : DctT α)) os1) (hk : os1[i]? = some (.has (E (⟨l⟩ : DctT α)))) (h : updO l m = some l') :
    Ev K (tBM K "dict" rUpdT ta (tCons tb tNil)) ρ os .non (os1.set i (.has (E (⟨l'⟩ : DctT α)))) := fun R F ps σ H Q I q =>
  ha R F ps σ H _ I fun v F1 H1 e1 I1 r1 => by
    obtain ⟨p, hp, rfl⟩ := r1
    obtain ⟨l0, h0⟩ := h0
    obtain ⟨_, _, o0, ho0, hr0⟩ := I1.hst.own i p _ hp h0
    cases hr0 with
    | dctT _ =>
    refine ⟨.inr (.inr (.inl ⟨rfl, .inr ⟨_, ho0⟩⟩)), hb R F1 ps σ H1 _ I1 fun w F2 H2 e2 I2 r2 => ?_⟩
    unfold updO at h
    split at h
    case isFalse => cases h
    rename_i hz
    cases h
    obtain ⟨hz, hh⟩ := hz
    obtain ⟨hF, _, o, ho, hr⟩ := I2.hst.own i p _ hp hk
    cases hr with
    | @dctT vs _ r =>
    cases (show Rp K F2 w (.dctT (m.map fun p => (p.1, E p.2))) from r2) with
    | @dctT b ws _ g1 g2 =>
    have hlv : vs.length = l.length := by rw [rpt_len r, List.length_map]
    have hlw : ws.length = m.length := by rw [rpt_len g2, List.length_map]
    have rm := rpt_merge g2 r
    have lm : (mergeV vs ws).length ≤ sizeLine := by
      rw [rpt_len rm]
      refine Nat.le_trans length_mergeT ?_
      rw [List.length_map, List.length_map]; exact hz
    refine ⟨p, b, vs, ws, rfl, rfl, fun z => ?_, ho, Ex.rd I2.hst.sub g1, by rw [hlv, hlw]; exact hz, lm, ?_, q .non F2 _ (e1.trans e2) (I2.wr (d' := E (⟨mergeT l m⟩ : DctT α)) hp hk ?_) .non⟩
    · subst z
      rcases g1 with g1 | ⟨_, g1⟩ <;> (rw [hF] at g1; cases g1)
    · rcases hh with hh | hh
      · left
        cases l with
        | nil => cases hh
        | cons _ _ => cases vs with
          | nil => cases hlv
          | cons _ _ => rfl
      · right
        rw [← hh]
        refine hashOk_keys ?_
        rw [rpt_keys g2, List.map_map]
        rfl
    · show ObjR K F2 _ (.dctT ((mergeT l m).map fun p => (p.1, E p.2)))
      rw [mergeT_map]
      exact .dctT rm
/-! ### dict comprehensions -/
theorem Hst.lockO (h : Hst K F R ps os H) {p : Addr} {u : HO} (hu : ∀ xs, u ≠ .tup xs) (hp : H p = none) : R p = none ∧ F p = none ∧ Hst K F (upd R p u) ps os (upd H p u) := by
  have hF : F p = none := by
    cases q : F p with
    | none => rfl
    | some u => rw [h.sub _ _ q] at hp; cases hp
  have hR : R p = none := by
    cases q : R p with
    | none => rfl
    | some u => rw [(h.oth _ _ q).2.1] at hp; cases hp
  refine ⟨hR, hF, ⟨fun a u q => ?_, fun a u q => ?_, h.len, fun i a d h1 h2 => ?_, h.dis⟩⟩
  · rw [upd_ne (ne_of_none q hF)]; exact h.sub _ _ q
  · by_cases z : a = p
    · subst z
      rw [upd_same] at q ⊢
      cases q
      exact ⟨hF, rfl, hu⟩
    · rw [upd_ne z] at q ⊢
      exact h.oth a u q
  · obtain ⟨q1, q2, w, q3, q4⟩ := h.own i a d h1 h2
    have z : a ≠ p := ne_of_none q3 hp
    exact ⟨q1, by rw [upd_ne z]; exact q2, w, by rw [upd_ne z]; exact q3, q4⟩
theorem Hst.setO {p : Addr} {u u' : HO} (hu : ∀ xs, u' ≠ .tup xs) (h : Hst K F (upd R p u) ps os H) : Hst K F (upd R p u') ps os (upd H p u') := by
  obtain ⟨hF, hH, _⟩ := h.oth p _ upd_same
  refine ⟨fun a u q => ?_, fun a u q => ?_, h.len, fun i a d h1 h2 => ?_, h.dis⟩
  · rw [upd_ne (ne_of_none q hF)]; exact h.sub _ _ q
  · by_cases z : a = p
    · subst z
      rw [upd_same] at q ⊢
      cases q
      exact ⟨hF, rfl, hu⟩
    · rw [upd_ne z] at q ⊢
      exact h.oth a u (by rw [upd_ne z]; exact q)
  · obtain ⟨q1, q2, w, q3, q4⟩ := h.own i a d h1 h2
    have z : a ≠ p := fun z => by
      subst z
      rw [upd_same] at q2
      cases q2
    exact ⟨q1, by rw [upd_ne z] at q2 ⊢; exact q2, w, by rw [upd_ne z]; exact q3, q4⟩
theorem Hst.unlockO {p : Addr} {u : HO} (h : Hst K F (upd R p u) ps os H) (hR : R p = none) (r : ObjR K F u d) : Hst K F R (ps ++ [p]) (os ++ [.has d]) H ∧ Hst K F R ps os H := by
  obtain ⟨hF, hH, _⟩ := h.oth p _ upd_same
  have base : Hst K F R ps os H := by
    refine ⟨h.sub, fun a u q => ?_, h.len, fun i a d h1 h2 => ?_, h.dis⟩
    · exact h.oth a u (by rw [upd_ne (ne_of_none q hR)]; exact q)
    · obtain ⟨q1, q2, w, q3, q4⟩ := h.own i a d h1 h2
      have z : a ≠ p := fun z => by
        subst z
        rw [upd_same] at q2
        cases q2
      exact ⟨q1, by rw [upd_ne z] at q2; exact q2, w, q3, q4⟩
  have ne : ∀ i a d, ps[i]? = some a → os[i]? = some (Ow.has d) → a ≠ p := fun i a d h1 h2 z => by
    obtain ⟨_, q2, _⟩ := h.own i a d h1 h2
    subst z
    rw [upd_same] at q2
    cases q2
  exact ⟨base.add hF hR (fun i d h1 h2 => ne i p d h1 h2 rfl) hH r, base⟩
def dcompM {κ α β : Type} [DecidableEq κ] (f : α → Option (Option (κ × β))) : List α → List (κ × β) → Option (List (κ × β))
  | [], acc => some acc
  | x :: xs, acc => match f x with
    | none => none
    | some none => dcompM f xs acc
    | some (some (k, v)) => match dputO acc k v with
      | none => none
      | some acc' => dcompM f xs acc'
def dcomp {κ α β : Type} [DecidableEq κ] (f : α → Option (Option (κ × β))) (xs : List α) : Option (List (κ × β)) := dcompM f xs []
theorem dcompM_drop {κ α β : Type} [DecidableEq κ] {f : α → Option (Option (κ × β))} {xs : List α} {i : Nat} {x : α} {acc : List (κ × β)} (h : xs[i]? = some x) :
    dcompM f (xs.drop i) acc = match f x with
      | none => none
      | some none => dcompM f (xs.drop (i + 1)) acc
      | some (some (k, v)) => match dputO acc k v with
        | none => none
        | some acc' => dcompM f (xs.drop (i + 1)) acc' := by
  obtain ⟨hi, rfl⟩ := List.getElem?_eq_some_iff.mp h
  rw [List.drop_eq_getElem_cons hi]
  rfl
theorem en_dcT {α β : Type} [Enc α] [Enc β] {wi : TI} {g : TG} {xs : List α} {f : α → Option (Option (List Key × β))} {ys : List (List Key × β)} {vs : List Nat} (hs : Src K wi ρ os (xs.map E) os1) (hm : dcomp f xs = some ys)
    (hb : ∀ x y, x ∈ xs → f x = some y → ∃ ρ' js, TgB K g (E x) (wipeS ρ vs) ρ' js ∧ (∀ j ∈ js, j ∈ vs) ∧ ∃ q, EvT K tt ρ' os1 q os1 ∧
      (q = true → ∃ k v, y = some (k, v) ∧ Ev K tk ρ' os1 (.tup (k.map keyD)) os1 ∧ Ev K tv ρ' os1 (E v) os1) ∧ (q = false → y = none)) :
    EvN K (tDcT wi g tt tk tv vs) ρ os (E (⟨ys⟩ : DctT β)) os1 := fun R F ps σ H Q I k =>
  hs R F ps σ H _ I fun J F1 H1 e1 I1 w => by
    intro Dl hD
    obtain ⟨hR, hF, J0⟩ := I1.hst.lockO (u := .dT []) (fun _ z => nomatch z) hD
    let Pv : Nat → Hp → Prop := fun i H' => ∃ F' acc zs, H' Dl = some (.dT acc) ∧ dcompM f (xs.drop i) zs = some ys ∧ Ex F1 F' ∧ RpT K F' acc (zs.map fun p => (p.1, E p.2)) ∧ Hst K F' (upd R Dl (.dT acc)) ps os1 H'
    have key : (xs.map (E : α → D)).length = xs.length := List.length_map _
    refine ⟨fun i m H => m = xs.length - i ∧ i ≤ xs.length ∧ Pv i H, ⟨xs.length, rfl, Nat.zero_le _, F1, [], [], upd_same, hm, Ex.refl _, .nil, J0⟩, ?_⟩
    rintro i m H' ⟨rfl, hi, F', acc, zs, hacc, hl, e, ra, J'⟩
    by_cases hlt : i < xs.length
    · refine .inr ⟨w.goes i H' (by rw [key]; exact hlt) (e.trans J'.sub), Pv (i + 1), fun H'' p' => ⟨_, ?_, rfl, hlt, p'⟩, fun v H'' hy => ?_⟩
      · omega
      · obtain ⟨d, hd, hy⟩ := w.yields i H' v H'' (by rw [key]; exact hlt) (e.trans J'.sub) hy
        rw [List.getElem?_map] at hd
        obtain ⟨x, hx', rfl⟩ := Option.map_eq_some_iff.mp hd
        obtain ⟨F3, e3, J3, r3⟩ := hy _ F' ps os1 e J'
        rw [dcompM_drop hx'] at hl
        cases hbx : f x with
        | none => rw [hbx] at hl; cases hl
        | some y =>
          rw [hbx] at hl
          obtain ⟨ρ', js, ht, hjs, q, hT, hq1, hq2⟩ := hb x y (List.mem_of_getElem? hx') hbx
          have Iw : St K (upd R Dl (.dT acc)) F3 ps (wipeS ρ vs) os1 (wipe σ vs) H'' := ⟨slots_wipe (I1.sl.up (e.trans e3) (List.prefix_refl _)) vs, J3⟩
          refine ht _ F3 ps os1 _ H'' v _ Iw r3 fun σ2 J5 eq5 l5 => ⟨wipe_back eq5 l5 hjs, ?_⟩
          refine hT _ F3 ps σ2 H'' _ J5 fun F4 H4 e4 J6 => ?_
          cases q with
          | false =>
            obtain rfl := hq2 rfl
            exact ⟨F4, acc, zs, (J6.hst.oth Dl _ upd_same).2.1, hl, e.trans (e3.trans e4), RpT.up (e3.trans e4) ra, J6.hst⟩
          | true =>
            obtain ⟨kk, z, rfl, hK, hV⟩ := hq1 rfl
            simp only at hl
            rw [if_pos rfl]
            refine hK _ F4 ps σ2 H4 _ J6 fun yk F5 H5 e5 J7 r7 => hV _ F5 ps σ2 H5 _ J7 fun yv F6 H6 e6 J8 r8 => ?_
            obtain ⟨b, rfl, hbk⟩ := rp_tk J8.hst.sub (Rp.up e6 r7)
            have hacc6 := (J8.hst.oth Dl _ upd_same).2.1
            cases hput : dputO zs kk z with
            | none => rw [hput] at hl; cases hl
            | some zs' =>
              rw [hput] at hl
              simp only at hl
              unfold dputO at hput
              split at hput
              case isFalse => cases hput
              rename_i hz
              cases hput
              have r6 : RpT K F6 acc (zs.map fun p => (p.1, E p.2)) := RpT.up (e3.trans (e4.trans (e5.trans e6))) ra
              refine ⟨acc, kk, b, rfl, hbk, hacc6, ?_, F6, _, dput zs kk z, upd_same, hl, e.trans (e3.trans (e4.trans (e5.trans e6))), ?_, J8.hst.setO (fun _ z => nomatch z)⟩
              · rw [rpt_len r6, List.length_map]; exact hz
              · rw [dput_map]
                exact rpt_put r8 kk r6
    · have hi' : i = xs.length := by omega
      subst hi'
      refine .inl ⟨by
        have := w.stops H' (e.trans J'.sub)
        rwa [key] at this, ?_⟩
      rw [List.drop_length] at hl
      cases hl
      obtain ⟨a1, a2⟩ := J'.unlockO hR (.dctT ra)
      have sl : Slots K F' ps σ ρ := I1.sl.up e (List.prefix_refl _)
      exact k Dl F' H' (e1.trans e) ⟨sl.up (Ex.refl _) (List.prefix_append _ _), a1⟩ ⟨sl, a2⟩
/-! ### displays -/
def EvP (K : PySem.W.Frag) (trs : List (TE × TE)) (ρ : List Sl) (os : List Ow) (kds : List (Key × D)) (os' : List Ow) : Prop :=
  ∀ (R F : Hp) (ps : List Addr) (σ : L2.St) (H : Hp) (Q : List (V × V) → Hp → Prop), St K R F ps ρ os σ H → (∀ kvs F' H', Ex F F' → St K R F' ps ρ os' σ H' → RpK K F' kvs kds → Q (kvs.map fun kv => (kV kv.1, kv.2)) H') → tPairs trs σ H Q
theorem ep_nil : EvP K [] ρ os [] os := fun R F ps σ H Q I q => q [] F H (Ex.refl F) I .nil
theorem ep_cons {trs : List (TE × TE)} {k : Key} {kds : List (Key × D)} (hk : Ev K tk ρ os (keyD k) os1) (hv : Ev K tv ρ os1 d os2) (hr : EvP K trs ρ os2 kds os3) : EvP K ((tk, tv) :: trs) ρ os ((k, d) :: kds) os3 := fun R F ps σ H Q I q =>
  hk R F ps σ H _ I fun y F1 H1 e1 I1 r1 => hv R F1 ps σ H1 _ I1 fun v F2 H2 e2 I2 r2 => hr R F2 ps σ H2 _ I2 fun kvs F3 H3 e3 I3 r3 => by
    have := q ((k, v) :: kvs) F3 H3 (e1.trans (e2.trans e3)) I3 (.cons (Rp.up e3 r2) r3)
    rw [rp_key r1]
    exact this
def mergeKD (l m : List (Key × D)) : List (Key × D) := m.foldl (fun acc p => dput acc p.1 p.2) l
theorem rpk_merge : ∀ {ms : List (Key × V)} {md : List (Key × D)} {vs : List (Key × V)} {ds : List (Key × D)}, RpK K F ms md → RpK K F vs ds → RpK K F (mergeK vs ms) (mergeKD ds md)
  | _, _, _, _, .nil, r => r
  | _, _, vs, ds, @RpK.cons _ _ k v ms d md h t, r => (rpk_merge t (rpk_put h k r) : RpK K F (mergeK (putK vs k v) ms) (mergeKD (dput ds k d) md))
theorem en_disp {trs : List (TE × TE)} {kds : List (Key × D)} (h : EvP K trs ρ os kds os1) (hl : kds.length ≤ 15) : EvN K (tDisp trs) ρ os (.dct (mergeKD [] kds)) os1 := fun R F ps σ H Q I q p hp => by
  obtain ⟨hR, hF, J0⟩ := I.hst.lockO (u := .dK []) (fun _ z => nomatch z) hp
  refine h _ F ps σ _ _ ⟨I.sl, J0⟩ fun kvs F1 H1 e1 I1 r1 => ?_
  have hp1 := (I1.hst.oth p _ upd_same).2.1
  have J2 := I1.hst.setO (u' := .dK (mergeK [] kvs)) (fun _ z => nomatch z)
  obtain ⟨a1, a2⟩ := J2.unlockO hR (.dct (rpk_merge r1 .nil))
  exact ⟨hp1, kvs, rfl, by rw [r1.length]; exact hl, q p F1 _ e1 ⟨I1.sl.up (Ex.refl _) (List.prefix_append _ _), a1⟩ ⟨I1.sl, a2⟩⟩
/-! a walked dict that is a D -/
theorem dDct_eq {l : List (Key × D)} (h : dDct d = some l) : d = .dct l := by
  cases d <;> first | (cases h; done) | (cases h; rfl)
theorem dDctT_eq {l : List (List Key × D)} (h : dDctT d = some l) : d = .dctT l := by
  cases d <;> first | (cases h; done) | (cases h; rfl)
theorem fzD_of {i : Nat} {d e : D} (h : ρ[i]? = some (.fz d)) (q : d = e) : ρ[i]? = some (.fz e) := q ▸ h
end
end Ly

set_option Elab.async false
set_option linter.all false
set_option autoImplicit false
set_option maxRecDepth 100000
set_option maxHeartbeats 4000000
/-! Lay10: a dict's keys walked; a list seen as one of data. -/
namespace Ly
open PySem PySem.Spec PyProof.Rows L2
section
variable {K : PySem.W.Frag} {R F G H : Hp} {ps : List Addr} {ρ ρ' : List Sl} {os os1 os2 os3 : List Ow} {σ : L2.St} {s t : Sl} {d e : D} {te ta tb tc td tk tv : TE} {tt tu : TT} {P : Post}
abbrev tsKeys (i : Nat) (g : TG) (tb : TS) : TS := fun D σ H => tLock (tFor (iKeys (tVar i)) g tb) D σ H ∨ tFor (iKeys (tVar i)) g tb D σ H
theorem run_forKd {S Rr : Type} {g : TG} {tb : TS} {i : Nat} {ds : List (Key × D)} {b : Key → S → Option (Ctl S Rr)} {s0 : S} {c : Ctl S Rr} (shape : S → List Sl) (osh : S → List Ow) (RP : Rr → Sl → List Ow → Prop)
    (hi : ρ[i]? = some (.fz d) ∧ dDct d = some ds) (hm : loopM b (ds.map (·.1)) s0 = some c) (hw : Wk ρ os (shape s0) (osh s0)) (hn : ∀ s, (osh s).length = os.length)
    (hb : ∀ x s c', x ∈ ds.map (·.1) → b x s = some c' → ∃ ρ' js, TgB K g (E x) (shape s) ρ' js ∧ Run K tb ρ' (osh s) (LPost P shape osh RP c'))
    (hx : ∀ s, c = .nx s → P.nx (shape s) (osh s)) (hr : ∀ r, c = .rt r → ∀ sl os', RP r sl os' → P.rt sl os') : Run K (tsKeys i g tb) ρ os P :=
  run_forKD shape osh RP (fzD_of hi.1 (dDct_eq hi.2)) hm hw hn hb hx hr
theorem run_forTd {S Rr : Type} {g : TG} {tb : TS} {i : Nat} {ds : List (List Key × D)} {b : TK → S → Option (Ctl S Rr)} {s0 : S} {c : Ctl S Rr} (shape : S → List Sl) (osh : S → List Ow) (RP : Rr → Sl → List Ow → Prop)
    (hi : ρ[i]? = some (.fz d) ∧ dDctT d = some ds) (hm : loopM b (ds.map fun kv => (⟨kv.1⟩ : TK)) s0 = some c) (hw : Wk ρ os (shape s0) (osh s0)) (hn : ∀ s, (osh s).length = os.length)
    (hb : ∀ x s c', x ∈ ds.map (fun kv => (⟨kv.1⟩ : TK)) → b x s = some c' → ∃ ρ' js, TgB K g (E x) (shape s) ρ' js ∧ Run K tb ρ' (osh s) (LPost P shape osh RP c'))
    (hx : ∀ s, c = .nx s → P.nx (shape s) (osh s)) (hr : ∀ r, c = .rt r → ∀ sl os', RP r sl os' → P.rt sl os') : Run K (tsKeys i g tb) ρ os P :=
  run_forTD shape osh RP (fzD_of hi.1 (dDctT_eq hi.2)) hm hw hn hb hx hr
theorem run_forKa {α S Rr : Type} [Enc α] {g : TG} {tb : TS} {i : Nat} {l : List (Key × α)} {b : Key → S → Option (Ctl S Rr)} {s0 : S} {c : Ctl S Rr} (shape : S → List Sl) (osh : S → List Ow) (RP : Rr → Sl → List Ow → Prop)
    (hi : ρ[i]? = some (.fz (E (⟨l⟩ : Dct α)))) (hm : loopM b (l.map (·.1)) s0 = some c) (hw : Wk ρ os (shape s0) (osh s0)) (hn : ∀ s, (osh s).length = os.length)
    (hb : ∀ x s c', x ∈ l.map (·.1) → b x s = some c' → ∃ ρ' js, TgB K g (E x) (shape s) ρ' js ∧ Run K tb ρ' (osh s) (LPost P shape osh RP c'))
    (hx : ∀ s, c = .nx s → P.nx (shape s) (osh s)) (hr : ∀ r, c = .rt r → ∀ sl os', RP r sl os' → P.rt sl os') : Run K (tsKeys i g tb) ρ os P := by
  have e : (l.map fun p => (p.1, (E p.2 : D))).map (·.1) = l.map (·.1) := by rw [List.map_map]; rfl
  refine run_forKD shape osh RP (ds := l.map fun p => (p.1, E p.2)) hi (by rw [e]; exact hm) hw hn (fun x s c' hx' => hb x s c' (by rw [e] at hx'; exact hx')) hx hr
theorem run_forTa {α S Rr : Type} [Enc α] {g : TG} {tb : TS} {i : Nat} {l : List (List Key × α)} {b : TK → S → Option (Ctl S Rr)} {s0 : S} {c : Ctl S Rr} (shape : S → List Sl) (osh : S → List Ow) (RP : Rr → Sl → List Ow → Prop)
    (hi : ρ[i]? = some (.fz (E (⟨l⟩ : DctT α)))) (hm : loopM b (l.map fun kv => (⟨kv.1⟩ : TK)) s0 = some c) (hw : Wk ρ os (shape s0) (osh s0)) (hn : ∀ s, (osh s).length = os.length)
    (hb : ∀ x s c', x ∈ l.map (fun kv => (⟨kv.1⟩ : TK)) → b x s = some c' → ∃ ρ' js, TgB K g (E x) (shape s) ρ' js ∧ Run K tb ρ' (osh s) (LPost P shape osh RP c'))
    (hx : ∀ s, c = .nx s → P.nx (shape s) (osh s)) (hr : ∀ r, c = .rt r → ∀ sl os', RP r sl os' → P.rt sl os') : Run K (tsKeys i g tb) ρ os P := by
  have e : (l.map fun p => (p.1, (E p.2 : D))).map (fun kv => (⟨kv.1⟩ : TK)) = l.map fun kv => (⟨kv.1⟩ : TK) := by rw [List.map_map]; rfl
  refine run_forTD shape osh RP (ds := l.map fun p => (p.1, E p.2)) hi (by rw [e]; exact hm) hw hn (fun x s c' hx' => hb x s c' (by rw [e] at hx'; exact hx')) hx hr
section
variable {S : Type} {g : TG} {tb : TS} {i : Nat} {s0 s1 : S}
theorem run_forKdN {ds : List (Key × D)} {b : Key → S → Option (Ctl S Empty)} (shape : S → List Sl) (osh : S → List Ow)
    (hi : ρ[i]? = some (.fz d) ∧ dDct d = some ds) (hm : loopN b (ds.map (·.1)) s0 = some s1) (hw : Wk ρ os (shape s0) (osh s0)) (hn : ∀ s, (osh s).length = os.length)
    (hb : ∀ x s c', x ∈ ds.map (·.1) → b x s = some c' → ∃ ρ' js, TgB K g (E x) (shape s) ρ' js ∧ Run K tb ρ' (osh s) (LPost P shape osh (fun (_ : Empty) _ _ => False) c'))
    (hx : P.nx (shape s1) (osh s1)) : Run K (tsKeys i g tb) ρ os P :=
  run_forKd shape osh (fun (_ : Empty) _ _ => False) hi (loopN_some hm) hw hn hb (fun s e => by cases e; exact hx) (fun r => nomatch r)
theorem run_forTdN {ds : List (List Key × D)} {b : TK → S → Option (Ctl S Empty)} (shape : S → List Sl) (osh : S → List Ow)
    (hi : ρ[i]? = some (.fz d) ∧ dDctT d = some ds) (hm : loopN b (ds.map fun kv => (⟨kv.1⟩ : TK)) s0 = some s1) (hw : Wk ρ os (shape s0) (osh s0)) (hn : ∀ s, (osh s).length = os.length)
    (hb : ∀ x s c', x ∈ ds.map (fun kv => (⟨kv.1⟩ : TK)) → b x s = some c' → ∃ ρ' js, TgB K g (E x) (shape s) ρ' js ∧ Run K tb ρ' (osh s) (LPost P shape osh (fun (_ : Empty) _ _ => False) c'))
    (hx : P.nx (shape s1) (osh s1)) : Run K (tsKeys i g tb) ρ os P :=
  run_forTd shape osh (fun (_ : Empty) _ _ => False) hi (loopN_some hm) hw hn hb (fun s e => by cases e; exact hx) (fun r => nomatch r)
theorem run_forKaN {α : Type} [Enc α] {l : List (Key × α)} {b : Key → S → Option (Ctl S Empty)} (shape : S → List Sl) (osh : S → List Ow)
    (hi : ρ[i]? = some (.fz (E (⟨l⟩ : Dct α)))) (hm : loopN b (l.map (·.1)) s0 = some s1) (hw : Wk ρ os (shape s0) (osh s0)) (hn : ∀ s, (osh s).length = os.length)
    (hb : ∀ x s c', x ∈ l.map (·.1) → b x s = some c' → ∃ ρ' js, TgB K g (E x) (shape s) ρ' js ∧ Run K tb ρ' (osh s) (LPost P shape osh (fun (_ : Empty) _ _ => False) c'))
    (hx : P.nx (shape s1) (osh s1)) : Run K (tsKeys i g tb) ρ os P :=
  run_forKa shape osh (fun (_ : Empty) _ _ => False) hi (loopN_some hm) hw hn hb (fun s e => by cases e; exact hx) (fun r => nomatch r)
theorem run_forTaN {α : Type} [Enc α] {l : List (List Key × α)} {b : TK → S → Option (Ctl S Empty)} (shape : S → List Sl) (osh : S → List Ow)
    (hi : ρ[i]? = some (.fz (E (⟨l⟩ : DctT α)))) (hm : loopN b (l.map fun kv => (⟨kv.1⟩ : TK)) s0 = some s1) (hw : Wk ρ os (shape s0) (osh s0)) (hn : ∀ s, (osh s).length = os.length)
    (hb : ∀ x s c', x ∈ l.map (fun kv => (⟨kv.1⟩ : TK)) → b x s = some c' → ∃ ρ' js, TgB K g (E x) (shape s) ρ' js ∧ Run K tb ρ' (osh s) (LPost P shape osh (fun (_ : Empty) _ _ => False) c'))
    (hx : P.nx (shape s1) (osh s1)) : Run K (tsKeys i g tb) ρ os P :=
  run_forTa shape osh (fun (_ : Empty) _ _ => False) hi (loopN_some hm) hw hn hb (fun s e => by cases e; exact hx) (fun r => nomatch r)
end
theorem ps_keys {X : Cx} {st : Stmt} {g : TG} {tb : TS} {i : Nat} (h : PS X st (tFor (iKeys (tVar i)) g tb)) : PS X st (tsKeys i g tb) := ps_lockO h
theorem e_toD {α : Type} [Enc α] {xs : List α} : (E (xs.map (E : α → D)) : D) = E xs := by
  show D.lst ((xs.map E).map id) = D.lst (xs.map E)
  rw [List.map_id]
theorem en_toD {α : Type} [Enc α] {xs : List α} (h : EvN K te ρ os (E xs) os1) : EvN K te ρ os (E (xs.map (E : α → D))) os1 := by rw [e_toD]; exact h
theorem ev_toD {α : Type} [Enc α] {xs : List α} (h : Ev K te ρ os (E xs) os1) : Ev K te ρ os (E (xs.map (E : α → D))) os1 := by rw [e_toD]; exact h
end
/-- y = {k: v for ..}: the comprehension stores by itself -/
theorem ps_setDcT {X : Cx} {i : Nat} {y : Str} {py : Pos} {kx vx tg iter : Expr} {ifs : List Expr} {scope : Scope} {own : List (Str × Nat)} {pos spos : Pos} {wi : TI} {g : TG} {tt : TT} {tk tv : TE} (hu : X.A.units + 1 < cLine) (hc : X.calm = true) (hN : X.N.Nodup) (hy : X.N[i]? = some y) (hyl : X.env.scope.names.lookup y = some .local)
    (hsw : swapsWith (.DictComp kx vx [⟨tg, iter, ifs, 0⟩] scope pos) (some (.Name y py)) spos.line X.env = pure true) (hi : PI X tg iter wi) (ok : BlkOk X.N X.env.scope scope own)
    (hg : Blks X scope fun Y => PG Y tg g) (ht : Blks X scope fun Y => PTs Y ifs tt) (hk : Blks X scope fun Y => PE Y kx tk) (he : Blks X scope fun Y => PE Y vx tv) (hs : ∀ x, foldedSetIterable iter X.env x = pure x := by intro _; rfl) :
    PS X (.Assign [.Name y py] (.DictComp kx vx [⟨tg, iter, ifs, 0⟩] scope pos) spos) (tAsg (tDcT wi g tt tk tv (own.map (·.2))) (gName i)) := by
  refine ⟨fun pins s σ H D I h => ?_⟩
  rw [exec_Assign_Name_used _ _ _ _ hsw]
  refine wpAny_bind (wpAny_standAt (wpAny_bind ?_))
  show wpAny _ X.A (do let _ ← comprehension (.DictComp kx vx [⟨tg, iter, ifs, 0⟩] scope pos) scope X.env (firstIterPos [⟨tg, iter, ifs, 0⟩] pos) newDict false (eval iter X.env) (some (assign (.Name y py) X.env))) _ _ s
  have h : tDcT wi g tt tk tv (own.map (·.2)) σ H (fun x H1 => gName i x σ H1 D.nx) := h
  refine wpAny_bind (thn (dcT_core (Qf := fun _ s' => SP X pins D .next s') hu hc hN I hi ok hg ht hk he hs h fun L C s' m H' I' q hn f => ?_) fun _ s' hq => wpAny_pure (wpAny_pure hq))
  show wpAny _ _ (assign (.Name y py) X.env (.ref L)) _ _ _
  refine wpAny_assign_Name (store_ok2 (v := V.ref L) I' hN hy (.inl hyl) rfl (fun s2 I2 ⟨a, sb, ha⟩ => ?_) (.inr hyl))
  obtain ⟨f0, f1, f2, f3, f4, f5⟩ := f
  have haC : C ≠ a := by
    rcases ha with z | z
    · rw [z]; exact f1
    · exact fun e => f4 y a z e.symm
  refine ⟨m, hn.sameBut sb haC, fun h3 sb3 => ?_⟩
  exact ⟨_, H', I2.turned (t' := s2.toks) (fun b o hb e => (sb3.2 b hb).trans e) f0 f1 f3 f4 f5, q⟩
theorem sw_trueD {kx vx : Expr} {gs : List Comprehension} {scope : Scope} {pos py : Pos} {y : Str} {l : Nat} {env : Env} (hk : env.scope.kind = .function) (hy : env.scope.names.lookup y = some .local) (hl : (py.line == pos.line) = true)
    (ha : (scope.names.any fun (n, k) => n == y && (k == .local || k == .cell)) = false) : swapsWith (.DictComp kx vx gs scope pos) (some (.Name y py)) l env = pure true := by
  have ky : env.kindOf y = some .local := hy
  have hb : env.blockKind = .function := by unfold Env.blockKind; rw [hk]; rfl
  unfold swapsWith
  simp only [hb, ky, ha, Expr.pos, hl]
  rfl
end Ly

set_option Elab.async false
set_option linter.all false
set_option autoImplicit false
set_option maxRecDepth 100000
set_option maxHeartbeats 4000000
/-! Lay11: the law's own end. -/
namespace Ly
open PySem PySem.Spec PyProof.Rows L2
def spLaw (K : PySem.W.Frag) : Sp := fun vs H Q _ => ∃ (a : Addr) (ns : List Int), vs = [.ref a] ∧ SqL K H a (ns.map V.int) ∧ ns.length ≤ 63 ∧ ∀ H', Q (.bl true) H'
theorem spLaw_R {K : PySem.W.Frag} {m : List Int → Option Bool} {Rl : Rel} (hm : ∀ ns : List Int, ns.length ≤ 63 → m ns = some true) (hR : ∀ ns : List Int, m ns = some true → Rl [.fz (E ns)] [] (.fz (E true)) []) :
    ∀ vs H Q X, spLaw K vs H Q X → spR K Rl vs H Q X := by
  rintro vs H Q X ⟨a, ns, rfl, hs, hl, q⟩
  classical
  refine ⟨fun _ => none, fun x => if x = a then H a else none, [], [.fz (E ns)], [], .fz (E true), [], hR ns (hm ns hl), ⟨?_, ?_⟩, ?_⟩
  · refine .cons ?_ .nil
    refine Rp.lst (K := K) (xs := ns.map V.int) ?_ (rpl_ints ns)
    rcases hs with hs | hs
    · left
      rcases hs with hs | ⟨o, hs⟩
      · left
        show (if a = a then H a else none) = _
        rw [if_pos rfl]; exact hs
      · right
        refine ⟨o, ?_⟩
        show (if a = a then H a else none) = _
        rw [if_pos rfl]; exact hs
    · exact .inr hs
  · refine ⟨fun x o h => ?_, fun _ _ h => (by cases h), rfl, fun i p d h _ => (by simp at h), fun i j p h _ _ _ => (by simp at h)⟩
    have h : (if x = a then H a else none) = some o := h
    by_cases e : x = a
    · subst e
      rw [if_pos rfl] at h
      exact h
    · rw [if_neg e] at h
      cases h
  · intro v F' H' e h r
    cases r
    exact q H'
end Ly

set_option Elab.async false
set_option linter.all false
set_option autoImplicit false
set_option maxRecDepth 100000
set_option maxHeartbeats 4000000
namespace K24
open PySem L2 Ly
def m_is_pair_c1 : D → Unit → Option (Option Bool × Unit)
  | one_12, _u => obind (dIsi one_12 "int") fun (b_13 : Bool) => obind (cond b_13 (obind (dIsi one_12 "bool") fun (b_15 : Bool) => some (!b_15)) (some false)) fun (b_17 : Bool) => some (some b_17, ())
def m_is_pair (value_1 : D) : Option Bool :=
  obind (dIsi value_1 "tuple") fun (b_2 : Bool) =>
  obind (cond (!b_2) (some true) (obind (dLenA value_1) fun (n_4 : Int) => some (!decide (n_4 = (2 : Int))))) fun (b_6 : Bool) =>
  cond b_6 (
  some false) (
  obind (dTup value_1) fun (ds_10 : (List D)) =>
  obind (comp m_is_pair_c1 ds_10 ()) fun (⟨ys_20, u_21⟩ : (List Bool) × Unit) =>
  some (ys_20.all id))


def m_is_row (value_1 : D) : Option Bool :=
  obind (dIsi value_1 "tuple") fun (b_2 : Bool) =>
  obind (cond (!b_2) (some true) (obind (dLenA value_1) fun (n_4 : Int) => obind (cond (!decide (n_4 = (2 : Int))) (some true) (obind (dIx value_1 (0 : Int)) fun (t_6 : D) => obind (m_is_pair t_6) fun (r_8 : Bool) => obind (cond (!r_8) (some true) (obind (dIx value_1 (1 : Int)) fun (t_10 : D) => obind (m_is_pair t_10) fun (r_12 : Bool) => some (!r_12))) fun (b_14 : Bool) => some b_14)) fun (b_17 : Bool) => some b_17)) fun (b_20 : Bool) =>
  cond b_20 (
  some false) (
  obind (dIx value_1 (0 : Int)) fun (t_24 : D) =>
  obind (dIx value_1 (1 : Int)) fun (t_26 : D) =>
  obind (dCat t_24 t_26) fun (t_28 : D) =>
  obind (dMin t_28) fun (m_30 : Int) =>
  some (decide ((0 : Int) ≤ m_30)))

def m_is_ringless_c1 : D → Unit → Option (Option Bool × Unit)
  | row_6, _u => obind (m_is_row row_6) fun (r_7 : Bool) => some (some r_7, ())
def m_is_ringless_c2 : D → Option (Option (List L2.Key × D))
  | row_18 => obind (dIx row_18 (0 : Int)) fun (t_19 : D) => obind (dTK t_19) fun (k_21 : TK) => obind (dIx row_18 (1 : Int)) fun (t_23 : D) => some (some (k_21.l, t_23))
def m_is_ringless_w1c (ys_25 : (List (List L2.Key × D))) (s_30 : (DctT Bool)) : (D × (DctT Bool)) → Option Bool
  | (here_32, s_33) => obind (dTK here_32) fun (k_34 : TK) => obind (cond (dhas (⟨ys_25⟩ : (DctT D)).l k_34.l) (obind (dTK here_32) fun (k_36 : TK) => obind (cond (!dhas s_30.l k_36.l) (obind (dTK here_32) fun (k_38 : TK) => some (!dhas s_33.l k_38.l)) (some false)) fun (b_40 : Bool) => some b_40) (some false)) fun (b_43 : Bool) => some b_43
def m_is_ringless_w1 (ys_25 : (List (List L2.Key × D))) (s_30 : (DctT Bool)) : (D × (DctT Bool)) → Option (Ctl (D × (DctT Bool)) Empty)
  | (here_32, s_33) =>
  obind (dTK here_32) fun (k_46 : TK) =>
  obind (dputO s_33.l k_46.l true) fun (way_48 : (List (List L2.Key × Bool))) =>
  obind (dTK here_32) fun (k_50 : TK) =>
  obind (dget (⟨ys_25⟩ : (DctT D)).l k_50.l) fun (t_52 : D) =>
  some (.nx (t_52, (⟨way_48⟩ : (DctT Bool))))
def m_is_ringless_l1 (ys_25 : (List (List L2.Key × D))) : TK → (DctT Bool) → Option (Ctl (DctT Bool) Bool)
  | node_31, s_30 =>
  obind (whileN (m_is_ringless_w1c ys_25 s_30) (m_is_ringless_w1 ys_25 s_30) 100000 ((E (node_31 : TK)), (⟨[]⟩ : (DctT Bool)))) fun (⟨here_54, w_55⟩ : D × (DctT Bool)) =>
  obind (dTK here_54) fun (k_57 : TK) =>
  cond (dhas w_55.l k_57.l) (
  some (.rt false)) (
  obind (updO s_30.l w_55.l) fun (ended_60 : (List (List L2.Key × Bool))) =>
  some (.nx (⟨ended_60⟩ : (DctT Bool))))
def m_is_ringless (rows_1 : D) : Option Bool :=
  obind (dIsi rows_1 "list") fun (b_2 : Bool) =>
  obind (cond (!b_2) (some true) (obind (dLst rows_1) fun (ds_4 : (List D)) => obind (comp m_is_ringless_c1 ds_4 ()) fun (⟨ys_9, u_10⟩ : (List Bool) × Unit) => some (!(ys_9.all id)))) fun (b_12 : Bool) =>
  cond b_12 (
  some false) (
  obind (dLst rows_1) fun (ds_16 : (List D)) =>
  obind (dcomp m_is_ringless_c2 ds_16) fun (ys_25 : (List (List L2.Key × D))) =>
  obind (dLenA rows_1) fun (n_27 : Int) =>
  cond (!decide (((⟨ys_25⟩ : (DctT D)).l.length : Int) = n_27)) (
  some false) (
  obind (loopM (m_is_ringless_l1 ys_25) ((⟨ys_25⟩ : (DctT D)).l.map (fun kv => (⟨kv.1⟩ : TK))) (⟨[]⟩ : (DctT Bool))) fun c_63 => ctl c_63 (fun (w_62 : (DctT Bool)) =>
  some true) (fun r_65 => some r_65)))


def m_law_stream (script_1 : (List Int)) : Option (LH3 (List Int) Int Int) :=
  some (⟨script_1, (0 : Int), (0 : Int)⟩ : (LH3 (List Int) Int Int))


def m_law_next (stream_1 : (LH3 (List Int) Int Int)) (many_2 : Int) : Option (Int × (LH3 (List Int) Int Int)) :=
  obind (cond (decide (stream_1.b = (0 : Int))) (obind (cond (decide (stream_1.c < (stream_1.a.length : Int))) (obind (atI stream_1.a stream_1.c) fun (t_7 : Int) =>
  obind (modI (absI t_7) (1000000000000000000000000000000000000000000000000000000000000000000000000000000000000000000000000000000000000000000000000000000000000000000000000000000000000000000000000000000000000000000000000 : Int)) fun (q_9 : Int) =>
  some q_9) (some ((7 : Int) + stream_1.c))) fun (cell_6 : Int) =>
  obind (cond (decide (cell_6 < (1000000000000000000 : Int))) (obind (mulI cell_6 (48271 : Int)) fun (q_14 : Int) =>
  obind (mulI stream_1.c (69621 : Int)) fun (q_16 : Int) =>
  obind (modI ((q_14 + q_16) + (11 : Int)) (2147483647 : Int)) fun (q_18 : Int) =>
  obind (mulI q_18 (16807 : Int)) fun (q_20 : Int) =>
  obind (modI (q_20 + (13 : Int)) (2147483647 : Int)) fun (q_22 : Int) =>
  obind (mulI q_22 (65537 : Int)) fun (q_24 : Int) =>
  some (q_24 + q_18)) (some cell_6)) fun (cell_13 : Int) =>
  some (⟨(⟨stream_1.a, cell_13, stream_1.c⟩ : (LH3 (List Int) Int Int)).a, (⟨stream_1.a, cell_13, stream_1.c⟩ : (LH3 (List Int) Int Int)).b, (stream_1.c + (1 : Int))⟩ : (LH3 (List Int) Int Int))) (some stream_1)) fun (w_4 : (LH3 (List Int) Int Int)) =>
  obind (modI w_4.b many_2) fun (q_28 : Int) =>
  obind (fdivI w_4.b many_2) fun (q_30 : Int) =>
  some (q_28, (⟨w_4.a, q_30, w_4.c⟩ : (LH3 (List Int) Int Int)))


def m_law_pick {α : Type} [Enc α] (stream_1 : (LH3 (List Int) Int Int)) (rows_2 : (Sq α)) : Option (α × (LH3 (List Int) Int Int)) :=
  obind (m_law_next stream_1 (rows_2.v.length : Int)) fun (⟨r_3, w_4⟩ : Int × (LH3 (List Int) Int Int)) =>
  obind (atI rows_2.v r_3) fun (t_6 : α) =>
  some (t_6, w_4)


def m_law_from (stream_1 : (LH3 (List Int) Int Int)) (low_2 : Int) (high_3 : Int) : Option (Int × (LH3 (List Int) Int Int)) :=
  obind (m_law_next stream_1 ((high_3 - low_2) + (1 : Int))) fun (⟨r_4, w_5⟩ : Int × (LH3 (List Int) Int Int)) =>
  some ((low_2 + r_4), w_5)

def m_law_shuffled_l1 {α : Type} [Enc α] : Int → ((LH3 (List Int) Int Int) × (List α) × (List α)) → Option (Ctl ((LH3 (List Int) Int Int) × (List α) × (List α)) Empty)
  | turn_8, (s_5, s_6, s_7) =>
  obind (m_law_next s_5 (s_6.length : Int)) fun (⟨r_9, w_10⟩ : Int × (LH3 (List Int) Int Int)) =>
  obind (popL s_6 r_9) fun (⟨x_12, left_13⟩ : α × (List α)) =>
  obind (appL s_7 x_12) fun (found_15 : (List α)) =>
  some (.nx (w_10, left_13, found_15))
def m_law_shuffled {α : Type} [Enc α] (stream_1 : (LH3 (List Int) Int Int)) (rows_2 : (List α)) : Option ((List α) × (LH3 (List Int) Int Int)) :=
  obind (rngL (0 : Int) (rows_2.length : Int)) fun (rg_3 : (List Int)) =>
  obind (loopN m_law_shuffled_l1 rg_3 (stream_1, rows_2, ([] : (List α)))) fun (⟨w_17, w_18, w_19⟩ : (LH3 (List Int) Int Int) × (List α) × (List α)) =>
  some (w_19, w_17)


def m_law_is_row (value_1 : D) (kind_2 : Str) (many_3 : Int) : Option Bool :=
  obind (cond (decide (kind_2 = ("L" : Str))) (obind (dIsi value_1 "list") fun (b_4 : Bool) => some (!b_4)) (some false)) fun (b_6 : Bool) =>
  cond b_6 (
  some false) (
  obind (cond (decide (kind_2 = ("T" : Str))) (obind (dIsi value_1 "tuple") fun (b_10 : Bool) => some (!b_10)) (some false)) fun (b_12 : Bool) =>
  cond b_12 (
  some false) (
  obind (cond (false) (some true) (obind (dLenA value_1) fun (n_16 : Int) => some (decide (n_16 = many_3)))) fun (b_18 : Bool) =>
  some b_18))

def m_law_same_l1 (self : D → D → Option Bool) (actual_1 : D) (due_2 : D) : Int → Unit → Option (Ctl Unit Bool)
  | at_22, _u =>
  obind (dIx actual_1 at_22) fun (t_23 : D) =>
  obind (dIx due_2 at_22) fun (t_25 : D) =>
  obind (self t_23 t_25) fun (r_27 : Bool) =>
  cond (!r_27) (
  some (.rt false)) (
  some (.nx ()))
def m_law_same_l2 (self : D → D → Option Bool) (actual_1 : D) (due_2 : D) : L2.Key → Unit → Option (Ctl Unit Bool)
  | key_49, _u =>
  obind (dDct actual_1) fun (ds_50 : (List (L2.Key × D))) =>
  obind (cond (!dhas ds_50 key_49) (some true) (obind (dDct actual_1) fun (ds_52 : (List (L2.Key × D))) => obind (dget ds_52 key_49) fun (t_54 : D) => obind (dDct due_2) fun (ds_56 : (List (L2.Key × D))) => obind (dget ds_56 key_49) fun (t_58 : D) => obind (self t_54 t_58) fun (r_60 : Bool) => some (!r_60))) fun (b_62 : Bool) =>
  cond b_62 (
  some (.rt false)) (
  some (.nx ()))
def m_law_same : Nat → D → D → Option Bool
  | 0, _, _ => none
  | n + 1, actual_1, due_2 =>
  obind (dIsi due_2 "tuple") fun (b_3 : Bool) =>
  obind (cond b_3 (some true) (obind (dIsi due_2 "list") fun (b_5 : Bool) => some b_5)) fun (b_7 : Bool) =>
  cond b_7 (
  obind (dIsi due_2 "tuple") fun (b_11 : Bool) =>
  obind (dLenA due_2) fun (n_13 : Int) =>
  obind (m_law_is_row actual_1 (cond b_11 ("T" : Str) ("L" : Str)) n_13) fun (r_15 : Bool) =>
  cond (!r_15) (
  some false) (
  obind (dLenA due_2) fun (n_18 : Int) =>
  obind (rngL (0 : Int) n_18) fun (rg_20 : (List Int)) =>
  obind (loopM ((m_law_same_l1 (m_law_same n)) actual_1 due_2) rg_20 ()) fun c_31 => ctl c_31 (fun (u_30 : Unit) =>
  some true) (fun r_33 => some r_33))) (
  obind (dIsi due_2 "dict") fun (b_34 : Bool) =>
  cond b_34 (
  obind (dIsi actual_1 "dict") fun (b_37 : Bool) =>
  obind (cond (!b_37) (some true) (obind (dLenA actual_1) fun (n_39 : Int) => obind (dLenA due_2) fun (n_41 : Int) => some (!decide (n_39 = n_41)))) fun (b_43 : Bool) =>
  cond b_43 (
  some false) (
  obind (dDct due_2) fun (ds_47 : (List (L2.Key × D))) =>
  obind (loopM ((m_law_same_l2 (m_law_same n)) actual_1 due_2) (ds_47.map (·.1)) ()) fun c_67 => ctl c_67 (fun (u_66 : Unit) =>
  some true) (fun r_69 => some r_69))) (
  obind (dIsi due_2 "bool") fun (b_70 : Bool) =>
  cond b_70 (
  obind (dIsi actual_1 "bool") fun (b_73 : Bool) =>
  obind (cond b_73 (obind (dEq actual_1 due_2) fun (b_75 : Bool) => some b_75) (some false)) fun (b_77 : Bool) =>
  some b_77) (
  obind (dIsi due_2 "str") fun (b_80 : Bool) =>
  cond b_80 (
  obind (dIsi actual_1 "str") fun (b_83 : Bool) =>
  obind (cond b_83 (obind (dEq actual_1 due_2) fun (b_85 : Bool) => some b_85) (some false)) fun (b_87 : Bool) =>
  some b_87) (
  obind (dIsi due_2 "int") fun (b_90 : Bool) =>
  cond b_90 (
  obind (dIsi actual_1 "int") fun (b_93 : Bool) =>
  obind (cond b_93 (obind (dIsi actual_1 "bool") fun (b_95 : Bool) => obind (cond (!b_95) (obind (dEq actual_1 due_2) fun (b_97 : Bool) => some b_97) (some false)) fun (b_99 : Bool) => some b_99) (some false)) fun (b_102 : Bool) =>
  some b_102) (
  some (isNon (E (actual_1 : D))))))))

def m_law_copy_l1 (self : D → Option D) (value_1 : D) : L2.Key → (Dct D) → Option (Ctl (Dct D) Empty)
  | key_8, s_7 =>
  obind (dDct value_1) fun (ds_9 : (List (L2.Key × D))) =>
  obind (dget ds_9 key_8) fun (t_11 : D) =>
  obind (self t_11) fun (r_13 : D) =>
  obind (dputO s_7.l key_8 r_13) fun (found_15 : (List (L2.Key × D))) =>
  some (.nx (⟨found_15⟩ : (Dct D)))
def m_law_copy_c1 (self : D → Option D) : D → Unit → Option (Option D × Unit)
  | item_24, _u => obind (self item_24) fun (r_25 : D) => some (some r_25, ())
def m_law_copy_c2 (self : D → Option D) : D → Unit → Option (Option D × Unit)
  | item_35, _u => obind (self item_35) fun (r_36 : D) => some (some r_36, ())
def m_law_copy : Nat → D → Option D
  | 0, _ => none
  | n + 1, value_1 =>
  obind (dIsi value_1 "dict") fun (b_2 : Bool) =>
  cond b_2 (
  obind (dDct value_1) fun (ds_5 : (List (L2.Key × D))) =>
  obind (loopN ((m_law_copy_l1 (m_law_copy n)) value_1) (ds_5.map (·.1)) (⟨[]⟩ : (Dct D))) fun (w_17 : (Dct D)) =>
  some (E (w_17 : (Dct D)))) (
  obind (dIsi value_1 "list") fun (b_19 : Bool) =>
  cond b_19 (
  obind (dLst value_1) fun (ds_22 : (List D)) =>
  obind (comp (m_law_copy_c1 (m_law_copy n)) ds_22 ()) fun (⟨ys_27, u_28⟩ : (List D) × Unit) =>
  some (E (ys_27 : (List D)))) (
  obind (dIsi value_1 "tuple") fun (b_30 : Bool) =>
  cond b_30 (
  obind (dTup value_1) fun (ds_33 : (List D)) =>
  obind (comp (m_law_copy_c2 (m_law_copy n)) ds_33 ()) fun (⟨ys_38, u_39⟩ : (List D) × Unit) =>
  some (E ((⟨ys_38⟩ : Tup D) : (Tup D)))) (
  some value_1)))

def m_law_table_c1 : Int → (LH3 (List Int) Int Int) → Option (Option (Int × Int) × (LH3 (List Int) Int Int))
  | at_8, s_9 => obind (m_law_next s_9 (3 : Int)) fun (⟨r_10, w_11⟩ : Int × (LH3 (List Int) Int Int)) => obind (mulI (3 : Int) at_8) fun (q_13 : Int) => obind (m_law_next w_11 (9 : Int)) fun (⟨r_15, w_16⟩ : Int × (LH3 (List Int) Int Int)) => some (some ((((1 : Int) + r_10) + q_13), ((1 : Int) + r_15)), w_16)
def m_law_table_l1 (many_2 : Int) (r_3 : Int) (ys_18 : (List (Int × Int))) : Int → ((LH3 (List Int) Int Int) × (List ((Int × Int) × (Int × Int)))) → Option (Ctl ((LH3 (List Int) Int Int) × (List ((Int × Int) × (Int × Int)))) Empty)
  | at_25, (s_23, s_24) =>
  obind (m_law_pick s_23 (Sq.t [(⟨((0 : Int), (0 : Int)), ((9000 : Int), (1 : Int)), ((0 : Int), (3 : Int))⟩ : (T3 (Int × Int) (Int × Int) (Int × Int))).a, (⟨((0 : Int), (0 : Int)), ((9000 : Int), (1 : Int)), ((0 : Int), (3 : Int))⟩ : (T3 (Int × Int) (Int × Int) (Int × Int))).b, (⟨((0 : Int), (0 : Int)), ((9000 : Int), (1 : Int)), ((0 : Int), (3 : Int))⟩ : (T3 (Int × Int) (Int × Int) (Int × Int))).c])) fun (⟨r_26, w_27⟩ : (Int × Int) × (LH3 (List Int) Int Int)) =>
  obind (cond (decide ((0 : Int) < at_25)) (obind (m_law_next w_27 (8 : Int)) fun (⟨r_29, w_30⟩ : Int × (LH3 (List Int) Int Int)) => some ((decide ((0 : Int) < r_29)), w_30)) (some (false, w_27))) fun (⟨b_32, w_33⟩ : Bool × (LH3 (List Int) Int Int)) =>
  obind (cond b_32 (obind (cond (decide (r_3 = many_2)) (obind (m_law_next w_33 (4 : Int)) fun (⟨r_39, w_40⟩ : Int × (LH3 (List Int) Int Int)) => some ((decide ((0 : Int) < r_39)), w_40)) (some (false, w_33))) fun (⟨b_42, w_43⟩ : Bool × (LH3 (List Int) Int Int)) =>
  obind (cond b_42 (obind (atI ys_18 (at_25 - (1 : Int))) fun (t_46 : (Int × Int)) => some (t_46, w_43)) (obind (m_law_from w_43 (max2 (0 : Int) (at_25 - r_3)) (at_25 - (1 : Int))) fun (⟨r_48, w_49⟩ : Int × (LH3 (List Int) Int Int)) => obind (atI ys_18 r_48) fun (t_51 : (Int × Int)) => some (t_51, w_49))) fun (⟨v_53, w_54⟩ : (Int × Int) × (LH3 (List Int) Int Int)) =>
  some (w_54, v_53)) (some (w_33, r_26))) fun (⟨w_37, above_38⟩ : (LH3 (List Int) Int Int) × (Int × Int)) =>
  obind (atI ys_18 at_25) fun (t_58 : (Int × Int)) =>
  obind (appL s_24 (t_58, above_38)) fun (rows_60 : (List ((Int × Int) × (Int × Int)))) =>
  some (.nx (w_37, rows_60))
def m_law_table (stream_1 : (LH3 (List Int) Int Int)) (many_2 : Int) : Option ((List ((Int × Int) × (Int × Int))) × (LH3 (List Int) Int Int)) :=
  obind (m_law_pick stream_1 (Sq.t [(⟨(1 : Int), (2 : Int), (5 : Int), many_2⟩ : (T4 Int Int Int Int)).a, (⟨(1 : Int), (2 : Int), (5 : Int), many_2⟩ : (T4 Int Int Int Int)).b, (⟨(1 : Int), (2 : Int), (5 : Int), many_2⟩ : (T4 Int Int Int Int)).c, (⟨(1 : Int), (2 : Int), (5 : Int), many_2⟩ : (T4 Int Int Int Int)).d])) fun (⟨r_3, w_4⟩ : Int × (LH3 (List Int) Int Int)) =>
  obind (rngL (0 : Int) many_2) fun (rg_6 : (List Int)) =>
  obind (comp m_law_table_c1 rg_6 w_4) fun (⟨ys_18, w_19⟩ : (List (Int × Int)) × (LH3 (List Int) Int Int)) =>
  obind (rngL (0 : Int) many_2) fun (rg_21 : (List Int)) =>
  obind (loopN (m_law_table_l1 many_2 r_3 ys_18) rg_21 (w_19, ([] : (List ((Int × Int) × (Int × Int)))))) fun (⟨w_62, w_63⟩ : (LH3 (List Int) Int Int) × (List ((Int × Int) × (Int × Int)))) =>
  some (w_63, w_62)

def m_law_closed_l1 (rows_2 : (List ((Int × Int) × (Int × Int)))) : Int → (DctT Int) → Option (Ctl (DctT Int) Empty)
  | at_6, s_5 =>
  obind (atI rows_2 at_6) fun (t_7 : ((Int × Int) × (Int × Int))) =>
  obind (dputO s_5.l ([.inl t_7.1.1, .inl t_7.1.2] : List L2.Key) at_6) fun (indexes_9 : (List (List L2.Key × Int))) =>
  some (.nx (⟨indexes_9⟩ : (DctT Int)))
def m_law_closed_l2 (rows_2 : (List ((Int × Int) × (Int × Int)))) (w_11 : (DctT Int)) : Int → (List Int) → Option (Ctl (List Int) Empty)
  | turn_22, s_21 =>
  obind (atI s_21 (-1 : Int)) fun (t_23 : Int) =>
  obind (atI rows_2 t_23) fun (t_25 : ((Int × Int) × (Int × Int))) =>
  cond (dhas w_11.l ([.inl t_25.2.1, .inl t_25.2.2] : List L2.Key)) (
  obind (dget w_11.l ([.inl t_25.2.1, .inl t_25.2.2] : List L2.Key)) fun (t_28 : Int) =>
  obind (appL s_21 t_28) fun (ring_30 : (List Int)) =>
  some (.nx ring_30)) (
  some (.nx s_21))
def m_law_closed (stream_1 : (LH3 (List Int) Int Int)) (rows_2 : (List ((Int × Int) × (Int × Int)))) : Option (((List ((Int × Int) × (Int × Int))) × (List Int)) × (LH3 (List Int) Int Int)) :=
  obind (rngL (0 : Int) (rows_2.length : Int)) fun (rg_3 : (List Int)) =>
  obind (loopN (m_law_closed_l1 rows_2) rg_3 (⟨[]⟩ : (DctT Int))) fun (w_11 : (DctT Int)) =>
  obind (m_law_next stream_1 (rows_2.length : Int)) fun (⟨r_13, w_14⟩ : Int × (LH3 (List Int) Int Int)) =>
  obind (m_law_pick w_14 (Sq.t [(⟨(0 : Int), (1 : Int), (3 : Int), (rows_2.length : Int)⟩ : (T4 Int Int Int Int)).a, (⟨(0 : Int), (1 : Int), (3 : Int), (rows_2.length : Int)⟩ : (T4 Int Int Int Int)).b, (⟨(0 : Int), (1 : Int), (3 : Int), (rows_2.length : Int)⟩ : (T4 Int Int Int Int)).c, (⟨(0 : Int), (1 : Int), (3 : Int), (rows_2.length : Int)⟩ : (T4 Int Int Int Int)).d])) fun (⟨r_16, w_17⟩ : Int × (LH3 (List Int) Int Int)) =>
  obind (rngL (0 : Int) r_16) fun (rg_19 : (List Int)) =>
  obind (loopN (m_law_closed_l2 rows_2 w_11) rg_19 ([r_13] : (List Int))) fun (w_32 : (List Int)) =>
  obind (atI w_32 (-1 : Int)) fun (t_34 : Int) =>
  obind (atI rows_2 t_34) fun (t_36 : ((Int × Int) × (Int × Int))) =>
  obind (atI w_32 (0 : Int)) fun (t_38 : Int) =>
  obind (atI rows_2 t_38) fun (t_40 : ((Int × Int) × (Int × Int))) =>
  obind (atI w_32 (-1 : Int)) fun (t_42 : Int) =>
  obind (setL rows_2 t_42 (t_36.1, t_40.1)) fun (found_44 : (List ((Int × Int) × (Int × Int)))) =>
  some ((found_44, w_32), w_17)


def m_law_spoilt (stream_1 : (LH3 (List Int) Int Int)) (rows_2 : (List ((Int × Int) × (Int × Int)))) : Option (D × (LH3 (List Int) Int Int)) :=
  obind (cond (decide ((rows_2.length : Int) = (0 : Int))) (some (true, stream_1)) (obind (m_law_next stream_1 (3 : Int)) fun (⟨r_3, w_4⟩ : Int × (LH3 (List Int) Int Int)) => some ((decide (r_3 = (0 : Int))), w_4))) fun (⟨b_6, w_7⟩ : Bool × (LH3 (List Int) Int Int)) =>
  cond b_6 (
  obind (m_law_pick w_7 (Sq.l [(E (() : Unit)), (E ((⟨rows_2⟩ : Tup ((Int × Int) × (Int × Int))) : (Tup ((Int × Int) × (Int × Int))))), (E (("" : Str) : Str)), (E ((0 : Int) : Int)), (E (true : Bool)), (E ((⟨[((.inr ("rows" : Str) : L2.Key), rows_2)]⟩ : (Dct (List ((Int × Int) × (Int × Int))))) : (Dct (List ((Int × Int) × (Int × Int)))))), (E ([(⟨[]⟩ : Tup D)] : (List (Tup D)))), (E ([()] : (List Unit))), (E ([[((1 : Int), (1 : Int)), ((0 : Int), (0 : Int))]] : (List (List (Int × Int))))), (E ([(⟨((1 : Int), (1 : Int)), ((0 : Int), (0 : Int)), ((0 : Int), (0 : Int))⟩ : (T3 (Int × Int) (Int × Int) (Int × Int)))] : (List (T3 (Int × Int) (Int × Int) (Int × Int)))))])) fun (⟨r_11, w_12⟩ : D × (LH3 (List Int) Int Int)) =>
  some (r_11, w_12)) (
  obind (m_law_next w_7 (rows_2.length : Int)) fun (⟨r_14, w_15⟩ : Int × (LH3 (List Int) Int Int)) =>
  obind (atI rows_2 r_14) fun (t_17 : ((Int × Int) × (Int × Int))) =>
  obind (catL ([(E ((⟨t_17.1⟩ : (T1 (Int × Int))) : (T1 (Int × Int)))), (E ((t_17.1, ()) : ((Int × Int) × Unit))), (E ([t_17.1, t_17.2] : (List (Int × Int)))), (E ((⟨t_17.1, t_17.2, t_17.2⟩ : (T3 (Int × Int) (Int × Int) (Int × Int))) : (T3 (Int × Int) (Int × Int) (Int × Int)))), (E (([t_17.1.1, t_17.1.2], t_17.2) : ((List Int) × (Int × Int)))), (E ((t_17.1, [t_17.2.1, t_17.2.2]) : ((Int × Int) × (List Int)))), (E (t_17.1 : (Int × Int))), (E ((t_17.1, (⟨(0 : Int), (0 : Int), (0 : Int)⟩ : (T3 Int Int Int))) : ((Int × Int) × (T3 Int Int Int))))] : (List D)) [(E ((t_17.1, ((-1 : Int), (1 : Int))) : ((Int × Int) × (Int × Int)))), (E (((t_17.1.1, (-1 : Int)), t_17.2) : ((Int × Int) × (Int × Int)))), (E ((t_17.1, ((0 : Int), true)) : ((Int × Int) × (Int × Bool)))), (E (((t_17.1.1, ("1" : Str)), t_17.2) : ((Int × Str) × (Int × Int)))), (E ((t_17.1, (("0" : Str), (0 : Int))) : ((Int × Int) × (Str × Int)))), (E ((t_17.1, (false, (0 : Int))) : ((Int × Int) × (Bool × Int))))]) fun (ys_19 : (List D)) =>
  obind (m_law_next w_15 (3 : Int)) fun (⟨r_21, w_22⟩ : Int × (LH3 (List Int) Int Int)) =>
  obind (cond (decide (r_21 = (0 : Int))) (obind (m_law_next w_22 ((rows_2.length : Int) + (1 : Int))) fun (⟨r_27, w_28⟩ : Int × (LH3 (List Int) Int Int)) =>
  obind (m_law_pick w_28 (Sq.l [t_17.2, ((0 : Int), (0 : Int)), ((8000 : Int), (1 : Int))])) fun (⟨r_30, w_31⟩ : (Int × Int) × (LH3 (List Int) Int Int)) =>
  obind (insL (rows_2.map (E : ((Int × Int) × (Int × Int)) → D)) r_27 (E ((t_17.1, r_30) : ((Int × Int) × (Int × Int))))) fun (found_33 : (List D)) =>
  some (w_31, found_33)) (obind (m_law_pick w_22 (Sq.l ys_19)) fun (⟨r_35, w_36⟩ : D × (LH3 (List Int) Int Int)) =>
  obind (setL (rows_2.map (E : ((Int × Int) × (Int × Int)) → D)) r_14 r_35) fun (found_38 : (List D)) =>
  some (w_36, found_38))) fun (⟨w_25, w_26⟩ : (LH3 (List Int) Int Int) × (List D)) =>
  some ((E (w_26 : (List D))), w_25))


def m_law_judged (value_1 : D) (due_2 : Bool) : Option Bool :=
  obind (m_law_copy 8 value_1) fun (r_3 : D) =>
  obind (m_is_ringless value_1) fun (r_5 : Bool) =>
  obind (m_law_same 8 (E (r_5 : Bool)) (E (due_2 : Bool))) fun (r_7 : Bool) =>
  cond (!r_7) (
  some false) (
  obind (m_law_same 8 value_1 r_3) fun (r_10 : Bool) =>
  some r_10)

def m_law_c1 (r_45 : ((List ((Int × Int) × (Int × Int))) × (List Int))) (r_54 : Int) : Int → Unit → Option (Option ((Int × Int) × (Int × Int)) × Unit)
  | at_59, _u =>  cond (!decide (at_59 = r_54)) (obind (atI r_45.1 at_59) fun (t_60 : ((Int × Int) × (Int × Int))) => some (some t_60, ())) (some (none, ()))
def m_law_l1 (v_19 : Int) (r_23 : (List ((Int × Int) × (Int × Int)))) : Int → (LH3 (List Int) Int Int) → Option (Ctl (LH3 (List Int) Int Int) Bool)
  | turn_44, s_43 =>
  obind (m_law_closed s_43 r_23) fun (⟨r_45, w_46⟩ : ((List ((Int × Int) × (Int × Int))) × (List Int)) × (LH3 (List Int) Int Int)) =>
  obind (m_law_shuffled w_46 r_45.1) fun (⟨r_48, w_49⟩ : (List ((Int × Int) × (Int × Int))) × (LH3 (List Int) Int Int)) =>
  obind (m_law_judged (E (r_48 : (List ((Int × Int) × (Int × Int))))) false) fun (r_51 : Bool) =>
  cond (!r_51) (
  some (.rt false)) (
  obind (m_law_pick w_49 (Sq.l r_45.2)) fun (⟨r_54, w_55⟩ : Int × (LH3 (List Int) Int Int)) =>
  obind (rngL (0 : Int) v_19) fun (rg_57 : (List Int)) =>
  obind (comp (m_law_c1 r_45 r_54) rg_57 ()) fun (⟨ys_62, u_63⟩ : (List ((Int × Int) × (Int × Int))) × Unit) =>
  obind (m_law_shuffled w_55 ys_62) fun (⟨r_66, w_67⟩ : (List ((Int × Int) × (Int × Int))) × (LH3 (List Int) Int Int)) =>
  obind (m_law_judged (E (r_66 : (List ((Int × Int) × (Int × Int))))) true) fun (r_69 : Bool) =>
  cond (!r_69) (
  some (.rt false)) (
  some (.nx w_67)))
def m_law (script_1 : (List Int)) : Option Bool :=
  obind (m_law_stream script_1) fun (r_2 : (LH3 (List Int) Int Int)) =>
  obind (m_law_next r_2 (30 : Int)) fun (⟨r_4, w_5⟩ : Int × (LH3 (List Int) Int Int)) =>
  obind (cond (decide (r_4 = (29 : Int))) (obind (m_law_from w_5 (800 : Int) (1500 : Int)) fun (⟨r_7, w_8⟩ : Int × (LH3 (List Int) Int Int)) => some (r_7, w_8)) (obind (m_law_from w_5 (3 : Int) (40 : Int)) fun (⟨r_10, w_11⟩ : Int × (LH3 (List Int) Int Int)) => obind (m_law_from w_11 (3 : Int) (12 : Int)) fun (⟨r_13, w_14⟩ : Int × (LH3 (List Int) Int Int)) => obind (m_law_pick w_14 (Sq.t [(⟨(0 : Int), (1 : Int), (2 : Int), r_10, r_13⟩ : (T5 Int Int Int Int Int)).a, (⟨(0 : Int), (1 : Int), (2 : Int), r_10, r_13⟩ : (T5 Int Int Int Int Int)).b, (⟨(0 : Int), (1 : Int), (2 : Int), r_10, r_13⟩ : (T5 Int Int Int Int Int)).c, (⟨(0 : Int), (1 : Int), (2 : Int), r_10, r_13⟩ : (T5 Int Int Int Int Int)).d, (⟨(0 : Int), (1 : Int), (2 : Int), r_10, r_13⟩ : (T5 Int Int Int Int Int)).e])) fun (⟨r_16, w_17⟩ : Int × (LH3 (List Int) Int Int)) => some (r_16, w_17))) fun (⟨v_19, w_20⟩ : Int × (LH3 (List Int) Int Int)) =>
  obind (m_law_table w_20 v_19) fun (⟨r_23, w_24⟩ : (List ((Int × Int) × (Int × Int))) × (LH3 (List Int) Int Int)) =>
  obind (m_law_shuffled w_24 r_23) fun (⟨r_26, w_27⟩ : (List ((Int × Int) × (Int × Int))) × (LH3 (List Int) Int Int)) =>
  obind (m_law_judged (E (r_26 : (List ((Int × Int) × (Int × Int))))) true) fun (r_29 : Bool) =>
  cond (!r_29) (
  some false) (
  obind (m_law_shuffled w_27 r_23) fun (⟨r_32, w_33⟩ : (List ((Int × Int) × (Int × Int))) × (LH3 (List Int) Int Int)) =>
  obind (m_law_spoilt w_33 r_32) fun (⟨r_35, w_36⟩ : D × (LH3 (List Int) Int Int)) =>
  obind (m_law_judged r_35 false) fun (r_38 : Bool) =>
  cond (!r_38) (
  some false) (
  obind (rngL (0 : Int) (cond (decide ((0 : Int) < v_19)) (3 : Int) (0 : Int))) fun (rg_41 : (List Int)) =>
  obind (loopM (m_law_l1 v_19 r_23) rg_41 w_36) fun c_73 => ctl c_73 (fun (w_72 : (LH3 (List Int) Int Int)) =>
  some true) (fun r_75 => some r_75)))
end K24

set_option Elab.async false
set_option linter.all false
set_option autoImplicit false
set_option maxRecDepth 100000
set_option maxHeartbeats 4000000
/-! what the stream draws -/
namespace K24
open PySem L2 Ly
abbrev STR := LH3 (List Int) Int Int
structure Sm (k : Nat) (s : STR) : Prop where
  b : 0 ≤ s.b
  c0 : 0 ≤ s.c
  c : s.c ≤ k
theorem Sm.mono {k j : Nat} {s : STR} (h : Sm k s) (hj : k ≤ j) : Sm j s := ⟨h.b, h.c0, by have := h.c; omega⟩
theorem cT {α : Type} {x y : α} : cond true x y = x := rfl
theorem cF {α : Type} {x y : α} : cond false x y = y := rfl
theorem ob {α β : Type} {a : α} {k : α → Option β} : obind (some a) k = k a := rfl
theorem modI_pos {i j : Int} (h : 0 < j) : modI i j = some (i % j) := by
  unfold modI
  rw [if_pos (by omega), Int.fmod_eq_emod_of_nonneg _ (by omega)]
theorem fdivI_pos {i j : Int} (h : 0 < j) (h2 : j < 1073741824) : fdivI i j = some (i / j) := by
  unfold fdivI
  rw [if_pos (by omega), Int.fdiv_eq_ediv_of_nonneg _ (by omega)]
theorem log_lt {i : Int} {n : Nat} (h : i.natAbs < 2 ^ n) (hn : 0 < n) : i.natAbs.log2 < n := by
  by_cases z : i.natAbs = 0
  · rw [z]; simpa using hn
  · exact (Nat.log2_lt z).mpr h
theorem mulI_ok {i j : Int} (hi : i.natAbs < 2 ^ 400000) (hj : j.natAbs < 2 ^ 400000) : mulI i j = some (i * j) := by
  unfold mulI
  have h1 := log_lt hi (by decide)
  have h2 := log_lt hj (by decide)
  rw [if_pos (by omega)]
theorem small {n m : Nat} (h : n < 2 ^ 200) (hm : 200 ≤ m) : n < 2 ^ m := Nat.lt_of_lt_of_le h (Nat.pow_le_pow_right (by decide) hm)
theorem mulI_sm {i j : Int} (hi : i.natAbs < 2 ^ 200) (hj : j.natAbs < 2 ^ 200) : mulI i j = some (i * j) := mulI_ok (small hi (by decide)) (small hj (by decide))
theorem atI_ok {α : Type} {xs : List α} {i : Int} (h0 : 0 ≤ i) (h1 : i < xs.length) : atI xs i = xs[i.toNat]? := by
  unfold atI ixN
  rw [if_pos h0, if_pos h1]
  rfl
theorem atI_get {α : Type} {xs : List α} {i : Int} (h0 : 0 ≤ i) (h1 : i < xs.length) : ∃ x, atI xs i = some x ∧ xs[i.toNat]? = some x := by
  rw [atI_ok h0 h1]
  have : i.toNat < xs.length := by omega
  exact ⟨xs[i.toNat], by simp [this], by simp [this]⟩
theorem next_ok {k : Nat} {s : STR} {many : Int} (h : Sm k s) (hk : k < 2 ^ 100) (hm : 0 < many) (hm2 : many < 1073741824) : ∃ d s', m_law_next s many = some (d, s') ∧ 0 ≤ d ∧ d < many ∧ Sm (k + 1) s' := by
  have e : ∃ w : STR, (cond (decide (s.b = (0 : Int))) (obind (cond (decide (s.c < (s.a.length : Int))) (obind (atI s.a s.c) fun (t_7 : Int) =>
      obind (modI (absI t_7) (1000000000000000000000000000000000000000000000000000000000000000000000000000000000000000000000000000000000000000000000000000000000000000000000000000000000000000000000000000000000000000000000000 : Int)) fun (q_9 : Int) =>
      some q_9) (some ((7 : Int) + s.c))) fun (cell_6 : Int) =>
      obind (cond (decide (cell_6 < (1000000000000000000 : Int))) (obind (mulI cell_6 (48271 : Int)) fun (q_14 : Int) =>
      obind (mulI s.c (69621 : Int)) fun (q_16 : Int) =>
      obind (modI ((q_14 + q_16) + (11 : Int)) (2147483647 : Int)) fun (q_18 : Int) =>
      obind (mulI q_18 (16807 : Int)) fun (q_20 : Int) =>
      obind (modI (q_20 + (13 : Int)) (2147483647 : Int)) fun (q_22 : Int) =>
      obind (mulI q_22 (65537 : Int)) fun (q_24 : Int) =>
      some (q_24 + q_18)) (some cell_6)) fun (cell_13 : Int) =>
      some (⟨(⟨s.a, cell_13, s.c⟩ : (LH3 (List Int) Int Int)).a, (⟨s.a, cell_13, s.c⟩ : (LH3 (List Int) Int Int)).b, (s.c + (1 : Int))⟩ : (LH3 (List Int) Int Int))) (some s)) = some w ∧ Sm (k + 1) w := by
    by_cases hb : s.b = 0
    · rw [decide_eq_true hb, cT]
      have hcell : ∃ c : Int, (cond (decide (s.c < (s.a.length : Int))) (obind (atI s.a s.c) fun (t_7 : Int) =>
          obind (modI (absI t_7) (1000000000000000000000000000000000000000000000000000000000000000000000000000000000000000000000000000000000000000000000000000000000000000000000000000000000000000000000000000000000000000000000000 : Int)) fun (q_9 : Int) =>
          some q_9) (some ((7 : Int) + s.c))) = some c ∧ 0 ≤ c := by
        by_cases hl : s.c < (s.a.length : Int)
        · rw [decide_eq_true hl, cT]
          obtain ⟨x, hx, _⟩ := atI_get h.c0 hl
          rw [hx, ob, modI_pos (by decide), ob]
          exact ⟨_, rfl, Int.emod_nonneg _ (by decide)⟩
        · rw [decide_eq_false hl, cF]
          exact ⟨_, rfl, by have := h.c0; omega⟩
      obtain ⟨c, hc, hc0⟩ := hcell
      rw [hc, ob]
      by_cases hs : c < 1000000000000000000
      · rw [decide_eq_true hs, cT]
        have h1 := h.c0
        have h2 := h.c
        have hk' : (k : Int) < 2 ^ 100 := by exact_mod_cast hk
        have r1 := Int.emod_nonneg (c * 48271 + s.c * 69621 + 11) (b := 2147483647) (by decide)
        have r2 := Int.emod_lt_of_pos (c * 48271 + s.c * 69621 + 11) (b := 2147483647) (by decide)
        have r3 := Int.emod_nonneg ((c * 48271 + s.c * 69621 + 11) % 2147483647 * 16807 + 13) (b := 2147483647) (by decide)
        have r4 := Int.emod_lt_of_pos ((c * 48271 + s.c * 69621 + 11) % 2147483647 * 16807 + 13) (b := 2147483647) (by decide)
        rw [mulI_sm (by omega) (by decide), ob, mulI_sm (by omega) (by decide), ob, modI_pos (by decide), ob, mulI_sm (by omega) (by decide), ob, modI_pos (by decide), ob, mulI_sm (by omega) (by decide), ob, ob]
        exact ⟨_, rfl, ⟨by show 0 ≤ ((c * 48271 + s.c * 69621 + 11) % 2147483647 * 16807 + 13) % 2147483647 * 65537 + (c * 48271 + s.c * 69621 + 11) % 2147483647; omega, by show 0 ≤ s.c + 1; omega, by show s.c + 1 ≤ ((k + 1 : Nat) : Int); omega⟩⟩
      · rw [decide_eq_false hs, cF]
        rw [ob]
        exact ⟨_, rfl, ⟨hc0, by have := h.c0; show 0 ≤ s.c + 1; omega, by have := h.c; show s.c + 1 ≤ ((k + 1 : Nat) : Int); omega⟩⟩
    · rw [decide_eq_false hb, cF]
      exact ⟨s, rfl, h.mono (by omega)⟩
  obtain ⟨w, hw, gw⟩ := e
  unfold m_law_next
  rw [hw, ob, modI_pos hm, ob, fdivI_pos hm hm2, ob]
  exact ⟨_, _, rfl, Int.emod_nonneg _ (by omega), Int.emod_lt_of_pos _ hm, ⟨Int.ediv_nonneg gw.b (by omega), gw.c0, gw.c⟩⟩
theorem pick_ok {α : Type} [Enc α] {k : Nat} {s : STR} {q : Sq α} (h : Sm k s) (hk : k < 2 ^ 100) (h0 : q.v ≠ []) (h1 : q.v.length < 1073741824) : ∃ x s', m_law_pick s q = some (x, s') ∧ x ∈ q.v ∧ Sm (k + 1) s' := by
  have hl : 0 < q.v.length := List.length_pos_iff.mpr h0
  obtain ⟨d, s', e, a, b, c⟩ := next_ok (many := (q.v.length : Int)) h hk (by omega) (by omega)
  obtain ⟨x, hx, hm⟩ := atI_get (xs := q.v) a (by omega)
  unfold m_law_pick
  rw [e, ob]
  dsimp only
  rw [hx, ob]
  exact ⟨x, s', rfl, List.mem_of_getElem? hm, c⟩
theorem from_ok {k : Nat} {s : STR} {lo hi : Int} (h : Sm k s) (hk : k < 2 ^ 100) (h0 : lo ≤ hi) (h1 : hi - lo < 1073741823) : ∃ d s', m_law_from s lo hi = some (d, s') ∧ lo ≤ d ∧ d ≤ hi ∧ Sm (k + 1) s' := by
  obtain ⟨d, s', e, a, b, c⟩ := next_ok (many := hi - lo + 1) h hk (by omega) (by omega)
  unfold m_law_from
  rw [e, ob]
  exact ⟨_, s', rfl, by omega, by omega, c⟩
theorem stream_ok (xs : List Int) : ∃ s, m_law_stream xs = some s ∧ Sm 0 s := ⟨_, rfl, ⟨Int.le_refl _, Int.le_refl _, Int.le_refl _⟩⟩
/-! loops -/
theorem loopM_inv {α S R : Type} {b : α → S → Option (Ctl S R)} (P : Nat → S → Prop) : ∀ {xs : List α} {j : Nat} {s : S}, P j s → (∀ i x s, xs[i]? = some x → P (j + i) s → ∃ s', b x s = some (.nx s') ∧ P (j + i + 1) s') →
    ∃ s', loopM b xs s = some (.nx s') ∧ P (j + xs.length) s'
  | [], j, s, h, _ => ⟨s, rfl, h⟩
  | x :: xs, j, s, h, hs => by
    obtain ⟨s1, e, h1⟩ := hs 0 x s rfl h
    obtain ⟨s2, e2, h2⟩ := loopM_inv P (xs := xs) (j := j + 1) h1 fun i y s hy hp => by
      obtain ⟨s', q1, q2⟩ := hs (i + 1) y s (by simpa using hy) (by rw [show j + (i + 1) = j + 1 + i by omega]; exact hp)
      exact ⟨s', q1, by rw [show j + 1 + i + 1 = j + (i + 1) + 1 by omega]; exact q2⟩
    refine ⟨s2, ?_, by rw [List.length_cons, show j + (xs.length + 1) = j + 1 + xs.length by omega]; exact h2⟩
    unfold loopM
    rw [e]
    exact e2
theorem loopN_inv {α S : Type} {b : α → S → Option (Ctl S Empty)} (P : Nat → S → Prop) {xs : List α} {s : S} (h : P 0 s) (hs : ∀ i x s, xs[i]? = some x → P i s → ∃ s', b x s = some (.nx s') ∧ P (i + 1) s') :
    ∃ s', loopN b xs s = some s' ∧ P xs.length s' := by
  obtain ⟨s', e, q⟩ := loopM_inv (R := Empty) P (xs := xs) (j := 0) h (by simpa using hs)
  refine ⟨s', ?_, by simpa using q⟩
  unfold loopN
  rw [e]
theorem compM_inv {α β S : Type} {f : α → S → Option (Option β × S)} (P : Nat → S → Prop) (Y : Nat → β → Prop) : ∀ {xs : List α} {j : Nat} {s : S}, P j s → (∀ i x s, xs[i]? = some x → P (j + i) s → ∃ y s', f x s = some (some y, s') ∧ Y (j + i) y ∧ P (j + i + 1) s') →
    ∃ ys s', compM f xs s = some (ys, s') ∧ ys.length = xs.length ∧ (∀ i y, ys[i]? = some y → Y (j + i) y) ∧ P (j + xs.length) s'
  | [], j, s, h, _ => ⟨[], s, rfl, rfl, fun i y h => by simp at h, h⟩
  | x :: xs, j, s, h, hs => by
    obtain ⟨y, s1, e, hy, h1⟩ := hs 0 x s rfl h
    obtain ⟨ys, s2, e2, hl, hY, h2⟩ := compM_inv P Y (xs := xs) (j := j + 1) h1 fun i z s hz hp => by
      obtain ⟨y', s', q1, q2, q3⟩ := hs (i + 1) z s (by simpa using hz) (by rw [show j + (i + 1) = j + 1 + i by omega]; exact hp)
      exact ⟨y', s', q1, by rw [show j + 1 + i = j + (i + 1) by omega]; exact q2, by rw [show j + 1 + i + 1 = j + (i + 1) + 1 by omega]; exact q3⟩
    refine ⟨y :: ys, s2, ?_, by simp [hl], fun i z hz => ?_, by rw [List.length_cons, show j + (xs.length + 1) = j + 1 + xs.length by omega]; exact h2⟩
    · unfold compM
      rw [e]
      simp only [e2]
    · cases i with
      | zero => simp at hz; subst hz; exact hy
      | succ i => rw [show j + (i + 1) = j + 1 + i by omega]; exact hY i z (by simpa using hz)
theorem comp_inv {α β S : Type} {f : α → S → Option (Option β × S)} (P : Nat → S → Prop) (Y : Nat → β → Prop) {xs : List α} {s : S} (hl : xs.length ≤ LIM) (h : P 0 s) (hs : ∀ i x s, xs[i]? = some x → P i s → ∃ y s', f x s = some (some y, s') ∧ Y i y ∧ P (i + 1) s') :
    ∃ ys s', comp f xs s = some (ys, s') ∧ ys.length = xs.length ∧ (∀ i y, ys[i]? = some y → Y i y) ∧ P xs.length s' := by
  obtain ⟨ys, s', a, b, c, d⟩ := compM_inv P Y (xs := xs) (j := 0) (s := s) h (by simpa using hs)
  exact ⟨ys, s', by unfold comp; rw [if_pos hl, a], b, by simpa using c, by simpa using d⟩
theorem rngL_ok {n : Int} (h : n < 2 ^ 60) (h0 : 0 ≤ n) : rngL 0 n = some ((List.range n.toNat).map fun (i : Nat) => (i : Int)) := by
  unfold rngL
  rw [if_pos]
  · unfold rng
    simp
  · unfold rngOk
    simp only [decide_eq_true_eq]
    omega
theorem rng_at {n i : Nat} {x : Int} (h : ((List.range n).map fun (i : Nat) => (i : Int))[i]? = some x) : x = (i : Int) ∧ i < n := by
  rw [List.getElem?_map] at h
  obtain ⟨y, hy, rfl⟩ := Option.map_eq_some_iff.mp h
  obtain ⟨h1, h2⟩ := List.getElem?_eq_some_iff.mp hy
  simp at h1 h2
  exact ⟨by omega, h1⟩
theorem perm_erase {α : Type} {xs : List α} {n : Nat} (h : n < xs.length) : (xs[n] :: xs.eraseIdx n).Perm xs := by
  have e : xs = xs.take n ++ xs[n] :: xs.drop (n + 1) := by
    rw [← List.drop_eq_getElem_cons h, List.take_append_drop]
  rw [List.eraseIdx_eq_take_drop_succ]
  exact (List.perm_middle.symm).trans (List.Perm.of_eq e.symm)
/-- what is shuffled is the same but for the sequence -/
theorem shuffled_ok {α : Type} [Enc α] {k : Nat} {s : STR} {xs : List α} (h : Sm k s) (hk : k + xs.length < 2 ^ 100) (hl : xs.length < 16777216) : ∃ ys s', m_law_shuffled s xs = some (ys, s') ∧ ys.Perm xs ∧ Sm (k + xs.length) s' := by
  unfold m_law_shuffled
  rw [rngL_ok (by omega) (by omega), ob]
  obtain ⟨⟨s1, l1, f1⟩, e, c⟩ := loopN_inv (b := m_law_shuffled_l1) (fun i (st : STR × List α × List α) => Sm (k + i) st.1 ∧ st.2.1.length + i = xs.length ∧ st.2.2.length = i ∧ (st.2.2 ++ st.2.1).Perm xs)
    (xs := (List.range (xs.length : Int).toNat).map fun (i : Nat) => (i : Int)) (s := (s, xs, ([] : List α))) ⟨h, rfl, rfl, .refl _⟩ fun i x st hx => by
    obtain ⟨s1, l1, f1⟩ := st
    rintro ⟨g1, g2, g3, g4⟩
    simp only at g1 g2 g3 g4
    obtain ⟨rfl, hi⟩ := rng_at hx
    obtain ⟨d, s2, e, a, b, c⟩ := next_ok (many := (l1.length : Int)) g1 (by omega) (by omega) (by omega)
    have hd : d.toNat < l1.length := by omega
    unfold m_law_shuffled_l1
    simp only [e, ob]
    unfold popL
    rw [if_pos ⟨a, by show _ ≤ 16777216; omega⟩, List.getElem?_eq_getElem hd]
    simp only [Option.map_some, ob]
    unfold appL
    rw [if_pos (by show f1.length < 16777216; omega), ob]
    refine ⟨_, rfl, c, ?_, ?_, ?_⟩
    · show (l1.eraseIdx d.toNat).length + (i + 1) = xs.length
      rw [List.length_eraseIdx_of_lt hd]; omega
    · show (f1 ++ [l1[d.toNat]]).length = i + 1
      rw [List.length_append, g3]; rfl
    · show ((f1 ++ [l1[d.toNat]]) ++ l1.eraseIdx d.toNat).Perm xs
      refine List.Perm.trans ?_ g4
      rw [List.append_assoc]
      refine List.Perm.append_left _ ?_
      exact perm_erase hd
  simp only [List.length_map, List.length_range] at c
  have e' : (xs.length : Int).toNat = xs.length := by omega
  rw [e'] at c
  rw [e, ob]
  obtain ⟨c1, c2, c3, c4⟩ := c
  have : l1 = [] := List.length_eq_zero_iff.mp (by omega)
  subst this
  rw [List.append_nil] at c4
  exact ⟨f1, s1, rfl, c4, c1⟩
end K24

set_option Elab.async false
set_option linter.all false
set_option autoImplicit false
set_option maxRecDepth 100000
set_option maxHeartbeats 4000000
/-! the hashes of a node's pair: none is another's -/
namespace K24
open PySem L2 Ly
inductive Tr where
  | l (v : Nat) | n (a b : Tr)
def P1 : Nat := 11400714785074694791
def P2 : Nat := 14029467366897019727
def P5 : Nat := 2870177450012600261
def Q1 : Nat := 614540362697595703
def Q2 : Nat := 839798700976720815
def KK : Nat := 2870177450013471924
def rot (v : Nat) : Nat := (v * 2147483648) % 18446744073709551616 + v / 8589934592
def stp (x h : Nat) : Nat := (rot ((x + h * P2) % 18446744073709551616) * P1) % 18446744073709551616
def un (y : Nat) : Nat := (y * Q1 % 18446744073709551616) / 2147483648 + ((y * Q1 % 18446744073709551616) * 8589934592) % 18446744073709551616
def uu (a : Nat) : Nat := (stp P5 a * Q2) % 18446744073709551616
def fin (a b : Nat) : Nat := (stp (stp P5 a) b + KK) % 18446744073709551616
def dec (f : Nat) : Nat := (un ((f + (18446744073709551616 - KK)) % 18446744073709551616) * Q2) % 18446744073709551616
def WW : Nat := dec 18446744073709551615
def val (t : Nat) : Nat := match t with
  | 0 => WW
  | t + 1 => uu (t + 1)
theorem rot_lt {v : Nat} (h : v < 18446744073709551616) : rot v < 18446744073709551616 := by unfold rot; omega
theorem back (x : Nat) {p q : Nat} (hp : (p * q) % 18446744073709551616 = 1) (hx : x < 18446744073709551616) : (x * p % 18446744073709551616) * q % 18446744073709551616 = x := by
  rw [Nat.mod_mul_mod, Nat.mul_assoc, ← Nat.mul_mod_mod, hp, Nat.mul_one, Nat.mod_eq_of_lt hx]
theorem un_stp (x h : Nat) : un (stp x h) = (x + h * P2) % 18446744073709551616 := by
  have hv : (x + h * P2) % 18446744073709551616 < 18446744073709551616 := Nat.mod_lt _ (by decide)
  unfold un stp
  rw [back _ (by decide) (rot_lt hv)]
  generalize (x + h * P2) % 18446744073709551616 = v at hv ⊢
  have e1 : v * 2147483648 % 18446744073709551616 = (v % 8589934592) * 2147483648 := by
    rw [show (18446744073709551616 : Nat) = 8589934592 * 2147483648 from rfl, Nat.mul_mod_mul_right]
  have e2 : v = (v / 8589934592) * 8589934592 + v % 8589934592 := by omega
  have e3 : v / 8589934592 < 2147483648 := by omega
  have e4 : v % 8589934592 < 8589934592 := by omega
  unfold rot
  rw [e1]
  generalize v / 8589934592 = q at e2 e3
  generalize v % 8589934592 = r at e2 e4
  have e5 : (r * 2147483648 + q) / 2147483648 = r := by
    rw [Nat.mul_comm, Nat.mul_add_div (by decide), Nat.div_eq_of_lt e3, Nat.add_zero]
  have e6 : (r * 2147483648 + q) * 8589934592 % 18446744073709551616 = q * 8589934592 := by
    rw [show (r * 2147483648 + q) * 8589934592 = q * 8589934592 + r * 18446744073709551616 by omega, Nat.add_mul_mod_self_right, Nat.mod_eq_of_lt (by omega)]
  rw [e5, e6, e2]
  omega
theorem dec_fin (a b : Nat) : dec (fin a b) = (uu a + b) % 18446744073709551616 := by
  have hs : stp (stp P5 a) b < 18446744073709551616 := Nat.mod_lt _ (by decide)
  have e : (fin a b + (18446744073709551616 - KK)) % 18446744073709551616 = stp (stp P5 a) b := by
    unfold fin
    generalize stp (stp P5 a) b = z at hs ⊢
    unfold KK
    omega
  unfold dec uu
  rw [e, un_stp]
  generalize stp P5 a = x
  rw [Nat.mod_mul_mod, Nat.add_mul, Nat.mul_assoc, Nat.add_mod, ← Nat.mul_mod_mod b, show P2 * Q2 % 18446744073709551616 = 1 by decide, Nat.mul_one, Nat.add_mod_mod]
def tb0 : Tr := (.n (.n (.n (.n (.n (.n (.n (.l 19771059114899579922) (.l 27477346355883396259)) (.n (.l 43680784380692153865) (.l 51387071621675970202))) (.n (.n (.l 128626549735600603868) (.l 136332836976584420205)) (.n (.l 152536275001393177811) (.n (.l 160242562242376994148) (.l 245188327597285444151))))) (.n (.n (.n (.l 261391765622094201757) (.l 269098052863078018094)) (.n (.l 338346000289691427111) (.l 362255725555484001054))) (.n (.n (.l 454907778151376267394) (.l 471111216176185025000)) (.n (.l 478817503417168841337) (.n (.l 563763268772077291340) (.l 571469556013061107677)))))) (.n (.n (.n (.n (.l 579966706796886048946) (.l 587672994037869865283)) (.n (.l 603876432062678622889) (.l 680325046633762131623))) (.n (.n (.l 696528484658570889229) (.l 704234771899554705566)) (.n (.l 720438209924363463172) (.n (.l 805383975279271913175) (.l 813090262520255729512))))) (.n (.n (.n (.l 836999987786048303455) (.l 906247935212661712472)) (.n (.l 913954222453645528809) (.n (.l 921945753140956753458) (.l 1015103425833362736418)))) (.n (.n (.l 1022809713074346552755) (.l 1039013151099155310361)) (.n (.l 1123958916454063760364) (.n (.l 1131665203695047576701) (.l 1147868641719856334307))))))) (.n (.n (.n (.n (.n (.l 1155574928960840150644) (.l 1232814407074764784310)) (.n (.l 1240520694315748600647) (.l 1256724132340557358253))) (.n (.n (.l 1264430419581541174590) (.l 1365579622961258382199)) (.n (.l 1373285910202242198536) (.n (.l 1466443582894648181496) (.l 1474149870135631997833))))) (.n (.n (.n (.l 1482141400822943222482) (.l 1575299073515349205442)) (.n (.l 1583005360756333021779) (.n (.l 1667951126111241471782) (.l 1684154564136050229388)))) (.n (.n (.l 1691860851377034045725) (.l 1708064289401842803331)) (.n (.l 1715770576642826619668) (.n (.l 1800716341997735069671) (.l 1808422629238718886008)))))) (.n (.n (.n (.n (.l 1824626067263527643614) (.l 1909571832618436093617)) (.n (.l 1917278119859419909954) (.l 1941187845125212483897))) (.n (.n (.l 2010435792551825892914) (.l 2119291283172526916860)) (.n (.l 2126997570413510733197) (.n (.l 2143201008438319490803) (.l 2150907295679303307140))))) (.n (.n (.n (.l 2228146773793227940806) (.l 2235853061034211757143)) (.n (.l 2252056499059020514749) (.n (.l 2259762786300004331086) (.l 2344708551654912781089)))) (.n (.n (.l 2360911989679721538695) (.l 2368618276920705355032)) (.n (.l 2461775949613111337992) (.n (.l 2469767480300422562641) (.l 2477473767541406378978)))))))) (.n (.n (.n (.n (.n (.n (.l 2570631440233812361938) (.l 2578337727474796178275)) (.n (.l 2586329258162107402924) (.l 2679486930854513385884))) (.n (.n (.l 2687193218095497202221) (.l 2703396656120305959827)) (.n (.l 2788342421475214409830) (.n (.l 2796048708716198226167) (.l 2803754995957182042504))))) (.n (.n (.n (.l 2812252146741006983773) (.l 2819958433981990800110)) (.n (.l 2904904199336899250113) (.l 2912610486577883066450))) (.n (.n (.l 2928813924602691824056) (.l 3021465977198584090396)) (.n (.l 3045375702464376664339) (.n (.l 3114623649890990073356) (.l 3138533375156782647299)))))) (.n (.n (.n (.n (.l 3223479140511691097302) (.l 3231185427752674913639)) (.n (.l 3247388865777483671245) (.l 3255095153018467487582))) (.n (.n (.l 3332334631132392121248) (.l 3340040918373375937585)) (.n (.l 3356244356398184695191) (.n (.l 3363950643639168511528) (.l 3380154081663977269134))))) (.n (.n (.n (.l 3465099847018885719137) (.l 3472806134259869535474)) (.n (.l 3565963806952275518434) (.n (.l 3573955337639586743083) (.l 3581661624880570559420)))) (.n (.n (.l 3674819297572976542380) (.l 3682525584813960358717)) (.n (.l 3783674788193677566326) (.n (.l 3791381075434661382663) (.l 3807584513459470140269))))))) (.n (.n (.n (.n (.n (.l 3815290800700453956606) (.l 3892530278814378590272)) (.n (.l 3900236566055362406609) (.l 3907942853296346222946))) (.n (.n (.l 3916440004080171164215) (.l 3924146291321154980552)) (.n (.l 4009092056676063430555) (.n (.l 4016798343917047246892) (.l 4025295494700872188161))))) (.n (.n (.n (.l 4033001781941856004498) (.l 4126159454634261987458)) (.n (.l 4141857272562557028444) (.n (.l 4149563559803540844781) (.l 4242721232495946827741)))) (.n (.n (.l 4258419050424241868727) (.l 4327666997850855277744)) (.n (.l 4351576723116647851687) (.n (.l 4359283010357631668024) (.l 4367780161141456609293)))))) (.n (.n (.n (.n (.l 4444228775712540118027) (.l 4460432213737348875633)) (.n (.l 4468138500978332691970) (.l 4484341939003141449576))) (.n (.n (.l 4569287704358049899579) (.l 4576993991599033715916)) (.n (.l 4600903716864826289859) (.n (.l 4670151664291439698876) (.l 4685849482219734739862))))) (.n (.n (.n (.l 4779007154912140722822) (.l 4786713442153124539159)) (.n (.l 4802916880177933296765) (.n (.l 4887862645532841746768) (.l 4895568932773825563105)))) (.n (.n (.l 4911772370798634320711) (.l 4919478658039618137048)) (.n (.l 4996718136153542770714) (.n (.l 5004424423394526587051) (.l 5012130710635510403388)))))))))
def tb1 : Tr := (.n (.n (.n (.n (.n (.n (.n (.l 5020627861419335344657) (.l 5028334148660319160994)) (.n (.l 5120986201256211427334) (.l 5129483352040036368603))) (.n (.n (.l 5137189639281020184940) (.l 5230347311973426167900)) (.n (.l 5246045129901721208886) (.n (.l 5253751417142705025223) (.l 5346909089835111008183))))) (.n (.n (.n (.l 5354615377076094824520) (.l 5362606907763406049169)) (.n (.l 5431854855190019458186) (.l 5455764580455812032129))) (.n (.n (.l 5463470867696795848466) (.l 5479674305721604606072)) (.n (.l 5548416633051704298469) (.n (.l 5564620071076513056075) (.l 5572326358317496872412)))))) (.n (.n (.n (.n (.l 5588529796342305630018) (.l 5596236083583289446355)) (.n (.l 5673475561697214080021) (.l 5681181848938197896358))) (.n (.n (.l 5705091574203990470301) (.l 5774339521630603879318)) (.n (.l 5883195012251304903264) (.n (.l 5890901299492288719601) (.l 5907104737517097477207))))) (.n (.n (.n (.l 5992050502872005927210) (.l 5999756790112989743547)) (.n (.l 6015960228137798501153) (.n (.l 6023666515378782317490) (.l 6108612280733690767493)))) (.n (.n (.l 6116318567974674583830) (.l 6124815718758499525099)) (.n (.l 6132522005999483341436) (.n (.l 6225174058595375607776) (.l 6233671209379200549045))))))) (.n (.n (.n (.n (.n (.l 6241377496620184365382) (.l 6334535169312590348342)) (.n (.l 6342241456553574164679) (.l 6350232987240885389328))) (.n (.n (.l 6357939274481869205665) (.l 6451096947174275188625)) (.n (.l 6458803234415259004962) (.n (.l 6467300385199083946231) (.l 6559952437794976212571))))) (.n (.n (.n (.l 6567658725035960028908) (.l 6583862163060768786514)) (.n (.l 6668807928415677236517) (.n (.l 6676514215656661052854) (.l 6692717653681469810460)))) (.n (.n (.l 6700423940922453626797) (.l 6785369706277362076800)) (.n (.l 6801573144302170834406) (.n (.l 6809279431543154650743) (.l 6918134922163855674689)))))) (.n (.n (.n (.n (.l 6987382869590469083706) (.l 6995089156831452900043)) (.n (.l 7011292594856261657649) (.l 7018998882097245473986))) (.n (.n (.l 7096238360211170107652) (.l 7103944647452153923989)) (.n (.l 7120148085476962681595) (.n (.l 7127854372717946497932) (.l 7212800138072854947935))))) (.n (.n (.n (.l 7220506425313838764272) (.l 7229003576097663705541)) (.n (.l 7236709863338647521878) (.n (.l 7260619588604440095821) (.l 7329867536031053504838)))) (.n (.n (.l 7337859066718364729487) (.l 7345565353959348545824)) (.n (.l 7438723026651754528784) (.n (.l 7446429313892738345121) (.l 7462127131821033386107)))))))) (.n (.n (.n (.n (.n (.n (.l 7555284804513439369067) (.l 7562991091754423185404)) (.n (.l 7571488242538248126673) (.l 7664140295134140393013))) (.n (.n (.l 7671846582375124209350) (.l 7688050020399932966956)) (.n (.l 7695756307640916783293) (.n (.l 7772995785754841416959) (.l 7780702072995825233296))))) (.n (.n (.n (.l 7796905511020633990902) (.l 7804611798261617807239)) (.n (.l 7889557563616526257242) (.l 7905761001641335014848))) (.n (.n (.l 7913467288882318831185) (.l 8006624961574724814145)) (.n (.l 8022322779503019855131) (.n (.l 8091570726929633264148) (.l 8115480452195425838091)))))) (.n (.n (.n (.n (.l 8123186739436409654428) (.l 8200426217550334288094)) (.n (.l 8208132504791318104431) (.l 8224335942816126862037))) (.n (.n (.l 8232042230057110678374) (.l 8248245668081919435980)) (.n (.l 8324694282653002944714) (.n (.l 8333191433436827885983) (.l 8340897720677811702320))))) (.n (.n (.n (.l 8364807445943604276263) (.l 8434055393370217685280)) (.n (.l 8449753211298512726266) (.n (.l 8457459498539496542603) (.l 8550617171231902525563)))) (.n (.n (.l 8566314989160197566549) (.l 8659472661852603549509)) (.n (.l 8667178949093587365846) (.n (.l 8675676099877412307115) (.l 8683382387118396123452))))))) (.n (.n (.n (.n (.n (.l 8768328152473304573455) (.l 8776034439714288389792)) (.n (.l 8792237877739097147398) (.l 8799944164980080963735))) (.n (.n (.l 8877183643094005597401) (.l 8884889930334989413738)) (.n (.l 8901093368359798171344) (.n (.l 8908799655600781987681) (.l 9009948858980499195290))))) (.n (.n (.n (.l 9017655146221483011627) (.l 9110812818913888994587)) (.n (.l 9118519106154872810924) (.n (.l 9126510636842184035573) (.l 9195758584268797444590)))) (.n (.n (.l 9219668309534590018533) (.l 9227374596775573834870)) (.n (.l 9312320362130482284873) (.n (.l 9328523800155291042479) (.l 9336230087396274858816)))))) (.n (.n (.n (.n (.l 9352433525421083616422) (.l 9360139812662067432759)) (.n (.l 9437379290775992066425) (.l 9445085578016975882762))) (.n (.n (.l 9461289016041784640368) (.l 9468995303282768456705)) (.n (.l 9538243250709381865722) (.n (.l 9553941068637676906708) (.l 9561647355878660723045))))) (.n (.n (.n (.l 9654805028571066706005) (.l 9671008466595875463611)) (.n (.l 9763660519191767729951) (.n (.l 9771366806432751546288) (.l 9779863957216576487557)))) (.n (.n (.l 9787570244457560303894) (.l 9872516009812468753897)) (.n (.l 9880222297053452570234) (.n (.l 9896425735078261327840) (.l 9904132022319245144177)))))))))
def tb2 : Tr := (.n (.n (.n (.n (.n (.n (.n (.l 9989077787674153594180) (.l 10005281225698962351786)) (.n (.l 10012987512939946168123) (.l 10036897238205738742066))) (.n (.n (.l 10106145185632352151083) (.l 10114136716319663375732)) (.n (.l 10121843003560647192069) (.n (.l 10215000676253053175029) (.l 10222706963494036991366))))) (.n (.n (.n (.l 10230698494181348216015) (.l 10323856166873754198975)) (.n (.l 10331562454114738015312) (.l 10347765892139546772918))) (.n (.n (.l 10432711657494455222921) (.l 10440417944735439039258)) (.n (.l 10456621382760247796864) (.n (.l 10464327670001231613201) (.l 10541567148115156246867)))))) (.n (.n (.n (.n (.l 10549273435356140063204) (.l 10565476873380948820810)) (.n (.l 10573183160621932637147) (.l 10665835213217824903487))) (.n (.n (.l 10682038651242633661093) (.l 10775196323935039644053)) (.n (.l 10782902611176023460390) (.n (.l 10867848376530931910393) (.l 10884051814555740667999))))) (.n (.n (.n (.l 10891758101796724484336) (.l 10899464389037708300673)) (.n (.l 10976703867151632934339) (.n (.l 10984410154392616750676) (.l 11000613592417425508282)))) (.n (.n (.l 11008319879658409324619) (.l 11024523317683218082225)) (.n (.l 11109469083038126532228) (.n (.l 11117175370279110348565) (.l 11141085095544902922508))))))) (.n (.n (.n (.n (.n (.l 11210333042971516331525) (.l 11218324573658827556174)) (.n (.l 11226030860899811372511) (.l 11319188533592217355471))) (.n (.n (.l 11326894820833201171808) (.l 11428044024212918379417)) (.n (.l 11435750311453902195754) (.n (.l 11451953749478710953360) (.l 11459660036719694769697))))) (.n (.n (.n (.l 11536899514833619403363) (.l 11544605802074603219700)) (.n (.l 11560809240099411977306) (.n (.l 11568515527340395793643) (.l 11653461292695304243646)))) (.n (.n (.l 11669664730720113001252) (.l 11677371017961096817589)) (.n (.l 11770528690653502800549) (.n (.l 11786226508581797841535) (.l 11879384181274203824495)))))) (.n (.n (.n (.n (.l 11887090468515187640832) (.l 11972036233870096090835)) (.n (.l 11988239671894904848441) (.l 11995945959135888664778))) (.n (.n (.l 12003652246376872481115) (.l 12012149397160697422384)) (.n (.l 12088598011731780931118) (.n (.l 12104801449756589688724) (.l 12112507736997573505061))))) (.n (.n (.n (.l 12128711175022382262667) (.l 12213656940377290712670)) (.n (.l 12221363227618274529007) (.n (.l 12245272952884067102950) (.l 12314520900310680511967)))) (.n (.n (.l 12330218718238975552953) (.l 12423376390931381535913)) (.n (.l 12431082678172365352250) (.n (.l 12447286116197174109856) (.l 12532231881552082559859)))))))) (.n (.n (.n (.n (.n (.n (.l 12539938168793066376196) (.l 12556141606817875133802)) (.n (.l 12563847894058858950139) (.l 12641087372172783583805))) (.n (.n (.l 12648793659413767400142) (.l 12664997097438576157748)) (.n (.l 12672703384679559974085) (.n (.l 12773852588059277181694) (.l 12781558875300260998031))))) (.n (.n (.n (.l 12874716547992666980991) (.l 12882422835233650797328)) (.n (.l 12882708078679978205640) (.l 12890414365920962021977))) (.n (.n (.l 12983572038613368004937) (.l 12991278325854351821274)) (.n (.l 13076224091209260271277) (.n (.l 13092427529234069028883) (.l 13100133816475052845220)))))) (.n (.n (.n (.n (.l 13107840103716036661557) (.l 13116337254499861602826)) (.n (.l 13124043541740845419163) (.l 13208989307095753869166))) (.n (.n (.l 13216695594336737685503) (.l 13225192745120562626772)) (.n (.l 13232899032361546443109) (.n (.l 13317844797716454893112) (.l 13325551084957438709449))))) (.n (.n (.n (.l 13341754522982247467055) (.l 13349460810223231283392)) (.n (.l 13458316300843932307338) (.n (.l 13527564248270545716355) (.l 13551473973536338290298)))) (.n (.n (.l 13636419738891246740301) (.l 13644126026132230556638)) (.n (.l 13660329464157039314244) (.n (.l 13668035751398023130581) (.l 13752981516752931580584))))))) (.n (.n (.n (.n (.n (.l 13769184954777740338190) (.l 13776891242018724154527)) (.n (.l 13800800967284516728470) (.l 13870048914711130137487))) (.n (.n (.l 13878040445398441362136) (.l 13885746732639425178473)) (.n (.l 13978904405331831161433) (.n (.l 13986610692572814977770) (.l 13994602223260126202419))))) (.n (.n (.n (.l 14087759895952532185379) (.l 14095466183193516001716)) (.n (.l 14111669621218324759322) (.n (.l 14204321673814217025662) (.l 14212027961055200841999)))) (.n (.n (.l 14220525111839025783268) (.l 14228231399080009599605)) (.n (.l 14313177164434918049608) (.n (.l 14320883451675901865945) (.l 14329380602459726807214)))))) (.n (.n (.n (.n (.l 14337086889700710623551) (.l 14429738942296602889891)) (.n (.l 14445942380321411647497) (.l 14453648667562395463834))) (.n (.n (.l 14562504158183096487780) (.l 14631752105609709896797)) (.n (.l 14655661830875502470740) (.n (.l 14663368118116486287077) (.l 14740607596230410920743))))) (.n (.n (.n (.l 14748313883471394737080) (.l 14764517321496203494686)) (.n (.l 14772223608737187311023) (.n (.l 14788427046761996068629) (.l 14873372812116904518632)))) (.n (.n (.l 14881079099357888334969) (.l 14904988824623680908912)) (.n (.l 14974236772050294317929) (.n (.l 14982228302737605542578) (.l 14989934589978589358915)))))))))
def tb3 : Tr := (.n (.n (.n (.n (.n (.n (.n (.l 15083092262670995341875) (.l 15090798549911979158212)) (.n (.l 15191947753291696365821) (.l 15199654040532680182158))) (.n (.n (.l 15215857478557488939764) (.l 15308509531153381206104)) (.n (.l 15316215818394365022441) (.n (.l 15324712969178189963710) (.l 15332419256419173780047))))) (.n (.n (.n (.l 15417365021774082230050) (.l 15425071309015066046387)) (.n (.l 15433568459798890987656) (.l 15441274747039874803993))) (.n (.n (.l 15533926799635767070333) (.l 15534432419732280786953)) (.n (.l 15550130237660575827939) (.n (.l 15557836524901559644276) (.l 15650994197593965627236)))))) (.n (.n (.n (.n (.l 15666692015522260668222) (.l 15735939962948874077239)) (.n (.l 15759849688214666651182) (.l 15767555975455650467519))) (.n (.n (.l 15852501740810558917522) (.l 15868705178835367675128)) (.n (.l 15876411466076351491465) (.n (.l 15892614904101160249071) (.l 15977560669456068699074))))) (.n (.n (.n (.l 15985266956697052515411) (.l 16001470394721861273017)) (.n (.l 16009176681962845089354) (.n (.l 16094122447317753539357) (.l 16118032172583546113300)))) (.n (.n (.l 16187280120010159522317) (.l 16194986407251143338654)) (.n (.l 16296135610630860546263) (.n (.l 16303841897871844362600) (.l 16320045335896653120206))))))) (.n (.n (.n (.n (.n (.l 16327751623137636936543) (.l 16412697388492545386546)) (.n (.l 16420403675733529202883) (.l 16428900826517354144152))) (.n (.n (.l 16436607113758337960489) (.l 16521552879113246410492)) (.n (.l 16529259166354230226829) (.n (.l 16537756317138055168098) (.l 16545462604379038984435))))) (.n (.n (.n (.l 16553168891620022800772) (.l 16654318094999740008381)) (.n (.l 16662024382240723824718) (.n (.l 16755182054933129807678) (.l 16762888342174113624015)))) (.n (.n (.l 16770879872861424848664) (.l 16864037545553830831624)) (.n (.l 16871743832794814647961) (.n (.l 16972893036174531855570) (.l 16980599323415515671907)))))) (.n (.n (.n (.n (.l 16996802761440324429513) (.l 17004509048681308245850)) (.n (.l 17081748526795232879516) (.l 17089454814036216695853))) (.n (.n (.l 17105658252061025453459) (.l 17113364539302009269796)) (.n (.l 17198310304656917719799) (.n (.l 17222220029922710293742) (.l 17291467977349323702759))))) (.n (.n (.n (.l 17315377702615116276702) (.l 17400323467970024726705)) (.n (.l 17408029755211008543042) (.n (.l 17424233193235817300648) (.l 17431939480476801116985)))) (.n (.n (.l 17516885245831709566988) (.l 17524591533072693383325)) (.n (.l 17533088683856518324594) (.n (.l 17540794971097502140931) (.l 17633447023693394407271)))))))) (.n (.n (.n (.n (.n (.n (.l 17641944174477219348540) (.l 17649650461718203164877)) (.n (.l 17657356748959186981214) (.l 17750514421651592964174))) (.n (.n (.l 17758505952338904188823) (.l 17766212239579888005160)) (.n (.l 17859369912272293988120) (.n (.l 17867076199513277804457) (.l 17875067730200589029106))))) (.n (.n (.n (.l 17968225402892995012066) (.l 17975931690133978828403)) (.n (.l 17992135128158787586009) (.l 18077080893513696036012))) (.n (.n (.l 18084787180754679852349) (.l 18100990618779488609955)) (.n (.l 18108696906020472426292) (.n (.l 18185936384134397059958) (.l 18193642671375380876295)))))) (.n (.n (.n (.n (.l 18209846109400189633901) (.l 18217552396641173450238)) (.n (.l 18326407887261874474184) (.l 18395655834688487883201))) (.n (.n (.l 18419565559954280457144) (.l 18427271847195264273481)) (.n (.l 18504511325309188907147) (.n (.l 18512217612550172723484) (.l 18528421050574981481090))))) (.n (.n (.n (.l 18536127337815965297427) (.l 18621073103170873747430)) (.n (.l 18628779390411857563767) (.n (.l 18637276541195682505036) (.l 18644982828436666321373)))) (.n (.n (.l 18661186266461475078979) (.l 18668892553702458895316)) (.n (.l 18738140501129072304333) (.n (.l 18746132031816383528982) (.l 18753838319057367345319))))))) (.n (.n (.n (.n (.n (.l 18761544606298351161656) (.l 18854702278990757144616)) (.n (.l 18862693809678068369265) (.l 18870400096919052185602))) (.n (.n (.l 18963557769611458168562) (.l 18971264056852441984899)) (.n (.l 18979761207636266926168) (.n (.l 19072413260232159192508) (.l 19080119547473143008845))))) (.n (.n (.n (.l 19096322985497951766451) (.l 19104029272738935582788)) (.n (.l 19181268750852860216454) (.n (.l 19188975038093844032791) (.l 19205178476118652790397)))) (.n (.n (.l 19212884763359636606734) (.l 19297830528714545056737)) (.n (.l 19314033966739353814343) (.n (.l 19321740253980337630680) (.l 19414897926672743613640)))))) (.n (.n (.n (.n (.l 19422889457360054838289) (.l 19430595744601038654626)) (.n (.l 19523753417293444637586) (.l 19531459704534428453923))) (.n (.n (.l 19539451235221739678572) (.l 19608699182648353087589)) (.n (.l 19632608907914145661532) (.n (.l 19640315195155129477869) (.l 19656518633179938235475))))) (.n (.n (.n (.l 19732967247751021744209) (.l 19741464398534846685478)) (.n (.l 19749170685775830501815) (.n (.l 19765374123800639259421) (.l 19773080411041623075758)))) (.n (.n (.l 19858026176396531525761) (.l 19865732463637515342098)) (.n (.l 19881935901662324099704) (.n (.l 19974587954258216366044) (.l 20067745626950622349004)))))))))
def tb4 : Tr := (.n (.n (.n (.n (.n (.n (.n (.l 20083949064975431106610) (.l 20091655352216414922947)) (.n (.l 20176601117571323372950) (.l 20184307404812307189287))) (.n (.n (.l 20200510842837115946893) (.l 20208217130078099763230)) (.n (.l 20285456608192024396896) (.n (.l 20293162895433008213233) (.l 20309366333457816970839))))) (.n (.n (.n (.l 20317072620698800787176) (.l 20418221824078517994785)) (.n (.l 20425928111319501811122) (.l 20519085784011907794082))) (.n (.n (.l 20526792071252891610419) (.l 20527077314699219018731)) (.n (.l 20534783601940202835068) (.n (.l 20627941274632608818028) (.l 20635647561873592634365)))))) (.n (.n (.n (.n (.l 20736796765253309841974) (.l 20744503052494293658311)) (.n (.l 20760706490519102415917) (.l 20768412777760086232254))) (.n (.n (.l 20845652255874010865920) (.l 20853358543114994682257)) (.n (.l 20869561981139803439863) (.n (.l 20877268268380787256200) (.l 20962214033735695706203))))) (.n (.n (.n (.l 20969920320976679522540) (.l 20986123759001488280146)) (.n (.l 21079281431693894263106) (.n (.l 21171933484289786529446) (.l 21188136922314595287052)))) (.n (.n (.l 21195843209555579103389) (.l 21203549496796562919726)) (.n (.l 21280788974910487553392) (.n (.l 21288495262151471369729) (.l 21304698700176280127335))))))) (.n (.n (.n (.n (.n (.l 21312404987417263943672) (.l 21397350752772172393675)) (.n (.l 21413554190796981151281) (.l 21421260478037964967618))) (.n (.n (.l 21445170203303757541561) (.l 21514418150730370950578)) (.n (.l 21522409681417682175227) (.n (.l 21530115968658665991564) (.l 21623273641351071974524))))) (.n (.n (.n (.l 21630979928592055790861) (.l 21638971459279367015510)) (.n (.l 21732129131971772998470) (.n (.l 21739835419212756814807) (.l 21756038857237565572413)))) (.n (.n (.l 21840984622592474022416) (.l 21848690909833457838753)) (.n (.l 21864894347858266596359) (.n (.l 21872600635099250412696) (.l 21949840113213175046362)))))) (.n (.n (.n (.n (.l 21957546400454158862699) (.l 21973749838478967620305)) (.n (.l 21981456125719951436642) (.l 22074108178315843702982))) (.n (.n (.l 22082605329099668644251) (.l 22090311616340652460588)) (.n (.l 22183469289033058443548) (.n (.l 22191175576274042259885) (.l 22199167106961353484534))))) (.n (.n (.n (.l 22206873394202337300871) (.l 22276121341628950709888)) (.n (.l 22300031066894743283831) (.n (.l 22307737354135727100168) (.l 22384976832249651733834)))) (.n (.n (.l 22392683119490635550171) (.l 22408886557515444307777)) (.n (.l 22416592844756428124114) (.n (.l 22425089995540253065383) (.l 22432796282781236881720)))))))) (.n (.n (.n (.n (.n (.n (.l 22517742048136145331723) (.l 22525448335377129148060)) (.n (.l 22541651773401937905666) (.l 22549358060642921722003))) (.n (.n (.l 22626597538756846355669) (.l 22634303825997830172006)) (.n (.l 22658213551263622745949) (.n (.l 22727461498690236154966) (.l 22836316989310937178912))))) (.n (.n (.n (.l 22844023276551920995249) (.l 22860226714576729752855)) (.n (.l 22945172479931638202858) (.l 22952878767172622019195))) (.n (.n (.l 22969082205197430776801) (.l 22976788492438414593138)) (.n (.l 23061734257793323043141) (.n (.l 23077937695818131800747) (.l 23085643983059115617084)))))) (.n (.n (.n (.n (.l 23178801655751521600044) (.l 23186793186438832824693)) (.n (.l 23194499473679816641030) (.l 23287657146372222623990))) (.n (.n (.l 23295363433613206440327) (.l 23303354964300517664976)) (.n (.l 23311061251541501481313) (.n (.l 23404218924233907464273) (.l 23411925211474891280610))))) (.n (.n (.n (.l 23420422362258716221879) (.l 23513074414854608488219)) (.n (.l 23520780702095592304556) (.n (.l 23529277852879417245825) (.l 23536984140120401062162)))) (.n (.n (.l 23621929905475309512165) (.l 23629636192716293328502)) (.n (.l 23645839630741102086108) (.n (.l 23653545917982085902445) (.l 23738491683336994352448))))))) (.n (.n (.n (.n (.n (.l 23762401408602786926391) (.l 23831649356029400335408)) (.n (.l 23855559081295192909351) (.l 23940504846650101359354))) (.n (.n (.l 23948211133891085175691) (.l 23964414571915893933297)) (.n (.l 23972120859156877749634) (.n (.l 24049360337270802383300) (.l 24057066624511786199637))))) (.n (.n (.n (.l 24073270062536594957243) (.l 24080976349777578773580)) (.n (.l 24182125553157295981189) (.n (.l 24189831840398279797526) (.l 24282989513090685780486)))) (.n (.n (.l 24290981043777997005135) (.l 24298687331018980821472)) (.n (.l 24391845003711386804432) (.n (.l 24399551290952370620769) (.l 24415249108880665661755)))))) (.n (.n (.n (.n (.l 24508406781573071644715) (.l 24516113068814055461052)) (.n (.l 24524610219597880402321) (.l 24617262272193772668661))) (.n (.n (.l 24624968559434756484998) (.l 24633465710218581426267)) (.n (.l 24641171997459565242604) (.n (.l 24648878284700549058941) (.l 24726117762814473692607))))) (.n (.n (.n (.l 24733824050055457508944) (.l 24750027488080266266550)) (.n (.l 24757733775321250082887) (.n (.l 24866589265941951106833) (.l 24935837213368564515850)))) (.n (.n (.l 24959746938634357089793) (.l 25044692703989265539796)) (.n (.l 25052398991230249356133) (.n (.l 25068602429255058113739) (.l 25076308716496041930076)))))))))
def tb5 : Tr := (.n (.n (.n (.n (.n (.n (.n (.l 25161254481850950380079) (.l 25177457919875759137685)) (.n (.l 25185164207116742954022) (.l 25201367645141551711628))) (.n (.n (.l 25277816259712635220362) (.l 25286313410496460161631)) (.n (.l 25294019697737443977968) (.n (.l 25317929423003236551911) (.l 25387177370429849960928))))) (.n (.n (.n (.l 25394883657670833777265) (.l 25402875188358145001914)) (.n (.l 25496032861050550984874) (.l 25503739148291534801211))) (.n (.n (.l 25519436966219829842197) (.l 25612594638912235825157)) (.n (.l 25620300926153219641494) (.n (.l 25628798076937044582763) (.l 25636504364178028399100)))))) (.n (.n (.n (.n (.l 25721450129532936849103) (.l 25729156416773920665440)) (.n (.l 25737653567557745606709) (.l 25745359854798729423046))) (.n (.n (.l 25753066142039713239383) (.l 25838011907394621689386)) (.n (.l 25854215345419430446992) (.n (.l 25861921632660414263329) (.l 25963070836040131470938))))) (.n (.n (.n (.l 25970777123281115287275) (.l 26063934795973521270235)) (.n (.l 26071641083214505086572) (.n (.l 26079632613901816311221) (.l 26148880561328429720238)))) (.n (.n (.l 26172790286594222294181) (.l 26180496573835206110518)) (.n (.l 26265442339190114560521) (.n (.l 26281645777214923318127) (.l 26289352064455907134464))))))) (.n (.n (.n (.n (.n (.l 26305555502480715892070) (.l 26313261789721699708407)) (.n (.l 26390501267835624342073) (.l 26398207555076608158410))) (.n (.n (.l 26422117280342400732353) (.l 26491365227769014141370)) (.n (.l 26507063045697309182356) (.n (.l 26600220718389715165316) (.l 26607927005630698981653))))) (.n (.n (.n (.l 26624130443655507739259) (.l 26716782496251400005599)) (.n (.l 26724488783492383821936) (.n (.l 26732985934276208763205) (.l 26740692221517192579542)))) (.n (.n (.l 26825637986872101029545) (.l 26833344274113084845882)) (.n (.l 26841841424896909787151) (.n (.l 26849547712137893603488) (.l 26857253999378877419825)))))) (.n (.n (.n (.n (.l 26942199764733785869828) (.l 26958403202758594627434)) (.n (.l 26966109489999578443771) (.l 27059267162691984426731))) (.n (.n (.l 27067258693379295651380) (.l 27074964980620279467717)) (.n (.l 27168122653312685450677) (.n (.l 27175828940553669267014) (.l 27183820471240980491663))))) (.n (.n (.n (.l 27253068418667593900680) (.l 27276978143933386474623)) (.n (.l 27284684431174370290960) (.n (.l 27300887869199179048566) (.l 27385833634554087498569)))) (.n (.n (.l 27393539921795071314906) (.l 27409743359819880072512)) (.n (.l 27417449647060863888849) (.n (.l 27502395412415772338852) (.l 27526305137681564912795)))))))) (.n (.n (.n (.n (.n (.n (.l 27595553085108178321812) (.l 27704408575728879345758)) (.n (.l 27712114862969863162095) (.l 27728318300994671919701))) (.n (.n (.l 27736024588235655736038) (.l 27820970353590564186041)) (.n (.l 27828676640831548002378) (.n (.l 27837173791615372943647) (.l 27844880078856356759984))))) (.n (.n (.n (.l 27929825844211265209987) (.l 27937532131452249026324)) (.n (.l 27953735569477057783930) (.l 27961441856718041600267))) (.n (.n (.l 28062591060097758807876) (.l 28070297347338742624213)) (.n (.l 28163455020031148607173) (.n (.l 28171161307272132423510) (.l 28171446550718459831822)))))) (.n (.n (.n (.n (.l 28179152837959443648159) (.l 28272310510651849631119)) (.n (.l 28280016797892833447456) (.l 28381166001272550655065))) (.n (.n (.l 28388872288513534471402) (.l 28405075726538343229008)) (.n (.l 28412782013779327045345) (.n (.l 28490021491893251679011) (.l 28497727779134235495348))))) (.n (.n (.n (.l 28513931217159044252954) (.l 28521637504400028069291)) (.n (.l 28606583269754936519294) (.n (.l 28622786707779745276900) (.l 28630492995020729093237)))) (.n (.n (.l 28723650667713135076197) (.l 28739348485641430117183)) (.n (.l 28808596433068043526200) (.n (.l 28832506158333836100143) (.l 28840212445574819916480))))))) (.n (.n (.n (.n (.n (.l 28925158210929728366483) (.l 28932864498170712182820)) (.n (.l 28941361648954537124089) (.l 28949067936195520940426))) (.n (.n (.l 28965271374220329698032) (.l 29041719988791413206766)) (.n (.l 29057923426816221964372) (.n (.l 29065629714057205780709) (.l 29081833152082014538315))))) (.n (.n (.n (.l 29166778917436922988318) (.l 29174485204677906804655)) (.n (.l 29267642877370312787615) (.n (.l 29283340695298607828601) (.l 29376498367991013811561)))) (.n (.n (.l 29384204655231997627898) (.l 29400408093256806385504)) (.n (.l 29485353858611714835507) (.n (.l 29493060145852698651844) (.l 29509263583877507409450)))))) (.n (.n (.n (.n (.l 29516969871118491225787) (.l 29594209349232415859453)) (.n (.l 29601915636473399675790) (.l 29618119074498208433396))) (.n (.n (.l 29625825361739192249733) (.l 29726974565118909457342)) (.n (.l 29734680852359893273679) (.n (.l 29827838525052299256639) (.l 29835544812293283072976))))) (.n (.n (.n (.l 29843536342980594297625) (.l 29912784290407207706642)) (.n (.l 29936694015673000280585) (.n (.l 29944400302913984096922) (.l 30029346068268892546925)))) (.n (.n (.l 30045549506293701304531) (.l 30053255793534685120868)) (.n (.l 30069459231559493878474) (.n (.l 30077165518800477694811) (.l 30162111284155386144814)))))))))
def tb6 : Tr := (.n (.n (.n (.n (.n (.n (.n (.l 30169817571396369961151) (.l 30186021009421178718757)) (.n (.l 30270966774776087168760) (.l 30278673062017070985097))) (.n (.n (.l 30302582787282863559040) (.l 30371830734709476968057)) (.n (.l 30480686225330177992003) (.n (.l 30488392512571161808340) (.l 30504595950595970565946))))) (.n (.n (.n (.l 30512302237836954382283) (.l 30589541715950879015949)) (.n (.l 30597248003191862832286) (.l 30613451441216671589892))) (.n (.n (.l 30621157728457655406229) (.l 30706103493812563856232)) (.n (.l 30722306931837372613838) (.n (.l 30730013219078356430175) (.l 30823170891770762413135)))))) (.n (.n (.n (.n (.l 30831162422458073637784) (.l 30838868709699057454121)) (.n (.l 30932026382391463437081) (.l 30939732669632447253418))) (.n (.n (.l 30947724200319758478067) (.l 31040881873012164461027)) (.n (.l 31048588160253148277364) (.n (.l 31064791598277957034970) (.l 31149737363632865484973))))) (.n (.n (.n (.l 31157443650873849301310) (.l 31173647088898658058916)) (.n (.l 31181353376139641875253) (.n (.l 31266299141494550325256) (.l 31274005428735534141593)))) (.n (.n (.l 31282502579519359082862) (.l 31290208866760342899199)) (.n (.l 31382860919356235165539) (.n (.l 31399064357381043923145) (.l 31406770644622027739482))))))) (.n (.n (.n (.n (.n (.l 31476018592048641148499) (.l 31499928317314433722442)) (.n (.l 31584874082669342172445) (.l 31592580369910325988782))) (.n (.n (.l 31608783807935134746388) (.l 31616490095176118562725)) (.n (.l 31693729573290043196391) (.n (.l 31701435860531027012728) (.l 31717639298555835770334))))) (.n (.n (.n (.l 31725345585796819586671) (.l 31741549023821628344277)) (.n (.l 31826494789176536794280) (.n (.l 31834201076417520610617) (.l 31858110801683313184560)))) (.n (.n (.l 31927358749109926593577) (.l 31935350279797237818226)) (.n (.l 31943056567038221634563) (.n (.l 32036214239730627617523) (.l 32043920526971611433860)))))) (.n (.n (.n (.n (.l 32145069730351328641469) (.l 32152776017592312457806)) (.n (.l 32168979455617121215412) (.l 32176685742858105031749))) (.n (.n (.l 32253925220972029665415) (.l 32261631508213013481752)) (.n (.l 32277834946237822239358) (.n (.l 32285541233478806055695) (.l 32370486998833714505698))))) (.n (.n (.n (.l 32378193286074698322035) (.l 32386690436858523263304)) (.n (.l 32394396724099507079641) (.n (.l 32487554396791913062601) (.l 32503252214720208103587)))) (.n (.n (.l 32510958501961191919924) (.l 32604116174653597902884)) (.n (.l 32619813992581892943870) (.n (.l 32689061940008506352887) (.l 32712971665274298926830)))))))) (.n (.n (.n (.n (.n (.n (.l 32720677952515282743167) (.l 32729175103299107684436)) (.n (.l 32805623717870191193170) (.l 32821827155894999950776))) (.n (.n (.l 32829533443135983767113) (.l 32845736881160792524719)) (.n (.l 32930682646515700974722) (.n (.l 32938388933756684791059) (.l 32962298659022477365002))))) (.n (.n (.n (.l 33031546606449090774019) (.l 33047244424377385815005)) (.n (.l 33140402097069791797965) (.l 33148108384310775614302))) (.n (.n (.l 33164311822335584371908) (.l 33249257587690492821911)) (.n (.l 33256963874931476638248) (.n (.l 33273167312956285395854) (.l 33280873600197269212191)))))) (.n (.n (.n (.n (.l 33358113078311193845857) (.l 33365819365552177662194)) (.n (.l 33373525652793161478531) (.l 33382022803576986419800))) (.n (.n (.l 33389729090817970236137) (.l 33482381143413862502477)) (.n (.l 33490878294197687443746) (.n (.l 33498584581438671260083) (.l 33591742254131077243043))))) (.n (.n (.n (.l 33607440072059372284029) (.l 33615146359300356100366)) (.n (.l 33708304031992762083326) (.n (.l 33716010319233745899663) (.l 33724001849921057124312)))) (.n (.n (.l 33793249797347670533329) (.l 33817159522613463107272)) (.n (.l 33824865809854446923609) (.n (.l 33833362960638271864878) (.l 33841069247879255681215))))))) (.n (.n (.n (.n (.n (.l 33909811575209355373612) (.l 33926015013234164131218)) (.n (.l 33933721300475147947555) (.l 33949924738499956705161))) (.n (.n (.l 33957631025740940521498) (.l 34034870503854865155164)) (.n (.l 34042576791095848971501) (.n (.l 34066486516361641545444) (.l 34135734463788254954461))))) (.n (.n (.n (.l 34244589954408955978407) (.l 34252296241649939794744)) (.n (.l 34268499679674748552350) (.n (.l 34353445445029657002353) (.l 34361151732270640818690)))) (.n (.n (.l 34377355170295449576296) (.l 34385061457536433392633)) (.n (.l 34470007222891341842636) (.n (.l 34477713510132325658973) (.l 34486210660916150600242)))))) (.n (.n (.n (.n (.l 34493916948157134416579) (.l 34586569000753026682919)) (.n (.l 34595066151536851624188) (.l 34602772438777835440525))) (.n (.n (.l 34695930111470241423485) (.l 34703636398711225239822)) (.n (.l 34711627929398536464471) (.n (.l 34719334216639520280808) (.l 34812491889331926263768))))) (.n (.n (.n (.l 34820198176572910080105) (.l 34828695327356735021374)) (.n (.l 34921347379952627287714) (.n (.l 34929053667193611104051) (.l 34937550817977436045320)))) (.n (.n (.l 34945257105218419861657) (.l 35030202870573328311660)) (.n (.l 35037909157814312127997) (.n (.l 35054112595839120885603) (.l 35061818883080104701940)))))))))
def tb7 : Tr := (.n (.n (.n (.n (.n (.n (.n (.l 35146764648435013151943) (.l 35162968086459821909549)) (.n (.l 35170674373700805725886) (.l 35279529864321506749832))) (.n (.n (.l 35348777811748120158849) (.l 35372687537013912732792)) (.n (.l 35380393824254896549129) (.n (.l 35457633302368821182795) (.l 35465339589609804999132))))) (.n (.n (.n (.l 35481543027634613756738) (.l 35489249314875597573075)) (.n (.l 35574195080230506023078) (.l 35581901367471489839415))) (.n (.n (.l 35590398518255314780684) (.l 35598104805496298597021)) (.n (.l 35622014530762091170964) (.n (.l 35691262478188704579981) (.l 35699254008876015804630)))))) (.n (.n (.n (.n (.l 35706960296116999620967) (.l 35800117968809405603927)) (.n (.l 35807824256050389420264) (.l 35823522073978684461250))) (.n (.n (.l 35916679746671090444210) (.l 35924386033912074260547)) (.n (.l 35932883184695899201816) (.n (.l 36025535237291791468156) (.l 36033241524532775284493))))) (.n (.n (.n (.l 36049444962557584042099) (.l 36057151249798567858436)) (.n (.l 36134390727912492492102) (.n (.l 36142097015153476308439) (.l 36158300453178285066045)))) (.n (.n (.l 36166006740419268882382) (.l 36250952505774177332385)) (.n (.l 36267155943798986089991) (.n (.l 36274862231039969906328) (.l 36368019903732375889288))))))) (.n (.n (.n (.n (.n (.l 36383717721660670930274) (.l 36452965669087284339291)) (.n (.l 36476875394353076913234) (.l 36484581681594060729571))) (.n (.n (.l 36561821159707985363237) (.l 36569527446948969179574)) (.n (.l 36585730884973777937180) (.n (.l 36593437172214761753517) (.l 36609640610239570511123))))) (.n (.n (.n (.l 36686089224810654019857) (.l 36694586375594478961126)) (.n (.l 36702292662835462777463) (.n (.l 36726202388101255351406) (.l 36795450335527868760423)))) (.n (.n (.l 36811148153456163801409) (.l 36904305826148569784369)) (.n (.l 36912012113389553600706) (.n (.l 36927709931317848641692) (.l 37020867604010254624652)))))) (.n (.n (.n (.n (.l 37028573891251238440989) (.l 37037071042035063382258)) (.n (.l 37044777329276047198595) (.l 37129723094630955648598))) (.n (.n (.l 37137429381871939464935) (.l 37153632819896748222541)) (.n (.l 37161339107137732038878) (.n (.l 37238578585251656672544) (.l 37246284872492640488881))))) (.n (.n (.n (.l 37262488310517449246487) (.l 37270194597758433062824)) (.n (.l 37371343801138150270433) (.n (.l 37379050088379134086770) (.l 37472207761071540069730)))) (.n (.n (.l 37479914048312523886067) (.l 37480199291758851294379)) (.n (.l 37487905578999835110716) (.n (.l 37557153526426448519733) (.l 37581063251692241093676)))))))) (.n (.n (.n (.n (.n (.n (.l 37588769538933224910013) (.l 37673715304288133360016)) (.n (.l 37689918742312942117622) (.l 37697625029553925933959))) (.n (.n (.l 37713828467578734691565) (.l 37721534754819718507902)) (.n (.l 37798774232933643141568) (.n (.l 37806480520174626957905) (.l 37822683958199435715511))))) (.n (.n (.n (.l 37830390245440419531848) (.l 37915336010795327981851)) (.n (.l 37939245736061120555794) (.l 38008493683487733964811))) (.n (.n (.l 38032403408753526538754) (.l 38125055461349418805094)) (.n (.l 38132761748590402621431) (.n (.l 38141258899374227562700) (.l 38148965186615211379037)))))) (.n (.n (.n (.n (.l 38233910951970119829040) (.l 38241617239211103645377)) (.n (.l 38257820677235912402983) (.l 38265526964476896219320))) (.n (.n (.l 38350472729831804669323) (.l 38366676167856613426929)) (.n (.l 38374382455097597243266) (.n (.l 38398292180363389817209) (.l 38467540127790003226226))))) (.n (.n (.n (.l 38475531658477314450875) (.l 38483237945718298267212)) (.n (.l 38576395618410704250172) (.n (.l 38584101905651688066509) (.l 38592093436338999291158)))) (.n (.n (.l 38685251109031405274118) (.l 38692957396272389090455)) (.n (.l 38709160834297197848061) (.n (.l 38794106599652106298064) (.l 38801812886893090114401))))))) (.n (.n (.n (.n (.n (.l 38818016324917898872007) (.l 38825722612158882688344)) (.n (.l 38902962090272807322010) (.l 38910668377513791138347))) (.n (.n (.l 38926871815538599895953) (.l 38934578102779583712290)) (.n (.l 39027230155375475978630) (.n (.l 39043433593400284736236) (.l 39136591266092690719196))))) (.n (.n (.n (.l 39144297553333674535533) (.l 39229243318688582985536)) (.n (.l 39245446756713391743142) (.n (.l 39253153043954375559479) (.l 39338098809309284009482)))) (.n (.n (.l 39345805096550267825819) (.l 39362008534575076583425)) (.n (.l 39369714821816060399762) (.n (.l 39385918259840869157368) (.l 39470864025195777607371)))))) (.n (.n (.n (.n (.l 39478570312436761423708) (.l 39502480037702553997651)) (.n (.l 39571727985129167406668) (.l 39579719515816478631317))) (.n (.n (.l 39587425803057462447654) (.l 39680583475749868430614)) (.n (.l 39688289762990852246951) (.n (.l 39789438966370569454560) (.l 39797145253611553270897))))) (.n (.n (.n (.l 39813348691636362028503) (.l 39821054978877345844840)) (.n (.l 39898294456991270478506) (.n (.l 39906000744232254294843) (.l 39922204182257063052449)))) (.n (.n (.l 39929910469498046868786) (.l 40014856234852955318789)) (.n (.l 40031059672877764076395) (.n (.l 40038765960118747892732) (.l 40131923632811153875692)))))))))
def tb8 : Tr := (.n (.n (.n (.n (.n (.n (.n (.l 40147621450739448916678) (.l 40240779123431854899638)) (.n (.l 40248485410672838715975) (.l 40333431176027747165978))) (.n (.n (.l 40349634614052555923584) (.l 40357340901293539739921)) (.n (.l 40373544339318348497527) (.n (.l 40449992953889432006261) (.l 40466196391914240763867))))) (.n (.n (.n (.l 40473902679155224580204) (.l 40482399829939049521473)) (.n (.l 40490106117180033337810) (.l 40575051882534941787813))) (.n (.n (.l 40582758169775925604150) (.l 40598961607800734361756)) (.n (.l 40606667895041718178093) (.n (.l 40675915842468331587110) (.l 40691613660396626628096)))))) (.n (.n (.n (.n (.l 40784771333089032611056) (.l 40792477620330016427393)) (.n (.l 40808681058354825184999) (.l 40893626823709733635002))) (.n (.n (.l 40901333110950717451339) (.l 40917536548975526208945)) (.n (.l 40925242836216510025282) (.n (.l 41002482314330434658948) (.l 41010188601571418475285))))) (.n (.n (.n (.l 41026392039596227232891) (.l 41034098326837211049228)) (.n (.l 41135247530216928256837) (.n (.l 41142953817457912073174) (.l 41236111490150318056134)))) (.n (.n (.l 41243817777391301872471) (.l 41244103020837629280783)) (.n (.l 41251809308078613097120) (.n (.l 41344966980771019080080) (.l 41352673268012002896417))))))) (.n (.n (.n (.n (.n (.l 41453822471391720104026) (.l 41461528758632703920363)) (.n (.l 41469235045873687736700) (.l 41477732196657512677969))) (.n (.n (.l 41485438483898496494306) (.l 41570384249253404944309)) (.n (.l 41578090536494388760646) (.n (.l 41586587687278213701915) (.l 41594293974519197518252))))) (.n (.n (.n (.l 41679239739874105968255) (.l 41686946027115089784592)) (.n (.l 41703149465139898542198) (.n (.l 41710855752380882358535) (.l 41819711243001583382481)))) (.n (.n (.l 41888959190428196791498) (.l 41912868915693989365441)) (.n (.l 41997814681048897815444) (.n (.l 42005520968289881631781) (.l 42021724406314690389387)))))) (.n (.n (.n (.n (.l 42029430693555674205724) (.l 42114376458910582655727)) (.n (.l 42130579896935391413333) (.l 42138286184176375229670))) (.n (.n (.l 42162195909442167803613) (.l 42231443856868781212630)) (.n (.l 42239435387556092437279) (.n (.l 42247141674797076253616) (.l 42340299347489482236576))))) (.n (.n (.n (.l 42348005634730466052913) (.l 42355997165417777277562)) (.n (.l 42449154838110183260522) (.n (.l 42456861125351167076859) (.l 42473064563375975834465)))) (.n (.n (.l 42558010328730884284468) (.l 42565716615971868100805)) (.n (.l 42573422903212851917142) (.n (.l 42581920053996676858411) (.l 42589626341237660674748)))))))) (.n (.n (.n (.n (.n (.n (.l 42674572106592569124751) (.l 42682278393833552941088)) (.n (.l 42690775544617377882357) (.l 42698481831858361698694))) (.n (.n (.l 42791133884454253965034) (.l 42807337322479062722640)) (.n (.l 42815043609720046538977) (.n (.l 42923899100340747562923) (.l 42993147047767360971940))))) (.n (.n (.n (.l 43017056773033153545883) (.l 43024763060274137362220)) (.n (.l 43102002538388061995886) (.l 43109708825629045812223))) (.n (.n (.l 43125912263653854569829) (.l 43133618550894838386166)) (.n (.l 43149821988919647143772) (.n (.l 43234767754274555593775) (.l 43242474041515539410112)))))) (.n (.n (.n (.n (.l 43266383766781331984055) (.l 43335631714207945393072)) (.n (.l 43343623244895256617721) (.l 43351329532136240434058))) (.n (.n (.l 43444487204828646417018) (.l 43452193492069630233355)) (.n (.l 43553342695449347440964) (.n (.l 43561048982690331257301) (.l 43577252420715140014907))))) (.n (.n (.n (.l 43662198186070048464910) (.l 43669904473311032281247)) (.n (.l 43677610760552016097584) (.n (.l 43686107911335841038853) (.l 43693814198576824855190)))) (.n (.n (.l 43778759963931733305193) (.l 43786466251172717121530)) (.n (.l 43794963401956542062799) (.n (.l 43802669689197525879136) (.l 43895321741793418145476))))))) (.n (.n (.n (.n (.n (.l 43911525179818226903082) (.l 43919231467059210719419)) (.n (.l 44012389139751616702379) (.l 44020380670438927927028))) (.n (.n (.l 44028086957679911743365) (.l 44121244630372317726325)) (.n (.l 44128950917613301542662) (.n (.l 44213896682968209992665) (.l 44230100120993018750271))))) (.n (.n (.n (.l 44237806408234002566608) (.l 44254009846258811324214)) (.n (.l 44338955611613719774217) (.n (.l 44346661898854703590554) (.l 44362865336879512348160)))) (.n (.n (.l 44370571624120496164497) (.l 44455517389475404614500)) (.n (.l 44479427114741197188443) (.n (.l 44548675062167810597460) (.l 44657530552788511621406)))))) (.n (.n (.n (.n (.l 44665236840029495437743) (.l 44681440278054304195349)) (.n (.l 44689146565295288011686) (.l 44774092330650196461689))) (.n (.n (.l 44781798617891180278026) (.l 44790295768675005219295)) (.n (.l 44798002055915989035632) (.n (.l 44882947821270897485635) (.l 44890654108511881301972))))) (.n (.n (.n (.l 44899151259295706243241) (.l 44906857546536690059578)) (.n (.l 45000015219229096042538) (.n (.l 45015713037157391083524) (.l 45023419324398374899861)))) (.n (.n (.l 45116576997090780882821) (.l 45124283284331764699158)) (.n (.l 45132274815019075923807) (.n (.l 45225432487711481906767) (.l 45233138774952465723104)))))))))
def tb9 : Tr := (.n (.n (.n (.n (.n (.n (.n (.l 45334287978332182930713) (.l 45341994265573166747050)) (.n (.l 45358197703597975504656) (.l 45365903990838959320993))) (.n (.n (.l 45443143468952883954659) (.l 45450849756193867770996)) (.n (.l 45467053194218676528602) (.n (.l 45474759481459660344939) (.l 45559705246814568794942))))) (.n (.n (.n (.l 45583614972080361368885) (.l 45652862919506974777902)) (.n (.l 45676772644772767351845) (.l 45761718410127675801848))) (.n (.n (.l 45769424697368659618185) (.l 45785628135393468375791)) (.n (.l 45793334422634452192128) (.n (.l 45878280187989360642131) (.l 45885986475230344458468)))))) (.n (.n (.n (.n (.l 45894483626014169399737) (.l 45902189913255153216074)) (.n (.l 45994841965851045482414) (.l 46003339116634870423683))) (.n (.n (.l 46011045403875854240020) (.l 46104203076568260222980)) (.n (.l 46111909363809244039317) (.n (.l 46119900894496555263966) (.l 46127607181737539080303))))) (.n (.n (.n (.l 46220764854429945063263) (.l 46228471141670928879600)) (.n (.l 46236462672358240104249) (.n (.l 46329620345050646087209) (.l 46337326632291629903546)))) (.n (.n (.l 46353530070316438661152) (.l 46438475835671347111155)) (.n (.l 46446182122912330927492) (.n (.l 46462385560937139685098) (.l 46470091848178123501435))))))) (.n (.n (.n (.n (.n (.l 46547331326292048135101) (.l 46555037613533031951438)) (.n (.l 46571241051557840709044) (.l 46578947338798824525381))) (.n (.n (.l 46680096542178541732990) (.l 46687802829419525549327)) (.n (.l 46757050776846138958344) (.n (.l 46780960502111931532287) (.l 46788666789352915348624))))) (.n (.n (.n (.l 46865906267466839982290) (.l 46873612554707823798627)) (.n (.l 46889815992732632556233) (.n (.l 46897522279973616372570) (.l 46982468045328524822573)))) (.n (.n (.l 46990174332569508638910) (.l 46998671483353333580179)) (.n (.l 47006377770594317396516) (.n (.l 47022581208619126154122) (.l 47030287495860109970459)))))) (.n (.n (.n (.n (.l 47107526973974034604125) (.l 47115233261215018420462)) (.n (.l 47122939548456002236799) (.l 47139142986480810994405))) (.n (.n (.l 47224088751835719444408) (.l 47231795039076703260745)) (.n (.l 47324952711769109243705) (.n (.l 47332658999010093060042) (.l 47341156149793918001311))))) (.n (.n (.n (.l 47433808202389810267651) (.l 47441514489630794083988)) (.n (.l 47457717927655602841594) (.n (.l 47465424214896586657931) (.l 47542663693010511291597)))) (.n (.n (.l 47550369980251495107934) (.l 47566573418276303865540)) (.n (.l 47574279705517287681877) (.n (.l 47659225470872196131880) (.l 47675428908897004889486)))))))) (.n (.n (.n (.n (.n (.n (.l 47683135196137988705823) (.l 47776292868830394688783)) (.n (.l 47784284399517705913432) (.l 47791990686758689729769))) (.n (.n (.l 47885148359451095712729) (.l 47892854646692079529066)) (.n (.l 47900846177379390753715) (.n (.l 47970094124806004162732) (.l 47994003850071796736675))))) (.n (.n (.n (.l 48001710137312780553012) (.l 48017913575337589310618)) (.n (.l 48102859340692497760621) (.l 48110565627933481576958))) (.n (.n (.l 48126769065958290334564) (.l 48134475353199274150901)) (.n (.l 48211714831313198784567) (.n (.l 48219421118554182600904) (.l 48227127405795166417241)))))) (.n (.n (.n (.n (.l 48243330843819975174847) (.l 48335982896415867441187)) (.n (.l 48429140569108273424147) (.l 48445344007133082181753))) (.n (.n (.l 48453050294374065998090) (.l 48537996059728974448093)) (.n (.l 48545702346969958264430) (.n (.l 48561905784994767022036) (.l 48569612072235750838373))))) (.n (.n (.n (.l 48646851550349675472039) (.l 48654557837590659288376)) (.n (.l 48670761275615468045982) (.n (.l 48678467562856451862319) (.l 48779616766236169069928)))) (.n (.n (.l 48787323053477152886265) (.l 48880480726169558869225)) (.n (.l 48888187013410542685562) (.n (.l 48888472256856870093874) (.l 48896178544097853910211))))))) (.n (.n (.n (.n (.n (.l 48989336216790259893171) (.l 48997042504031243709508)) (.n (.l 49098191707410960917117) (.l 49105897994651944733454))) (.n (.n (.l 49122101432676753491060) (.l 49129807719917737307397)) (.n (.l 49207047198031661941063) (.n (.l 49214753485272645757400) (.l 49230956923297454515006))))) (.n (.n (.n (.l 49238663210538438331343) (.l 49323608975893346781346)) (.n (.l 49331315263134330597683) (.n (.l 49347518701159139355289) (.l 49440676373851545338249)))) (.n (.n (.l 49533328426447437604589) (.l 49549531864472246362195)) (.n (.l 49557238151713230178532) (.n (.l 49564944438954213994869) (.l 49642183917068138628535)))))) (.n (.n (.n (.n (.l 49649890204309122444872) (.l 49666093642333931202478)) (.n (.l 49673799929574915018815) (.l 49682297080358739960084))) (.n (.n (.l 49758745694929823468818) (.l 49774949132954632226424)) (.n (.l 49782655420195616042761) (.n (.l 49798858858220424800367) (.l 49806565145461408616704))))) (.n (.n (.n (.l 49875813092888022025721) (.l 49883804623575333250370)) (.n (.l 49891510910816317066707) (.n (.l 49984668583508723049667) (.l 49992374870749706866004)))) (.n (.n (.l 50000366401437018090653) (.l 50093524074129424073613)) (.n (.l 50101230361370407889950) (.n (.l 50117433799395216647556) (.l 50202379564750125097559)))))))))
def tb10 : Tr := (.n (.n (.n (.n (.n (.n (.n (.l 50210085851991108913896) (.l 50226289290015917671502)) (.n (.l 50233995577256901487839) (.l 50311235055370826121505))) (.n (.n (.l 50318941342611809937842) (.l 50335144780636618695448)) (.n (.l 50342851067877602511785) (.n (.l 50435503120473494778125) (.l 50444000271257319719394))))) (.n (.n (.n (.l 50451706558498303535731) (.l 50544864231190709518691)) (.n (.l 50552570518431693335028) (.l 50560562049119004559677))) (.n (.n (.l 50653719721811410542637) (.l 50661426009052394358974)) (.n (.l 50669132296293378175311) (.n (.l 50677123826980689399960) (.l 50746371774407302808977)))))) (.n (.n (.n (.n (.l 50770281499673095382920) (.l 50777987786914079199257)) (.n (.l 50786484937697904140526) (.l 50794191224938887956863))) (.n (.n (.l 50879136990293796406866) (.l 50886843277534780223203)) (.n (.l 50903046715559588980809) (.n (.l 50910753002800572797146) (.l 50987992480914497430812))))) (.n (.n (.n (.l 50995698768155481247149) (.l 51019608493421273821092)) (.n (.l 51088856440847887230109) (.n (.l 51197711931468588254055) (.l 51205418218709572070392)))) (.n (.n (.l 51221621656734380827998) (.l 51306567422089289278001)) (.n (.l 51314273709330273094338) (.n (.l 51330477147355081851944) (.l 51338183434596065668281))))))) (.n (.n (.n (.n (.n (.l 51423129199950974118284) (.l 51439332637975782875890)) (.n (.l 51447038925216766692227) (.l 51540196597909172675187))) (.n (.n (.l 51548188128596483899836) (.l 51555894415837467716173)) (.n (.l 51649052088529873699133) (.n (.l 51656758375770857515470) (.l 51664749906458168740119))))) (.n (.n (.n (.l 51757907579150574723079) (.l 51765613866391558539416)) (.n (.l 51773320153632542355753) (.n (.l 51781817304416367297022) (.l 51874469357012259563362)))) (.n (.n (.l 51882175644253243379699) (.l 51890672795037068320968)) (.n (.l 51898379082278052137305) (.n (.l 51983324847632960587308) (.l 51991031134873944403645)))))) (.n (.n (.n (.n (.l 52007234572898753161251) (.l 52014940860139736977588)) (.n (.l 52099886625494645427591) (.l 52123796350760438001534))) (.n (.n (.l 52193044298187051410551) (.l 52216954023452843984494)) (.n (.l 52301899788807752434497) (.n (.l 52309606076048736250834) (.l 52325809514073545008440))))) (.n (.n (.n (.l 52333515801314528824777) (.l 52410755279428453458443)) (.n (.l 52418461566669437274780) (.n (.l 52434665004694246032386) (.l 52442371291935229848723)))) (.n (.n (.l 52543520495314947056332) (.l 52551226782555930872669)) (.n (.l 52644384455248336855629) (.n (.l 52652375985935648080278) (.l 52660082273176631896615)))))))) (.n (.n (.n (.n (.n (.n (.l 52753239945869037879575) (.l 52760946233110021695912)) (.n (.l 52776644051038316736898) (.l 52869801723730722719858))) (.n (.n (.l 52877508010971706536195) (.l 52886005161755531477464)) (.n (.l 52978657214351423743804) (.n (.l 52986363501592407560141) (.l 52994860652376232501410))))) (.n (.n (.n (.l 53002566939617216317747) (.l 53087512704972124767750)) (.n (.l 53095218992213108584087) (.l 53111422430237917341693))) (.n (.n (.l 53119128717478901158030) (.l 53220277920858618365639)) (.n (.l 53227984208099602181976) (.n (.l 53321141880792008164936) (.l 53336839698720303205922)))))) (.n (.n (.n (.n (.l 53406087646146916614939) (.l 53413793933387900431276)) (.n (.l 53429997371412709188882) (.l 53437703658653693005219))) (.n (.n (.l 53522649424008601455222) (.l 53538852862033410212828)) (.n (.l 53546559149274394029165) (.n (.l 53562762587299202786771) (.l 53647708352654111236774))))) (.n (.n (.n (.l 53655414639895095053111) (.l 53679324365160887627054)) (.n (.l 53748572312587501036071) (.n (.l 53764270130515796077057) (.l 53857427803208202060017)))) (.n (.n (.l 53865134090449185876354) (.l 53880831908377480917340)) (.n (.l 53973989581069886900300) (.n (.l 53981695868310870716637) (.l 53990193019094695657906))))))) (.n (.n (.n (.n (.n (.l 53997899306335679474243) (.l 54082845071690587924246)) (.n (.l 54090551358931571740583) (.l 54099048509715396681852))) (.n (.n (.l 54106754796956380498189) (.l 54199406849552272764529)) (.n (.l 54215610287577081522135) (.n (.l 54223316574818065338472) (.l 54324465778197782546081))))) (.n (.n (.n (.l 54332172065438766362418) (.l 54425329738131172345378)) (.n (.l 54433036025372156161715) (.n (.l 54441027556059467386364) (.l 54510275503486080795381)))) (.n (.n (.l 54534185228751873369324) (.l 54541891515992857185661)) (.n (.l 54626837281347765635664) (.n (.l 54643040719372574393270) (.l 54650747006613558209607)))))) (.n (.n (.n (.n (.l 54666950444638366967213) (.l 54674656731879350783550)) (.n (.l 54751896209993275417216) (.l 54759602497234259233553))) (.n (.n (.l 54783512222500051807496) (.l 54852760169926665216513)) (.n (.l 54868457987854960257499) (.n (.l 54961615660547366240459) (.l 54969321947788350056796))))) (.n (.n (.n (.l 54985525385813158814402) (.l 55078177438409051080742)) (.n (.l 55085883725650034897079) (.n (.l 55094380876433859838348) (.l 55102087163674843654685)))) (.n (.n (.l 55187032929029752104688) (.l 55194739216270735921025)) (.n (.l 55203236367054560862294) (.n (.l 55210942654295544678631) (.l 55218648941536528494968)))))))))
def tb11 : Tr := (.n (.n (.n (.n (.n (.n (.n (.l 55303594706891436944971) (.l 55319798144916245702577)) (.n (.l 55327504432157229518914) (.l 55420662104849635501874))) (.n (.n (.l 55428653635536946726523) (.l 55436359922777930542860)) (.n (.l 55529517595470336525820) (.n (.l 55537223882711320342157) (.l 55545215413398631566806))))) (.n (.n (.n (.l 55614463360825244975823) (.l 55638373086091037549766)) (.n (.l 55646079373332021366103) (.l 55662282811356830123709))) (.n (.n (.l 55747228576711738573712) (.l 55754934863952722390049)) (.n (.l 55771138301977531147655) (.n (.l 55778844589218514963992) (.l 55863790354573423413995)))))) (.n (.n (.n (.n (.l 55879993792598232171601) (.l 55887700079839215987938)) (.n (.l 55956948027265829396955) (.l 56065803517886530420901))) (.n (.n (.l 56073509805127514237238) (.l 56089713243152322994844)) (.n (.l 56097419530393306811181) (.n (.l 56182365295748215261184) (.l 56190071582989199077521))))) (.n (.n (.n (.l 56198568733773024018790) (.l 56206275021014007835127)) (.n (.l 56291220786368916285130) (.n (.l 56298927073609900101467) (.l 56307424224393725042736)))) (.n (.n (.l 56315130511634708859073) (.l 56322836798875692675410)) (.n (.l 56339040236900501433016) (.n (.l 56423986002255409883019) (.l 56431692289496393699356))))))) (.n (.n (.n (.n (.n (.l 56524849962188799682316) (.l 56532556249429783498653)) (.n (.l 56532841492876110906965) (.l 56540547780117094723302))) (.n (.n (.l 56633705452809500706262) (.l 56641411740050484522599)) (.n (.l 56742560943430201730208) (.n (.l 56750267230671185546545) (.l 56766470668695994304151))))) (.n (.n (.n (.l 56774176955936978120488) (.l 56851416434050902754154)) (.n (.l 56859122721291886570491) (.n (.l 56875326159316695328097) (.l 56883032446557679144434)))) (.n (.n (.l 56967978211912587594437) (.l 56984181649937396352043)) (.n (.l 56991887937178380168380) (.n (.l 57085045609870786151340) (.l 57100743427799081192326)))))) (.n (.n (.n (.n (.l 57169991375225694601343) (.l 57193901100491487175286)) (.n (.l 57201607387732470991623) (.l 57286553153087379441626))) (.n (.n (.l 57302756591112188199232) (.l 57310462878353172015569)) (.n (.l 57326666316377980773175) (.n (.l 57403114930949064281909) (.l 57411612081732889223178))))) (.n (.n (.n (.l 57419318368973873039515) (.l 57427024656214856855852)) (.n (.l 57443228094239665613458) (.n (.l 57528173859594574063461) (.l 57535880146835557879798)))) (.n (.n (.l 57629037819527963862758) (.l 57644735637456258903744)) (.n (.l 57737893310148664886704) (.n (.l 57745599597389648703041) (.l 57761803035414457460647)))))))) (.n (.n (.n (.n (.n (.n (.l 57846748800769365910650) (.l 57854455088010349726987)) (.n (.l 57870658526035158484593) (.l 57878364813276142300930))) (.n (.n (.l 57955604291390066934596) (.l 57963310578631050750933)) (.n (.l 57979514016655859508539) (.n (.l 57987220303896843324876) (.l 58088369507276560532485))))) (.n (.n (.n (.l 58096075794517544348822) (.l 58189233467209950331782)) (.n (.l 58196939754450934148119) (.l 58204931285138245372768))) (.n (.n (.l 58274179232564858781785) (.l 58298088957830651355728)) (.n (.l 58305795245071635172065) (.n (.l 58390741010426543622068) (.l 58406944448451352379674)))))) (.n (.n (.n (.n (.l 58414650735692336196011) (.l 58430854173717144953617)) (.n (.l 58438560460958128769954) (.l 58523506226313037219957))) (.n (.n (.l 58531212513554021036294) (.l 58547415951578829793900)) (.n (.l 58632361716933738243903) (.n (.l 58640068004174722060240) (.l 58733225676867128043200))))) (.n (.n (.n (.l 58749429114891936800806) (.l 58842081167487829067146)) (.n (.l 58849787454728812883483) (.n (.l 58865990892753621641089) (.l 58873697179994605457426)))) (.n (.n (.l 58950936658108530091092) (.l 58958642945349513907429)) (.n (.l 58974846383374322665035) (.n (.l 58982552670615306481372) (.l 59067498435970214931375))))))) (.n (.n (.n (.n (.n (.l 59083701873995023688981) (.l 59091408161236007505318)) (.n (.l 59184565833928413488278) (.l 59192557364615724712927))) (.n (.n (.l 59200263651856708529264) (.l 59293421324549114512224)) (.n (.l 59301127611790098328561) (.n (.l 59309119142477409553210) (.l 59402276815169815536170))))) (.n (.n (.n (.l 59409983102410799352507) (.l 59426186540435608110113)) (.n (.l 59511132305790516560116) (.n (.l 59518838593031500376453) (.l 59535042031056309134059)))) (.n (.n (.l 59542748318297292950396) (.l 59627694083652201400399)) (.n (.l 59635400370893185216736) (.n (.l 59643897521677010158005) (.l 59651603808917993974342)))))) (.n (.n (.n (.n (.l 59744255861513886240682) (.l 59760459299538694998288)) (.n (.l 59861323259472084797585) (.l 59877021077400379838571))) (.n (.n (.l 59946269024826993247588) (.l 59970178750092785821531)) (.n (.l 59977885037333769637868) (.n (.l 60055124515447694271534) (.l 60062830802688678087871))))) (.n (.n (.n (.l 60079034240713486845477) (.l 60086740527954470661814)) (.n (.l 60102943965979279419420) (.n (.l 60187889731334187869423) (.l 60195596018575171685760)))) (.n (.n (.l 60219505743840964259703) (.l 60288753691267577668720)) (.n (.l 60296745221954888893369) (.n (.l 60304451509195872709706) (.l 60397609181888278692666)))))))))
def tb12 : Tr := (.n (.n (.n (.n (.n (.n (.n (.l 60405315469129262509003) (.l 60506464672508979716612)) (.n (.l 60514170959749963532949) (.l 60530374397774772290555))) (.n (.n (.l 60538080685015756106892) (.l 60615320163129680740558)) (.n (.l 60623026450370664556895) (.n (.l 60639229888395473314501) (.l 60646936175636457130838))))) (.n (.n (.n (.l 60731881940991365580841) (.l 60739588228232349397178)) (.n (.l 60748085379016174338447) (.l 60755791666257158154784))) (.n (.n (.l 60848949338949564137744) (.l 60864647156877859178730)) (.n (.l 60872353444118842995067) (.n (.l 60965511116811248978027) (.l 60981208934739544019013)))))) (.n (.n (.n (.n (.l 61050456882166157428030) (.l 61074366607431950001973)) (.n (.l 61082072894672933818310) (.l 61090570045456758759579))) (.n (.n (.l 61167018660027842268313) (.l 61183222098052651025919)) (.n (.l 61190928385293634842256) (.n (.l 61207131823318443599862) (.l 61292077588673352049865))))) (.n (.n (.n (.l 61299783875914335866202) (.l 61323693601180128440145)) (.n (.l 61392941548606741849162) (.n (.l 61408639366535036890148) (.l 61501797039227442873108)))) (.n (.n (.l 61509503326468426689445) (.l 61525706764493235447051)) (.n (.l 61610652529848143897054) (.n (.l 61618358817089127713391) (.l 61634562255113936470997))))))) (.n (.n (.n (.n (.n (.l 61642268542354920287334) (.l 61719508020468844921000)) (.n (.l 61727214307709828737337) (.l 61743417745734637494943))) (.n (.n (.l 61751124032975621311280) (.l 61843776085571513577620)) (.n (.l 61852273236355338518889) (.n (.l 61859979523596322335226) (.l 61953137196288728318186))))) (.n (.n (.n (.l 61961128726976039542835) (.l 61968835014217023359172)) (.n (.l 61976541301458007175509) (.n (.l 62069698974150413158469) (.l 62077405261391396974806)))) (.n (.n (.l 62085396792078708199455) (.l 62154644739505321608472)) (.n (.l 62178554464771114182415) (.n (.l 62186260752012097998752) (.l 62194757902795922940021)))))) (.n (.n (.n (.n (.l 62202464190036906756358) (.l 62271206517367006448755)) (.n (.l 62287409955391815206361) (.l 62295116242632799022698))) (.n (.n (.l 62311319680657607780304) (.l 62319025967898591596641)) (.n (.l 62396265446012516230307) (.n (.l 62403971733253500046644) (.l 62420175171278308804250))))) (.n (.n (.n (.l 62427881458519292620587) (.l 62536736949139993644533)) (.n (.l 62605984896566607053550) (.n (.l 62613691183807590869887) (.l 62629894621832399627493)))) (.n (.n (.l 62714840387187308077496) (.l 62722546674428291893833)) (.n (.l 62738750112453100651439) (.n (.l 62746456399694084467776) (.l 62831402165048992917779)))))))) (.n (.n (.n (.n (.n (.n (.l 62847605603073801675385) (.l 62855311890314785491722)) (.n (.l 62947963942910677758062) (.l 62956461093694502699331))) (.n (.n (.l 62964167380935486515668) (.l 63057325053627892498628)) (.n (.l 63065031340868876314965) (.n (.l 63073022871556187539614) (.l 63080729158797171355951))))) (.n (.n (.n (.l 63173886831489577338911) (.l 63181593118730561155248)) (.n (.l 63189584649417872379897) (.l 63190090269514386096517))) (.n (.n (.l 63282742322110278362857) (.l 63290448609351262179194)) (.n (.l 63298945760135087120463) (.n (.l 63306652047376070936800) (.l 63391597812730979386803)))))) (.n (.n (.n (.n (.l 63399304099971963203140) (.l 63415507537996771960746)) (.n (.l 63423213825237755777083) (.l 63508159590592664227086))) (.n (.n (.l 63524363028617472984692) (.l 63532069315858456801029)) (.n (.l 63640924806479157824975) (.n (.l 63710172753905771233992) (.l 63734082479171563807935))))) (.n (.n (.n (.l 63741788766412547624272) (.l 63819028244526472257938)) (.n (.l 63826734531767456074275) (.n (.l 63842937969792264831881) (.l 63850644257033248648218)))) (.n (.n (.l 63935590022388157098221) (.l 63943296309629140914558)) (.n (.l 63951793460412965855827) (.n (.l 63959499747653949672164) (.l 63983409472919742246107))))))) (.n (.n (.n (.n (.n (.l 64052657420346355655124) (.l 64060648951033666879773)) (.n (.l 64068355238274650696110) (.l 64161512910967056679070))) (.n (.n (.l 64169219198208040495407) (.l 64184917016136335536393)) (.n (.l 64278074688828741519353) (.n (.l 64285780976069725335690) (.l 64294278126853550276959))))) (.n (.n (.n (.l 64386930179449442543299) (.l 64394636466690426359636)) (.n (.l 64403133617474251300905) (.n (.l 64410839904715235117242) (.l 64418546191956218933579)))) (.n (.n (.l 64495785670070143567245) (.l 64503491957311127383582)) (.n (.l 64519695395335936141188) (.n (.l 64527401682576919957525) (.l 64612347447931828407528)))))) (.n (.n (.n (.n (.l 64628550885956637165134) (.l 64636257173197620981471)) (.n (.l 64729414845890026964431) (.l 64745112663818322005417))) (.n (.n (.l 64814360611244935414434) (.l 64838270336510727988377)) (.n (.l 64845976623751711804714) (.n (.l 64923216101865636438380) (.l 64930922389106620254717))))) (.n (.n (.n (.l 64947125827131429012323) (.l 64954832114372412828660)) (.n (.l 64971035552397221586266) (.n (.l 65047484166968305095000) (.l 65055981317752130036269)))) (.n (.n (.l 65063687604993113852606) (.l 65079891043017922610212)) (.n (.l 65087597330258906426549) (.n (.l 65156845277685519835566) (.l 65172543095613814876552)))))))))
def tb13 : Tr := (.n (.n (.n (.n (.n (.n (.n (.l 65265700768306220859512) (.l 65273407055547204675849)) (.n (.l 65289104873475499716835) (.l 65382262546167905699795))) (.n (.n (.l 65389968833408889516132) (.l 65398465984192714457401)) (.n (.l 65406172271433698273738) (.n (.l 65491118036788606723741) (.l 65498824324029590540078))))) (.n (.n (.n (.l 65507321474813415481347) (.l 65515027762054399297684)) (.n (.l 65522734049295383114021) (.l 65599973527409307747687))) (.n (.n (.l 65607679814650291564024) (.l 65623883252675100321630)) (.n (.l 65631589539916084137967) (.n (.l 65732738743295801345576) (.l 65740445030536785161913)))))) (.n (.n (.n (.n (.l 65833602703229191144873) (.l 65841308990470174961210)) (.n (.l 65841594233916502369522) (.l 65849300521157486185859))) (.n (.n (.l 65942458193849892168819) (.l 65950164481090875985156)) (.n (.l 66051313684470593192765) (.n (.l 66059019971711577009102) (.l 66075223409736385766708))))) (.n (.n (.n (.l 66082929696977369583045) (.l 66160169175091294216711)) (.n (.l 66167875462332278033048) (.n (.l 66184078900357086790654) (.l 66191785187598070606991)))) (.n (.n (.l 66276730952952979056994) (.l 66300640678218771630937)) (.n (.l 66369888625645385039954) (.n (.l 66393798350911177613897) (.l 66486450403507069880237))))))) (.n (.n (.n (.n (.n (.l 66502653841531878637843) (.l 66510360128772862454180)) (.n (.l 66595305894127770904183) (.l 66603012181368754720520))) (.n (.n (.l 66619215619393563478126) (.l 66626921906634547294463)) (.n (.l 66711867671989455744466) (.n (.l 66728071110014264502072) (.l 66735777397255248318409))))) (.n (.n (.n (.l 66828935069947654301369) (.l 66836926600634965526018)) (.n (.l 66844632887875949342355) (.n (.l 66937790560568355325315) (.l 66945496847809339141652)))) (.n (.n (.l 66953488378496650366301) (.l 67046646051189056349261)) (.n (.l 67054352338430040165598) (.n (.l 67070555776454848923204) (.l 67155501541809757373207)))))) (.n (.n (.n (.n (.l 67163207829050741189544) (.l 67179411267075549947150)) (.n (.l 67187117554316533763487) (.l 67264357032430458397153))) (.n (.n (.l 67272063319671442213490) (.l 67288266757696250971096)) (.n (.l 67295973044937234787433) (.n (.l 67404828535557935811379) (.l 67474076482984549220396))))) (.n (.n (.n (.l 67497986208250341794339) (.l 67505692495491325610676)) (.n (.l 67590638260846234060679) (.n (.l 67606841698871042818285) (.l 67614547986112026634622)))) (.n (.n (.l 67699493751466935084625) (.l 67707200038707918900962)) (.n (.l 67723403476732727658568) (.n (.l 67731109763973711474905) (.l 67747313201998520232511)))))))) (.n (.n (.n (.n (.n (.n (.l 67832258967353428682514) (.l 67839965254594412498851)) (.n (.l 67933122927286818481811) (.l 67941114457974129706460))) (.n (.n (.l 67948820745215113522797) (.l 68041978417907519505757)) (.n (.l 68049684705148503322094) (.n (.l 68150833908528220529703) (.l 68158540195769204346040))))) (.n (.n (.n (.l 68174743633794013103646) (.l 68182449921034996919983)) (.n (.l 68259689399148921553649) (.l 68267395686389905369986))) (.n (.n (.l 68283599124414714127592) (.l 68291305411655697943929)) (.n (.l 68376251177010606393932) (.n (.l 68392454615035415151538) (.l 68400160902276398967875)))))) (.n (.n (.n (.n (.l 68493318574968804950835) (.l 68501310105656116175484)) (.n (.l 68509016392897099991821) (.l 68602174065589505974781))) (.n (.n (.l 68609880352830489791118) (.l 68617871883517801015767)) (.n (.l 68711029556210206998727) (.n (.l 68718735843451190815064) (.l 68734939281475999572670))))) (.n (.n (.n (.l 68811387896047083081404) (.l 68827591334071891839010)) (.n (.l 68835297621312875655347) (.n (.l 68843794772096700596616) (.l 68851501059337684412953)))) (.n (.n (.l 68936446824692592862956) (.l 68944153111933576679293)) (.n (.l 68960356549958385436899) (.n (.l 68968062837199369253236) (.l 69053008602554277703239))))))) (.n (.n (.n (.n (.n (.l 69076918327820070277182) (.l 69146166275246683686199)) (.n (.l 69170076000512476260142) (.l 69255021765867384710145))) (.n (.n (.l 69262728053108368526482) (.l 69278931491133177284088)) (.n (.l 69286637778374161100425) (.n (.l 69363877256488085734091) (.l 69371583543729069550428))))) (.n (.n (.n (.l 69387786981753878308034) (.l 69395493268994862124371)) (.n (.l 69496642472374579331980) (.n (.l 69504348759615563148317) (.l 69597506432307969131277)))) (.n (.n (.l 69605497962995280355926) (.l 69613204250236264172263)) (.n (.l 69706361922928670155223) (.n (.l 69714068210169653971560) (.l 69815217413549371179169)))))) (.n (.n (.n (.n (.l 69822923700790354995506) (.l 69839127138815163753112)) (.n (.l 69846833426056147569449) (.l 69931779191411056019452))) (.n (.n (.l 69939485478652039835789) (.l 69947982629435864777058)) (.n (.l 69955688916676848593395) (.n (.l 70040634682031757043398) (.l 70048340969272740859735))))) (.n (.n (.n (.l 70064544407297549617341) (.l 70072250694538533433678)) (.n (.l 70181106185159234457624) (.n (.l 70250354132585847866641) (.l 70274263857851640440584)))) (.n (.n (.l 70359209623206548890587) (.l 70366915910447532706924)) (.n (.l 70383119348472341464530) (.n (.l 70390825635713325280867) (.l 70475771401068233730870)))))))))
def tb14 : Tr := (.n (.n (.n (.n (.n (.n (.n (.l 70491974839093042488476) (.l 70499681126334026304813)) (.n (.l 70523590851599818878756) (.l 70592838799026432287773))) (.n (.n (.l 70600830329713743512422) (.l 70608536616954727328759)) (.n (.l 70701694289647133311719) (.n (.l 70709400576888117128056) (.l 70717392107575428352705))))) (.n (.n (.n (.l 70810549780267834335665) (.l 70818256067508818152002)) (.n (.l 70834459505533626909608) (.l 70919405270888535359611))) (.n (.n (.l 70927111558129519175948) (.l 70943314996154327933554)) (.n (.l 70951021283395311749891) (.n (.l 71035967048750220199894) (.l 71043673335991204016231)))))) (.n (.n (.n (.n (.l 71052170486775028957500) (.l 71059876774016012773837)) (.n (.l 71152528826611905040177) (.l 71161025977395729981446))) (.n (.n (.l 71168732264636713797783) (.l 71176438551877697614120)) (.n (.l 71277587755257414821729) (.n (.l 71285294042498398638066) (.l 71354541989925012047083))))) (.n (.n (.n (.l 71378451715190804621026) (.l 71386158002431788437363)) (.n (.l 71463397480545713071029) (.n (.l 71471103767786696887366) (.l 71487307205811505644972)))) (.n (.n (.l 71495013493052489461309) (.l 71511216931077298218915)) (.n (.l 71596162696432206668918) (.n (.l 71603868983673190485255) (.l 71620072421697999242861))))))) (.n (.n (.n (.n (.n (.l 71627778708938983059198) (.l 71705018187052907692864)) (.n (.l 71712724474293891509201) (.l 71736634199559684083144))) (.n (.n (.l 71805882146986297492161) (.l 71813588434227281308498)) (.n (.l 71914737637606998516107) (.n (.l 71922443924847982332444) (.l 71938647362872791090050))))) (.n (.n (.n (.l 72023593128227699540053) (.l 72031299415468683356390)) (.n (.l 72039005702709667172727) (.n (.l 72047502853493492113996) (.l 72055209140734475930333)))) (.n (.n (.l 72140154906089384380336) (.l 72147861193330368196673)) (.n (.l 72156358344114193137942) (.n (.l 72164064631355176954279) (.l 72256716683951069220619)))))) (.n (.n (.n (.n (.l 72272920121975877978225) (.l 72280626409216861794562)) (.n (.l 72373784081909267777522) (.l 72381775612596579002171))) (.n (.n (.l 72389481899837562818508) (.l 72482639572529968801468)) (.n (.l 72490345859770952617805) (.n (.l 72498843010554777559074) (.l 72591495063150669825414))))) (.n (.n (.n (.l 72599201350391653641751) (.l 72615404788416462399357)) (.n (.l 72700350553771370849360) (.n (.l 72708056841012354665697) (.l 72724260279037163423303)))) (.n (.n (.l 72731966566278147239640) (.l 72816912331633055689643)) (.n (.l 72840822056898848263586) (.n (.l 72910070004325461672603) (.l 73018925494946162696549)))))))) (.n (.n (.n (.n (.n (.n (.l 73026631782187146512886) (.l 73042835220211955270492)) (.n (.l 73050541507452939086829) (.l 73127780985566863720495))) (.n (.n (.l 73135487272807847536832) (.l 73143193560048831353169)) (.n (.l 73151690710832656294438) (.n (.l 73159396998073640110775) (.l 73244342763428548560778))))) (.n (.n (.n (.l 73252049050669532377115) (.l 73260546201453357318384)) (.n (.l 73268252488694341134721) (.l 73361410161386747117681))) (.n (.n (.l 73377107979315042158667) (.l 73384814266556025975004)) (.n (.l 73477971939248431957964) (.n (.l 73485678226489415774301) (.l 73493669757176726998950)))))) (.n (.n (.n (.n (.l 73586827429869132981910) (.l 73594533717110116798247)) (.n (.l 73695682920489834005856) (.l 73703389207730817822193))) (.n (.n (.l 73719592645755626579799) (.l 73727298932996610396136)) (.n (.l 73804538411110535029802) (.n (.l 73812244698351518846139) (.l 73828448136376327603745))))) (.n (.n (.n (.l 73836154423617311420082) (.l 73921100188972219870085)) (.n (.l 73945009914238012444028) (.n (.l 74014257861664625853045) (.l 74038167586930418426988)))) (.n (.n (.l 74123113352285326876991) (.l 74130819639526310693328)) (.n (.l 74147023077551119450934) (.n (.l 74154729364792103267271) (.l 74239675130147011717274))))))) (.n (.n (.n (.n (.n (.l 74247381417387995533611) (.l 74255878568171820474880)) (.n (.l 74263584855412804291217) (.l 74279788293437613048823))) (.n (.n (.l 74356236908008696557557) (.l 74364734058792521498826)) (.n (.l 74372440346033505315163) (.n (.l 74465598018725911298123) (.l 74473304305966895114460))))) (.n (.n (.n (.l 74481295836654206339109) (.l 74489002123895190155446)) (.n (.l 74582159796587596138406) (.n (.l 74589866083828579954743) (.l 74597857614515891179392)))) (.n (.n (.l 74691015287208297162352) (.l 74698721574449280978689)) (.n (.l 74714925012474089736295) (.n (.l 74799870777828998186298) (.l 74807577065069982002635)))))) (.n (.n (.n (.n (.l 74823780503094790760241) (.l 74831486790335774576578)) (.n (.l 74908726268449699210244) (.l 74916432555690683026581))) (.n (.n (.l 74932635993715491784187) (.l 74940342280956475600524)) (.n (.l 75041491484336192808133) (.n (.l 75049197771577176624470) (.l 75142355444269582607430))))) (.n (.n (.n (.l 75150061731510566423767) (.l 75158053262197877648416)) (.n (.l 75227301209624491057433) (.n (.l 75251210934890283631376) (.l 75258917222131267447713)))) (.n (.n (.l 75343862987486175897716) (.l 75360066425510984655322)) (.n (.l 75367772712751968471659) (.n (.l 75383976150776777229265) (.l 75391682438017761045602)))))))))
def tb15 : Tr := (.n (.n (.n (.n (.n (.n (.n (.l 75468921916131685679268) (.l 75476628203372669495605)) (.n (.l 75500537928638462069548) (.l 75569785876065075478565))) (.n (.n (.l 75585483693993370519551) (.l 75593189981234354335888)) (.n (.l 75686347653926760318848) (.n (.l 75702551091951569076454) (.l 75795203144547461342794))))) (.n (.n (.n (.l 75802909431788445159131) (.l 75819112869813253916737)) (.n (.l 75826819157054237733074) (.l 75904058635168162366740))) (.n (.n (.l 75911764922409146183077) (.l 75927968360433954940683)) (.n (.l 75935674647674938757020) (.n (.l 76020620413029847207023) (.l 76036823851054655964629)))))) (.n (.n (.n (.n (.l 76044530138295639780966) (.l 76137687810988045763926)) (.n (.l 76145679341675356988575) (.l 76153385628916340804912))) (.n (.n (.l 76246543301608746787872) (.l 76254249588849730604209)) (.n (.l 76262241119537041828858) (.n (.l 76331489066963655237875) (.l 76355398792229447811818))))) (.n (.n (.n (.l 76363105079470431628155) (.l 76379308517495240385761)) (.n (.l 76464254282850148835764) (.n (.l 76471960570091132652101) (.l 76488164008115941409707)))) (.n (.n (.l 76495870295356925226044) (.l 76573109773470849859710)) (.n (.l 76580816060711833676047) (.n (.l 76604725785977626249990) (.l 76697377838573518516330))))))) (.n (.n (.n (.n (.n (.l 76790535511265924499290) (.l 76806738949290733256896)) (.n (.l 76814445236531717073233) (.l 76899391001886625523236))) (.n (.n (.l 76907097289127609339573) (.l 76923300727152418097179)) (.n (.l 76931007014393401913516) (.n (.l 77008246492507326547182) (.l 77015952779748310363519))))) (.n (.n (.n (.l 77032156217773119121125) (.l 77039862505014102937462)) (.n (.l 77141011708393820145071) (.n (.l 77148717995634803961408) (.l 77241875668327209944368)))) (.n (.n (.l 77249581955568193760705) (.l 77249867199014521169017)) (.n (.l 77257573486255504985354) (.n (.l 77350731158947910968314) (.l 77358437446188894784651)))))) (.n (.n (.n (.n (.l 77459586649568611992260) (.l 77467292936809595808597)) (.n (.l 77483496374834404566203) (.l 77491202662075388382540))) (.n (.n (.l 77568442140189313016206) (.l 77576148427430296832543)) (.n (.l 77592351865455105590149) (.n (.l 77600058152696089406486) (.l 77685003918050997856489))))) (.n (.n (.n (.l 77692710205291981672826) (.l 77701207356075806614095)) (.n (.l 77708913643316790430432) (.n (.l 77802071316009196413392) (.l 77817769133937491454378)))) (.n (.n (.l 77910926806629897437338) (.l 77918633093870881253675)) (.n (.l 77934330911799176294661) (.n (.l 78003578859225789703678) (.l 78011285146466773520015)))))))) (.n (.n (.n (.n (.n (.n (.l 78027488584491582277621) (.l 78035194871732566093958)) (.n (.l 78043692022516391035227) (.l 78120140637087474543961))) (.n (.n (.l 78136344075112283301567) (.l 78144050362353267117904)) (.n (.l 78160253800378075875510) (.n (.l 78167960087619059691847) (.l 78245199565732984325513))))) (.n (.n (.n (.l 78252905852973968141850) (.l 78276815578239760715793)) (.n (.l 78346063525666374124810) (.l 78361761343594669165796))) (.n (.n (.l 78454919016287075148756) (.l 78462625303528058965093)) (.n (.l 78478828741552867722699) (.n (.l 78563774506907776172702) (.l 78571480794148759989039)))))) (.n (.n (.n (.n (.l 78587684232173568746645) (.l 78595390519414552562982)) (.n (.l 78672629997528477196648) (.l 78680336284769461012985))) (.n (.n (.l 78696539722794269770591) (.l 78704246010035253586928)) (.n (.l 78796898062631145853268) (.n (.l 78805395213414970794537) (.l 78813101500655954610874))))) (.n (.n (.n (.l 78906259173348360593834) (.l 78913965460589344410171)) (.n (.l 78921956991276655634820) (.n (.l 79015114663969061617780) (.l 79022820951210045434117)))) (.n (.n (.l 79038518769138340475103) (.l 79107766716564953884120)) (.n (.l 79131676441830746458063) (.n (.l 79139382729071730274400) (.l 79147879879855555215669))))))) (.n (.n (.n (.n (.n (.l 79155586167096539032006) (.l 79240531932451447482009)) (.n (.l 79248238219692431298346) (.l 79264441657717240055952))) (.n (.n (.l 79272147944958223872289) (.l 79349387423072148505955)) (.n (.l 79357093710313132322292) (.n (.l 79381003435578924896235) (.l 79450251383005538305252))))) (.n (.n (.n (.l 79559106873626239329198) (.l 79566813160867223145535)) (.n (.l 79583016598892031903141) (.n (.l 79667962364246940353144) (.l 79675668651487924169481)))) (.n (.n (.l 79691872089512732927087) (.l 79699578376753716743424)) (.n (.l 79784524142108625193427) (.n (.l 79800727580133433951033) (.l 79808433867374417767370)))))) (.n (.n (.n (.n (.l 79901591540066823750330) (.l 79909583070754134974979)) (.n (.l 79917289357995118791316) (.l 80010447030687524774276))) (.n (.n (.l 80018153317928508590613) (.l 80026144848615819815262)) (.n (.l 80119302521308225798222) (.n (.l 80127008808549209614559) (.l 80134715095790193430896))))) (.n (.n (.n (.l 80143212246574018372165) (.l 80235864299169910638505)) (.n (.l 80243570586410894454842) (.n (.l 80252067737194719396111) (.l 80259774024435703212448)))) (.n (.n (.l 80344719789790611662451) (.l 80352426077031595478788)) (.n (.l 80368629515056404236394) (.n (.l 80376335802297388052731) (.l 80461281567652296502734)))))))))
def tb16 : Tr := (.n (.n (.n (.n (.n (.n (.n (.l 80477485005677105260340) (.l 80485191292918089076677)) (.n (.l 80554439240344702485694) (.l 80578348965610495059637))) (.n (.n (.l 80663294730965403509640) (.l 80671001018206387325977)) (.n (.l 80687204456231196083583) (.n (.l 80694910743472179899920) (.l 80772150221586104533586))))) (.n (.n (.n (.l 80779856508827088349923) (.l 80796059946851897107529)) (.n (.l 80803766234092880923866) (.l 80819969672117689681472))) (.n (.n (.l 80904915437472598131475) (.l 80912621724713581947812)) (.n (.l 80936531449979374521755) (.n (.l 81005779397405987930772) (.l 81013770928093299155421)))))) (.n (.n (.n (.n (.l 81021477215334282971758) (.l 81114634888026688954718)) (.n (.l 81122341175267672771055) (.l 81223490378647389978664))) (.n (.n (.l 81231196665888373795001) (.l 81238902953129357611338)) (.n (.l 81247400103913182552607) (.n (.l 81340052156509074818947) (.l 81347758443750058635284))))) (.n (.n (.n (.l 81356255594533883576553) (.l 81363961881774867392890)) (.n (.l 81448907647129775842893) (.n (.l 81456613934370759659230) (.l 81472817372395568416836)))) (.n (.n (.l 81480523659636552233173) (.l 81565469424991460683176)) (.n (.l 81581672863016269440782) (.n (.l 81589379150257253257119) (.l 81682536822949659240079))))))) (.n (.n (.n (.n (.n (.l 81698234640877954281065) (.l 81767482588304567690082)) (.n (.l 81791392313570360264025) (.l 81799098600811344080362))) (.n (.n (.l 81884044366166252530365) (.l 81900247804191061287971)) (.n (.l 81907954091432045104308) (.n (.l 81924157529456853861914) (.l 82009103294811762311917))))) (.n (.n (.n (.l 82016809582052746128254) (.l 82040719307318538702197)) (.n (.l 82109967254745152111214) (.n (.l 82125665072673447152200) (.l 82218822745365853135160)))) (.n (.n (.l 82226529032606836951497) (.l 82327678235986554159106)) (.n (.l 82335384523227537975443) (.n (.l 82343090810468521791780) (.l 82351587961252346733049)))))) (.n (.n (.n (.n (.l 82359294248493330549386) (.l 82444240013848238999389)) (.n (.l 82451946301089222815726) (.l 82460443451873047756995))) (.n (.n (.l 82468149739114031573332) (.l 82560801791709923839672)) (.n (.l 82577005229734732597278) (.n (.l 82584711516975716413615) (.l 82685860720355433621224))))) (.n (.n (.n (.l 82693567007596417437561) (.l 82786724680288823420521)) (.n (.l 82794430967529807236858) (.n (.l 82802422498217118461507) (.l 82871670445643731870524)))) (.n (.n (.l 82895580170909524444467) (.l 82903286458150508260804)) (.n (.l 82988232223505416710807) (.n (.l 83004435661530225468413) (.l 83012141948771209284750)))))))) (.n (.n (.n (.n (.n (.n (.l 83028345386796018042356) (.l 83036051674037001858693)) (.n (.l 83113291152150926492359) (.l 83120997439391910308696))) (.n (.n (.l 83144907164657702882639) (.l 83214155112084316291656)) (.n (.l 83229852930012611332642) (.n (.l 83323010602705017315602) (.l 83330716889946001131939))))) (.n (.n (.n (.l 83346920327970809889545) (.l 83439572380566702155885)) (.n (.l 83447278667807685972222) (.l 83455775818591510913491))) (.n (.n (.l 83463482105832494729828) (.l 83548427871187403179831)) (.n (.l 83556134158428386996168) (.n (.l 83564631309212211937437) (.l 83572337596453195753774)))))) (.n (.n (.n (.n (.l 83664989649049088020114) (.l 83681193087073896777720)) (.n (.l 83688899374314880594057) (.l 83782057047007286577017))) (.n (.n (.l 83790048577694597801666) (.l 83797754864935581618003)) (.n (.l 83890912537627987600963) (.n (.l 83898618824868971417300) (.l 83906610355556282641949))))) (.n (.n (.n (.l 83999768028248688624909) (.l 84007474315489672441246)) (.n (.l 84023677753514481198852) (.n (.l 84108623518869389648855) (.l 84116329806110373465192)))) (.n (.n (.l 84132533244135182222798) (.l 84140239531376166039135)) (.n (.l 84217479009490090672801) (.n (.l 84225185296731074489138) (.l 84241388734755883246744))))))) (.n (.n (.n (.n (.n (.l 84249095021996867063081) (.l 84357950512617568087027)) (.n (.l 84427198460044181496044) (.l 84451108185309974069987))) (.n (.n (.l 84458814472550957886324) (.l 84543760237905866336327)) (.n (.l 84559963675930675093933) (.n (.l 84567669963171658910270) (.l 84652615728526567360273))))) (.n (.n (.n (.l 84660322015767551176610) (.l 84668819166551376117879)) (.n (.l 84676525453792359934216) (.n (.l 84700435179058152508159) (.l 84785380944413060958162)))) (.n (.n (.l 84793087231654044774499) (.l 84886244904346450757459)) (.n (.l 84894236435033761982108) (.n (.l 84901942722274745798445) (.l 84995100394967151781405)))))) (.n (.n (.n (.n (.l 85002806682208135597742) (.l 85103955885587852805351)) (.n (.l 85111662172828836621688) (.l 85127865610853645379294))) (.n (.n (.l 85135571898094629195631) (.l 85212811376208553829297)) (.n (.l 85220517663449537645634) (.n (.l 85236721101474346403240) (.l 85244427388715330219577))))) (.n (.n (.n (.l 85329373154070238669580) (.l 85345576592095047427186)) (.n (.l 85353282879336031243523) (.n (.l 85446440552028437226483) (.l 85462138369956732267469)))) (.n (.n (.l 85531386317383345676486) (.l 85555296042649138250429)) (.n (.l 85563002329890122066766) (.n (.l 85647948095245030516769) (.l 85664151533269839274375)))))))))
def tb17 : Tr := (.n (.n (.n (.n (.n (.n (.n (.l 85671857820510823090712) (.l 85688061258535631848318)) (.n (.l 85764509873106715357052) (.l 85773007023890540298321))) (.n (.n (.l 85780713311131524114658) (.l 85788419598372507930995)) (.n (.l 85804623036397316688601) (.n (.l 85889568801752225138604) (.l 85897275088993208954941))))) (.n (.n (.n (.l 85990432761685614937901) (.l 86006130579613909978887)) (.n (.l 86099288252306315961847) (.l 86106994539547299778184))) (.n (.n (.l 86123197977572108535790) (.l 86208143742927016985793)) (.n (.l 86215850030168000802130) (.n (.l 86232053468192809559736) (.l 86239759755433793376073)))))) (.n (.n (.n (.n (.l 86316999233547718009739) (.l 86324705520788701826076)) (.n (.l 86340908958813510583682) (.l 86348615246054494400019))) (.n (.n (.l 86449764449434211607628) (.l 86457470736675195423965)) (.n (.l 86550628409367601406925) (.n (.l 86558334696608585223262) (.l 86558619940054912631574))))) (.n (.n (.n (.l 86566326227295896447911) (.l 86635574174722509856928)) (.n (.l 86659483899988302430871) (.n (.l 86667190187229286247208) (.l 86752135952584194697211)))) (.n (.n (.l 86768339390609003454817) (.l 86776045677849987271154)) (.n (.l 86792249115874796028760) (.n (.l 86799955403115779845097) (.l 86877194881229704478763))))))) (.n (.n (.n (.n (.n (.l 86884901168470688295100) (.l 86892607455711672111437)) (.n (.l 86901104606495497052706) (.l 86908810893736480869043))) (.n (.n (.l 86993756659091389319046) (.l 87001462946332373135383)) (.n (.l 87017666384357181892989) (.n (.l 87094620619024779118343) (.l 87110824057049587875949))))) (.n (.n (.n (.l 87134228162218866733272) (.l 87203476109645480142289)) (.n (.l 87211182396886463958626) (.n (.l 87227385834911272716232) (.l 87235092122152256532569)))) (.n (.n (.l 87312331600266181166235) (.l 87320037887507164982572)) (.n (.l 87336241325531973740178) (.n (.l 87343947612772957556515) (.l 87428893378127866006518)))))) (.n (.n (.n (.n (.l 87445096816152674764124) (.l 87452803103393658580461)) (.n (.l 87476712828659451154404) (.l 87545960776086064563421))) (.n (.n (.l 87553952306773375788070) (.l 87561658594014359604407)) (.n (.l 87654816266706765587367) (.n (.l 87662522553947749403704) (.l 87670514084635060628353))))) (.n (.n (.n (.l 87763671757327466611313) (.l 87771378044568450427650)) (.n (.l 87787581482593259185256) (.n (.l 87872527247948167635259) (.l 87880233535189151451596)))) (.n (.n (.l 87896436973213960209202) (.l 87904143260454944025539)) (.n (.l 87981382738568868659205) (.n (.l 87989089025809852475542) (.l 87996795313050836291879)))))))) (.n (.n (.n (.n (.n (.n (.l 88005292463834661233148) (.l 88012998751075645049485)) (.n (.l 88105650803671537315825) (.l 88121854241696346073431))) (.n (.n (.l 88215011914388752056391) (.l 88222718201629735872728)) (.n (.l 88238416019558030913714) (.n (.l 88307663966984644322731) (.l 88331573692250436896674))))) (.n (.n (.n (.l 88339279979491420713011) (.l 88416519457605345346677)) (.n (.l 88424225744846329163014) (.l 88440429182871137920620))) (.n (.n (.l 88448135470112121736957) (.l 88464338908136930494563)) (.n (.l 88549284673491838944566) (.n (.l 88556990960732822760903) (.l 88580900685998615334846)))))) (.n (.n (.n (.n (.l 88650148633425228743863) (.l 88658140164112539968512)) (.n (.l 88665846451353523784849) (.l 88759004124045929767809))) (.n (.n (.l 88766710411286913584146) (.l 88867859614666630791755)) (.n (.l 88875565901907614608092) (.n (.l 88891769339932423365698) (.l 88899475627173407182035))))) (.n (.n (.n (.l 88976715105287331815701) (.l 88984421392528315632038)) (.n (.l 89000624830553124389644) (.n (.l 89008331117794108205981) (.l 89093276883149016655984)))) (.n (.n (.l 89100983170390000472321) (.l 89109480321173825413590)) (.n (.l 89117186608414809229927) (.n (.l 89210344281107215212887) (.l 89226042099035510253873))))))) (.n (.n (.n (.n (.n (.l 89319199771727916236833) (.l 89326906058968900053170)) (.n (.l 89342603876897195094156) (.l 89411851824323808503173))) (.n (.n (.l 89435761549589601077116) (.l 89443467836830584893453)) (.n (.l 89451964987614409834722) (.n (.l 89528413602185493343456) (.l 89544617040210302101062))))) (.n (.n (.n (.l 89552323327451285917399) (.l 89568526765476094675005)) (.n (.l 89653472530831003125008) (.n (.l 89661178818071986941345) (.l 89685088543337779515288)))) (.n (.n (.l 89754336490764392924305) (.l 89770034308692687965291)) (.n (.l 89863191981385093948251) (.n (.l 89870898268626077764588) (.l 89887101706650886522194)))))) (.n (.n (.n (.n (.l 89972047472005794972197) (.l 89979753759246778788534)) (.n (.l 89995957197271587546140) (.l 90003663484512571362477))) (.n (.n (.l 90080902962626495996143) (.l 90088609249867479812480)) (.n (.l 90104812687892288570086) (.n (.l 90112518975133272386423) (.l 90205171027729164652763))))) (.n (.n (.n (.l 90213668178512989594032) (.l 90221374465753973410369)) (.n (.l 90314532138446379393329) (.n (.l 90322523669133690617978) (.l 90330229956374674434315)))) (.n (.n (.l 90431093916308064233612) (.l 90438800203549048049949)) (.n (.l 90446791734236359274598) (.n (.l 90539949406928765257558) (.l 90547655694169749073895)))))))))
def tb18 : Tr := (.n (.n (.n (.n (.n (.n (.n (.l 90556152844953574015164) (.l 90648804897549466281504)) (.n (.l 90656511184790450097841) (.l 90672714622815258855447))) (.n (.n (.l 90680420910056242671784) (.l 90757660388170167305450)) (.n (.l 90765366675411151121787) (.n (.l 90781570113435959879393) (.l 90789276400676943695730))))) (.n (.n (.n (.l 90898131891297644719676) (.l 90967379838724258128693)) (.n (.l 90991289563990050702636) (.l 91076235329344959152639))) (.n (.n (.l 91083941616585942968976) (.l 91100145054610751726582)) (.n (.l 91107851341851735542919) (.n (.l 91192797107206643992922) (.l 91209000545231452750528)))))) (.n (.n (.n (.n (.l 91216706832472436566865) (.l 91309358885068328833205)) (.n (.l 91317856035852153774474) (.l 91325562323093137590811))) (.n (.n (.l 91418719995785543573771) (.l 91426426283026527390108)) (.n (.l 91434417813713838614757) (.n (.l 91442124100954822431094) (.l 91535281773647228414054))))) (.n (.n (.n (.l 91542988060888212230391) (.l 91550979591575523455040)) (.n (.l 91551485211672037171660) (.n (.l 91644137264267929438000) (.l 91651843551508913254337)))) (.n (.n (.l 91660340702292738195606) (.l 91668046989533722011943)) (.n (.l 91752992754888630461946) (.n (.l 91760699042129614278283) (.l 91776902480154423035889))))))) (.n (.n (.n (.n (.n (.l 91784608767395406852226) (.l 91869554532750315302229)) (.n (.l 91885757970775124059835) (.l 91893464258016107876172))) (.n (.n (.l 92002319748636808900118) (.l 92071567696063422309135)) (.n (.l 92095477421329214883078) (.n (.l 92103183708570198699415) (.l 92180423186684123333081))))) (.n (.n (.n (.l 92188129473925107149418) (.l 92204332911949915907024)) (.n (.l 92212039199190899723361) (.n (.l 92296984964545808173364) (.l 92313188402570616930970)))) (.n (.n (.l 92320894689811600747307) (.l 92344804415077393321250)) (.n (.l 92414052362504006730267) (.n (.l 92422043893191317954916) (.l 92429750180432301771253)))))) (.n (.n (.n (.n (.l 92522907853124707754213) (.l 92530614140365691570550)) (.n (.l 92546311958293986611536) (.l 92639469630986392594496))) (.n (.n (.l 92647175918227376410833) (.l 92655673069011201352102)) (.n (.l 92748325121607093618442) (.n (.l 92756031408848077434779) (.l 92764528559631902376048))))) (.n (.n (.n (.l 92772234846872886192385) (.l 92779941134113870008722)) (.n (.l 92857180612227794642388) (.n (.l 92864886899468778458725) (.l 92881090337493587216331)))) (.n (.n (.l 92888796624734571032668) (.l 92973742390089479482671)) (.n (.l 92989945828114288240277) (.n (.l 92997652115355272056614) (.l 93090809788047678039574)))))))) (.n (.n (.n (.n (.n (.n (.l 93098801318734989264223) (.l 93106507605975973080560)) (.n (.l 93199665278668379063520) (.l 93207371565909362879857))) (.n (.n (.l 93215363096596674104506) (.l 93284611044023287513523)) (.n (.l 93292317331264271329860) (.n (.l 93308520769289080087466) (.l 93316227056530063903803))))) (.n (.n (.n (.l 93332430494554872661409) (.l 93417376259909781111412)) (.n (.l 93425082547150764927749) (.l 93441285985175573685355))) (.n (.n (.l 93448992272416557501692) (.l 93533938037771465951695)) (.n (.l 93557847763037258525638) (.n (.l 93627095710463871934655) (.l 93650499815633150791978)))))) (.n (.n (.n (.n (.l 93743657488325556774938) (.l 93759860926350365532544)) (.n (.l 93767567213591349348881) (.l 93852512978946257798884))) (.n (.n (.l 93860219266187241615221) (.l 93868716416971066556490)) (.n (.l 93876422704212050372827) (.n (.l 93884128991453034189164) (.l 93961368469566958822830))))) (.n (.n (.n (.l 93969074756807942639167) (.l 93985278194832751396773)) (.n (.l 93992984482073735213110) (.n (.l 94094133685453452420719) (.l 94101839972694436237056)))) (.n (.n (.l 94194997645386842220016) (.l 94202703932627826036353)) (.n (.l 94202989176074153444665) (.n (.l 94210695463315137261002) (.l 94303853136007543243962))))))) (.n (.n (.n (.n (.n (.l 94311559423248527060299) (.l 94412708626628244267908)) (.n (.l 94420414913869228084245) (.l 94436618351894036841851))) (.n (.n (.l 94444324639135020658188) (.l 94521564117248945291854)) (.n (.l 94529270404489929108191) (.n (.l 94545473842514737865797) (.l 94553180129755721682134))))) (.n (.n (.n (.l 94638125895110630132137) (.l 94662035620376422706080)) (.n (.l 94731283567803036115097) (.n (.l 94755193293068828689040) (.l 94847845345664720955380)))) (.n (.n (.l 94864048783689529712986) (.l 94871755070930513529323)) (.n (.l 94956700836285421979326) (.n (.l 94964407123526405795663) (.l 94972904274310230736932)))))) (.n (.n (.n (.n (.l 94980610561551214553269) (.l 94988316848792198369606)) (.n (.l 95073262614147106819609) (.l 95089466052171915577215))) (.n (.n (.l 95097172339412899393552) (.l 95190330012105305376512)) (.n (.l 95198321542792616601161) (.n (.l 95206027830033600417498) (.l 95299185502726006400458))))) (.n (.n (.n (.l 95306891789966990216795) (.l 95314883320654301441444)) (.n (.l 95408040993346707424404) (.n (.l 95415747280587691240741) (.l 95431950718612499998347)))) (.n (.n (.l 95516896483967408448350) (.l 95524602771208392264687)) (.n (.l 95540806209233201022293) (.n (.l 95548512496474184838630) (.l 95625751974588109472296)))))))))
def tb19 : Tr := (.n (.n (.n (.n (.n (.n (.n (.l 95633458261829093288633) (.l 95649661699853902046239)) (.n (.l 95657367987094885862576) (.l 95758517190474603070185))) (.n (.n (.l 95766223477715586886522) (.l 95835471425142200295539)) (.n (.l 95859381150407992869482) (.n (.l 95867087437648976685819) (.l 95952033203003885135822))))) (.n (.n (.n (.l 95968236641028693893428) (.l 95975942928269677709765)) (.n (.l 96060888693624586159768) (.l 96068594980865569976105))) (.n (.n (.l 96084798418890378733711) (.l 96092504706131362550048)) (.n (.l 96101001856915187491317) (.n (.l 96108708144156171307654) (.l 96193653909511079757657)))))) (.n (.n (.n (.n (.l 96201360196752063573994) (.l 96217563634776872331600)) (.n (.l 96294517869444469556954) (.l 96302509400131780781603))) (.n (.n (.l 96310215687372764597940) (.l 96334125412638557171883)) (.n (.l 96403373360065170580900) (.n (.l 96411079647306154397237) (.l 96512228850685871604846))))) (.n (.n (.n (.l 96519935137926855421183) (.l 96536138575951664178789)) (.n (.l 96543844863192647995126) (.n (.l 96621084341306572628792) (.l 96628790628547556445129)))) (.n (.n (.l 96644994066572365202735) (.l 96652700353813349019072)) (.n (.l 96737646119168257469075) (.n (.l 96753849557193066226681) (.l 96761555844434050043018))))))) (.n (.n (.n (.n (.n (.l 96854713517126456025978) (.l 96862705047813767250627)) (.n (.l 96870411335054751066964) (.l 96963569007747157049924))) (.n (.n (.l 96971275294988140866261) (.l 96979266825675452090910)) (.n (.l 97072424498367858073870) (.n (.l 97080130785608841890207) (.l 97096334223633650647813))))) (.n (.n (.n (.l 97188986276229542914153) (.l 97196692563470526730490)) (.n (.l 97205189714254351671759) (.n (.l 97212896001495335488096) (.l 97297841766850243938099)))) (.n (.n (.l 97305548054091227754436) (.l 97321751492116036512042)) (.n (.l 97414403544711928778382) (.n (.l 97438313269977721352325) (.l 97507561217404334761342)))))) (.n (.n (.n (.n (.l 97531470942670127335285) (.l 97616416708025035785288)) (.n (.l 97624122995266019601625) (.l 97640326433290828359231))) (.n (.n (.l 97648032720531812175568) (.l 97725272198645736809234)) (.n (.l 97732978485886720625571) (.n (.l 97749181923911529383177) (.l 97756888211152513199514))))) (.n (.n (.n (.l 97858037414532230407123) (.l 97865743701773214223460)) (.n (.l 97958901374465620206420) (.n (.l 97966892905152931431069) (.l 97974599192393915247406)))) (.n (.n (.l 98067756865086321230366) (.l 98075463152327305046703)) (.n (.l 98176612355707022254312) (.n (.l 98184318642948006070649) (.l 98200522080972814828255)))))))) (.n (.n (.n (.n (.n (.n (.l 98208228368213798644592) (.l 98293174133568707094595)) (.n (.l 98300880420809690910932) (.l 98309377571593515852201))) (.n (.n (.l 98317083858834499668538) (.l 98402029624189408118541)) (.n (.l 98409735911430391934878) (.n (.l 98425939349455200692484) (.l 98542501127316885532767))))) (.n (.n (.n (.l 98611749074743498941784) (.l 98635658800009291515727)) (.n (.l 98720604565364199965730) (.l 98728310852605183782067))) (.n (.n (.l 98744514290629992539673) (.l 98752220577870976356010)) (.n (.l 98837166343225884806013) (.n (.l 98853369781250693563619) (.l 98861076068491677379956)))))) (.n (.n (.n (.n (.l 98884985793757469953899) (.l 98954233741184083362916)) (.n (.l 98962225271871394587565) (.l 98969931559112378403902))) (.n (.n (.l 99063089231804784386862) (.l 99070795519045768203199)) (.n (.l 99078787049733079427848) (.n (.l 99171944722425485410808) (.l 99179651009666469227145))))) (.n (.n (.n (.l 99195854447691277984751) (.l 99280800213046186434754)) (.n (.l 99288506500287170251091) (.n (.l 99304709938311979008697) (.l 99312416225552962825034)))) (.n (.n (.l 99397361990907871275037) (.l 99405068278148855091374)) (.n (.l 99413565428932680032643) (.n (.l 99421271716173663848980) (.l 99513923768769556115320))))))) (.n (.n (.n (.n (.n (.l 99522420919553381056589) (.l 99530127206794364872926)) (.n (.l 99537833494035348689263) (.l 99638982697415065896872))) (.n (.n (.l 99646688984656049713209) (.l 99739846657348455696169)) (.n (.l 99747552944589439512506) (.n (.l 99755544475276750737155) (.l 99824792422703364146172))))) (.n (.n (.n (.l 99848702147969156720115) (.l 99856408435210140536452)) (.n (.l 99872611873234949294058) (.n (.l 99957557638589857744061) (.l 99965263925830841560398)))) (.n (.n (.l 99981467363855650318004) (.l 99989173651096634134341)) (.n (.l 100066413129210558768007) (.n (.l 100074119416451542584344) (.l 100098029141717335158287)))))) (.n (.n (.n (.n (.l 100167277089143948567304) (.l 100276132579764649591250)) (.n (.l 100283838867005633407587) (.l 100300042305030442165193))) (.n (.n (.l 100384988070385350615196) (.l 100392694357626334431533)) (.n (.l 100408897795651143189139) (.n (.l 100416604082892127005476) (.l 100501549848247035455479))))) (.n (.n (.n (.l 100509256135488019271816) (.l 100517753286271844213085)) (.n (.l 100525459573512828029422) (.n (.l 100618111626108720295762) (.l 100626608776892545237031)))) (.n (.n (.l 100634315064133529053368) (.l 100642021351374512869705)) (.n (.l 100735179024066918852665) (.n (.l 100743170554754230077314) (.l 100750876841995213893651)))))))))
def tb20 : Tr := (.n (.n (.n (.n (.n (.n (.n (.l 100844034514687619876611) (.l 100851740801928603692948)) (.n (.l 100860237952712428634217) (.l 100952890005308320900557))) (.n (.n (.l 100960596292549304716894) (.l 100976799730574113474500)) (.n (.l 101061745495929021924503) (.n (.l 101069451783170005740840) (.l 101085655221194814498446))))) (.n (.n (.n (.l 101093361508435798314783) (.l 101178307273790706764786)) (.n (.l 101202216999056499338729) (.l 101271464946483112747746))) (.n (.n (.l 101380320437103813771692) (.l 101388026724344797588029)) (.n (.l 101404230162369606345635) (.n (.l 101411936449610590161972) (.l 101489175927724514795638)))))) (.n (.n (.n (.n (.l 101496882214965498611975) (.l 101513085652990307369581)) (.n (.l 101520791940231291185918) (.l 101605737705586199635921))) (.n (.n (.l 101613443992827183452258) (.l 101621941143611008393527)) (.n (.l 101629647430851992209864) (.n (.l 101722805103544398192824) (.l 101730796634231709417473))))) (.n (.n (.n (.l 101738502921472693233810) (.l 101746209208713677050147)) (.n (.l 101839366881406083033107) (.n (.l 101847073168647066849444) (.l 101855064699334378074093)))) (.n (.n (.l 101948222372026784057053) (.l 101955928659267767873390)) (.n (.l 101964425810051592814659) (.n (.l 102057077862647485080999) (.l 102064784149888468897336))))))) (.n (.n (.n (.n (.n (.l 102080987587913277654942) (.l 102088693875154261471279)) (.n (.l 102165933353268186104945) (.l 102173639640509169921282))) (.n (.n (.l 102189843078533978678888) (.l 102197549365774962495225)) (.n (.l 102282495131129870945228) (.n (.l 102298698569154679702834) (.l 102306404856395663519171))))) (.n (.n (.n (.l 102399562529088069502131) (.l 102415260347016364543117)) (.n (.l 102484508294442977952134) (.n (.l 102492214581683961768471) (.l 102508418019708770526077)))) (.n (.n (.l 102516124306949754342414) (.l 102593363785063678976080)) (.n (.l 102601070072304662792417) (.n (.l 102608776359545646608754) (.l 102617273510329471550023)))))) (.n (.n (.n (.n (.l 102624979797570455366360) (.l 102641183235595264123966)) (.n (.l 102717631850166347632700) (.l 102726129000950172573969))) (.n (.n (.l 102733835288191156390306) (.l 102757745013456948964249)) (.n (.l 102826992960883562373266) (.n (.l 102842690778811857414252) (.l 102850397066052841230589))))) (.n (.n (.n (.l 102943554738745247213549) (.l 102951261025986231029886)) (.n (.l 102959252556673542254535) (.n (.l 103052410229365948237495) (.l 103060116516606932053832)))) (.n (.n (.l 103068613667390756995101) (.l 103076319954631740811438)) (.n (.l 103161265719986649261441) (.n (.l 103168972007227633077778) (.l 103185175445252441835384)))))))) (.n (.n (.n (.n (.n (.n (.l 103192881732493425651721) (.l 103270121210607350285387)) (.n (.l 103277827497848334101724) (.l 103294030935873142859330))) (.n (.n (.l 103301737223114126675667) (.l 103402886426493843883276)) (.n (.l 103410592713734827699613) (.n (.l 103503750386427233682573) (.l 103511456673668217498910))))) (.n (.n (.n (.l 103519448204355528723559) (.l 103588696151782142132576)) (.n (.l 103612605877047934706519) (.l 103620312164288918522856))) (.n (.n (.l 103705257929643826972859) (.l 103721461367668635730465)) (.n (.l 103729167654909619546802) (.n (.l 103745371092934428304408) (.l 103753077380175412120745)))))) (.n (.n (.n (.n (.l 103830316858289336754411) (.l 103838023145530320570748)) (.n (.l 103861932870796113144691) (.l 103931180818222726553708))) (.n (.n (.l 103946878636151021594694) (.l 103954584923392005411031)) (.n (.l 104047742596084411393991) (.n (.l 104063946034109220151597) (.l 104156598086705112417937))))) (.n (.n (.n (.l 104164304373946096234274) (.l 104180507811970904991880)) (.n (.l 104188214099211888808217) (.n (.l 104265453577325813441883) (.l 104273159864566797258220)))) (.n (.n (.l 104289363302591606015826) (.l 104297069589832589832163)) (.n (.l 104382015355187498282166) (.n (.l 104398218793212307039772) (.l 104405925080453290856109))))))) (.n (.n (.n (.n (.n (.l 104499082753145696839069) (.l 104507074283833008063718)) (.n (.l 104514780571073991880055) (.l 104607938243766397863015))) (.n (.n (.l 104615644531007381679352) (.l 104623636061694692904001)) (.n (.l 104692884009121306313018) (.n (.l 104716793734387098886961) (.l 104724500021628082703298))))) (.n (.n (.n (.l 104740703459652891460904) (.l 104825649225007799910907)) (.n (.l 104833355512248783727244) (.n (.l 104849558950273592484850) (.l 104857265237514576301187)))) (.n (.n (.l 104934504715628500934853) (.l 104942211002869484751190)) (.n (.l 104958414440894293508796) (.n (.l 104966120728135277325133) (.l 105035368675561890734150)))))) (.n (.n (.n (.n (.l 105058772780731169591473) (.l 105151930453423575574433)) (.n (.l 105168133891448384332039) (.l 105175840178689368148376))) (.n (.n (.l 105260785944044276598379) (.l 105268492231285260414716)) (.n (.l 105284695669310069172322) (.n (.l 105292401956551052988659) (.l 105369641434664977622325))))) (.n (.n (.n (.l 105377347721905961438662) (.l 105393551159930770196268)) (.n (.l 105401257447171754012605) (.n (.l 105417460885196562770211) (.l 105502406650551471220214)))) (.n (.n (.l 105510112937792455036551) (.l 105603270610484861019511)) (.n (.l 105610976897725844835848) (.n (.l 105611262141172172244160) (.l 105618968428413156060497)))))))))
def tb21 : Tr := (.n (.n (.n (.n (.n (.n (.n (.l 105712126101105562043457) (.l 105719832388346545859794)) (.n (.l 105820981591726263067403) (.l 105828687878967246883740))) (.n (.n (.l 105844891316992055641346) (.l 105852597604233039457683)) (.n (.l 105929837082346964091349) (.n (.l 105937543369587947907686) (.l 105953746807612756665292))))) (.n (.n (.n (.l 105961453094853740481629) (.l 106046398860208648931632)) (.n (.l 106062602298233457689238) (.l 106070308585474441505575))) (.n (.n (.l 106163466258166847488535) (.l 106179164076095142529521)) (.n (.l 106272321748787548512481) (.n (.l 106280028036028532328818) (.l 106295725853956827369804)))))) (.n (.n (.n (.n (.l 106364973801383440778821) (.l 106388883526649233352764)) (.n (.l 106396589813890217169101) (.l 106405086964674042110370))) (.n (.n (.l 106481535579245125619104) (.l 106497739017269934376710)) (.n (.l 106505445304510918193047) (.n (.l 106521648742535726950653) (.l 106529355029776710766990))))) (.n (.n (.n (.l 106606594507890635400656) (.l 106614300795131619216993)) (.n (.l 106638210520397411790936) (.n (.l 106707458467824025199953) (.l 106723156285752320240939)))) (.n (.n (.l 106816313958444726223899) (.l 106824020245685710040236)) (.n (.l 106840223683710518797842) (.n (.l 106925169449065427247845) (.l 106932875736306411064182))))))) (.n (.n (.n (.n (.n (.l 106949079174331219821788) (.l 106956785461572203638125)) (.n (.l 107034024939686128271791) (.l 107041731226927112088128))) (.n (.n (.l 107057934664951920845734) (.l 107065640952192904662071)) (.n (.l 107166790155572621869680) (.n (.l 107174496442813605686017) (.l 107267654115506011668977))))) (.n (.n (.n (.l 107275360402746995485314) (.l 107283351933434306709963)) (.n (.l 107376509606126712692923) (.n (.l 107384215893367696509260) (.l 107399913711295991550246)))) (.n (.n (.l 107469161658722604959263) (.l 107493071383988397533206)) (.n (.l 107500777671229381349543) (.n (.l 107509274822013206290812) (.l 107516981109254190107149)))))) (.n (.n (.n (.n (.l 107601926874609098557152) (.l 107609633161850082373489)) (.n (.l 107625836599874891131095) (.l 107633542887115874947432))) (.n (.n (.l 107710782365229799581098) (.l 107718488652470783397435)) (.n (.l 107742398377736575971378) (.n (.l 107811646325163189380395) (.l 107920501815783890404341))))) (.n (.n (.n (.l 107928208103024874220678) (.l 107944411541049682978284)) (.n (.l 108029357306404591428287) (.n (.l 108037063593645575244624) (.l 108053267031670384002230)))) (.n (.n (.l 108060973318911367818567) (.l 108145919084266276268570)) (.n (.l 108162122522291085026176) (.n (.l 108169828809532068842513) (.l 108262986482224474825473)))))))) (.n (.n (.n (.n (.n (.n (.l 108270978012911786050122) (.l 108278684300152769866459)) (.n (.l 108371841972845175849419) (.l 108379548260086159665756))) (.n (.n (.l 108387539790773470890405) (.l 108480697463465876873365)) (.n (.l 108488403750706860689702) (.n (.l 108504607188731669447308) (.l 108597259241327561713648))))) (.n (.n (.n (.l 108604965528568545529985) (.l 108613462679352370471254)) (.n (.l 108621168966593354287591) (.l 108706114731948262737594))) (.n (.n (.l 108713821019189246553931) (.l 108722318169973071495200)) (.n (.l 108730024457214055311537) (.n (.l 108737730744455039127874) (.l 108822676509809947577877)))))) (.n (.n (.n (.n (.l 108838879947834756335483) (.l 108846586235075740151820)) (.n (.l 108955441725696441175766) (.l 109024689673123054584783))) (.n (.n (.l 109048599398388847158726) (.l 109056305685629830975063)) (.n (.l 109133545163743755608729) (.n (.l 109141251450984739425066) (.l 109157454889009548182672))))) (.n (.n (.n (.l 109165161176250531999009) (.l 109181364614275340756615)) (.n (.l 109266310379630249206618) (.n (.l 109274016666871233022955) (.l 109297926392137025596898)))) (.n (.n (.l 109367174339563639005915) (.l 109375165870250950230564)) (.n (.l 109382872157491934046901) (.n (.l 109476029830184340029861) (.l 109483736117425323846198))))))) (.n (.n (.n (.n (.n (.l 109584885320805041053807) (.l 109592591608046024870144)) (.n (.l 109600297895287008686481) (.l 109608795046070833627750))) (.n (.n (.l 109701447098666725894090) (.l 109709153385907709710427)) (.n (.l 109717650536691534651696) (.n (.l 109725356823932518468033) (.l 109810302589287426918036))))) (.n (.n (.n (.l 109818008876528410734373) (.l 109834212314553219491979)) (.n (.l 109841918601794203308316) (.n (.l 109926864367149111758319) (.l 109943067805173920515925)))) (.n (.n (.l 109950774092414904332262) (.l 110043931765107310315222)) (.n (.l 110059629583035605356208) (.n (.l 110128877530462218765225) (.l 110152787255728011339168)))))) (.n (.n (.n (.n (.l 110160493542968995155505) (.l 110245439308323903605508)) (.n (.l 110261642746348712363114) (.l 110269349033589696179451))) (.n (.n (.l 110285552471614504937057) (.l 110370498236969413387060)) (.n (.l 110378204524210397203397) (.n (.l 110402114249476189777340) (.l 110471362196902803186357))))) (.n (.n (.n (.l 110487060014831098227343) (.l 110580217687523504210303)) (.n (.l 110587923974764488026640) (.n (.l 110689073178144205234249) (.l 110696779465385189050586)))) (.n (.n (.l 110704485752626172866923) (.l 110712982903409997808192)) (.n (.l 110720689190650981624529) (.n (.l 110805634956005890074532) (.l 110813341243246873890869)))))))))
def tb22 : Tr := (.n (.n (.n (.n (.n (.n (.n (.l 110821838394030698832138) (.l 110829544681271682648475)) (.n (.l 110922196733867574914815) (.l 110938400171892383672421))) (.n (.n (.l 110946106459133367488758) (.l 111047255662513084696367)) (.n (.l 111054961949754068512704) (.n (.l 111148119622446474495664) (.l 111155825909687458312001))))) (.n (.n (.n (.l 111163817440374769536650) (.l 111233065387801382945667)) (.n (.l 111256975113067175519610) (.l 111264681400308159335947))) (.n (.n (.l 111349627165663067785950) (.l 111365830603687876543556)) (.n (.l 111373536890928860359893) (.n (.l 111389740328953669117499) (.l 111397446616194652933836)))))) (.n (.n (.n (.n (.l 111474686094308577567502) (.l 111482392381549561383839)) (.n (.l 111498595819574370141445) (.l 111506302106815353957782))) (.n (.n (.l 111591247872170262407785) (.l 111615157597436054981728)) (.n (.l 111684405544862668390745) (.n (.l 111692111832103652207082) (.l 111708315270128460964688))))) (.n (.n (.n (.l 111793261035483369414691) (.l 111800967322724353231028)) (.n (.l 111808673609965337047365) (.n (.l 111817170760749161988634) (.l 111824877047990145804971)))) (.n (.n (.l 111909822813345054254974) (.l 111917529100586038071311)) (.n (.l 111926026251369863012580) (.n (.l 111933732538610846828917) (.l 112026384591206739095257))))))) (.n (.n (.n (.n (.n (.l 112042588029231547852863) (.l 112050294316472531669200)) (.n (.l 112143451989164937652160) (.l 112151443519852248876809))) (.n (.n (.l 112159149807093232693146) (.l 112252307479785638676106)) (.n (.l 112260013767026622492443) (.n (.l 112268005297713933717092) (.l 112361162970406339700052))))) (.n (.n (.n (.l 112368869257647323516389) (.l 112385072695672132273995)) (.n (.l 112470018461027040723998) (.n (.l 112477724748268024540335) (.l 112493928186292833297941)))) (.n (.n (.l 112501634473533817114278) (.l 112578873951647741747944)) (.n (.l 112586580238888725564281) (.n (.l 112602783676913534321887) (.l 112610489964154518138224)))))) (.n (.n (.n (.n (.l 112719345454775219162170) (.l 112788593402201832571187)) (.n (.l 112812503127467625145130) (.l 112820209414708608961467))) (.n (.n (.l 112905155180063517411470) (.l 112921358618088326169076)) (.n (.l 112929064905329309985413) (.n (.l 113014010670684218435416) (.l 113021716957925202251753))))) (.n (.n (.n (.l 113030214108709027193022) (.l 113037920395950011009359)) (.n (.l 113061830121215803583302) (.n (.l 113131078068642416992319) (.l 113146775886570712033305)))) (.n (.n (.l 113154482173811695849642) (.l 113247639846504101832602)) (.n (.l 113255631377191413057251) (.n (.l 113263337664432396873588) (.l 113356495337124802856548)))))))) (.n (.n (.n (.n (.n (.n (.l 113364201624365786672885) (.l 113465350827745503880494)) (.n (.l 113473057114986487696831) (.l 113489260553011296454437))) (.n (.n (.l 113496966840252280270774) (.l 113574206318366204904440)) (.n (.l 113581912605607188720777) (.n (.l 113598116043631997478383) (.l 113605822330872981294720))))) (.n (.n (.n (.l 113690768096227889744723) (.l 113706971534252698502329)) (.n (.l 113714677821493682318666) (.l 113807835494186088301626))) (.n (.n (.l 113823533312114383342612) (.l 113892781259540996751629)) (.n (.l 113916690984806789325572) (.n (.l 113924397272047773141909) (.l 114009343037402681591912)))))) (.n (.n (.n (.n (.l 114025546475427490349518) (.l 114033252762668474165855)) (.n (.l 114049456200693282923461) (.l 114125904815264366432195))) (.n (.n (.l 114134401966048191373464) (.l 114142108253289175189801)) (.n (.l 114158311691313983947407) (.n (.l 114166017978554967763744) (.l 114235265925981581172761))))) (.n (.n (.n (.l 114250963743909876213747) (.l 114258670031150860030084)) (.n (.l 114351827703843266013044) (.n (.l 114367525521771561054030) (.l 114460683194463967036990)))) (.n (.n (.l 114468389481704950853327) (.l 114484592919729759610933)) (.n (.l 114569538685084668060936) (.n (.l 114577244972325651877273) (.l 114593448410350460634879))))))) (.n (.n (.n (.n (.n (.l 114601154697591444451216) (.l 114678394175705369084882)) (.n (.l 114686100462946352901219) (.l 114702303900971161658825))) (.n (.n (.l 114710010188212145475162) (.l 114811159391591862682771)) (.n (.l 114818865678832846499108) (.n (.l 114912023351525252482068) (.l 114919729638766236298405))))) (.n (.n (.n (.l 114920014882212563706717) (.l 114927721169453547523054)) (.n (.l 115020878842145953506014) (.n (.l 115028585129386937322351) (.l 115129734332766654529960)))) (.n (.n (.l 115137440620007638346297) (.l 115153644058032447103903)) (.n (.l 115161350345273430920240) (.n (.l 115238589823387355553906) (.l 115246296110628339370243)))))) (.n (.n (.n (.n (.l 115254002397869323186580) (.l 115262499548653148127849)) (.n (.l 115270205835894131944186) (.l 115355151601249040394189))) (.n (.n (.l 115362857888490024210526) (.l 115379061326514832968132)) (.n (.l 115472218999207238951092) (.n (.l 115495623104376517808415) (.l 115564871051803131217432))))) (.n (.n (.n (.l 115588780777068923791375) (.l 115596487064309907607712)) (.n (.l 115673726542423832241378) (.n (.l 115681432829664816057715) (.l 115697636267689624815321)))) (.n (.n (.l 115705342554930608631658) (.l 115790288320285517081661)) (.n (.l 115806491758310325839267) (.n (.l 115814198045551309655604) (.l 115838107770817102229547)))))))))
def tb23 : Tr := (.n (.n (.n (.n (.n (.n (.n (.l 115907355718243715638564) (.l 115915347248931026863213)) (.n (.l 115923053536172010679550) (.l 116016211208864416662510))) (.n (.n (.l 116023917496105400478847) (.l 116031909026792711703496)) (.n (.l 116125066699485117686456) (.n (.l 116132772986726101502793) (.l 116148976424750910260399))))) (.n (.n (.n (.l 116233922190105818710402) (.l 116241628477346802526739)) (.n (.l 116257831915371611284345) (.l 116265538202612595100682))) (.n (.n (.l 116342777680726519734348) (.l 116350483967967503550685)) (.n (.l 116358190255208487367022) (.n (.l 116366687405992312308291) (.l 116374393693233296124628)))))) (.n (.n (.n (.n (.l 116467045745829188390968) (.l 116483249183853997148574)) (.n (.l 116576406856546403131534) (.l 116584113143787386947871))) (.n (.n (.l 116599810961715681988857) (.l 116669058909142295397874)) (.n (.l 116692968634408087971817) (.n (.l 116700674921649071788154) (.l 116777914399762996421820))))) (.n (.n (.n (.l 116785620687003980238157) (.l 116801824125028788995763)) (.n (.l 116809530412269772812100) (.n (.l 116825733850294581569706) (.l 116910679615649490019709)))) (.n (.n (.l 116918385902890473836046) (.l 116942295628156266409989)) (.n (.l 117011543575582879819006) (.n (.l 117019535106270191043655) (.l 117027241393511174859992))))))) (.n (.n (.n (.n (.n (.l 117120399066203580842952) (.l 117128105353444564659289)) (.n (.l 117229254556824281866898) (.l 117236960844065265683235))) (.n (.n (.l 117253164282090074440841) (.l 117260870569331058257178)) (.n (.l 117338110047444982890844) (.n (.l 117345816334685966707181) (.l 117362019772710775464787))))) (.n (.n (.n (.l 117369726059951759281124) (.l 117454671825306667731127)) (.n (.l 117462378112547651547464) (.n (.l 117470875263331476488733) (.l 117478581550572460305070)))) (.n (.n (.l 117571739223264866288030) (.l 117579730753952177512679)) (.n (.l 117587437041193161329016) (.n (.l 117680594713885567311976) (.l 117688301001126551128313)))))) (.n (.n (.n (.n (.l 117696292531813862352962) (.l 117703998819054846169299)) (.n (.l 117773246766481459578316) (.l 117797156491747252152259))) (.n (.n (.l 117804862778988235968596) (.l 117813359929772060909865)) (.n (.l 117889808544343144418599) (.n (.l 117906011982367953176205) (.l 117913718269608936992542))))) (.n (.n (.n (.l 117929921707633745750148) (.l 118014867472988654200151)) (.n (.l 118022573760229638016488) (.n (.l 118038777198254446774094) (.l 118046483485495430590431)))) (.n (.n (.l 118131429250850339040434) (.l 118155338976116131614377)) (.n (.l 118224586923542745023394) (.n (.l 118248496648808537597337) (.l 118333442414163446047340)))))))) (.n (.n (.n (.n (.n (.n (.l 118341148701404429863677) (.l 118357352139429238621283)) (.n (.l 118365058426670222437620) (.l 118442297904784147071286))) (.n (.n (.l 118450004192025130887623) (.l 118466207630049939645229)) (.n (.l 118473913917290923461566) (.n (.l 118566565969886815727906) (.l 118575063120670640669175))))) (.n (.n (.n (.l 118582769407911624485512) (.l 118675927080604030468472)) (.n (.l 118683918611291341693121) (.l 118691624898532325509458))) (.n (.n (.l 118784782571224731492418) (.l 118792488858465715308755)) (.n (.l 118800195145706699125092) (.n (.l 118808186676394010349741) (.l 118901344349086416332701)))))) (.n (.n (.n (.n (.l 118909050636327400149038) (.l 118917547787111225090307)) (.n (.l 119010199839707117356647) (.l 119017906126948101172984))) (.n (.n (.l 119034109564972909930590) (.l 119041815852213893746927)) (.n (.l 119119055330327818380593) (.n (.l 119126761617568802196930) (.l 119142965055593610954536))))) (.n (.n (.n (.l 119150671342834594770873) (.l 119259526833455295794819)) (.n (.l 119328774780881909203836) (.n (.l 119352684506147701777779) (.l 119437630271502610227782)))) (.n (.n (.l 119445336558743594044119) (.l 119461539996768402801725)) (.n (.l 119469246284009386618062) (.n (.l 119554192049364295068065) (.l 119570395487389103825671))))))) (.n (.n (.n (.n (.n (.l 119578101774630087642008) (.l 119670753827225979908348)) (.n (.l 119679250978009804849617) (.l 119686957265250788665954))) (.n (.n (.l 119780114937943194648914) (.l 119787821225184178465251)) (.n (.l 119795812755871489689900) (.n (.l 119888970428563895672860) (.l 119896676715804879489197))))) (.n (.n (.n (.l 119904383003045863305534) (.l 119912374533733174530183)) (.n (.l 119912880153829688246803) (.n (.l 120005532206425580513143) (.l 120013238493666564329480)))) (.n (.n (.l 120021735644450389270749) (.l 120029441931691373087086)) (.n (.l 120114387697046281537089) (.n (.l 120122093984287265353426) (.l 120138297422312074111032)))))) (.n (.n (.n (.n (.l 120146003709553057927369) (.l 120230949474907966377372)) (.n (.l 120247152912932775134978) (.l 120254859200173758951315))) (.n (.n (.l 120363714690794459975261) (.l 120432962638221073384278)) (.n (.l 120456872363486865958221) (.n (.l 120464578650727849774558) (.l 120541818128841774408224))))) (.n (.n (.n (.l 120549524416082758224561) (.l 120565727854107566982167)) (.n (.l 120573434141348550798504) (.n (.l 120658379906703459248507) (.l 120674583344728268006113)))) (.n (.n (.l 120682289631969251822450) (.l 120698493069994060580056)) (.n (.l 120706199357235044396393) (.n (.l 120775447304661657805410) (.l 120783438835348969030059)))))))))
def tb24 : Tr := (.n (.n (.n (.n (.n (.n (.n (.l 120791145122589952846396) (.l 120815054847855745420339)) (.n (.l 120884302795282358829356) (.l 120892009082523342645693))) (.n (.n (.l 121000864573144043669639) (.l 121008570860385027485976)) (.n (.l 121017068011168852427245) (.n (.l 121109720063764744693585) (.l 121117426351005728509922))))) (.n (.n (.n (.l 121125923501789553451191) (.l 121133629789030537267528)) (.n (.l 121218575554385445717531) (.l 121226281841626429533868))) (.n (.n (.l 121242485279651238291474) (.l 121250191566892222107811)) (.n (.l 121335137332247130557814) (.n (.l 121351340770271939315420) (.l 121359047057512923131757)))))) (.n (.n (.n (.n (.l 121452204730205329114717) (.l 121460196260892640339366)) (.n (.l 121467902548133624155703) (.l 121561060220826030138663))) (.n (.n (.l 121568766508067013955000) (.l 121576758038754325179649)) (.n (.l 121646005986180938588666) (.n (.l 121669915711446731162609) (.l 121677621998687714978946))))) (.n (.n (.n (.l 121693825436712523736552) (.l 121778771202067432186555)) (.n (.l 121786477489308416002892) (.n (.l 121802680927333224760498) (.l 121810387214574208576835)))) (.n (.n (.l 121895332979929117026838) (.l 121919242705194909600781)) (.n (.l 121988490652621523009798) (.n (.l 122011894757790801867121) (.l 122105052430483207850081))))))) (.n (.n (.n (.n (.n (.l 122121255868508016607687) (.l 122128962155749000424024)) (.n (.l 122213907921103908874027) (.l 122221614208344892690364))) (.n (.n (.l 122230111359128717631633) (.l 122237817646369701447970)) (.n (.l 122322763411724609897973) (.n (.l 122330469698965593714310) (.l 122346673136990402471916))))) (.n (.n (.n (.l 122354379424231386288253) (.l 122455528627611103495862)) (.n (.l 122463234914852087312199) (.n (.l 122556392587544493295159) (.l 122564098874785477111496)))) (.n (.n (.l 122564384118231804519808) (.l 122572090405472788336145)) (.n (.l 122665248078165194319105) (.n (.l 122672954365406178135442) (.l 122774103568785895343051)))))) (.n (.n (.n (.n (.l 122781809856026879159388) (.l 122798013294051687916994)) (.n (.l 122805719581292671733331) (.l 122882959059406596366997))) (.n (.n (.l 122890665346647580183334) (.l 122906868784672388940940)) (.n (.l 122914575071913372757277) (.n (.l 122999520837268281207280) (.l 123023430562534073781223))))) (.n (.n (.n (.l 123092678509960687190240) (.l 123116588235226479764183)) (.n (.l 123209240287822372030523) (.n (.l 123225443725847180788129) (.l 123233150013088164604466)))) (.n (.n (.l 123318095778443073054469) (.l 123325802065684056870806)) (.n (.l 123334299216467881812075) (.n (.l 123342005503708865628412) (.l 123349711790949849444749)))))))) (.n (.n (.n (.n (.n (.n (.l 123434657556304757894752) (.l 123450860994329566652358)) (.n (.l 123458567281570550468695) (.l 123551724954262956451655))) (.n (.n (.l 123559716484950267676304) (.l 123567422772191251492641)) (.n (.l 123660580444883657475601) (.n (.l 123668286732124641291938) (.l 123676278262811952516587))))) (.n (.n (.n (.l 123769435935504358499547) (.l 123777142222745342315884)) (.n (.l 123793345660770151073490) (.l 123878291426125059523493))) (.n (.n (.l 123885997713366043339830) (.l 123902201151390852097436)) (.n (.l 123909907438631835913773) (.n (.l 123987146916745760547439) (.l 123994853203986744363776)))))) (.n (.n (.n (.n (.l 124011056642011553121382) (.l 124018762929252536937719)) (.n (.l 124119912132632254145328) (.l 124127618419873237961665))) (.n (.n (.l 124220776092565643944625) (.l 124228482379806627760962)) (.n (.l 124236473910493938985611) (.n (.l 124329631583186344968571) (.l 124337337870427328784908))))) (.n (.n (.n (.l 124422283635782237234911) (.l 124429989923023221051248)) (.n (.l 124438487073807045992517) (.n (.l 124446193361048029808854) (.l 124453899648289013625191)))) (.n (.n (.l 124462396799072838566460) (.l 124470103086313822382797)) (.n (.l 124555048851668730832800) (.n (.l 124562755138909714649137) (.l 124578958576934523406743))))))) (.n (.n (.n (.n (.n (.l 124663904342289431856746) (.l 124671610629530415673083)) (.n (.l 124695520354796208247026) (.l 124764768302222821656043))) (.n (.n (.l 124873623792843522679989) (.l 124881330080084506496326)) (.n (.l 124897533518109315253932) (.n (.l 124905239805350299070269) (.l 124982479283464223703935))))) (.n (.n (.n (.l 124990185570705207520272) (.l 125006389008730016277878)) (.n (.l 125014095295971000094215) (.n (.l 125099041061325908544218) (.l 125115244499350717301824)))) (.n (.n (.l 125122950786591701118161) (.l 125216108459284107101121)) (.n (.l 125224099989971418325770) (.n (.l 125231806277212402142107) (.l 125324963949904808125067)))))) (.n (.n (.n (.n (.l 125332670237145791941404) (.l 125340661767833103166053)) (.n (.l 125433819440525509149013) (.l 125441525727766492965350))) (.n (.n (.l 125457729165791301722956) (.l 125542674931146210172959)) (.n (.l 125550381218387193989296) (.n (.l 125558087505628177805633) (.l 125566584656412002746902))))) (.n (.n (.n (.l 125574290943652986563239) (.l 125659236709007895013242)) (.n (.l 125666942996248878829579) (.n (.l 125683146434273687587185) (.l 125775798486869579853525)))) (.n (.n (.l 125799708212135372427468) (.l 125868956159561985836485)) (.n (.l 125892865884827778410428) (.n (.l 125977811650182686860431) (.l 125985517937423670676768)))))))))
def tb25 : Tr := (.n (.n (.n (.n (.n (.n (.n (.l 126001721375448479434374) (.l 126009427662689463250711)) (.n (.l 126086667140803387884377) (.l 126094373428044371700714))) (.n (.n (.l 126110576866069180458320) (.l 126118283153310164274657)) (.n (.l 126219432356689881482266) (.n (.l 126227138643930865298603) (.l 126320296316623271281563))))) (.n (.n (.n (.l 126328287847310582506212) (.l 126335994134551566322549)) (.n (.l 126429151807243972305509) (.l 126436858094484956121846))) (.n (.n (.l 126538007297864673329455) (.l 126545713585105657145792)) (.n (.l 126561917023130465903398) (.n (.l 126569623310371449719735) (.l 126654569075726358169738)))))) (.n (.n (.n (.n (.l 126662275362967341986075) (.l 126670772513751166927344)) (.n (.l 126678478800992150743681) (.l 126763424566347059193684))) (.n (.n (.l 126771130853588043010021) (.l 126779628004371867951290)) (.n (.l 126787334291612851767627) (.n (.l 126880491964305257750587) (.l 126896189782233552791573))))) (.n (.n (.n (.l 126903896069474536607910) (.l 126973144016901150016927)) (.n (.l 126997053742166942590870) (.n (.l 127081999507521851040873) (.l 127089705794762834857210)))) (.n (.n (.l 127105909232787643614816) (.l 127113615520028627431153)) (.n (.l 127198561285383535881156) (.n (.l 127214764723408344638762) (.l 127222471010649328455099))))))) (.n (.n (.n (.n (.n (.l 127238674448674137212705) (.l 127246380735915121029042)) (.n (.l 127323620214029045662708) (.l 127331326501270029479045))) (.n (.n (.l 127355236226535822052988) (.l 127424484173962435462005)) (.n (.l 127440181991890730502991) (.n (.l 127533339664583136485951) (.l 127541045951824120302288))))) (.n (.n (.n (.l 127557249389848929059894) (.l 127642195155203837509897)) (.n (.l 127649901442444821326234) (.n (.l 127666104880469630083840) (.l 127673811167710613900177)))) (.n (.n (.l 127758756933065522350180) (.l 127766463220306506166517)) (.n (.l 127774960371090331107786) (.n (.l 127782666658331314924123) (.l 127875318710927207190463)))))) (.n (.n (.n (.n (.l 127883815861711032131732) (.l 127891522148952015948069)) (.n (.l 127984679821644421931029) (.l 128000377639572716972015))) (.n (.n (.l 128008083926813700788352) (.l 128101241599506106771312)) (.n (.l 128108947886747090587649) (.n (.l 128116939417434401812298) (.l 128186187364861015221315))))) (.n (.n (.n (.l 128210097090126807795258) (.l 128217803377367791611595)) (.n (.l 128234006815392600369201) (.n (.l 128302749142722700061598) (.l 128318952580747508819204)))) (.n (.n (.l 128326658867988492635541) (.l 128342862306013301393147)) (.n (.l 128350568593254285209484) (.n (.l 128427808071368209843150) (.l 128435514358609193659487)))))))) (.n (.n (.n (.n (.n (.n (.l 128459424083874986233430) (.l 128528672031301599642447)) (.n (.l 128637527521922300666393) (.l 128645233809163284482730))) (.n (.n (.l 128661437247188093240336) (.l 128746383012543001690339)) (.n (.l 128754089299783985506676) (.n (.l 128770292737808794264282) (.l 128777999025049778080619))))) (.n (.n (.n (.l 128862944790404686530622) (.l 128870651077645670346959)) (.n (.l 128879148228429495288228) (.l 128886854515670479104565))) (.n (.n (.l 128979506568266371370905) (.l 128988003719050196312174)) (.n (.l 128991251754701225033728) (.n (.l 128995710006291180128511) (.l 129003416293532163944848)))))) (.n (.n (.n (.n (.l 129096573966224569927808) (.l 129104565496911881152457)) (.n (.l 129112271784152864968794) (.l 129205429456845270951754))) (.n (.n (.l 129213135744086254768091) (.l 129221632894870079709360)) (.n (.l 129314284947465971975700) (.n (.l 129321991234706955792037) (.l 129338194672731764549643))))) (.n (.n (.n (.l 129423140438086672999646) (.l 129430846725327656815983)) (.n (.l 129447050163352465573589) (.n (.l 129454756450593449389926) (.l 129539702215948357839929)))) (.n (.n (.l 129563611941214150413872) (.l 129632859888640763822889)) (.n (.l 129741715379261464846835) (.n (.l 129749421666502448663172) (.l 129765625104527257420778))))))) (.n (.n (.n (.n (.n (.l 129773331391768241237115) (.l 129850570869882165870781)) (.n (.l 129858277157123149687118) (.l 129874480595147958444724))) (.n (.n (.l 129882186882388942261061) (.l 129967132647743850711064)) (.n (.l 129974838934984834527401) (.n (.l 129983336085768659468670) (.l 129991042373009643285007))))) (.n (.n (.n (.l 130014952098275435858950) (.l 130084200045702049267967)) (.n (.l 130092191576389360492616) (.n (.l 130099897863630344308953) (.l 130107604150871328125290)))) (.n (.n (.l 130200761823563734108250) (.l 130208468110804717924587)) (.n (.l 130216459641492029149236) (.n (.l 130309617314184435132196) (.l 130317323601425418948533)))))) (.n (.n (.n (.n (.l 130325820752209243889802) (.l 130418472804805136156142)) (.n (.l 130426179092046119972479) (.l 130442382530070928730085))) (.n (.n (.l 130450088817311912546422) (.l 130527328295425837180088)) (.n (.l 130535034582666820996425) (.n (.l 130551238020691629754031) (.l 130558944307932613570368))))) (.n (.n (.n (.l 130643890073287522020371) (.l 130660093511312330777977)) (.n (.l 130667799798553314594314) (.n (.l 130760957471245720577274) (.l 130776655289174015618260)))) (.n (.n (.l 130845903236600629027277) (.l 130869812961866421601220)) (.n (.l 130877519249107405417557) (.n (.l 130954758727221330051223) (.l 130962465014462313867560)))))))))
def tb26 : Tr := (.n (.n (.n (.n (.n (.n (.n (.l 130978668452487122625166) (.l 130986374739728106441503)) (.n (.l 131002578177752915199109) (.l 131079026792323998707843))) (.n (.n (.l 131087523943107823649112) (.l 131095230230348807465449)) (.n (.l 131119139955614600039392) (.n (.l 131188387903041213448409) (.l 131204085720969508489395))))) (.n (.n (.n (.l 131211792008210492305732) (.l 131304949680902898288692)) (.n (.l 131320647498831193329678) (.l 131413805171523599312638))) (.n (.n (.l 131421511458764583128975) (.l 131430008609548408070244)) (.n (.l 131437714896789391886581) (.n (.l 131522660662144300336584) (.l 131530366949385284152921)))))) (.n (.n (.n (.n (.l 131546570387410092910527) (.l 131554276674651076726864)) (.n (.l 131631516152765001360530) (.l 131639222440005985176867))) (.n (.n (.l 131655425878030793934473) (.l 131663132165271777750810)) (.n (.l 131764281368651494958419) (.n (.l 131771987655892478774756) (.l 131865145328584884757716))))) (.n (.n (.n (.l 131872851615825868574053) (.l 131880843146513179798702)) (.n (.l 131950091093939793207719) (.n (.l 131974000819205585781662) (.l 131981707106446569597999)))) (.n (.n (.l 132066652871801478048002) (.l 132082856309826286805608)) (.n (.l 132090562597067270621945) (.n (.l 132106766035092079379551) (.l 132114472322333063195888))))))) (.n (.n (.n (.n (.n (.l 132191711800446987829554) (.l 132199418087687971645891)) (.n (.l 132223327812953764219834) (.l 132292575760380377628851))) (.n (.n (.l 132308273578308672669837) (.l 132315979865549656486174)) (.n (.l 132409137538242062469134) (.n (.l 132425340976266871226740) (.l 132517993028862763493080))))) (.n (.n (.n (.l 132525699316103747309417) (.l 132534196466887572250686)) (.n (.l 132541902754128556067023) (.n (.l 132549609041369539883360) (.l 132626848519483464517026)))) (.n (.n (.l 132634554806724448333363) (.l 132650758244749257090969)) (.n (.l 132658464531990240907306) (.n (.l 132743410297345149357309) (.l 132759613735369958114915)))))) (.n (.n (.n (.n (.l 132767320022610941931252) (.l 132860477695303347914212)) (.n (.l 132868469225990659138861) (.l 132876175513231642955198))) (.n (.n (.l 132969333185924048938158) (.l 132977039473165032754495)) (.n (.l 132985031003852343979144) (.n (.l 133054278951278957388161) (.l 133078188676544749962104))))) (.n (.n (.n (.l 133085894963785733778441) (.l 133102098401810542536047)) (.n (.l 133187044167165450986050) (.n (.l 133194750454406434802387) (.l 133210953892431243559993)))) (.n (.n (.l 133218660179672227376330) (.l 133295899657786152009996)) (.n (.l 133303605945027135826333) (.n (.l 133319809383051944583939) (.l 133327515670292928400276)))))))) (.n (.n (.n (.n (.n (.n (.l 133420167722888820666616) (.l 133436371160913629424222)) (.n (.l 133529528833606035407182) (.l 133537235120847019223519))) (.n (.n (.l 133622180886201927673522) (.l 133629887173442911489859)) (.n (.l 133638384324226736431128) (.n (.l 133646090611467720247465) (.l 133653796898708704063802))))) (.n (.n (.n (.l 133731036376822628697468) (.l 133738742664063612513805)) (.n (.l 133754946102088421271411) (.l 133762652389329405087748))) (.n (.n (.l 133778855827354213845354) (.l 133863801592709122295357)) (.n (.l 133871507879950106111694) (.n (.l 133895417605215898685637) (.l 133964665552642512094654)))))) (.n (.n (.n (.n (.l 133972657083329823319303) (.l 133980363370570807135640)) (.n (.l 134073521043263213118600) (.l 134081227330504196934937))) (.n (.n (.l 134182376533883914142546) (.l 134190082821124897958883)) (.n (.l 134206286259149706716489) (.n (.l 134213992546390690532826) (.l 134291232024504615166492))))) (.n (.n (.n (.l 134298938311745598982829) (.l 134315141749770407740435)) (.n (.l 134322848037011391556772) (.n (.l 134407793802366300006775) (.l 134423997240391108764381)))) (.n (.n (.l 134431703527632092580718) (.l 134524861200324498563678)) (.n (.l 134540559018252793604664) (.n (.l 134633716690945199587624) (.l 134641422978186183403961))))))) (.n (.n (.n (.n (.n (.l 134657120796114478444947) (.l 134726368743541091853964)) (.n (.l 134750278468806884427907) (.l 134757984756047868244244))) (.n (.n (.l 134766481906831693185513) (.l 134842930521402776694247)) (.n (.l 134859133959427585451853) (.n (.l 134866840246668569268190) (.l 134883043684693378025796))))) (.n (.n (.n (.l 134967989450048286475799) (.l 134975695737289270292136)) (.n (.l 134999605462555062866079) (.n (.l 135068853409981676275096) (.l 135084551227909971316082)))) (.n (.n (.l 135177708900602377299042) (.l 135185415187843361115379)) (.n (.l 135201618625868169872985) (.n (.l 135286564391223078322988) (.l 135294270678464062139325)))))) (.n (.n (.n (.n (.l 135310474116488870896931) (.l 135318180403729854713268)) (.n (.l 135395419881843779346934) (.l 135403126169084763163271))) (.n (.n (.l 135419329607109571920877) (.l 135427035894350555737214)) (.n (.l 135528185097730272944823) (.n (.l 135535891384971256761160) (.l 135629049057663662744120))))) (.n (.n (.n (.l 135636755344904646560457) (.l 135644746875591957785106)) (.n (.l 135737904548284363768066) (.n (.l 135745610835525347584403) (.l 135761308653453642625389)))) (.n (.n (.l 135830556600880256034406) (.l 135854466326146048608349)) (.n (.l 135862172613387032424686) (.n (.l 135870669764170857365955) (.l 135878376051411841182292)))))))))
def tb27 : Tr := (.n (.n (.n (.n (.n (.n (.n (.l 135963321816766749632295) (.l 135971028104007733448632)) (.n (.l 135979525254791558389901) (.l 135987231542032542206238))) (.n (.n (.l 136072177307387450656241) (.l 136079883594628434472578)) (.n (.l 136096087032653243230184) (.n (.l 136103793319894227046521) (.l 136173041267320840455538))))) (.n (.n (.n (.l 136281896757941541479484) (.l 136289603045182525295821)) (.n (.l 136305806483207334053427) (.l 136390752248562242503430))) (.n (.n (.l 136398458535803226319767) (.l 136414661973828035077373)) (.n (.l 136422368261069018893710) (.n (.l 136507314026423927343713) (.l 136523517464448736101319)))))) (.n (.n (.n (.n (.l 136531223751689719917656) (.l 136555133476955512491599)) (.n (.l 136624381424382125900616) (.l 136632372955069437125265))) (.n (.n (.l 136640079242310420941602) (.l 136733236915002826924562)) (.n (.l 136740943202243810740899) (.n (.l 136748934732931121965548) (.l 136842092405623527948508))))) (.n (.n (.n (.l 136849798692864511764845) (.l 136866002130889320522451)) (.n (.l 136958654183485212788791) (.n (.l 136966360470726196605128) (.l 136974857621510021546397)))) (.n (.n (.l 136982563908751005362734) (.l 137067509674105913812737)) (.n (.l 137075215961346897629074) (.n (.l 137083713112130722570343) (.l 137091419399371706386680))))))) (.n (.n (.n (.n (.n (.l 137099125686612690203017) (.l 137184071451967598653020)) (.n (.l 137200274889992407410626) (.l 137207981177233391226963))) (.n (.n (.l 137316836667854092250909) (.l 137386084615280705659926)) (.n (.l 137409994340546498233869) (.n (.l 137417700627787482050206) (.l 137494940105901406683872))))) (.n (.n (.n (.l 137502646393142390500209) (.l 137518849831167199257815)) (.n (.l 137526556118408183074152) (.n (.l 137542759556432991831758) (.l 137627705321787900281761)))) (.n (.n (.l 137635411609028884098098) (.l 137659321334294676672041)) (.n (.l 137728569281721290081058) (.n (.l 137736560812408601305707) (.l 137744267099649585122044)))))) (.n (.n (.n (.n (.l 137837424772341991105004) (.l 137845131059582974921341)) (.n (.l 137946280262962692128950) (.l 137953986550203675945287))) (.n (.n (.l 137970189988228484702893) (.l 138062842040824376969233)) (.n (.l 138070548328065360785570) (.n (.l 138079045478849185726839) (.l 138086751766090169543176))))) (.n (.n (.n (.l 138171697531445077993179) (.l 138179403818686061809516)) (.n (.l 138187900969469886750785) (.n (.l 138195607256710870567122) (.l 138203313543951854383459)))) (.n (.n (.l 138288259309306762833462) (.l 138304462747331571591068)) (.n (.l 138312169034572555407405) (.n (.l 138405326707264961390365) (.l 138421024525193256431351)))))))) (.n (.n (.n (.n (.n (.n (.l 138490272472619869840368) (.l 138514182197885662414311)) (.n (.l 138521888485126646230648) (.l 138606834250481554680651))) (.n (.n (.l 138623037688506363438257) (.l 138630743975747347254594)) (.n (.l 138646947413772156012200) (.n (.l 138731893179127064462203) (.l 138739599466368048278540))))) (.n (.n (.n (.l 138763509191633840852483) (.l 138832757139060454261500)) (.n (.l 138848454956988749302486) (.l 138941612629681155285446))) (.n (.n (.l 138949318916922139101783) (.l 139050468120301856309392)) (.n (.l 139058174407542840125729) (.n (.l 139074377845567648883335) (.l 139082084132808632699672)))))) (.n (.n (.n (.n (.l 139167029898163541149675) (.l 139174736185404524966012)) (.n (.l 139183233336188349907281) (.l 139190939623429333723618))) (.n (.n (.l 139283591676025225989958) (.l 139292088826809050931227)) (.n (.l 139299795114050034747564) (.n (.l 139307501401291018563901) (.l 139408650604670735771510))))) (.n (.n (.n (.l 139416356891911719587847) (.l 139509514564604125570807)) (.n (.l 139517220851845109387144) (.n (.l 139525212382532420611793) (.l 139618370055224826594753)))) (.n (.n (.l 139626076342465810411090) (.l 139711022107820718861093)) (.n (.l 139727225545845527618699) (.n (.l 139734931833086511435036) (.l 139751135271111320192642))))))) (.n (.n (.n (.n (.n (.l 139758841558352304008979) (.l 139836081036466228642645)) (.n (.l 139843787323707212458982) (.l 139859990761732021216588))) (.n (.n (.l 139867697048973005032925) (.l 139952642814327913482928)) (.n (.l 139976552539593706056871) (.n (.l 140045800487020319465888) (.l 140069710212286112039831))))) (.n (.n (.n (.l 140154655977641020489834) (.l 140162362264882004306171)) (.n (.l 140178565702906813063777) (.n (.l 140186271990147796880114) (.l 140271217755502705330117)))) (.n (.n (.l 140278924042743689146454) (.l 140287421193527514087723)) (.n (.l 140295127480768497904060) (.n (.l 140387779533364390170400) (.l 140403982971389198928006)))))) (.n (.n (.n (.n (.l 140411689258630182744343) (.l 140504846931322588727303)) (.n (.l 140512838462009899951952) (.l 140520544749250883768289))) (.n (.n (.l 140613702421943289751249) (.l 140621408709184273567586)) (.n (.l 140629400239871584792235) (.n (.l 140722557912563990775195) (.l 140730264199804974591532))))) (.n (.n (.n (.l 140746467637829783349138) (.l 140831413403184691799141)) (.n (.l 140839119690425675615478) (.n (.l 140855323128450484373084) (.l 140863029415691468189421)))) (.n (.n (.l 140940268893805392823087) (.l 140947975181046376639424)) (.n (.l 140964178619071185397030) (.n (.l 140971884906312169213367) (.l 141080740396932870237313)))))))))
def tb28 : Tr := (.n (.n (.n (.n (.n (.n (.n (.l 141149988344359483646330) (.l 141173898069625276220273)) (.n (.l 141181604356866260036610) (.l 141258843834980184670276))) (.n (.n (.l 141266550122221168486613) (.l 141282753560245977244219)) (.n (.l 141290459847486961060556) (.n (.l 141375405612841869510559) (.l 141383111900082853326896))))) (.n (.n (.n (.l 141391609050866678268165) (.l 141399315338107662084502)) (.n (.l 141423225063373454658445) (.l 141492473010800068067462))) (.n (.n (.l 141508170828728363108448) (.l 141515877115969346924785)) (.n (.l 141609034788661752907745) (.n (.l 141617026319349064132394) (.l 141624732606590047948731)))))) (.n (.n (.n (.n (.l 141717890279282453931691) (.l 141725596566523437748028)) (.n (.l 141734093717307262689297) (.l 141826745769903154955637))) (.n (.n (.l 141834452057144138771974) (.l 141850655495168947529580)) (.n (.l 141858361782409931345917) (.n (.l 141935601260523855979583) (.l 141943307547764839795920))))) (.n (.n (.n (.l 141959510985789648553526) (.l 141967217273030632369863)) (.n (.l 142052163038385540819866) (.n (.l 142068366476410349577472) (.l 142076072763651333393809)))) (.n (.n (.l 142169230436343739376769) (.l 142177221967031050601418)) (.n (.l 142184928254272034417755) (.n (.l 142254176201698647826772) (.l 142278085926964440400715))))))) (.n (.n (.n (.n (.n (.l 142285792214205424217052) (.l 142363031692319348850718)) (.n (.l 142370737979560332667055) (.l 142386941417585141424661))) (.n (.n (.l 142394647704826125240998) (.l 142410851142850933998604)) (.n (.l 142487299757422017507338) (.n (.l 142495796908205842448607) (.l 142503503195446826264944))))) (.n (.n (.n (.l 142519706633471635022550) (.l 142527412920712618838887)) (.n (.l 142612358686067527288890) (.n (.l 142620064973308511105227) (.l 142636268411333319862833)))) (.n (.n (.l 142728920463929212129173) (.l 142752830189195004703116)) (.n (.l 142822078136621618112133) (.n (.l 142829784423862601928470) (.l 142845987861887410686076)))))) (.n (.n (.n (.n (.l 142930933627242319136079) (.l 142938639914483302952416)) (.n (.l 142954843352508111710022) (.l 142962549639749095526359))) (.n (.n (.l 143039789117863020160025) (.l 143047495405104003976362)) (.n (.l 143063698843128812733968) (.n (.l 143071405130369796550305) (.l 143172554333749513757914))))) (.n (.n (.n (.l 143180260620990497574251) (.l 143273418293682903557211)) (.n (.l 143281124580923887373548) (.n (.l 143281409824370214781860) (.l 143289116111611198598197)))) (.n (.n (.l 143382273784303604581157) (.l 143389980071544588397494)) (.n (.l 143491129274924305605103) (.n (.l 143498835562165289421440) (.l 143515039000190098179046)))))))) (.n (.n (.n (.n (.n (.n (.l 143522745287431081995383) (.l 143599984765545006629049)) (.n (.l 143607691052785990445386) (.l 143623894490810799202992))) (.n (.n (.l 143631600778051783019329) (.l 143716546543406691469332)) (.n (.l 143724252830647675285669) (.n (.l 143740456268672484043275) (.l 143833613941364890026235))))) (.n (.n (.n (.l 143857018046534168883558) (.l 143926265993960782292575)) (.n (.l 143950175719226574866518) (.l 143957882006467558682855))) (.n (.n (.l 144035121484581483316521) (.l 144042827771822467132858)) (.n (.l 144059031209847275890464) (.n (.l 144066737497088259706801) (.l 144151683262443168156804)))))) (.n (.n (.n (.n (.l 144167886700467976914410) (.l 144175592987708960730747)) (.n (.l 144199502712974753304690) (.l 144268750660401366713707))) (.n (.n (.l 144276742191088677938356) (.l 144284448478329661754693)) (.n (.l 144377606151022067737653) (.n (.l 144385312438263051553990) (.l 144393303968950362778639))))) (.n (.n (.n (.l 144486461641642768761599) (.l 144494167928883752577936)) (.n (.l 144510371366908561335542) (.n (.l 144595317132263469785545) (.l 144603023419504453601882)))) (.n (.n (.l 144619226857529262359488) (.l 144626933144770246175825)) (.n (.l 144704172622884170809491) (.n (.l 144711878910125154625828) (.l 144728082348149963383434))))))) (.n (.n (.n (.n (.n (.l 144735788635390947199771) (.l 144828440687986839466111)) (.n (.l 144844644126011648223717) (.l 144937801798704054206677))) (.n (.n (.l 144945508085945038023014) (.l 144961205903873333064000)) (.n (.l 145030453851299946473017) (.n (.l 145054363576565739046960) (.l 145062069863806722863297))))) (.n (.n (.n (.l 145139309341920647496963) (.l 145147015629161631313300)) (.n (.l 145163219067186440070906) (.n (.l 145170925354427423887243) (.l 145179422505211248828512)))) (.n (.n (.l 145187128792452232644849) (.l 145272074557807141094852)) (.n (.l 145279780845048124911189) (.n (.l 145295984283072933668795) (.l 145303690570313917485132)))))) (.n (.n (.n (.n (.l 145372938517740530894149) (.l 145380930048427842118798)) (.n (.l 145388636335668825935135) (.l 145481794008361231918095))) (.n (.n (.l 145489500295602215734432) (.l 145590649498981932942041)) (.n (.l 145598355786222916758378) (.n (.l 145614559224247725515984) (.l 145622265511488709332321))))) (.n (.n (.n (.l 145699504989602633965987) (.l 145707211276843617782324)) (.n (.l 145723414714868426539930) (.n (.l 145731121002109410356267) (.l 145816066767464318806270)))) (.n (.n (.l 145823773054705302622607) (.l 145832270205489127563876)) (.n (.l 145839976492730111380213) (.n (.l 145933134165422517363173) (.l 145941125696109828587822)))))))))
def tb29 : Tr := (.n (.n (.n (.n (.n (.n (.n (.l 145948831983350812404159) (.l 146041989656043218387119)) (.n (.l 146049695943284202203456) (.l 146057687473971513428105))) (.n (.n (.l 146065393761212497244442) (.l 146158551433904903227402)) (.n (.l 146166257721145887043739) (.n (.l 146174754871929711985008) (.l 146267406924525604251348))))) (.n (.n (.n (.l 146275113211766588067685) (.l 146283610362550413008954)) (.n (.l 146291316649791396825291) (.l 146376262415146305275294))) (.n (.n (.l 146383968702387289091631) (.l 146400172140412097849237)) (.n (.l 146407878427653081665574) (.n (.l 146492824193007990115577) (.l 146516733918273782689520)))))) (.n (.n (.n (.n (.l 146585981865700396098537) (.l 146609891590966188672480)) (.n (.l 146694837356321097122483) (.l 146702543643562080938820))) (.n (.n (.l 146718747081586889696426) (.l 146726453368827873512763)) (.n (.l 146803692846941798146429) (.n (.l 146811399134182781962766) (.l 146827602572207590720372))))) (.n (.n (.n (.l 146835308859448574536709) (.l 146927960912044466803049)) (.n (.l 146936458062828291744318) (.n (.l 146944164350069275560655) (.l 147037322022761681543615)))) (.n (.n (.l 147045313553448992768264) (.l 147053019840689976584601)) (.n (.l 147146177513382382567561) (.n (.l 147153883800623366383898) (.l 147169581618551661424884))))))) (.n (.n (.n (.n (.n (.l 147262739291244067407844) (.l 147270445578485051224181)) (.n (.l 147278942729268876165450) (.l 147371594781864768431790))) (.n (.n (.l 147379301069105752248127) (.l 147387798219889577189396)) (.n (.l 147395504507130561005733) (.n (.l 147403210794371544822070) (.l 147480450272485469455736))))) (.n (.n (.n (.l 147488156559726453272073) (.l 147504359997751262029679)) (.n (.l 147512066284992245846016) (.n (.l 147620921775612946869962) (.l 147690169723039560278979)))) (.n (.n (.l 147714079448305352852922) (.l 147799025213660261302925)) (.n (.l 147806731500901245119262) (.n (.l 147822934938926053876868) (.l 147830641226167037693205)))))) (.n (.n (.n (.n (.l 147915586991521946143208) (.l 147931790429546754900814)) (.n (.l 147939496716787738717151) (.l 148032148769383630983491))) (.n (.n (.l 148040645920167455924760) (.l 148048352207408439741097)) (.n (.l 148141509880100845724057) (.n (.l 148149216167341829540394) (.l 148157207698029140765043))))) (.n (.n (.n (.l 148250365370721546748003) (.l 148258071657962530564340)) (.n (.l 148265777945203514380677) (.n (.l 148273769475890825605326) (.l 148274275095987339321946)))) (.n (.n (.l 148366927148583231588286) (.l 148374633435824215404623)) (.n (.l 148383130586608040345892) (.n (.l 148390836873849024162229) (.l 148475782639203932612232)))))))) (.n (.n (.n (.n (.n (.n (.l 148483488926444916428569) (.l 148499692364469725186175)) (.n (.l 148507398651710709002512) (.l 148592344417065617452515))) (.n (.n (.l 148608547855090426210121) (.l 148616254142331410026458)) (.n (.l 148717403345711127234067) (.n (.l 148725109632952111050404) (.l 148818267305644517033364))))) (.n (.n (.n (.l 148825973592885500849701) (.l 148833965123572812074350)) (.n (.l 148903213070999425483367) (.l 148910919358240409299704))) (.n (.n (.l 148927122796265218057310) (.l 148934829083506201873647)) (.n (.l 149019774848861110323650) (.n (.l 149035978286885919081256) (.l 149043684574126902897593)))))) (.n (.n (.n (.n (.l 149059888012151711655199) (.l 149067594299392695471536)) (.n (.l 149144833777506620105202) (.l 149152540064747603921539))) (.n (.n (.l 149176449790013396495482) (.l 149245697737440009904499)) (.n (.l 149261395555368304945485) (.n (.l 149354553228060710928445) (.l 149362259515301694744782))))) (.n (.n (.n (.l 149378462953326503502388) (.l 149471115005922395768728)) (.n (.l 149478821293163379585065) (.n (.l 149487318443947204526334) (.l 149495024731188188342671)))) (.n (.n (.l 149579970496543096792674) (.l 149587676783784080609011)) (.n (.l 149603880221808889366617) (.n (.l 149611586509049873182954) (.l 149696532274404781632957))))))) (.n (.n (.n (.n (.n (.l 149712735712429590390563) (.l 149720441999670574206900)) (.n (.l 149813599672362980189860) (.l 149821591203050291414509))) (.n (.n (.l 149829297490291275230846) (.l 149922455162983681213806)) (.n (.l 149930161450224665030143) (.n (.l 149938152980911976254792) (.l 150007400928338589663809))))) (.n (.n (.n (.l 150031310653604382237752) (.l 150039016940845366054089)) (.n (.l 150055220378870174811695) (.n (.l 150140166144225083261698) (.l 150147872431466067078035)))) (.n (.n (.l 150164075869490875835641) (.l 150171782156731859651978)) (.n (.l 150256727922086768101981) (.n (.l 150280637647352560675924) (.l 150349885594779174084941)))))) (.n (.n (.n (.n (.l 150458741085399875108887) (.l 150466447372640858925224)) (.n (.l 150482650810665667682830) (.l 150490357097906651499167))) (.n (.n (.l 150575302863261559949170) (.l 150583009150502543765507)) (.n (.l 150591506301286368706776) (.n (.l 150599212588527352523113) (.l 150684158353882260973116))))) (.n (.n (.n (.l 150691864641123244789453) (.l 150708068079148053547059)) (.n (.l 150715774366389037363396) (.n (.l 150816923569768754571005) (.l 150824629857009738387342)))) (.n (.n (.l 150917787529702144370302) (.l 150925493816943128186639)) (.n (.l 150925779060389455594951) (.n (.l 150933485347630439411288) (.l 151026643020322845394248)))))))))
def tb30 : Tr := (.l 151034349307563829210585)
def tb : Tr := (.n (.n (.n (.n tb0 (.n tb1 tb2)) (.n (.n tb3 tb4) (.n tb5 tb6))) (.n (.n (.n tb7 tb8) (.n tb9 tb10)) (.n (.n tb11 tb12) (.n tb13 tb14)))) (.n (.n (.n (.n tb15 tb16) (.n tb17 tb18)) (.n (.n tb19 tb20) (.n tb21 tb22))) (.n (.n (.n tb23 tb24) (.n tb25 tb26)) (.n (.n tb27 tb28) (.n tb29 tb30)))))
def fst : Tr → Nat
  | .l v => v
  | .n a _ => fst a
def lst : Tr → Nat
  | .l v => v
  | .n _ b => lst b
def tgs : Tr → Nat
  | .l v => 1 <<< (v % 8192)
  | .n a b => tgs a ||| tgs b
def okT : Tr → Bool
  | .l v => Nat.beq (v / 8192) (val (v % 8192))
  | .n a b => okT a && (okT b && Nat.blt (lst a / 8192 + 9) (fst b / 8192))
def mem (x : Nat) : Tr → Prop
  | .l v => x = v
  | .n a b => mem x a ∨ mem x b
theorem okT_val {x : Nat} : ∀ {t : Tr}, okT t = true → mem x t → x / 8192 = val (x % 8192)
  | .l v, h, m => by
    cases (show x = v from m)
    exact Nat.eq_of_beq_eq_true h
  | .n a b, h, m => by
    unfold okT at h
    simp only [Bool.and_eq_true] at h
    rcases m with m | m
    · exact okT_val h.1 m
    · exact okT_val h.2.1 m
theorem okT_rng {x : Nat} : ∀ {t : Tr}, okT t = true → mem x t → fst t / 8192 ≤ x / 8192 ∧ x / 8192 ≤ lst t / 8192
  | .l v, h, m => by
    cases (show x = v from m)
    exact ⟨Nat.le_refl _, Nat.le_refl _⟩
  | .n a b, h, m => by
    unfold okT at h
    simp only [Bool.and_eq_true, Nat.blt_eq] at h
    have hf : ∀ {t : Tr}, okT t = true → fst t / 8192 ≤ lst t / 8192 := fun {t} => by
      induction t with
      | l v => intro _; exact Nat.le_refl _
      | n a b ha hb =>
        intro h
        unfold okT at h
        simp only [Bool.and_eq_true, Nat.blt_eq] at h
        have := ha h.1
        have := hb h.2.1
        show fst a / 8192 ≤ lst b / 8192
        omega
    show fst a / 8192 ≤ x / 8192 ∧ x / 8192 ≤ lst b / 8192
    have h1 := hf h.1
    have h2 := hf h.2.1
    rcases m with m | m
    · have := okT_rng h.1 m; omega
    · have := okT_rng h.2.1 m; omega
theorem okT_gap {x y : Nat} : ∀ {t : Tr}, okT t = true → mem x t → mem y t → x ≠ y → x / 8192 + 9 < y / 8192 ∨ y / 8192 + 9 < x / 8192
  | .l v, _, m1, m2, h => absurd ((show x = v from m1).trans (show y = v from m2).symm) h
  | .n a b, h, hx, hy, e => by
    unfold okT at h
    simp only [Bool.and_eq_true, Nat.blt_eq] at h
    rcases hx with hx | hx <;> rcases hy with hy | hy
    · exact okT_gap h.1 hx hy e
    · have := okT_rng h.1 hx; have := okT_rng h.2.1 hy; omega
    · have := okT_rng h.1 hy; have := okT_rng h.2.1 hx; omega
    · exact okT_gap h.2.1 hx hy e
theorem tgs_mem {i : Nat} : ∀ {t : Tr}, (tgs t).testBit i = true → ∃ x, mem x t ∧ x % 8192 = i
  | .l v, h => by
    unfold tgs at h
    rw [Nat.one_shiftLeft, Nat.testBit_two_pow] at h
    exact ⟨v, rfl, by simpa using h⟩
  | .n a b, h => by
    unfold tgs at h
    rw [Nat.testBit_or, Bool.or_eq_true] at h
    rcases h with h | h
    · obtain ⟨x, h1, h2⟩ := tgs_mem h; exact ⟨x, .inl h1, h2⟩
    · obtain ⟨x, h1, h2⟩ := tgs_mem h; exact ⟨x, .inr h1, h2⟩
theorem tb_ok : okT tb = true := by decide +kernel
theorem tb_all : tgs tb = 2 ^ 4501 - 1 := by decide +kernel
theorem tb_end : lst tb / 8192 + 9 < fst tb / 8192 + 18446744073709551616 := by decide +kernel
theorem at_tag {t : Nat} (h : t < 4501) : ∃ x, mem x tb ∧ x % 8192 = t ∧ x / 8192 = val t := by
  obtain ⟨x, h1, h2⟩ := tgs_mem (t := tb) (i := t) (by rw [tb_all, Nat.testBit_two_pow_sub_one]; simpa using h)
  exact ⟨x, h1, h2, by rw [okT_val tb_ok h1, h2]⟩
theorem gap {t s : Nat} (ht : t < 4501) (hs : s < 4501) (h : t ≠ s) : (val t + 9 < val s ∧ val s + 9 < val t + 18446744073709551616) ∨ (val s + 9 < val t ∧ val t + 9 < val s + 18446744073709551616) := by
  obtain ⟨x, a1, a2, a3⟩ := at_tag ht
  obtain ⟨y, b1, b2, b3⟩ := at_tag hs
  have e : x ≠ y := fun e => h (by rw [← a2, ← b2, e])
  have g := okT_gap tb_ok a1 b1 e
  have r1 := okT_rng tb_ok a1
  have r2 := okT_rng tb_ok b1
  have := tb_end
  rw [← a3, ← b3]
  omega
theorem val_lt {t : Nat} : val t < 18446744073709551616 := by
  cases t with
  | zero => exact Nat.mod_lt _ (by decide)
  | succ t => exact Nat.mod_lt _ (by decide)
theorem val_uu {a : Nat} (h : 0 < a) : val a = uu a := by
  cases a with
  | zero => omega
  | succ a => rfl
structure OkN (p : Int × Int) : Prop where
  a1 : 1 ≤ p.1
  a2 : p.1 ≤ 4500
  b1 : 1 ≤ p.2
  b2 : p.2 ≤ 9
theorem fin_ne {a b : Nat} (h1 : 0 < a) (h2 : a < 4501) (h3 : 0 < b) (h4 : b < 10) : fin a b ≠ 18446744073709551615 := fun e => by
  have := dec_fin a b
  rw [e, show dec 18446744073709551615 = val 0 from rfl, ← val_uu h1] at this
  have g := gap (t := 0) (s := a) (by decide) h2 (by omega)
  have l1 := val_lt (t := 0)
  have l2 := val_lt (t := a)
  omega
theorem fin_inj {a b c d : Nat} (h1 : 0 < a) (h2 : a < 4501) (h3 : 0 < b) (h4 : b < 10) (g1 : 0 < c) (g2 : c < 4501) (g3 : 0 < d) (g4 : d < 10) (e : fin a b = fin c d) : a = c ∧ b = d := by
  have := dec_fin a b
  rw [e, dec_fin c d, ← val_uu h1, ← val_uu g1] at this
  have l1 := val_lt (t := a)
  have l2 := val_lt (t := c)
  by_cases z : a = c
  · subst z
    exact ⟨rfl, by omega⟩
  · have g := gap h2 g2 z
    omega
def toS (f : Nat) : Int := if f < 2 ^ 63 then (f : Int) else (f : Int) - 18446744073709551616
theorem toS_inj {f g : Nat} (hf : f < 18446744073709551616) (hg : g < 18446744073709551616) (h : toS f = toS g) : f = g := by
  unfold toS at h
  split at h <;> split at h <;> omega
theorem raw_small {a : Int} (h0 : 0 ≤ a) (h1 : a < 10000) : hashInt a = a := by
  unfold hashInt
  have : rawHash a = a := by
    unfold rawHash
    have e : ((a.natAbs : Int) % 2305843009213693951) = a := by omega
    have e2 : ¬ a < 0 := by omega
    have e3 : ¬ a = -1 := by omega
    simp [e, e2, e3]
  rw [this]
  rw [if_neg]
  simp
  omega
def kN (p : Int × Int) : List L2.Key := [.inl p.1, .inl p.2]
def fo (x : Nat) (h : Int) : Nat := ((((x + (h % ((2 ^ 64 : Nat) : Int)).toNat * P2) % 2 ^ 64 * 2 ^ 31) % 2 ^ 64 + ((x + (h % ((2 ^ 64 : Nat) : Int)).toNat * P2) % 2 ^ 64) / 2 ^ 33) * P1) % 2 ^ 64
def en (acc : Nat) : Int := if (acc == 2 ^ 64 - 1) = true then 1546275796 else if acc < 2 ^ 63 then (acc : Int) else (acc : Int) - ((2 ^ 64 : Nat) : Int)
theorem th_def0 (l : List Int) : Builtin.Tuple.tupleHashOf l = en ((List.foldl fo P5 l + (l.length ^^^ (P5 ^^^ 3527539))) % 2 ^ 64) := rfl
theorem th_def (a b : Int) : Builtin.Tuple.tupleHashOf [a, b] = en ((fo (fo P5 a) b + (2 ^^^ (P5 ^^^ 3527539))) % 2 ^ 64) := by
  rw [th_def0, List.foldl_cons, List.foldl_cons, List.foldl_nil, show [a, b].length = 2 from rfl]
theorem fo_stp (x h : Nat) (hh : h < 10000) : fo x (h : Int) = stp x h := by
  unfold fo stp rot
  have e : ((h : Int) % ((2 ^ 64 : Nat) : Int)).toNat = h := by
    simp only [Nat.reducePow]
    omega
  rw [e]
theorem KK_eq : 2 ^^^ (P5 ^^^ 3527539) = KK := by decide +kernel
theorem en_toS {f : Nat} (h : f ≠ 18446744073709551615) : en f = toS f := by
  unfold en toS
  rw [if_neg (by simpa using h)]
  rfl
theorem hash_eq {p : Int × Int} (h : OkN p) : hashK (kN p) = some (toS (fin p.1.toNat p.2.toNat)) := by
  obtain ⟨a, b⟩ := p
  obtain ⟨a1, a2, b1, b2⟩ := h
  simp only at a1 a2 b1 b2
  obtain ⟨a, rfl⟩ := Int.eq_ofNat_of_zero_le (show 0 ≤ a by omega)
  obtain ⟨b, rfl⟩ := Int.eq_ofNat_of_zero_le (show 0 ≤ b by omega)
  have hf := fin_ne (a := a) (b := b) (by omega) (by omega) (by omega) (by omega)
  have hl : fin a b < 18446744073709551616 := Nat.mod_lt _ (by decide)
  have e : Builtin.Tuple.tupleHashOf [(a : Int), (b : Int)] = toS (fin a b) := by
    rw [th_def, fo_stp _ _ (by omega), fo_stp _ _ (by omega), KK_eq, show (stp (stp P5 a) b + KK) % 2 ^ 64 = fin a b from rfl, en_toS hf]
  have eT : hashT (kN ((a : Int), (b : Int))) = some [hashInt ((a : Nat) : Int), hashInt ((b : Nat) : Int)] := rfl
  unfold hashK
  rw [eT, Option.map_some]
  rw [raw_small (by omega) (by omega), raw_small (by omega) (by omega), e]
  refine congrArg some ?_
  unfold reduceHash toS
  have : -(2 ^ 63 : Int) ≤ (if fin a b < 2 ^ 63 then ((fin a b : Nat) : Int) else ((fin a b : Nat) : Int) - 18446744073709551616) ∧ (if fin a b < 2 ^ 63 then ((fin a b : Nat) : Int) else ((fin a b : Nat) : Int) - 18446744073709551616) < 2 ^ 63 ∧ (if fin a b < 2 ^ 63 then ((fin a b : Nat) : Int) else ((fin a b : Nat) : Int) - 18446744073709551616) ≠ -1 := by
    split <;> omega
  obtain ⟨q1, q2, q3⟩ := this
  show _ = (if fin a b < 2 ^ 63 then ((fin a b : Nat) : Int) else ((fin a b : Nat) : Int) - 18446744073709551616)
  generalize (if fin a b < 2 ^ 63 then ((fin a b : Nat) : Int) else ((fin a b : Nat) : Int) - 18446744073709551616) = z at q1 q2 q3 ⊢
  rw [if_pos (by simp only [Bool.and_eq_true, decide_eq_true_eq]; exact ⟨q1, q2⟩), if_neg (by simpa using q3)]
theorem kN_inj {p q : Int × Int} (h : kN p = kN q) : p = q := by
  unfold kN at h
  injection h with h1 h2
  injection h2 with h2 h3
  injection h1 with h1
  injection h2 with h2
  exact Prod.ext h1 h2
theorem hash_inj {p q : Int × Int} (hp : OkN p) (hq : OkN q) (h : hashK (kN p) = hashK (kN q)) : p = q := by
  rw [hash_eq hp, hash_eq hq] at h
  have h := Option.some.inj h
  obtain ⟨a1, a2, b1, b2⟩ := hp
  obtain ⟨c1, c2, d1, d2⟩ := hq
  obtain ⟨e1, e2⟩ := fin_inj (by omega) (by omega) (by omega) (by omega) (by omega) (by omega) (by omega) (by omega) (toS_inj (Nat.mod_lt _ (by decide)) (Nat.mod_lt _ (by decide)) h)
  exact Prod.ext (by omega) (by omega)
theorem hashOk_of {α : Type} {l : List (List L2.Key × α)} {ps : List (Int × Int)} (h : l.map (·.1) = ps.map kN) (ho : ∀ p ∈ ps, OkN p) (hn : ps.Nodup) : hashOk l = true := by
  unfold hashOk
  have e : (l.map fun p => hashK p.1) = ps.map fun p => hashK (kN p) := by
    rw [show (l.map fun p => hashK p.1) = (l.map (·.1)).map hashK by rw [List.map_map]; rfl, h, List.map_map]; rfl
  rw [e, Bool.and_eq_true]
  refine ⟨List.all_eq_true.mpr fun x hx => ?_, decide_eq_true ?_⟩
  · obtain ⟨p, hp, rfl⟩ := List.mem_map.mp hx
    rw [hash_eq (ho p hp)]; rfl
  · unfold List.Nodup
    rw [List.pairwise_map]
    refine List.Pairwise.imp_of_mem (fun {p q} hp hq hne e => hne (hash_inj (ho p hp) (ho q hq) e)) hn
end K24

set_option Elab.async false
set_option linter.all false
set_option autoImplicit false
set_option maxRecDepth 100000
set_option maxHeartbeats 4000000
/-! plain data: its kind, its copy, its likeness -/
namespace Ly
open PySem L2
theorem kit_NoneType_list : kitB "NoneType" "list" = some false := by decide +kernel
theorem isi_NoneType_list  : dIsi .non "list" = some false := kit_NoneType_list
theorem kit_NoneType_tuple : kitB "NoneType" "tuple" = some false := by decide +kernel
theorem isi_NoneType_tuple  : dIsi .non "tuple" = some false := kit_NoneType_tuple
theorem kit_NoneType_dict : kitB "NoneType" "dict" = some false := by decide +kernel
theorem isi_NoneType_dict  : dIsi .non "dict" = some false := kit_NoneType_dict
theorem kit_NoneType_int : kitB "NoneType" "int" = some false := by decide +kernel
theorem isi_NoneType_int  : dIsi .non "int" = some false := kit_NoneType_int
theorem kit_NoneType_bool : kitB "NoneType" "bool" = some false := by decide +kernel
theorem isi_NoneType_bool  : dIsi .non "bool" = some false := kit_NoneType_bool
theorem kit_NoneType_str : kitB "NoneType" "str" = some false := by decide +kernel
theorem isi_NoneType_str  : dIsi .non "str" = some false := kit_NoneType_str
theorem kit_bool_list : kitB "bool" "list" = some false := by decide +kernel
theorem isi_bool_list (b : Bool) : dIsi (.bl b) "list" = some false := kit_bool_list
theorem kit_bool_tuple : kitB "bool" "tuple" = some false := by decide +kernel
theorem isi_bool_tuple (b : Bool) : dIsi (.bl b) "tuple" = some false := kit_bool_tuple
theorem kit_bool_dict : kitB "bool" "dict" = some false := by decide +kernel
theorem isi_bool_dict (b : Bool) : dIsi (.bl b) "dict" = some false := kit_bool_dict
theorem kit_bool_int : kitB "bool" "int" = some true := by decide +kernel
theorem isi_bool_int (b : Bool) : dIsi (.bl b) "int" = some true := kit_bool_int
theorem kit_bool_bool : kitB "bool" "bool" = some true := by decide +kernel
theorem isi_bool_bool (b : Bool) : dIsi (.bl b) "bool" = some true := kit_bool_bool
theorem kit_bool_str : kitB "bool" "str" = some false := by decide +kernel
theorem isi_bool_str (b : Bool) : dIsi (.bl b) "str" = some false := kit_bool_str
theorem kit_int_list : kitB "int" "list" = some false := by decide +kernel
theorem isi_int_list (i : Int) : dIsi (.int i) "list" = some false := kit_int_list
theorem kit_int_tuple : kitB "int" "tuple" = some false := by decide +kernel
theorem isi_int_tuple (i : Int) : dIsi (.int i) "tuple" = some false := kit_int_tuple
theorem kit_int_dict : kitB "int" "dict" = some false := by decide +kernel
theorem isi_int_dict (i : Int) : dIsi (.int i) "dict" = some false := kit_int_dict
theorem kit_int_int : kitB "int" "int" = some true := by decide +kernel
theorem isi_int_int (i : Int) : dIsi (.int i) "int" = some true := kit_int_int
theorem kit_int_bool : kitB "int" "bool" = some false := by decide +kernel
theorem isi_int_bool (i : Int) : dIsi (.int i) "bool" = some false := kit_int_bool
theorem kit_int_str : kitB "int" "str" = some false := by decide +kernel
theorem isi_int_str (i : Int) : dIsi (.int i) "str" = some false := kit_int_str
theorem kit_str_list : kitB "str" "list" = some false := by decide +kernel
theorem isi_str_list (x : Str) : dIsi (.str x) "list" = some false := kit_str_list
theorem kit_str_tuple : kitB "str" "tuple" = some false := by decide +kernel
theorem isi_str_tuple (x : Str) : dIsi (.str x) "tuple" = some false := kit_str_tuple
theorem kit_str_dict : kitB "str" "dict" = some false := by decide +kernel
theorem isi_str_dict (x : Str) : dIsi (.str x) "dict" = some false := kit_str_dict
theorem kit_str_int : kitB "str" "int" = some false := by decide +kernel
theorem isi_str_int (x : Str) : dIsi (.str x) "int" = some false := kit_str_int
theorem kit_str_bool : kitB "str" "bool" = some false := by decide +kernel
theorem isi_str_bool (x : Str) : dIsi (.str x) "bool" = some false := kit_str_bool
theorem kit_str_str : kitB "str" "str" = some true := by decide +kernel
theorem isi_str_str (x : Str) : dIsi (.str x) "str" = some true := kit_str_str
theorem kit_list_list : kitB "list" "list" = some true := by decide +kernel
theorem isi_list_list (ds : List D) : dIsi (.lst ds) "list" = some true := kit_list_list
theorem kit_list_tuple : kitB "list" "tuple" = some false := by decide +kernel
theorem isi_list_tuple (ds : List D) : dIsi (.lst ds) "tuple" = some false := kit_list_tuple
theorem kit_list_dict : kitB "list" "dict" = some false := by decide +kernel
theorem isi_list_dict (ds : List D) : dIsi (.lst ds) "dict" = some false := kit_list_dict
theorem kit_list_int : kitB "list" "int" = some false := by decide +kernel
theorem isi_list_int (ds : List D) : dIsi (.lst ds) "int" = some false := kit_list_int
theorem kit_list_bool : kitB "list" "bool" = some false := by decide +kernel
theorem isi_list_bool (ds : List D) : dIsi (.lst ds) "bool" = some false := kit_list_bool
theorem kit_list_str : kitB "list" "str" = some false := by decide +kernel
theorem isi_list_str (ds : List D) : dIsi (.lst ds) "str" = some false := kit_list_str
theorem kit_tuple_list : kitB "tuple" "list" = some false := by decide +kernel
theorem isi_tuple_list (ds : List D) : dIsi (.tup ds) "list" = some false := kit_tuple_list
theorem kit_tuple_tuple : kitB "tuple" "tuple" = some true := by decide +kernel
theorem isi_tuple_tuple (ds : List D) : dIsi (.tup ds) "tuple" = some true := kit_tuple_tuple
theorem kit_tuple_dict : kitB "tuple" "dict" = some false := by decide +kernel
theorem isi_tuple_dict (ds : List D) : dIsi (.tup ds) "dict" = some false := kit_tuple_dict
theorem kit_tuple_int : kitB "tuple" "int" = some false := by decide +kernel
theorem isi_tuple_int (ds : List D) : dIsi (.tup ds) "int" = some false := kit_tuple_int
theorem kit_tuple_bool : kitB "tuple" "bool" = some false := by decide +kernel
theorem isi_tuple_bool (ds : List D) : dIsi (.tup ds) "bool" = some false := kit_tuple_bool
theorem kit_tuple_str : kitB "tuple" "str" = some false := by decide +kernel
theorem isi_tuple_str (ds : List D) : dIsi (.tup ds) "str" = some false := kit_tuple_str
theorem kit_dict_list : kitB "dict" "list" = some false := by decide +kernel
theorem isi_dict_list (l : List (L2.Key × D)) : dIsi (.dct l) "list" = some false := kit_dict_list
theorem kit_dict_tuple : kitB "dict" "tuple" = some false := by decide +kernel
theorem isi_dict_tuple (l : List (L2.Key × D)) : dIsi (.dct l) "tuple" = some false := kit_dict_tuple
theorem kit_dict_dict : kitB "dict" "dict" = some true := by decide +kernel
theorem isi_dict_dict (l : List (L2.Key × D)) : dIsi (.dct l) "dict" = some true := kit_dict_dict
theorem kit_dict_int : kitB "dict" "int" = some false := by decide +kernel
theorem isi_dict_int (l : List (L2.Key × D)) : dIsi (.dct l) "int" = some false := kit_dict_int
theorem kit_dict_bool : kitB "dict" "bool" = some false := by decide +kernel
theorem isi_dict_bool (l : List (L2.Key × D)) : dIsi (.dct l) "bool" = some false := kit_dict_bool
theorem kit_dict_str : kitB "dict" "str" = some false := by decide +kernel
theorem isi_dict_str (l : List (L2.Key × D)) : dIsi (.dct l) "str" = some false := kit_dict_str
end Ly

set_option Elab.async false
set_option linter.all false
set_option autoImplicit false
set_option maxRecDepth 100000
set_option maxHeartbeats 4000000
/-! plain data: its kind, its copy, its likeness -/
namespace K24
open PySem L2 Ly
/-- plain data of a depth -/
def Pl : Nat → D → Prop
  | _ + 1, .non => True
  | _ + 1, .bl _ => True
  | _ + 1, .int _ => True
  | _ + 1, .str _ => True
  | n + 1, .lst ds => ds.length < 16777216 ∧ ∀ d ∈ ds, Pl n d
  | n + 1, .tup ds => ds.length < 16777216 ∧ ∀ d ∈ ds, Pl n d
  | n + 1, .dct l => l.length < 16777216 ∧ (l.map (·.1)).Nodup ∧ ∀ p ∈ l, Pl n p.2
  | _, _ => False
theorem comp_id {α : Type} {f : α → Unit → Option (Option α × Unit)} : ∀ {ds : List α}, (∀ d ∈ ds, f d () = some (some d, ())) → compM f ds () = some (ds, ())
  | [], _ => rfl
  | d :: ds, h => by
    unfold compM
    rw [h d (List.mem_cons_self ..)]
    simp only [comp_id (f := f) (ds := ds) fun x hx => h x (List.mem_cons_of_mem _ hx)]
theorem comp_id' {α : Type} {f : α → Unit → Option (Option α × Unit)} {ds : List α} (hl : ds.length < 16777216) (h : ∀ d ∈ ds, f d () = some (some d, ())) : comp f ds () = some (ds, ()) := by
  unfold comp
  rw [if_pos (show ds.length ≤ LIM from (by show ds.length ≤ 16777216; omega)), comp_id h]
section
variable {κ α : Type} [DecidableEq κ]
theorem dget_none {l : List (κ × α)} {k : κ} : dget l k = none ↔ k ∉ l.map (·.1) := by
  unfold dget
  rw [Option.map_eq_none_iff, List.find?_eq_none]
  constructor
  · intro h hm
    obtain ⟨p, hp, e⟩ := List.mem_map.mp hm
    have := h p hp
    simp [e] at this
  · intro h p hp
    simp only [decide_eq_true_eq]
    intro e
    exact h (List.mem_map.mpr ⟨p, hp, e⟩)
theorem dhas_iff {l : List (κ × α)} {k : κ} : dhas l k = true ↔ k ∈ l.map (·.1) := by
  unfold dhas
  constructor
  · intro h
    by_cases z : k ∈ l.map (·.1)
    · exact z
    · rw [dget_none.mpr z] at h; cases h
  · intro h
    cases e : dget l k with
    | none => exact absurd h (dget_none.mp e)
    | some _ => rfl
theorem dhas_not {l : List (κ × α)} {k : κ} : dhas l k = false ↔ k ∉ l.map (·.1) := by
  rw [← Bool.not_eq_true, dhas_iff]
theorem dget_mem {l : List (κ × α)} {k : κ} {v : α} (hn : (l.map (·.1)).Nodup) (h : (k, v) ∈ l) : dget l k = some v := by
  induction l with
  | nil => cases h
  | cons p l ih =>
    rw [List.map_cons, List.nodup_cons] at hn
    unfold dget
    rcases List.mem_cons.mp h with h | h
    · subst h; simp
    · have : p.1 ≠ k := fun e => hn.1 (List.mem_map.mpr ⟨_, h, e.symm⟩)
      rw [List.find?_cons_of_neg (by simpa using this)]
      exact ih hn.2 h
theorem dget_of {l : List (κ × α)} {k : κ} {v : α} (h : dget l k = some v) : (k, v) ∈ l := by
  unfold dget at h
  obtain ⟨p, hp, rfl⟩ := Option.map_eq_some_iff.mp h
  have h1 := List.mem_of_find?_eq_some hp
  have h2 := List.find?_some hp
  simp only [decide_eq_true_eq] at h2
  rw [← h2]; exact h1
theorem dput_new {l : List (κ × α)} {k : κ} {v : α} (h : k ∉ l.map (·.1)) : dput l k v = l ++ [(k, v)] := by
  unfold dput
  rw [if_neg]
  rw [List.any_eq_true]
  rintro ⟨p, hp, e⟩
  exact h (List.mem_map.mpr ⟨p, hp, by simpa using e⟩)
theorem dput_old {l : List (κ × α)} {k : κ} {v : α} (h : k ∈ l.map (·.1)) : (dput l k v).length = l.length := by
  unfold dput
  rw [if_pos]
  · rw [List.length_map]
  · obtain ⟨p, hp, e⟩ := List.mem_map.mp h
    rw [List.any_eq_true]
    exact ⟨p, hp, by simpa using e⟩
theorem dputO_ok {l : List (κ × α)} {k : κ} {v : α} (h : l.length < 16777216) : dputO l k v = some (dput l k v) := by
  unfold dputO
  rw [if_pos (show l.length < LIM from h)]
end
theorem idE (ds : List D) : ds.map (E : D → D) = ds := List.map_id ds
theorem idE2 (l : List (L2.Key × D)) : (l.map fun p => (p.1, (E p.2 : D))) = l := by
  rw [show (fun p : L2.Key × D => (p.1, (E p.2 : D))) = id from rfl, List.map_id]
theorem copy_ok {n : Nat} : ∀ {d : D}, Pl n d → m_law_copy n d = some d := by
  induction n with
  | zero => intro d h; cases d <;> exact h.elim
  | succ n ih =>
    intro d h
    cases d with
    | non =>
      unfold m_law_copy; simp only [isi_NoneType_dict, isi_NoneType_list, isi_NoneType_tuple, ob, cF]
    | bl b =>
      unfold m_law_copy; simp only [isi_bool_dict, isi_bool_list, isi_bool_tuple, ob, cF]
    | int i =>
      unfold m_law_copy; simp only [isi_int_dict, isi_int_list, isi_int_tuple, ob, cF]
    | str x =>
      unfold m_law_copy; simp only [isi_str_dict, isi_str_list, isi_str_tuple, ob, cF]
    | lst ds =>
      unfold m_law_copy
      simp only [isi_list_dict, isi_list_list, ob, cF, cT]
      rw [show dLst (.lst ds) = some ds from rfl, ob, comp_id' h.1 (fun d hd => by unfold m_law_copy_c1; dsimp only; rw [ih (h.2 d hd)]; rfl), ob]
      show some (D.lst (ds.map E)) = _
      rw [idE]
    | tup ds =>
      unfold m_law_copy
      simp only [isi_tuple_dict, isi_tuple_list, isi_tuple_tuple, ob, cF, cT]
      rw [show dTup (.tup ds) = some ds from rfl, ob, comp_id' h.1 (fun d hd => by unfold m_law_copy_c2; dsimp only; rw [ih (h.2 d hd)]; rfl), ob]
      show some (D.tup (ds.map E)) = _
      rw [idE]
    | dct l =>
      obtain ⟨h1, h2, h3⟩ := h
      unfold m_law_copy
      simp only [isi_dict_dict, ob, cT]
      rw [show dDct (.dct l) = some l from rfl, ob]
      obtain ⟨s', e, q⟩ := loopN_inv (b := m_law_copy_l1 (m_law_copy n) (.dct l)) (fun i (s : Dct D) => s.l = l.take i) (xs := l.map (·.1)) (s := ⟨[]⟩) rfl fun i x s hx hs => by
        rw [List.getElem?_map] at hx
        obtain ⟨p, hp, rfl⟩ := Option.map_eq_some_iff.mp hx
        have hm := List.mem_of_getElem? hp
        have hi := (List.getElem?_eq_some_iff.mp hp).1
        unfold m_law_copy_l1
        rw [show dDct (.dct l) = some l from rfl]
        simp only [ob]
        rw [dget_mem (v := p.2) h2 hm, ob, ih (h3 p hm), ob, dputO_ok (by rw [hs, List.length_take]; omega), ob]
        refine ⟨_, rfl, ?_⟩
        show dput s.l p.1 p.2 = _
        rw [hs, dput_new]
        · rw [List.take_succ, hp]; rfl
        · intro hh
          rw [List.map_take] at hh
          obtain ⟨j, hj, e⟩ := List.mem_iff_getElem.mp hh
          rw [List.length_take] at hj
          rw [List.getElem_take] at e
          have hlen : (l.map (·.1)).length = l.length := List.length_map _
          have e2 : (l.map (·.1))[i]'(by rw [hlen]; exact hi) = p.1 := by
            rw [List.getElem_map, (List.getElem?_eq_some_iff.mp hp).2]
          exact List.pairwise_iff_getElem.mp h2 j i (by omega) (by omega) (by omega) (e.trans e2.symm)
      rw [e, ob]
      rw [List.length_map, List.take_length] at q
      show some (D.dct (s'.l.map fun p => (p.1, E p.2))) = _
      rw [idE2, q]
    | dctT l => exact h.elim
    | adr a => exact h.elim
    | ty a => exact h.elim
theorem neLT : ("L" : Str) ≠ ("T" : Str) := by decide +kernel
theorem row_ok {d : D} {k : Str} {n : Int} (hL : k = "L" → dIsi d "list" = some true) (hT : k = "T" → dIsi d "tuple" = some true) (hn : dLenA d = some n) : m_law_is_row d k n = some true := by
  unfold m_law_is_row
  have e1 : (cond (decide (k = ("L" : Str))) (obind (dIsi d "list") fun (b_4 : Bool) => some (!b_4)) (some false)) = some false := by
    by_cases z : k = "L"
    · rw [decide_eq_true z, cT, hL z]; rfl
    · rw [decide_eq_false z]; rfl
  have e2 : (cond (decide (k = ("T" : Str))) (obind (dIsi d "tuple") fun (b_4 : Bool) => some (!b_4)) (some false)) = some false := by
    by_cases z : k = "T"
    · rw [decide_eq_true z, cT, hT z]; rfl
    · rw [decide_eq_false z]; rfl
  rw [e1, ob, cF, e2, ob, cF, cF, hn]
  simp only [ob, decide_true]
theorem loopM_all {α R : Type} {b : α → Unit → Option (Ctl Unit R)} : ∀ {xs : List α}, (∀ x ∈ xs, b x () = some (.nx ())) → loopM b xs () = some (.nx ())
  | [], _ => rfl
  | x :: xs, h => by
    unfold loopM
    rw [h x (List.mem_cons_self ..)]
    exact loopM_all fun y hy => h y (List.mem_cons_of_mem _ hy)
theorem seq_same {n : Nat} {d : D} {ds : List D} (hl : ds.length < 16777216) (hix : ∀ i, dIx d i = atI ds i) (h : ∀ x ∈ ds, m_law_same n x x = some true) :
    loopM (m_law_same_l1 (m_law_same n) d d) ((List.range (ds.length : Int).toNat).map fun (i : Nat) => (i : Int)) () = some (.nx ()) := by
  refine loopM_all fun x hx => ?_
  obtain ⟨i, hi, rfl⟩ := List.mem_map.mp hx
  have hi' := List.mem_range.mp hi
  obtain ⟨y, e, hy⟩ := atI_get (xs := ds) (i := (i : Int)) (by omega) (by omega)
  unfold m_law_same_l1
  dsimp only
  rw [hix, e]
  simp only [ob]
  rw [h y (List.mem_of_getElem? hy)]
  rfl
theorem same_non (n : Nat) : m_law_same (n + 1) .non .non = some true := by
  unfold m_law_same; simp only [isi_NoneType_dict, isi_NoneType_list, isi_NoneType_tuple, isi_NoneType_bool, isi_NoneType_int, isi_NoneType_str, ob, cF]; rfl
theorem same_bl (n : Nat) (a b : Bool) : m_law_same (n + 1) (.bl a) (.bl b) = some (decide (a = b)) := by
  unfold m_law_same; simp only [isi_bool_dict, isi_bool_list, isi_bool_tuple, isi_bool_bool, ob, cF, cT, dEq]
theorem same_int (n : Nat) (i : Int) : m_law_same (n + 1) (.int i) (.int i) = some true := by
  unfold m_law_same; simp only [isi_int_dict, isi_int_list, isi_int_tuple, isi_int_bool, isi_int_str, isi_int_int, ob, cF, cT, Bool.not_false]
  rw [show dEq (.int i) (.int i) = some (decide (i = i)) from rfl, ob, decide_eq_true rfl, ob, ob]
theorem same_str (n : Nat) (i : Str) : m_law_same (n + 1) (.str i) (.str i) = some true := by
  unfold m_law_same; simp only [isi_str_dict, isi_str_list, isi_str_tuple, isi_str_bool, isi_str_str, isi_str_int, ob, cF, cT, Bool.not_false]
  rw [show dEq (.str i) (.str i) = some (decide (i = i)) from rfl, ob, decide_eq_true rfl, ob]
theorem same_lst {n : Nat} {ds : List D} (h1 : ds.length < 16777216) (ih : ∀ x ∈ ds, m_law_same n x x = some true) : m_law_same (n + 1) (.lst ds) (.lst ds) = some true := by
  unfold m_law_same
  rw [isi_list_tuple, ob, cF, isi_list_list, ob, ob, cT, ob, show dLenA (.lst ds) = some (ds.length : Int) from rfl, ob, cF]
  rw [row_ok (fun _ => isi_list_list ds) (fun e => absurd e neLT) (show dLenA (.lst ds) = some (ds.length : Int) from rfl), ob, Bool.not_true, cF, ob]
  rw [rngL_ok (by omega) (by omega), ob, seq_same h1 (fun _ => rfl) ih]
  rfl
theorem same_tup {n : Nat} {ds : List D} (h1 : ds.length < 16777216) (ih : ∀ x ∈ ds, m_law_same n x x = some true) : m_law_same (n + 1) (.tup ds) (.tup ds) = some true := by
  unfold m_law_same
  rw [isi_tuple_tuple, ob, cT, ob, cT, ob, show dLenA (.tup ds) = some (ds.length : Int) from rfl, ob, cT]
  rw [row_ok (fun e => absurd e.symm neLT) (fun _ => isi_tuple_tuple ds) (show dLenA (.tup ds) = some (ds.length : Int) from rfl), ob, Bool.not_true, cF, ob]
  rw [rngL_ok (by omega) (by omega), ob, seq_same h1 (fun _ => rfl) ih]
  rfl
theorem same_dct {n : Nat} {l : List (L2.Key × D)} (h2 : (l.map (·.1)).Nodup) (ih : ∀ p ∈ l, m_law_same n p.2 p.2 = some true) : m_law_same (n + 1) (.dct l) (.dct l) = some true := by
  unfold m_law_same
  rw [isi_dict_tuple, ob, cF, isi_dict_list, ob, ob, cF, isi_dict_dict, ob, cT, ob, Bool.not_true, cF, show dLenA (.dct l) = some (l.length : Int) from rfl, ob, ob, decide_eq_true rfl, Bool.not_true, ob, cF, show dDct (.dct l) = some l from rfl, ob]
  rw [loopM_all fun k hk => by
    obtain ⟨p, hp, rfl⟩ := List.mem_map.mp hk
    unfold m_law_same_l2
    dsimp only
    rw [show dDct (.dct l) = some l from rfl, ob, dhas_iff.mpr hk, Bool.not_true, cF, ob, dget_mem (v := p.2) h2 hp, ob, ob, dget_mem (v := p.2) h2 hp, ob, ih p hp, ob, Bool.not_true, ob, cF]]
  rfl
theorem same_ok {n : Nat} : ∀ {d : D}, Pl n d → m_law_same n d d = some true := by
  induction n with
  | zero => intro d h; cases d <;> exact h.elim
  | succ n ih =>
    intro d h
    cases d with
    | non => exact same_non n
    | bl b => rw [same_bl, decide_eq_true rfl]
    | int i => exact same_int n i
    | str i => exact same_str n i
    | lst ds => exact same_lst h.1 fun x hx => ih (h.2 x hx)
    | tup ds => exact same_tup h.1 fun x hx => ih (h.2 x hx)
    | dct l => exact same_dct h.2.1 fun p hp => ih (h.2.2 p hp)
    | dctT l => exact h.elim
    | adr a => exact h.elim
    | ty a => exact h.elim
/-- what the law asks of a value -/
theorem judged_ok {d : D} {b : Bool} (h : Pl 8 d) (hr : m_is_ringless d = some b) : m_law_judged d b = some true := by
  unfold m_law_judged
  rw [copy_ok h, ob, hr, ob, show m_law_same 8 (E b) (E b) = some true by show m_law_same 8 (.bl b) (.bl b) = _; rw [same_bl]; simp, ob]
  simp only [Bool.not_true, cF]
  rw [same_ok h]
  rfl
end K24

set_option Elab.async false
set_option linter.all false
set_option autoImplicit false
set_option maxRecDepth 100000
set_option maxHeartbeats 4000000
/-! tables and rings -/
namespace K24
open PySem L2 Ly
abbrev ND := Int × Int
abbrev RW := ND × ND
structure OkR (r : RW) : Prop where
  a : 0 ≤ r.1.1
  b : 0 ≤ r.1.2
  c : 0 ≤ r.2.1
  d : 0 ≤ r.2.2
theorem pair_ok (p : ND) : m_is_pair (E p) = some true := by
  unfold m_is_pair
  rw [show (E p : D) = .tup [.int p.1, .int p.2] from rfl, isi_tuple_tuple, ob, Bool.not_true, cF, show dLenA (.tup [.int p.1, .int p.2]) = some 2 from rfl, ob, ob, show (!decide ((2 : Int) = 2)) = false by decide, cF, show dTup (.tup [.int p.1, .int p.2]) = some [.int p.1, .int p.2] from rfl, ob]
  have h : ∀ i : Int, m_is_pair_c1 (.int i) () = some (some true, ()) := fun i => by
    unfold m_is_pair_c1
    dsimp only
    rw [isi_int_int, ob, cT, isi_int_bool, ob, Bool.not_false, ob]
  have e : comp m_is_pair_c1 [.int p.1, .int p.2] () = some ([true, true], ()) := by
    unfold comp
    rw [if_pos (show [D.int p.1, D.int p.2].length ≤ LIM from by show 2 ≤ LIM; decide)]
    unfold compM; rw [h]; dsimp only
    unfold compM; rw [h]; dsimp only
    unfold compM; dsimp only
  rw [e, ob]
  rfl
theorem minL4 {a b c d : Int} (ha : 0 ≤ a) (hb : 0 ≤ b) (hc : 0 ≤ c) (hd : 0 ≤ d) : ∃ m, minL [a, b, c, d] = some m ∧ 0 ≤ m := by
  refine ⟨_, rfl, ?_⟩
  simp only [List.foldl]
  split <;> split <;> split <;> omega
theorem row_true {r : RW} (h : OkR r) : m_is_row (E r) = some true := by
  obtain ⟨m, hm, h0⟩ := minL4 h.a h.b h.c h.d
  unfold m_is_row
  rw [show (E r : D) = .tup [E r.1, E r.2] from rfl, isi_tuple_tuple, ob, Bool.not_true, cF, show dLenA (.tup [E r.1, E r.2]) = some 2 from rfl, ob, show (!decide ((2 : Int) = 2)) = false by decide, cF, show dIx (.tup [E r.1, E r.2]) 0 = some (E r.1) from rfl, ob, pair_ok, ob, Bool.not_true, cF,
    show dIx (.tup [E r.1, E r.2]) 1 = some (E r.2) from rfl, ob, pair_ok, ob, Bool.not_true, ob, ob, ob, cF, ob, ob]
  rw [show dCat (E r.1) (E r.2) = some (.tup [.int r.1.1, .int r.1.2, .int r.2.1, .int r.2.2]) from rfl, ob, show dMin (.tup [.int r.1.1, .int r.1.2, .int r.2.1, .int r.2.2]) = minL [r.1.1, r.1.2, r.2.1, r.2.2] from rfl, hm, ob, decide_eq_true h0]
/-- a way through the rows ends -/
inductive Tm (S : List RW) : ND → Prop
  | out {x : ND} : (∀ y, (x, y) ∉ S) → Tm S x
  | step {x y : ND} : (x, y) ∈ S → Tm S y → Tm S x
inductive Rch (S : List RW) : ND → ND → Prop
  | one {x y : ND} : (x, y) ∈ S → Rch S x y
  | step {x y z : ND} : (x, y) ∈ S → Rch S y z → Rch S x z
section
variable {S : List RW}
abbrev keys (S : List RW) : List ND := S.map (·.1)
theorem det (hn : (keys S).Nodup) {x y z : ND} (h1 : (x, y) ∈ S) (h2 : (x, z) ∈ S) : y = z := by
  have a := dget_mem hn h1
  have b := dget_mem hn h2
  rw [a] at b
  exact Option.some.inj b
theorem Rch.snoc {x y z : ND} (h : Rch S x y) (h2 : (y, z) ∈ S) : Rch S x z := by
  induction h with
  | one h => exact .step h (.one h2)
  | step h _ ih => exact .step h (ih h2)
theorem Tm.fwd (hn : (keys S).Nodup) {x y : ND} (h : Rch S x y) (t : Tm S x) : Tm S y := by
  induction h with
  | one h => cases t with
    | out o => exact absurd h (o _)
    | step h' t => rw [det hn h h']; exact t
  | step h _ ih => cases t with
    | out o => exact absurd h (o _)
    | step h' t => rw [← det hn h h'] at t; exact ih t
theorem Tm.bwd {x y : ND} (h : Rch S x y) (t : Tm S y) : Tm S x := by
  induction h with
  | one h => exact .step h t
  | step h _ ih => exact .step h (ih t)
theorem Tm.no (hn : (keys S).Nodup) {x : ND} (t : Tm S x) : ¬ Rch S x x := by
  induction t with
  | out o => intro h; cases h with
    | one h => exact o _ h
    | step h _ => exact o _ h
  | @step x y h t ih =>
    intro r
    apply ih
    cases r with
    | one h' => rw [det hn h h']; exact .one h'
    | @step _ z _ h' r => rw [det hn h h']; exact r.snoc h'
theorem nodup_len {α : Type} [DecidableEq α] : ∀ {l k : List α}, l.Nodup → (∀ x ∈ l, x ∈ k) → l.length ≤ k.length
  | [], _, _, _ => Nat.zero_le _
  | x :: l, k, hn, hs => by
    rw [List.nodup_cons] at hn
    have hx := hs x (List.mem_cons_self ..)
    have h := nodup_len (l := l) (k := k.erase x) hn.2 fun y hy => (List.mem_erase_of_ne (fun e : y = x => hn.1 (by rw [← e]; exact hy))).mpr (hs y (List.mem_cons_of_mem _ hy))
    have hl := List.length_erase_of_mem hx
    have hp : 0 < k.length := List.length_pos_of_mem hx
    rw [List.length_cons]; omega
/-- the dict of the rows -/
def ysOf (S : List RW) : List (List L2.Key × D) := S.map fun r => (kN r.1, E r.2)
def mk1 (w : List ND) : DctT Bool := ⟨w.map fun x => (kN x, true)⟩
theorem ys_keys : (ysOf S).map (·.1) = (keys S).map kN := by
  unfold ysOf keys
  rw [List.map_map, List.map_map]
  rfl
theorem mk1_keys {w : List ND} : (mk1 w).l.map (·.1) = w.map kN := by
  unfold mk1
  rw [List.map_map]
  rfl
theorem mem_kN {w : List ND} {x : ND} : kN x ∈ w.map kN ↔ x ∈ w := by
  constructor
  · intro h
    obtain ⟨y, hy, e⟩ := List.mem_map.mp h
    rw [← kN_inj e]; exact hy
  · intro h
    exact List.mem_map.mpr ⟨x, h, rfl⟩
theorem nodup_kN {w : List ND} (h : w.Nodup) : (w.map kN).Nodup := by
  unfold List.Nodup
  rw [List.pairwise_map]
  exact List.Pairwise.imp (fun hne e => hne (kN_inj e)) h
theorem has_ys {x : ND} : dhas (ysOf S) (kN x) = decide (x ∈ keys S) := by
  by_cases h : x ∈ keys S
  · rw [decide_eq_true h, dhas_iff, ys_keys, mem_kN]; exact h
  · rw [decide_eq_false h, dhas_not, ys_keys, mem_kN]; exact h
theorem has_mk {w : List ND} {x : ND} : dhas (mk1 w).l (kN x) = decide (x ∈ w) := by
  by_cases h : x ∈ w
  · rw [decide_eq_true h, dhas_iff, mk1_keys, mem_kN]; exact h
  · rw [decide_eq_false h, dhas_not, mk1_keys, mem_kN]; exact h
theorem get_ys (hn : (keys S).Nodup) {x y : ND} (h : (x, y) ∈ S) : dget (ysOf S) (kN x) = some (E y) :=
  dget_mem (by rw [ys_keys]; exact nodup_kN hn) (List.mem_map.mpr ⟨(x, y), h, rfl⟩)
theorem put_mk {w : List ND} {x : ND} (h : x ∉ w) (hl : w.length < 16777216) : dputO (mk1 w).l (kN x) true = some (mk1 (w ++ [x])).l := by
  rw [dputO_ok (by unfold mk1; rw [List.length_map]; exact hl), dput_new (by rw [mk1_keys, mem_kN]; exact h)]
  unfold mk1
  rw [List.map_append]
  rfl
theorem tk_nd (x : ND) : dTK (E x) = some ⟨kN x⟩ := rfl
theorem wc_ok {e w : List ND} {h : ND} : m_is_ringless_w1c (ysOf S) (mk1 e) (E h, mk1 w) = some (decide (h ∈ keys S) && (!decide (h ∈ e) && !decide (h ∈ w))) := by
  unfold m_is_ringless_w1c
  dsimp only
  rw [tk_nd, ob, has_ys]
  by_cases a : h ∈ keys S
  · rw [decide_eq_true a, cT, ob, has_mk]
    by_cases b : h ∈ e
    · rw [decide_eq_true b, Bool.not_true, cF, ob, ob]; rfl
    · rw [decide_eq_false b, Bool.not_false, cT, ob, has_mk, ob, ob]; rfl
  · rw [decide_eq_false a, cF, ob]; rfl
/-- one way -/
theorem way_ok (hn : (keys S).Nodup) (hl : S.length < 90000) {e : List ND} : ∀ {n : Nat} {w : List ND} {h : ND}, S.length < n + w.length → w.Nodup → (∀ x ∈ w, x ∈ keys S) → (∀ x ∈ w, x ∉ e) → (∀ x ∈ w, Rch S x h) →
    ∃ w' h', whileM (m_is_ringless_w1c (ysOf S) (mk1 e)) (m_is_ringless_w1 (ysOf S) (mk1 e)) n (E h, mk1 w) = some (.nx (E h', mk1 w')) ∧ w'.Nodup ∧ (∀ x ∈ w', x ∈ keys S) ∧ (∀ x ∈ w', x ∉ e) ∧ (∀ x ∈ w', Rch S x h') ∧ (h' ∉ keys S ∨ h' ∈ e ∨ h' ∈ w') ∧ (∀ x ∈ w, x ∈ w') ∧ (h = h' ∨ h ∈ w')
  | 0, w, h, hlt, nw, kw, _, _ => by
    have := nodup_len nw kw
    rw [List.length_map] at this
    omega
  | n + 1, w, h, hlt, nw, kw, ew, rw_ => by
    unfold whileM
    rw [wc_ok]
    by_cases c : h ∈ keys S ∧ h ∉ e ∧ h ∉ w
    · obtain ⟨c1, c2, c3⟩ := c
      rw [decide_eq_true c1, decide_eq_false c2, decide_eq_false c3]
      simp only [Bool.not_false, Bool.and_self]
      obtain ⟨⟨x, y⟩, hr, rfl⟩ := List.mem_map.mp c1
      have hlen := nodup_len nw kw
      rw [List.length_map] at hlen
      have step : m_is_ringless_w1 (ysOf S) (mk1 e) (E x, mk1 w) = some (.nx (E y, mk1 (w ++ [x]))) := by
        unfold m_is_ringless_w1
        dsimp only
        rw [tk_nd, ob, put_mk c3 (by omega), ob, ob, get_ys hn hr, ob]
      rw [step]
      simp only
      have nw' : (w ++ [x]).Nodup := by
        rw [List.nodup_append]
        refine ⟨nw, by simp, fun a ha b hb => ?_⟩
        rw [List.mem_singleton] at hb
        subst hb
        intro e'
        subst e'
        exact c3 ha
      obtain ⟨w', h', q1, q2, q3, q4, q5, q6, q7, q8⟩ := way_ok hn hl (e := e) (n := n) (w := w ++ [x]) (h := y) (by rw [List.length_append]; simp; omega) nw'
        (fun z hz => by
          rcases List.mem_append.mp hz with hz | hz
          · exact kw z hz
          · rw [List.mem_singleton] at hz; rw [hz]; exact c1)
        (fun z hz => by
          rcases List.mem_append.mp hz with hz | hz
          · exact ew z hz
          · rw [List.mem_singleton] at hz; rw [hz]; exact c2)
        (fun z hz => by
          rcases List.mem_append.mp hz with hz | hz
          · exact (rw_ z hz).snoc hr
          · rw [List.mem_singleton] at hz; rw [hz]; exact .one hr)
      exact ⟨w', h', q1, q2, q3, q4, q5, q6, fun z hz => q7 z (List.mem_append_left _ hz), .inr (q7 x (List.mem_append_right _ (List.mem_singleton.mpr rfl)))⟩
    · have : (decide (h ∈ keys S) && (!decide (h ∈ e) && !decide (h ∈ w))) = false := by
        rw [Bool.eq_false_iff]
        intro hh
        simp only [Bool.and_eq_true, Bool.not_eq_true', decide_eq_true_eq, decide_eq_false_iff_not] at hh
        exact c hh
      rw [this]
      refine ⟨w, h, rfl, nw, kw, ew, rw_, ?_, fun _ z => z, .inl rfl⟩
      by_cases a : h ∈ keys S
      · by_cases b : h ∈ e
        · exact .inr (.inl b)
        · by_cases d : h ∈ w
          · exact .inr (.inr d)
          · exact absurd ⟨a, b, d⟩ c
      · exact .inl a
theorem merge_mk : ∀ {w e : List ND}, w.Nodup → (∀ x ∈ w, x ∉ e) → mergeT (mk1 e).l (mk1 w).l = (mk1 (e ++ w)).l
  | [], e, _, _ => by
    rw [List.append_nil]
    rfl
  | x :: w, e, hn, hd => by
    rw [List.nodup_cons] at hn
    show mergeT (dput (mk1 e).l (kN x) true) (mk1 w).l = _
    have h1 : dput (mk1 e).l (kN x) true = (mk1 (e ++ [x])).l := by
      rw [dput_new (by rw [mk1_keys, mem_kN]; exact hd x (List.mem_cons_self ..))]
      unfold mk1
      rw [List.map_append]
      rfl
    rw [h1, merge_mk hn.2 fun y hy hm => ?_]
    · rw [List.append_assoc]; rfl
    · rcases List.mem_append.mp hm with hm | hm
      · exact hd y (List.mem_cons_of_mem _ hy) hm
      · rw [List.mem_singleton] at hm
        subst hm
        exact hn.1 hy
/-- all ways -/
theorem ways_ok (hn : (keys S).Nodup) (hl : S.length < 90000) (hok : ∀ x ∈ keys S, OkN x) : ∀ {ns e : List ND}, (∀ x ∈ ns, x ∈ keys S) → e.Nodup → (∀ x ∈ e, x ∈ keys S) → (∀ x ∈ e, Tm S x) →
    (loopM (m_is_ringless_l1 (ysOf S)) (ns.map fun x => (⟨kN x⟩ : TK)) (mk1 e) = some (.rt false) ∧ ∃ x ∈ keys S, ¬ Tm S x) ∨
    ((∃ s, loopM (m_is_ringless_l1 (ysOf S)) (ns.map fun x => (⟨kN x⟩ : TK)) (mk1 e) = some (.nx s)) ∧ ∀ x ∈ ns, Tm S x)
  | [], e, _, _, _, _ => .inr ⟨⟨_, rfl⟩, fun x hx => nomatch hx⟩
  | x :: ns, e, hk, ne, ke, te => by
    obtain ⟨w', h', q1, q2, q3, q4, q5, q6, q7, q8⟩ := way_ok hn hl (e := e) (n := 100000) (w := []) (h := x) (by simp; omega) List.nodup_nil (fun _ z => nomatch z) (fun _ z => nomatch z) (fun _ z => nomatch z)
    have ew : whileN (m_is_ringless_w1c (ysOf S) (mk1 e)) (m_is_ringless_w1 (ysOf S) (mk1 e)) 100000 ((E (⟨kN x⟩ : TK)), (⟨[]⟩ : (DctT Bool))) = some (E h', mk1 w') := by
      unfold whileN
      rw [show ((E (⟨kN x⟩ : TK)), (⟨[]⟩ : (DctT Bool))) = (E x, mk1 []) from rfl, q1]
    rw [List.map_cons]
    by_cases hc : h' ∈ w'
    · left
      have body : m_is_ringless_l1 (ysOf S) ⟨kN x⟩ (mk1 e) = some (.rt false) := by
        unfold m_is_ringless_l1
        dsimp only
        rw [ew, ob]
        dsimp only
        rw [tk_nd, ob]
        dsimp only
        rw [has_mk, decide_eq_true hc, cT]
      refine ⟨?_, h', q3 h' hc, fun t => t.no hn (q5 h' hc)⟩
      unfold loopM
      rw [body]
    · have th : Tm S h' := by
        rcases q6 with q | q | q
        · exact .out fun y hy => q (List.mem_map.mpr ⟨_, hy, rfl⟩)
        · exact te _ q
        · exact absurd q hc
      have tw : ∀ y ∈ w', Tm S y := fun y hy => Tm.bwd (q5 y hy) th
      have tx : Tm S x := by
        rcases q8 with q | q
        · rw [q]; exact th
        · exact tw x q
      have le := nodup_len ne ke
      have lw := nodup_len q2 q3
      rw [List.length_map] at le lw
      have hup : updO (mk1 e).l (mk1 w').l = some (mk1 (e ++ w')).l := by
        unfold updO
        rw [if_pos, merge_mk q2 q4]
        refine ⟨?_, ?_⟩
        · show (e.map _).length + (w'.map _).length ≤ 16777216
          rw [List.length_map, List.length_map]; omega
        · cases e with
          | cons _ _ => left; rfl
          | nil => right; exact hashOk_of (ps := w') mk1_keys (fun p hp => hok p (q3 p hp)) q2
      have body : m_is_ringless_l1 (ysOf S) ⟨kN x⟩ (mk1 e) = some (.nx (mk1 (e ++ w'))) := by
        unfold m_is_ringless_l1
        dsimp only
        rw [ew, ob]
        dsimp only
        rw [tk_nd, ob]
        dsimp only
        rw [has_mk, decide_eq_false hc, cF, hup, ob]
      have nd : (e ++ w').Nodup := by
        rw [List.nodup_append]
        exact ⟨ne, q2, fun a ha b hb e' => q4 b hb (e' ▸ ha)⟩
      have r := ways_ok hn hl hok (ns := ns) (e := e ++ w') (fun y hy => hk y (List.mem_cons_of_mem _ hy)) nd
        (fun y hy => by rcases List.mem_append.mp hy with hy | hy; exact ke y hy; exact q3 y hy)
        (fun y hy => by rcases List.mem_append.mp hy with hy | hy; exact te y hy; exact tw y hy)
      unfold loopM
      rw [body]
      rcases r with r | ⟨r1, r2⟩
      · exact .inl r
      · refine .inr ⟨r1, fun y hy => ?_⟩
        rcases List.mem_cons.mp hy with rfl | hy
        · exact tx
        · exact r2 y hy
theorem dcomp_ok {f : D → Option (Option (List L2.Key × D))} : ∀ {T : List RW} {A : List RW}, (∀ r ∈ T, f (E r) = some (some (kN r.1, E r.2))) → (keys (A ++ T)).Nodup → (A ++ T).length < 16777216 → dcompM f (T.map E) (ysOf A) = some (ysOf (A ++ T))
  | [], A, _, _, _ => by rw [List.append_nil]; rfl
  | r :: T, A, hf, hn, hl => by
    rw [List.map_cons]
    unfold dcompM
    rw [hf r (List.mem_cons_self ..)]
    dsimp only
    have hr : r.1 ∉ keys A := by
      unfold keys at hn ⊢
      rw [List.map_append, List.nodup_append] at hn
      exact fun h => hn.2.2 _ h _ (List.mem_map.mpr ⟨r, List.mem_cons_self .., rfl⟩) rfl
    rw [dputO_ok (by unfold ysOf; rw [List.length_map]; rw [List.length_append] at hl; omega), dput_new (by rw [ys_keys, mem_kN]; exact hr)]
    dsimp only
    have e : ysOf A ++ [(kN r.1, E r.2)] = ysOf (A ++ [r]) := by unfold ysOf; rw [List.map_append]; rfl
    have e2 : A ++ r :: T = (A ++ [r]) ++ T := by simp
    rw [e, e2]
    exact dcomp_ok (fun x hx => hf x (List.mem_cons_of_mem _ hx)) (by rw [← e2]; exact hn) (by rw [← e2]; exact hl)
theorem c2_ok (r : RW) : m_is_ringless_c2 (E r) = some (some (kN r.1, E r.2)) := by
  unfold m_is_ringless_c2
  rw [show (E r : D) = .tup [E r.1, E r.2] from rfl]
  dsimp only
  rw [show dIx (.tup [E r.1, E r.2]) 0 = some (E r.1) from rfl, ob, tk_nd, ob, show dIx (.tup [E r.1, E r.2]) 1 = some (E r.2) from rfl, ob]
theorem c1_all {ds : List D} (h : ∀ d ∈ ds, ∃ b, m_is_row d = some b) : ∃ bs, compM m_is_ringless_c1 ds () = some (bs, ()) ∧ (bs.all id = true ↔ ∀ d ∈ ds, m_is_row d = some true) := by
  induction ds with
  | nil => exact ⟨[], rfl, by simp⟩
  | cons d ds ih =>
    obtain ⟨bs, e, q⟩ := ih fun x hx => h x (List.mem_cons_of_mem _ hx)
    obtain ⟨b, hb⟩ := h d (List.mem_cons_self ..)
    refine ⟨b :: bs, ?_, ?_⟩
    · unfold compM
      rw [show m_is_ringless_c1 d () = some (some b, ()) by unfold m_is_ringless_c1; dsimp only; rw [hb, ob]]
      dsimp only
      rw [e]
    · rw [List.all_cons, Bool.and_eq_true, q, List.forall_mem_cons, hb]
      simp
/-- a list whose items are no rows -/
theorem bad_rows {ds : List D} (hl : ds.length < 16777216) (h : ∀ d ∈ ds, ∃ b, m_is_row d = some b) (hb : ∃ d ∈ ds, m_is_row d = some false) : m_is_ringless (.lst ds) = some false := by
  obtain ⟨bs, e, q⟩ := c1_all h
  have hf : bs.all id = false := by
    rw [Bool.eq_false_iff]
    intro z
    obtain ⟨d, hd, e'⟩ := hb
    have := q.mp z d hd
    rw [e'] at this
    cases this
  unfold m_is_ringless
  rw [isi_list_list, ob, Bool.not_true, cF, show dLst (.lst ds) = some ds from rfl, ob, show comp m_is_ringless_c1 ds () = some (bs, ()) by unfold comp; rw [if_pos (show ds.length ≤ LIM from (by show _ ≤ 16777216; omega)), e], ob]
  dsimp only
  rw [hf, Bool.not_false, ob, cT]
theorem no_list {d : D} (h : dIsi d "list" = some false) : m_is_ringless d = some false := by
  unfold m_is_ringless
  rw [h, ob, Bool.not_false, cT, ob, cT]
theorem rows_true {T : List RW} (h : ∀ r ∈ T, OkR r) (hl : T.length < 16777216) : ∃ bs, comp m_is_ringless_c1 (T.map E) () = some (bs, ()) ∧ bs.all id = true := by
  obtain ⟨bs, e, q⟩ := c1_all (ds := T.map E) fun d hd => by
    obtain ⟨r, hr, rfl⟩ := List.mem_map.mp hd
    exact ⟨true, row_true (h r hr)⟩
  refine ⟨bs, by unfold comp; rw [if_pos (show (T.map (E : RW → D)).length ≤ LIM from (by rw [List.length_map]; show _ ≤ 16777216; omega)), e], q.mpr fun d hd => ?_⟩
  obtain ⟨r, hr, rfl⟩ := List.mem_map.mp hd
  exact row_true (h r hr)
/-- the law's word about a table -/
theorem ringless_ok (hn : (keys S).Nodup) (hl : S.length < 90000) (hok : ∀ x ∈ keys S, OkN x) (hr : ∀ r ∈ S, OkR r) :
    ((∃ x ∈ keys S, ¬ Tm S x) → m_is_ringless (E S) = some false) ∧ ((∀ x ∈ keys S, Tm S x) → m_is_ringless (E S) = some true) := by
  obtain ⟨bs, e, q⟩ := rows_true hr (by omega)
  have hc : dcomp m_is_ringless_c2 (S.map E) = some (ysOf S) := dcomp_ok (A := []) (fun r _ => c2_ok r) hn (by simp; omega)
  have hk : ((ysOf S).map fun kv => (⟨kv.1⟩ : TK)) = (keys S).map fun x => (⟨kN x⟩ : TK) := by
    unfold ysOf keys
    rw [List.map_map, List.map_map]
    rfl
  have hw := ways_ok hn hl hok (ns := keys S) (e := []) (fun _ z => z) List.nodup_nil (fun _ z => nomatch z) (fun _ z => nomatch z)
  have main : m_is_ringless (E S) = obind (loopM (m_is_ringless_l1 (ysOf S)) ((keys S).map fun x => (⟨kN x⟩ : TK)) (mk1 [])) fun c => ctl c (fun (_ : DctT Bool) => some true) (fun r => some r) := by
    unfold m_is_ringless
    rw [show (E S : D) = .lst (S.map E) from rfl, isi_list_list, ob, Bool.not_true, cF, show dLst (.lst (S.map E)) = some (S.map (E : RW → D)) from rfl, ob, e, ob]
    dsimp only
    rw [q, Bool.not_true, ob, cF, ob, hc, ob, show dLenA (.lst (S.map E)) = some ((S.map (E : RW → D)).length : Int) from rfl, ob]
    rw [show (ysOf S).length = (S.map (E : RW → D)).length by unfold ysOf; rw [List.length_map, List.length_map], decide_eq_true rfl, Bool.not_true, cF, hk]
    rfl
  refine ⟨fun h => ?_, fun h => ?_⟩
  · rcases hw with ⟨w, _⟩ | ⟨_, w⟩
    · rw [main, w]; rfl
    · obtain ⟨x, hx, hnx⟩ := h
      exact absurd (w x hx) hnx
  · rcases hw with ⟨_, x, hx, hnx⟩ | ⟨⟨s, w⟩, _⟩
    · exact absurd (h x hx) hnx
    · rw [main, w]; rfl
/-- a node twice -/
theorem dcomp_len {f : D → Option (Option (List L2.Key × D))} : ∀ {T : List RW} {acc : List (List L2.Key × D)}, (∀ r ∈ T, f (E r) = some (some (kN r.1, E r.2))) → acc.length + T.length < 16777216 →
    ∃ ys, dcompM f (T.map E) acc = some ys ∧ ys.length ≤ acc.length + T.length ∧ ((¬ (keys T).Nodup ∨ ∃ r ∈ T, kN r.1 ∈ acc.map (·.1)) → ys.length < acc.length + T.length)
  | [], acc, _, _ => ⟨acc, rfl, Nat.le_refl _, fun h => by
      rcases h with h | ⟨r, hr, _⟩
      · exact absurd List.nodup_nil h
      · cases hr⟩
  | r :: T, acc, hf, hl => by
    have hstep : dcompM f ((r :: T).map E) acc = dcompM f (T.map E) (dput acc (kN r.1) (E r.2)) := by
      rw [List.map_cons]
      conv => lhs; unfold dcompM
      rw [hf r (List.mem_cons_self ..)]
      dsimp only
      rw [dputO_ok (by omega)]
    rw [List.length_cons] at hl
    have hd : (dput acc (kN r.1) (E r.2 : D)).length ≤ acc.length + 1 := length_dput
    obtain ⟨ys, e, q1, q2⟩ := dcomp_len (T := T) (acc := dput acc (kN r.1) (E r.2)) (fun x hx => hf x (List.mem_cons_of_mem _ hx)) (by omega)
    rw [hstep, List.length_cons]
    refine ⟨ys, e, by omega, fun h => ?_⟩
    by_cases c : kN r.1 ∈ acc.map (·.1)
    · have := dput_old (v := (E r.2 : D)) c
      omega
    · have hnew := dput_new (v := (E r.2 : D)) c
      have : (¬ (keys T).Nodup ∨ ∃ r' ∈ T, kN r'.1 ∈ (dput acc (kN r.1) (E r.2)).map (·.1)) := by
        rw [hnew, List.map_append]
        rcases h with h | ⟨r', hr', hm⟩
        · rw [show keys (r :: T) = r.1 :: keys T from rfl, List.nodup_cons] at h
          by_cases c2 : r.1 ∈ keys T
          · obtain ⟨r', hr', e'⟩ := List.mem_map.mp c2
            exact .inr ⟨r', hr', List.mem_append_right _ (by simp [e'])⟩
          · exact .inl fun z => h ⟨c2, z⟩
        · rcases List.mem_cons.mp hr' with rfl | hr'
          · exact absurd hm c
          · exact .inr ⟨r', hr', List.mem_append_left _ hm⟩
      have := q2 this
      omega
theorem dup_rows (hn : ¬ (keys S).Nodup) (hl : S.length < 90000) (hr : ∀ r ∈ S, OkR r) : m_is_ringless (E S) = some false := by
  obtain ⟨bs, e, q⟩ := rows_true hr (by omega)
  obtain ⟨ys, hc, _, hlt⟩ := dcomp_len (f := m_is_ringless_c2) (T := S) (acc := []) (fun r _ => c2_ok r) (by simp; omega)
  have hlt := hlt (.inl hn)
  unfold m_is_ringless
  rw [show (E S : D) = .lst (S.map E) from rfl, isi_list_list, ob, Bool.not_true, cF, show dLst (.lst (S.map E)) = some (S.map (E : RW → D)) from rfl, ob, e, ob]
  dsimp only
  rw [q, Bool.not_true, ob, cF, ob, show dcomp m_is_ringless_c2 (S.map E) = some ys from hc, ob, show dLenA (.lst (S.map E)) = some ((S.map (E : RW → D)).length : Int) from rfl, ob]
  rw [decide_eq_false (by rw [List.length_map]; simp at hlt; omega), Bool.not_false, cT]
end
end K24

set_option Elab.async false
set_option linter.all false
set_option autoImplicit false
set_option maxRecDepth 100000
set_option maxHeartbeats 4000000
/-! the law's tables -/
namespace K24
open PySem L2 Ly
def outer (x : ND) : Prop := x = (0, 0) ∨ x = (9000, 1) ∨ x = (0, 3)
structure TB (n : Nat) (S : List RW) : Prop where
  len : S.length = n
  node : ∀ (i : Nat) (r : RW), S[i]? = some r → 3 * (i : Int) + 1 ≤ r.1.1 ∧ r.1.1 ≤ 3 * (i : Int) + 3 ∧ 1 ≤ r.1.2 ∧ r.1.2 ≤ 9
  abv : ∀ (i : Nat) (r : RW), S[i]? = some r → outer r.2 ∨ ∃ j, j < i ∧ ∃ r', S[j]? = some r' ∧ r.2 = r'.1
theorem get_lt {α : Type} {l : List α} {i : Nat} {x : α} (h : l[i]? = some x) : i < l.length := (List.getElem?_eq_some_iff.mp h).1
theorem get_ex {α : Type} {l : List α} {i : Nat} (h : i < l.length) : ∃ x, l[i]? = some x := ⟨l[i], by simp [h]⟩
section
variable {n : Nat} {S : List RW}
theorem TB.inj (t : TB n S) {i j : Nat} {r r' : RW} (h : S[i]? = some r) (h' : S[j]? = some r') (e : r.1 = r'.1) : i = j := by
  have a := t.node i r h
  have b := t.node j r' h'
  rw [e] at a
  omega
theorem nodup_of {T : List RW} (h : ∀ (i j : Nat) (r r' : RW), T[i]? = some r → T[j]? = some r' → r.1 = r'.1 → i = j) : (keys T).Nodup := by
  unfold keys List.Nodup
  rw [List.pairwise_map, List.pairwise_iff_getElem]
  intro i j hi hj hij e
  have := h i j T[i] T[j] (by simp [hi]) (by simp [hj]) e
  omega
theorem TB.nodup (t : TB n S) : (keys S).Nodup := nodup_of fun _ _ _ _ h h' e => t.inj h h' e
theorem TB.okN (t : TB n S) (hn : n ≤ 1500) {r : RW} (h : r ∈ S) : OkN r.1 := by
  obtain ⟨i, hi⟩ := List.mem_iff_getElem?.mp h
  have a := t.node i r hi
  have := get_lt hi
  rw [t.len] at this
  exact ⟨by omega, by omega, by omega, by omega⟩
theorem TB.okR (t : TB n S) (hn : n ≤ 1500) {r : RW} (h : r ∈ S) : OkR r := by
  have a := t.okN hn h
  obtain ⟨i, hi⟩ := List.mem_iff_getElem?.mp h
  have b : 0 ≤ r.2.1 ∧ 0 ≤ r.2.2 := by
    rcases t.abv i r hi with (e | e | e) | ⟨j, _, r', hr, e⟩
    · rw [e]; decide
    · rw [e]; decide
    · rw [e]; decide
    · have c := t.okN hn (List.mem_of_getElem? hr)
      rw [e]
      exact ⟨by have := c.a1; omega, by have := c.b1; omega⟩
  exact ⟨by have := a.a1; omega, by have := a.b1; omega, b.1, b.2⟩
theorem TB.no_outer (t : TB n S) (hn : n ≤ 1500) {x : ND} (h : outer x) {r : RW} (hr : r ∈ S) : r.1 ≠ x := by
  have a := t.okN hn hr
  intro e
  have a1 := a.a1
  have a2 := a.a2
  rw [e] at a1 a2
  rcases h with e | e | e <;> (rw [e] at a1 a2; simp at a1 a2)
theorem TB.tm (t : TB n S) (hn : n ≤ 1500) : ∀ (i : Nat) (r : RW), S[i]? = some r → Tm S r.1 := by
  intro i
  induction i using Nat.strongRecOn with
  | _ i ih =>
    intro r h
    refine .step (y := r.2) (List.mem_of_getElem? h) ?_
    rcases t.abv i r h with o | ⟨j, hj, r', hr, e⟩
    · exact .out fun y hy => t.no_outer hn o hy rfl
    · rw [e]; exact ih j hj r' hr
theorem Tm.congr {S T : List RW} (h : ∀ r, r ∈ S ↔ r ∈ T) {x : ND} (t : Tm S x) : Tm T x := by
  induction t with
  | out o => exact .out fun y hy => o y ((h _).mpr hy)
  | step hm _ ih => exact .step ((h _).mp hm) ih
theorem TB.perm (t : TB n S) (hn : n ≤ 1500) {T : List RW} (p : T.Perm S) : m_is_ringless (E T) = some true := by
  have hk : (keys T).Perm (keys S) := p.map _
  refine (ringless_ok (hk.nodup_iff.mpr t.nodup) (by rw [p.length_eq, t.len]; omega) (fun x hx => ?_) (fun r hr => t.okR hn (p.mem_iff.mp hr))).2 fun x hx => ?_
  · obtain ⟨r, hr, rfl⟩ := List.mem_map.mp hx
    exact t.okN hn (p.mem_iff.mp hr)
  · obtain ⟨r, hr, rfl⟩ := List.mem_map.mp hx
    obtain ⟨i, hi⟩ := List.mem_iff_getElem?.mp (p.mem_iff.mp hr)
    exact (t.tm hn i r hi).congr fun r => (p.mem_iff).symm
theorem pl_nd (k : Nat) (x : ND) : Pl (k + 2) (E x) := by
  refine ⟨(by show 2 < 16777216; decide), fun d hd => ?_⟩
  rcases List.mem_cons.mp hd with rfl | hd
  · trivial
  · rcases List.mem_cons.mp hd with rfl | hd
    · trivial
    · cases hd
theorem pl_row (k : Nat) (r : RW) : Pl (k + 3) (E r) := by
  refine ⟨(by show 2 < 16777216; decide), fun d hd => ?_⟩
  rcases List.mem_cons.mp hd with rfl | hd
  · exact pl_nd k r.1
  · rcases List.mem_cons.mp hd with rfl | hd
    · exact pl_nd k r.2
    · cases hd
theorem pl_rows (k : Nat) {T : List RW} (h : T.length < 16777216) : Pl (k + 4) (E T) := by
  refine ⟨by rw [List.length_map]; exact h, fun d hd => ?_⟩
  obtain ⟨r, _, rfl⟩ := List.mem_map.mp hd
  exact pl_row k r
theorem max2_le {a b c : Int} (h1 : a ≤ c) (h2 : b ≤ c) : max2 a b ≤ c := by unfold max2; split <;> omega
theorem max2_l {a b : Int} : a ≤ max2 a b := by unfold max2; split <;> omega
theorem t4 {a b c d : Int} : (Sq.t [(⟨a, b, c, d⟩ : T4 Int Int Int Int).a, (⟨a, b, c, d⟩ : T4 Int Int Int Int).b, (⟨a, b, c, d⟩ : T4 Int Int Int Int).c, (⟨a, b, c, d⟩ : T4 Int Int Int Int).d]).v = [a, b, c, d] := rfl
/-- a drawn table -/
theorem table_ok {k : Nat} {s : STR} {many : Int} (h : Sm k s) (hk : k < 2 ^ 90) (h0 : 0 ≤ many) (h1 : many ≤ 1500) : ∃ S s', m_law_table s many = some (S, s') ∧ TB many.toNat S ∧ Sm (k + 20000) s' := by
  unfold m_law_table
  obtain ⟨deep, s1, e1, hd, g1⟩ := pick_ok (q := Sq.t [(⟨(1 : Int), (2 : Int), (5 : Int), many⟩ : (T4 Int Int Int Int)).a, (⟨(1 : Int), (2 : Int), (5 : Int), many⟩ : (T4 Int Int Int Int)).b, (⟨(1 : Int), (2 : Int), (5 : Int), many⟩ : (T4 Int Int Int Int)).c, (⟨(1 : Int), (2 : Int), (5 : Int), many⟩ : (T4 Int Int Int Int)).d]) h (by omega) (List.cons_ne_nil _ _) (by show 4 < _; decide)
  rw [e1, ob]
  dsimp only
  rw [rngL_ok (by omega) h0, ob]
  have hdeep : deep = 1 ∨ deep = 2 ∨ deep = 5 ∨ deep = many := by
    rw [t4] at hd
    simpa using hd
  obtain ⟨ys, s2, e2, hl2, hY, g2⟩ := comp_inv (f := m_law_table_c1) (fun i s => Sm (k + 1 + 2 * i) s) (fun i (y : ND) => 3 * (i : Int) + 1 ≤ y.1 ∧ y.1 ≤ 3 * (i : Int) + 3 ∧ 1 ≤ y.2 ∧ y.2 ≤ 9)
    (xs := (List.range many.toNat).map fun (i : Nat) => (i : Int)) (s := s1) (by rw [List.length_map, List.length_range]; show _ ≤ 16777216; omega) g1 fun i x s hx hs => by
      obtain ⟨rfl, hi⟩ := rng_at hx
      obtain ⟨a, sa, ea, a0, a1, ga⟩ := next_ok (many := 3) hs (by omega) (by decide) (by decide)
      obtain ⟨b, sb, eb, b0, b1, gb⟩ := next_ok (many := 9) ga (by omega) (by decide) (by decide)
      unfold m_law_table_c1
      dsimp only
      rw [ea, ob]
      dsimp only
      rw [mulI_sm (by decide) (by omega), ob, eb, ob]
      exact ⟨_, sb, rfl, ⟨by show _ ≤ 1 + a + 3 * (i : Int); omega, by show 1 + a + 3 * (i : Int) ≤ _; omega, by show _ ≤ 1 + b; omega, by show 1 + b ≤ _; omega⟩, gb⟩
  rw [List.length_map, List.length_range] at hl2 g2
  rw [e2, ob]
  dsimp only
  rw [ob]
  obtain ⟨⟨s3, S⟩, e3, g3, hl3, hS⟩ := loopN_inv (b := m_law_table_l1 many deep ys) (fun i (st : STR × List RW) => Sm (k + 1 + 2 * many.toNat + 4 * i) st.1 ∧ st.2.length = i ∧ ∀ (j : Nat) (r : RW), st.2[j]? = some r → ys[j]? = some r.1 ∧ (outer r.2 ∨ ∃ l, l < j ∧ ys[l]? = some r.2))
    (xs := (List.range many.toNat).map fun (i : Nat) => (i : Int)) (s := (s2, ([] : List RW))) ⟨g2, rfl, fun j r hj => by simp at hj⟩ fun i x st hx => by
      obtain ⟨s, R⟩ := st
      rintro ⟨gs, hl, hR⟩
      simp only at gs hl hR
      obtain ⟨rfl, hi⟩ := rng_at hx
      obtain ⟨y, hy⟩ := get_ex (l := ys) (i := i) (by omega)
      have hya : atI ys (i : Int) = some y := by rw [atI_ok (by omega) (by omega)]; exact hy
      obtain ⟨ab, sa, ea, hab, ga⟩ := pick_ok (q := Sq.t [(⟨((0 : Int), (0 : Int)), ((9000 : Int), (1 : Int)), ((0 : Int), (3 : Int))⟩ : (T3 (Int × Int) (Int × Int) (Int × Int))).a, (⟨((0 : Int), (0 : Int)), ((9000 : Int), (1 : Int)), ((0 : Int), (3 : Int))⟩ : (T3 (Int × Int) (Int × Int) (Int × Int))).b, (⟨((0 : Int), (0 : Int)), ((9000 : Int), (1 : Int)), ((0 : Int), (3 : Int))⟩ : (T3 (Int × Int) (Int × Int) (Int × Int))).c]) gs (by omega) (List.cons_ne_nil _ _) (by show 3 < _; decide)
      have oab : outer ab := by
        have : ab ∈ [((0 : Int), (0 : Int)), (9000, 1), (0, 3)] := hab
        simpa [outer] using this
      have fin : ∀ (s' : STR) (x : ND), Sm (k + 1 + 2 * many.toNat + 4 * (i + 1)) s' → (outer x ∨ ∃ l, l < i ∧ ys[l]? = some x) →
          (obind (atI ys (i : Int)) fun (t_58 : (Int × Int)) => obind (appL R (t_58, x)) fun (rows_60 : (List ((Int × Int) × (Int × Int)))) => some (Ctl.nx (R := Empty) (s', rows_60))) = some (.nx (s', R ++ [(y, x)])) ∧
            (Sm (k + 1 + 2 * many.toNat + 4 * (i + 1)) s' ∧ (R ++ [(y, x)]).length = i + 1 ∧ ∀ (j : Nat) (r : RW), (R ++ [(y, x)])[j]? = some r → ys[j]? = some r.1 ∧ (outer r.2 ∨ ∃ l, l < j ∧ ys[l]? = some r.2)) := fun s' x hs' hx => by
        refine ⟨?_, hs', by rw [List.length_append, hl]; rfl, fun j r hj => ?_⟩
        · rw [hya, ob]
          unfold appL
          rw [if_pos (show R.length < LIM from (by show R.length < 16777216; omega)), ob]
        · by_cases c : j < R.length
          · rw [List.getElem?_append_left c] at hj
            exact hR j r hj
          · rw [List.getElem?_append_right (by omega)] at hj
            have hz : j - R.length = 0 := by
              have := get_lt hj
              simp at this; omega
            rw [hz] at hj
            simp at hj
            subst hj
            have : j = i := by omega
            subst this
            exact ⟨hy, hx⟩
      unfold m_law_table_l1
      dsimp only
      rw [ea, ob]
      dsimp only
      by_cases c : (0 : Int) < (i : Int)
      · obtain ⟨b, sb, eb, b0, b1, gb⟩ := next_ok (many := 8) ga (by omega) (by decide) (by decide)
        rw [decide_eq_true c, cT, eb, ob, ob]
        dsimp only
        by_cases cb : (0 : Int) < b
        · rw [decide_eq_true cb, cT]
          have inner : ∃ (w : Bool) (sc : STR), (cond (decide (deep = many)) (obind (m_law_next sb (4 : Int)) fun (⟨r_39, w_40⟩ : Int × (LH3 (List Int) Int Int)) => some ((decide ((0 : Int) < r_39)), w_40)) (some (false, sb))) = some (w, sc) ∧ Sm (k + 1 + 2 * many.toNat + 4 * i + 3) sc := by
            by_cases cd : deep = many
            · obtain ⟨d, sd, ed, d0, d1, gd⟩ := next_ok (many := 4) gb (by omega) (by decide) (by decide)
              rw [decide_eq_true cd, cT, ed, ob]
              exact ⟨_, sd, rfl, gd⟩
            · rw [decide_eq_false cd, cF]
              exact ⟨_, sb, rfl, gb.mono (by omega)⟩
          obtain ⟨w, sc, ec, gc⟩ := inner
          rw [ec, ob]
          dsimp only
          cases w with
          | true =>
            rw [cT]
            obtain ⟨z, ez, hz⟩ := atI_get (xs := ys) (i := (i : Int) - 1) (by omega) (by omega)
            rw [ez, ob, ob, ob]
            dsimp only
            have := fin sc z (gc.mono (by omega)) (.inr ⟨((i : Int) - 1).toNat, by omega, hz⟩)
            exact ⟨_, this.1, this.2⟩
          | false =>
            rw [cF]
            have hlow : max2 (0 : Int) ((i : Int) - deep) ≤ (i : Int) - 1 := max2_le (by omega) (by omega)
            have hlow0 : 0 ≤ max2 (0 : Int) ((i : Int) - deep) := max2_l
            obtain ⟨f, sf, ef, f0, f1, gf⟩ := from_ok (lo := max2 (0 : Int) ((i : Int) - deep)) (hi := (i : Int) - 1) gc (by omega) hlow (by omega)
            rw [ef, ob]
            dsimp only
            obtain ⟨z, ez, hz⟩ := atI_get (xs := ys) (i := f) (by omega) (by omega)
            rw [ez, ob, ob, ob]
            dsimp only
            have := fin sf z (gf.mono (by omega)) (.inr ⟨f.toNat, by omega, hz⟩)
            exact ⟨_, this.1, this.2⟩
        · rw [decide_eq_false cb, cF, ob]
          dsimp only
          have := fin sb ab (gb.mono (by omega)) (.inl oab)
          exact ⟨_, this.1, this.2⟩
      · rw [decide_eq_false c, cF, ob]
        dsimp only
        rw [cF, ob]
        dsimp only
        have := fin sa ab (ga.mono (by omega)) (.inl oab)
        exact ⟨_, this.1, this.2⟩
  rw [List.length_map, List.length_range] at g3 hl3
  simp only at g3 hl3 hS
  rw [e3, ob]
  refine ⟨S, s3, rfl, ⟨hl3, fun i r hr => ?_, fun i r hr => ?_⟩, g3.mono (by omega)⟩
  · exact hY i r.1 (hS i r hr).1
  · rcases (hS i r hr).2 with o | ⟨l, hl, q⟩
    · exact .inl o
    · obtain ⟨r', hr'⟩ := get_ex (l := S) (i := l) (by have := get_lt hr; omega)
      have := (hS l r' hr').1
      rw [this] at q
      exact .inr ⟨l, hl, r', hr', (Option.some.inj q).symm⟩
/-! spoilt -/
theorem bad_item {T : List RW} {ds : List D} (hT : ∀ r ∈ T, OkR r) (hl : T.length < 1000000) {i : Nat} (hi : i < T.length) {x : D} (hx : m_is_row x = some false) (e : ds = (T.map (E : RW → D)).set i x) : m_is_ringless (.lst ds) = some false := by
  subst e
  refine bad_rows (by rw [List.length_set, List.length_map]; omega) (fun d hd => ?_) ⟨x, ?_, hx⟩
  · rcases List.mem_or_eq_of_mem_set hd with hd | rfl
    · obtain ⟨r, hr, rfl⟩ := List.mem_map.mp hd
      exact ⟨true, row_true (hT r hr)⟩
    · exact ⟨false, hx⟩
  · exact List.mem_set (by rw [List.length_map]; exact hi) x
theorem row_notT {d : D} (h : dIsi d "tuple" = some false) : m_is_row d = some false := by
  unfold m_is_row
  rw [h, ob, Bool.not_false, cT, ob, cT]
theorem row_len {ds : List D} (h : ds.length ≠ 2) : m_is_row (.tup ds) = some false := by
  unfold m_is_row
  rw [isi_tuple_tuple, ob, Bool.not_true, cF, show dLenA (.tup ds) = some (ds.length : Int) from rfl, ob, show (!decide ((ds.length : Int) = 2)) = true by rw [decide_eq_false (by omega)]; rfl, cT, ob, ob, cT]
theorem row_p1 {a b : D} (h : m_is_pair a = some false) : m_is_row (.tup [a, b]) = some false := by
  unfold m_is_row
  rw [isi_tuple_tuple, ob, Bool.not_true, cF, show dLenA (.tup [a, b]) = some 2 from rfl, ob, show (!decide ((2 : Int) = 2)) = false by decide, cF, show dIx (.tup [a, b]) 0 = some a from rfl, ob, h, ob, Bool.not_false, cT, ob, ob, ob, cT]
theorem row_p2 {a b : D} (h1 : m_is_pair a = some true) (h : m_is_pair b = some false) : m_is_row (.tup [a, b]) = some false := by
  unfold m_is_row
  rw [isi_tuple_tuple, ob, Bool.not_true, cF, show dLenA (.tup [a, b]) = some 2 from rfl, ob, show (!decide ((2 : Int) = 2)) = false by decide, cF, show dIx (.tup [a, b]) 0 = some a from rfl, ob, h1, ob, Bool.not_true, cF, show dIx (.tup [a, b]) 1 = some b from rfl, ob, h, ob, Bool.not_false, ob, ob, ob, cT]
theorem row_neg {a b : ND} (h : ∃ m, minL [a.1, a.2, b.1, b.2] = some m ∧ m < 0) : m_is_row (E (a, b)) = some false := by
  obtain ⟨m, hm, h0⟩ := h
  unfold m_is_row
  rw [show (E (a, b) : D) = .tup [E a, E b] from rfl, isi_tuple_tuple, ob, Bool.not_true, cF, show dLenA (.tup [E a, E b]) = some 2 from rfl, ob, show (!decide ((2 : Int) = 2)) = false by decide, cF, show dIx (.tup [E a, E b]) 0 = some (E a) from rfl, ob, pair_ok, ob, Bool.not_true, cF,
    show dIx (.tup [E a, E b]) 1 = some (E b) from rfl, ob, pair_ok, ob, Bool.not_true, ob, ob, ob, cF, ob, ob]
  rw [show dCat (E a) (E b) = some (.tup [.int a.1, .int a.2, .int b.1, .int b.2]) from rfl, ob, show dMin (.tup [.int a.1, .int a.2, .int b.1, .int b.2]) = minL [a.1, a.2, b.1, b.2] from rfl, hm, ob, decide_eq_false (by omega)]
theorem pair_notT {d : D} (h : dIsi d "tuple" = some false) : m_is_pair d = some false := by
  unfold m_is_pair
  rw [h, ob, Bool.not_false, cT, ob, cT]
theorem pair_len {ds : List D} (h : ds.length ≠ 2) : m_is_pair (.tup ds) = some false := by
  unfold m_is_pair
  rw [isi_tuple_tuple, ob, Bool.not_true, cF, show dLenA (.tup ds) = some (ds.length : Int) from rfl, ob, ob, show (!decide ((ds.length : Int) = 2)) = true by rw [decide_eq_false (by omega)]; rfl, cT]
theorem c1_int (i : Int) : m_is_pair_c1 (.int i) () = some (some true, ()) := by
  unfold m_is_pair_c1
  dsimp only
  rw [isi_int_int, ob, cT, isi_int_bool, ob, Bool.not_false, ob]
theorem c1_bl (b : Bool) : m_is_pair_c1 (.bl b) () = some (some false, ()) := by
  unfold m_is_pair_c1
  dsimp only
  rw [isi_bool_int, ob, cT, isi_bool_bool, ob, Bool.not_true, ob]
theorem c1_str (x : Str) : m_is_pair_c1 (.str x) () = some (some false, ()) := by
  unfold m_is_pair_c1
  dsimp only
  rw [isi_str_int, ob, cF, ob]
theorem pair_two {a b : D} {p q : Bool} (ha : m_is_pair_c1 a () = some (some p, ())) (hb : m_is_pair_c1 b () = some (some q, ())) (h : (p && q) = false) : m_is_pair (.tup [a, b]) = some false := by
  unfold m_is_pair
  rw [isi_tuple_tuple, ob, Bool.not_true, cF, show dLenA (.tup [a, b]) = some 2 from rfl, ob, ob, show (!decide ((2 : Int) = 2)) = false by decide, cF, show dTup (.tup [a, b]) = some [a, b] from rfl, ob]
  have e : comp m_is_pair_c1 [a, b] () = some ([p, q], ()) := by
    unfold comp
    rw [if_pos (show [a, b].length ≤ LIM from by show 2 ≤ LIM; decide)]
    unfold compM; rw [ha]; dsimp only
    unfold compM; rw [hb]; dsimp only
    unfold compM; dsimp only
  rw [e, ob]
  dsimp only
  rw [show ([p, q].all id) = (p && q) by simp, h]
end
end K24

set_option Elab.async false
set_option linter.all false
set_option autoImplicit false
set_option maxRecDepth 100000
set_option maxHeartbeats 4000000
/-! the law's spoilt values and rings -/
namespace K24
open PySem L2 Ly
section
variable {n : Nat} {S : List RW}
theorem pl1 {k : Nat} {ds : List D} (h : ∀ d ∈ ds, Pl k d) (hl : ds.length < 16777216) : Pl (k + 1) (.tup ds) := ⟨hl, h⟩
theorem pl2 {k : Nat} {ds : List D} (h : ∀ d ∈ ds, Pl k d) (hl : ds.length < 16777216) : Pl (k + 1) (.lst ds) := ⟨hl, h⟩
theorem fc {α : Type} {P : α → Prop} {a : α} {l : List α} (h : P a) (t : ∀ x ∈ l, P x) : ∀ x ∈ a :: l, P x := List.forall_mem_cons.mpr ⟨h, t⟩
theorem fn {α : Type} {P : α → Prop} : ∀ x ∈ ([] : List α), P x := fun _ h => nomatch h
/-- what is no list of rows -/
theorem lame_ok {T : List RW} (hl : T.length < 1000000) : ∀ x ∈ (Sq.l [(E (() : Unit)), (E ((⟨T⟩ : Tup ((Int × Int) × (Int × Int))) : (Tup ((Int × Int) × (Int × Int))))), (E (("" : Str) : Str)), (E ((0 : Int) : Int)), (E (true : Bool)), (E ((⟨[((.inr ("rows" : Str) : L2.Key), T)]⟩ : (Dct (List ((Int × Int) × (Int × Int))))) : (Dct (List ((Int × Int) × (Int × Int)))))), (E ([(⟨[]⟩ : Tup D)] : (List (Tup D)))), (E ([()] : (List Unit))), (E ([[((1 : Int), (1 : Int)), ((0 : Int), (0 : Int))]] : (List (List (Int × Int))))), (E ([(⟨((1 : Int), (1 : Int)), ((0 : Int), (0 : Int)), ((0 : Int), (0 : Int))⟩ : (T3 (Int × Int) (Int × Int) (Int × Int)))] : (List (T3 (Int × Int) (Int × Int) (Int × Int)))))] : Sq D).v,
    m_is_ringless x = some false ∧ Pl 8 x := by
  have one : ∀ x : D, m_is_row x = some false → m_is_ringless (.lst [x]) = some false := fun x h => bad_rows (by show 1 < _; decide) (fc ⟨false, h⟩ fn) ⟨x, List.mem_cons_self .., h⟩
  refine fc ⟨no_list isi_NoneType_list, trivial⟩ <| fc ⟨no_list (isi_tuple_list _), pl1 (fun d hd => ?_) (by rw [List.length_map]; show T.length < _; omega)⟩ <| fc ⟨no_list (isi_str_list _), trivial⟩ <| fc ⟨no_list (isi_int_list _), trivial⟩ <| fc ⟨no_list (isi_bool_list _), trivial⟩ <|
    fc ⟨no_list (isi_dict_list _), ?_⟩ <| fc ⟨one _ (row_len (by decide)), ?_⟩ <| fc ⟨one _ (row_notT isi_NoneType_tuple), ?_⟩ <| fc ⟨one _ (row_notT (isi_list_tuple _)), ?_⟩ <| fc ⟨one _ (row_len (by show 3 ≠ 2; decide)), ?_⟩ fn
  · obtain ⟨r, _, rfl⟩ := List.mem_map.mp hd
    exact pl_row 4 r
  · refine ⟨by show 1 < 16777216; decide, List.nodup_cons.mpr ⟨(fun h => nomatch h), List.nodup_nil⟩, fc ?_ fn⟩
    exact pl_rows 3 (T := T) (by omega)
  · exact pl2 (fc (pl1 fn (by decide)) fn) (by show 1 < 16777216; decide)
  · exact pl2 (fc trivial fn) (by show 1 < 16777216; decide)
  · exact pl2 (fc (pl2 (fc (pl_nd 4 (1, 1)) (fc (pl_nd 4 (0, 0)) fn)) (by show 2 < 16777216; decide)) fn) (by show 1 < 16777216; decide)
  · exact pl2 (fc (pl1 (fc (pl_nd 4 (1, 1)) (fc (pl_nd 4 (0, 0)) (fc (pl_nd 4 (0, 0)) fn))) (by show 3 < 16777216; decide)) fn) (by show 1 < 16777216; decide)
theorem min_neg {a b c d : Int} (h : a < 0 ∨ b < 0 ∨ c < 0 ∨ d < 0) : ∃ m, minL [a, b, c, d] = some m ∧ m < 0 := by
  refine ⟨_, rfl, ?_⟩
  simp only [List.foldl]
  split <;> split <;> split <;> omega
theorem wrong_ok (t : RW) : ∀ x ∈ ([(E ((⟨t.1⟩ : (T1 (Int × Int))) : (T1 (Int × Int)))), (E ((t.1, ()) : ((Int × Int) × Unit))), (E ([t.1, t.2] : (List (Int × Int)))), (E ((⟨t.1, t.2, t.2⟩ : (T3 (Int × Int) (Int × Int) (Int × Int))) : (T3 (Int × Int) (Int × Int) (Int × Int)))), (E (([t.1.1, t.1.2], t.2) : ((List Int) × (Int × Int)))), (E ((t.1, [t.2.1, t.2.2]) : ((Int × Int) × (List Int)))), (E (t.1 : (Int × Int))), (E ((t.1, (⟨(0 : Int), (0 : Int), (0 : Int)⟩ : (T3 Int Int Int))) : ((Int × Int) × (T3 Int Int Int))))] : (List D)) ++ [(E ((t.1, ((-1 : Int), (1 : Int))) : ((Int × Int) × (Int × Int)))), (E (((t.1.1, (-1 : Int)), t.2) : ((Int × Int) × (Int × Int)))), (E ((t.1, ((0 : Int), true)) : ((Int × Int) × (Int × Bool)))), (E (((t.1.1, ("1" : Str)), t.2) : ((Int × Str) × (Int × Int)))), (E ((t.1, (("0" : Str), (0 : Int))) : ((Int × Int) × (Str × Int)))), (E ((t.1, (false, (0 : Int))) : ((Int × Int) × (Bool × Int))))],
    m_is_row x = some false ∧ Pl 7 x := by
  have two : ∀ {a b : D}, Pl 6 a → Pl 6 b → Pl 7 (.tup [a, b]) := fun {a b} h1 h2 => pl1 (fc h1 (fc h2 fn)) (by show 2 < 16777216; decide)
  have two6 : ∀ {a b : D}, Pl 5 a → Pl 5 b → Pl 6 (.tup [a, b]) := fun {a b} h1 h2 => pl1 (fc h1 (fc h2 fn)) (by show 2 < 16777216; decide)
  refine fc ⟨row_len (by show 1 ≠ 2; decide), pl1 (fc (pl_nd 4 t.1) fn) (by show 1 < 16777216; decide)⟩ <|
    fc ⟨row_p2 (pair_ok t.1) (pair_notT isi_NoneType_tuple), two (pl_nd 4 t.1) trivial⟩ <|
    fc ⟨row_notT (isi_list_tuple _), pl2 (fc (pl_nd 4 t.1) (fc (pl_nd 4 t.2) fn)) (by show 2 < 16777216; decide)⟩ <|
    fc ⟨row_len (by show 3 ≠ 2; decide), pl1 (fc (pl_nd 4 t.1) (fc (pl_nd 4 t.2) (fc (pl_nd 4 t.2) fn))) (by show 3 < 16777216; decide)⟩ <|
    fc ⟨row_p1 (pair_notT (isi_list_tuple _)), two (pl2 (fc trivial (fc trivial fn)) (by show 2 < 16777216; decide)) (pl_nd 4 t.2)⟩ <|
    fc ⟨row_p2 (pair_ok t.1) (pair_notT (isi_list_tuple _)), two (pl_nd 4 t.1) (pl2 (fc trivial (fc trivial fn)) (by show 2 < 16777216; decide))⟩ <|
    fc ⟨row_p1 (pair_notT (isi_int_tuple _)), pl_nd 5 t.1⟩ <|
    fc ⟨row_p2 (pair_ok t.1) (pair_len (by show 3 ≠ 2; decide)), two (pl_nd 4 t.1) (pl1 (fc trivial (fc trivial (fc trivial fn))) (by show 3 < 16777216; decide))⟩ <|
    fc ⟨row_neg (a := t.1) (b := (-1, 1)) (min_neg (by right; right; left; show (-1 : Int) < 0; decide)), pl_row 4 (t.1, (-1, 1))⟩ <|
    fc ⟨row_neg (a := (t.1.1, -1)) (b := t.2) (min_neg (by right; left; show (-1 : Int) < 0; decide)), pl_row 4 ((t.1.1, -1), t.2)⟩ <|
    fc ⟨row_p2 (pair_ok t.1) (pair_two (c1_int 0) (c1_bl true) rfl), two (pl_nd 4 t.1) (two6 trivial trivial)⟩ <|
    fc ⟨row_p1 (pair_two (c1_int t.1.1) (c1_str "1") rfl), two (two6 trivial trivial) (pl_nd 4 t.2)⟩ <|
    fc ⟨row_p2 (pair_ok t.1) (pair_two (c1_str "0") (c1_int 0) rfl), two (pl_nd 4 t.1) (two6 trivial trivial)⟩ <|
    fc ⟨row_p2 (pair_ok t.1) (pair_two (c1_bl false) (c1_int 0) rfl), two (pl_nd 4 t.1) (two6 trivial trivial)⟩ fn
theorem spoilt_ok {k : Nat} {s : STR} (h : Sm k s) (hk : k < 2 ^ 90) (t : TB n S) (hn : n ≤ 1500) {T : List RW} (p : T.Perm S) : ∃ d s', m_law_spoilt s T = some (d, s') ∧ m_is_ringless d = some false ∧ Pl 8 d ∧ Sm (k + 10) s' := by
  have hT : T.length = n := by rw [p.length_eq, t.len]
  have first : ∃ (b : Bool) (sa : STR), (cond (decide ((T.length : Int) = (0 : Int))) (some (true, s)) (obind (m_law_next s (3 : Int)) fun (⟨r_3, w_4⟩ : Int × (LH3 (List Int) Int Int)) => some ((decide (r_3 = (0 : Int))), w_4))) = some (b, sa) ∧ Sm (k + 1) sa ∧ (b = false → T.length ≠ 0) := by
    by_cases c : (T.length : Int) = 0
    · rw [decide_eq_true c, cT]
      exact ⟨true, s, rfl, h.mono (by omega), fun z => nomatch z⟩
    · obtain ⟨d, sd, ed, _, _, gd⟩ := next_ok (many := 3) h (by omega) (by decide) (by decide)
      rw [decide_eq_false c, cF, ed, ob]
      exact ⟨_, sd, rfl, gd, fun _ z => c (by omega)⟩
  obtain ⟨b, sa, ea, ga, hb⟩ := first
  unfold m_law_spoilt
  rw [ea, ob]
  dsimp only
  cases b with
  | true =>
    rw [cT]
    have hP := lame_ok (T := T) (by omega)
    generalize hq : (Sq.l [(E (() : Unit)), (E ((⟨T⟩ : Tup ((Int × Int) × (Int × Int))) : (Tup ((Int × Int) × (Int × Int))))), (E (("" : Str) : Str)), (E ((0 : Int) : Int)), (E (true : Bool)), (E ((⟨[((.inr ("rows" : Str) : L2.Key), T)]⟩ : (Dct (List ((Int × Int) × (Int × Int))))) : (Dct (List ((Int × Int) × (Int × Int)))))), (E ([(⟨[]⟩ : Tup D)] : (List (Tup D)))), (E ([()] : (List Unit))), (E ([[((1 : Int), (1 : Int)), ((0 : Int), (0 : Int))]] : (List (List (Int × Int))))), (E ([(⟨((1 : Int), (1 : Int)), ((0 : Int), (0 : Int)), ((0 : Int), (0 : Int))⟩ : (T3 (Int × Int) (Int × Int) (Int × Int)))] : (List (T3 (Int × Int) (Int × Int) (Int × Int)))))] : Sq D) = q at hP ⊢
    have h0 : q.v ≠ [] ∧ q.v.length < 1073741824 := by
      subst hq
      exact ⟨List.cons_ne_nil _ _, by show 10 < _; decide⟩
    obtain ⟨x, sx, ex, hx, gx⟩ := pick_ok ga (by omega) h0.1 h0.2
    rw [ex, ob]
    exact ⟨x, sx, rfl, (hP x hx).1, (hP x hx).2, gx.mono (by omega)⟩
  | false =>
    rw [cF]
    have hpos := hb rfl
    obtain ⟨i, si, ei, i0, i1, gi⟩ := next_ok (many := (T.length : Int)) ga (by omega) (by omega) (by omega)
    obtain ⟨r, er, hr⟩ := atI_get (xs := T) i0 i1
    have hmem := List.mem_of_getElem? hr
    rw [ei, ob]
    dsimp only
    rw [er, ob]
    have hw := wrong_ok r
    unfold catL
    rw [if_pos (show _ ≤ LIM from by show 8 + 6 ≤ LIM; decide), ob]
    generalize hq : (_ : List D) ++ (_ : List D) = ws at hw ⊢
    have hws : ws ≠ [] ∧ ws.length = 14 := by
      subst hq
      exact ⟨List.cons_ne_nil _ _, rfl⟩
    obtain ⟨c, sc, ec, _, _, gc⟩ := next_ok (many := 3) gi (by omega) (by decide) (by decide)
    rw [ec, ob]
    dsimp only
    by_cases c0 : c = 0
    · obtain ⟨j, sj, ej, j0, j1, gj⟩ := next_ok (many := (T.length : Int) + 1) gc (by omega) (by omega) (by omega)
      obtain ⟨y, sy, ey, hy, gy⟩ := pick_ok (q := Sq.l [r.2, ((0 : Int), (0 : Int)), ((8000 : Int), (1 : Int))]) gj (by omega) (List.cons_ne_nil _ _) (by show 3 < _; decide)
      rw [decide_eq_true c0, cT, ej, ob]
      dsimp only
      rw [ey, ob]
      dsimp only
      have hins : insL (T.map (E : ((Int × Int) × (Int × Int)) → D)) j (E ((r.1, y) : ((Int × Int) × (Int × Int)))) = some ((T.take j.toNat ++ [(r.1, y)] ++ T.drop j.toNat).map (E : RW → D)) := by
        unfold insL
        rw [if_pos ⟨j0, by omega, by show (T.map _).length < 16777216; rw [List.length_map]; omega⟩]
        congr 1
        rw [List.map_append, List.map_append, List.map_take, List.map_drop]
        rfl
      rw [hins, ob, ob]
      dsimp only
      have hperm : (T.take j.toNat ++ [(r.1, y)] ++ T.drop j.toNat).Perm ((r.1, y) :: T) := by
        have : (T.take j.toNat ++ [(r.1, y)] ++ T.drop j.toNat).Perm ((r.1, y) :: (T.take j.toNat ++ T.drop j.toNat)) := by
          rw [List.append_assoc]
          exact List.perm_middle
        rwa [List.take_append_drop] at this
      have hyk : OkR (r.1, y) := by
        have a := t.okN hn (p.mem_iff.mp hmem)
        have b := t.okR hn (p.mem_iff.mp hmem)
        have hy' : y = r.2 ∨ y = (0, 0) ∨ y = (8000, 1) := by
          have : y ∈ [r.2, ((0 : Int), (0 : Int)), ((8000 : Int), (1 : Int))] := hy
          simpa using this
        refine ⟨b.a, b.b, ?_, ?_⟩
        · show 0 ≤ y.1
          rcases hy' with e | e | e <;> rw [e]
          · exact b.c
          · decide
          · decide
        · show 0 ≤ y.2
          rcases hy' with e | e | e <;> rw [e]
          · exact b.d
          · decide
          · decide
      have hlen : (T.take j.toNat ++ [(r.1, y)] ++ T.drop j.toNat).length = n + 1 := by rw [hperm.length_eq, List.length_cons, hT]
      have hE : (E ((T.take j.toNat ++ [(r.1, y)] ++ T.drop j.toNat).map (E : RW → D)) : D) = E (T.take j.toNat ++ [(r.1, y)] ++ T.drop j.toNat) := e_toD
      refine ⟨_, sy, rfl, ?_, ?_, gy.mono (by omega)⟩
      · rw [hE]
        refine dup_rows (fun hnd => ?_) (by rw [hlen]; omega) fun z hz => ?_
        · have := ((hperm.map (·.1)).nodup_iff).mp hnd
          rw [List.map_cons, List.nodup_cons] at this
          exact this.1 (List.mem_map.mpr ⟨r, hmem, rfl⟩)
        · rcases List.mem_cons.mp (hperm.mem_iff.mp hz) with rfl | hz
          · exact hyk
          · exact t.okR hn (p.mem_iff.mp hz)
      · rw [hE]
        exact pl_rows 4 (by rw [hlen]; omega)
    · obtain ⟨x, sx, ex, hx, gx⟩ := pick_ok (q := Sq.l ws) gc (by omega) hws.1 (by show ws.length < _; rw [hws.2]; decide)
      have hx' := hw x hx
      rw [decide_eq_false c0, cF, ex, ob]
      dsimp only
      have hset : setL (T.map (E : ((Int × Int) × (Int × Int)) → D)) i x = some ((T.map (E : RW → D)).set i.toNat x) := by
        unfold setL ixN
        rw [List.length_map, if_pos i0, if_pos i1]
        rfl
      rw [hset, ob, ob]
      dsimp only
      have hE : (E ((T.map (E : RW → D)).set i.toNat x) : D) = .lst ((T.map (E : RW → D)).set i.toNat x) := by
        show D.lst (((T.map (E : RW → D)).set i.toNat x).map E) = _
        rw [idE]
      refine ⟨_, sx, rfl, ?_, ?_, gx.mono (by omega)⟩
      · rw [hE]
        exact bad_item (fun z hz => t.okR hn (p.mem_iff.mp hz)) (by omega) (i := i.toNat) (by omega) hx'.1 rfl
      · rw [hE]
        refine pl2 (fun d hd => ?_) (by rw [List.length_set, List.length_map]; omega)
        rcases List.mem_or_eq_of_mem_set hd with hd | rfl
        · obtain ⟨z, _, rfl⟩ := List.mem_map.mp hd
          exact pl_row 4 z
        · exact hx'.2
/-! rings -/
theorem atI_last {xs : List Int} (h : xs ≠ []) : atI xs (-1) = some (xs.getLast h) := by
  have hp : 0 < xs.length := List.length_pos_iff.mpr h
  unfold atI ixN
  rw [if_neg (by decide), if_pos (by omega)]
  show xs[((-1 : Int) + xs.length).toNat]? = _
  rw [show ((-1 : Int) + xs.length).toNat = xs.length - 1 by omega, ← List.getLast?_eq_getElem?, List.getLast?_eq_some_getLast h]
theorem dget_app {κ α : Type} [DecidableEq κ] {l : List (κ × α)} {k k' : κ} {v : α} (h : k ∉ l.map (·.1)) : dget (l ++ [(k, v)]) k' = if k = k' then some v else dget l k' := by
  by_cases e : k = k'
  · subst e
    rw [if_pos rfl]
    have := dget_none.mpr h
    unfold dget at this ⊢
    rw [Option.map_eq_none_iff] at this
    rw [List.find?_append, this]
    simp
  · rw [if_neg e]
    unfold dget
    rw [List.find?_append]
    cases List.find? (fun kv => decide (kv.1 = k')) l with
    | some _ => rfl
    | none => simp [e]
structure Rg (S : List RW) (is : List Nat) : Prop where
  ne : is ≠ []
  lt : ∀ i ∈ is, i < S.length
  nx : ∀ (m a b : Nat), is[m]? = some a → is[m + 1]? = some b → b < a ∧ ∃ r r', S[a]? = some r ∧ S[b]? = some r' ∧ r.2 = r'.1
def co (is : List Nat) : List Int := is.map fun (i : Nat) => (i : Int)
theorem co_last {is : List Nat} (h : is ≠ []) : atI (co is) (-1) = some ((is.getLast h : Nat) : Int) := by
  have h' : is.map (fun (i : Nat) => (i : Int)) ≠ [] := by simpa using h
  show atI (is.map fun (i : Nat) => (i : Int)) (-1) = _
  rw [atI_last h', List.getLast_map]
theorem closed_ok {k : Nat} {s : STR} (h : Sm k s) (hk : k < 2 ^ 90) (t : TB n S) (hn : n ≤ 1500) (h0 : 0 < n) : ∃ is l i0 rl r0 s', Rg S is ∧ is.getLast? = some l ∧ is[0]? = some i0 ∧ S[l]? = some rl ∧ S[i0]? = some r0 ∧
    m_law_closed s S = some ((S.set l (rl.1, r0.1), co is), s') ∧ is.length < 5000 ∧ Sm (k + 2) s' := by
  have hl := t.len
  unfold m_law_closed
  rw [rngL_ok (by omega) (by omega), ob]
  obtain ⟨ix, e1, hi1, hi2⟩ := loopN_inv (b := m_law_closed_l1 S) (fun i (d : DctT Int) => d.l.length = i ∧ ∀ (x : ND) (v : Int), dget d.l (kN x) = some v ↔ ∃ j, j < i ∧ ∃ r, S[j]? = some r ∧ r.1 = x ∧ v = (j : Int))
    (xs := (List.range (S.length : Int).toNat).map fun (i : Nat) => (i : Int)) (s := ⟨[]⟩) ⟨rfl, fun x v => ⟨fun z => (by cases z), fun ⟨j, hj, _⟩ => (by omega)⟩⟩ fun i x d hx => by
      rintro ⟨hd1, hd2⟩
      obtain ⟨rfl, hi⟩ := rng_at hx
      obtain ⟨r, er, hr⟩ := atI_get (xs := S) (i := (i : Int)) (by omega) (by omega)
      have hr : S[i]? = some r := hr
      have hnew : kN r.1 ∉ d.l.map (·.1) := by
        rw [← dget_none]
        cases z : dget d.l (kN r.1) with
        | none => rfl
        | some v =>
          obtain ⟨j, hj, r', hr', e', _⟩ := (hd2 r.1 v).mp z
          have := t.inj hr' hr e'
          omega
      unfold m_law_closed_l1
      dsimp only
      rw [er, ob, show ([.inl r.1.1, .inl r.1.2] : List L2.Key) = kN r.1 from rfl, dputO_ok (by omega), dput_new hnew, ob]
      refine ⟨_, rfl, by show (d.l ++ [(kN r.1, (i : Int))]).length = i + 1; rw [List.length_append, hd1]; rfl, fun x v => ?_⟩
      show dget (d.l ++ [(kN r.1, (i : Int))]) (kN x) = some v ↔ _
      rw [dget_app hnew]
      by_cases c : r.1 = x
      · rw [if_pos (by rw [c])]
        constructor
        · intro z
          exact ⟨i, by omega, r, hr, c, (Option.some.inj z).symm⟩
        · rintro ⟨j, hj, r', hr', e', rfl⟩
          rw [t.inj hr' hr (e'.trans c.symm)]
      · rw [if_neg (fun z => c (kN_inj z)), hd2]
        constructor
        · rintro ⟨j, hj, q⟩; exact ⟨j, by omega, q⟩
        · rintro ⟨j, hj, r', hr', e', q⟩
          refine ⟨j, ?_, r', hr', e', q⟩
          by_cases z : j = i
          · subst z
            rw [hr] at hr'
            cases hr'
            exact absurd e' c
          · omega
  rw [List.length_map, List.length_range] at hi1 hi2
  rw [e1, ob]
  obtain ⟨a, sa, ea, a0, a1, ga⟩ := next_ok (many := (S.length : Int)) h (by omega) (by omega) (by omega)
  rw [ea, ob]
  dsimp only
  obtain ⟨q, sq, eq, hq, gq⟩ := pick_ok (q := Sq.t [(⟨(0 : Int), (1 : Int), (3 : Int), (S.length : Int)⟩ : (T4 Int Int Int Int)).a, (⟨(0 : Int), (1 : Int), (3 : Int), (S.length : Int)⟩ : (T4 Int Int Int Int)).b, (⟨(0 : Int), (1 : Int), (3 : Int), (S.length : Int)⟩ : (T4 Int Int Int Int)).c, (⟨(0 : Int), (1 : Int), (3 : Int), (S.length : Int)⟩ : (T4 Int Int Int Int)).d]) ga (by omega) (List.cons_ne_nil _ _) (by show 4 < _; decide)
  have hq' : q = 0 ∨ q = 1 ∨ q = 3 ∨ q = (S.length : Int) := by
    rw [t4] at hq
    simpa using hq
  rw [eq, ob]
  dsimp only
  rw [rngL_ok (by omega) (by omega), ob]
  obtain ⟨ring, e2, is, rfl, hR, hil⟩ := loopN_inv (b := m_law_closed_l2 S ix) (fun i (ring : List Int) => ∃ is, ring = co is ∧ Rg S is ∧ is.length ≤ i + 1)
    (xs := (List.range q.toNat).map fun (i : Nat) => (i : Int)) (s := ([a] : List Int)) ⟨[a.toNat], by unfold co; simp; omega, ⟨List.cons_ne_nil _ _, fun i hi => by rw [List.mem_singleton] at hi; omega, fun m x y _ h2 => by simp at h2⟩, Nat.le_refl _⟩ fun i x ring hx => by
      rintro ⟨is, rfl, hR, hil⟩
      obtain ⟨rfl, hi⟩ := rng_at hx
      have hlast := hR.lt _ (List.getLast_mem hR.ne)
      obtain ⟨r, er, hr⟩ := atI_get (xs := S) (i := ((is.getLast hR.ne : Nat) : Int)) (by omega) (by omega)
      have hr : S[is.getLast hR.ne]? = some r := hr
      unfold m_law_closed_l2
      dsimp only
      rw [co_last hR.ne, ob, er, ob, show ([.inl r.2.1, .inl r.2.2] : List L2.Key) = kN r.2 from rfl]
      cases z : dget ix.l (kN r.2) with
      | none =>
        rw [show dhas ix.l (kN r.2) = false by unfold dhas; rw [z]; rfl, cF]
        exact ⟨_, rfl, is, rfl, hR, by omega⟩
      | some v =>
        rw [show dhas ix.l (kN r.2) = true by unfold dhas; rw [z]; rfl, cT, ob]
        obtain ⟨j, hj, r', hr', e', rfl⟩ := (hi2 r.2 v).mp z
        unfold appL
        rw [if_pos (show (co is).length < LIM from (by unfold co; rw [List.length_map]; show is.length < 16777216; omega)), ob]
        refine ⟨_, rfl, is ++ [j], by unfold co; rw [List.map_append]; rfl, ⟨by simp, fun y hy => ?_, fun m x y hx' hy => ?_⟩, by rw [List.length_append]; show is.length + 1 ≤ _; omega⟩
        · rcases List.mem_append.mp hy with hy | hy
          · exact hR.lt y hy
          · rw [List.mem_singleton] at hy; omega
        · by_cases c : m + 1 < is.length
          · rw [List.getElem?_append_left (by omega)] at hx'
            rw [List.getElem?_append_left c] at hy
            exact hR.nx m x y hx' hy
          · have hm := get_lt hy
            rw [List.length_append] at hm
            have hm : m + 1 < is.length + 1 := hm
            have hm2 : m + 1 = is.length := by omega
            rw [List.getElem?_append_left (by omega)] at hx'
            rw [List.getElem?_append_right (by omega), hm2, Nat.sub_self] at hy
            have hy : j = y := by simpa using hy
            subst hy
            have hxl : x = is.getLast hR.ne := by
              have := List.getLast?_eq_getElem? (l := is)
              rw [List.getLast?_eq_some_getLast hR.ne, show is.length - 1 = m by omega, hx'] at this
              exact (Option.some.inj this).symm
            subst hxl
            refine ⟨?_, r, r', hr, hr', e'.symm⟩
            rcases t.abv _ r hr with o | ⟨j2, hj2, r2, hr2, e2⟩
            · exact absurd e' (t.no_outer hn o (List.mem_of_getElem? hr'))
            · rw [t.inj hr' hr2 (e'.trans e2)]; exact hj2
  rw [List.length_map, List.length_range] at hil
  rw [e2, ob]
  have hlast := hR.lt _ (List.getLast_mem hR.ne)
  have hpos : 0 < is.length := List.length_pos_iff.mpr hR.ne
  obtain ⟨i0, hi0⟩ := get_ex (l := is) (i := 0) hpos
  have hi0lt := hR.lt i0 (List.mem_of_getElem? hi0)
  obtain ⟨rl, erl, hrl⟩ := atI_get (xs := S) (i := ((is.getLast hR.ne : Nat) : Int)) (by omega) (by omega)
  obtain ⟨r0, er0, hr0⟩ := atI_get (xs := S) (i := ((i0 : Nat) : Int)) (by omega) (by omega)
  have h00 : atI (co is) 0 = some ((i0 : Nat) : Int) := by
    rw [atI_ok (by decide) (by unfold co; rw [List.length_map]; omega)]
    unfold co
    rw [List.getElem?_map]
    show Option.map _ is[0]? = _
    rw [hi0]
    rfl
  rw [co_last hR.ne, ob, erl, ob, h00, ob, er0, ob, ob]
  have hset : setL S ((is.getLast hR.ne : Nat) : Int) (rl.1, r0.1) = some (S.set (is.getLast hR.ne) (rl.1, r0.1)) := by
    unfold setL ixN
    rw [if_pos (by omega), if_pos (by omega)]
    rfl
  rw [hset, ob]
  exact ⟨is, is.getLast hR.ne, i0, rl, r0, sq, hR, List.getLast?_eq_some_getLast hR.ne, hi0, hrl, hr0, rfl, by omega, gq⟩
end
end K24

set_option Elab.async false
set_option linter.all false
set_option autoImplicit false
set_option maxRecDepth 100000
set_option maxHeartbeats 4000000
/-! the law -/
namespace K24
open PySem L2 Ly
section
variable {n : Nat} {S : List RW} {is : List Nat} {l i0 : Nat} {rl r0 : RW}
theorem Rg.dec (R : Rg S is) : ∀ {m p a b : Nat}, is[m]? = some a → is[p]? = some b → m < p → b < a := by
  intro m p
  induction p with
  | zero => intro a b _ _ h; omega
  | succ p ih =>
    intro a b ha hb h
    obtain ⟨c, hc⟩ := get_ex (l := is) (i := p) (by have := get_lt hb; omega)
    have h1 := (R.nx p c b hc hb).1
    by_cases e : m = p
    · subst e
      rw [ha] at hc
      cases hc
      exact h1
    · have := ih ha hc (by omega)
      omega
structure Cl (n : Nat) (S : List RW) (is : List Nat) (l i0 : Nat) (rl r0 : RW) : Prop where
  t : TB n S
  hn : n ≤ 1500
  R : Rg S is
  hl : is.getLast? = some l
  h0 : is[0]? = some i0
  rl : S[l]? = some rl
  r0 : S[i0]? = some r0
theorem Cl.last (c : Cl n S is l i0 rl r0) : is[is.length - 1]? = some l := by rw [← List.getLast?_eq_getElem?]; exact c.hl
abbrev fnd (S : List RW) (l : Nat) (rl r0 : RW) : List RW := S.set l (rl.1, r0.1)
theorem fnd_at (c : Cl n S is l i0 rl r0) {i : Nat} : (fnd S l rl r0)[i]? = if l = i then some (rl.1, r0.1) else S[i]? := by
  have := get_lt c.rl
  unfold fnd
  rw [List.getElem?_set]
  by_cases e : l = i
  · rw [if_pos e, if_pos e, if_pos (e ▸ this)]
  · rw [if_neg e, if_neg e]
theorem fnd_key (c : Cl n S is l i0 rl r0) {i : Nat} {r : RW} (h : (fnd S l rl r0)[i]? = some r) : ∃ r', S[i]? = some r' ∧ r.1 = r'.1 := by
  rw [fnd_at c] at h
  by_cases e : l = i
  · rw [if_pos e] at h
    cases h
    subst e
    exact ⟨rl, c.rl, rfl⟩
  · rw [if_neg e] at h
    exact ⟨r, h, rfl⟩
theorem fnd_nodup (c : Cl n S is l i0 rl r0) : (keys (fnd S l rl r0)).Nodup := nodup_of fun i j r r' h h' e => by
  obtain ⟨a, ha, e1⟩ := fnd_key c h
  obtain ⟨b, hb, e2⟩ := fnd_key c h'
  exact c.t.inj ha hb (by rw [← e1, ← e2]; exact e)
theorem fnd_okR (c : Cl n S is l i0 rl r0) {r : RW} (h : r ∈ fnd S l rl r0) : OkR r ∧ OkN r.1 := by
  obtain ⟨i, hi⟩ := List.mem_iff_getElem?.mp h
  rw [fnd_at c] at hi
  have a := c.t.okN c.hn (List.mem_of_getElem? c.rl)
  have b := c.t.okN c.hn (List.mem_of_getElem? c.r0)
  by_cases e : l = i
  · rw [if_pos e] at hi
    cases hi
    exact ⟨⟨by have := a.a1; show 0 ≤ rl.1.1; omega, by have := a.b1; show 0 ≤ rl.1.2; omega, by have := b.a1; show 0 ≤ r0.1.1; omega, by have := b.b1; show 0 ≤ r0.1.2; omega⟩, a⟩
  · rw [if_neg e] at hi
    exact ⟨c.t.okR c.hn (List.mem_of_getElem? hi), c.t.okN c.hn (List.mem_of_getElem? hi)⟩
theorem ring_go (c : Cl n S is l i0 rl r0) : ∀ (d m a : Nat) (r : RW), is.length - 1 - m = d → is[m]? = some a → S[a]? = some r → Rch (fnd S l rl r0) r.1 r0.1 := by
  intro d
  induction d with
  | zero =>
    intro m a r hd ha hr
    have hm := get_lt ha
    have : m = is.length - 1 := by omega
    subst this
    rw [c.last] at ha
    cases ha
    rw [c.rl] at hr
    cases hr
    refine .one (List.mem_iff_getElem?.mpr ⟨l, ?_⟩)
    rw [fnd_at c, if_pos rfl]
  | succ d ih =>
    intro m a r hd ha hr
    obtain ⟨b, hb⟩ := get_ex (l := is) (i := m + 1) (by omega)
    obtain ⟨_, r1, r2, h1, h2, e⟩ := c.R.nx m a b ha hb
    rw [hr] at h1
    cases h1
    have hal : l ≠ a := fun e' => by
      have := c.R.dec ha c.last (by omega)
      omega
    have go := ih (m + 1) b r2 (by omega) hb h2
    refine .step (y := r.2) (List.mem_iff_getElem?.mpr ⟨a, ?_⟩) (by rw [e]; exact go)
    rw [fnd_at c, if_neg hal, hr]
theorem ring_bad (c : Cl n S is l i0 rl r0) {T : List RW} (p : T.Perm (fnd S l rl r0)) : m_is_ringless (E T) = some false := by
  have hk : (keys T).Perm (keys (fnd S l rl r0)) := p.map _
  refine (ringless_ok (hk.nodup_iff.mpr (fnd_nodup c)) (by rw [p.length_eq]; unfold fnd; rw [List.length_set, c.t.len]; have := c.hn; omega) (fun x hx => ?_) (fun r hr => (fnd_okR c (p.mem_iff.mp hr)).1)).1 ⟨r0.1, ?_, fun tm => ?_⟩
  · obtain ⟨r, hr, rfl⟩ := List.mem_map.mp hx
    exact (fnd_okR c (p.mem_iff.mp hr)).2
  · refine hk.mem_iff.mpr ?_
    obtain ⟨r, hr⟩ := get_ex (l := fnd S l rl r0) (i := i0) (by unfold fnd; rw [List.length_set]; exact get_lt c.r0)
    obtain ⟨r', hr', e⟩ := fnd_key c hr
    rw [c.r0] at hr'
    cases hr'
    exact List.mem_map.mpr ⟨r, List.mem_of_getElem? hr, e⟩
  · exact (tm.congr fun r => p.mem_iff).no (fnd_nodup c) (ring_go c _ 0 i0 r0 rfl c.h0 c.r0)
/-! one of the ring gone -/
def wo (F : List RW) (g : Nat) (N : Nat) : List RW := ((List.range N).map fun (i : Nat) => (i : Int)).filterMap fun x => if x = (g : Int) then none else F[x.toNat]?
theorem mem_wo {F : List RW} {g N : Nat} {r : RW} (hN : N = F.length) : r ∈ wo F g N ↔ ∃ a, a ≠ g ∧ F[a]? = some r := by
  unfold wo
  rw [List.mem_filterMap]
  constructor
  · rintro ⟨x, hx, h⟩
    obtain ⟨i, _, rfl⟩ := List.mem_map.mp hx
    by_cases e : (i : Int) = (g : Int)
    · rw [if_pos e] at h; cases h
    · rw [if_neg e] at h
      exact ⟨i, fun z => e (by rw [z]), h⟩
  · rintro ⟨a, ha, h⟩
    refine ⟨(a : Int), List.mem_map.mpr ⟨a, List.mem_range.mpr (by rw [hN]; exact get_lt h), rfl⟩, ?_⟩
    rw [if_neg (by omega)]
    exact h
theorem wo_nodup {F : List RW} {g N : Nat} (h : ∀ (i j : Nat) (r r' : RW), F[i]? = some r → F[j]? = some r' → r.1 = r'.1 → i = j) : (keys (wo F g N)).Nodup := by
  unfold keys wo List.Nodup
  rw [List.pairwise_map, List.pairwise_filterMap, List.pairwise_map]
  refine List.Pairwise.imp ?_ List.nodup_range
  intro i j hij r hr r' hr' e
  by_cases a : (i : Int) = (g : Int)
  · rw [if_pos a] at hr; cases hr
  · by_cases b : (j : Int) = (g : Int)
    · rw [if_pos b] at hr'; cases hr'
    · rw [if_neg a] at hr
      rw [if_neg b] at hr'
      exact hij (h i j r r' hr hr' e)
theorem gone_ok (c : Cl n S is l i0 rl r0) {g : Nat} (hg : g ∈ is) : ∀ (j : Nat) (r : RW), S[j]? = some r → Tm (wo (fnd S l rl r0) g n) r.1 := by
  have hN : n = (fnd S l rl r0).length := by unfold fnd; rw [List.length_set, c.t.len]
  have up : ∀ {a : Nat} {r : RW}, a ≠ l → a ≠ g → S[a]? = some r → r ∈ wo (fnd S l rl r0) g n := fun {a r} h1 h2 h3 =>
    (mem_wo hN).mpr ⟨a, h2, by rw [fnd_at c, if_neg (Ne.symm h1)]; exact h3⟩
  have gone : ∀ {r : RW}, S[g]? = some r → Tm (wo (fnd S l rl r0) g n) r.1 := fun {r} h => .out fun y hy => by
    obtain ⟨a, ha, h'⟩ := (mem_wo hN).mp hy
    obtain ⟨r', hr', e⟩ := fnd_key c h'
    exact ha (c.t.inj hr' h e.symm)
  have nokey : ∀ {x : ND}, outer x → Tm (wo (fnd S l rl r0) g n) x := fun {x} h => .out fun y hy => by
    obtain ⟨a, ha, h'⟩ := (mem_wo hN).mp hy
    obtain ⟨r', hr', e⟩ := fnd_key c h'
    exact c.t.no_outer c.hn h (List.mem_of_getElem? hr') e.symm
  obtain ⟨p, hp⟩ := List.mem_iff_getElem?.mp hg
  have down : ∀ (d m a : Nat) (r : RW), p - m = d → m ≤ p → is[m]? = some a → S[a]? = some r → Tm (wo (fnd S l rl r0) g n) r.1 := by
    intro d
    induction d with
    | zero =>
      intro m a r hd hm ha hr
      have : m = p := by omega
      subst this
      rw [hp] at ha
      cases ha
      exact gone hr
    | succ d ih =>
      intro m a r hd hm ha hr
      have hpl := get_lt hp
      obtain ⟨b, hb⟩ := get_ex (l := is) (i := m + 1) (by omega)
      obtain ⟨_, r1, r2, h1, h2, e⟩ := c.R.nx m a b ha hb
      rw [hr] at h1
      cases h1
      have hal : a ≠ l := fun e' => by
        have := c.R.dec ha c.last (by omega)
        omega
      have hag : a ≠ g := fun e' => by
        have := c.R.dec ha hp (by omega)
        omega
      refine .step (y := r.2) (up hal hag hr) ?_
      rw [e]
      exact ih (m + 1) b r2 (by omega) (by omega) hb h2
  have low : Tm (wo (fnd S l rl r0) g n) rl.1 := by
    by_cases e : g = l
    · exact gone (by rw [e]; exact c.rl)
    · refine .step (y := r0.1) ((mem_wo hN).mpr ⟨l, Ne.symm e, by rw [fnd_at c, if_pos rfl]⟩) ?_
      exact down p 0 i0 r0 (by omega) (Nat.zero_le _) c.h0 c.r0
  intro j
  induction j using Nat.strongRecOn with
  | _ j ih =>
    intro r h
    by_cases e1 : j = l
    · subst e1
      rw [c.rl] at h
      cases h
      exact low
    · by_cases e2 : j = g
      · subst e2; exact gone h
      · refine .step (y := r.2) (up e1 e2 h) ?_
        rcases c.t.abv j r h with o | ⟨j', hj, r', hr, e⟩
        · exact nokey o
        · rw [e]; exact ih j' hj r' hr
theorem gone_good (c : Cl n S is l i0 rl r0) {g : Nat} (hg : g ∈ is) {T : List RW} (p : T.Perm (wo (fnd S l rl r0) g n)) : m_is_ringless (E T) = some true ∧ T.length ≤ n := by
  have hN : n = (fnd S l rl r0).length := by unfold fnd; rw [List.length_set, c.t.len]
  have hlen : T.length ≤ n := by
    rw [p.length_eq]
    unfold wo
    refine Nat.le_trans (List.length_filterMap_le ..) ?_
    rw [List.length_map, List.length_range]
    exact Nat.le_refl _
  have hk : (keys T).Perm (keys (wo (fnd S l rl r0) g n)) := p.map _
  have src : ∀ {r : RW}, r ∈ T → ∃ a, (fnd S l rl r0)[a]? = some r := fun {r} hr => by
    obtain ⟨a, _, h⟩ := (mem_wo hN).mp (p.mem_iff.mp hr)
    exact ⟨a, h⟩
  refine ⟨(ringless_ok (hk.nodup_iff.mpr (wo_nodup fun i j r r' h h' e => ?_)) (by have := c.hn; omega) (fun x hx => ?_) (fun r hr => ?_)).2 fun x hx => ?_, hlen⟩
  · obtain ⟨a, ha, e1⟩ := fnd_key c h
    obtain ⟨b, hb, e2⟩ := fnd_key c h'
    exact c.t.inj ha hb (by rw [← e1, ← e2]; exact e)
  · obtain ⟨r, hr, rfl⟩ := List.mem_map.mp hx
    obtain ⟨a, h⟩ := src hr
    exact (fnd_okR c (List.mem_of_getElem? h)).2
  · obtain ⟨a, h⟩ := src hr
    exact (fnd_okR c (List.mem_of_getElem? h)).1
  · obtain ⟨r, hr, rfl⟩ := List.mem_map.mp hx
    obtain ⟨a, h⟩ := src hr
    obtain ⟨r', hr', e⟩ := fnd_key c h
    rw [e]
    exact (gone_ok c hg a r' hr').congr fun r => p.mem_iff.symm
theorem comp_filt {α β : Type} {f : α → Unit → Option (Option β × Unit)} {h : α → Option β} : ∀ {xs : List α}, (∀ x ∈ xs, f x () = some (h x, ())) → compM f xs () = some (xs.filterMap h, ())
  | [], _ => rfl
  | x :: xs, q => by
    unfold compM
    rw [q x (List.mem_cons_self ..)]
    dsimp only
    rw [comp_filt fun y hy => q y (List.mem_cons_of_mem _ hy)]
    dsimp only
    rw [List.filterMap_cons]
    cases h x <;> rfl
end
/-- one turn -/
theorem turn_ok {k n : Nat} {s : STR} {S : List RW} (h : Sm k s) (hk : k < 2 ^ 90) (t : TB n S) (hn : n ≤ 1500) (h0 : 0 < n) (x : Int) : ∃ s', m_law_l1 (n : Int) S x s = some (.nx s') ∧ Sm (k + 10000) s' := by
  obtain ⟨is, l, i0, rl, r0, s1, R, q1, q2, q3, q4, e1, hil, g1⟩ := closed_ok h hk t hn h0
  have c : Cl n S is l i0 rl r0 := ⟨t, hn, R, q1, q2, q3, q4⟩
  have hN : (fnd S l rl r0).length = n := by unfold fnd; rw [List.length_set, t.len]
  obtain ⟨T, s2, e2, p2, g2⟩ := shuffled_ok (xs := fnd S l rl r0) g1 (by omega) (by omega)
  have hTl : T.length = n := by rw [p2.length_eq, hN]
  have j2 := judged_ok (d := E T) (b := false) (pl_rows 4 (by omega)) (ring_bad c p2)
  obtain ⟨g, s3, e3, hg, g3⟩ := pick_ok (q := Sq.l (co is)) g2 (by omega) (by show co is ≠ []; unfold co; simpa using R.ne) (by show (co is).length < _; unfold co; rw [List.length_map]; omega)
  obtain ⟨g', hg', rfl⟩ := List.mem_map.mp (show g ∈ co is from hg)
  have hc : comp (m_law_c1 (fnd S l rl r0, co is) (g' : Int)) ((List.range (n : Int).toNat).map fun (i : Nat) => (i : Int)) () = some (wo (fnd S l rl r0) g' n, ()) := by
    unfold comp
    rw [if_pos (show _ ≤ LIM from (by rw [List.length_map, List.length_range]; show _ ≤ 16777216; omega))]
    rw [comp_filt (h := fun x => if x = (g' : Int) then none else (fnd S l rl r0)[x.toNat]?)]
    · rfl
    · intro y hy
      obtain ⟨i, hi, rfl⟩ := List.mem_map.mp hy
      have hi := List.mem_range.mp hi
      unfold m_law_c1
      dsimp only
      by_cases e : (i : Int) = (g' : Int)
      · rw [decide_eq_true e, Bool.not_true, cF, if_pos e]
      · rw [decide_eq_false e, Bool.not_false, cT, if_neg e]
        obtain ⟨r, er, hr⟩ := atI_get (xs := fnd S l rl r0) (i := (i : Int)) (by omega) (by omega)
        rw [er, ob, hr]
  obtain ⟨U, s4, e4, p4, g4⟩ := shuffled_ok (xs := wo (fnd S l rl r0) g' n) (s := s3) g3 (by
      have : (wo (fnd S l rl r0) g' n).length ≤ n := by
        unfold wo
        refine Nat.le_trans (List.length_filterMap_le ..) ?_
        rw [List.length_map, List.length_range]; exact Nat.le_refl _
      omega) (by
      have : (wo (fnd S l rl r0) g' n).length ≤ n := by
        unfold wo
        refine Nat.le_trans (List.length_filterMap_le ..) ?_
        rw [List.length_map, List.length_range]; exact Nat.le_refl _
      omega)
  obtain ⟨gU, lU⟩ := gone_good c hg' p4
  have j4 := judged_ok (d := E U) (b := true) (pl_rows 4 (by omega)) gU
  have lw : (wo (fnd S l rl r0) g' n).length ≤ n := by rw [← p4.length_eq]; exact lU
  unfold m_law_l1
  dsimp only
  rw [e1, ob]
  dsimp only
  rw [e2, ob]
  dsimp only
  rw [j2, ob, Bool.not_true, cF, e3, ob]
  dsimp only
  rw [rngL_ok (by omega) (by omega), ob, hc, ob]
  dsimp only
  rw [e4, ob]
  dsimp only
  rw [j4, ob, Bool.not_true, cF]
  exact ⟨s4, rfl, g4.mono (by omega)⟩
theorem law_ok (script : List Int) (_ : script.length ≤ 63) : m_law script = some true := by
  obtain ⟨s0, e0, g0⟩ := stream_ok script
  obtain ⟨a, s1, e1, _, _, g1⟩ := next_ok (many := 30) g0 (by decide) (by decide) (by decide)
  have hm : ∃ (many : Int) (s2 : STR), (cond (decide (a = (29 : Int))) (obind (m_law_from s1 (800 : Int) (1500 : Int)) fun (⟨r_7, w_8⟩ : Int × (LH3 (List Int) Int Int)) => some (r_7, w_8)) (obind (m_law_from s1 (3 : Int) (40 : Int)) fun (⟨r_10, w_11⟩ : Int × (LH3 (List Int) Int Int)) => obind (m_law_from w_11 (3 : Int) (12 : Int)) fun (⟨r_13, w_14⟩ : Int × (LH3 (List Int) Int Int)) => obind (m_law_pick w_14 (Sq.t [(⟨(0 : Int), (1 : Int), (2 : Int), r_10, r_13⟩ : (T5 Int Int Int Int Int)).a, (⟨(0 : Int), (1 : Int), (2 : Int), r_10, r_13⟩ : (T5 Int Int Int Int Int)).b, (⟨(0 : Int), (1 : Int), (2 : Int), r_10, r_13⟩ : (T5 Int Int Int Int Int)).c, (⟨(0 : Int), (1 : Int), (2 : Int), r_10, r_13⟩ : (T5 Int Int Int Int Int)).d, (⟨(0 : Int), (1 : Int), (2 : Int), r_10, r_13⟩ : (T5 Int Int Int Int Int)).e])) fun (⟨r_16, w_17⟩ : Int × (LH3 (List Int) Int Int)) => some (r_16, w_17))) = some (many, s2) ∧ 0 ≤ many ∧ many ≤ 1500 ∧ Sm 10 s2 := by
    by_cases c : a = 29
    · obtain ⟨m, s2, e2, m0, m1, g2⟩ := from_ok (lo := 800) (hi := 1500) g1 (by decide) (by decide) (by decide)
      rw [decide_eq_true c, cT, e2, ob]
      exact ⟨m, s2, rfl, by omega, by omega, g2.mono (by omega)⟩
    · obtain ⟨b, s2, e2, b0, b1, g2⟩ := from_ok (lo := 3) (hi := 40) g1 (by decide) (by decide) (by decide)
      obtain ⟨d, s3, e3, d0, d1, g3⟩ := from_ok (lo := 3) (hi := 12) g2 (by decide) (by decide) (by decide)
      obtain ⟨m, s4, e4, hm, g4⟩ := pick_ok (q := Sq.t [(⟨(0 : Int), (1 : Int), (2 : Int), b, d⟩ : (T5 Int Int Int Int Int)).a, (⟨(0 : Int), (1 : Int), (2 : Int), b, d⟩ : (T5 Int Int Int Int Int)).b, (⟨(0 : Int), (1 : Int), (2 : Int), b, d⟩ : (T5 Int Int Int Int Int)).c, (⟨(0 : Int), (1 : Int), (2 : Int), b, d⟩ : (T5 Int Int Int Int Int)).d, (⟨(0 : Int), (1 : Int), (2 : Int), b, d⟩ : (T5 Int Int Int Int Int)).e]) g3 (by decide) (List.cons_ne_nil _ _) (by show 5 < _; decide)
      have hm' : m = 0 ∨ m = 1 ∨ m = 2 ∨ m = b ∨ m = d := by
        have : m ∈ [0, 1, 2, b, d] := hm
        simpa using this
      rw [decide_eq_false c, cF, e2, ob]
      dsimp only
      rw [e3, ob]
      dsimp only
      rw [e4, ob]
      exact ⟨m, s4, rfl, by omega, by omega, g4.mono (by omega)⟩
  obtain ⟨many, s2, e2, m0, m1, g2⟩ := hm
  obtain ⟨S, s3, e3, t, g3⟩ := table_ok g2 (by decide) m0 m1
  have hn : many.toNat ≤ 1500 := by omega
  have hmn : ((many.toNat : Nat) : Int) = many := by omega
  obtain ⟨T, s4, e4, p4, g4⟩ := shuffled_ok (xs := S) g3 (by rw [t.len]; omega) (by rw [t.len]; omega)
  have hT : T.length = many.toNat := by rw [p4.length_eq, t.len]
  have j4 := judged_ok (d := E T) (b := true) (pl_rows 4 (by omega)) (t.perm hn p4)
  obtain ⟨U, s5, e5, p5, g5⟩ := shuffled_ok (xs := S) g4 (by rw [t.len]; omega) (by rw [t.len]; omega)
  obtain ⟨d, s6, e6, hd, pd, g6⟩ := spoilt_ok g5 (by rw [t.len]; omega) t hn p5
  have j6 := judged_ok pd hd
  unfold m_law
  rw [e0, ob, e1, ob]
  dsimp only
  rw [e2, ob]
  dsimp only
  rw [e3, ob]
  dsimp only
  rw [e4, ob]
  dsimp only
  rw [j4, ob, Bool.not_true, cF, e5, ob]
  dsimp only
  rw [e6, ob]
  dsimp only
  rw [j6, ob, Bool.not_true, cF]
  by_cases c : (0 : Int) < many
  · rw [decide_eq_true c, cT, rngL_ok (by decide) (by decide), ob]
    obtain ⟨s7, e7, _⟩ := loopM_inv (R := Bool) (b := m_law_l1 many S) (fun i s => Sm (10 + 20000 + S.length + S.length + 10 + 10000 * i) s) (xs := (List.range (3 : Int).toNat).map fun (i : Nat) => (i : Int)) (j := 0) (s := s6) g6 fun i x s hx hs => by
      obtain ⟨_, hi⟩ := rng_at hx
      have hi : i < 3 := hi
      obtain ⟨s', e', g'⟩ := turn_ok hs (by rw [t.len]; omega) t hn (by omega) x
      rw [hmn] at e'
      exact ⟨s', e', g'.mono (by omega)⟩
    rw [e7, ob]
    rfl
  · rw [decide_eq_false c, cF, rngL_ok (by decide) (by decide), ob]
    rfl
end K24

set_option Elab.async false
set_option linter.all false
set_option autoImplicit false
set_option maxRecDepth 100000
set_option maxHeartbeats 4000000
namespace K24
open PySem PySem.Spec PyProof.Rows L2 Ly
def topS (i : Nat) : Stmt := PySem.Challenge.pw_togetherapart_k24_tables_without_a_ring.main.body.getD i (.Pass ⟨0, 0, 0, 0⟩)
abbrev s_is_pair : Stmt := topS 1
theorem sc_is_pair : FnScope ["value", "one"] ["value"] (defScope s_is_pair) := ⟨rfl, rfl, rfl, by decide +kernel, rfl, by decide +kernel, by decide +kernel⟩
abbrev s_is_row : Stmt := topS 3
theorem sc_is_row : FnScope ["value"] ["value"] (defScope s_is_row) := ⟨rfl, rfl, rfl, by decide +kernel, rfl, by decide +kernel, by decide +kernel⟩
abbrev s_is_ringless : Stmt := topS 4
theorem sc_is_ringless : FnScope ["rows", "above", "ended", "node", "way", "here", "row"] ["rows"] (defScope s_is_ringless) := ⟨rfl, rfl, rfl, by decide +kernel, rfl, by decide +kernel, by decide +kernel⟩
abbrev s__law_stream : Stmt := topS 10
theorem sc__law_stream : FnScope ["script"] ["script"] (defScope s__law_stream) := ⟨rfl, rfl, rfl, by decide +kernel, rfl, by decide +kernel, by decide +kernel⟩
abbrev s__law_next : Stmt := topS 11
theorem sc__law_next : FnScope ["stream", "many", "digit", "k", "cell"] ["stream", "many"] (defScope s__law_next) := ⟨rfl, rfl, rfl, by decide +kernel, rfl, by decide +kernel, by decide +kernel⟩
abbrev s__law_pick : Stmt := topS 12
theorem sc__law_pick : FnScope ["stream", "rows"] ["stream", "rows"] (defScope s__law_pick) := ⟨rfl, rfl, rfl, by decide +kernel, rfl, by decide +kernel, by decide +kernel⟩
abbrev s__law_from : Stmt := topS 13
theorem sc__law_from : FnScope ["stream", "low", "high"] ["stream", "low", "high"] (defScope s__law_from) := ⟨rfl, rfl, rfl, by decide +kernel, rfl, by decide +kernel, by decide +kernel⟩
abbrev s__law_shuffled : Stmt := topS 14
theorem sc__law_shuffled : FnScope ["stream", "rows", "left", "found", "turn"] ["stream", "rows"] (defScope s__law_shuffled) := ⟨rfl, rfl, rfl, by decide +kernel, rfl, by decide +kernel, by decide +kernel⟩
abbrev s__law_is_row : Stmt := topS 15
theorem sc__law_is_row : FnScope ["value", "kind", "many"] ["value", "kind", "many"] (defScope s__law_is_row) := ⟨rfl, rfl, rfl, by decide +kernel, rfl, by decide +kernel, by decide +kernel⟩
abbrev s__law_same : Stmt := topS 16
theorem sc__law_same : FnScope ["actual", "due", "at", "key"] ["actual", "due"] (defScope s__law_same) := ⟨rfl, rfl, rfl, by decide +kernel, rfl, by decide +kernel, by decide +kernel⟩
abbrev s__law_copy : Stmt := topS 17
theorem sc__law_copy : FnScope ["value", "found", "key", "item"] ["value"] (defScope s__law_copy) := ⟨rfl, rfl, rfl, by decide +kernel, rfl, by decide +kernel, by decide +kernel⟩
abbrev s__law_table : Stmt := topS 6
theorem sc__law_table : FnScope ["stream", "many", "deep", "nodes", "rows", "at", "low", "above"] ["stream", "many"] (defScope s__law_table) := ⟨rfl, rfl, rfl, by decide +kernel, rfl, by decide +kernel, by decide +kernel⟩
abbrev s__law_closed : Stmt := topS 7
theorem sc__law_closed : FnScope ["stream", "rows", "indexes", "at", "ring", "turn", "found", "above"] ["stream", "rows"] (defScope s__law_closed) := ⟨rfl, rfl, rfl, by decide +kernel, rfl, by decide +kernel, by decide +kernel⟩
abbrev s__law_spoilt : Stmt := topS 8
theorem sc__law_spoilt : FnScope ["stream", "rows", "at", "wrong", "found", "node", "above"] ["stream", "rows"] (defScope s__law_spoilt) := ⟨rfl, rfl, rfl, by decide +kernel, rfl, by decide +kernel, by decide +kernel⟩
abbrev s__law_judged : Stmt := topS 9
theorem sc__law_judged : FnScope ["value", "due", "kept"] ["value", "due"] (defScope s__law_judged) := ⟨rfl, rfl, rfl, by decide +kernel, rfl, by decide +kernel, by decide +kernel⟩
abbrev s_law : Stmt := topS 18
theorem sc_law : FnScope ["script", "stream", "great", "many", "rows", "turn", "gone", "wrong", "ring", "at"] ["script"] (defScope s_law) := ⟨rfl, rfl, rfl, by decide +kernel, rfl, by decide +kernel, by decide +kernel⟩
structure Tx (K : PySem.W.Frag) (mg : Str → Option Value) where
  a_is_pair : Addr
  fd_is_pair : FuncData
  F_is_pair : Fun K "is_pair" "is_pair" s_is_pair a_is_pair fd_is_pair
  g_is_pair : mg "is_pair" = some (.ref a_is_pair)
  B_is_pair : Binds K fd_is_pair ["value"] []
  a_is_row : Addr
  fd_is_row : FuncData
  F_is_row : Fun K "is_row" "is_row" s_is_row a_is_row fd_is_row
  g_is_row : mg "is_row" = some (.ref a_is_row)
  B_is_row : Binds K fd_is_row ["value"] []
  a_is_ringless : Addr
  fd_is_ringless : FuncData
  F_is_ringless : Fun K "is_ringless" "is_ringless" s_is_ringless a_is_ringless fd_is_ringless
  g_is_ringless : mg "is_ringless" = some (.ref a_is_ringless)
  B_is_ringless : Binds K fd_is_ringless ["rows"] []
  a__law_stream : Addr
  fd__law_stream : FuncData
  F__law_stream : Fun K "_law_stream" "_law_stream" s__law_stream a__law_stream fd__law_stream
  g__law_stream : mg "_law_stream" = some (.ref a__law_stream)
  B__law_stream : Binds K fd__law_stream ["script"] []
  a__law_next : Addr
  fd__law_next : FuncData
  F__law_next : Fun K "_law_next" "_law_next" s__law_next a__law_next fd__law_next
  g__law_next : mg "_law_next" = some (.ref a__law_next)
  B__law_next : Binds K fd__law_next ["stream", "many"] []
  a__law_pick : Addr
  fd__law_pick : FuncData
  F__law_pick : Fun K "_law_pick" "_law_pick" s__law_pick a__law_pick fd__law_pick
  g__law_pick : mg "_law_pick" = some (.ref a__law_pick)
  B__law_pick : Binds K fd__law_pick ["stream", "rows"] []
  a__law_from : Addr
  fd__law_from : FuncData
  F__law_from : Fun K "_law_from" "_law_from" s__law_from a__law_from fd__law_from
  g__law_from : mg "_law_from" = some (.ref a__law_from)
  B__law_from : Binds K fd__law_from ["stream", "low", "high"] []
  a__law_shuffled : Addr
  fd__law_shuffled : FuncData
  F__law_shuffled : Fun K "_law_shuffled" "_law_shuffled" s__law_shuffled a__law_shuffled fd__law_shuffled
  g__law_shuffled : mg "_law_shuffled" = some (.ref a__law_shuffled)
  B__law_shuffled : Binds K fd__law_shuffled ["stream", "rows"] []
  a__law_is_row : Addr
  fd__law_is_row : FuncData
  F__law_is_row : Fun K "_law_is_row" "_law_is_row" s__law_is_row a__law_is_row fd__law_is_row
  g__law_is_row : mg "_law_is_row" = some (.ref a__law_is_row)
  B__law_is_row : Binds K fd__law_is_row ["value", "kind", "many"] []
  a__law_same : Addr
  fd__law_same : FuncData
  F__law_same : Fun K "_law_same" "_law_same" s__law_same a__law_same fd__law_same
  g__law_same : mg "_law_same" = some (.ref a__law_same)
  B__law_same : Binds K fd__law_same ["actual", "due"] []
  a__law_copy : Addr
  fd__law_copy : FuncData
  F__law_copy : Fun K "_law_copy" "_law_copy" s__law_copy a__law_copy fd__law_copy
  g__law_copy : mg "_law_copy" = some (.ref a__law_copy)
  B__law_copy : Binds K fd__law_copy ["value"] []
  a__law_table : Addr
  fd__law_table : FuncData
  F__law_table : Fun K "_law_table" "_law_table" s__law_table a__law_table fd__law_table
  g__law_table : mg "_law_table" = some (.ref a__law_table)
  B__law_table : Binds K fd__law_table ["stream", "many"] []
  a__law_closed : Addr
  fd__law_closed : FuncData
  F__law_closed : Fun K "_law_closed" "_law_closed" s__law_closed a__law_closed fd__law_closed
  g__law_closed : mg "_law_closed" = some (.ref a__law_closed)
  B__law_closed : Binds K fd__law_closed ["stream", "rows"] []
  a__law_spoilt : Addr
  fd__law_spoilt : FuncData
  F__law_spoilt : Fun K "_law_spoilt" "_law_spoilt" s__law_spoilt a__law_spoilt fd__law_spoilt
  g__law_spoilt : mg "_law_spoilt" = some (.ref a__law_spoilt)
  B__law_spoilt : Binds K fd__law_spoilt ["stream", "rows"] []
  a__law_judged : Addr
  fd__law_judged : FuncData
  F__law_judged : Fun K "_law_judged" "_law_judged" s__law_judged a__law_judged fd__law_judged
  g__law_judged : mg "_law_judged" = some (.ref a__law_judged)
  B__law_judged : Binds K fd__law_judged ["value", "due"] []
  a_law : Addr
  fd_law : FuncData
  F_law : Fun K "law" "law" s_law a_law fd_law
  g_law : mg "law" = some (.ref a_law)
  B_law : Binds K fd_law ["script"] []
  b_abs : mg "abs" = none
  b_all : mg "all" = none
  b_bool : mg "bool" = none
  b_dict : mg "dict" = none
  b_int : mg "int" = none
  b_isinstance : mg "isinstance" = none
  b_len : mg "len" = none
  b_list : mg "list" = none
  b_max : mg "max" = none
  b_min : mg "min" = none
  b_range : mg "range" = none
  b_str : mg "str" = none
  b_tuple : mg "tuple" = none
def R_is_pair : Rel := fun ρ os r os2 => ∃ (value_1 : D), ρ = [.fz (E value_1)] ∧ os = [] ∧ ∃ (x : Bool), m_is_pair value_1 = some x ∧ r = .fz (E x) ∧ os2 = []
def R_is_row : Rel := fun ρ os r os2 => ∃ (value_1 : D), ρ = [.fz (E value_1)] ∧ os = [] ∧ ∃ (x : Bool), m_is_row value_1 = some x ∧ r = .fz (E x) ∧ os2 = []
def R_is_ringless : Rel := fun ρ os r os2 => ∃ (rows_1 : D), ρ = [.fz (E rows_1)] ∧ os = [] ∧ ∃ (x : Bool), m_is_ringless rows_1 = some x ∧ r = .fz (E x) ∧ os2 = []
def R_law_stream : Rel := fun ρ os r os2 => ∃ (script_1 : (List Int)), ρ = [.fz (E script_1)] ∧ os = [] ∧ ∃ (x : (LH3 (List Int) Int Int)), m_law_stream script_1 = some x ∧ r = .nw (E x) ∧ os2 = []
def R_law_next : Rel := fun ρ os r os2 => ∃ (stream_1 : (LH3 (List Int) Int Int)) (many_2 : Int), ρ = [.at 0, .fz (E many_2)] ∧ os = [.has (E stream_1)] ∧ ∃ (x : Int) (s0 : (LH3 (List Int) Int Int)), m_law_next stream_1 many_2 = some (x, s0) ∧ r = .fz (E x) ∧ os2 = [.has (E s0)]
def R_law_pick : Rel := fun ρ os r os2 => ∃ (α : Type) (_ : Enc α), ∃ (stream_1 : (LH3 (List Int) Int Int)) (rows_2 : (Sq α)), ρ = [.at 0, .fz (E rows_2)] ∧ os = [.has (E stream_1)] ∧ ∃ (x : α) (s0 : (LH3 (List Int) Int Int)), m_law_pick stream_1 rows_2 = some (x, s0) ∧ r = .fz (E x) ∧ os2 = [.has (E s0)]
def R_law_from : Rel := fun ρ os r os2 => ∃ (stream_1 : (LH3 (List Int) Int Int)) (low_2 : Int) (high_3 : Int), ρ = [.at 0, .fz (E low_2), .fz (E high_3)] ∧ os = [.has (E stream_1)] ∧ ∃ (x : Int) (s0 : (LH3 (List Int) Int Int)), m_law_from stream_1 low_2 high_3 = some (x, s0) ∧ r = .fz (E x) ∧ os2 = [.has (E s0)]
def R_law_shuffled : Rel := fun ρ os r os2 => ∃ (α : Type) (_ : Enc α), ∃ (stream_1 : (LH3 (List Int) Int Int)) (rows_2 : (List α)), ρ = [.at 0, .fz (E rows_2)] ∧ os = [.has (E stream_1)] ∧ ∃ (x : (List α)) (s0 : (LH3 (List Int) Int Int)), m_law_shuffled stream_1 rows_2 = some (x, s0) ∧ r = .nw (E x) ∧ os2 = [.has (E s0)]
def R_law_is_row : Rel := fun ρ os r os2 => ∃ (value_1 : D) (kind_2 : Str) (many_3 : Int), ρ = [.fz (E value_1), .fz (E kind_2), .fz (E many_3)] ∧ os = [] ∧ ∃ (x : Bool), m_law_is_row value_1 kind_2 many_3 = some x ∧ r = .fz (E x) ∧ os2 = []
def R_law_same (n : Nat) : Rel := fun ρ os r os2 => ∃ (actual_1 : D) (due_2 : D), ρ = [.fz (E actual_1), .fz (E due_2)] ∧ os = [] ∧ ∃ (x : Bool), m_law_same n actual_1 due_2 = some x ∧ r = .fz (E x) ∧ os2 = []
def R_law_copy (n : Nat) : Rel := fun ρ os r os2 => ∃ (value_1 : D), ρ = [.fz (E value_1)] ∧ os = [] ∧ ∃ (x : D), m_law_copy n value_1 = some x ∧ r = .fz (E x) ∧ os2 = []
def R_law_table : Rel := fun ρ os r os2 => ∃ (stream_1 : (LH3 (List Int) Int Int)) (many_2 : Int), ρ = [.at 0, .fz (E many_2)] ∧ os = [.has (E stream_1)] ∧ ∃ (x : (List ((Int × Int) × (Int × Int)))) (s0 : (LH3 (List Int) Int Int)), m_law_table stream_1 many_2 = some (x, s0) ∧ r = .nw (E x) ∧ os2 = [.has (E s0)]
def R_law_closed : Rel := fun ρ os r os2 => ∃ (stream_1 : (LH3 (List Int) Int Int)) (rows_2 : (List ((Int × Int) × (Int × Int)))), ρ = [.at 0, .fz (E rows_2)] ∧ os = [.has (E stream_1)] ∧ ∃ (x : ((List ((Int × Int) × (Int × Int))) × (List Int))) (s0 : (LH3 (List Int) Int Int)), m_law_closed stream_1 rows_2 = some (x, s0) ∧ r = .fz (E x) ∧ os2 = [.has (E s0)]
def R_law_spoilt : Rel := fun ρ os r os2 => ∃ (stream_1 : (LH3 (List Int) Int Int)) (rows_2 : (List ((Int × Int) × (Int × Int)))), ρ = [.at 0, .fz (E rows_2)] ∧ os = [.has (E stream_1)] ∧ ∃ (x : D) (s0 : (LH3 (List Int) Int Int)), m_law_spoilt stream_1 rows_2 = some (x, s0) ∧ r = .fz (E x) ∧ os2 = [.has (E s0)]
def R_law_judged : Rel := fun ρ os r os2 => ∃ (value_1 : D) (due_2 : Bool), ρ = [.fz (E value_1), .fz (E due_2)] ∧ os = [] ∧ ∃ (x : Bool), m_law_judged value_1 due_2 = some x ∧ r = .fz (E x) ∧ os2 = []
def R_law : Rel := fun ρ os r os2 => ∃ (script_1 : (List Int)), ρ = [.fz (E script_1)] ∧ os = [] ∧ ∃ (x : Bool), m_law script_1 = some x ∧ r = .fz (E x) ∧ os2 = []
section
variable {P : Program} {w : World} {K : PySem.W.Frag} {mg : Str → Option Value} {base : Heap}
theorem ok_is_pair (T : Tx K mg) : FnOk P w K mg base CX0 1 T.a_is_pair T.fd_is_pair ["value"] (spR K R_is_pair) := by
  refine fn_R (k := 0) T.F_is_pair sc_is_pair (fun ρ os r os2 h => by obtain ⟨value_1, rfl, rfl, x, h, rfl, rfl⟩ := h; exact ⟨rfl, rfl⟩) fun cdv A outer s H EX hr => ?_
  have nd := sc_is_pair.nd
  refine ⟨_, pss_cons (ps_if (PW.pt (pw_or (pt_not (pt_val (pe_callB (call_isK (K := K) rfl) (by rfl) T.b_isinstance (by decide +kernel) (pa_cons (pv 0) (pa_cons (pe_bltn (v := .ty "tuple") (by rfl) T.b_tuple (by decide +kernel) rfl) pa_nil))))) (pw_or1 (pt_cmpR op_ne (pe_callB (call_lenA (K := K) rfl) (by rfl) T.b_len (by decide +kernel) (pa_cons (pv 0) pa_nil)) (pe_int) (nomark _))))) (pss_one (ps_ret (pe_bl))) (pss_nil)) (pss_one (ps_ret (pe_callB (call_allK rfl (K := K) rfl) (by rfl) T.b_all (by decide +kernel) (pa_cons (pe_lc (own := [("one", 1)]) rfl nd (pi_tupK (K := K) rfl (pv 0)) (blkOk_by (own := [("one", 1)]) (N := ["value", "one"]) (sc := defScope s_is_pair) (by decide +kernel)) (fun _ _ _ _ _ => pg_name (i := 1) nd rfl (Or.inl rfl)) (fun _ _ _ _ _ => pts_nil) (fun _ _ _ _ _ => pe_and (pe_callB (call_isK (K := K) rfl) (by rfl) T.b_isinstance (by decide +kernel) (pa_cons (pv 1) (pa_cons (pe_bltn (v := .ty "int") (by rfl) T.b_int (by decide +kernel) rfl) pa_nil))) (pe_one (pe_not (pe_callB (call_isK (K := K) rfl) (by rfl) T.b_isinstance (by decide +kernel) (pa_cons (pv 1) (pa_cons (pe_bltn (v := .ty "bool") (by rfl) T.b_bool (by decide +kernel) rfl) pa_nil))))))) pa_nil)))), ?_⟩
  rintro ρ os r os2 ⟨value_1, rfl, rfl, x, h, rfl, rfl⟩
  show Ly.Run K _ [.fz (E (value_1 : D)), .un] [] _
  unfold m_is_pair at h
  have h0 := obind_some h
  clear h
  obtain ⟨b_2, h_3, h⟩ := h0
  have h0 := obind_some h
  clear h
  obtain ⟨b_6, h_7, h⟩ := h0
  refine run_seq (run_if (et_or (b := b_6) (os2 := []) (et_not (et_B (ev_isiD (ea_cons (ev_var rfl) (ea_cons ev_ty ea_nil)) h_3))) (fun hb_8 => by have h := cond_f hb_8 h_7; have h0 := obind_some h; clear h; obtain ⟨n_4, h_5, h⟩ := h0; have k0 := Option.some.inj h; clear h; subst k0; exact (et_test (ev_neI (ev_lenA (ea_cons (ev_var rfl) ea_nil) rfl h_5) ev_int))) (fun hb_8 => by have h := cond_t hb_8 h_7; have k0 := Option.some.inj h; clear h; subst k0; exact ⟨rfl, rfl⟩)) (fun hb_9 => ?_) (fun hb_9 => ?_))
  · replace h := cond_t hb_9 h
    have k0 := Option.some.inj h
    clear h
    subst k0
    exact run_ret (s := .fz (E (false : Bool))) ev_bl ⟨rfl, .nil⟩
  · replace h := cond_f hb_9 h
    refine run_next ?_
    have h0 := obind_some h
    clear h
    obtain ⟨ds_10, h_11, h⟩ := h0
    have h0 := obind_some h
    clear h
    obtain ⟨⟨ys_20, u_21⟩, h_22, h⟩ := h0
    dsimp only at h
    have k0 := Option.some.inj h
    clear h
    subst k0
    exact run_ret (s := .fz (E ((ys_20.all id) : Bool))) (ev_all (ea_cons (ev_frz (en_lc (osh := fun (_ : Unit) => []) (src_dTup (ev_var rfl) h_11) h_22 rfl (by
      rintro one_12 _u y s2 hx h
      dsimp only [m_is_pair_c1] at h
      have h0 := obind_some h
      clear h
      obtain ⟨b_13, h_14, h⟩ := h0
      have h0 := obind_some h
      clear h
      obtain ⟨b_17, h_18, h⟩ := h0
      have k0 := Option.some.inj h
      clear h
      have k0p := Prod.mk.inj k0
      clear k0
      obtain ⟨e0, k1⟩ := k0p
      subst e0
      subst k1
      exact ⟨_, _, tgb_name, by decide, true, _, (fun R F ps σ H Q I q => q F H (Ex.refl F) I), fun _ => ⟨_, rfl, (ev_andV (b := b_17) (os2 := []) (ev_isiD (ea_cons (ev_var rfl) (ea_cons ev_ty ea_nil)) h_14) (fun hb_19 => by have h := cond_t hb_19 h_18; have h0 := obind_some h; clear h; obtain ⟨b_15, h_16, h⟩ := h0; have k0 := Option.some.inj h; clear h; subst k0; exact (ev_notV (ev_isiD (ea_cons (ev_var rfl) (ea_cons ev_ty ea_nil)) h_16))) (fun hb_19 => by have h := cond_f hb_19 h_18; have k0 := Option.some.inj h; clear h; subst k0; exact ⟨rfl, rfl⟩))⟩, fun z => nomatch z⟩))) ea_nil) rfl) ⟨rfl, .nil⟩
theorem ok_is_row (T : Tx K mg) : FnOk P w K mg base CX0 2 T.a_is_row T.fd_is_row ["value"] (spR K R_is_row) := by
  have G_is_pair := ok_is_pair (P := P) (w := w) (base := base) T
  refine fn_R (k := 1) T.F_is_row sc_is_row (fun ρ os r os2 h => by obtain ⟨value_1, rfl, rfl, x, h, rfl, rfl⟩ := h; exact ⟨rfl, rfl⟩) fun cdv A outer s H EX hr => ?_
  have nd := sc_is_row.nd
  refine ⟨_, pss_cons (ps_if (PW.pt (pw_or (pt_not (pt_val (pe_callB (call_isK (K := K) rfl) (by rfl) T.b_isinstance (by decide +kernel) (pa_cons (pv 0) (pa_cons (pe_bltn (v := .ty "tuple") (by rfl) T.b_tuple (by decide +kernel) rfl) pa_nil))))) (pw_or (pt_cmpR op_ne (pe_callB (call_lenA (K := K) rfl) (by rfl) T.b_len (by decide +kernel) (pa_cons (pv 0) pa_nil)) (pe_int) (nomark _)) (pw_or (pt_not (pt_val (pe_call G_is_pair (hr.mono (by decide)) (by rfl) T.g_is_pair T.F_is_pair.kp T.B_is_pair .nil pass0 (pa_cons (pe_ix (ix_seqK (K := K) rfl) (pv 0) (pe_int) (fun _ _ => rfl)) pa_nil)))) (pw_or1 (pt_not (pt_val (pe_call G_is_pair (hr.mono (by decide)) (by rfl) T.g_is_pair T.F_is_pair.kp T.B_is_pair .nil pass0 (pa_cons (pe_ix (ix_seqK (K := K) rfl) (pv 0) (pe_int) (fun _ _ => rfl)) pa_nil))))))))) (pss_one (ps_ret (pe_bl))) (pss_nil)) (pss_one (ps_ret (pe_cmpR op_ge (pe_callB (call_minI rfl (K := K) rfl hr.units) (by rfl) T.b_min (by decide +kernel) (pa_cons (pe_op (op_catAK (K := K) rfl) (pe_ix (ix_seqK (K := K) rfl) (pv 0) (pe_int) (fun _ _ => rfl)) (pe_ix (ix_seqK (K := K) rfl) (pv 0) (pe_int) (fun _ _ => rfl))) pa_nil)) (pe_int) (nomark _)))), ?_⟩
  rintro ρ os r os2 ⟨value_1, rfl, rfl, x, h, rfl, rfl⟩
  show Ly.Run K _ [.fz (E (value_1 : D))] [] _
  unfold m_is_row at h
  have h0 := obind_some h
  clear h
  obtain ⟨b_2, h_3, h⟩ := h0
  have h0 := obind_some h
  clear h
  obtain ⟨b_20, h_21, h⟩ := h0
  refine run_seq (run_if (et_or (b := b_20) (os2 := []) (et_not (et_B (ev_isiD (ea_cons (ev_var rfl) (ea_cons ev_ty ea_nil)) h_3))) (fun hb_22 => by have h := cond_f hb_22 h_21; have h0 := obind_some h; clear h; obtain ⟨n_4, h_5, h⟩ := h0; have h0 := obind_some h; clear h; obtain ⟨b_17, h_18, h⟩ := h0; have k0 := Option.some.inj h; clear h; subst k0; exact (et_or (b := b_17) (os2 := []) (et_test (ev_neI (ev_lenA (ea_cons (ev_var rfl) ea_nil) rfl h_5) ev_int)) (fun hb_19 => by have h := cond_f hb_19 h_18; have h0 := obind_some h; clear h; obtain ⟨t_6, h_7, h⟩ := h0; have h0 := obind_some h; clear h; obtain ⟨r_8, h_9, h⟩ := h0; have h0 := obind_some h; clear h; obtain ⟨b_14, h_15, h⟩ := h0; have k0 := Option.some.inj h; clear h; subst k0; exact (et_or (b := b_14) (os2 := []) (et_not (et_B (ev_call (Rl := R_is_pair) (ds := [E (t_6 : D)]) (ea_cons (ev_ixD (ev_var rfl) ev_int rfl h_7) ea_nil) ⟨t_6, rfl, rfl, r_8, h_9, rfl, rfl⟩))) (fun hb_16 => by have h := cond_f hb_16 h_15; have h0 := obind_some h; clear h; obtain ⟨t_10, h_11, h⟩ := h0; have h0 := obind_some h; clear h; obtain ⟨r_12, h_13, h⟩ := h0; have k0 := Option.some.inj h; clear h; subst k0; exact (et_not (et_B (ev_call (Rl := R_is_pair) (ds := [E (t_10 : D)]) (ea_cons (ev_ixD (ev_var rfl) ev_int rfl h_11) ea_nil) ⟨t_10, rfl, rfl, r_12, h_13, rfl, rfl⟩)))) (fun hb_16 => by have h := cond_t hb_16 h_15; have k0 := Option.some.inj h; clear h; subst k0; exact ⟨rfl, rfl⟩))) (fun hb_19 => by have h := cond_t hb_19 h_18; have k0 := Option.some.inj h; clear h; subst k0; exact ⟨rfl, rfl⟩))) (fun hb_22 => by have h := cond_t hb_22 h_21; have k0 := Option.some.inj h; clear h; subst k0; exact ⟨rfl, rfl⟩)) (fun hb_23 => ?_) (fun hb_23 => ?_))
  · replace h := cond_t hb_23 h
    have k0 := Option.some.inj h
    clear h
    subst k0
    exact run_ret (s := .fz (E (false : Bool))) ev_bl ⟨rfl, .nil⟩
  · replace h := cond_f hb_23 h
    refine run_next ?_
    have h0 := obind_some h
    clear h
    obtain ⟨t_24, h_25, h⟩ := h0
    have h0 := obind_some h
    clear h
    obtain ⟨t_26, h_27, h⟩ := h0
    have h0 := obind_some h
    clear h
    obtain ⟨t_28, h_29, h⟩ := h0
    have h0 := obind_some h
    clear h
    obtain ⟨m_30, h_31, h⟩ := h0
    have k0 := Option.some.inj h
    clear h
    subst k0
    exact run_ret (s := .fz (E ((decide ((0 : Int) ≤ m_30)) : Bool))) (ev_ge (ev_extD (ea_cons (ev_catD (ev_ixD (ev_var rfl) ev_int rfl h_25) (ev_ixD (ev_var rfl) ev_int rfl h_27) h_29) ea_nil) rfl h_31) ev_int) ⟨rfl, .nil⟩
theorem ok_is_ringless (T : Tx K mg) : FnOk P w K mg base CX0 3 T.a_is_ringless T.fd_is_ringless ["rows"] (spR K R_is_ringless) := by
  have G_is_row := ok_is_row (P := P) (w := w) (base := base) T
  refine fn_R (k := 2) T.F_is_ringless sc_is_ringless (fun ρ os r os2 h => by obtain ⟨rows_1, rfl, rfl, x, h, rfl, rfl⟩ := h; exact ⟨rfl, rfl⟩) fun cdv A outer s H EX hr => ?_
  have nd := sc_is_ringless.nd
  refine ⟨_, pss_cons (ps_if (PW.pt (pw_or (pt_not (pt_val (pe_callB (call_isK (K := K) rfl) (by rfl) T.b_isinstance (by decide +kernel) (pa_cons (pv 0) (pa_cons (pe_bltn (v := .ty "list") (by rfl) T.b_list (by decide +kernel) rfl) pa_nil))))) (pw_or1 (pt_not (pt_val (pe_callB (call_allK rfl (K := K) rfl) (by rfl) T.b_all (by decide +kernel) (pa_cons (pe_lc (own := [("row", 6)]) rfl nd (pi_listK (K := K) rfl (pv 0)) (blkOk_by (own := [("row", 6)]) (N := ["rows", "above", "ended", "node", "way", "here", "row"]) (sc := defScope s_is_ringless) (by decide +kernel)) (fun _ _ _ _ _ => pg_name (i := 6) nd rfl (Or.inl rfl)) (fun _ _ _ _ _ => pts_nil) (fun _ _ _ _ _ => pe_call G_is_row (hr.mono (by decide)) (by rfl) T.g_is_row T.F_is_row.kp T.B_is_row .nil pass0 (pa_cons (pv 6) pa_nil))) pa_nil))))))) (pss_one (ps_ret (pe_bl))) (pss_nil)) (pss_cons (ps_setDcT (own := [("row", 6)]) (i := 1) (hu_of hr) rfl nd rfl rfl (sw_trueD rfl rfl rfl (by decide +kernel)) (pi_listK (K := K) rfl (pv 0)) (blkOk_by (own := [("row", 6)]) (N := ["rows", "above", "ended", "node", "way", "here", "row"]) (sc := defScope s_is_ringless) (by decide +kernel)) (fun _ _ _ _ _ => pg_name (i := 6) nd rfl (Or.inl rfl)) (fun _ _ _ _ _ => pts_nil) (fun _ _ _ _ _ => pe_ix (ix_seqK (K := K) rfl) (pv 6) (pe_int) (fun _ _ => rfl)) (fun _ _ _ _ _ => pe_ix (ix_seqK (K := K) rfl) (pv 6) (pe_int) (fun _ _ => rfl))) (pss_cons (ps_if (pt_cmpR op_ne (pe_callB call_lenDT (by rfl) T.b_len (by decide +kernel) (pa_cons (pv 1) pa_nil)) (pe_callB (call_lenA (K := K) rfl) (by rfl) T.b_len (by decide +kernel) (pa_cons (pv 0) pa_nil)) (nomark _)) (pss_one (ps_ret (pe_bl))) (pss_nil)) (pss_cons (ps_set (i := 2) nd rfl (Or.inl rfl) (pe_dnewT)) (pss_cons (ps_keys (ps_for PassesOwn.never rfl (pi_keys (pv 1)) (pg_name (i := 3) nd rfl (Or.inl rfl)) (pss_cons (ps_set (i := 4) nd rfl (Or.inl rfl) (pe_dnewT)) (pss_cons (ps_set (i := 5) nd rfl (Or.inl rfl) (pv 3)) (pss_cons (ps_while PassesOwn.never (PW.pt (pw_and (pt_cmp (pc_din (hu_of hr) (pv 5) (pv 1))) (pw_and (pt_cmp (pc_dnotin (hu_of hr) (pv 5) (pv 2))) (pw_and1 (pt_cmp (pc_dnotin (hu_of hr) (pv 5) (pv 4))))))) (pss_cons (ps_dput (hu_of hr) (pv 4) (pv 5) (pe_bl) rfl) (pss_one (ps_set (i := 5) nd rfl (Or.inl rfl) (pe_dget (hu_of hr) (pv 1) (pv 5) (fun _ _ => rfl)))))) (pss_cons (ps_if (pt_cmp (pc_din (hu_of hr) (pv 5) (pv 4))) (pss_one (ps_ret (pe_bl))) (pss_nil)) (pss_one (ps_expr (pe_bmK (K := K) rfl PySem.F.plainAttrs_dict PySem.F.slot_dict_update PySem.F.type_dict_update (mt_updT (hu_of hr)) (pv 2) (pa_cons (pv 4) pa_nil)))))))))) (pss_one (ps_ret (pe_bl))))))), ?_⟩
  rintro ρ os r os2 ⟨rows_1, rfl, rfl, x, h, rfl, rfl⟩
  show Ly.Run K _ [.fz (E (rows_1 : D)), .un, .un, .un, .un, .un, .un] [] _
  unfold m_is_ringless at h
  have h0 := obind_some h
  clear h
  obtain ⟨b_2, h_3, h⟩ := h0
  have h0 := obind_some h
  clear h
  obtain ⟨b_12, h_13, h⟩ := h0
  refine run_seq (run_if (et_or (b := b_12) (os2 := []) (et_not (et_B (ev_isiD (ea_cons (ev_var rfl) (ea_cons ev_ty ea_nil)) h_3))) (fun hb_14 => by have h := cond_f hb_14 h_13; have h0 := obind_some h; clear h; obtain ⟨ds_4, h_5, h⟩ := h0; have h0 := obind_some h; clear h; obtain ⟨⟨ys_9, u_10⟩, h_11, h⟩ := h0; dsimp only at h; have k0 := Option.some.inj h; clear h; subst k0; exact (et_not (et_B (ev_all (ea_cons (ev_frz (en_lc (osh := fun (_ : Unit) => []) (src_dLst (ev_var rfl) h_5) h_11 rfl (by
      rintro row_6 _u y s2 hx h
      dsimp only [m_is_ringless_c1] at h
      have h0 := obind_some h
      clear h
      obtain ⟨r_7, h_8, h⟩ := h0
      have k0 := Option.some.inj h
      clear h
      have k0p := Prod.mk.inj k0
      clear k0
      obtain ⟨e0, k1⟩ := k0p
      subst e0
      subst k1
      exact ⟨_, _, tgb_name, by decide, true, _, (fun R F ps σ H Q I q => q F H (Ex.refl F) I), fun _ => ⟨_, rfl, (ev_call (Rl := R_is_row) (ds := [E (row_6 : D)]) (ea_cons (ev_var rfl) ea_nil) ⟨row_6, rfl, rfl, r_7, h_8, rfl, rfl⟩)⟩, fun z => nomatch z⟩))) ea_nil) rfl)))) (fun hb_14 => by have h := cond_t hb_14 h_13; have k0 := Option.some.inj h; clear h; subst k0; exact ⟨rfl, rfl⟩)) (fun hb_15 => ?_) (fun hb_15 => ?_))
  · replace h := cond_t hb_15 h
    have k0 := Option.some.inj h
    clear h
    subst k0
    exact run_ret (s := .fz (E (false : Bool))) ev_bl ⟨rfl, .nil⟩
  · replace h := cond_f hb_15 h
    refine run_next ?_
    have h0 := obind_some h
    clear h
    obtain ⟨ds_16, h_17, h⟩ := h0
    have h0 := obind_some h
    clear h
    obtain ⟨ys_25, h_26, h⟩ := h0
    refine run_seq (run_asg (i := 1) (s := .fz (E ((⟨ys_25⟩ : (DctT D)) : (DctT D)))) (ev_frz (en_dcT (src_dLst (ev_var rfl) h_17) h_26 (by
      rintro row_18 y hx h
      dsimp only [m_is_ringless_c2] at h
      have h0 := obind_some h
      clear h
      obtain ⟨t_19, h_20, h⟩ := h0
      have h0 := obind_some h
      clear h
      obtain ⟨k_21, h_22, h⟩ := h0
      have h0 := obind_some h
      clear h
      obtain ⟨t_23, h_24, h⟩ := h0
      have k0 := Option.some.inj h
      clear h
      subst k0
      exact ⟨_, _, tgb_name, by decide, true, (fun R F ps σ H Q I q => q F H (Ex.refl F) I), fun _ => ⟨_, _, rfl, (ev_tkD (ev_ixD (ev_var rfl) ev_int rfl h_20) h_22), (ev_ixD (ev_var rfl) ev_int rfl h_24)⟩, fun z => nomatch z⟩))) ?_) 
    have h0 := obind_some h
    clear h
    obtain ⟨n_27, h_28, h⟩ := h0
    refine run_seq (run_if (et_test (ev_neI (ev_lenDT (l := (⟨ys_25⟩ : (DctT D)).l) (ea_cons (ev_var rfl) ea_nil) rfl) (ev_lenA (ea_cons (ev_var rfl) ea_nil) rfl h_28))) (fun hb_29 => ?_) (fun hb_29 => ?_))
    · replace h := cond_t hb_29 h
      have k0 := Option.some.inj h
      clear h
      subst k0
      exact run_ret (s := .fz (E (false : Bool))) ev_bl ⟨rfl, .nil⟩
    · replace h := cond_f hb_29 h
      refine run_next ?_
      refine run_seq (run_asgN (i := 2) (d := E ((⟨[]⟩ : (DctT Bool)) : (DctT Bool))) (en_dnewT (α := Bool)) ?_) 
      have h0 := obind_some h
      clear h
      obtain ⟨c_63, h_64, h⟩ := h0
      show Ly.Run _ _ [.fz (E (rows_1 : D)), .fz (E ((⟨ys_25⟩ : (DctT D)) : (DctT D))), .at 0, .un, .un, .un, .un] [.has (E ((⟨[]⟩ : (DctT Bool)) : (DctT Bool)))] _
      refine run_seq (run_forTa (fun (s_30 : (DctT Bool)) => [.fz (E (rows_1 : D)), .fz (E ((⟨ys_25⟩ : (DctT D)) : (DctT D))), .at 0, .un, .un, .un, .un]) (fun (s_30 : (DctT Bool)) => [.has (E (s_30 : (DctT Bool)))]) (fun (x : Bool) sl os2 => RetP 0 [] (.fz (E (x : Bool))) sl os2) (l := (⟨ys_25⟩ : (DctT D)).l) rfl h_64 (by exact ⟨(.fz (.fz (.at (by show 0 < 1; decide) (.un (.un (.un (.un .nil))))))), (.has .nil)⟩) (fun _ => rfl) ?_ ?_ ?_)
      · rintro node_31 s_30 c hx h
        dsimp only [m_is_ringless_l1] at h
        refine ⟨_, _, tgb_name, ?_⟩
        refine run_seq (run_asgN (i := 4) (d := E ((⟨[]⟩ : (DctT Bool)) : (DctT Bool))) (en_dnewT (α := Bool)) ?_) 
        refine run_seq (run_asg (i := 5) (s := .fz (E ((E (node_31 : TK)) : D))) (ev_var rfl) ?_) 
        have h0 := obind_some h
        clear h
        obtain ⟨⟨here_54, w_55⟩, h_56, h⟩ := h0
        dsimp only at h
        show Ly.Run _ _ [.fz (E (rows_1 : D)), .fz (E ((⟨ys_25⟩ : (DctT D)) : (DctT D))), .at 0, .fz (E (node_31 : TK)), .at 1, .fz (E ((E (node_31 : TK)) : D)), .un] [.has (E (s_30 : (DctT Bool))), .has (E ((⟨[]⟩ : (DctT Bool)) : (DctT Bool)))] _
        refine run_seq (run_whileN (fun (⟨here_32, s_33⟩ : D × (DctT Bool)) => [.fz (E (rows_1 : D)), .fz (E ((⟨ys_25⟩ : (DctT D)) : (DctT D))), .at 0, .fz (E (node_31 : TK)), .at 1, .fz (E (here_32 : D)), .un]) (fun (⟨here_32, s_33⟩ : D × (DctT Bool)) => [.has (E (s_30 : (DctT Bool))), .has (E (s_33 : (DctT Bool)))]) h_56 (by exact ⟨(.fz (.fz (.at (by show 0 < 2; decide) (.fz (.at (by show 1 < 2; decide) (.fz (.un .nil))))))), (.has (.has .nil))⟩) (fun _ => rfl) (by
      rintro ⟨here_32, s_33⟩ q h
      dsimp only [m_is_ringless_w1c] at h
      have h0 := obind_some h
      clear h
      obtain ⟨k_34, h_35, h⟩ := h0
      have h0 := obind_some h
      clear h
      obtain ⟨b_43, h_44, h⟩ := h0
      have k0 := Option.some.inj h
      clear h
      subst k0
      exact (et_and (b := b_43) (os2 := [.has (E (s_30 : (DctT Bool))), .has (E (s_33 : (DctT Bool)))]) (et_B (ev_dinT (k := k_34.l) (ev_tkD (ev_var rfl) h_35) (ev_var rfl) rfl)) (fun hb_45 => by have h := cond_t hb_45 h_44; have h0 := obind_some h; clear h; obtain ⟨k_36, h_37, h⟩ := h0; have h0 := obind_some h; clear h; obtain ⟨b_40, h_41, h⟩ := h0; have k0 := Option.some.inj h; clear h; subst k0; exact (et_and (b := b_40) (os2 := [.has (E (s_30 : (DctT Bool))), .has (E (s_33 : (DctT Bool)))]) (et_B (ev_dniT (k := k_36.l) (ev_tkD (ev_var rfl) h_37) (ev_var rfl) rfl)) (fun hb_42 => by have h := cond_t hb_42 h_41; have h0 := obind_some h; clear h; obtain ⟨k_38, h_39, h⟩ := h0; have k0 := Option.some.inj h; clear h; subst k0; exact (et_B (ev_dniT (k := k_38.l) (ev_tkD (ev_var rfl) h_39) (ev_var rfl) rfl))) (fun hb_42 => by have h := cond_f hb_42 h_41; have k0 := Option.some.inj h; clear h; subst k0; exact ⟨rfl, rfl⟩))) (fun hb_45 => by have h := cond_f hb_45 h_44; have k0 := Option.some.inj h; clear h; subst k0; exact ⟨rfl, rfl⟩))) ?_ ?_)
        · rintro ⟨here_32, s_33⟩ c hq h
          dsimp only [m_is_ringless_w1] at h
          have h0 := obind_some h
          clear h
          obtain ⟨k_46, h_47, h⟩ := h0
          have h0 := obind_some h
          clear h
          obtain ⟨way_48, h_49, h⟩ := h0
          refine run_seq (run_dputT (l := s_33.l) (k := k_46.l) (x := true) ev_bl (ev_var rfl) (ev_tkD (ev_var rfl) h_47) rfl h_49 ?_) 
          have h0 := obind_some h
          clear h
          obtain ⟨k_50, h_51, h⟩ := h0
          have h0 := obind_some h
          clear h
          obtain ⟨t_52, h_53, h⟩ := h0
          refine run_asg (i := 5) (s := .fz (E (t_52 : D))) (ev_dgetT (k := k_50.l) (ev_var rfl) (ev_tkD (ev_var rfl) h_51) rfl h_53) ?_
          cases h
          exact ⟨_, rfl, ⟨(.fz (.fz (.at (by show 0 < 2; decide) (.fz (.at (by show 1 < 2; decide) (.fz (.un .nil))))))), (.has (.has .nil))⟩⟩
        have h0 := obind_some h
        clear h
        obtain ⟨k_57, h_58, h⟩ := h0
        refine run_seq (run_if (et_B (ev_dinT (k := k_57.l) (ev_tkD (ev_var rfl) h_58) (ev_var rfl) rfl)) (fun hb_59 => ?_) (fun hb_59 => ?_))
        · replace h := cond_t hb_59 h
          cases h
          exact run_ret (s := .fz (E (false : Bool))) ev_bl ⟨_, rfl, ⟨rfl, .nil⟩⟩
        · replace h := cond_f hb_59 h
          refine run_next ?_
          refine run_still (i := 1) (j := 4) (d := E (w_55 : (DctT Bool))) rfl rfl ?_
          have h0 := obind_some h
          clear h
          obtain ⟨ended_60, h_61, h⟩ := h0
          refine run_drop (ev_updO (l := s_30.l) (m := w_55.l) (ev_var rfl) ⟨_, rfl⟩ (ev_var rfl) rfl h_61) ?_
          cases h
          exact ⟨_, rfl, ⟨(.fz (.fz (.at (by show 0 < 1; decide) (.un (.un (.un (.un .nil))))))), (.has .nil)⟩⟩
      · rintro w_62 hc
        subst hc
        dsimp only [ctl] at h
        have k0 := Option.some.inj h
        clear h
        subst k0
        exact run_ret (s := .fz (E (true : Bool))) ev_bl ⟨rfl, .nil⟩
      · rintro r_65 hc sl os2 hR
        subst hc
        dsimp only [ctl] at h
        have k0 := Option.some.inj h
        clear h
        subst k0
        exact hR
theorem ok_law_stream (T : Tx K mg) : FnOk P w K mg base CX0 1 T.a__law_stream T.fd__law_stream ["script"] (spR K R_law_stream) := by
  refine fn_R (k := 0) T.F__law_stream sc__law_stream (fun ρ os r os2 h => by obtain ⟨script_1, rfl, rfl, x, h, rfl, rfl⟩ := h; exact ⟨rfl, rfl⟩) fun cdv A outer s H EX hr => ?_
  have nd := sc__law_stream.nd
  refine ⟨_, pss_one (ps_ret (pe_lst (pa_cons (pe_callTy (call_listK (K := K) rfl) (by rfl) T.b_list (by decide +kernel) (pa_cons (pv 0) pa_nil)) (pa_cons (pe_int) (pa_cons (pe_int) pa_nil))))), ?_⟩
  rintro ρ os r os2 ⟨script_1, rfl, rfl, x, h, rfl, rfl⟩
  show Ly.Run K _ [.fz (E (script_1 : (List Int)))] [] _
  unfold m_law_stream at h
  have k0 := Option.some.inj h
  clear h
  subst k0
  exact run_retN (en_new (ds := [E (script_1 : (List Int)), E ((0 : Int) : Int), E ((0 : Int) : Int)]) (ea_cons (ev_frz (en_list (ea_cons (ev_var rfl) ea_nil) (.inl rfl))) (ea_cons ev_int (ea_cons ev_int ea_nil))) (by show 3 ≤ sizeLine; decide)) ⟨(by show 0 ≤ 0; decide), rfl, .nil⟩
theorem ok_law_next (T : Tx K mg) : FnOk P w K mg base CX0 1 T.a__law_next T.fd__law_next ["stream", "many"] (spR K R_law_next) := by
  refine fn_R (k := 0) T.F__law_next sc__law_next (fun ρ os r os2 h => by obtain ⟨stream_1, many_2, rfl, rfl, x, s0, h, rfl, rfl⟩ := h; exact ⟨rfl, rfl⟩) fun cdv A outer s H EX hr => ?_
  have nd := sc__law_next.nd
  refine ⟨_, pss_cons (ps_if (pt_cmpR op_eq (pe_ix (ix_listK (K := K) rfl) (pv 0) (pe_int) (fun _ _ => rfl)) (pe_int) (nomark _)) (pss_cons (ps_set (i := 3) nd rfl (Or.inl rfl) (pe_ix (ix_listK (K := K) rfl) (pv 0) (pe_int) (fun _ _ => rfl))) (pss_cons (ps_set (i := 4) nd rfl (Or.inl rfl) (pe_op op_add (pe_int) (pv 3))) (pss_cons (ps_if (pt_cmpR op_lt (pv 3) (pe_callB (call_lenK (K := K) rfl) (by rfl) T.b_len (by decide +kernel) (pa_cons (pe_ix (ix_listK (K := K) rfl) (pv 0) (pe_int) (fun _ _ => rfl)) pa_nil)) (nomark _)) (pss_one (ps_set (i := 4) nd rfl (Or.inl rfl) (pe_op op_modN (pe_callTy call_int1 (by rfl) T.b_int (by decide +kernel) (pa_cons (pe_callB call_abs (by rfl) T.b_abs (by decide +kernel) (pa_cons (pe_ix (ix_listK (K := K) rfl) (pe_ix (ix_listK (K := K) rfl) (pv 0) (pe_int) (fun _ _ => rfl)) (pv 3) (fun _ _ => rfl)) pa_nil)) pa_nil)) (pe_op op_mulW (pe_op op_mulW (pe_op op_pow (pe_int) (pe_int)) (pe_op op_pow (pe_int) (pe_int))) (pe_op op_pow (pe_int) (pe_int)))))) (pss_nil)) (pss_cons (ps_if (pt_cmpR op_lt (pv 4) (pe_op op_pow (pe_int) (pe_int)) (nomark _)) (pss_cons (ps_set (i := 4) nd rfl (Or.inl rfl) (pe_op op_modN (pe_callTy call_int1 (by rfl) T.b_int (by decide +kernel) (pa_cons (pe_op op_add (pe_op op_add (pe_op op_mulW (pv 4) (pe_int)) (pe_op op_mulW (pv 3) (pe_int))) (pe_int)) pa_nil)) (pe_int))) (pss_one (ps_set (i := 4) nd rfl (Or.inl rfl) (pe_op op_add (pe_op op_mulW (pe_op op_modN (pe_callTy call_int1 (by rfl) T.b_int (by decide +kernel) (pa_cons (pe_op op_add (pe_op op_mulW (pv 4) (pe_int)) (pe_int)) pa_nil)) (pe_int)) (pe_int)) (pv 4))))) (pss_nil)) (pss_cons (ps_asg (pv 4) (pg_sub (pv 0) (pe_int) set_list)) (pss_one (ps_asg (pe_op op_add (pv 3) (pe_int)) (pg_sub (pv 0) (pe_int) set_list)))))))) (pss_nil)) (pss_cons (ps_set (i := 2) nd rfl (Or.inl rfl) (pe_op op_modN (pe_callTy call_int1 (by rfl) T.b_int (by decide +kernel) (pa_cons (pe_ix (ix_listK (K := K) rfl) (pv 0) (pe_int) (fun _ _ => rfl)) pa_nil)) (pv 1))) (pss_cons (ps_asg (pe_op op_fdivN (pe_ix (ix_listK (K := K) rfl) (pv 0) (pe_int) (fun _ _ => rfl)) (pv 1)) (pg_sub (pv 0) (pe_int) set_list)) (pss_one (ps_ret (pv 2))))), ?_⟩
  rintro ρ os r os2 ⟨stream_1, many_2, rfl, rfl, x, s0, h, rfl, rfl⟩
  show Ly.Run K _ [.at 0, .fz (E (many_2 : Int)), .un, .un, .un] [.has (E (stream_1 : (LH3 (List Int) Int Int)))] _
  unfold m_law_next at h
  have h0 := obind_some h
  clear h
  obtain ⟨w_4, h_27, h⟩ := h0
  refine run_join (v := w_4) (fun (w_4 : (LH3 (List Int) Int Int)) => [.at 0, .fz (E (many_2 : Int)), .un, .un, .un]) (fun (w_4 : (LH3 (List Int) Int Int)) => [.has (E (w_4 : (LH3 (List Int) Int Int)))]) (by show 1 ≤ 1; decide) (run_if (et_test (ev_eqI (ev_ixL (ds := [E (stream_1.a : (List Int)), E (stream_1.b : Int), E (stream_1.c : Int)]) (d := E (stream_1.b : Int)) (ev_var rfl) ev_int rfl rfl) ev_int)) (fun hb_3 => ?_) (fun hb_3 => ?_)) ?_
  · have h := cond_t hb_3 h_27
    refine run_seq (run_asg (i := 3) (s := .fz (E (stream_1.c : Int))) (ev_ixL (ds := [E (stream_1.a : (List Int)), E (stream_1.b : Int), E (stream_1.c : Int)]) (d := E (stream_1.c : Int)) (ev_var rfl) ev_int rfl rfl) ?_) 
    refine run_seq (run_asg (i := 4) (s := .fz (E (((7 : Int) + stream_1.c) : Int))) (ev_add ev_int (ev_var rfl)) ?_) 
    have h0 := obind_some h
    clear h
    obtain ⟨cell_6, h_11, h⟩ := h0
    refine run_join (v := cell_6) (fun (cell_6 : Int) => [.at 0, .fz (E (many_2 : Int)), .un, .fz (E (stream_1.c : Int)), .fz (E (cell_6 : Int))]) (fun (cell_6 : Int) => [.has (E (stream_1 : (LH3 (List Int) Int Int)))]) (by show 1 ≤ 1; decide) (run_if (et_test (ev_lt (ev_var rfl) (ev_lenL (xs := stream_1.a) (ea_cons (ev_ixL (ds := [E (stream_1.a : (List Int)), E (stream_1.b : Int), E (stream_1.c : Int)]) (d := E (stream_1.a : (List Int))) (ev_var rfl) ev_int rfl rfl) ea_nil) rfl))) (fun hb_5 => ?_) (fun hb_5 => ?_)) ?_
    · have h := cond_t hb_5 h_11
      have h0 := obind_some h
      clear h
      obtain ⟨t_7, h_8, h⟩ := h0
      have h0 := obind_some h
      clear h
      obtain ⟨q_9, h_10, h⟩ := h0
      refine run_asg (i := 4) (s := .fz (E (q_9 : Int))) (ev_modO (ev_int1 (ea_cons (ev_abs (ea_cons (ev_ix (xs := stream_1.a) (ev_ixL (ds := [E (stream_1.a : (List Int)), E (stream_1.b : Int), E (stream_1.c : Int)]) (d := E (stream_1.a : (List Int))) (ev_var rfl) ev_int rfl rfl) (ev_var rfl) rfl h_8) ea_nil)) ea_nil)) (ev_isI (j := 1000000000000000000000000000000000000000000000000000000000000000000000000000000000000000000000000000000000000000000000000000000000000000000000000000000000000000000000000000000000000000000000000) (ev_mulW (ev_isI (j := 100000000000000000000000000000000000000000000000000000000000000000000000000000000000000000000000000000000000000000000000000000000) (ev_mulW (ev_isI (j := 10000000000000000000000000000000000000000000000000000000000000000) (ev_pow ev_int ev_int (by unfold CPow; decide)) (by decide +kernel)) (ev_isI (j := 10000000000000000000000000000000000000000000000000000000000000000) (ev_pow ev_int ev_int (by unfold CPow; decide)) (by decide +kernel)) (by unfold CMulW; decide +kernel)) (by decide +kernel)) (ev_isI (j := 10000000000000000000000000000000000000000000000000000000000000000) (ev_pow ev_int ev_int (by unfold CPow; decide)) (by decide +kernel)) (by unfold CMulW; decide +kernel)) (by decide +kernel)) h_10) ?_
      have k0 := Option.some.inj h
      clear h
      subst k0
      exact ⟨(.at (by show 0 < 1; decide) (.fz (.un (.fz (.fz .nil))))), (.has .nil)⟩
    · have h := cond_f hb_5 h_11
      refine run_next ?_
      have k0 := Option.some.inj h
      clear h
      subst k0
      exact ⟨(.at (by show 0 < 1; decide) (.fz (.un (.fz (.fz .nil))))), (.has .nil)⟩
    have h0 := obind_some h
    clear h
    obtain ⟨cell_13, h_26, h⟩ := h0
    refine run_join (v := cell_13) (fun (cell_13 : Int) => [.at 0, .fz (E (many_2 : Int)), .un, .fz (E (stream_1.c : Int)), .fz (E (cell_13 : Int))]) (fun (cell_13 : Int) => [.has (E (stream_1 : (LH3 (List Int) Int Int)))]) (by show 1 ≤ 1; decide) (run_if (et_test (ev_lt (ev_var rfl) (ev_isI (j := 1000000000000000000) (ev_pow ev_int ev_int (by unfold CPow; decide)) (by decide +kernel)))) (fun hb_12 => ?_) (fun hb_12 => ?_)) ?_
    · have h := cond_t hb_12 h_26
      have h0 := obind_some h
      clear h
      obtain ⟨q_14, h_15, h⟩ := h0
      have h0 := obind_some h
      clear h
      obtain ⟨q_16, h_17, h⟩ := h0
      have h0 := obind_some h
      clear h
      obtain ⟨q_18, h_19, h⟩ := h0
      refine run_seq (run_asg (i := 4) (s := .fz (E (q_18 : Int))) (ev_modO (ev_int1 (ea_cons (ev_add (ev_add (ev_mulO (ev_var rfl) ev_int h_15) (ev_mulO (ev_var rfl) ev_int h_17)) ev_int) ea_nil)) ev_int h_19) ?_) 
      have h0 := obind_some h
      clear h
      obtain ⟨q_20, h_21, h⟩ := h0
      have h0 := obind_some h
      clear h
      obtain ⟨q_22, h_23, h⟩ := h0
      have h0 := obind_some h
      clear h
      obtain ⟨q_24, h_25, h⟩ := h0
      refine run_asg (i := 4) (s := .fz (E ((q_24 + q_18) : Int))) (ev_add (ev_mulO (ev_modO (ev_int1 (ea_cons (ev_add (ev_mulO (ev_var rfl) ev_int h_21) ev_int) ea_nil)) ev_int h_23) ev_int h_25) (ev_var rfl)) ?_
      have k0 := Option.some.inj h
      clear h
      subst k0
      exact ⟨(.at (by show 0 < 1; decide) (.fz (.un (.fz (.fz .nil))))), (.has .nil)⟩
    · have h := cond_f hb_12 h_26
      refine run_next ?_
      have k0 := Option.some.inj h
      clear h
      subst k0
      exact ⟨(.at (by show 0 < 1; decide) (.fz (.un (.fz (.fz .nil))))), (.has .nil)⟩
    refine run_seq (run_setD (ds := [E (stream_1.a : (List Int)), E (stream_1.b : Int), E (stream_1.c : Int)]) (d := E (cell_13 : Int)) (j := 1) (ev_var rfl) (ev_var rfl) ev_int rfl rfl ?_) 
    refine run_setD (ds := [E ((⟨stream_1.a, cell_13, stream_1.c⟩ : (LH3 (List Int) Int Int)).a : (List Int)), E ((⟨stream_1.a, cell_13, stream_1.c⟩ : (LH3 (List Int) Int Int)).b : Int), E ((⟨stream_1.a, cell_13, stream_1.c⟩ : (LH3 (List Int) Int Int)).c : Int)]) (d := E ((stream_1.c + (1 : Int)) : Int)) (j := 2) (ev_add (ev_var rfl) ev_int) (ev_var rfl) ev_int rfl rfl ?_
    have k0 := Option.some.inj h
    clear h
    subst k0
    exact ⟨(.at (by show 0 < 1; decide) (.fz (.un (.un (.un .nil))))), (.has .nil)⟩
  · have h := cond_f hb_3 h_27
    refine run_next ?_
    have k0 := Option.some.inj h
    clear h
    subst k0
    exact ⟨(.at (by show 0 < 1; decide) (.fz (.un (.un (.un .nil))))), (.has .nil)⟩
  have h0 := obind_some h
  clear h
  obtain ⟨q_28, h_29, h⟩ := h0
  refine run_seq (run_asg (i := 2) (s := .fz (E (q_28 : Int))) (ev_modO (ev_int1 (ea_cons (ev_ixL (ds := [E (w_4.a : (List Int)), E (w_4.b : Int), E (w_4.c : Int)]) (d := E (w_4.b : Int)) (ev_var rfl) ev_int rfl rfl) ea_nil)) (ev_var rfl) h_29) ?_) 
  have h0 := obind_some h
  clear h
  obtain ⟨q_30, h_31, h⟩ := h0
  refine run_seq (run_setD (ds := [E (w_4.a : (List Int)), E (w_4.b : Int), E (w_4.c : Int)]) (d := E (q_30 : Int)) (j := 1) (ev_fdivO (ev_ixL (ds := [E (w_4.a : (List Int)), E (w_4.b : Int), E (w_4.c : Int)]) (d := E (w_4.b : Int)) (ev_var rfl) ev_int rfl rfl) (ev_var rfl) h_31) (ev_var rfl) ev_int rfl rfl ?_) 
  have k0 := Option.some.inj h
  clear h
  have k0p := Prod.mk.inj k0
  clear k0
  obtain ⟨e0, k1⟩ := k0p
  subst e0
  subst k1
  exact run_ret (s := .fz (E (q_28 : Int))) (ev_var rfl) ⟨rfl, (.has .nil)⟩
theorem ok_law_pick (T : Tx K mg) : FnOk P w K mg base CX0 2 T.a__law_pick T.fd__law_pick ["stream", "rows"] (spR K R_law_pick) := by
  have G__law_next := ok_law_next (P := P) (w := w) (base := base) T
  refine fn_R (k := 1) T.F__law_pick sc__law_pick (fun ρ os r os2 h => by obtain ⟨α, instα, stream_1, rows_2, rfl, rfl, x, s0, h, rfl, rfl⟩ := h; exact ⟨rfl, rfl⟩) fun cdv A outer s H EX hr => ?_
  have nd := sc__law_pick.nd
  refine ⟨_, pss_one (ps_ret (pe_ix (ix_seqK (K := K) rfl) (pv 1) (pe_call G__law_next (hr.mono (by decide)) (by rfl) T.g__law_next T.F__law_next.kp T.B__law_next .nil pass0 (pa_cons (pv 0) (pa_cons (pe_callB (call_lenK (K := K) rfl) (by rfl) T.b_len (by decide +kernel) (pa_cons (pv 1) pa_nil)) pa_nil))) (fun _ _ => rfl))), ?_⟩
  rintro ρ os r os2 ⟨α, instα, stream_1, rows_2, rfl, rfl, x, s0, h, rfl, rfl⟩
  show Ly.Run K _ [.at 0, .fz (E (rows_2 : (Sq α)))] [.has (E (stream_1 : (LH3 (List Int) Int Int)))] _
  unfold m_law_pick at h
  have h0 := obind_some h
  clear h
  obtain ⟨⟨r_3, w_4⟩, h_5, h⟩ := h0
  dsimp only at h
  have h0 := obind_some h
  clear h
  obtain ⟨t_6, h_7, h⟩ := h0
  have k0 := Option.some.inj h
  clear h
  have k0p := Prod.mk.inj k0
  clear k0
  obtain ⟨e0, k1⟩ := k0p
  subst e0
  subst k1
  exact run_ret (s := .fz (E (t_6 : α))) (ev_ixSq (xs := rows_2) (ev_var rfl) (ev_call1 (Rl := R_law_next) (n := 0) (ea_cons (ev_var rfl) (ea_cons (ev_lenSq (xs := rows_2) (ea_cons (ev_var rfl) ea_nil) rfl) ea_nil)) rfl ⟨stream_1, (rows_2.v.length : Int), rfl, rfl, r_3, w_4, h_5, rfl, rfl⟩) rfl h_7) ⟨rfl, (.has .nil)⟩
theorem ok_law_from (T : Tx K mg) : FnOk P w K mg base CX0 2 T.a__law_from T.fd__law_from ["stream", "low", "high"] (spR K R_law_from) := by
  have G__law_next := ok_law_next (P := P) (w := w) (base := base) T
  refine fn_R (k := 1) T.F__law_from sc__law_from (fun ρ os r os2 h => by obtain ⟨stream_1, low_2, high_3, rfl, rfl, x, s0, h, rfl, rfl⟩ := h; exact ⟨rfl, rfl⟩) fun cdv A outer s H EX hr => ?_
  have nd := sc__law_from.nd
  refine ⟨_, pss_one (ps_ret (pe_op op_add (pv 1) (pe_call G__law_next (hr.mono (by decide)) (by rfl) T.g__law_next T.F__law_next.kp T.B__law_next .nil pass0 (pa_cons (pv 0) (pa_cons (pe_op op_add (pe_op op_sub (pv 2) (pv 1)) (pe_int)) pa_nil))))), ?_⟩
  rintro ρ os r os2 ⟨stream_1, low_2, high_3, rfl, rfl, x, s0, h, rfl, rfl⟩
  show Ly.Run K _ [.at 0, .fz (E (low_2 : Int)), .fz (E (high_3 : Int))] [.has (E (stream_1 : (LH3 (List Int) Int Int)))] _
  unfold m_law_from at h
  have h0 := obind_some h
  clear h
  obtain ⟨⟨r_4, w_5⟩, h_6, h⟩ := h0
  dsimp only at h
  have k0 := Option.some.inj h
  clear h
  have k0p := Prod.mk.inj k0
  clear k0
  obtain ⟨e0, k1⟩ := k0p
  subst e0
  subst k1
  exact run_ret (s := .fz (E ((low_2 + r_4) : Int))) (ev_add (ev_var rfl) (ev_call1 (Rl := R_law_next) (n := 0) (ea_cons (ev_var rfl) (ea_cons (ev_add (ev_sub (ev_var rfl) (ev_var rfl)) ev_int) ea_nil)) rfl ⟨stream_1, ((high_3 - low_2) + (1 : Int)), rfl, rfl, r_4, w_5, h_6, rfl, rfl⟩)) ⟨rfl, (.has .nil)⟩
theorem ok_law_shuffled (T : Tx K mg) : FnOk P w K mg base CX0 2 T.a__law_shuffled T.fd__law_shuffled ["stream", "rows"] (spR K R_law_shuffled) := by
  have G__law_next := ok_law_next (P := P) (w := w) (base := base) T
  refine fn_R (k := 1) T.F__law_shuffled sc__law_shuffled (fun ρ os r os2 h => by obtain ⟨α, instα, stream_1, rows_2, rfl, rfl, x, s0, h, rfl, rfl⟩ := h; exact ⟨rfl, rfl⟩) fun cdv A outer s H EX hr => ?_
  have nd := sc__law_shuffled.nd
  refine ⟨_, pss_cons (ps_set (i := 2) nd rfl (Or.inl rfl) (pe_callTy (call_listK (K := K) rfl) (by rfl) T.b_list (by decide +kernel) (pa_cons (pv 1) pa_nil))) (pss_cons (ps_set (i := 3) nd rfl (Or.inl rfl) (pe_lst pa_nil)) (pss_cons (ps_for PassesOwn.never rfl (pi_range1 (by rfl) T.b_range (pa_cons (pe_callB (call_lenK (K := K) rfl) (by rfl) T.b_len (by decide +kernel) (pa_cons (pv 1) pa_nil)) pa_nil)) (pg_name (i := 4) nd rfl (Or.inl rfl)) (pss_one (ps_expr (pe_bmK (K := K) rfl PySem.F.plainAttrs_list PySem.F.slot_list_append PySem.F.type_list_append mt_append (pv 3) (pa_cons (pe_bmK (K := K) rfl PySem.F.plainAttrs_list PySem.F.slot_list_pop PySem.F.type_list_pop mt_popAt (pv 2) (pa_cons (pe_call G__law_next (hr.mono (by decide)) (by rfl) T.g__law_next T.F__law_next.kp T.B__law_next .nil pass0 (pa_cons (pv 0) (pa_cons (pe_callB (call_lenK (K := K) rfl) (by rfl) T.b_len (by decide +kernel) (pa_cons (pv 2) pa_nil)) pa_nil))) pa_nil)) pa_nil))))) (pss_one (ps_ret (pv 3))))), ?_⟩
  rintro ρ os r os2 ⟨α, instα, stream_1, rows_2, rfl, rfl, x, s0, h, rfl, rfl⟩
  show Ly.Run K _ [.at 0, .fz (E (rows_2 : (List α))), .un, .un, .un] [.has (E (stream_1 : (LH3 (List Int) Int Int)))] _
  unfold m_law_shuffled at h
  refine run_seq (run_asgN (i := 2) (d := E (rows_2 : (List α))) (en_list (ea_cons (ev_var rfl) ea_nil) (.inl rfl)) ?_) 
  refine run_seq (run_asgN (i := 3) (d := E (([] : (List α)) : (List α))) (en_new (ds := []) ea_nil (by show 0 ≤ sizeLine; decide)) ?_) 
  have h0 := obind_some h
  clear h
  obtain ⟨rg_3, h_4, h⟩ := h0
  have h0 := obind_some h
  clear h
  obtain ⟨⟨w_17, w_18, w_19⟩, h_20, h⟩ := h0
  dsimp only at h
  show Ly.Run _ _ [.at 0, .fz (E (rows_2 : (List α))), .at 1, .at 2, .un] [.has (E (stream_1 : (LH3 (List Int) Int Int))), .has (E (rows_2 : (List α))), .has (E (([] : (List α)) : (List α)))] _
  refine run_seq (run_forN (fun (⟨s_5, s_6, s_7⟩ : (LH3 (List Int) Int Int) × (List α) × (List α)) => [.at 0, .fz (E (rows_2 : (List α))), .at 1, .at 2, .un]) (fun (⟨s_5, s_6, s_7⟩ : (LH3 (List Int) Int Int) × (List α) × (List α)) => [.has (E (s_5 : (LH3 (List Int) Int Int))), .has (E (s_6 : (List α))), .has (E (s_7 : (List α)))]) (src_rng1O (ea_cons (ev_lenL (xs := rows_2) (ea_cons (ev_var rfl) ea_nil) rfl) ea_nil) h_4) h_20 (by exact ⟨(.at (by show 0 < 3; decide) (.fz (.at (by show 1 < 3; decide) (.at (by show 2 < 3; decide) (.un .nil))))), (.has (.has (.has .nil)))⟩) (fun _ => rfl) ?_ ?_)
  · rintro turn_8 ⟨s_5, s_6, s_7⟩ c hx h
    dsimp only [m_law_shuffled_l1] at h
    refine ⟨_, _, tgb_name, ?_⟩
    have h0 := obind_some h
    clear h
    obtain ⟨⟨r_9, w_10⟩, h_11, h⟩ := h0
    dsimp only at h
    have h0 := obind_some h
    clear h
    obtain ⟨⟨x_12, left_13⟩, h_14, h⟩ := h0
    dsimp only at h
    have h0 := obind_some h
    clear h
    obtain ⟨found_15, h_16, h⟩ := h0
    refine run_drop (ev_appO (xs := s_7) (x := x_12) (ev_var rfl) ⟨_, rfl⟩ (ev_popO (xs := s_6) (ev_var rfl) ⟨_, rfl⟩ (ev_call1 (Rl := R_law_next) (n := 0) (ea_cons (ev_var rfl) (ea_cons (ev_lenL (xs := s_6) (ea_cons (ev_var rfl) ea_nil) rfl) ea_nil)) rfl ⟨s_5, (s_6.length : Int), rfl, rfl, r_9, w_10, h_11, rfl, rfl⟩) rfl h_14) rfl h_16) ?_
    cases h
    exact ⟨_, rfl, ⟨(.at (by show 0 < 3; decide) (.fz (.at (by show 1 < 3; decide) (.at (by show 2 < 3; decide) (.un .nil))))), (.has (.has (.has .nil)))⟩⟩
  have k0 := Option.some.inj h
  clear h
  have k0p := Prod.mk.inj k0
  clear k0
  obtain ⟨e0, k1⟩ := k0p
  subst e0
  subst k1
  exact run_ret (s := .at 2) (ev_var rfl) ⟨(by show 1 ≤ 2; decide), rfl, (.has .nil)⟩
theorem ok_law_is_row (T : Tx K mg) : FnOk P w K mg base CX0 1 T.a__law_is_row T.fd__law_is_row ["value", "kind", "many"] (spR K R_law_is_row) := by
  refine fn_R (k := 0) T.F__law_is_row sc__law_is_row (fun ρ os r os2 h => by obtain ⟨value_1, kind_2, many_3, rfl, rfl, x, h, rfl, rfl⟩ := h; exact ⟨rfl, rfl⟩) fun cdv A outer s H EX hr => ?_
  have nd := sc__law_is_row.nd
  refine ⟨_, pss_cons (ps_if (PW.pt (pw_and (pt_cmpR op_eq (pv 1) (pe_str) (nomark _)) (pw_and1 (pt_not (pt_val (pe_callB (call_isK (K := K) rfl) (by rfl) T.b_isinstance (by decide +kernel) (pa_cons (pv 0) (pa_cons (pe_bltn (v := .ty "list") (by rfl) T.b_list (by decide +kernel) rfl) pa_nil)))))))) (pss_one (ps_ret (pe_bl))) (pss_nil)) (pss_cons (ps_if (PW.pt (pw_and (pt_cmpR op_eq (pv 1) (pe_str) (nomark _)) (pw_and1 (pt_not (pt_val (pe_callB (call_isK (K := K) rfl) (by rfl) T.b_isinstance (by decide +kernel) (pa_cons (pv 0) (pa_cons (pe_bltn (v := .ty "tuple") (by rfl) T.b_tuple (by decide +kernel) rfl) pa_nil)))))))) (pss_one (ps_ret (pe_bl))) (pss_nil)) (pss_one (ps_ret (pe_or (pe_cmpR op_isN (pv 2) (pe_non) (nomark _)) (pe_one (pe_cmpR op_eq (pe_callB (call_lenA (K := K) rfl) (by rfl) T.b_len (by decide +kernel) (pa_cons (pv 0) pa_nil)) (pv 2) (nomark _))))))), ?_⟩
  rintro ρ os r os2 ⟨value_1, kind_2, many_3, rfl, rfl, x, h, rfl, rfl⟩
  show Ly.Run K _ [.fz (E (value_1 : D)), .fz (E (kind_2 : Str)), .fz (E (many_3 : Int))] [] _
  unfold m_law_is_row at h
  have h0 := obind_some h
  clear h
  obtain ⟨b_6, h_7, h⟩ := h0
  refine run_seq (run_if (et_and (b := b_6) (os2 := []) (et_test (ev_eqS (ev_var rfl) ev_str)) (fun hb_8 => by have h := cond_t hb_8 h_7; have h0 := obind_some h; clear h; obtain ⟨b_4, h_5, h⟩ := h0; have k0 := Option.some.inj h; clear h; subst k0; exact (et_not (et_B (ev_isiD (ea_cons (ev_var rfl) (ea_cons ev_ty ea_nil)) h_5)))) (fun hb_8 => by have h := cond_f hb_8 h_7; have k0 := Option.some.inj h; clear h; subst k0; exact ⟨rfl, rfl⟩)) (fun hb_9 => ?_) (fun hb_9 => ?_))
  · replace h := cond_t hb_9 h
    have k0 := Option.some.inj h
    clear h
    subst k0
    exact run_ret (s := .fz (E (false : Bool))) ev_bl ⟨rfl, .nil⟩
  · replace h := cond_f hb_9 h
    refine run_next ?_
    have h0 := obind_some h
    clear h
    obtain ⟨b_12, h_13, h⟩ := h0
    refine run_seq (run_if (et_and (b := b_12) (os2 := []) (et_test (ev_eqS (ev_var rfl) ev_str)) (fun hb_14 => by have h := cond_t hb_14 h_13; have h0 := obind_some h; clear h; obtain ⟨b_10, h_11, h⟩ := h0; have k0 := Option.some.inj h; clear h; subst k0; exact (et_not (et_B (ev_isiD (ea_cons (ev_var rfl) (ea_cons ev_ty ea_nil)) h_11)))) (fun hb_14 => by have h := cond_f hb_14 h_13; have k0 := Option.some.inj h; clear h; subst k0; exact ⟨rfl, rfl⟩)) (fun hb_15 => ?_) (fun hb_15 => ?_))
    · replace h := cond_t hb_15 h
      have k0 := Option.some.inj h
      clear h
      subst k0
      exact run_ret (s := .fz (E (false : Bool))) ev_bl ⟨rfl, .nil⟩
    · replace h := cond_f hb_15 h
      refine run_next ?_
      have h0 := obind_some h
      clear h
      obtain ⟨b_18, h_19, h⟩ := h0
      have k0 := Option.some.inj h
      clear h
      subst k0
      exact run_ret (s := .fz (E (b_18 : Bool))) (ev_orV (b := b_18) (os2 := []) (ev_isN (ev_var rfl)) (fun hb_20 => by have h := cond_f hb_20 h_19; have h0 := obind_some h; clear h; obtain ⟨n_16, h_17, h⟩ := h0; have k0 := Option.some.inj h; clear h; subst k0; exact (ev_eqI (ev_lenA (ea_cons (ev_var rfl) ea_nil) rfl h_17) (ev_var rfl))) (fun hb_20 => by have h := cond_t hb_20 h_19; have k0 := Option.some.inj h; clear h; subst k0; exact ⟨rfl, rfl⟩)) ⟨rfl, .nil⟩
theorem ok_law_same (T : Tx K mg) : ∀ n, FnOk P w K mg base CX0 (1 + n) T.a__law_same T.fd__law_same ["actual", "due"] (spR K (R_law_same n))
  | 0 => ⟨fun vs H Q E h => (by obtain ⟨_, _, _, _, _, _, _, ⟨actual_1, due_2, _, _, x, h, _, _⟩, _, _⟩ := h; cases h), fun _ _ _ _ _ _ vs _ _ _ _ _ _ h => (by obtain ⟨_, _, _, _, _, _, _, ⟨actual_1, due_2, _, _, x, h, _, _⟩, _, _⟩ := h; cases h)⟩
  | n + 1 => by
    have G__law_is_row := ok_law_is_row (P := P) (w := w) (base := base) T
    have G__law_same := ok_law_same (T : Tx K mg) n
    refine fn_R (k := 1 + n) T.F__law_same sc__law_same (fun ρ os r os2 h => by obtain ⟨actual_1, due_2, rfl, rfl, x, h, rfl, rfl⟩ := h; exact ⟨rfl, rfl⟩) fun cdv A outer s H EX hr => ?_
    have nd := sc__law_same.nd
    refine ⟨_, pss_cons (ps_if (PW.pt (pw_or (pt_val (pe_callB (call_isK (K := K) rfl) (by rfl) T.b_isinstance (by decide +kernel) (pa_cons (pv 1) (pa_cons (pe_bltn (v := .ty "tuple") (by rfl) T.b_tuple (by decide +kernel) rfl) pa_nil)))) (pw_or1 (pt_val (pe_callB (call_isK (K := K) rfl) (by rfl) T.b_isinstance (by decide +kernel) (pa_cons (pv 1) (pa_cons (pe_bltn (v := .ty "list") (by rfl) T.b_list (by decide +kernel) rfl) pa_nil))))))) (pss_cons (ps_if (pt_not (pt_val (pe_call G__law_is_row (hr.mono (by omega)) (by rfl) T.g__law_is_row T.F__law_is_row.kp T.B__law_is_row .nil pass0 (pa_cons (pv 0) (pa_cons (pe_ifExp (pt_val (pe_callB (call_isK (K := K) rfl) (by rfl) T.b_isinstance (by decide +kernel) (pa_cons (pv 1) (pa_cons (pe_bltn (v := .ty "tuple") (by rfl) T.b_tuple (by decide +kernel) rfl) pa_nil)))) (pe_str) (pe_str)) (pa_cons (pe_callB (call_lenA (K := K) rfl) (by rfl) T.b_len (by decide +kernel) (pa_cons (pv 1) pa_nil)) pa_nil)))))) (pss_one (ps_ret (pe_bl))) (pss_nil)) (pss_cons (ps_for PassesOwn.never rfl (pi_range1 (by rfl) T.b_range (pa_cons (pe_callB (call_lenA (K := K) rfl) (by rfl) T.b_len (by decide +kernel) (pa_cons (pv 1) pa_nil)) pa_nil)) (pg_name (i := 2) nd rfl (Or.inl rfl)) (pss_one (ps_if (pt_not (pt_val (pe_call G__law_same hr (by rfl) T.g__law_same T.F__law_same.kp T.B__law_same .nil pass0 (pa_cons (pe_ix (ix_seqK (K := K) rfl) (pv 0) (pv 2) (fun _ _ => rfl)) (pa_cons (pe_ix (ix_seqK (K := K) rfl) (pv 1) (pv 2) (fun _ _ => rfl)) pa_nil))))) (pss_one (ps_ret (pe_bl))) (pss_nil)))) (pss_one (ps_ret (pe_bl))))) (pss_nil)) (pss_cons (ps_if (pt_val (pe_callB (call_isK (K := K) rfl) (by rfl) T.b_isinstance (by decide +kernel) (pa_cons (pv 1) (pa_cons (pe_bltn (v := .ty "dict") (by rfl) T.b_dict (by decide +kernel) rfl) pa_nil)))) (pss_cons (ps_if (PW.pt (pw_or (pt_not (pt_val (pe_callB (call_isK (K := K) rfl) (by rfl) T.b_isinstance (by decide +kernel) (pa_cons (pv 0) (pa_cons (pe_bltn (v := .ty "dict") (by rfl) T.b_dict (by decide +kernel) rfl) pa_nil))))) (pw_or1 (pt_cmpR op_ne (pe_callB (call_lenA (K := K) rfl) (by rfl) T.b_len (by decide +kernel) (pa_cons (pv 0) pa_nil)) (pe_callB (call_lenA (K := K) rfl) (by rfl) T.b_len (by decide +kernel) (pa_cons (pv 1) pa_nil)) (nomark _))))) (pss_one (ps_ret (pe_bl))) (pss_nil)) (pss_cons (ps_keys (ps_for PassesOwn.never rfl (pi_keys (pv 1)) (pg_name (i := 3) nd rfl (Or.inl rfl)) (pss_one (ps_if (PW.pt (pw_or (pt_cmp (pc_dnotin (hu_of hr) (pv 3) (pv 0))) (pw_or1 (pt_not (pt_val (pe_call G__law_same hr (by rfl) T.g__law_same T.F__law_same.kp T.B__law_same .nil pass0 (pa_cons (pe_dget (hu_of hr) (pv 0) (pv 3) (fun _ _ => rfl)) (pa_cons (pe_dget (hu_of hr) (pv 1) (pv 3) (fun _ _ => rfl)) pa_nil)))))))) (pss_one (ps_ret (pe_bl))) (pss_nil))))) (pss_one (ps_ret (pe_bl))))) (pss_nil)) (pss_cons (ps_if (pt_val (pe_callB (call_isK (K := K) rfl) (by rfl) T.b_isinstance (by decide +kernel) (pa_cons (pv 1) (pa_cons (pe_bltn (v := .ty "bool") (by rfl) T.b_bool (by decide +kernel) rfl) pa_nil)))) (pss_one (ps_ret (pe_and (pe_callB (call_isK (K := K) rfl) (by rfl) T.b_isinstance (by decide +kernel) (pa_cons (pv 0) (pa_cons (pe_bltn (v := .ty "bool") (by rfl) T.b_bool (by decide +kernel) rfl) pa_nil))) (pe_one (pe_cmpR op_eq (pv 0) (pv 1) (nomark _)))))) (pss_nil)) (pss_cons (ps_if (pt_val (pe_callB (call_isK (K := K) rfl) (by rfl) T.b_isinstance (by decide +kernel) (pa_cons (pv 1) (pa_cons (pe_bltn (v := .ty "str") (by rfl) T.b_str (by decide +kernel) rfl) pa_nil)))) (pss_one (ps_ret (pe_and (pe_callB (call_isK (K := K) rfl) (by rfl) T.b_isinstance (by decide +kernel) (pa_cons (pv 0) (pa_cons (pe_bltn (v := .ty "str") (by rfl) T.b_str (by decide +kernel) rfl) pa_nil))) (pe_one (pe_cmpR op_eq (pv 0) (pv 1) (nomark _)))))) (pss_nil)) (pss_cons (ps_if (pt_val (pe_callB (call_isK (K := K) rfl) (by rfl) T.b_isinstance (by decide +kernel) (pa_cons (pv 1) (pa_cons (pe_bltn (v := .ty "int") (by rfl) T.b_int (by decide +kernel) rfl) pa_nil)))) (pss_one (ps_ret (pe_and (pe_callB (call_isK (K := K) rfl) (by rfl) T.b_isinstance (by decide +kernel) (pa_cons (pv 0) (pa_cons (pe_bltn (v := .ty "int") (by rfl) T.b_int (by decide +kernel) rfl) pa_nil))) (pe_and (pe_not (pe_callB (call_isK (K := K) rfl) (by rfl) T.b_isinstance (by decide +kernel) (pa_cons (pv 0) (pa_cons (pe_bltn (v := .ty "bool") (by rfl) T.b_bool (by decide +kernel) rfl) pa_nil)))) (pe_one (pe_cmpR op_eq (pv 0) (pv 1) (nomark _))))))) (pss_nil)) (pss_one (ps_ret (pe_cmpR op_isN (pv 0) (pe_non) (nomark _)))))))), ?_⟩
    rintro ρ os r os2 ⟨actual_1, due_2, rfl, rfl, x, h, rfl, rfl⟩
    show Ly.Run K _ [.fz (E (actual_1 : D)), .fz (E (due_2 : D)), .un, .un] [] _
    dsimp only [m_law_same] at h
    have h0 := obind_some h
    clear h
    obtain ⟨b_3, h_4, h⟩ := h0
    have h0 := obind_some h
    clear h
    obtain ⟨b_7, h_8, h⟩ := h0
    refine run_seq (run_if (et_or (b := b_7) (os2 := []) (et_B (ev_isiD (ea_cons (ev_var rfl) (ea_cons ev_ty ea_nil)) h_4)) (fun hb_9 => by have h := cond_f hb_9 h_8; have h0 := obind_some h; clear h; obtain ⟨b_5, h_6, h⟩ := h0; have k0 := Option.some.inj h; clear h; subst k0; exact (et_B (ev_isiD (ea_cons (ev_var rfl) (ea_cons ev_ty ea_nil)) h_6))) (fun hb_9 => by have h := cond_t hb_9 h_8; have k0 := Option.some.inj h; clear h; subst k0; exact ⟨rfl, rfl⟩)) (fun hb_10 => ?_) (fun hb_10 => ?_))
    · replace h := cond_t hb_10 h
      have h0 := obind_some h
      clear h
      obtain ⟨b_11, h_12, h⟩ := h0
      have h0 := obind_some h
      clear h
      obtain ⟨n_13, h_14, h⟩ := h0
      have h0 := obind_some h
      clear h
      obtain ⟨r_15, h_16, h⟩ := h0
      refine run_seq (run_if (et_not (et_B (ev_call (Rl := R_law_is_row) (ds := [E (actual_1 : D), E ((cond b_11 ("T" : Str) ("L" : Str)) : Str), E (n_13 : Int)]) (ea_cons (ev_var rfl) (ea_cons (ev_ifP (α := Str) (et_B (ev_isiD (ea_cons (ev_var rfl) (ea_cons ev_ty ea_nil)) h_12)) ev_str ev_str) (ea_cons (ev_lenA (ea_cons (ev_var rfl) ea_nil) rfl h_14) ea_nil))) ⟨actual_1, (cond b_11 ("T" : Str) ("L" : Str)), n_13, rfl, rfl, r_15, h_16, rfl, rfl⟩))) (fun hb_17 => ?_) (fun hb_17 => ?_))
      · replace h := cond_t hb_17 h
        have k0 := Option.some.inj h
        clear h
        subst k0
        exact run_ret (s := .fz (E (false : Bool))) ev_bl ⟨rfl, .nil⟩
      · replace h := cond_f hb_17 h
        refine run_next ?_
        have h0 := obind_some h
        clear h
        obtain ⟨n_18, h_19, h⟩ := h0
        have h0 := obind_some h
        clear h
        obtain ⟨rg_20, h_21, h⟩ := h0
        have h0 := obind_some h
        clear h
        obtain ⟨c_31, h_32, h⟩ := h0
        show Ly.Run _ _ [.fz (E (actual_1 : D)), .fz (E (due_2 : D)), .un, .un] [] _
        refine run_seq (run_for (fun (_ : Unit) => [.fz (E (actual_1 : D)), .fz (E (due_2 : D)), .un, .un]) (fun (_ : Unit) => []) (fun (x : Bool) sl os2 => RetP 0 [] (.fz (E (x : Bool))) sl os2) (src_rng1O (ea_cons (ev_lenA (ea_cons (ev_var rfl) ea_nil) rfl h_19) ea_nil) h_21) h_32 (by exact ⟨(.fz (.fz (.un (.un .nil)))), .nil⟩) (fun _ => rfl) ?_ ?_ ?_)
        · rintro at_22 _u c hx h
          dsimp only [m_law_same_l1] at h
          refine ⟨_, _, tgb_name, ?_⟩
          have h0 := obind_some h
          clear h
          obtain ⟨t_23, h_24, h⟩ := h0
          have h0 := obind_some h
          clear h
          obtain ⟨t_25, h_26, h⟩ := h0
          have h0 := obind_some h
          clear h
          obtain ⟨r_27, h_28, h⟩ := h0
          refine run_if (et_not (et_B (ev_call (Rl := (R_law_same n)) (ds := [E (t_23 : D), E (t_25 : D)]) (ea_cons (ev_ixD (ev_var rfl) (ev_var rfl) rfl h_24) (ea_cons (ev_ixD (ev_var rfl) (ev_var rfl) rfl h_26) ea_nil)) ⟨t_23, t_25, rfl, rfl, r_27, h_28, rfl, rfl⟩))) (fun hb_29 => ?_) (fun hb_29 => ?_)
          · replace h := cond_t hb_29 h
            cases h
            exact run_ret (s := .fz (E (false : Bool))) ev_bl ⟨_, rfl, ⟨rfl, .nil⟩⟩
          · replace h := cond_f hb_29 h
            refine run_next ?_
            cases h
            exact ⟨_, rfl, ⟨(.fz (.fz (.un (.un .nil)))), .nil⟩⟩
        · rintro u_30 hc
          subst hc
          dsimp only [ctl] at h
          have k0 := Option.some.inj h
          clear h
          subst k0
          exact run_ret (s := .fz (E (true : Bool))) ev_bl ⟨rfl, .nil⟩
        · rintro r_33 hc sl os2 hR
          subst hc
          dsimp only [ctl] at h
          have k0 := Option.some.inj h
          clear h
          subst k0
          exact hR
    · replace h := cond_f hb_10 h
      refine run_next ?_
      have h0 := obind_some h
      clear h
      obtain ⟨b_34, h_35, h⟩ := h0
      refine run_seq (run_if (et_B (ev_isiD (ea_cons (ev_var rfl) (ea_cons ev_ty ea_nil)) h_35)) (fun hb_36 => ?_) (fun hb_36 => ?_))
      · replace h := cond_t hb_36 h
        have h0 := obind_some h
        clear h
        obtain ⟨b_37, h_38, h⟩ := h0
        have h0 := obind_some h
        clear h
        obtain ⟨b_43, h_44, h⟩ := h0
        refine run_seq (run_if (et_or (b := b_43) (os2 := []) (et_not (et_B (ev_isiD (ea_cons (ev_var rfl) (ea_cons ev_ty ea_nil)) h_38))) (fun hb_45 => by have h := cond_f hb_45 h_44; have h0 := obind_some h; clear h; obtain ⟨n_39, h_40, h⟩ := h0; have h0 := obind_some h; clear h; obtain ⟨n_41, h_42, h⟩ := h0; have k0 := Option.some.inj h; clear h; subst k0; exact (et_test (ev_neI (ev_lenA (ea_cons (ev_var rfl) ea_nil) rfl h_40) (ev_lenA (ea_cons (ev_var rfl) ea_nil) rfl h_42)))) (fun hb_45 => by have h := cond_t hb_45 h_44; have k0 := Option.some.inj h; clear h; subst k0; exact ⟨rfl, rfl⟩)) (fun hb_46 => ?_) (fun hb_46 => ?_))
        · replace h := cond_t hb_46 h
          have k0 := Option.some.inj h
          clear h
          subst k0
          exact run_ret (s := .fz (E (false : Bool))) ev_bl ⟨rfl, .nil⟩
        · replace h := cond_f hb_46 h
          refine run_next ?_
          have h0 := obind_some h
          clear h
          obtain ⟨ds_47, h_48, h⟩ := h0
          have h0 := obind_some h
          clear h
          obtain ⟨c_67, h_68, h⟩ := h0
          show Ly.Run _ _ [.fz (E (actual_1 : D)), .fz (E (due_2 : D)), .un, .un] [] _
          refine run_seq (run_forKd (fun (_ : Unit) => [.fz (E (actual_1 : D)), .fz (E (due_2 : D)), .un, .un]) (fun (_ : Unit) => []) (fun (x : Bool) sl os2 => RetP 0 [] (.fz (E (x : Bool))) sl os2) ⟨rfl, h_48⟩ h_68 (by exact ⟨(.fz (.fz (.un (.un .nil)))), .nil⟩) (fun _ => rfl) ?_ ?_ ?_)
          · rintro key_49 _u c hx h
            dsimp only [m_law_same_l2] at h
            refine ⟨_, _, tgb_name, ?_⟩
            have h0 := obind_some h
            clear h
            obtain ⟨ds_50, h_51, h⟩ := h0
            have h0 := obind_some h
            clear h
            obtain ⟨b_62, h_63, h⟩ := h0
            refine run_if (et_or (b := b_62) (os2 := []) (et_B (ev_dniKD (k := key_49) (ev_var rfl) (ev_var rfl) (dDct_eq h_51))) (fun hb_64 => by have h := cond_f hb_64 h_63; have h0 := obind_some h; clear h; obtain ⟨ds_52, h_53, h⟩ := h0; have h0 := obind_some h; clear h; obtain ⟨t_54, h_55, h⟩ := h0; have h0 := obind_some h; clear h; obtain ⟨ds_56, h_57, h⟩ := h0; have h0 := obind_some h; clear h; obtain ⟨t_58, h_59, h⟩ := h0; have h0 := obind_some h; clear h; obtain ⟨r_60, h_61, h⟩ := h0; have k0 := Option.some.inj h; clear h; subst k0; exact (et_not (et_B (ev_call (Rl := (R_law_same n)) (ds := [E (t_54 : D), E (t_58 : D)]) (ea_cons (ev_dgetKD (k := key_49) (ev_var rfl) (ev_var rfl) (dDct_eq h_53) h_55) (ea_cons (ev_dgetKD (k := key_49) (ev_var rfl) (ev_var rfl) (dDct_eq h_57) h_59) ea_nil)) ⟨t_54, t_58, rfl, rfl, r_60, h_61, rfl, rfl⟩)))) (fun hb_64 => by have h := cond_t hb_64 h_63; have k0 := Option.some.inj h; clear h; subst k0; exact ⟨rfl, rfl⟩)) (fun hb_65 => ?_) (fun hb_65 => ?_)
            · replace h := cond_t hb_65 h
              cases h
              exact run_ret (s := .fz (E (false : Bool))) ev_bl ⟨_, rfl, ⟨rfl, .nil⟩⟩
            · replace h := cond_f hb_65 h
              refine run_next ?_
              cases h
              exact ⟨_, rfl, ⟨(.fz (.fz (.un (.un .nil)))), .nil⟩⟩
          · rintro u_66 hc
            subst hc
            dsimp only [ctl] at h
            have k0 := Option.some.inj h
            clear h
            subst k0
            exact run_ret (s := .fz (E (true : Bool))) ev_bl ⟨rfl, .nil⟩
          · rintro r_69 hc sl os2 hR
            subst hc
            dsimp only [ctl] at h
            have k0 := Option.some.inj h
            clear h
            subst k0
            exact hR
      · replace h := cond_f hb_36 h
        refine run_next ?_
        have h0 := obind_some h
        clear h
        obtain ⟨b_70, h_71, h⟩ := h0
        refine run_seq (run_if (et_B (ev_isiD (ea_cons (ev_var rfl) (ea_cons ev_ty ea_nil)) h_71)) (fun hb_72 => ?_) (fun hb_72 => ?_))
        · replace h := cond_t hb_72 h
          have h0 := obind_some h
          clear h
          obtain ⟨b_73, h_74, h⟩ := h0
          have h0 := obind_some h
          clear h
          obtain ⟨b_77, h_78, h⟩ := h0
          have k0 := Option.some.inj h
          clear h
          subst k0
          exact run_ret (s := .fz (E (b_77 : Bool))) (ev_andV (b := b_77) (os2 := []) (ev_isiD (ea_cons (ev_var rfl) (ea_cons ev_ty ea_nil)) h_74) (fun hb_79 => by have h := cond_t hb_79 h_78; have h0 := obind_some h; clear h; obtain ⟨b_75, h_76, h⟩ := h0; have k0 := Option.some.inj h; clear h; subst k0; exact (ev_eqD (ev_var rfl) (ev_var rfl) h_76)) (fun hb_79 => by have h := cond_f hb_79 h_78; have k0 := Option.some.inj h; clear h; subst k0; exact ⟨rfl, rfl⟩)) ⟨rfl, .nil⟩
        · replace h := cond_f hb_72 h
          refine run_next ?_
          have h0 := obind_some h
          clear h
          obtain ⟨b_80, h_81, h⟩ := h0
          refine run_seq (run_if (et_B (ev_isiD (ea_cons (ev_var rfl) (ea_cons ev_ty ea_nil)) h_81)) (fun hb_82 => ?_) (fun hb_82 => ?_))
          · replace h := cond_t hb_82 h
            have h0 := obind_some h
            clear h
            obtain ⟨b_83, h_84, h⟩ := h0
            have h0 := obind_some h
            clear h
            obtain ⟨b_87, h_88, h⟩ := h0
            have k0 := Option.some.inj h
            clear h
            subst k0
            exact run_ret (s := .fz (E (b_87 : Bool))) (ev_andV (b := b_87) (os2 := []) (ev_isiD (ea_cons (ev_var rfl) (ea_cons ev_ty ea_nil)) h_84) (fun hb_89 => by have h := cond_t hb_89 h_88; have h0 := obind_some h; clear h; obtain ⟨b_85, h_86, h⟩ := h0; have k0 := Option.some.inj h; clear h; subst k0; exact (ev_eqD (ev_var rfl) (ev_var rfl) h_86)) (fun hb_89 => by have h := cond_f hb_89 h_88; have k0 := Option.some.inj h; clear h; subst k0; exact ⟨rfl, rfl⟩)) ⟨rfl, .nil⟩
          · replace h := cond_f hb_82 h
            refine run_next ?_
            have h0 := obind_some h
            clear h
            obtain ⟨b_90, h_91, h⟩ := h0
            refine run_seq (run_if (et_B (ev_isiD (ea_cons (ev_var rfl) (ea_cons ev_ty ea_nil)) h_91)) (fun hb_92 => ?_) (fun hb_92 => ?_))
            · replace h := cond_t hb_92 h
              have h0 := obind_some h
              clear h
              obtain ⟨b_93, h_94, h⟩ := h0
              have h0 := obind_some h
              clear h
              obtain ⟨b_102, h_103, h⟩ := h0
              have k0 := Option.some.inj h
              clear h
              subst k0
              exact run_ret (s := .fz (E (b_102 : Bool))) (ev_andV (b := b_102) (os2 := []) (ev_isiD (ea_cons (ev_var rfl) (ea_cons ev_ty ea_nil)) h_94) (fun hb_104 => by have h := cond_t hb_104 h_103; have h0 := obind_some h; clear h; obtain ⟨b_95, h_96, h⟩ := h0; have h0 := obind_some h; clear h; obtain ⟨b_99, h_100, h⟩ := h0; have k0 := Option.some.inj h; clear h; subst k0; exact (ev_andV (b := b_99) (os2 := []) (ev_notV (ev_isiD (ea_cons (ev_var rfl) (ea_cons ev_ty ea_nil)) h_96)) (fun hb_101 => by have h := cond_t hb_101 h_100; have h0 := obind_some h; clear h; obtain ⟨b_97, h_98, h⟩ := h0; have k0 := Option.some.inj h; clear h; subst k0; exact (ev_eqD (ev_var rfl) (ev_var rfl) h_98)) (fun hb_101 => by have h := cond_f hb_101 h_100; have k0 := Option.some.inj h; clear h; subst k0; exact ⟨rfl, rfl⟩))) (fun hb_104 => by have h := cond_f hb_104 h_103; have k0 := Option.some.inj h; clear h; subst k0; exact ⟨rfl, rfl⟩)) ⟨rfl, .nil⟩
            · replace h := cond_f hb_92 h
              refine run_next ?_
              have k0 := Option.some.inj h
              clear h
              subst k0
              exact run_ret (s := .fz (E ((isNon (E (actual_1 : D))) : Bool))) (ev_isN (ev_var rfl)) ⟨rfl, .nil⟩
theorem ok_law_copy (T : Tx K mg) : ∀ n, FnOk P w K mg base CX0 (0 + n) T.a__law_copy T.fd__law_copy ["value"] (spR K (R_law_copy n))
  | 0 => ⟨fun vs H Q E h => (by obtain ⟨_, _, _, _, _, _, _, ⟨value_1, _, _, x, h, _, _⟩, _, _⟩ := h; cases h), fun _ _ _ _ _ _ vs _ _ _ _ _ _ h => (by obtain ⟨_, _, _, _, _, _, _, ⟨value_1, _, _, x, h, _, _⟩, _, _⟩ := h; cases h)⟩
  | n + 1 => by
    have G__law_copy := ok_law_copy (T : Tx K mg) n
    refine fn_R (k := 0 + n) T.F__law_copy sc__law_copy (fun ρ os r os2 h => by obtain ⟨value_1, rfl, rfl, x, h, rfl, rfl⟩ := h; exact ⟨rfl, rfl⟩) fun cdv A outer s H EX hr => ?_
    have nd := sc__law_copy.nd
    refine ⟨_, pss_cons (ps_if (pt_val (pe_callB (call_isK (K := K) rfl) (by rfl) T.b_isinstance (by decide +kernel) (pa_cons (pv 0) (pa_cons (pe_bltn (v := .ty "dict") (by rfl) T.b_dict (by decide +kernel) rfl) pa_nil)))) (pss_cons (ps_set (i := 1) nd rfl (Or.inl rfl) (pe_dnewK)) (pss_cons (ps_keys (ps_for PassesOwn.never rfl (pi_keys (pv 0)) (pg_name (i := 2) nd rfl (Or.inl rfl)) (pss_one (ps_dput (hu_of hr) (pv 1) (pv 2) (pe_call G__law_copy hr (by rfl) T.g__law_copy T.F__law_copy.kp T.B__law_copy .nil pass0 (pa_cons (pe_dget (hu_of hr) (pv 0) (pv 2) (fun _ _ => rfl)) pa_nil)) rfl)))) (pss_one (ps_ret (pv 1))))) (pss_nil)) (pss_cons (ps_if (pt_val (pe_callB (call_isK (K := K) rfl) (by rfl) T.b_isinstance (by decide +kernel) (pa_cons (pv 0) (pa_cons (pe_bltn (v := .ty "list") (by rfl) T.b_list (by decide +kernel) rfl) pa_nil)))) (pss_one (ps_ret (pe_lc (own := [("item", 3)]) rfl nd (pi_listK (K := K) rfl (pv 0)) (blkOk_by (own := [("item", 3)]) (N := ["value", "found", "key", "item"]) (sc := defScope s__law_copy) (by decide +kernel)) (fun _ _ _ _ _ => pg_name (i := 3) nd rfl (Or.inl rfl)) (fun _ _ _ _ _ => pts_nil) (fun _ _ _ _ _ => pe_call G__law_copy hr (by rfl) T.g__law_copy T.F__law_copy.kp T.B__law_copy .nil pass0 (pa_cons (pv 3) pa_nil))))) (pss_nil)) (pss_cons (ps_if (pt_val (pe_callB (call_isK (K := K) rfl) (by rfl) T.b_isinstance (by decide +kernel) (pa_cons (pv 0) (pa_cons (pe_bltn (v := .ty "tuple") (by rfl) T.b_tuple (by decide +kernel) rfl) pa_nil)))) (pss_one (ps_ret (pe_callTy (call_tupleK (K := K) rfl) (by rfl) T.b_tuple (by decide +kernel) (pa_cons (pe_lc (own := [("item", 3)]) rfl nd (pi_tupK (K := K) rfl (pv 0)) (blkOk_by (own := [("item", 3)]) (N := ["value", "found", "key", "item"]) (sc := defScope s__law_copy) (by decide +kernel)) (fun _ _ _ _ _ => pg_name (i := 3) nd rfl (Or.inl rfl)) (fun _ _ _ _ _ => pts_nil) (fun _ _ _ _ _ => pe_call G__law_copy hr (by rfl) T.g__law_copy T.F__law_copy.kp T.B__law_copy .nil pass0 (pa_cons (pv 3) pa_nil))) pa_nil)))) (pss_nil)) (pss_one (ps_ret (pv 0))))), ?_⟩
    rintro ρ os r os2 ⟨value_1, rfl, rfl, x, h, rfl, rfl⟩
    show Ly.Run K _ [.fz (E (value_1 : D)), .un, .un, .un] [] _
    dsimp only [m_law_copy] at h
    have h0 := obind_some h
    clear h
    obtain ⟨b_2, h_3, h⟩ := h0
    refine run_seq (run_if (et_B (ev_isiD (ea_cons (ev_var rfl) (ea_cons ev_ty ea_nil)) h_3)) (fun hb_4 => ?_) (fun hb_4 => ?_))
    · replace h := cond_t hb_4 h
      refine run_seq (run_asgN (i := 1) (d := E ((⟨[]⟩ : (Dct D)) : (Dct D))) (en_dnewK (α := D)) ?_) 
      have h0 := obind_some h
      clear h
      obtain ⟨ds_5, h_6, h⟩ := h0
      have h0 := obind_some h
      clear h
      obtain ⟨w_17, h_18, h⟩ := h0
      show Ly.Run _ _ [.fz (E (value_1 : D)), .at 0, .un, .un] [.has (E ((⟨[]⟩ : (Dct D)) : (Dct D)))] _
      refine run_seq (run_forKdN (fun (s_7 : (Dct D)) => [.fz (E (value_1 : D)), .at 0, .un, .un]) (fun (s_7 : (Dct D)) => [.has (E (s_7 : (Dct D)))]) ⟨rfl, h_6⟩ h_18 (by exact ⟨(.fz (.at (by show 0 < 1; decide) (.un (.un .nil)))), (.has .nil)⟩) (fun _ => rfl) ?_ ?_)
      · rintro key_8 s_7 c hx h
        dsimp only [m_law_copy_l1] at h
        refine ⟨_, _, tgb_name, ?_⟩
        have h0 := obind_some h
        clear h
        obtain ⟨ds_9, h_10, h⟩ := h0
        have h0 := obind_some h
        clear h
        obtain ⟨t_11, h_12, h⟩ := h0
        have h0 := obind_some h
        clear h
        obtain ⟨r_13, h_14, h⟩ := h0
        have h0 := obind_some h
        clear h
        obtain ⟨found_15, h_16, h⟩ := h0
        refine run_dputK (l := s_7.l) (k := key_8) (x := r_13) (ev_call (Rl := (R_law_copy n)) (ds := [E (t_11 : D)]) (ea_cons (ev_dgetKD (k := key_8) (ev_var rfl) (ev_var rfl) (dDct_eq h_10) h_12) ea_nil) ⟨t_11, rfl, rfl, r_13, h_14, rfl, rfl⟩) (ev_var rfl) (ev_var rfl) rfl h_16 ?_
        cases h
        exact ⟨_, rfl, ⟨(.fz (.at (by show 0 < 1; decide) (.un (.un .nil)))), (.has .nil)⟩⟩
      refine run_still (i := 0) (j := 1) (d := E (w_17 : (Dct D))) rfl rfl ?_
      have k0 := Option.some.inj h
      clear h
      subst k0
      exact run_ret (s := .fz (E ((E (w_17 : (Dct D))) : D))) (ev_var rfl) ⟨rfl, .nil⟩
    · replace h := cond_f hb_4 h
      refine run_next ?_
      have h0 := obind_some h
      clear h
      obtain ⟨b_19, h_20, h⟩ := h0
      refine run_seq (run_if (et_B (ev_isiD (ea_cons (ev_var rfl) (ea_cons ev_ty ea_nil)) h_20)) (fun hb_21 => ?_) (fun hb_21 => ?_))
      · replace h := cond_t hb_21 h
        have h0 := obind_some h
        clear h
        obtain ⟨ds_22, h_23, h⟩ := h0
        have h0 := obind_some h
        clear h
        obtain ⟨⟨ys_27, u_28⟩, h_29, h⟩ := h0
        dsimp only at h
        have k0 := Option.some.inj h
        clear h
        subst k0
        exact run_ret (s := .fz (E ((E (ys_27 : (List D))) : D))) (ev_frz (en_lc (osh := fun (_ : Unit) => []) (src_dLst (ev_var rfl) h_23) h_29 rfl (by
      rintro item_24 _u y s2 hx h
      dsimp only [m_law_copy_c1] at h
      have h0 := obind_some h
      clear h
      obtain ⟨r_25, h_26, h⟩ := h0
      have k0 := Option.some.inj h
      clear h
      have k0p := Prod.mk.inj k0
      clear k0
      obtain ⟨e0, k1⟩ := k0p
      subst e0
      subst k1
      exact ⟨_, _, tgb_name, by decide, true, _, (fun R F ps σ H Q I q => q F H (Ex.refl F) I), fun _ => ⟨_, rfl, (ev_call (Rl := (R_law_copy n)) (ds := [E (item_24 : D)]) (ea_cons (ev_var rfl) ea_nil) ⟨item_24, rfl, rfl, r_25, h_26, rfl, rfl⟩)⟩, fun z => nomatch z⟩))) ⟨rfl, .nil⟩
      · replace h := cond_f hb_21 h
        refine run_next ?_
        have h0 := obind_some h
        clear h
        obtain ⟨b_30, h_31, h⟩ := h0
        refine run_seq (run_if (et_B (ev_isiD (ea_cons (ev_var rfl) (ea_cons ev_ty ea_nil)) h_31)) (fun hb_32 => ?_) (fun hb_32 => ?_))
        · replace h := cond_t hb_32 h
          have h0 := obind_some h
          clear h
          obtain ⟨ds_33, h_34, h⟩ := h0
          have h0 := obind_some h
          clear h
          obtain ⟨⟨ys_38, u_39⟩, h_40, h⟩ := h0
          dsimp only at h
          have k0 := Option.some.inj h
          clear h
          subst k0
          exact run_ret (s := .fz (E ((E ((⟨ys_38⟩ : Tup D) : (Tup D))) : D))) (ev_tupL (xs := ys_38) (ea_cons (ev_frz (en_lc (osh := fun (_ : Unit) => []) (src_dTup (ev_var rfl) h_34) h_40 rfl (by
      rintro item_35 _u y s2 hx h
      dsimp only [m_law_copy_c2] at h
      have h0 := obind_some h
      clear h
      obtain ⟨r_36, h_37, h⟩ := h0
      have k0 := Option.some.inj h
      clear h
      have k0p := Prod.mk.inj k0
      clear k0
      obtain ⟨e0, k1⟩ := k0p
      subst e0
      subst k1
      exact ⟨_, _, tgb_name, by decide, true, _, (fun R F ps σ H Q I q => q F H (Ex.refl F) I), fun _ => ⟨_, rfl, (ev_call (Rl := (R_law_copy n)) (ds := [E (item_35 : D)]) (ea_cons (ev_var rfl) ea_nil) ⟨item_35, rfl, rfl, r_36, h_37, rfl, rfl⟩)⟩, fun z => nomatch z⟩))) ea_nil) rfl) ⟨rfl, .nil⟩
        · replace h := cond_f hb_32 h
          refine run_next ?_
          have k0 := Option.some.inj h
          clear h
          subst k0
          exact run_ret (s := .fz (E (value_1 : D))) (ev_var rfl) ⟨rfl, .nil⟩
theorem ok_law_table (T : Tx K mg) : FnOk P w K mg base CX0 3 T.a__law_table T.fd__law_table ["stream", "many"] (spR K R_law_table) := by
  have G__law_pick := ok_law_pick (P := P) (w := w) (base := base) T
  have G__law_next := ok_law_next (P := P) (w := w) (base := base) T
  have G__law_from := ok_law_from (P := P) (w := w) (base := base) T
  refine fn_R (k := 2) T.F__law_table sc__law_table (fun ρ os r os2 h => by obtain ⟨stream_1, many_2, rfl, rfl, x, s0, h, rfl, rfl⟩ := h; exact ⟨rfl, rfl⟩) fun cdv A outer s H EX hr => ?_
  have nd := sc__law_table.nd
  refine ⟨_, pss_cons (ps_set (i := 2) nd rfl (Or.inl rfl) (pe_call G__law_pick (hr.mono (by decide)) (by rfl) T.g__law_pick T.F__law_pick.kp T.B__law_pick .nil pass0 (pa_cons (pv 0) (pa_cons (pe_tup (pa_cons (pe_int) (pa_cons (pe_int) (pa_cons (pe_int) (pa_cons (pv 1) pa_nil))))) pa_nil)))) (pss_cons (ps_setLc (i := 3) rfl nd rfl rfl (sw_true rfl rfl rfl (by decide +kernel)) (pi_range1 (by rfl) T.b_range (pa_cons (pv 1) pa_nil)) (blkOk_by (own := [("at", 5)]) (N := ["stream", "many", "deep", "nodes", "rows", "at", "low", "above"]) (sc := defScope s__law_table) (by decide +kernel)) (fun _ _ _ _ _ => pg_name (i := 5) nd rfl (Or.inl rfl)) (fun _ _ _ _ _ => pts_nil) (fun _ _ _ _ _ => pe_tup (pa_cons (pe_op op_add (pe_op op_add (pe_int) (pe_call G__law_next (hr.mono (by decide)) (by rfl) T.g__law_next T.F__law_next.kp T.B__law_next .nil pass0 (pa_cons (pv 0) (pa_cons (pe_int) pa_nil)))) (pe_op op_mulW (pe_int) (pv 5))) (pa_cons (pe_op op_add (pe_int) (pe_call G__law_next (hr.mono (by decide)) (by rfl) T.g__law_next T.F__law_next.kp T.B__law_next .nil pass0 (pa_cons (pv 0) (pa_cons (pe_int) pa_nil)))) pa_nil)))) (pss_cons (ps_set (i := 4) nd rfl (Or.inl rfl) (pe_lst pa_nil)) (pss_cons (ps_for PassesOwn.never rfl (pi_range1 (by rfl) T.b_range (pa_cons (pv 1) pa_nil)) (pg_name (i := 5) nd rfl (Or.inl rfl)) (pss_cons (ps_set (i := 6) nd rfl (Or.inl rfl) (pe_callB (call_max2 rfl) (by rfl) T.b_max (by decide +kernel) (pa_cons (pe_int) (pa_cons (pe_op op_sub (pv 5) (pv 2)) pa_nil)))) (pss_cons (ps_set (i := 7) nd rfl (Or.inl rfl) (pe_call G__law_pick (hr.mono (by decide)) (by rfl) T.g__law_pick T.F__law_pick.kp T.B__law_pick .nil pass0 (pa_cons (pv 0) (pa_cons (pe_tup (pa_cons (pe_tup (pa_cons (pe_int) (pa_cons (pe_int) pa_nil))) (pa_cons (pe_tup (pa_cons (pe_int) (pa_cons (pe_int) pa_nil))) (pa_cons (pe_tup (pa_cons (pe_int) (pa_cons (pe_int) pa_nil))) pa_nil)))) pa_nil)))) (pss_cons (ps_if (PW.pt (pw_and (pt_cmpR op_gt (pv 5) (pe_int) (nomark _)) (pw_and1 (pt_cmpR op_gt (pe_call G__law_next (hr.mono (by decide)) (by rfl) T.g__law_next T.F__law_next.kp T.B__law_next .nil pass0 (pa_cons (pv 0) (pa_cons (pe_int) pa_nil))) (pe_int) (nomark _))))) (pss_one (ps_set (i := 7) nd rfl (Or.inl rfl) (pe_ifExp (PW.pt (pw_and (pt_cmpR op_eq (pv 2) (pv 1) (nomark _)) (pw_and1 (pt_cmpR op_gt (pe_call G__law_next (hr.mono (by decide)) (by rfl) T.g__law_next T.F__law_next.kp T.B__law_next .nil pass0 (pa_cons (pv 0) (pa_cons (pe_int) pa_nil))) (pe_int) (nomark _))))) (pe_ix (ix_listK (K := K) rfl) (pv 3) (pe_op op_sub (pv 5) (pe_int)) (fun _ _ => rfl)) (pe_ix (ix_listK (K := K) rfl) (pv 3) (pe_call G__law_from (hr.mono (by decide)) (by rfl) T.g__law_from T.F__law_from.kp T.B__law_from .nil pass0 (pa_cons (pv 0) (pa_cons (pv 6) (pa_cons (pe_op op_sub (pv 5) (pe_int)) pa_nil)))) (fun _ _ => rfl))))) (pss_nil)) (pss_one (ps_expr (pe_bmK (K := K) rfl PySem.F.plainAttrs_list PySem.F.slot_list_append PySem.F.type_list_append mt_append (pv 4) (pa_cons (pe_tup (pa_cons (pe_ix (ix_listK (K := K) rfl) (pv 3) (pv 5) (fun _ _ => rfl)) (pa_cons (pv 7) pa_nil))) pa_nil)))))))) (pss_one (ps_ret (pv 4)))))), ?_⟩
  rintro ρ os r os2 ⟨stream_1, many_2, rfl, rfl, x, s0, h, rfl, rfl⟩
  show Ly.Run K _ [.at 0, .fz (E (many_2 : Int)), .un, .un, .un, .un, .un, .un] [.has (E (stream_1 : (LH3 (List Int) Int Int)))] _
  unfold m_law_table at h
  have h0 := obind_some h
  clear h
  obtain ⟨⟨r_3, w_4⟩, h_5, h⟩ := h0
  dsimp only at h
  refine run_seq (run_asg (i := 2) (s := .fz (E (r_3 : Int))) (ev_call1 (Rl := R_law_pick) (n := 0) (ea_cons (ev_var rfl) (ea_cons (ev_tup (ds := [E ((1 : Int) : Int), E ((2 : Int) : Int), E ((5 : Int) : Int), E (many_2 : Int)]) (ea_cons ev_int (ea_cons ev_int (ea_cons ev_int (ea_cons (ev_var rfl) ea_nil)))) (by show 4 ≤ sizeLine; decide)) ea_nil)) rfl ⟨Int, inferInstance, stream_1, (Sq.t [(⟨(1 : Int), (2 : Int), (5 : Int), many_2⟩ : (T4 Int Int Int Int)).a, (⟨(1 : Int), (2 : Int), (5 : Int), many_2⟩ : (T4 Int Int Int Int)).b, (⟨(1 : Int), (2 : Int), (5 : Int), many_2⟩ : (T4 Int Int Int Int)).c, (⟨(1 : Int), (2 : Int), (5 : Int), many_2⟩ : (T4 Int Int Int Int)).d]), rfl, rfl, r_3, w_4, h_5, rfl, rfl⟩) ?_) 
  have h0 := obind_some h
  clear h
  obtain ⟨rg_6, h_7, h⟩ := h0
  have h0 := obind_some h
  clear h
  obtain ⟨⟨ys_18, w_19⟩, h_20, h⟩ := h0
  dsimp only at h
  refine run_seq (run_asg (i := 3) (s := .fz (E (ys_18 : (List (Int × Int))))) (ev_frz (en_lc (osh := fun (s_9 : (LH3 (List Int) Int Int)) => [.has (E (s_9 : (LH3 (List Int) Int Int)))]) (src_rng1O (ea_cons (ev_var rfl) ea_nil) h_7) h_20 rfl (by
      rintro at_8 s_9 y s2 hx h
      dsimp only [m_law_table_c1] at h
      have h0 := obind_some h
      clear h
      obtain ⟨⟨r_10, w_11⟩, h_12, h⟩ := h0
      dsimp only at h
      have h0 := obind_some h
      clear h
      obtain ⟨q_13, h_14, h⟩ := h0
      have h0 := obind_some h
      clear h
      obtain ⟨⟨r_15, w_16⟩, h_17, h⟩ := h0
      dsimp only at h
      have k0 := Option.some.inj h
      clear h
      have k0p := Prod.mk.inj k0
      clear k0
      obtain ⟨e0, k1⟩ := k0p
      subst e0
      subst k1
      exact ⟨_, _, tgb_name, by decide, true, _, (fun R F ps σ H Q I q => q F H (Ex.refl F) I), fun _ => ⟨_, rfl, (ev_tup (ds := [E ((((1 : Int) + r_10) + q_13) : Int), E (((1 : Int) + r_15) : Int)]) (ea_cons (ev_add (ev_add ev_int (ev_call1 (Rl := R_law_next) (n := 0) (ea_cons (ev_var rfl) (ea_cons ev_int ea_nil)) rfl ⟨s_9, (3 : Int), rfl, rfl, r_10, w_11, h_12, rfl, rfl⟩)) (ev_mulO ev_int (ev_var rfl) h_14)) (ea_cons (ev_add ev_int (ev_call1 (Rl := R_law_next) (n := 0) (ea_cons (ev_var rfl) (ea_cons ev_int ea_nil)) rfl ⟨w_11, (9 : Int), rfl, rfl, r_15, w_16, h_17, rfl, rfl⟩)) ea_nil)) (by show 2 ≤ sizeLine; decide))⟩, fun z => nomatch z⟩))) ?_) 
  refine run_seq (run_asgN (i := 4) (d := E (([] : (List ((Int × Int) × (Int × Int)))) : (List ((Int × Int) × (Int × Int))))) (en_new (ds := []) ea_nil (by show 0 ≤ sizeLine; decide)) ?_) 
  have h0 := obind_some h
  clear h
  obtain ⟨rg_21, h_22, h⟩ := h0
  have h0 := obind_some h
  clear h
  obtain ⟨⟨w_62, w_63⟩, h_64, h⟩ := h0
  dsimp only at h
  show Ly.Run _ _ [.at 0, .fz (E (many_2 : Int)), .fz (E (r_3 : Int)), .fz (E (ys_18 : (List (Int × Int)))), .at 1, .un, .un, .un] [.has (E (w_19 : (LH3 (List Int) Int Int))), .has (E (([] : (List ((Int × Int) × (Int × Int)))) : (List ((Int × Int) × (Int × Int)))))] _
  refine run_seq (run_forN (fun (⟨s_23, s_24⟩ : (LH3 (List Int) Int Int) × (List ((Int × Int) × (Int × Int)))) => [.at 0, .fz (E (many_2 : Int)), .fz (E (r_3 : Int)), .fz (E (ys_18 : (List (Int × Int)))), .at 1, .un, .un, .un]) (fun (⟨s_23, s_24⟩ : (LH3 (List Int) Int Int) × (List ((Int × Int) × (Int × Int)))) => [.has (E (s_23 : (LH3 (List Int) Int Int))), .has (E (s_24 : (List ((Int × Int) × (Int × Int)))))]) (src_rng1O (ea_cons (ev_var rfl) ea_nil) h_22) h_64 (by exact ⟨(.at (by show 0 < 2; decide) (.fz (.fz (.fz (.at (by show 1 < 2; decide) (.un (.un (.un .nil)))))))), (.has (.has .nil))⟩) (fun _ => rfl) ?_ ?_)
  · rintro at_25 ⟨s_23, s_24⟩ c hx h
    dsimp only [m_law_table_l1] at h
    refine ⟨_, _, tgb_name, ?_⟩
    refine run_seq (run_asg (i := 6) (s := .fz (E ((max2 (0 : Int) (at_25 - r_3)) : Int))) (ev_max2 (ea_cons ev_int (ea_cons (ev_sub (ev_var rfl) (ev_var rfl)) ea_nil))) ?_) 
    have h0 := obind_some h
    clear h
    obtain ⟨⟨r_26, w_27⟩, h_28, h⟩ := h0
    dsimp only at h
    refine run_seq (run_asg (i := 7) (s := .fz (E (r_26 : (Int × Int)))) (ev_call1 (Rl := R_law_pick) (n := 0) (ea_cons (ev_var rfl) (ea_cons (ev_tup (ds := [E (((0 : Int), (0 : Int)) : (Int × Int)), E (((9000 : Int), (1 : Int)) : (Int × Int)), E (((0 : Int), (3 : Int)) : (Int × Int))]) (ea_cons (ev_tup (ds := [E ((0 : Int) : Int), E ((0 : Int) : Int)]) (ea_cons ev_int (ea_cons ev_int ea_nil)) (by show 2 ≤ sizeLine; decide)) (ea_cons (ev_tup (ds := [E ((9000 : Int) : Int), E ((1 : Int) : Int)]) (ea_cons ev_int (ea_cons ev_int ea_nil)) (by show 2 ≤ sizeLine; decide)) (ea_cons (ev_tup (ds := [E ((0 : Int) : Int), E ((3 : Int) : Int)]) (ea_cons ev_int (ea_cons ev_int ea_nil)) (by show 2 ≤ sizeLine; decide)) ea_nil))) (by show 3 ≤ sizeLine; decide)) ea_nil)) rfl ⟨(Int × Int), inferInstance, s_23, (Sq.t [(⟨((0 : Int), (0 : Int)), ((9000 : Int), (1 : Int)), ((0 : Int), (3 : Int))⟩ : (T3 (Int × Int) (Int × Int) (Int × Int))).a, (⟨((0 : Int), (0 : Int)), ((9000 : Int), (1 : Int)), ((0 : Int), (3 : Int))⟩ : (T3 (Int × Int) (Int × Int) (Int × Int))).b, (⟨((0 : Int), (0 : Int)), ((9000 : Int), (1 : Int)), ((0 : Int), (3 : Int))⟩ : (T3 (Int × Int) (Int × Int) (Int × Int))).c]), rfl, rfl, r_26, w_27, h_28, rfl, rfl⟩) ?_) 
    have h0 := obind_some h
    clear h
    obtain ⟨⟨b_32, w_33⟩, h_34, h⟩ := h0
    dsimp only at h
    have h0 := obind_some h
    clear h
    obtain ⟨⟨w_37, above_38⟩, h_57, h⟩ := h0
    dsimp only at h
    refine run_join (v := (w_37, above_38)) (fun (⟨w_37, above_38⟩ : (LH3 (List Int) Int Int) × (Int × Int)) => [.at 0, .fz (E (many_2 : Int)), .fz (E (r_3 : Int)), .fz (E (ys_18 : (List (Int × Int)))), .at 1, .fz (E (at_25 : Int)), .fz (E ((max2 (0 : Int) (at_25 - r_3)) : Int)), .fz (E (above_38 : (Int × Int)))]) (fun (⟨w_37, above_38⟩ : (LH3 (List Int) Int Int) × (Int × Int)) => [.has (E (w_37 : (LH3 (List Int) Int Int))), .has (E (s_24 : (List ((Int × Int) × (Int × Int)))))]) (by show 2 ≤ 2; decide) (run_if (et_and (b := b_32) (os2 := [.has (E (w_33 : (LH3 (List Int) Int Int))), .has (E (s_24 : (List ((Int × Int) × (Int × Int)))))]) (et_test (ev_gt (ev_var rfl) ev_int)) (fun hb_35 => by have h := cond_t hb_35 h_34; have h0 := obind_some h; clear h; obtain ⟨⟨r_29, w_30⟩, h_31, h⟩ := h0; dsimp only at h; have k0 := Option.some.inj h; clear h; have k0p := Prod.mk.inj k0; clear k0; obtain ⟨e0, k1⟩ := k0p; subst e0; subst k1; exact (et_test (ev_gt (ev_call1 (Rl := R_law_next) (n := 0) (ea_cons (ev_var rfl) (ea_cons ev_int ea_nil)) rfl ⟨w_27, (8 : Int), rfl, rfl, r_29, w_30, h_31, rfl, rfl⟩) ev_int))) (fun hb_35 => by have h := cond_f hb_35 h_34; have k0 := Option.some.inj h; clear h; have k0p := Prod.mk.inj k0; clear k0; obtain ⟨e0, k1⟩ := k0p; subst e0; subst k1; exact ⟨rfl, rfl⟩)) (fun hb_36 => ?_) (fun hb_36 => ?_)) ?_
    · have h := cond_t hb_36 h_57
      have h0 := obind_some h
      clear h
      obtain ⟨⟨b_42, w_43⟩, h_44, h⟩ := h0
      dsimp only at h
      have h0 := obind_some h
      clear h
      obtain ⟨⟨v_53, w_54⟩, h_55, h⟩ := h0
      dsimp only at h
      refine run_asg (i := 7) (s := .fz (E (v_53 : (Int × Int)))) (ev_if (s := .fz (E (v_53 : (Int × Int)))) (os2 := [.has (E (w_54 : (LH3 (List Int) Int Int))), .has (E (s_24 : (List ((Int × Int) × (Int × Int)))))]) (et_and (b := b_42) (os2 := [.has (E (w_43 : (LH3 (List Int) Int Int))), .has (E (s_24 : (List ((Int × Int) × (Int × Int)))))]) (et_test (ev_eqI (ev_var rfl) (ev_var rfl))) (fun hb_45 => by have h := cond_t hb_45 h_44; have h0 := obind_some h; clear h; obtain ⟨⟨r_39, w_40⟩, h_41, h⟩ := h0; dsimp only at h; have k0 := Option.some.inj h; clear h; have k0p := Prod.mk.inj k0; clear k0; obtain ⟨e0, k1⟩ := k0p; subst e0; subst k1; exact (et_test (ev_gt (ev_call1 (Rl := R_law_next) (n := 0) (ea_cons (ev_var rfl) (ea_cons ev_int ea_nil)) rfl ⟨w_33, (4 : Int), rfl, rfl, r_39, w_40, h_41, rfl, rfl⟩) ev_int))) (fun hb_45 => by have h := cond_f hb_45 h_44; have k0 := Option.some.inj h; clear h; have k0p := Prod.mk.inj k0; clear k0; obtain ⟨e0, k1⟩ := k0p; subst e0; subst k1; exact ⟨rfl, rfl⟩)) (fun hb_56 => by have h := cond_t hb_56 h_55; have h0 := obind_some h; clear h; obtain ⟨t_46, h_47, h⟩ := h0; have k0 := Option.some.inj h; clear h; have k0p := Prod.mk.inj k0; clear k0; obtain ⟨e0, k1⟩ := k0p; subst e0; subst k1; exact (ev_ix (xs := ys_18) (ev_var rfl) (ev_sub (ev_var rfl) ev_int) rfl h_47)) (fun hb_56 => by have h := cond_f hb_56 h_55; have h0 := obind_some h; clear h; obtain ⟨⟨r_48, w_49⟩, h_50, h⟩ := h0; dsimp only at h; have h0 := obind_some h; clear h; obtain ⟨t_51, h_52, h⟩ := h0; have k0 := Option.some.inj h; clear h; have k0p := Prod.mk.inj k0; clear k0; obtain ⟨e0, k1⟩ := k0p; subst e0; subst k1; exact (ev_ix (xs := ys_18) (ev_var rfl) (ev_call1 (Rl := R_law_from) (n := 0) (ea_cons (ev_var rfl) (ea_cons (ev_var rfl) (ea_cons (ev_sub (ev_var rfl) ev_int) ea_nil))) rfl ⟨w_43, (max2 (0 : Int) (at_25 - r_3)), (at_25 - (1 : Int)), rfl, rfl, r_48, w_49, h_50, rfl, rfl⟩) rfl h_52))) ?_
      have k0 := Option.some.inj h
      clear h
      have k0p := Prod.mk.inj k0
      clear k0
      obtain ⟨e0, k1⟩ := k0p
      subst e0
      subst k1
      exact ⟨(.at (by show 0 < 2; decide) (.fz (.fz (.fz (.at (by show 1 < 2; decide) (.fz (.fz (.fz .nil)))))))), (.has (.has .nil))⟩
    · have h := cond_f hb_36 h_57
      refine run_next ?_
      have k0 := Option.some.inj h
      clear h
      have k0p := Prod.mk.inj k0
      clear k0
      obtain ⟨e0, k1⟩ := k0p
      subst e0
      subst k1
      exact ⟨(.at (by show 0 < 2; decide) (.fz (.fz (.fz (.at (by show 1 < 2; decide) (.fz (.fz (.fz .nil)))))))), (.has (.has .nil))⟩
    have h0 := obind_some h
    clear h
    obtain ⟨t_58, h_59, h⟩ := h0
    have h0 := obind_some h
    clear h
    obtain ⟨rows_60, h_61, h⟩ := h0
    refine run_drop (ev_appO (xs := s_24) (x := (t_58, above_38)) (ev_var rfl) ⟨_, rfl⟩ (ev_tup (ds := [E (t_58 : (Int × Int)), E (above_38 : (Int × Int))]) (ea_cons (ev_ix (xs := ys_18) (ev_var rfl) (ev_var rfl) rfl h_59) (ea_cons (ev_var rfl) ea_nil)) (by show 2 ≤ sizeLine; decide)) rfl h_61) ?_
    cases h
    exact ⟨_, rfl, ⟨(.at (by show 0 < 2; decide) (.fz (.fz (.fz (.at (by show 1 < 2; decide) (.un (.un (.un .nil)))))))), (.has (.has .nil))⟩⟩
  have k0 := Option.some.inj h
  clear h
  have k0p := Prod.mk.inj k0
  clear k0
  obtain ⟨e0, k1⟩ := k0p
  subst e0
  subst k1
  exact run_ret (s := .at 1) (ev_var rfl) ⟨(by show 1 ≤ 1; decide), rfl, (.has .nil)⟩
theorem ok_law_closed (T : Tx K mg) : FnOk P w K mg base CX0 3 T.a__law_closed T.fd__law_closed ["stream", "rows"] (spR K R_law_closed) := by
  have G__law_next := ok_law_next (P := P) (w := w) (base := base) T
  have G__law_pick := ok_law_pick (P := P) (w := w) (base := base) T
  refine fn_R (k := 2) T.F__law_closed sc__law_closed (fun ρ os r os2 h => by obtain ⟨stream_1, rows_2, rfl, rfl, x, s0, h, rfl, rfl⟩ := h; exact ⟨rfl, rfl⟩) fun cdv A outer s H EX hr => ?_
  have nd := sc__law_closed.nd
  refine ⟨_, pss_cons (ps_set (i := 2) nd rfl (Or.inl rfl) (pe_dnewT)) (pss_cons (ps_for PassesOwn.never rfl (pi_range1 (by rfl) T.b_range (pa_cons (pe_callB (call_lenK (K := K) rfl) (by rfl) T.b_len (by decide +kernel) (pa_cons (pv 1) pa_nil)) pa_nil)) (pg_name (i := 3) nd rfl (Or.inl rfl)) (pss_one (ps_dput (hu_of hr) (pv 2) (pe_ix (ix_tupK (K := K) rfl) (pe_ix (ix_listK (K := K) rfl) (pv 1) (pv 3) (fun _ _ => rfl)) (pe_int) (fun _ _ => rfl)) (pv 3) rfl))) (pss_cons (ps_set (i := 4) nd rfl (Or.inl rfl) (pe_lst (pa_cons (pe_call G__law_next (hr.mono (by decide)) (by rfl) T.g__law_next T.F__law_next.kp T.B__law_next .nil pass0 (pa_cons (pv 0) (pa_cons (pe_callB (call_lenK (K := K) rfl) (by rfl) T.b_len (by decide +kernel) (pa_cons (pv 1) pa_nil)) pa_nil))) pa_nil))) (pss_cons (ps_for PassesOwn.never rfl (pi_range1 (by rfl) T.b_range (pa_cons (pe_call G__law_pick (hr.mono (by decide)) (by rfl) T.g__law_pick T.F__law_pick.kp T.B__law_pick .nil pass0 (pa_cons (pv 0) (pa_cons (pe_tup (pa_cons (pe_int) (pa_cons (pe_int) (pa_cons (pe_int) (pa_cons (pe_callB (call_lenK (K := K) rfl) (by rfl) T.b_len (by decide +kernel) (pa_cons (pv 1) pa_nil)) pa_nil))))) pa_nil))) pa_nil)) (pg_name (i := 5) nd rfl (Or.inl rfl)) (pss_cons (ps_set (i := 7) nd rfl (Or.inl rfl) (pe_ix (ix_tupK (K := K) rfl) (pe_ix (ix_listK (K := K) rfl) (pv 1) (pe_ix (ix_listK (K := K) rfl) (pv 4) (pe_un un_neg pe_int) (fun _ _ => rfl)) (fun _ _ => rfl)) (pe_int) (fun _ _ => rfl))) (pss_one (ps_if (pt_cmp (pc_din (hu_of hr) (pv 7) (pv 2))) (pss_one (ps_expr (pe_bmK (K := K) rfl PySem.F.plainAttrs_list PySem.F.slot_list_append PySem.F.type_list_append mt_append (pv 4) (pa_cons (pe_dget (hu_of hr) (pv 2) (pv 7) (fun _ _ => rfl)) pa_nil)))) (pss_nil))))) (pss_cons (ps_set (i := 6) nd rfl (Or.inl rfl) (pe_callTy (call_listK (K := K) rfl) (by rfl) T.b_list (by decide +kernel) (pa_cons (pv 1) pa_nil))) (pss_cons (ps_asg (pe_tup (pa_cons (pe_ix (ix_tupK (K := K) rfl) (pe_ix (ix_listK (K := K) rfl) (pv 1) (pe_ix (ix_listK (K := K) rfl) (pv 4) (pe_un un_neg pe_int) (fun _ _ => rfl)) (fun _ _ => rfl)) (pe_int) (fun _ _ => rfl)) (pa_cons (pe_ix (ix_tupK (K := K) rfl) (pe_ix (ix_listK (K := K) rfl) (pv 1) (pe_ix (ix_listK (K := K) rfl) (pv 4) (pe_int) (fun _ _ => rfl)) (fun _ _ => rfl)) (pe_int) (fun _ _ => rfl)) pa_nil))) (pg_sub (pv 6) (pe_ix (ix_listK (K := K) rfl) (pv 4) (pe_un un_neg pe_int) (fun _ _ => rfl)) set_list)) (pss_one (ps_ret (pe_tup (pa_cons (pv 6) (pa_cons (pv 4) pa_nil)))))))))), ?_⟩
  rintro ρ os r os2 ⟨stream_1, rows_2, rfl, rfl, x, s0, h, rfl, rfl⟩
  show Ly.Run K _ [.at 0, .fz (E (rows_2 : (List ((Int × Int) × (Int × Int))))), .un, .un, .un, .un, .un, .un] [.has (E (stream_1 : (LH3 (List Int) Int Int)))] _
  unfold m_law_closed at h
  refine run_seq (run_asgN (i := 2) (d := E ((⟨[]⟩ : (DctT Int)) : (DctT Int))) (en_dnewT (α := Int)) ?_) 
  have h0 := obind_some h
  clear h
  obtain ⟨rg_3, h_4, h⟩ := h0
  have h0 := obind_some h
  clear h
  obtain ⟨w_11, h_12, h⟩ := h0
  show Ly.Run _ _ [.at 0, .fz (E (rows_2 : (List ((Int × Int) × (Int × Int))))), .at 1, .un, .un, .un, .un, .un] [.has (E (stream_1 : (LH3 (List Int) Int Int))), .has (E ((⟨[]⟩ : (DctT Int)) : (DctT Int)))] _
  refine run_seq (run_forN (fun (s_5 : (DctT Int)) => [.at 0, .fz (E (rows_2 : (List ((Int × Int) × (Int × Int))))), .at 1, .un, .un, .un, .un, .un]) (fun (s_5 : (DctT Int)) => [.has (E (stream_1 : (LH3 (List Int) Int Int))), .has (E (s_5 : (DctT Int)))]) (src_rng1O (ea_cons (ev_lenL (xs := rows_2) (ea_cons (ev_var rfl) ea_nil) rfl) ea_nil) h_4) h_12 (by exact ⟨(.at (by show 0 < 2; decide) (.fz (.at (by show 1 < 2; decide) (.un (.un (.un (.un (.un .nil)))))))), (.has (.has .nil))⟩) (fun _ => rfl) ?_ ?_)
  · rintro at_6 s_5 c hx h
    dsimp only [m_law_closed_l1] at h
    refine ⟨_, _, tgb_name, ?_⟩
    have h0 := obind_some h
    clear h
    obtain ⟨t_7, h_8, h⟩ := h0
    have h0 := obind_some h
    clear h
    obtain ⟨indexes_9, h_10, h⟩ := h0
    refine run_dputT (l := s_5.l) (k := ([.inl t_7.1.1, .inl t_7.1.2] : List L2.Key)) (x := at_6) (ev_var rfl) (ev_var rfl) (ev_ixT (ds := [E (t_7.1 : (Int × Int)), E (t_7.2 : (Int × Int))]) (d := E (t_7.1 : (Int × Int))) (ev_ix (xs := rows_2) (ev_var rfl) (ev_var rfl) rfl h_8) ev_int rfl rfl) rfl h_10 ?_
    cases h
    exact ⟨_, rfl, ⟨(.at (by show 0 < 2; decide) (.fz (.at (by show 1 < 2; decide) (.un (.un (.un (.un (.un .nil)))))))), (.has (.has .nil))⟩⟩
  have h0 := obind_some h
  clear h
  obtain ⟨⟨r_13, w_14⟩, h_15, h⟩ := h0
  dsimp only at h
  refine run_seq (run_asgN (i := 4) (d := E (([r_13] : (List Int)) : (List Int))) (en_new (ds := [E (r_13 : Int)]) (ea_cons (ev_call1 (Rl := R_law_next) (n := 0) (ea_cons (ev_var rfl) (ea_cons (ev_lenL (xs := rows_2) (ea_cons (ev_var rfl) ea_nil) rfl) ea_nil)) rfl ⟨stream_1, (rows_2.length : Int), rfl, rfl, r_13, w_14, h_15, rfl, rfl⟩) ea_nil) (by show 1 ≤ sizeLine; decide)) ?_) 
  have h0 := obind_some h
  clear h
  obtain ⟨⟨r_16, w_17⟩, h_18, h⟩ := h0
  dsimp only at h
  have h0 := obind_some h
  clear h
  obtain ⟨rg_19, h_20, h⟩ := h0
  have h0 := obind_some h
  clear h
  obtain ⟨w_32, h_33, h⟩ := h0
  show Ly.Run _ _ [.at 0, .fz (E (rows_2 : (List ((Int × Int) × (Int × Int))))), .at 1, .un, .at 2, .un, .un, .un] [.has (E (w_14 : (LH3 (List Int) Int Int))), .has (E (w_11 : (DctT Int))), .has (E (([r_13] : (List Int)) : (List Int)))] _
  refine run_seq (run_forN (fun (s_21 : (List Int)) => [.at 0, .fz (E (rows_2 : (List ((Int × Int) × (Int × Int))))), .at 1, .un, .at 2, .un, .un, .un]) (fun (s_21 : (List Int)) => [.has (E (w_17 : (LH3 (List Int) Int Int))), .has (E (w_11 : (DctT Int))), .has (E (s_21 : (List Int)))]) (src_rng1O (ea_cons (ev_call1 (Rl := R_law_pick) (n := 0) (ea_cons (ev_var rfl) (ea_cons (ev_tup (ds := [E ((0 : Int) : Int), E ((1 : Int) : Int), E ((3 : Int) : Int), E ((rows_2.length : Int) : Int)]) (ea_cons ev_int (ea_cons ev_int (ea_cons ev_int (ea_cons (ev_lenL (xs := rows_2) (ea_cons (ev_var rfl) ea_nil) rfl) ea_nil)))) (by show 4 ≤ sizeLine; decide)) ea_nil)) rfl ⟨Int, inferInstance, w_14, (Sq.t [(⟨(0 : Int), (1 : Int), (3 : Int), (rows_2.length : Int)⟩ : (T4 Int Int Int Int)).a, (⟨(0 : Int), (1 : Int), (3 : Int), (rows_2.length : Int)⟩ : (T4 Int Int Int Int)).b, (⟨(0 : Int), (1 : Int), (3 : Int), (rows_2.length : Int)⟩ : (T4 Int Int Int Int)).c, (⟨(0 : Int), (1 : Int), (3 : Int), (rows_2.length : Int)⟩ : (T4 Int Int Int Int)).d]), rfl, rfl, r_16, w_17, h_18, rfl, rfl⟩) ea_nil) h_20) h_33 (by exact ⟨(.at (by show 0 < 3; decide) (.fz (.at (by show 1 < 3; decide) (.un (.at (by show 2 < 3; decide) (.un (.un (.un .nil)))))))), (.has (.has (.has .nil)))⟩) (fun _ => rfl) ?_ ?_)
  · rintro turn_22 s_21 c hx h
    dsimp only [m_law_closed_l2] at h
    refine ⟨_, _, tgb_name, ?_⟩
    have h0 := obind_some h
    clear h
    obtain ⟨t_23, h_24, h⟩ := h0
    have h0 := obind_some h
    clear h
    obtain ⟨t_25, h_26, h⟩ := h0
    refine run_seq (run_asg (i := 7) (s := .fz (E (t_25.2 : (Int × Int)))) (ev_ixT (ds := [E (t_25.1 : (Int × Int)), E (t_25.2 : (Int × Int))]) (d := E (t_25.2 : (Int × Int))) (ev_ix (xs := rows_2) (ev_var rfl) (ev_ix (xs := s_21) (ev_var rfl) (ev_neg ev_int) rfl h_24) rfl h_26) ev_int rfl rfl) ?_) 
    refine run_if (et_B (ev_dinT (k := ([.inl t_25.2.1, .inl t_25.2.2] : List L2.Key)) (ev_var rfl) (ev_var rfl) rfl)) (fun hb_27 => ?_) (fun hb_27 => ?_)
    · replace h := cond_t hb_27 h
      have h0 := obind_some h
      clear h
      obtain ⟨t_28, h_29, h⟩ := h0
      have h0 := obind_some h
      clear h
      obtain ⟨ring_30, h_31, h⟩ := h0
      refine run_drop (ev_appO (xs := s_21) (x := t_28) (ev_var rfl) ⟨_, rfl⟩ (ev_dgetT (k := ([.inl t_25.2.1, .inl t_25.2.2] : List L2.Key)) (ev_var rfl) (ev_var rfl) rfl h_29) rfl h_31) ?_
      cases h
      exact ⟨_, rfl, ⟨(.at (by show 0 < 3; decide) (.fz (.at (by show 1 < 3; decide) (.un (.at (by show 2 < 3; decide) (.un (.un (.un .nil)))))))), (.has (.has (.has .nil)))⟩⟩
    · replace h := cond_f hb_27 h
      refine run_next ?_
      cases h
      exact ⟨_, rfl, ⟨(.at (by show 0 < 3; decide) (.fz (.at (by show 1 < 3; decide) (.un (.at (by show 2 < 3; decide) (.un (.un (.un .nil)))))))), (.has (.has (.has .nil)))⟩⟩
  refine run_seq (run_asgN (i := 6) (d := E (rows_2 : (List ((Int × Int) × (Int × Int))))) (en_list (ea_cons (ev_var rfl) ea_nil) (.inl rfl)) ?_) 
  have h0 := obind_some h
  clear h
  obtain ⟨t_34, h_35, h⟩ := h0
  have h0 := obind_some h
  clear h
  obtain ⟨t_36, h_37, h⟩ := h0
  have h0 := obind_some h
  clear h
  obtain ⟨t_38, h_39, h⟩ := h0
  have h0 := obind_some h
  clear h
  obtain ⟨t_40, h_41, h⟩ := h0
  have h0 := obind_some h
  clear h
  obtain ⟨t_42, h_43, h⟩ := h0
  have h0 := obind_some h
  clear h
  obtain ⟨found_44, h_45, h⟩ := h0
  refine run_seq (run_setO (xs := rows_2) (x := (t_36.1, t_40.1)) (ev_tup (ds := [E (t_36.1 : (Int × Int)), E (t_40.1 : (Int × Int))]) (ea_cons (ev_ixT (ds := [E (t_36.1 : (Int × Int)), E (t_36.2 : (Int × Int))]) (d := E (t_36.1 : (Int × Int))) (ev_ix (xs := rows_2) (ev_var rfl) (ev_ix (xs := w_32) (ev_var rfl) (ev_neg ev_int) rfl h_35) rfl h_37) ev_int rfl rfl) (ea_cons (ev_ixT (ds := [E (t_40.1 : (Int × Int)), E (t_40.2 : (Int × Int))]) (d := E (t_40.1 : (Int × Int))) (ev_ix (xs := rows_2) (ev_var rfl) (ev_ix (xs := w_32) (ev_var rfl) ev_int rfl h_39) rfl h_41) ev_int rfl rfl) ea_nil)) (by show 2 ≤ sizeLine; decide)) (ev_var rfl) (ev_ix (xs := w_32) (ev_var rfl) (ev_neg ev_int) rfl h_43) rfl h_45 ?_) 
  refine run_still (i := 3) (j := 6) (d := E (found_44 : (List ((Int × Int) × (Int × Int))))) rfl rfl ?_
  refine run_still (i := 2) (j := 4) (d := E (w_32 : (List Int))) rfl rfl ?_
  have k0 := Option.some.inj h
  clear h
  have k0p := Prod.mk.inj k0
  clear k0
  obtain ⟨e0, k1⟩ := k0p
  subst e0
  subst k1
  exact run_ret (s := .fz (E ((found_44, w_32) : ((List ((Int × Int) × (Int × Int))) × (List Int))))) (ev_tup (ds := [E (found_44 : (List ((Int × Int) × (Int × Int)))), E (w_32 : (List Int))]) (ea_cons (ev_var rfl) (ea_cons (ev_var rfl) ea_nil)) (by show 2 ≤ sizeLine; decide)) ⟨rfl, (.has .nil)⟩
theorem ok_law_spoilt (T : Tx K mg) : FnOk P w K mg base CX0 3 T.a__law_spoilt T.fd__law_spoilt ["stream", "rows"] (spR K R_law_spoilt) := by
  have G__law_next := ok_law_next (P := P) (w := w) (base := base) T
  have G__law_pick := ok_law_pick (P := P) (w := w) (base := base) T
  refine fn_R (k := 2) T.F__law_spoilt sc__law_spoilt (fun ρ os r os2 h => by obtain ⟨stream_1, rows_2, rfl, rfl, x, s0, h, rfl, rfl⟩ := h; exact ⟨rfl, rfl⟩) fun cdv A outer s H EX hr => ?_
  have nd := sc__law_spoilt.nd
  refine ⟨_, pss_cons (ps_if (PW.pt (pw_or (pt_cmpR op_eq (pe_callB (call_lenK (K := K) rfl) (by rfl) T.b_len (by decide +kernel) (pa_cons (pv 1) pa_nil)) (pe_int) (nomark _)) (pw_or1 (pt_cmpR op_eq (pe_call G__law_next (hr.mono (by decide)) (by rfl) T.g__law_next T.F__law_next.kp T.B__law_next .nil pass0 (pa_cons (pv 0) (pa_cons (pe_int) pa_nil))) (pe_int) (nomark _))))) (pss_one (ps_ret (pe_call G__law_pick (hr.mono (by decide)) (by rfl) T.g__law_pick T.F__law_pick.kp T.B__law_pick .nil pass0 (pa_cons (pv 0) (pa_cons (pe_lst (pa_cons (pe_non) (pa_cons (pe_callTy (call_tupleK (K := K) rfl) (by rfl) T.b_tuple (by decide +kernel) (pa_cons (pv 1) pa_nil)) (pa_cons (pe_str) (pa_cons (pe_int) (pa_cons (pe_bl) (pa_cons (pe_disp (pps_cons (pe_str) (pv 1) pps_nil) rfl rfl (List.cons_ne_nil _ _) (by decide)) (pa_cons (pe_lst (pa_cons (pe_tup pa_nil) pa_nil)) (pa_cons (pe_lst (pa_cons (pe_non) pa_nil)) (pa_cons (pe_lst (pa_cons (pe_lst (pa_cons (pe_tup (pa_cons (pe_int) (pa_cons (pe_int) pa_nil))) (pa_cons (pe_tup (pa_cons (pe_int) (pa_cons (pe_int) pa_nil))) pa_nil))) pa_nil)) (pa_cons (pe_lst (pa_cons (pe_tup (pa_cons (pe_tup (pa_cons (pe_int) (pa_cons (pe_int) pa_nil))) (pa_cons (pe_tup (pa_cons (pe_int) (pa_cons (pe_int) pa_nil))) (pa_cons (pe_tup (pa_cons (pe_int) (pa_cons (pe_int) pa_nil))) pa_nil)))) pa_nil)) pa_nil))))))))))) pa_nil))))) (pss_nil)) (pss_cons (ps_set (i := 2) nd rfl (Or.inl rfl) (pe_call G__law_next (hr.mono (by decide)) (by rfl) T.g__law_next T.F__law_next.kp T.B__law_next .nil pass0 (pa_cons (pv 0) (pa_cons (pe_callB (call_lenK (K := K) rfl) (by rfl) T.b_len (by decide +kernel) (pa_cons (pv 1) pa_nil)) pa_nil)))) (pss_cons (ps_asg (pe_ix (ix_listK (K := K) rfl) (pv 1) (pv 2) (fun _ _ => rfl)) (pg_tupK (K := K) rfl rfl (pgs_cons (pg_name (i := 5) nd rfl (Or.inl rfl)) (pgs_cons (pg_name (i := 6) nd rfl (Or.inl rfl)) pgs_nil)))) (pss_cons (ps_set (i := 3) nd rfl (Or.inl rfl) (pe_lst (pa_cons (pe_tup (pa_cons (pv 5) pa_nil)) (pa_cons (pe_tup (pa_cons (pv 5) (pa_cons (pe_non) pa_nil))) (pa_cons (pe_lst (pa_cons (pv 5) (pa_cons (pv 6) pa_nil))) (pa_cons (pe_tup (pa_cons (pv 5) (pa_cons (pv 6) (pa_cons (pv 6) pa_nil)))) (pa_cons (pe_tup (pa_cons (pe_callTy (call_listK (K := K) rfl) (by rfl) T.b_list (by decide +kernel) (pa_cons (pv 5) pa_nil)) (pa_cons (pv 6) pa_nil))) (pa_cons (pe_tup (pa_cons (pv 5) (pa_cons (pe_callTy (call_listK (K := K) rfl) (by rfl) T.b_list (by decide +kernel) (pa_cons (pv 6) pa_nil)) pa_nil))) (pa_cons (pv 5) (pa_cons (pe_tup (pa_cons (pv 5) (pa_cons (pe_tup (pa_cons (pe_int) (pa_cons (pe_int) (pa_cons (pe_int) pa_nil)))) pa_nil))) pa_nil)))))))))) (pss_cons (ps_set (i := 3) nd rfl (Or.inl rfl) (pe_op (op_catLK (K := K) rfl) (pv 3) (pe_lst (pa_cons (pe_tup (pa_cons (pv 5) (pa_cons (pe_tup (pa_cons (pe_un un_neg pe_int) (pa_cons (pe_int) pa_nil))) pa_nil))) (pa_cons (pe_tup (pa_cons (pe_tup (pa_cons (pe_ix (ix_tupK (K := K) rfl) (pv 5) (pe_int) (fun _ _ => rfl)) (pa_cons (pe_un un_neg pe_int) pa_nil))) (pa_cons (pv 6) pa_nil))) (pa_cons (pe_tup (pa_cons (pv 5) (pa_cons (pe_tup (pa_cons (pe_int) (pa_cons (pe_bl) pa_nil))) pa_nil))) (pa_cons (pe_tup (pa_cons (pe_tup (pa_cons (pe_ix (ix_tupK (K := K) rfl) (pv 5) (pe_int) (fun _ _ => rfl)) (pa_cons (pe_str) pa_nil))) (pa_cons (pv 6) pa_nil))) (pa_cons (pe_tup (pa_cons (pv 5) (pa_cons (pe_tup (pa_cons (pe_str) (pa_cons (pe_int) pa_nil))) pa_nil))) (pa_cons (pe_tup (pa_cons (pv 5) (pa_cons (pe_tup (pa_cons (pe_bl) (pa_cons (pe_int) pa_nil))) pa_nil))) pa_nil))))))))) (pss_cons (ps_set (i := 4) nd rfl (Or.inl rfl) (pe_callTy (call_listK (K := K) rfl) (by rfl) T.b_list (by decide +kernel) (pa_cons (pv 1) pa_nil))) (pss_cons (ps_if (pt_cmpR op_eq (pe_call G__law_next (hr.mono (by decide)) (by rfl) T.g__law_next T.F__law_next.kp T.B__law_next .nil pass0 (pa_cons (pv 0) (pa_cons (pe_int) pa_nil))) (pe_int) (nomark _)) (pss_one (ps_expr (pe_bmK (K := K) rfl PySem.F.plainAttrs_list PySem.F.slot_list_insert PySem.F.type_list_insert mt_insert (pv 4) (pa_cons (pe_call G__law_next (hr.mono (by decide)) (by rfl) T.g__law_next T.F__law_next.kp T.B__law_next .nil pass0 (pa_cons (pv 0) (pa_cons (pe_op op_add (pe_callB (call_lenK (K := K) rfl) (by rfl) T.b_len (by decide +kernel) (pa_cons (pv 1) pa_nil)) (pe_int)) pa_nil))) (pa_cons (pe_tup (pa_cons (pv 5) (pa_cons (pe_call G__law_pick (hr.mono (by decide)) (by rfl) T.g__law_pick T.F__law_pick.kp T.B__law_pick .nil pass0 (pa_cons (pv 0) (pa_cons (pe_lst (pa_cons (pv 6) (pa_cons (pe_tup (pa_cons (pe_int) (pa_cons (pe_int) pa_nil))) (pa_cons (pe_tup (pa_cons (pe_int) (pa_cons (pe_int) pa_nil))) pa_nil)))) pa_nil))) pa_nil))) pa_nil))))) (pss_one (ps_asg (pe_call G__law_pick (hr.mono (by decide)) (by rfl) T.g__law_pick T.F__law_pick.kp T.B__law_pick .nil pass0 (pa_cons (pv 0) (pa_cons (pv 3) pa_nil))) (pg_sub (pv 4) (pv 2) set_list)))) (pss_one (ps_ret (pv 4))))))))), ?_⟩
  rintro ρ os r os2 ⟨stream_1, rows_2, rfl, rfl, x, s0, h, rfl, rfl⟩
  show Ly.Run K _ [.at 0, .fz (E (rows_2 : (List ((Int × Int) × (Int × Int))))), .un, .un, .un, .un, .un] [.has (E (stream_1 : (LH3 (List Int) Int Int)))] _
  unfold m_law_spoilt at h
  have h0 := obind_some h
  clear h
  obtain ⟨⟨b_6, w_7⟩, h_8, h⟩ := h0
  dsimp only at h
  refine run_seq (run_if (et_or (b := b_6) (os2 := [.has (E (w_7 : (LH3 (List Int) Int Int)))]) (et_test (ev_eqI (ev_lenL (xs := rows_2) (ea_cons (ev_var rfl) ea_nil) rfl) ev_int)) (fun hb_9 => by have h := cond_f hb_9 h_8; have h0 := obind_some h; clear h; obtain ⟨⟨r_3, w_4⟩, h_5, h⟩ := h0; dsimp only at h; have k0 := Option.some.inj h; clear h; have k0p := Prod.mk.inj k0; clear k0; obtain ⟨e0, k1⟩ := k0p; subst e0; subst k1; exact (et_test (ev_eqI (ev_call1 (Rl := R_law_next) (n := 0) (ea_cons (ev_var rfl) (ea_cons ev_int ea_nil)) rfl ⟨stream_1, (3 : Int), rfl, rfl, r_3, w_4, h_5, rfl, rfl⟩) ev_int))) (fun hb_9 => by have h := cond_t hb_9 h_8; have k0 := Option.some.inj h; clear h; have k0p := Prod.mk.inj k0; clear k0; obtain ⟨e0, k1⟩ := k0p; subst e0; subst k1; exact ⟨rfl, rfl⟩)) (fun hb_10 => ?_) (fun hb_10 => ?_))
  · replace h := cond_t hb_10 h
    have h0 := obind_some h
    clear h
    obtain ⟨⟨r_11, w_12⟩, h_13, h⟩ := h0
    dsimp only at h
    have k0 := Option.some.inj h
    clear h
    have k0p := Prod.mk.inj k0
    clear k0
    obtain ⟨e0, k1⟩ := k0p
    subst e0
    subst k1
    exact run_ret (s := .fz (E (r_11 : D))) (ev_call1 (Rl := R_law_pick) (n := 0) (ea_cons (ev_var rfl) (ea_cons (ev_frz (en_new (ds := [E (() : Unit), E ((⟨rows_2⟩ : Tup ((Int × Int) × (Int × Int))) : (Tup ((Int × Int) × (Int × Int)))), E (("" : Str) : Str), E ((0 : Int) : Int), E (true : Bool), E ((⟨[((.inr ("rows" : Str) : L2.Key), rows_2)]⟩ : (Dct (List ((Int × Int) × (Int × Int))))) : (Dct (List ((Int × Int) × (Int × Int))))), E ([(⟨[]⟩ : Tup D)] : (List (Tup D))), E ([()] : (List Unit)), E ([[((1 : Int), (1 : Int)), ((0 : Int), (0 : Int))]] : (List (List (Int × Int)))), E ([(⟨((1 : Int), (1 : Int)), ((0 : Int), (0 : Int)), ((0 : Int), (0 : Int))⟩ : (T3 (Int × Int) (Int × Int) (Int × Int)))] : (List (T3 (Int × Int) (Int × Int) (Int × Int))))]) (ea_cons ev_non (ea_cons (ev_tupL (xs := rows_2) (ea_cons (ev_var rfl) ea_nil) rfl) (ea_cons ev_str (ea_cons ev_int (ea_cons ev_bl (ea_cons (ev_frz (en_disp (ep_cons (k := (.inr ("rows" : Str) : L2.Key)) ev_str (ev_var rfl) ep_nil) (by show 1 ≤ 15; decide))) (ea_cons (ev_frz (en_new (ds := [E ((⟨[]⟩ : Tup D) : (Tup D))]) (ea_cons (ev_tup (ds := []) ea_nil (by show 0 ≤ sizeLine; decide)) ea_nil) (by show 1 ≤ sizeLine; decide))) (ea_cons (ev_frz (en_new (ds := [E (() : Unit)]) (ea_cons ev_non ea_nil) (by show 1 ≤ sizeLine; decide))) (ea_cons (ev_frz (en_new (ds := [E ([((1 : Int), (1 : Int)), ((0 : Int), (0 : Int))] : (List (Int × Int)))]) (ea_cons (ev_frz (en_new (ds := [E (((1 : Int), (1 : Int)) : (Int × Int)), E (((0 : Int), (0 : Int)) : (Int × Int))]) (ea_cons (ev_tup (ds := [E ((1 : Int) : Int), E ((1 : Int) : Int)]) (ea_cons ev_int (ea_cons ev_int ea_nil)) (by show 2 ≤ sizeLine; decide)) (ea_cons (ev_tup (ds := [E ((0 : Int) : Int), E ((0 : Int) : Int)]) (ea_cons ev_int (ea_cons ev_int ea_nil)) (by show 2 ≤ sizeLine; decide)) ea_nil)) (by show 2 ≤ sizeLine; decide))) ea_nil) (by show 1 ≤ sizeLine; decide))) (ea_cons (ev_frz (en_new (ds := [E ((⟨((1 : Int), (1 : Int)), ((0 : Int), (0 : Int)), ((0 : Int), (0 : Int))⟩ : (T3 (Int × Int) (Int × Int) (Int × Int))) : (T3 (Int × Int) (Int × Int) (Int × Int)))]) (ea_cons (ev_tup (ds := [E (((1 : Int), (1 : Int)) : (Int × Int)), E (((0 : Int), (0 : Int)) : (Int × Int)), E (((0 : Int), (0 : Int)) : (Int × Int))]) (ea_cons (ev_tup (ds := [E ((1 : Int) : Int), E ((1 : Int) : Int)]) (ea_cons ev_int (ea_cons ev_int ea_nil)) (by show 2 ≤ sizeLine; decide)) (ea_cons (ev_tup (ds := [E ((0 : Int) : Int), E ((0 : Int) : Int)]) (ea_cons ev_int (ea_cons ev_int ea_nil)) (by show 2 ≤ sizeLine; decide)) (ea_cons (ev_tup (ds := [E ((0 : Int) : Int), E ((0 : Int) : Int)]) (ea_cons ev_int (ea_cons ev_int ea_nil)) (by show 2 ≤ sizeLine; decide)) ea_nil))) (by show 3 ≤ sizeLine; decide)) ea_nil) (by show 1 ≤ sizeLine; decide))) ea_nil)))))))))) (by show 10 ≤ sizeLine; decide))) ea_nil)) rfl ⟨D, inferInstance, w_7, (Sq.l [(E (() : Unit)), (E ((⟨rows_2⟩ : Tup ((Int × Int) × (Int × Int))) : (Tup ((Int × Int) × (Int × Int))))), (E (("" : Str) : Str)), (E ((0 : Int) : Int)), (E (true : Bool)), (E ((⟨[((.inr ("rows" : Str) : L2.Key), rows_2)]⟩ : (Dct (List ((Int × Int) × (Int × Int))))) : (Dct (List ((Int × Int) × (Int × Int)))))), (E ([(⟨[]⟩ : Tup D)] : (List (Tup D)))), (E ([()] : (List Unit))), (E ([[((1 : Int), (1 : Int)), ((0 : Int), (0 : Int))]] : (List (List (Int × Int))))), (E ([(⟨((1 : Int), (1 : Int)), ((0 : Int), (0 : Int)), ((0 : Int), (0 : Int))⟩ : (T3 (Int × Int) (Int × Int) (Int × Int)))] : (List (T3 (Int × Int) (Int × Int) (Int × Int)))))]), rfl, rfl, r_11, w_12, h_13, rfl, rfl⟩) ⟨rfl, (.has .nil)⟩
  · replace h := cond_f hb_10 h
    refine run_next ?_
    have h0 := obind_some h
    clear h
    obtain ⟨⟨r_14, w_15⟩, h_16, h⟩ := h0
    dsimp only at h
    refine run_seq (run_asg (i := 2) (s := .fz (E (r_14 : Int))) (ev_call1 (Rl := R_law_next) (n := 0) (ea_cons (ev_var rfl) (ea_cons (ev_lenL (xs := rows_2) (ea_cons (ev_var rfl) ea_nil) rfl) ea_nil)) rfl ⟨w_7, (rows_2.length : Int), rfl, rfl, r_14, w_15, h_16, rfl, rfl⟩) ?_) 
    have h0 := obind_some h
    clear h
    obtain ⟨t_17, h_18, h⟩ := h0
    refine run_seq (run_asgT (d := .tup [E (t_17.1 : (Int × Int)), E (t_17.2 : (Int × Int))]) (ev_ix (xs := rows_2) (ev_var rfl) (ev_var rfl) rfl h_18) (tgb_tup (tgbs_cons (tgb_name (d := E (t_17.1 : (Int × Int)))) (tgbs_cons (tgb_name (d := E (t_17.2 : (Int × Int)))) tgbs_nil)) rfl) ?_) 
    refine run_seq (run_asg (i := 3) (s := .fz (E (([(E ((⟨t_17.1⟩ : (T1 (Int × Int))) : (T1 (Int × Int)))), (E ((t_17.1, ()) : ((Int × Int) × Unit))), (E ([t_17.1, t_17.2] : (List (Int × Int)))), (E ((⟨t_17.1, t_17.2, t_17.2⟩ : (T3 (Int × Int) (Int × Int) (Int × Int))) : (T3 (Int × Int) (Int × Int) (Int × Int)))), (E (([t_17.1.1, t_17.1.2], t_17.2) : ((List Int) × (Int × Int)))), (E ((t_17.1, [t_17.2.1, t_17.2.2]) : ((Int × Int) × (List Int)))), (E (t_17.1 : (Int × Int))), (E ((t_17.1, (⟨(0 : Int), (0 : Int), (0 : Int)⟩ : (T3 Int Int Int))) : ((Int × Int) × (T3 Int Int Int))))] : (List D)) : (List D)))) (ev_frz (en_new (ds := [E ((⟨t_17.1⟩ : (T1 (Int × Int))) : (T1 (Int × Int))), E ((t_17.1, ()) : ((Int × Int) × Unit)), E ([t_17.1, t_17.2] : (List (Int × Int))), E ((⟨t_17.1, t_17.2, t_17.2⟩ : (T3 (Int × Int) (Int × Int) (Int × Int))) : (T3 (Int × Int) (Int × Int) (Int × Int))), E (([t_17.1.1, t_17.1.2], t_17.2) : ((List Int) × (Int × Int))), E ((t_17.1, [t_17.2.1, t_17.2.2]) : ((Int × Int) × (List Int))), E (t_17.1 : (Int × Int)), E ((t_17.1, (⟨(0 : Int), (0 : Int), (0 : Int)⟩ : (T3 Int Int Int))) : ((Int × Int) × (T3 Int Int Int)))]) (ea_cons (ev_tup (ds := [E (t_17.1 : (Int × Int))]) (ea_cons (ev_var rfl) ea_nil) (by show 1 ≤ sizeLine; decide)) (ea_cons (ev_tup (ds := [E (t_17.1 : (Int × Int)), E (() : Unit)]) (ea_cons (ev_var rfl) (ea_cons ev_non ea_nil)) (by show 2 ≤ sizeLine; decide)) (ea_cons (ev_frz (en_new (ds := [E (t_17.1 : (Int × Int)), E (t_17.2 : (Int × Int))]) (ea_cons (ev_var rfl) (ea_cons (ev_var rfl) ea_nil)) (by show 2 ≤ sizeLine; decide))) (ea_cons (ev_tup (ds := [E (t_17.1 : (Int × Int)), E (t_17.2 : (Int × Int)), E (t_17.2 : (Int × Int))]) (ea_cons (ev_var rfl) (ea_cons (ev_var rfl) (ea_cons (ev_var rfl) ea_nil))) (by show 3 ≤ sizeLine; decide)) (ea_cons (ev_tup (ds := [E ([t_17.1.1, t_17.1.2] : (List Int)), E (t_17.2 : (Int × Int))]) (ea_cons (ev_frz (en_list (ea_cons (ev_var rfl) ea_nil) (.inr rfl))) (ea_cons (ev_var rfl) ea_nil)) (by show 2 ≤ sizeLine; decide)) (ea_cons (ev_tup (ds := [E (t_17.1 : (Int × Int)), E ([t_17.2.1, t_17.2.2] : (List Int))]) (ea_cons (ev_var rfl) (ea_cons (ev_frz (en_list (ea_cons (ev_var rfl) ea_nil) (.inr rfl))) ea_nil)) (by show 2 ≤ sizeLine; decide)) (ea_cons (ev_var rfl) (ea_cons (ev_tup (ds := [E (t_17.1 : (Int × Int)), E ((⟨(0 : Int), (0 : Int), (0 : Int)⟩ : (T3 Int Int Int)) : (T3 Int Int Int))]) (ea_cons (ev_var rfl) (ea_cons (ev_tup (ds := [E ((0 : Int) : Int), E ((0 : Int) : Int), E ((0 : Int) : Int)]) (ea_cons ev_int (ea_cons ev_int (ea_cons ev_int ea_nil))) (by show 3 ≤ sizeLine; decide)) ea_nil)) (by show 2 ≤ sizeLine; decide)) ea_nil)))))))) (by show 8 ≤ sizeLine; decide))) ?_) 
    have h0 := obind_some h
    clear h
    obtain ⟨ys_19, h_20, h⟩ := h0
    refine run_seq (run_asg (i := 3) (s := .fz (E (ys_19 : (List D)))) (ev_frz (en_cat (a := ([(E ((⟨t_17.1⟩ : (T1 (Int × Int))) : (T1 (Int × Int)))), (E ((t_17.1, ()) : ((Int × Int) × Unit))), (E ([t_17.1, t_17.2] : (List (Int × Int)))), (E ((⟨t_17.1, t_17.2, t_17.2⟩ : (T3 (Int × Int) (Int × Int) (Int × Int))) : (T3 (Int × Int) (Int × Int) (Int × Int)))), (E (([t_17.1.1, t_17.1.2], t_17.2) : ((List Int) × (Int × Int)))), (E ((t_17.1, [t_17.2.1, t_17.2.2]) : ((Int × Int) × (List Int)))), (E (t_17.1 : (Int × Int))), (E ((t_17.1, (⟨(0 : Int), (0 : Int), (0 : Int)⟩ : (T3 Int Int Int))) : ((Int × Int) × (T3 Int Int Int))))] : (List D))) (b := [(E ((t_17.1, ((-1 : Int), (1 : Int))) : ((Int × Int) × (Int × Int)))), (E (((t_17.1.1, (-1 : Int)), t_17.2) : ((Int × Int) × (Int × Int)))), (E ((t_17.1, ((0 : Int), true)) : ((Int × Int) × (Int × Bool)))), (E (((t_17.1.1, ("1" : Str)), t_17.2) : ((Int × Str) × (Int × Int)))), (E ((t_17.1, (("0" : Str), (0 : Int))) : ((Int × Int) × (Str × Int)))), (E ((t_17.1, (false, (0 : Int))) : ((Int × Int) × (Bool × Int))))]) (ev_var rfl) (ev_frz (en_new (ds := [E ((t_17.1, ((-1 : Int), (1 : Int))) : ((Int × Int) × (Int × Int))), E (((t_17.1.1, (-1 : Int)), t_17.2) : ((Int × Int) × (Int × Int))), E ((t_17.1, ((0 : Int), true)) : ((Int × Int) × (Int × Bool))), E (((t_17.1.1, ("1" : Str)), t_17.2) : ((Int × Str) × (Int × Int))), E ((t_17.1, (("0" : Str), (0 : Int))) : ((Int × Int) × (Str × Int))), E ((t_17.1, (false, (0 : Int))) : ((Int × Int) × (Bool × Int)))]) (ea_cons (ev_tup (ds := [E (t_17.1 : (Int × Int)), E (((-1 : Int), (1 : Int)) : (Int × Int))]) (ea_cons (ev_var rfl) (ea_cons (ev_tup (ds := [E ((-1 : Int) : Int), E ((1 : Int) : Int)]) (ea_cons (ev_neg ev_int) (ea_cons ev_int ea_nil)) (by show 2 ≤ sizeLine; decide)) ea_nil)) (by show 2 ≤ sizeLine; decide)) (ea_cons (ev_tup (ds := [E ((t_17.1.1, (-1 : Int)) : (Int × Int)), E (t_17.2 : (Int × Int))]) (ea_cons (ev_tup (ds := [E (t_17.1.1 : Int), E ((-1 : Int) : Int)]) (ea_cons (ev_ixT (ds := [E (t_17.1.1 : Int), E (t_17.1.2 : Int)]) (d := E (t_17.1.1 : Int)) (ev_var rfl) ev_int rfl rfl) (ea_cons (ev_neg ev_int) ea_nil)) (by show 2 ≤ sizeLine; decide)) (ea_cons (ev_var rfl) ea_nil)) (by show 2 ≤ sizeLine; decide)) (ea_cons (ev_tup (ds := [E (t_17.1 : (Int × Int)), E (((0 : Int), true) : (Int × Bool))]) (ea_cons (ev_var rfl) (ea_cons (ev_tup (ds := [E ((0 : Int) : Int), E (true : Bool)]) (ea_cons ev_int (ea_cons ev_bl ea_nil)) (by show 2 ≤ sizeLine; decide)) ea_nil)) (by show 2 ≤ sizeLine; decide)) (ea_cons (ev_tup (ds := [E ((t_17.1.1, ("1" : Str)) : (Int × Str)), E (t_17.2 : (Int × Int))]) (ea_cons (ev_tup (ds := [E (t_17.1.1 : Int), E (("1" : Str) : Str)]) (ea_cons (ev_ixT (ds := [E (t_17.1.1 : Int), E (t_17.1.2 : Int)]) (d := E (t_17.1.1 : Int)) (ev_var rfl) ev_int rfl rfl) (ea_cons ev_str ea_nil)) (by show 2 ≤ sizeLine; decide)) (ea_cons (ev_var rfl) ea_nil)) (by show 2 ≤ sizeLine; decide)) (ea_cons (ev_tup (ds := [E (t_17.1 : (Int × Int)), E ((("0" : Str), (0 : Int)) : (Str × Int))]) (ea_cons (ev_var rfl) (ea_cons (ev_tup (ds := [E (("0" : Str) : Str), E ((0 : Int) : Int)]) (ea_cons ev_str (ea_cons ev_int ea_nil)) (by show 2 ≤ sizeLine; decide)) ea_nil)) (by show 2 ≤ sizeLine; decide)) (ea_cons (ev_tup (ds := [E (t_17.1 : (Int × Int)), E ((false, (0 : Int)) : (Bool × Int))]) (ea_cons (ev_var rfl) (ea_cons (ev_tup (ds := [E (false : Bool), E ((0 : Int) : Int)]) (ea_cons ev_bl (ea_cons ev_int ea_nil)) (by show 2 ≤ sizeLine; decide)) ea_nil)) (by show 2 ≤ sizeLine; decide)) ea_nil)))))) (by show 6 ≤ sizeLine; decide))) h_20)) ?_) 
    refine run_seq (run_asgN (i := 4) (d := E ((rows_2.map (E : ((Int × Int) × (Int × Int)) → D)) : (List D))) (en_toD (xs := rows_2) (en_list (ea_cons (ev_var rfl) ea_nil) (.inl rfl))) ?_) 
    have h0 := obind_some h
    clear h
    obtain ⟨⟨r_21, w_22⟩, h_23, h⟩ := h0
    dsimp only at h
    have h0 := obind_some h
    clear h
    obtain ⟨⟨w_25, w_26⟩, h_40, h⟩ := h0
    dsimp only at h
    refine run_join (v := (w_25, w_26)) (fun (⟨w_25, w_26⟩ : (LH3 (List Int) Int Int) × (List D)) => [.at 0, .fz (E (rows_2 : (List ((Int × Int) × (Int × Int))))), .fz (E (r_14 : Int)), .fz (E (ys_19 : (List D))), .at 1, .fz (E (t_17.1 : (Int × Int))), .fz (E (t_17.2 : (Int × Int)))]) (fun (⟨w_25, w_26⟩ : (LH3 (List Int) Int Int) × (List D)) => [.has (E (w_25 : (LH3 (List Int) Int Int))), .has (E (w_26 : (List D)))]) (by show 2 ≤ 2; decide) (run_if (et_test (ev_eqI (ev_call1 (Rl := R_law_next) (n := 0) (ea_cons (ev_var rfl) (ea_cons ev_int ea_nil)) rfl ⟨w_15, (3 : Int), rfl, rfl, r_21, w_22, h_23, rfl, rfl⟩) ev_int)) (fun hb_24 => ?_) (fun hb_24 => ?_)) ?_
    · have h := cond_t hb_24 h_40
      have h0 := obind_some h
      clear h
      obtain ⟨⟨r_27, w_28⟩, h_29, h⟩ := h0
      dsimp only at h
      have h0 := obind_some h
      clear h
      obtain ⟨⟨r_30, w_31⟩, h_32, h⟩ := h0
      dsimp only at h
      have h0 := obind_some h
      clear h
      obtain ⟨found_33, h_34, h⟩ := h0
      refine run_drop (ev_insO (xs := (rows_2.map (E : ((Int × Int) × (Int × Int)) → D))) (x := (E ((t_17.1, r_30) : ((Int × Int) × (Int × Int))))) (ev_var rfl) ⟨_, rfl⟩ (ev_call1 (Rl := R_law_next) (n := 0) (ea_cons (ev_var rfl) (ea_cons (ev_add (ev_lenL (xs := rows_2) (ea_cons (ev_var rfl) ea_nil) rfl) ev_int) ea_nil)) rfl ⟨w_22, ((rows_2.length : Int) + (1 : Int)), rfl, rfl, r_27, w_28, h_29, rfl, rfl⟩) (ev_tup (ds := [E (t_17.1 : (Int × Int)), E (r_30 : (Int × Int))]) (ea_cons (ev_var rfl) (ea_cons (ev_call1 (Rl := R_law_pick) (n := 0) (ea_cons (ev_var rfl) (ea_cons (ev_frz (en_new (ds := [E (t_17.2 : (Int × Int)), E (((0 : Int), (0 : Int)) : (Int × Int)), E (((8000 : Int), (1 : Int)) : (Int × Int))]) (ea_cons (ev_var rfl) (ea_cons (ev_tup (ds := [E ((0 : Int) : Int), E ((0 : Int) : Int)]) (ea_cons ev_int (ea_cons ev_int ea_nil)) (by show 2 ≤ sizeLine; decide)) (ea_cons (ev_tup (ds := [E ((8000 : Int) : Int), E ((1 : Int) : Int)]) (ea_cons ev_int (ea_cons ev_int ea_nil)) (by show 2 ≤ sizeLine; decide)) ea_nil))) (by show 3 ≤ sizeLine; decide))) ea_nil)) rfl ⟨(Int × Int), inferInstance, w_28, (Sq.l [t_17.2, ((0 : Int), (0 : Int)), ((8000 : Int), (1 : Int))]), rfl, rfl, r_30, w_31, h_32, rfl, rfl⟩) ea_nil)) (by show 2 ≤ sizeLine; decide)) rfl h_34) ?_
      have k0 := Option.some.inj h
      clear h
      have k0p := Prod.mk.inj k0
      clear k0
      obtain ⟨e0, k1⟩ := k0p
      subst e0
      subst k1
      exact ⟨(.at (by show 0 < 2; decide) (.fz (.fz (.fz (.at (by show 1 < 2; decide) (.fz (.fz .nil))))))), (.has (.has .nil))⟩
    · have h := cond_f hb_24 h_40
      have h0 := obind_some h
      clear h
      obtain ⟨⟨r_35, w_36⟩, h_37, h⟩ := h0
      dsimp only at h
      have h0 := obind_some h
      clear h
      obtain ⟨found_38, h_39, h⟩ := h0
      refine run_setO (xs := (rows_2.map (E : ((Int × Int) × (Int × Int)) → D))) (x := r_35) (ev_call1 (Rl := R_law_pick) (n := 0) (ea_cons (ev_var rfl) (ea_cons (ev_var rfl) ea_nil)) rfl ⟨D, inferInstance, w_22, (Sq.l ys_19), rfl, rfl, r_35, w_36, h_37, rfl, rfl⟩) (ev_var rfl) (ev_var rfl) rfl h_39 ?_
      have k0 := Option.some.inj h
      clear h
      have k0p := Prod.mk.inj k0
      clear k0
      obtain ⟨e0, k1⟩ := k0p
      subst e0
      subst k1
      exact ⟨(.at (by show 0 < 2; decide) (.fz (.fz (.fz (.at (by show 1 < 2; decide) (.fz (.fz .nil))))))), (.has (.has .nil))⟩
    refine run_still (i := 1) (j := 4) (d := E (w_26 : (List D))) rfl rfl ?_
    have k0 := Option.some.inj h
    clear h
    have k0p := Prod.mk.inj k0
    clear k0
    obtain ⟨e0, k1⟩ := k0p
    subst e0
    subst k1
    exact run_ret (s := .fz (E ((E (w_26 : (List D))) : D))) (ev_var rfl) ⟨rfl, (.has .nil)⟩
theorem ok_law_judged (T : Tx K mg) : FnOk P w K mg base CX0 11 T.a__law_judged T.fd__law_judged ["value", "due"] (spR K R_law_judged) := by
  have G__law_copy := ok_law_copy (P := P) (w := w) (base := base) T 8
  have G__law_same := ok_law_same (P := P) (w := w) (base := base) T 8
  have G_is_ringless := ok_is_ringless (P := P) (w := w) (base := base) T
  refine fn_R (k := 10) T.F__law_judged sc__law_judged (fun ρ os r os2 h => by obtain ⟨value_1, due_2, rfl, rfl, x, h, rfl, rfl⟩ := h; exact ⟨rfl, rfl⟩) fun cdv A outer s H EX hr => ?_
  have nd := sc__law_judged.nd
  refine ⟨_, pss_cons (ps_set (i := 2) nd rfl (Or.inl rfl) (pe_call G__law_copy (hr.mono (by decide)) (by rfl) T.g__law_copy T.F__law_copy.kp T.B__law_copy .nil pass0 (pa_cons (pv 0) pa_nil))) (pss_cons (ps_if (pt_not (pt_val (pe_call G__law_same (hr.mono (by decide)) (by rfl) T.g__law_same T.F__law_same.kp T.B__law_same .nil pass0 (pa_cons (pe_call G_is_ringless (hr.mono (by decide)) (by rfl) T.g_is_ringless T.F_is_ringless.kp T.B_is_ringless .nil pass0 (pa_cons (pv 0) pa_nil)) (pa_cons (pv 1) pa_nil))))) (pss_one (ps_ret (pe_bl))) (pss_nil)) (pss_one (ps_ret (pe_call G__law_same (hr.mono (by decide)) (by rfl) T.g__law_same T.F__law_same.kp T.B__law_same .nil pass0 (pa_cons (pv 0) (pa_cons (pv 2) pa_nil)))))), ?_⟩
  rintro ρ os r os2 ⟨value_1, due_2, rfl, rfl, x, h, rfl, rfl⟩
  show Ly.Run K _ [.fz (E (value_1 : D)), .fz (E (due_2 : Bool)), .un] [] _
  unfold m_law_judged at h
  have h0 := obind_some h
  clear h
  obtain ⟨r_3, h_4, h⟩ := h0
  refine run_seq (run_asg (i := 2) (s := .fz (E (r_3 : D))) (ev_call (Rl := (R_law_copy 8)) (ds := [E (value_1 : D)]) (ea_cons (ev_var rfl) ea_nil) ⟨value_1, rfl, rfl, r_3, h_4, rfl, rfl⟩) ?_) 
  have h0 := obind_some h
  clear h
  obtain ⟨r_5, h_6, h⟩ := h0
  have h0 := obind_some h
  clear h
  obtain ⟨r_7, h_8, h⟩ := h0
  refine run_seq (run_if (et_not (et_B (ev_call (Rl := (R_law_same 8)) (ds := [E ((E (r_5 : Bool)) : D), E ((E (due_2 : Bool)) : D)]) (ea_cons (ev_call (Rl := R_is_ringless) (ds := [E (value_1 : D)]) (ea_cons (ev_var rfl) ea_nil) ⟨value_1, rfl, rfl, r_5, h_6, rfl, rfl⟩) (ea_cons (ev_var rfl) ea_nil)) ⟨(E (r_5 : Bool)), (E (due_2 : Bool)), rfl, rfl, r_7, h_8, rfl, rfl⟩))) (fun hb_9 => ?_) (fun hb_9 => ?_))
  · replace h := cond_t hb_9 h
    have k0 := Option.some.inj h
    clear h
    subst k0
    exact run_ret (s := .fz (E (false : Bool))) ev_bl ⟨rfl, .nil⟩
  · replace h := cond_f hb_9 h
    refine run_next ?_
    have h0 := obind_some h
    clear h
    obtain ⟨r_10, h_11, h⟩ := h0
    have k0 := Option.some.inj h
    clear h
    subst k0
    exact run_ret (s := .fz (E (r_10 : Bool))) (ev_call (Rl := (R_law_same 8)) (ds := [E (value_1 : D), E (r_3 : D)]) (ea_cons (ev_var rfl) (ea_cons (ev_var rfl) ea_nil)) ⟨value_1, r_3, rfl, rfl, r_10, h_11, rfl, rfl⟩) ⟨rfl, .nil⟩
theorem ok_law (T : Tx K mg) : FnOk P w K mg base CX0 12 T.a_law T.fd_law ["script"] (spR K R_law) := by
  have G__law_stream := ok_law_stream (P := P) (w := w) (base := base) T
  have G__law_next := ok_law_next (P := P) (w := w) (base := base) T
  have G__law_from := ok_law_from (P := P) (w := w) (base := base) T
  have G__law_pick := ok_law_pick (P := P) (w := w) (base := base) T
  have G__law_table := ok_law_table (P := P) (w := w) (base := base) T
  have G__law_judged := ok_law_judged (P := P) (w := w) (base := base) T
  have G__law_shuffled := ok_law_shuffled (P := P) (w := w) (base := base) T
  have G__law_spoilt := ok_law_spoilt (P := P) (w := w) (base := base) T
  have G__law_closed := ok_law_closed (P := P) (w := w) (base := base) T
  refine fn_R (k := 11) T.F_law sc_law (fun ρ os r os2 h => by obtain ⟨script_1, rfl, rfl, x, h, rfl, rfl⟩ := h; exact ⟨rfl, rfl⟩) fun cdv A outer s H EX hr => ?_
  have nd := sc_law.nd
  refine ⟨_, pss_cons (ps_set (i := 1) nd rfl (Or.inl rfl) (pe_call G__law_stream (hr.mono (by decide)) (by rfl) T.g__law_stream T.F__law_stream.kp T.B__law_stream .nil pass0 (pa_cons (pv 0) pa_nil))) (pss_cons (ps_set (i := 2) nd rfl (Or.inl rfl) (pe_cmpR op_eq (pe_call G__law_next (hr.mono (by decide)) (by rfl) T.g__law_next T.F__law_next.kp T.B__law_next .nil pass0 (pa_cons (pv 1) (pa_cons (pe_int) pa_nil))) (pe_int) (nomark _))) (pss_cons (ps_set (i := 3) nd rfl (Or.inl rfl) (pe_ifExp (pt_val (pv 2)) (pe_call G__law_from (hr.mono (by decide)) (by rfl) T.g__law_from T.F__law_from.kp T.B__law_from .nil pass0 (pa_cons (pv 1) (pa_cons (pe_int) (pa_cons (pe_int) pa_nil)))) (pe_call G__law_pick (hr.mono (by decide)) (by rfl) T.g__law_pick T.F__law_pick.kp T.B__law_pick .nil pass0 (pa_cons (pv 1) (pa_cons (pe_tup (pa_cons (pe_int) (pa_cons (pe_int) (pa_cons (pe_int) (pa_cons (pe_call G__law_from (hr.mono (by decide)) (by rfl) T.g__law_from T.F__law_from.kp T.B__law_from .nil pass0 (pa_cons (pv 1) (pa_cons (pe_int) (pa_cons (pe_int) pa_nil)))) (pa_cons (pe_call G__law_from (hr.mono (by decide)) (by rfl) T.g__law_from T.F__law_from.kp T.B__law_from .nil pass0 (pa_cons (pv 1) (pa_cons (pe_int) (pa_cons (pe_int) pa_nil)))) pa_nil)))))) pa_nil))))) (pss_cons (ps_set (i := 4) nd rfl (Or.inl rfl) (pe_call G__law_table (hr.mono (by decide)) (by rfl) T.g__law_table T.F__law_table.kp T.B__law_table .nil pass0 (pa_cons (pv 1) (pa_cons (pv 3) pa_nil)))) (pss_cons (ps_if (pt_not (pt_val (pe_call G__law_judged (hr.mono (by decide)) (by rfl) T.g__law_judged T.F__law_judged.kp T.B__law_judged .nil pass0 (pa_cons (pe_call G__law_shuffled (hr.mono (by decide)) (by rfl) T.g__law_shuffled T.F__law_shuffled.kp T.B__law_shuffled .nil pass0 (pa_cons (pv 1) (pa_cons (pv 4) pa_nil))) (pa_cons (pe_bl) pa_nil))))) (pss_one (ps_ret (pe_bl))) (pss_nil)) (pss_cons (ps_if (pt_not (pt_val (pe_call G__law_judged (hr.mono (by decide)) (by rfl) T.g__law_judged T.F__law_judged.kp T.B__law_judged .nil pass0 (pa_cons (pe_call G__law_spoilt (hr.mono (by decide)) (by rfl) T.g__law_spoilt T.F__law_spoilt.kp T.B__law_spoilt .nil pass0 (pa_cons (pv 1) (pa_cons (pe_call G__law_shuffled (hr.mono (by decide)) (by rfl) T.g__law_shuffled T.F__law_shuffled.kp T.B__law_shuffled .nil pass0 (pa_cons (pv 1) (pa_cons (pv 4) pa_nil))) pa_nil))) (pa_cons (pe_bl) pa_nil))))) (pss_one (ps_ret (pe_bl))) (pss_nil)) (pss_cons (ps_for PassesOwn.never rfl (pi_range1 (by rfl) T.b_range (pa_cons (pe_ifExp (pt_cmpR op_gt (pv 3) (pe_int) (nomark _)) (pe_int) (pe_int)) pa_nil)) (pg_name (i := 5) nd rfl (Or.inl rfl)) (pss_cons (ps_asg (pe_call G__law_closed (hr.mono (by decide)) (by rfl) T.g__law_closed T.F__law_closed.kp T.B__law_closed .nil pass0 (pa_cons (pv 1) (pa_cons (pv 4) pa_nil))) (pg_tupK (K := K) rfl rfl (pgs_cons (pg_name (i := 7) nd rfl (Or.inr rfl)) (pgs_cons (pg_name (i := 8) nd rfl (Or.inl rfl)) pgs_nil)))) (pss_cons (ps_if (pt_not (pt_val (pe_call G__law_judged (hr.mono (by decide)) (by rfl) T.g__law_judged T.F__law_judged.kp T.B__law_judged .nil pass0 (pa_cons (pe_call G__law_shuffled (hr.mono (by decide)) (by rfl) T.g__law_shuffled T.F__law_shuffled.kp T.B__law_shuffled .nil pass0 (pa_cons (pv 1) (pa_cons (pv 7) pa_nil))) (pa_cons (pe_bl) pa_nil))))) (pss_one (ps_ret (pe_bl))) (pss_nil)) (pss_cons (ps_set (i := 6) nd rfl (Or.inr rfl) (pe_call G__law_pick (hr.mono (by decide)) (by rfl) T.g__law_pick T.F__law_pick.kp T.B__law_pick .nil pass0 (pa_cons (pv 1) (pa_cons (pv 8) pa_nil)))) (pss_one (ps_if (pt_not (pt_val (pe_call G__law_judged (hr.mono (by decide)) (by rfl) T.g__law_judged T.F__law_judged.kp T.B__law_judged .nil pass0 (pa_cons (pe_call G__law_shuffled (hr.mono (by decide)) (by rfl) T.g__law_shuffled T.F__law_shuffled.kp T.B__law_shuffled .nil pass0 (pa_cons (pv 1) (pa_cons (pe_lc (own := [("at", 9)]) rfl nd (pi_range1 (by rfl) T.b_range (pa_cons (pv 3) pa_nil)) (blkOk_by (own := [("at", 9)]) (N := ["script", "stream", "great", "many", "rows", "turn", "gone", "wrong", "ring", "at"]) (sc := defScope s_law) (by decide +kernel)) (fun _ _ _ _ _ => pg_name (i := 9) nd rfl (Or.inl rfl)) (fun _ _ _ _ _ => pts_one (pt_cmpR op_ne (pv 9) (pv 6) (nomark _))) (fun _ _ _ _ _ => pe_ix (ix_listK (K := K) rfl) (pv 7) (pv 9) (fun _ _ => rfl))) pa_nil))) (pa_cons (pe_bl) pa_nil))))) (pss_one (ps_ret (pe_bl))) (pss_nil))))))) (pss_one (ps_ret (pe_bl))))))))), ?_⟩
  rintro ρ os r os2 ⟨script_1, rfl, rfl, x, h, rfl, rfl⟩
  show Ly.Run K _ [.fz (E (script_1 : (List Int))), .un, .un, .un, .un, .un, .un, .un, .un, .un] [] _
  unfold m_law at h
  have h0 := obind_some h
  clear h
  obtain ⟨r_2, h_3, h⟩ := h0
  refine run_seq (run_asgN (i := 1) (d := E (r_2 : (LH3 (List Int) Int Int))) (en_call (Rl := R_law_stream) (ds := [E (script_1 : (List Int))]) (ea_cons (ev_var rfl) ea_nil) ⟨script_1, rfl, rfl, r_2, h_3, rfl, rfl⟩) ?_) 
  have h0 := obind_some h
  clear h
  obtain ⟨⟨r_4, w_5⟩, h_6, h⟩ := h0
  dsimp only at h
  refine run_seq (run_asg (i := 2) (s := .fz (E ((decide (r_4 = (29 : Int))) : Bool))) (ev_eqI (ev_call1 (Rl := R_law_next) (n := 0) (ea_cons (ev_var rfl) (ea_cons ev_int ea_nil)) rfl ⟨r_2, (30 : Int), rfl, rfl, r_4, w_5, h_6, rfl, rfl⟩) ev_int) ?_) 
  have h0 := obind_some h
  clear h
  obtain ⟨⟨v_19, w_20⟩, h_21, h⟩ := h0
  dsimp only at h
  refine run_seq (run_asg (i := 3) (s := .fz (E (v_19 : Int))) (ev_if (s := .fz (E (v_19 : Int))) (os2 := [.has (E (w_20 : (LH3 (List Int) Int Int)))]) (et_B (ev_var rfl)) (fun hb_22 => by have h := cond_t hb_22 h_21; have h0 := obind_some h; clear h; obtain ⟨⟨r_7, w_8⟩, h_9, h⟩ := h0; dsimp only at h; have k0 := Option.some.inj h; clear h; have k0p := Prod.mk.inj k0; clear k0; obtain ⟨e0, k1⟩ := k0p; subst e0; subst k1; exact (ev_call1 (Rl := R_law_from) (n := 0) (ea_cons (ev_var rfl) (ea_cons ev_int (ea_cons ev_int ea_nil))) rfl ⟨w_5, (800 : Int), (1500 : Int), rfl, rfl, r_7, w_8, h_9, rfl, rfl⟩)) (fun hb_22 => by have h := cond_f hb_22 h_21; have h0 := obind_some h; clear h; obtain ⟨⟨r_10, w_11⟩, h_12, h⟩ := h0; dsimp only at h; have h0 := obind_some h; clear h; obtain ⟨⟨r_13, w_14⟩, h_15, h⟩ := h0; dsimp only at h; have h0 := obind_some h; clear h; obtain ⟨⟨r_16, w_17⟩, h_18, h⟩ := h0; dsimp only at h; have k0 := Option.some.inj h; clear h; have k0p := Prod.mk.inj k0; clear k0; obtain ⟨e0, k1⟩ := k0p; subst e0; subst k1; exact (ev_call1 (Rl := R_law_pick) (n := 0) (ea_cons (ev_var rfl) (ea_cons (ev_tup (ds := [E ((0 : Int) : Int), E ((1 : Int) : Int), E ((2 : Int) : Int), E (r_10 : Int), E (r_13 : Int)]) (ea_cons ev_int (ea_cons ev_int (ea_cons ev_int (ea_cons (ev_call1 (Rl := R_law_from) (n := 0) (ea_cons (ev_var rfl) (ea_cons ev_int (ea_cons ev_int ea_nil))) rfl ⟨w_5, (3 : Int), (40 : Int), rfl, rfl, r_10, w_11, h_12, rfl, rfl⟩) (ea_cons (ev_call1 (Rl := R_law_from) (n := 0) (ea_cons (ev_var rfl) (ea_cons ev_int (ea_cons ev_int ea_nil))) rfl ⟨w_11, (3 : Int), (12 : Int), rfl, rfl, r_13, w_14, h_15, rfl, rfl⟩) ea_nil))))) (by show 5 ≤ sizeLine; decide)) ea_nil)) rfl ⟨Int, inferInstance, w_14, (Sq.t [(⟨(0 : Int), (1 : Int), (2 : Int), r_10, r_13⟩ : (T5 Int Int Int Int Int)).a, (⟨(0 : Int), (1 : Int), (2 : Int), r_10, r_13⟩ : (T5 Int Int Int Int Int)).b, (⟨(0 : Int), (1 : Int), (2 : Int), r_10, r_13⟩ : (T5 Int Int Int Int Int)).c, (⟨(0 : Int), (1 : Int), (2 : Int), r_10, r_13⟩ : (T5 Int Int Int Int Int)).d, (⟨(0 : Int), (1 : Int), (2 : Int), r_10, r_13⟩ : (T5 Int Int Int Int Int)).e]), rfl, rfl, r_16, w_17, h_18, rfl, rfl⟩))) ?_) 
  have h0 := obind_some h
  clear h
  obtain ⟨⟨r_23, w_24⟩, h_25, h⟩ := h0
  dsimp only at h
  refine run_seq (run_asg (i := 4) (s := .fz (E (r_23 : (List ((Int × Int) × (Int × Int)))))) (ev_frz (en_call1 (Rl := R_law_table) (n := 0) (ea_cons (ev_var rfl) (ea_cons (ev_var rfl) ea_nil)) rfl ⟨w_20, v_19, rfl, rfl, r_23, w_24, h_25, rfl, rfl⟩)) ?_) 
  have h0 := obind_some h
  clear h
  obtain ⟨⟨r_26, w_27⟩, h_28, h⟩ := h0
  dsimp only at h
  have h0 := obind_some h
  clear h
  obtain ⟨r_29, h_30, h⟩ := h0
  refine run_seq (run_if (et_not (et_B (ev_call (Rl := R_law_judged) (ds := [E ((E (r_26 : (List ((Int × Int) × (Int × Int))))) : D), E (true : Bool)]) (ea_cons (ev_frz (en_call1 (Rl := R_law_shuffled) (n := 0) (ea_cons (ev_var rfl) (ea_cons (ev_var rfl) ea_nil)) rfl ⟨((Int × Int) × (Int × Int)), inferInstance, w_24, r_23, rfl, rfl, r_26, w_27, h_28, rfl, rfl⟩)) (ea_cons ev_bl ea_nil)) ⟨(E (r_26 : (List ((Int × Int) × (Int × Int))))), true, rfl, rfl, r_29, h_30, rfl, rfl⟩))) (fun hb_31 => ?_) (fun hb_31 => ?_))
  · replace h := cond_t hb_31 h
    have k0 := Option.some.inj h
    clear h
    subst k0
    exact run_ret (s := .fz (E (false : Bool))) ev_bl ⟨rfl, .nil⟩
  · replace h := cond_f hb_31 h
    refine run_next ?_
    have h0 := obind_some h
    clear h
    obtain ⟨⟨r_32, w_33⟩, h_34, h⟩ := h0
    dsimp only at h
    have h0 := obind_some h
    clear h
    obtain ⟨⟨r_35, w_36⟩, h_37, h⟩ := h0
    dsimp only at h
    have h0 := obind_some h
    clear h
    obtain ⟨r_38, h_39, h⟩ := h0
    refine run_seq (run_if (et_not (et_B (ev_call (Rl := R_law_judged) (ds := [E (r_35 : D), E (false : Bool)]) (ea_cons (ev_call1 (Rl := R_law_spoilt) (n := 0) (ea_cons (ev_var rfl) (ea_cons (ev_frz (en_call1 (Rl := R_law_shuffled) (n := 0) (ea_cons (ev_var rfl) (ea_cons (ev_var rfl) ea_nil)) rfl ⟨((Int × Int) × (Int × Int)), inferInstance, w_27, r_23, rfl, rfl, r_32, w_33, h_34, rfl, rfl⟩)) ea_nil)) rfl ⟨w_33, r_32, rfl, rfl, r_35, w_36, h_37, rfl, rfl⟩) (ea_cons ev_bl ea_nil)) ⟨r_35, false, rfl, rfl, r_38, h_39, rfl, rfl⟩))) (fun hb_40 => ?_) (fun hb_40 => ?_))
    · replace h := cond_t hb_40 h
      have k0 := Option.some.inj h
      clear h
      subst k0
      exact run_ret (s := .fz (E (false : Bool))) ev_bl ⟨rfl, .nil⟩
    · replace h := cond_f hb_40 h
      refine run_next ?_
      have h0 := obind_some h
      clear h
      obtain ⟨rg_41, h_42, h⟩ := h0
      have h0 := obind_some h
      clear h
      obtain ⟨c_73, h_74, h⟩ := h0
      show Ly.Run _ _ [.fz (E (script_1 : (List Int))), .at 0, .fz (E ((decide (r_4 = (29 : Int))) : Bool)), .fz (E (v_19 : Int)), .fz (E (r_23 : (List ((Int × Int) × (Int × Int))))), .un, .un, .un, .un, .un] [.has (E (w_36 : (LH3 (List Int) Int Int)))] _
      refine run_seq (run_for (fun (s_43 : (LH3 (List Int) Int Int)) => [.fz (E (script_1 : (List Int))), .at 0, .fz (E ((decide (r_4 = (29 : Int))) : Bool)), .fz (E (v_19 : Int)), .fz (E (r_23 : (List ((Int × Int) × (Int × Int))))), .un, .un, .un, .un, .un]) (fun (s_43 : (LH3 (List Int) Int Int)) => [.has (E (s_43 : (LH3 (List Int) Int Int)))]) (fun (x : Bool) sl os2 => RetP 0 [] (.fz (E (x : Bool))) sl os2) (src_rng1O (ea_cons (ev_ifP (α := Int) (et_test (ev_gt (ev_var rfl) ev_int)) ev_int ev_int) ea_nil) h_42) h_74 (by exact ⟨(.fz (.at (by show 0 < 1; decide) (.fz (.fz (.fz (.un (.un (.un (.un (.un .nil)))))))))), (.has .nil)⟩) (fun _ => rfl) ?_ ?_ ?_)
      · rintro turn_44 s_43 c hx h
        dsimp only [m_law_l1] at h
        refine ⟨_, _, tgb_name, ?_⟩
        have h0 := obind_some h
        clear h
        obtain ⟨⟨r_45, w_46⟩, h_47, h⟩ := h0
        dsimp only at h
        refine run_seq (run_asgT (d := .tup [E (r_45.1 : (List ((Int × Int) × (Int × Int)))), E (r_45.2 : (List Int))]) (ev_call1 (Rl := R_law_closed) (n := 0) (ea_cons (ev_var rfl) (ea_cons (ev_var rfl) ea_nil)) rfl ⟨s_43, r_23, rfl, rfl, r_45, w_46, h_47, rfl, rfl⟩) (tgb_tup (tgbs_cons (tgb_name (d := E (r_45.1 : (List ((Int × Int) × (Int × Int)))))) (tgbs_cons (tgb_name (d := E (r_45.2 : (List Int)))) tgbs_nil)) rfl) ?_) 
        have h0 := obind_some h
        clear h
        obtain ⟨⟨r_48, w_49⟩, h_50, h⟩ := h0
        dsimp only at h
        have h0 := obind_some h
        clear h
        obtain ⟨r_51, h_52, h⟩ := h0
        refine run_seq (run_if (et_not (et_B (ev_call (Rl := R_law_judged) (ds := [E ((E (r_48 : (List ((Int × Int) × (Int × Int))))) : D), E (false : Bool)]) (ea_cons (ev_frz (en_call1 (Rl := R_law_shuffled) (n := 0) (ea_cons (ev_var rfl) (ea_cons (ev_var rfl) ea_nil)) rfl ⟨((Int × Int) × (Int × Int)), inferInstance, w_46, r_45.1, rfl, rfl, r_48, w_49, h_50, rfl, rfl⟩)) (ea_cons ev_bl ea_nil)) ⟨(E (r_48 : (List ((Int × Int) × (Int × Int))))), false, rfl, rfl, r_51, h_52, rfl, rfl⟩))) (fun hb_53 => ?_) (fun hb_53 => ?_))
        · replace h := cond_t hb_53 h
          cases h
          exact run_ret (s := .fz (E (false : Bool))) ev_bl ⟨_, rfl, ⟨rfl, .nil⟩⟩
        · replace h := cond_f hb_53 h
          refine run_next ?_
          have h0 := obind_some h
          clear h
          obtain ⟨⟨r_54, w_55⟩, h_56, h⟩ := h0
          dsimp only at h
          refine run_seq (run_asg (i := 6) (s := .fz (E (r_54 : Int))) (ev_call1 (Rl := R_law_pick) (n := 0) (ea_cons (ev_var rfl) (ea_cons (ev_var rfl) ea_nil)) rfl ⟨Int, inferInstance, w_49, (Sq.l r_45.2), rfl, rfl, r_54, w_55, h_56, rfl, rfl⟩) ?_) 
          have h0 := obind_some h
          clear h
          obtain ⟨rg_57, h_58, h⟩ := h0
          have h0 := obind_some h
          clear h
          obtain ⟨⟨ys_62, u_63⟩, h_64, h⟩ := h0
          dsimp only at h
          have h0 := obind_some h
          clear h
          obtain ⟨⟨r_66, w_67⟩, h_68, h⟩ := h0
          dsimp only at h
          have h0 := obind_some h
          clear h
          obtain ⟨r_69, h_70, h⟩ := h0
          refine run_if (et_not (et_B (ev_call (Rl := R_law_judged) (ds := [E ((E (r_66 : (List ((Int × Int) × (Int × Int))))) : D), E (true : Bool)]) (ea_cons (ev_frz (en_call1 (Rl := R_law_shuffled) (n := 0) (ea_cons (ev_var rfl) (ea_cons (ev_frz (en_lc (osh := fun (_ : Unit) => [.has (E (w_55 : (LH3 (List Int) Int Int)))]) (src_rng1O (ea_cons (ev_var rfl) ea_nil) h_58) h_64 rfl (by
      rintro at_59 _u y s2 hx h
      dsimp only [m_law_c1] at h
      refine ⟨_, _, tgb_name, by decide, _, _, (et_test (ev_neI (ev_var rfl) (ev_var rfl))), fun hb_65 => ?_, fun hb_65 => ?_⟩
      · have h := cond_t hb_65 h; have h0 := obind_some h; clear h; obtain ⟨t_60, h_61, h⟩ := h0; have k0 := Option.some.inj h; clear h; have k0p := Prod.mk.inj k0; clear k0; obtain ⟨e0, k1⟩ := k0p; subst e0; subst k1; exact ⟨_, rfl, (ev_ix (xs := r_45.1) (ev_var rfl) (ev_var rfl) rfl h_61)⟩
      · have h := cond_f hb_65 h; cases h; exact ⟨rfl, rfl⟩))) ea_nil)) rfl ⟨((Int × Int) × (Int × Int)), inferInstance, w_55, ys_62, rfl, rfl, r_66, w_67, h_68, rfl, rfl⟩)) (ea_cons ev_bl ea_nil)) ⟨(E (r_66 : (List ((Int × Int) × (Int × Int))))), true, rfl, rfl, r_69, h_70, rfl, rfl⟩))) (fun hb_71 => ?_) (fun hb_71 => ?_)
          · replace h := cond_t hb_71 h
            cases h
            exact run_ret (s := .fz (E (false : Bool))) ev_bl ⟨_, rfl, ⟨rfl, .nil⟩⟩
          · replace h := cond_f hb_71 h
            refine run_next ?_
            cases h
            exact ⟨_, rfl, ⟨(.fz (.at (by show 0 < 1; decide) (.fz (.fz (.fz (.un (.un (.un (.un (.un .nil)))))))))), (.has .nil)⟩⟩
      · rintro w_72 hc
        subst hc
        dsimp only [ctl] at h
        have k0 := Option.some.inj h
        clear h
        subst k0
        exact run_ret (s := .fz (E (true : Bool))) ev_bl ⟨rfl, .nil⟩
      · rintro r_75 hc sl os2 hR
        subst hc
        dsimp only [ctl] at h
        have k0 := Option.some.inj h
        clear h
        subst k0
        exact hR
end
end K24

set_option Elab.async false
set_option linter.all false
set_option autoImplicit false
set_option maxRecDepth 100000
set_option maxHeartbeats 4000000
namespace K24
open PySem PySem.Spec PyProof.Rows L2 Ly
theorem law_fn {P : Program} {w : World} {K : PySem.W.Frag} {mg : Str → Option Value} {base : Heap} (T : Tx K mg) : FnOk P w K mg base CX0 12 T.a_law T.fd_law ["script"] (spLaw K) :=
  (ok_law T).imp (spLaw_R (m := m_law) (fun ns h => law_ok ns h) fun ns h => ⟨ns, rfl, rfl, true, h, rfl, rfl⟩)
theorem all_mk {l : PySem.W.OpenLaw} {w : World} {K : PySem.W.Frag} {h : Heap} {mg : Str → Option Value} {fa : Addr} (X : K.In h) (G : h.Ns mainGlobals mg) (hfa : mg "law" = some (.ref fa))
    {f0 : Addr} {od0 an0 : Option Addr} {sl0 : Array (Option Value)} {oc0 kV0 dc0 pm0 cd0 ct0 : Value}
    (a0 : PySem.W.nsIn K mainGlobals "is_pair" = some (some (.ref f0))) (l0 : K.lookup f0 = some ⟨oc0, od0, .func (PySem.W.fnOf "is_pair" "is_pair" (defArgs s_is_pair) (defBody s_is_pair) (defScope s_is_pair) .none kV0 dc0 pm0 an0 cd0 ct0), sl0⟩) (c0 : PySem.W.codeIn K cd0 "is_pair" = true) (k0 : PySem.W.keepIn K (.ref f0) = true)
    {f1 : Addr} {od1 an1 : Option Addr} {sl1 : Array (Option Value)} {oc1 kV1 dc1 pm1 cd1 ct1 : Value}
    (a1 : PySem.W.nsIn K mainGlobals "is_row" = some (some (.ref f1))) (l1 : K.lookup f1 = some ⟨oc1, od1, .func (PySem.W.fnOf "is_row" "is_row" (defArgs s_is_row) (defBody s_is_row) (defScope s_is_row) .none kV1 dc1 pm1 an1 cd1 ct1), sl1⟩) (c1 : PySem.W.codeIn K cd1 "is_row" = true) (k1 : PySem.W.keepIn K (.ref f1) = true)
    {f2 : Addr} {od2 an2 : Option Addr} {sl2 : Array (Option Value)} {oc2 kV2 dc2 pm2 cd2 ct2 : Value}
    (a2 : PySem.W.nsIn K mainGlobals "is_ringless" = some (some (.ref f2))) (l2 : K.lookup f2 = some ⟨oc2, od2, .func (PySem.W.fnOf "is_ringless" "is_ringless" (defArgs s_is_ringless) (defBody s_is_ringless) (defScope s_is_ringless) .none kV2 dc2 pm2 an2 cd2 ct2), sl2⟩) (c2 : PySem.W.codeIn K cd2 "is_ringless" = true) (k2 : PySem.W.keepIn K (.ref f2) = true)
    {f3 : Addr} {od3 an3 : Option Addr} {sl3 : Array (Option Value)} {oc3 kV3 dc3 pm3 cd3 ct3 : Value}
    (a3 : PySem.W.nsIn K mainGlobals "_law_stream" = some (some (.ref f3))) (l3 : K.lookup f3 = some ⟨oc3, od3, .func (PySem.W.fnOf "_law_stream" "_law_stream" (defArgs s__law_stream) (defBody s__law_stream) (defScope s__law_stream) .none kV3 dc3 pm3 an3 cd3 ct3), sl3⟩) (c3 : PySem.W.codeIn K cd3 "_law_stream" = true) (k3 : PySem.W.keepIn K (.ref f3) = true)
    {f4 : Addr} {od4 an4 : Option Addr} {sl4 : Array (Option Value)} {oc4 kV4 dc4 pm4 cd4 ct4 : Value}
    (a4 : PySem.W.nsIn K mainGlobals "_law_next" = some (some (.ref f4))) (l4 : K.lookup f4 = some ⟨oc4, od4, .func (PySem.W.fnOf "_law_next" "_law_next" (defArgs s__law_next) (defBody s__law_next) (defScope s__law_next) .none kV4 dc4 pm4 an4 cd4 ct4), sl4⟩) (c4 : PySem.W.codeIn K cd4 "_law_next" = true) (k4 : PySem.W.keepIn K (.ref f4) = true)
    {f5 : Addr} {od5 an5 : Option Addr} {sl5 : Array (Option Value)} {oc5 kV5 dc5 pm5 cd5 ct5 : Value}
    (a5 : PySem.W.nsIn K mainGlobals "_law_pick" = some (some (.ref f5))) (l5 : K.lookup f5 = some ⟨oc5, od5, .func (PySem.W.fnOf "_law_pick" "_law_pick" (defArgs s__law_pick) (defBody s__law_pick) (defScope s__law_pick) .none kV5 dc5 pm5 an5 cd5 ct5), sl5⟩) (c5 : PySem.W.codeIn K cd5 "_law_pick" = true) (k5 : PySem.W.keepIn K (.ref f5) = true)
    {f6 : Addr} {od6 an6 : Option Addr} {sl6 : Array (Option Value)} {oc6 kV6 dc6 pm6 cd6 ct6 : Value}
    (a6 : PySem.W.nsIn K mainGlobals "_law_from" = some (some (.ref f6))) (l6 : K.lookup f6 = some ⟨oc6, od6, .func (PySem.W.fnOf "_law_from" "_law_from" (defArgs s__law_from) (defBody s__law_from) (defScope s__law_from) .none kV6 dc6 pm6 an6 cd6 ct6), sl6⟩) (c6 : PySem.W.codeIn K cd6 "_law_from" = true) (k6 : PySem.W.keepIn K (.ref f6) = true)
    {f7 : Addr} {od7 an7 : Option Addr} {sl7 : Array (Option Value)} {oc7 kV7 dc7 pm7 cd7 ct7 : Value}
    (a7 : PySem.W.nsIn K mainGlobals "_law_shuffled" = some (some (.ref f7))) (l7 : K.lookup f7 = some ⟨oc7, od7, .func (PySem.W.fnOf "_law_shuffled" "_law_shuffled" (defArgs s__law_shuffled) (defBody s__law_shuffled) (defScope s__law_shuffled) .none kV7 dc7 pm7 an7 cd7 ct7), sl7⟩) (c7 : PySem.W.codeIn K cd7 "_law_shuffled" = true) (k7 : PySem.W.keepIn K (.ref f7) = true)
    {f8 : Addr} {od8 an8 : Option Addr} {sl8 : Array (Option Value)} {oc8 kV8 dc8 pm8 cd8 ct8 : Value}
    (a8 : PySem.W.nsIn K mainGlobals "_law_is_row" = some (some (.ref f8))) (l8 : K.lookup f8 = some ⟨oc8, od8, .func (PySem.W.fnOf "_law_is_row" "_law_is_row" (defArgs s__law_is_row) (defBody s__law_is_row) (defScope s__law_is_row) .none kV8 dc8 pm8 an8 cd8 ct8), sl8⟩) (c8 : PySem.W.codeIn K cd8 "_law_is_row" = true) (k8 : PySem.W.keepIn K (.ref f8) = true)
    {f9 : Addr} {od9 an9 : Option Addr} {sl9 : Array (Option Value)} {oc9 kV9 dc9 pm9 cd9 ct9 : Value}
    (a9 : PySem.W.nsIn K mainGlobals "_law_same" = some (some (.ref f9))) (l9 : K.lookup f9 = some ⟨oc9, od9, .func (PySem.W.fnOf "_law_same" "_law_same" (defArgs s__law_same) (defBody s__law_same) (defScope s__law_same) .none kV9 dc9 pm9 an9 cd9 ct9), sl9⟩) (c9 : PySem.W.codeIn K cd9 "_law_same" = true) (k9 : PySem.W.keepIn K (.ref f9) = true)
    {f10 : Addr} {od10 an10 : Option Addr} {sl10 : Array (Option Value)} {oc10 kV10 dc10 pm10 cd10 ct10 : Value}
    (a10 : PySem.W.nsIn K mainGlobals "_law_copy" = some (some (.ref f10))) (l10 : K.lookup f10 = some ⟨oc10, od10, .func (PySem.W.fnOf "_law_copy" "_law_copy" (defArgs s__law_copy) (defBody s__law_copy) (defScope s__law_copy) .none kV10 dc10 pm10 an10 cd10 ct10), sl10⟩) (c10 : PySem.W.codeIn K cd10 "_law_copy" = true) (k10 : PySem.W.keepIn K (.ref f10) = true)
    {f11 : Addr} {od11 an11 : Option Addr} {sl11 : Array (Option Value)} {oc11 kV11 dc11 pm11 cd11 ct11 : Value}
    (a11 : PySem.W.nsIn K mainGlobals "_law_table" = some (some (.ref f11))) (l11 : K.lookup f11 = some ⟨oc11, od11, .func (PySem.W.fnOf "_law_table" "_law_table" (defArgs s__law_table) (defBody s__law_table) (defScope s__law_table) .none kV11 dc11 pm11 an11 cd11 ct11), sl11⟩) (c11 : PySem.W.codeIn K cd11 "_law_table" = true) (k11 : PySem.W.keepIn K (.ref f11) = true)
    {f12 : Addr} {od12 an12 : Option Addr} {sl12 : Array (Option Value)} {oc12 kV12 dc12 pm12 cd12 ct12 : Value}
    (a12 : PySem.W.nsIn K mainGlobals "_law_closed" = some (some (.ref f12))) (l12 : K.lookup f12 = some ⟨oc12, od12, .func (PySem.W.fnOf "_law_closed" "_law_closed" (defArgs s__law_closed) (defBody s__law_closed) (defScope s__law_closed) .none kV12 dc12 pm12 an12 cd12 ct12), sl12⟩) (c12 : PySem.W.codeIn K cd12 "_law_closed" = true) (k12 : PySem.W.keepIn K (.ref f12) = true)
    {f13 : Addr} {od13 an13 : Option Addr} {sl13 : Array (Option Value)} {oc13 kV13 dc13 pm13 cd13 ct13 : Value}
    (a13 : PySem.W.nsIn K mainGlobals "_law_spoilt" = some (some (.ref f13))) (l13 : K.lookup f13 = some ⟨oc13, od13, .func (PySem.W.fnOf "_law_spoilt" "_law_spoilt" (defArgs s__law_spoilt) (defBody s__law_spoilt) (defScope s__law_spoilt) .none kV13 dc13 pm13 an13 cd13 ct13), sl13⟩) (c13 : PySem.W.codeIn K cd13 "_law_spoilt" = true) (k13 : PySem.W.keepIn K (.ref f13) = true)
    {f14 : Addr} {od14 an14 : Option Addr} {sl14 : Array (Option Value)} {oc14 kV14 dc14 pm14 cd14 ct14 : Value}
    (a14 : PySem.W.nsIn K mainGlobals "_law_judged" = some (some (.ref f14))) (l14 : K.lookup f14 = some ⟨oc14, od14, .func (PySem.W.fnOf "_law_judged" "_law_judged" (defArgs s__law_judged) (defBody s__law_judged) (defScope s__law_judged) .none kV14 dc14 pm14 an14 cd14 ct14), sl14⟩) (c14 : PySem.W.codeIn K cd14 "_law_judged" = true) (k14 : PySem.W.keepIn K (.ref f14) = true)
    {f15 : Addr} {od15 an15 : Option Addr} {sl15 : Array (Option Value)} {oc15 kV15 dc15 pm15 cd15 ct15 : Value}
    (a15 : PySem.W.nsIn K mainGlobals "law" = some (some (.ref f15))) (l15 : K.lookup f15 = some ⟨oc15, od15, .func (PySem.W.fnOf "law" "law" (defArgs s_law) (defBody s_law) (defScope s_law) .none kV15 dc15 pm15 an15 cd15 ct15), sl15⟩) (c15 : PySem.W.codeIn K cd15 "law" = true) (k15 : PySem.W.keepIn K (.ref f15) = true)
    (z_abs : PySem.W.nsIn K mainGlobals "abs" = some none)
    (z_all : PySem.W.nsIn K mainGlobals "all" = some none)
    (z_bool : PySem.W.nsIn K mainGlobals "bool" = some none)
    (z_dict : PySem.W.nsIn K mainGlobals "dict" = some none)
    (z_int : PySem.W.nsIn K mainGlobals "int" = some none)
    (z_isinstance : PySem.W.nsIn K mainGlobals "isinstance" = some none)
    (z_len : PySem.W.nsIn K mainGlobals "len" = some none)
    (z_list : PySem.W.nsIn K mainGlobals "list" = some none)
    (z_max : PySem.W.nsIn K mainGlobals "max" = some none)
    (z_min : PySem.W.nsIn K mainGlobals "min" = some none)
    (z_range : PySem.W.nsIn K mainGlobals "range" = some none)
    (z_str : PySem.W.nsIn K mainGlobals "str" = some none)
    (z_tuple : PySem.W.nsIn K mainGlobals "tuple" = some none)
    : ∃ fd : FuncData, (∀ (s : Shared) (v : Value), BindsTo s fd ⟨[v], []⟩ [("script", v)]) ∧ ∀ base : Heap, K.In base → base.Ns mainGlobals mg → FnOk l.prog w K mg base CX0 12 fa fd ["script"] (spLaw K) := by
  have e := hfa.symm.trans (PySem.W.mg_of X G a15)
  cases e
  have F0 := fun_mk (st := s_is_pair) l0 c0 k0
  have b0 := F0.binds (ps := ["value"]) fun _ _ _ _ _ _ us hl => match us, hl with | [_], _ => rfl
  have F1 := fun_mk (st := s_is_row) l1 c1 k1
  have b1 := F1.binds (ps := ["value"]) fun _ _ _ _ _ _ us hl => match us, hl with | [_], _ => rfl
  have F2 := fun_mk (st := s_is_ringless) l2 c2 k2
  have b2 := F2.binds (ps := ["rows"]) fun _ _ _ _ _ _ us hl => match us, hl with | [_], _ => rfl
  have F3 := fun_mk (st := s__law_stream) l3 c3 k3
  have b3 := F3.binds (ps := ["script"]) fun _ _ _ _ _ _ us hl => match us, hl with | [_], _ => rfl
  have F4 := fun_mk (st := s__law_next) l4 c4 k4
  have b4 := F4.binds (ps := ["stream", "many"]) fun _ _ _ _ _ _ us hl => match us, hl with | [_, _], _ => rfl
  have F5 := fun_mk (st := s__law_pick) l5 c5 k5
  have b5 := F5.binds (ps := ["stream", "rows"]) fun _ _ _ _ _ _ us hl => match us, hl with | [_, _], _ => rfl
  have F6 := fun_mk (st := s__law_from) l6 c6 k6
  have b6 := F6.binds (ps := ["stream", "low", "high"]) fun _ _ _ _ _ _ us hl => match us, hl with | [_, _, _], _ => rfl
  have F7 := fun_mk (st := s__law_shuffled) l7 c7 k7
  have b7 := F7.binds (ps := ["stream", "rows"]) fun _ _ _ _ _ _ us hl => match us, hl with | [_, _], _ => rfl
  have F8 := fun_mk (st := s__law_is_row) l8 c8 k8
  have b8 := F8.binds (ps := ["value", "kind", "many"]) fun _ _ _ _ _ _ us hl => match us, hl with | [_, _, _], _ => rfl
  have F9 := fun_mk (st := s__law_same) l9 c9 k9
  have b9 := F9.binds (ps := ["actual", "due"]) fun _ _ _ _ _ _ us hl => match us, hl with | [_, _], _ => rfl
  have F10 := fun_mk (st := s__law_copy) l10 c10 k10
  have b10 := F10.binds (ps := ["value"]) fun _ _ _ _ _ _ us hl => match us, hl with | [_], _ => rfl
  have F11 := fun_mk (st := s__law_table) l11 c11 k11
  have b11 := F11.binds (ps := ["stream", "many"]) fun _ _ _ _ _ _ us hl => match us, hl with | [_, _], _ => rfl
  have F12 := fun_mk (st := s__law_closed) l12 c12 k12
  have b12 := F12.binds (ps := ["stream", "rows"]) fun _ _ _ _ _ _ us hl => match us, hl with | [_, _], _ => rfl
  have F13 := fun_mk (st := s__law_spoilt) l13 c13 k13
  have b13 := F13.binds (ps := ["stream", "rows"]) fun _ _ _ _ _ _ us hl => match us, hl with | [_, _], _ => rfl
  have F14 := fun_mk (st := s__law_judged) l14 c14 k14
  have b14 := F14.binds (ps := ["value", "due"]) fun _ _ _ _ _ _ us hl => match us, hl with | [_, _], _ => rfl
  have F15 := fun_mk (st := s_law) l15 c15 k15
  have b15 := F15.binds (ps := ["script"]) fun _ _ _ _ _ _ us hl => match us, hl with | [_], _ => rfl
  exact ⟨_, fun s v => .of_eq rfl, fun base _ _ => law_fn (⟨_, _, F0, PySem.W.mg_of X G a0, b0, _, _, F1, PySem.W.mg_of X G a1, b1, _, _, F2, PySem.W.mg_of X G a2, b2, _, _, F3, PySem.W.mg_of X G a3, b3, _, _, F4, PySem.W.mg_of X G a4, b4, _, _, F5, PySem.W.mg_of X G a5, b5, _, _, F6, PySem.W.mg_of X G a6, b6, _, _, F7, PySem.W.mg_of X G a7, b7, _, _, F8, PySem.W.mg_of X G a8, b8, _, _, F9, PySem.W.mg_of X G a9, b9, _, _, F10, PySem.W.mg_of X G a10, b10, _, _, F11, PySem.W.mg_of X G a11, b11, _, _, F12, PySem.W.mg_of X G a12, b12, _, _, F13, PySem.W.mg_of X G a13, b13, _, _, F14, PySem.W.mg_of X G a14, b14, _, _, F15, PySem.W.mg_of X G a15, b15, PySem.W.mg_none_of X G z_abs, PySem.W.mg_none_of X G z_all, PySem.W.mg_none_of X G z_bool, PySem.W.mg_none_of X G z_dict, PySem.W.mg_none_of X G z_int, PySem.W.mg_none_of X G z_isinstance, PySem.W.mg_none_of X G z_len, PySem.W.mg_none_of X G z_list, PySem.W.mg_none_of X G z_max, PySem.W.mg_none_of X G z_min, PySem.W.mg_none_of X G z_range, PySem.W.mg_none_of X G z_str, PySem.W.mg_none_of X G z_tuple⟩ : Tx K mg)⟩
end K24
open PySem PySem.W PyProof.Rows
set_option maxHeartbeats 0 in
theorem PySem.Challenge.cw_togetherapart_k24_tables_without_a_ring_holds : PySem.Challenge.rw_togetherapart_k24_tables_without_a_ring.Holds := by
  w_on; o_law; k_head; (case hw => w_witness2)
  k_fill
  refine L2.walk_of (l := PySem.Challenge.rw_togetherapart_k24_tables_without_a_ring) (n := 63) (k := 12) (x := "script") (CX := fun _ => L2.CX0) (sp := fun w => Ly.spLaw _) rfl (by decide) rfl ⟨rfl, by decide, by decide⟩ (fun w h Y => PySem.W.kIn_of Y) ?F (fun _ _ a ns hl _ hS => ⟨a, ns, rfl, hS, hl, fun _ => rfl⟩) (fun _ _ _ _ _ h => h)
  case F =>
    intro w mg fa h KX G hmg
    refine' K24.all_mk KX G hmg ?a0 ?l0 ?c0 ?k0 ?a1 ?l1 ?c1 ?k1 ?a2 ?l2 ?c2 ?k2 ?a3 ?l3 ?c3 ?k3 ?a4 ?l4 ?c4 ?k4 ?a5 ?l5 ?c5 ?k5 ?a6 ?l6 ?c6 ?k6 ?a7 ?l7 ?c7 ?k7 ?a8 ?l8 ?c8 ?k8 ?a9 ?l9 ?c9 ?k9 ?a10 ?l10 ?c10 ?k10 ?a11 ?l11 ?c11 ?k11 ?a12 ?l12 ?c12 ?k12 ?a13 ?l13 ?c13 ?k13 ?a14 ?l14 ?c14 ?k14 ?a15 ?l15 ?c15 ?k15 ?z_abs ?z_all ?z_bool ?z_dict ?z_int ?z_isinstance ?z_len ?z_list ?z_max ?z_min ?z_range ?z_str ?z_tuple
    (case a0 => k_is)
    (case l0 => k_is)
    (case c0 => k_is)
    (case k0 => k_is)
    (case a1 => k_is)
    (case l1 => k_is)
    (case c1 => k_is)
    (case k1 => k_is)
    (case a2 => k_is)
    (case l2 => k_is)
    (case c2 => k_is)
    (case k2 => k_is)
    (case a3 => k_is)
    (case l3 => k_is)
    (case c3 => k_is)
    (case k3 => k_is)
    (case a4 => k_is)
    (case l4 => k_is)
    (case c4 => k_is)
    (case k4 => k_is)
    (case a5 => k_is)
    (case l5 => k_is)
    (case c5 => k_is)
    (case k5 => k_is)
    (case a6 => k_is)
    (case l6 => k_is)
    (case c6 => k_is)
    (case k6 => k_is)
    (case a7 => k_is)
    (case l7 => k_is)
    (case c7 => k_is)
    (case k7 => k_is)
    (case a8 => k_is)
    (case l8 => k_is)
    (case c8 => k_is)
    (case k8 => k_is)
    (case a9 => k_is)
    (case l9 => k_is)
    (case c9 => k_is)
    (case k9 => k_is)
    (case a10 => k_is)
    (case l10 => k_is)
    (case c10 => k_is)
    (case k10 => k_is)
    (case a11 => k_is)
    (case l11 => k_is)
    (case c11 => k_is)
    (case k11 => k_is)
    (case a12 => k_is)
    (case l12 => k_is)
    (case c12 => k_is)
    (case k12 => k_is)
    (case a13 => k_is)
    (case l13 => k_is)
    (case c13 => k_is)
    (case k13 => k_is)
    (case a14 => k_is)
    (case l14 => k_is)
    (case c14 => k_is)
    (case k14 => k_is)
    (case a15 => k_is)
    (case l15 => k_is)
    (case c15 => k_is)
    (case k15 => k_is)
    (case z_abs => k_is)
    (case z_all => k_is)
    (case z_bool => k_is)
    (case z_dict => k_is)
    (case z_int => k_is)
    (case z_isinstance => k_is)
    (case z_len => k_is)
    (case z_list => k_is)
    (case z_max => k_is)
    (case z_min => k_is)
    (case z_range => k_is)
    (case z_str => k_is)
    (case z_tuple => k_is)
