import PyProof.Rows.All
import Wide.All
import OpenK.AllK
import Wide.FinOn
import HandS.ForMost
import HandS.Walk
import HandS.Wide
import HandS.IsInst
import HandS.TupAny
import HandS.TupLen
import HandS.WordsExc
import HandS.ExcCtx
import HandS.More
import HandS.DictComp
import KE.KDictCopyH
import KE.DatumOrd
import KE.DatumIndex
import KE.DatumMore
import KE.DatumMoreOrd
import HandS.ExcInit
import HandS.ExcOwn
import HandS.HotCalls
import KE.KExcIs
import HandS.ExcField
import HandS.MapJoin
import KE.SortData
import HandS.SortKw
import HandS.ExcInitHot
import HandS.Conv
import PySem.Challenge.RW_togetherapart_k65_the_kept_row
set_option Elab.async false
set_option linter.all false
set_option autoImplicit false
set_option maxRecDepth 100000
set_option maxHeartbeats 4000000
/-! Lay1: data values, what they stand for, the abstract machine state. -/
namespace Ly
open PySem L2

/-- data, deep -/
inductive D where
  | non | bl (b : Bool) | int (i : Int) | str (x : Str) | lst (xs : List D) | tup (xs : List D)
  | dct (kvs : List (Key × D)) | dctT (kvs : List (List Key × D)) | adr (a : Addr) | ty (n : String)
  | exc (a dd : Addr) (ns : List Str) (xs : List D)

def scal : D → Bool
  | .non | .bl _ | .int _ | .str _ | .ty _ => true
  | _ => false

mutual
inductive Rp (K : PySem.W.Frag) (F : Hp) : V → D → Prop
  | non : Rp K F .non .non
  | bl (b : Bool) : Rp K F (.bl b) (.bl b)
  | int (i : Int) : Rp K F (.int i) (.int i)
  | str (x : Str) : Rp K F (.str x) (.str x)
  | ty (n : String) : Rp K F (.ty n) (.ty n)
  | lst {a : Addr} {xs : List V} {ds : List D} : SqL K F a xs → RpL K F xs ds → Rp K F (.ref a) (.lst ds)
  | tup {a : Addr} {xs : List V} {ds : List D} : F a = some (.tup xs) → RpL K F xs ds → Rp K F (.ref a) (.tup ds)
  | dct {a : Addr} {kvs : List (Key × V)} {ds : List (Key × D)} : Rd F a (.dK kvs) → RpK K F kvs ds → Rp K F (.ref a) (.dct ds)
  | dctT {a : Addr} {kvs : List (List Key × V)} {ds : List (List Key × D)} : Rd F a (.dT kvs) → RpT K F kvs ds → Rp K F (.ref a) (.dctT ds)
  | adr (a : Addr) : Rp K F (.ref a) (.adr a)
  | exc {a dd : Addr} {ns : List Str} {xs : List V} {ds : List D} : F dd = some (.xd (ns.zip xs)) → RpL K F xs ds → Rp K F (.ref a) (.exc a dd ns ds)
inductive RpL (K : PySem.W.Frag) (F : Hp) : List V → List D → Prop
  | nil : RpL K F [] []
  | cons {v : V} {vs : List V} {d : D} {ds : List D} : Rp K F v d → RpL K F vs ds → RpL K F (v :: vs) (d :: ds)
inductive RpK (K : PySem.W.Frag) (F : Hp) : List (Key × V) → List (Key × D) → Prop
  | nil : RpK K F [] []
  | cons {k : Key} {v : V} {vs : List (Key × V)} {d : D} {ds : List (Key × D)} : Rp K F v d → RpK K F vs ds → RpK K F ((k, v) :: vs) ((k, d) :: ds)
inductive RpT (K : PySem.W.Frag) (F : Hp) : List (List Key × V) → List (List Key × D) → Prop
  | nil : RpT K F [] []
  | cons {k : List Key} {v : V} {vs : List (List Key × V)} {d : D} {ds : List (List Key × D)} : Rp K F v d → RpT K F vs ds → RpT K F ((k, v) :: vs) ((k, d) :: ds)
end

/-- all of the one stands in the other -/
def Ex (F G : Hp) : Prop := ∀ a o, F a = some o → G a = some o
theorem Ex.refl (F : Hp) : Ex F F := fun _ _ h => h
theorem Ex.trans {F G I : Hp} (a : Ex F G) (b : Ex G I) : Ex F I := fun x o h => b x o (a x o h)
theorem Ex.new {F : Hp} {p : Addr} {o : HO} (h : F p = none) : Ex F (upd F p o) := fun a u e => by
  rw [upd_ne (ne_of_none e h)]; exact e
theorem Ex.rd {F G : Hp} {a : Addr} {u : HO} (e : Ex F G) (h : Rd F a u) : Rd G a u := by
  rcases h with h | ⟨o, h⟩
  · exact .inl (e _ _ h)
  · exact .inr ⟨o, e _ _ h⟩
theorem Ex.sqL {K : PySem.W.Frag} {F G : Hp} {a : Addr} {xs : List V} (e : Ex F G) (h : SqL K F a xs) : SqL K G a xs := by
  rcases h with h | h
  · exact .inl (e.rd h)
  · exact .inr h
theorem Ex.sqT {K : PySem.W.Frag} {F G : Hp} {a : Addr} {xs : List V} (e : Ex F G) (h : SqT K F a xs) : SqT K G a xs := by
  rcases h with h | h
  · exact .inl (e.rd h)
  · exact .inr h

/-- what is read of the one is read of the other, locked or not -/
def nf : HO → Bool
  | .frz _ _ => false
  | _ => true
def Lk (F G : Hp) : Prop := (∀ a u, nf u = true → Rd F a u → Rd G a u) ∧ (∀ a xs, F a = some (.tup xs) → G a = some (.tup xs)) ∧ ∀ a fs, F a = some (.xd fs) → G a = some (.xd fs)
theorem Ex.lk {F G : Hp} (e : Ex F G) : Lk F G := ⟨fun a u _ h => e.rd h, fun a xs h => e _ _ h, fun a fs h => e _ _ h⟩

mutual
theorem Rp.lk {K : PySem.W.Frag} {F G : Hp} (e : Lk F G) : ∀ {d : D} {v : V}, Rp K F v d → Rp K G v d
  | .non, _, .non => .non
  | .bl _, _, .bl b => .bl b
  | .int _, _, .int i => .int i
  | .str _, _, .str x => .str x
  | .ty _, _, .ty n => .ty n
  | .lst ds, _, .lst h r => .lst (by
      rcases h with h | h
      · exact .inl (e.1 _ _ rfl h)
      · exact .inr h) (RpL.lk e r)
  | .tup ds, _, .tup h r => .tup (e.2.1 _ _ h) (RpL.lk e r)
  | .dct ds, _, .dct h r => .dct (e.1 _ _ rfl h) (RpK.lk e r)
  | .dctT ds, _, .dctT h r => .dctT (e.1 _ _ rfl h) (RpT.lk e r)
  | .adr _, _, .adr a => .adr a
  | .exc _ _ _ _, _, .exc h r => .exc (e.2.2 _ _ h) (RpL.lk e r)
theorem RpL.lk {K : PySem.W.Frag} {F G : Hp} (e : Lk F G) : ∀ {ds : List D} {vs : List V}, RpL K F vs ds → RpL K G vs ds
  | [], _, .nil => .nil
  | _ :: _, _, .cons h r => .cons (Rp.lk e h) (RpL.lk e r)
theorem RpK.lk {K : PySem.W.Frag} {F G : Hp} (e : Lk F G) : ∀ {ds : List (Key × D)} {vs : List (Key × V)}, RpK K F vs ds → RpK K G vs ds
  | [], _, .nil => .nil
  | _ :: _, _, .cons h r => .cons (Rp.lk e h) (RpK.lk e r)
theorem RpT.lk {K : PySem.W.Frag} {F G : Hp} (e : Lk F G) : ∀ {ds : List (List Key × D)} {vs : List (List Key × V)}, RpT K F vs ds → RpT K G vs ds
  | [], _, .nil => .nil
  | _ :: _, _, .cons h r => .cons (Rp.lk e h) (RpT.lk e r)
end
section
variable {K : PySem.W.Frag} {F G : Hp}
theorem Rp.up (e : Ex F G) {d : D} {v : V} (h : Rp K F v d) : Rp K G v d := Rp.lk e.lk h
theorem RpL.up (e : Ex F G) {ds : List D} {vs : List V} (h : RpL K F vs ds) : RpL K G vs ds := RpL.lk e.lk h
theorem RpK.up (e : Ex F G) {ds : List (Key × D)} {vs : List (Key × V)} (h : RpK K F vs ds) : RpK K G vs ds := RpK.lk e.lk h
theorem RpT.up (e : Ex F G) {ds : List (List Key × D)} {vs : List (List Key × V)} (h : RpT K F vs ds) : RpT K G vs ds := RpT.lk e.lk h
theorem RpL.length : ∀ {ds : List D} {vs : List V}, RpL K F vs ds → vs.length = ds.length
  | [], _, .nil => rfl
  | _ :: _, _, .cons _ r => congrArg (· + 1) r.length
theorem RpK.length : ∀ {ds : List (Key × D)} {vs : List (Key × V)}, RpK K F vs ds → vs.length = ds.length
  | [], _, .nil => rfl
  | _ :: _, _, .cons _ r => congrArg (· + 1) r.length
theorem RpT.length : ∀ {ds : List (List Key × D)} {vs : List (List Key × V)}, RpT K F vs ds → vs.length = ds.length
  | [], _, .nil => rfl
  | _ :: _, _, .cons _ r => congrArg (· + 1) r.length
theorem RpL.get : ∀ {ds : List D} {vs : List V} {i : Nat} {d : D}, RpL K F vs ds → ds[i]? = some d → ∃ v, vs[i]? = some v ∧ Rp K F v d
  | [], _, _, _, .nil, h => by simp at h
  | _ :: _, _, 0, _, .cons h _, e => by
    simp at e; subst e; exact ⟨_, rfl, h⟩
  | _ :: _, _, i + 1, _, .cons _ r, e => by
    obtain ⟨v, h1, h2⟩ := RpL.get r (i := i) (by simpa using e)
    exact ⟨v, by simpa using h1, h2⟩
theorem RpL.getV : ∀ {ds : List D} {vs : List V} {i : Nat} {v : V}, RpL K F vs ds → vs[i]? = some v → ∃ d, ds[i]? = some d ∧ Rp K F v d
  | [], _, _, _, .nil, h => by simp at h
  | _ :: _, _, 0, _, .cons h _, e => by
    simp at e; subst e; exact ⟨_, rfl, h⟩
  | _ :: _, _, i + 1, _, .cons _ r, e => by
    obtain ⟨v, h1, h2⟩ := RpL.getV r (i := i) (by simpa using e)
    exact ⟨v, by simpa using h1, h2⟩
theorem RpL.app : ∀ {ds es : List D} {vs ws : List V}, RpL K F vs ds → RpL K F ws es → RpL K F (vs ++ ws) (ds ++ es)
  | [], _, _, _, .nil, s => s
  | _ :: _, _, _, _, .cons h r, s => .cons h (RpL.app r s)
theorem RpL.set {d : D} {v : V} (h : Rp K F v d) : ∀ {ds : List D} {vs : List V} (i : Nat), RpL K F vs ds → RpL K F (vs.set i v) (ds.set i d)
  | [], _, _, .nil => .nil
  | _ :: _, _, 0, .cons _ r => .cons h r
  | _ :: _, _, i + 1, .cons q r => .cons q (RpL.set h i r)
theorem RpL.take : ∀ {ds : List D} {vs : List V} (n : Nat), RpL K F vs ds → RpL K F (vs.take n) (ds.take n)
  | _, _, 0, _ => .nil
  | [], _, _ + 1, .nil => .nil
  | _ :: _, _, n + 1, .cons h r => .cons h (RpL.take n r)
theorem RpL.drop : ∀ {ds : List D} {vs : List V} (n : Nat), RpL K F vs ds → RpL K F (vs.drop n) (ds.drop n)
  | _, _, 0, r => r
  | [], _, _ + 1, .nil => .nil
  | _ :: _, _, n + 1, .cons _ r => RpL.drop n r
theorem RpL.eraseIdx : ∀ {ds : List D} {vs : List V} (n : Nat), RpL K F vs ds → RpL K F (vs.eraseIdx n) (ds.eraseIdx n)
  | [], _, _, .nil => .nil
  | _ :: _, _, 0, .cons _ r => r
  | _ :: _, _, n + 1, .cons h r => .cons h (RpL.eraseIdx n r)
theorem RpL.dropLast : ∀ {ds : List D} {vs : List V}, RpL K F vs ds → RpL K F vs.dropLast ds.dropLast
  | [], _, .nil => .nil
  | [_], _, .cons _ .nil => .nil
  | _ :: _ :: _, _, .cons h (.cons q r) => .cons h (RpL.dropLast (.cons q r))
theorem RpL.rev : ∀ {ds : List D} {vs : List V}, RpL K F vs ds → RpL K F vs.reverse ds.reverse
  | [], _, .nil => .nil
  | _ :: _, _, .cons h r => by
    rw [List.reverse_cons, List.reverse_cons]
    exact (RpL.rev r).app (.cons h .nil)
theorem RpL.rep {d : D} {v : V} (h : Rp K F v d) : ∀ n, RpL K F (List.replicate n v) (List.replicate n d)
  | 0 => .nil
  | n + 1 => .cons h (RpL.rep h n)
theorem rpl_ints : ∀ (ns : List Int), RpL K F (ns.map V.int) (ns.map D.int)
  | [] => .nil
  | n :: ns => .cons (.int n) (rpl_ints ns)
theorem of_rpl_ints : ∀ {ns : List Int} {vs : List V}, RpL K F vs (ns.map D.int) → vs = ns.map V.int
  | [], _, .nil => rfl
  | n :: ns, _, .cons h r => by
    cases h
    exact congrArg (_ :: ·) (of_rpl_ints r)
theorem of_rpl_bls : ∀ {ns : List Bool} {vs : List V}, RpL K F vs (ns.map D.bl) → vs = ns.map V.bl
  | [], _, .nil => rfl
  | n :: ns, _, .cons h r => by
    cases h
    exact congrArg (_ :: ·) (of_rpl_bls r)
theorem of_rpl_strs : ∀ {ns : List Str} {vs : List V}, RpL K F vs (ns.map D.str) → vs = ns.map V.str
  | [], _, .nil => rfl
  | n :: ns, _, .cons h r => by
    cases h
    exact congrArg (_ :: ·) (of_rpl_strs r)
theorem RpK.val : ∀ {ds : List (Key × D)} {vs : List (Key × V)} (k : Key), RpK K F vs ds →
    (∃ v d, valV vs k = some v ∧ (ds.find? fun kv => decide (kv.1 = k)).map (·.2) = some d ∧ Rp K F v d) ∨ (valV vs k = none ∧ (ds.find? fun kv => decide (kv.1 = k)).map (·.2) = none)
  | [], _, k, .nil => .inr ⟨rfl, rfl⟩
  | (k', d) :: ds, _, k, @RpK.cons _ _ _ v vs _ _ h r => by
    unfold valV
    by_cases e : k' = k
    · refine .inl ⟨v, d, ?_, ?_, h⟩ <;> simp [List.find?_cons, e]
    · have ih := RpK.val k r
      unfold valV at ih
      simpa [List.find?_cons, e] using ih
theorem RpT.val : ∀ {ds : List (List Key × D)} {vs : List (List Key × V)} (k : List Key), RpT K F vs ds →
    (∃ v d, valV vs k = some v ∧ (ds.find? fun kv => decide (kv.1 = k)).map (·.2) = some d ∧ Rp K F v d) ∨ (valV vs k = none ∧ (ds.find? fun kv => decide (kv.1 = k)).map (·.2) = none)
  | [], _, k, .nil => .inr ⟨rfl, rfl⟩
  | (k', d) :: ds, _, k, @RpT.cons _ _ _ v vs _ _ h r => by
    unfold valV
    by_cases e : k' = k
    · refine .inl ⟨v, d, ?_, ?_, h⟩ <;> simp [List.find?_cons, e]
    · have ih := RpT.val k r
      unfold valV at ih
      simpa [List.find?_cons, e] using ih
/-- a scalar is the same wherever -/
theorem Rp.scal {d : D} {v : V} (h : Rp K F v d) (s : scal d = true) : Rp K G v d := by
  cases h with
  | non => exact .non
  | bl b => exact .bl b
  | int i => exact .int i
  | str x => exact .str x
  | ty n => exact .ty n
  | lst _ _ => cases s
  | tup _ _ => cases s
  | dct _ _ => cases s
  | dctT _ _ => cases s
  | adr _ => cases s
  | exc _ _ => cases s
end

/-- what an object of one's own holds -/
inductive ObjR (K : PySem.W.Frag) (F : Hp) : HO → D → Prop
  | lst {xs : List V} {ds : List D} : RpL K F xs ds → ObjR K F (.lst xs) (.lst ds)
  | dct {kvs : List (Key × V)} {ds : List (Key × D)} : RpK K F kvs ds → ObjR K F (.dK kvs) (.dct ds)
  | dctT {kvs : List (List Key × V)} {ds : List (List Key × D)} : RpT K F kvs ds → ObjR K F (.dT kvs) (.dctT ds)
theorem ObjR.up {K : PySem.W.Frag} {F G : Hp} (e : Ex F G) {o : HO} {d : D} : ObjR K F o d → ObjR K G o d
  | .lst r => .lst (r.up e)
  | .dct r => .dct (r.up e)
  | .dctT r => .dctT (r.up e)
theorem ObjR.lk {K : PySem.W.Frag} {F G : Hp} (e : Lk F G) {o : HO} {d : D} : ObjR K F o d → ObjR K G o d
  | .lst r => .lst (r.lk e)
  | .dct r => .dct (r.lk e)
  | .dctT r => .dctT (r.lk e)
theorem ObjR.rp {K : PySem.W.Frag} {F : Hp} {o : HO} {d : D} {p : Addr} (h : ObjR K F o d) (e : F p = some o) : Rp K F (.ref p) d := by
  cases h with
  | lst r => exact .lst (.inl (.inl e)) r
  | dct r => exact .dct (.inl e) r
  | dctT r => exact .dctT (.inl e) r

inductive Sl where
  | un | fz (d : D) | at (i : Nat)
/-- which parts are one's own, too -/
inductive Mk where
  | fz | all (m : Mk) | each (ms : List Mk)
def mks : Mk → Nat → Option (List Mk)
  | .fz, _ => none
  | .all m, n => some (List.replicate n m)
  | .each ms, n => if ms.length = n then some ms else none
inductive Ow where
  | gone | has (d : D) | deep (m : Mk) (d : D)
mutual
/-- v stands for d; what the mask tells is one's own, at the addresses fp, each once -/
inductive Own (K : PySem.W.Frag) (F H : Hp) : Mk → V → D → List Addr → Prop
  | fz {v : V} {d : D} : Rp K F v d → Own K F H .fz v d []
  | lst {m : Mk} {ms : List Mk} {a : Addr} {xs : List V} {ds : List D} {fp : List Addr} : H a = some (.lst xs) → mks m xs.length = some ms → OwnE K F H ms xs ds fp → a ∉ fp → Own K F H m (.ref a) (.lst ds) (a :: fp)
  | tup {m : Mk} {ms : List Mk} {a : Addr} {xs : List V} {ds : List D} {fp : List Addr} : F a = some (.tup xs) → mks m xs.length = some ms → OwnE K F H ms xs ds fp → Own K F H m (.ref a) (.tup ds) fp
  | dct {m : Mk} {ms : List Mk} {a : Addr} {kvs : List (Key × V)} {kds : List (Key × D)} {fp : List Addr} : H a = some (.dK kvs) → mks m kvs.length = some ms → kvs.map (·.1) = kds.map (·.1) → OwnE K F H ms (kvs.map (·.2)) (kds.map (·.2)) fp → a ∉ fp → Own K F H m (.ref a) (.dct kds) (a :: fp)
  | dctT {m : Mk} {ms : List Mk} {a : Addr} {kvs : List (List Key × V)} {kds : List (List Key × D)} {fp : List Addr} : H a = some (.dT kvs) → mks m kvs.length = some ms → kvs.map (·.1) = kds.map (·.1) → OwnE K F H ms (kvs.map (·.2)) (kds.map (·.2)) fp → a ∉ fp → Own K F H m (.ref a) (.dctT kds) (a :: fp)
inductive OwnE (K : PySem.W.Frag) (F H : Hp) : List Mk → List V → List D → List Addr → Prop
  | nil : OwnE K F H [] [] [] []
  | cons {m : Mk} {ms : List Mk} {v : V} {vs : List V} {d : D} {ds : List D} {fp fq : List Addr} : Own K F H m v d fp → OwnE K F H ms vs ds fq → (∀ a ∈ fp, a ∉ fq) → OwnE K F H (m :: ms) (v :: vs) (d :: ds) (fp ++ fq)
end
mutual
theorem Own.tr {K : PySem.W.Frag} {F F' H H' : Hp} (e : Ex F F') : ∀ {m : Mk} {v : V} {d : D} {fp : List Addr}, Own K F H m v d fp → (∀ a ∈ fp, ∀ o, H a = some o → H' a = some o) → Own K F' H' m v d fp
  | _, _, _, _, .fz r, _ => .fz (Rp.up e r)
  | _, _, _, _, .lst h1 h2 h3 h4, k => .lst (k _ (List.mem_cons_self ..) _ h1) h2 (OwnE.tr e h3 fun a ha => k a (List.mem_cons_of_mem _ ha)) h4
  | _, _, _, _, .tup h1 h2 h3, k => .tup (e _ _ h1) h2 (OwnE.tr e h3 k)
  | _, _, _, _, .dct h1 h2 h5 h3 h4, k => .dct (k _ (List.mem_cons_self ..) _ h1) h2 h5 (OwnE.tr e h3 fun a ha => k a (List.mem_cons_of_mem _ ha)) h4
  | _, _, _, _, .dctT h1 h2 h5 h3 h4, k => .dctT (k _ (List.mem_cons_self ..) _ h1) h2 h5 (OwnE.tr e h3 fun a ha => k a (List.mem_cons_of_mem _ ha)) h4
theorem OwnE.tr {K : PySem.W.Frag} {F F' H H' : Hp} (e : Ex F F') : ∀ {ms : List Mk} {vs : List V} {ds : List D} {fp : List Addr}, OwnE K F H ms vs ds fp → (∀ a ∈ fp, ∀ o, H a = some o → H' a = some o) → OwnE K F' H' ms vs ds fp
  | _, _, _, _, .nil, _ => .nil
  | _, _, _, _, .cons h1 h2 h3, k => .cons (Own.tr e h1 fun a ha => k a (List.mem_append_left _ ha)) (OwnE.tr e h2 fun a ha => k a (List.mem_append_right _ ha)) h3
end
mutual
theorem Own.at {K : PySem.W.Frag} {F H : Hp} : ∀ {m : Mk} {v : V} {d : D} {fp : List Addr}, Own K F H m v d fp → ∀ a ∈ fp, ∃ o, H a = some o ∧ ∀ xs, o ≠ .tup xs
  | _, _, _, _, .fz _, a, h => nomatch h
  | _, _, _, _, .lst h1 _ h3 _, a, h => by
    rcases List.mem_cons.mp h with rfl | h
    · exact ⟨_, h1, fun _ z => nomatch z⟩
    · exact OwnE.at h3 a h
  | _, _, _, _, .tup _ _ h3, a, h => OwnE.at h3 a h
  | _, _, _, _, .dct h1 _ _ h3 _, a, h => by
    rcases List.mem_cons.mp h with rfl | h
    · exact ⟨_, h1, fun _ z => nomatch z⟩
    · exact OwnE.at h3 a h
  | _, _, _, _, .dctT h1 _ _ h3 _, a, h => by
    rcases List.mem_cons.mp h with rfl | h
    · exact ⟨_, h1, fun _ z => nomatch z⟩
    · exact OwnE.at h3 a h
theorem OwnE.at {K : PySem.W.Frag} {F H : Hp} : ∀ {ms : List Mk} {vs : List V} {ds : List D} {fp : List Addr}, OwnE K F H ms vs ds fp → ∀ a ∈ fp, ∃ o, H a = some o ∧ ∀ xs, o ≠ .tup xs
  | _, _, _, _, .nil, a, h => nomatch h
  | _, _, _, _, .cons h1 h2 _, a, h => by
    rcases List.mem_append.mp h with h | h
    · exact Own.at h1 a h
    · exact OwnE.at h2 a h
end
/-- what is deep of one's own: free of what stands still, of the callers', of the other roots -/
structure DpW (K : PySem.W.Frag) (F R : Hp) (ps : List Addr) (os : List Ow) (H : Hp) (φ : Nat → List Addr) : Prop where
  ow : ∀ (i : Nat) (p : Addr) (m : Mk) (d : D), ps[i]? = some p → os[i]? = some (Ow.deep m d) → Own K F H m (.ref p) d (φ i)
  fr : ∀ (i : Nat) (p : Addr) (m : Mk) (d : D), ps[i]? = some p → os[i]? = some (Ow.deep m d) → ∀ a ∈ φ i, F a = none ∧ R a = none ∧ ∀ (j : Nat) (q : Addr) (e : D), ps[j]? = some q → os[j]? = some (Ow.has e) → q ≠ a
  dj : ∀ (i j : Nat) (p q : Addr) (m m' : Mk) (d d' : D), i ≠ j → ps[i]? = some p → ps[j]? = some q → os[i]? = some (Ow.deep m d) → os[j]? = some (Ow.deep m' d') → ∀ a ∈ φ i, a ∉ φ j
def Dp (K : PySem.W.Frag) (F R : Hp) (ps : List Addr) (os : List Ow) (H : Hp) : Prop := ∃ φ, DpW K F R ps os H φ
/-- p is in no such part -/
def Av (K : PySem.W.Frag) (F R : Hp) (ps : List Addr) (os : List Ow) (H : Hp) (p : Addr) : Prop := ∃ φ, DpW K F R ps os H φ ∧ ∀ (i : Nat) (q : Addr) (m : Mk) (d : D), ps[i]? = some q → os[i]? = some (Ow.deep m d) → p ∉ φ i
section
variable {K : PySem.W.Frag} {F R F' R' H H' : Hp} {ps ps' : List Addr} {os os' : List Ow} {φ : Nat → List Addr} {p : Addr}
theorem DpW.tr (h : DpW K F R ps os H φ) (e : Ex F F')
    (hd : ∀ (i : Nat) (p : Addr) (m : Mk) (d : D), ps'[i]? = some p → os'[i]? = some (Ow.deep m d) → ps[i]? = some p ∧ os[i]? = some (Ow.deep m d))
    (hk : ∀ (i : Nat) (a : Addr), (∃ q m d, ps[i]? = some q ∧ os[i]? = some (Ow.deep m d)) → a ∈ φ i → F a = none → R a = none → (∃ o, H a = some o ∧ ∀ xs, o ≠ .tup xs) → (∀ (j : Nat) (q : Addr) (e : D), ps[j]? = some q → os[j]? = some (Ow.has e) → q ≠ a) →
      F' a = none ∧ R' a = none ∧ (∀ o, H a = some o → H' a = some o) ∧ ∀ (j : Nat) (q : Addr) (e : D), ps'[j]? = some q → os'[j]? = some (Ow.has e) → q ≠ a) : DpW K F' R' ps' os' H' φ := by
  have g : ∀ (i : Nat) (p : Addr) (m : Mk) (d : D), ps'[i]? = some p → os'[i]? = some (Ow.deep m d) → ∀ a ∈ φ i, F' a = none ∧ R' a = none ∧ (∀ o, H a = some o → H' a = some o) ∧ ∀ (j : Nat) (q : Addr) (e : D), ps'[j]? = some q → os'[j]? = some (Ow.has e) → q ≠ a := fun i p m d a1 a2 a ha => by
    obtain ⟨b1, b2⟩ := hd i p m d a1 a2
    obtain ⟨f, r, q⟩ := h.fr i p m d b1 b2 a ha
    exact hk i a ⟨p, m, d, b1, b2⟩ ha f r (Own.at (h.ow i p m d b1 b2) a ha) q
  refine ⟨fun i p m d a1 a2 => ?_, fun i p m d a1 a2 a ha => ?_, fun i j p q m m' d d' hne a1 a2 a3 a4 => h.dj i j p q m m' d d' hne (hd i p m d a1 a3).1 (hd j q m' d' a2 a4).1 (hd i p m d a1 a3).2 (hd j q m' d' a2 a4).2⟩
  · obtain ⟨b1, b2⟩ := hd i p m d a1 a2
    exact Own.tr e (h.ow i p m d b1 b2) fun a ha => (g i p m d a1 a2 a ha).2.2.1
  · obtain ⟨f, r, _, q⟩ := g i p m d a1 a2 a ha
    exact ⟨f, r, q⟩
theorem Dp.tr (h : Dp K F R ps os H) (e : Ex F F')
    (hd : ∀ (i : Nat) (p : Addr) (m : Mk) (d : D), ps'[i]? = some p → os'[i]? = some (Ow.deep m d) → ps[i]? = some p ∧ os[i]? = some (Ow.deep m d))
    (hk : ∀ a, F a = none → R a = none → (∃ o, H a = some o ∧ ∀ xs, o ≠ .tup xs) → (∀ (j : Nat) (q : Addr) (e : D), ps[j]? = some q → os[j]? = some (Ow.has e) → q ≠ a) →
      F' a = none ∧ R' a = none ∧ (∀ o, H a = some o → H' a = some o) ∧ ∀ (j : Nat) (q : Addr) (e : D), ps'[j]? = some q → os'[j]? = some (Ow.has e) → q ≠ a) : Dp K F' R' ps' os' H' := by
  obtain ⟨φ, h⟩ := h
  exact ⟨φ, h.tr e hd fun i a _ _ => hk a⟩
/-- whoever holds p for the callers' keeps it out -/
theorem Dp.av (h : Dp K F R' ps os H) (hp : R' p ≠ none) (hr : ∀ a, R' a = none → R a = none) : Av K F R ps os H p := by
  obtain ⟨φ, h⟩ := h
  refine ⟨φ, h.tr (Ex.refl F) (fun _ _ _ _ x y => ⟨x, y⟩) fun i a _ _ f r n q => ⟨f, hr a r, fun _ z => z, q⟩, fun i q m d x y hm => hp (h.fr i q m d x y p hm).2.1⟩
theorem Dp.nil : Dp K F R [] [] H := ⟨fun _ => [], fun i p m d h _ => by simp at h, fun i p m d h _ => by simp at h, fun i j p q m m' d d' _ h _ _ _ => by simp at h⟩
theorem Dp.one {d : D} : Dp K F R [p] [.has d] H := ⟨fun _ => [], fun i p m d h h' => by cases i <;> simp at h', fun i p m d h h' => by cases i <;> simp at h', fun i j p q m m' d d' _ h _ h' _ => by cases i <;> simp at h'⟩
end
/-- the heap: F stands still, R is the callers', the rest one's own -/
structure Hst (K : PySem.W.Frag) (F R : Hp) (ps : List Addr) (os : List Ow) (H : Hp) : Prop where
  sub : Ex F H
  oth : ∀ p o, R p = some o → F p = none ∧ H p = some o ∧ ∀ xs, o ≠ .tup xs
  len : ps.length = os.length
  own : ∀ (i : Nat) (p : Addr) (d : D), ps[i]? = some p → os[i]? = some (Ow.has d) → F p = none ∧ R p = none ∧ ∃ o, H p = some o ∧ ObjR K F o d
  dis : ∀ (i j : Nat) (p : Addr), ps[i]? = some p → ps[j]? = some p → (∃ d, os[i]? = some (Ow.has d)) → (∃ d, os[j]? = some (Ow.has d)) → i = j
  dp : Dp K F R ps os H

def SlR (K : PySem.W.Frag) (F : Hp) (ps : List Addr) : Option V → Sl → Prop
  | _, .un => True
  | some v, .fz d => Rp K F v d
  | some v, .at i => ∃ p, ps[i]? = some p ∧ v = .ref p
  | none, _ => False
abbrev Slots (K : PySem.W.Frag) (F : Hp) (ps : List Addr) : L2.St → List Sl → Prop := Paired (SlR K F ps)

structure St (K : PySem.W.Frag) (R F : Hp) (ps : List Addr) (ρ : List Sl) (os : List Ow) (σ : L2.St) (H : Hp) : Prop where
  sl : Slots K F ps σ ρ
  hst : Hst K F R ps os H

theorem SlR.up {K : PySem.W.Frag} {F G : Hp} {ps qs : List Addr} (e : Ex F G) (q : ps <+: qs) : ∀ {ov : Option V} {s : Sl}, SlR K F ps ov s → SlR K G qs ov s
  | _, .un, _ => True.intro
  | some _, .fz _, h => Rp.up e h
  | some _, .at i, ⟨p, h1, h2⟩ => ⟨p, by
      obtain ⟨t, rfl⟩ := q
      rw [List.getElem?_append_left (List.getElem?_eq_some_iff.mp h1).1]; exact h1, h2⟩
  | none, .fz _, h => h
  | none, .at _, h => h
theorem Slots.up {K : PySem.W.Frag} {F G : Hp} {ps qs : List Addr} (e : Ex F G) (q : ps <+: qs) {σ : L2.St} {ρ : List Sl} (h : Slots K F ps σ ρ) : Slots K G qs σ ρ :=
  Paired.mapP h fun _ _ r => SlR.up e q r
theorem Paired.getR {α β : Type} {F : α → β → Prop} : ∀ {l : List α} {m : List β} {i : Nat} {b : β}, Paired F l m → m[i]? = some b → ∃ a, l[i]? = some a ∧ F a b
  | _, _, _, _, .nil, h => by simp at h
  | _, _, 0, _, .cons r _, h => by simp at h; subst h; exact ⟨_, rfl, r⟩
  | _, _, i + 1, _, .cons _ t, h => by
    obtain ⟨a, h1, h2⟩ := Paired.getR t (i := i) (by simpa using h)
    exact ⟨a, by simpa using h1, h2⟩
theorem Paired.setR {α β : Type} {F : α → β → Prop} {a : α} {b : β} (h : F a b) : ∀ {l : List α} {m : List β} (i : Nat), Paired F l m → Paired F (l.set i a) (m.set i b)
  | _, _, _, .nil => .nil
  | _, _, 0, .cons _ t => .cons h t
  | _, _, i + 1, .cons r t => .cons r (Paired.setR h i t)
section
variable {K : PySem.W.Frag} {R F G H : Hp} {ps : List Addr} {ρ : List Sl} {os : List Ow} {σ : L2.St} {p : Addr} {o : HO} {d : D} {v : V}
theorem St.fz (h : St K R F ps ρ os σ H) {i : Nat} (e : ρ[i]? = some (.fz d)) : ∃ v, σ[i]? = some (some v) ∧ Rp K F v d := by
  obtain ⟨a, h1, h2⟩ := Paired.getR h.sl e
  cases a with
  | none => exact h2.elim
  | some v => exact ⟨v, h1, h2⟩
theorem St.at (h : St K R F ps ρ os σ H) {i j : Nat} (e : ρ[i]? = some (.at j)) : ∃ p, σ[i]? = some (some (.ref p)) ∧ ps[j]? = some p := by
  obtain ⟨a, h1, h2⟩ := Paired.getR h.sl e
  cases a with
  | none => exact h2.elim
  | some v =>
    obtain ⟨p, h3, rfl⟩ := h2
    exact ⟨p, h1, h3⟩
/-- a new object that stands still -/
theorem Hst.newF (h : Hst K F R ps os H) (hp : H p = none) : Ex F (upd F p o) ∧ Hst K (upd F p o) R ps os (upd H p o) := by
  have hF : F p = none := by
    cases q : F p with
    | none => rfl
    | some u => rw [h.sub _ _ q] at hp; cases hp
  have e : Ex F (upd F p o) := Ex.new hF
  refine ⟨e, ⟨fun a u q => ?_, fun a u q => ?_, h.len, fun i a d h1 h2 => ?_, h.dis, h.dp.tr e (fun _ _ _ _ x y => ⟨x, y⟩) fun a f r n q => ?_⟩⟩
  rotate_left 3
  · have z : a ≠ p := fun z => by obtain ⟨o', n, _⟩ := n; rw [z, hp] at n; cases n
    rw [upd_ne z, upd_ne z]; exact ⟨f, r, fun _ q => q, q⟩
  · by_cases z : a = p
    · subst z; rw [upd_same] at q ⊢; exact q
    · rw [upd_ne z] at q ⊢; exact h.sub _ _ q
  · obtain ⟨q1, q2, q3⟩ := h.oth a u q
    have z : a ≠ p := ne_of_none q2 hp
    rw [upd_ne z, upd_ne z]; exact ⟨q1, q2, q3⟩
  · obtain ⟨q1, q2, w, q3, q4⟩ := h.own i a d h1 h2
    have z : a ≠ p := ne_of_none q3 hp
    rw [upd_ne z, upd_ne z]; exact ⟨q1, q2, w, q3, q4.up e⟩
theorem St.newF (h : St K R F ps ρ os σ H) (hp : H p = none) : Ex F (upd F p o) ∧ St K R (upd F p o) ps ρ os σ (upd H p o) := by
  obtain ⟨e, q⟩ := h.hst.newF hp (o := o)
  exact ⟨e, ⟨h.sl.up e (List.prefix_refl _), q⟩⟩
/-- a new object of one's own -/
theorem Hst.newO (h : Hst K F R ps os H) (hp : H p = none) (hr : ObjR K F o d) : Hst K F R (ps ++ [p]) (os ++ [Ow.has d]) (upd H p o) := by
  have hF : F p = none := by
    cases q : F p with
    | none => rfl
    | some u => rw [h.sub _ _ q] at hp; cases hp
  have hR : R p = none := by
    cases q : R p with
    | none => rfl
    | some u => rw [(h.oth _ _ q).2.1] at hp; cases hp
  have key : ∀ i a, (ps ++ [p])[i]? = some a → (∃ d, (os ++ [Ow.has d])[i]? = some (Ow.has d)) → (i < ps.length ∧ ps[i]? = some a) ∨ (i = ps.length ∧ a = p) := fun i a h1 _ => by
    by_cases z : i < ps.length
    · rw [List.getElem?_append_left z] at h1; exact .inl ⟨z, h1⟩
    · rw [List.getElem?_append_right (by omega)] at h1
      have : i - ps.length = 0 := by
        have := (List.getElem?_eq_some_iff.mp h1).1
        simp at this; omega
      rw [this] at h1; simp at h1
      exact .inr ⟨by omega, h1.symm⟩
  have app : ∀ {i : Nat} {a : Addr} {w : Ow}, (ps ++ [p])[i]? = some a → (os ++ [Ow.has d])[i]? = some w → (ps[i]? = some a ∧ os[i]? = some w) ∨ (a = p ∧ w = .has d) := fun {i a w} h1 h2 => by
    by_cases z : i < ps.length
    · rw [List.getElem?_append_left z] at h1
      rw [List.getElem?_append_left (by rw [← h.len]; exact z)] at h2
      exact .inl ⟨h1, h2⟩
    · have z2 : i = ps.length := by
        have := (List.getElem?_eq_some_iff.mp h1).1
        simp at this; omega
      subst z2
      rw [List.getElem?_append_right (Nat.le_refl _)] at h1
      rw [h.len, List.getElem?_append_right (Nat.le_refl _)] at h2
      simp at h1 h2
      exact .inr ⟨h1.symm, h2.symm⟩
  refine ⟨fun a u q => ?_, fun a u q => ?_, by simp [h.len], fun i a e h1 h2 => ?_, fun i j a h1 h2 ⟨d1, h3⟩ ⟨d2, h4⟩ => ?_, h.dp.tr (Ex.refl F) (fun i q m e x y => ?_) fun a f r n q => ?_⟩
  rotate_left 4
  · rcases app x y with z | ⟨_, z⟩
    · exact z
    · cases z
  · have z : a ≠ p := fun z => by obtain ⟨o', n, _⟩ := n; rw [z, hp] at n; cases n
    rw [upd_ne z]
    refine ⟨f, r, fun _ q => q, fun j q' e x y => ?_⟩
    rcases app x y with w | ⟨w, _⟩
    · exact q j q' e w.1 w.2
    · rw [w]; exact Ne.symm z
  · have z : a ≠ p := ne_of_none q hF
    rw [upd_ne z]; exact h.sub _ _ q
  · obtain ⟨q1, q2, q3⟩ := h.oth a u q
    have z : a ≠ p := ne_of_none q2 hp
    rw [upd_ne z]; exact ⟨q1, q2, q3⟩
  · by_cases z : i < ps.length
    · rw [List.getElem?_append_left z] at h1
      rw [List.getElem?_append_left (by rw [← h.len]; exact z)] at h2
      obtain ⟨q1, q2, w, q3, q4⟩ := h.own i a e h1 h2
      have z : a ≠ p := ne_of_none q3 hp
      rw [upd_ne z]; exact ⟨q1, q2, w, q3, q4⟩
    · have z2 : i = ps.length := by
        have := (List.getElem?_eq_some_iff.mp h1).1
        simp at this; omega
      subst z2
      rw [List.getElem?_append_right (Nat.le_refl _)] at h1
      rw [h.len, List.getElem?_append_right (Nat.le_refl _)] at h2
      simp at h1 h2
      subst h1; subst h2
      exact ⟨hF, hR, o, upd_same, hr⟩
  · have old : ∀ i, i < ps.length → ps[i]? = some a → (∃ d', (os ++ [Ow.has d])[i]? = some (Ow.has d')) → a ≠ p ∧ ∃ d', os[i]? = some (Ow.has d') := fun i z q ⟨d', w⟩ => by
      rw [List.getElem?_append_left (by rw [← h.len]; exact z)] at w
      obtain ⟨_, _, _, q3, _⟩ := h.own i a d' q w
      exact ⟨ne_of_none q3 hp, d', w⟩
    by_cases zi : i < ps.length <;> by_cases zj : j < ps.length
    · rw [List.getElem?_append_left zi] at h1
      rw [List.getElem?_append_left zj] at h2
      exact h.dis i j a h1 h2 (old i zi h1 ⟨d1, h3⟩).2 (old j zj h2 ⟨d2, h4⟩).2
    · rw [List.getElem?_append_left zi] at h1
      have z2 : j = ps.length := by
        have := (List.getElem?_eq_some_iff.mp h2).1
        simp at this; omega
      subst z2
      rw [List.getElem?_append_right (Nat.le_refl _)] at h2
      simp at h2
      exact absurd h2.symm (old i zi h1 ⟨d1, h3⟩).1
    · rw [List.getElem?_append_left zj] at h2
      have z2 : i = ps.length := by
        have := (List.getElem?_eq_some_iff.mp h1).1
        simp at this; omega
      subst z2
      rw [List.getElem?_append_right (Nat.le_refl _)] at h1
      simp at h1
      exact absurd h1.symm (old j zj h2 ⟨d2, h4⟩).1
    · have z1 : i = ps.length := by
        have := (List.getElem?_eq_some_iff.mp h1).1
        simp at this; omega
      have z2 : j = ps.length := by
        have := (List.getElem?_eq_some_iff.mp h2).1
        simp at this; omega
      rw [z1, z2]
theorem St.newO (h : St K R F ps ρ os σ H) (hp : H p = none) (hr : ObjR K F o d) : St K R F (ps ++ [p]) ρ (os ++ [Ow.has d]) σ (upd H p o) :=
  ⟨h.sl.up (Ex.refl _) (List.prefix_append _ _), h.hst.newO hp hr⟩
theorem St.set (h : St K R F ps ρ os σ H) (i : Nat) {s : Sl} {ov : Option V} (r : SlR K F ps ov s) : St K R F ps (ρ.set i s) os (σ.set i ov) H := ⟨Paired.setR r i h.sl, h.hst⟩
/-- one's own object is changed -/
theorem Hst.wr (h : Hst K F R ps os H) {i : Nat} {d' : D} {o' : HO} (hi : ps[i]? = some p) (hd : os[i]? = some (Ow.has d)) (hr : ObjR K F o' d') : Hst K F R ps (os.set i (Ow.has d')) (upd H p o') := by
  obtain ⟨a1, a2, w, a3, _⟩ := h.own i p d hi hd
  refine ⟨fun a u q => ?_, fun a u q => ?_, by simp [h.len], fun j a e h1 h2 => ?_, fun j k a h1 h2 h3 h4 => ?_, h.dp.tr (Ex.refl F) (fun j q m e x y => ?_) fun a f r n q => ?_⟩
  rotate_left 4
  · refine ⟨x, ?_⟩
    by_cases z : j = i
    · subst z
      rw [List.getElem?_set_self (by rw [← h.len]; exact (List.getElem?_eq_some_iff.mp hi).1)] at y
      cases y
    · rw [List.getElem?_set_ne (Ne.symm z)] at y; exact y
  · have z : a ≠ p := fun z => q i p d hi hd z.symm
    rw [upd_ne z]
    refine ⟨f, r, fun _ q => q, fun j q' e x y => ?_⟩
    by_cases z' : j = i
    · subst z'
      rw [hi] at x; cases x
      exact Ne.symm z
    · rw [List.getElem?_set_ne (Ne.symm z')] at y; exact q j q' e x y
  · rw [upd_ne (ne_of_none q a1)]; exact h.sub _ _ q
  · obtain ⟨q1, q2, q3⟩ := h.oth a u q
    rw [upd_ne (ne_of_none q a2)]; exact ⟨q1, q2, q3⟩
  · by_cases z : j = i
    · subst z
      rw [hi] at h1; cases h1
      rw [List.getElem?_set_self (by rw [← h.len]; exact (List.getElem?_eq_some_iff.mp hi).1)] at h2
      cases h2
      exact ⟨a1, a2, o', upd_same, hr⟩
    · rw [List.getElem?_set_ne (Ne.symm z)] at h2
      obtain ⟨q1, q2, w', q3, q4⟩ := h.own j a e h1 h2
      have z2 : a ≠ p := fun e' => by
        subst e'
        exact z (h.dis j i a h1 hi ⟨_, h2⟩ ⟨_, hd⟩)
      rw [upd_ne z2]; exact ⟨q1, q2, w', q3, q4⟩
  · have g : ∀ (j : Nat), (∃ d2 : D, (os.set i (Ow.has d'))[j]? = some (Ow.has d2)) → ∃ d2 : D, os[j]? = some (Ow.has d2) := fun j hq => by
      obtain ⟨d2, q⟩ := hq
      by_cases z : j = i
      · subst z; exact ⟨_, hd⟩
      · rw [List.getElem?_set_ne (Ne.symm z)] at q; exact ⟨_, q⟩
    exact h.dis j k a h1 h2 (g j h3) (g k h4)
theorem St.wr (h : St K R F ps ρ os σ H) {i : Nat} {d' : D} {o' : HO} (hi : ps[i]? = some p) (hd : os[i]? = some (Ow.has d)) (hr : ObjR K F o' d') : St K R F ps ρ (os.set i (Ow.has d')) σ (upd H p o') := ⟨h.sl, h.hst.wr hi hd hr⟩
/-- one's own object stands still from now on -/
theorem Hst.still (h : Hst K F R ps os H) {i : Nat} (hi : ps[i]? = some p) (hd : os[i]? = some (Ow.has d)) : ∃ o, Ex F (upd F p o) ∧ ObjR K (upd F p o) o d ∧ Hst K (upd F p o) R ps (os.set i .gone) H := by
  obtain ⟨a1, a2, o, a3, a4⟩ := h.own i p d hi hd
  have e : Ex F (upd F p o) := Ex.new a1
  refine ⟨o, e, a4.up e, ⟨fun a u q => ?_, fun a u q => ?_, by simp [h.len], fun j a e' h1 h2 => ?_, fun j k a h1 h2 h3 h4 => ?_, h.dp.tr e (fun j q m e' x y => ?_) fun a f r n q => ?_⟩⟩
  rotate_left 4
  · refine ⟨x, ?_⟩
    by_cases z : j = i
    · subst z
      rw [List.getElem?_set_self (by rw [← h.len]; exact (List.getElem?_eq_some_iff.mp hi).1)] at y
      cases y
    · rw [List.getElem?_set_ne (Ne.symm z)] at y; exact y
  · have z : a ≠ p := fun z => q i p d hi hd z.symm
    rw [upd_ne z]
    refine ⟨f, r, fun _ q => q, fun j q' e x y => ?_⟩
    by_cases z' : j = i
    · subst z'
      rw [List.getElem?_set_self (by rw [← h.len]; exact (List.getElem?_eq_some_iff.mp hi).1)] at y
      cases y
    · rw [List.getElem?_set_ne (Ne.symm z')] at y; exact q j q' e x y
  · by_cases z : a = p
    · subst z; rw [upd_same] at q; cases q; exact a3
    · rw [upd_ne z] at q; exact h.sub _ _ q
  · obtain ⟨q1, q2, q3⟩ := h.oth a u q
    rw [upd_ne (ne_of_none q a2)]; exact ⟨q1, q2, q3⟩
  · by_cases z : j = i
    · subst z
      rw [List.getElem?_set_self (by rw [← h.len]; exact (List.getElem?_eq_some_iff.mp hi).1)] at h2
      cases h2
    · rw [List.getElem?_set_ne (Ne.symm z)] at h2
      obtain ⟨q1, q2, w', q3, q4⟩ := h.own j a e' h1 h2
      have z2 : a ≠ p := fun e'' => by
        subst e''
        exact z (h.dis j i a h1 hi ⟨_, h2⟩ ⟨_, hd⟩)
      rw [upd_ne z2]; exact ⟨q1, q2, w', q3, q4.up e⟩
  · have g : ∀ (j : Nat), (∃ d2 : D, (os.set i Ow.gone)[j]? = some (Ow.has d2)) → ∃ d2 : D, os[j]? = some (Ow.has d2) := fun j hq => by
      obtain ⟨d2, q⟩ := hq
      by_cases z : j = i
      · subst z
        rw [List.getElem?_set_self (by rw [← h.len]; exact (List.getElem?_eq_some_iff.mp hi).1)] at q
        cases q
      · rw [List.getElem?_set_ne (Ne.symm z)] at q; exact ⟨_, q⟩
    exact h.dis j k a h1 h2 (g j h3) (g k h4)
/-- the last of one's own is forgotten -/
theorem Hst.cut (h : Hst K F R ps os H) (n : Nat) : Hst K F R (ps.take n) (os.take n) H := by
  have g1 : ∀ i a, (ps.take n)[i]? = some a → ps[i]? = some a := fun i a q => by
    rw [List.getElem?_take] at q
    split at q
    · exact q
    · cases q
  have g2 : ∀ i a, (os.take n)[i]? = some a → os[i]? = some a := fun i a q => by
    rw [List.getElem?_take] at q
    split at q
    · exact q
    · cases q
  exact ⟨h.sub, h.oth, by simp [h.len], fun i p d h1 h2 => h.own i p d (g1 _ _ h1) (g2 _ _ h2), fun i j p h1 h2 ⟨d1, h3⟩ ⟨d2, h4⟩ => h.dis i j p (g1 _ _ h1) (g1 _ _ h2) ⟨d1, g2 _ _ h3⟩ ⟨d2, g2 _ _ h4⟩,
    h.dp.tr (Ex.refl F) (fun i p m d x y => ⟨g1 _ _ x, g2 _ _ y⟩) fun a f r n q => ⟨f, r, fun _ z => z, fun j q' e x y => q j q' e (g1 _ _ x) (g2 _ _ y)⟩⟩
end
end Ly

set_option Elab.async false
set_option linter.all false
set_option autoImplicit false
set_option maxRecDepth 100000
set_option maxHeartbeats 4000000
/-! Lay2: what a reading evaluates to over the abstract state; statements. -/
namespace Ly
open PySem L2

class Enc (α : Type) where
  enc : α → D
abbrev E {α : Type} [Enc α] (x : α) : D := Enc.enc x
structure T3 (α β γ : Type) where
  a : α
  b : β
  c : γ
structure T4 (α β γ δ : Type) where
  a : α
  b : β
  c : γ
  d : δ
structure T5 (α β γ δ ε : Type) where
  a : α
  b : β
  c : γ
  d : δ
  e : ε
structure T1 (α : Type) where
  a : α
/-- a tuple of any length -/
structure Tup (α : Type) where
  l : List α
structure Dct (α : Type) where
  l : List (Key × α)
structure DctT (α : Type) where
  l : List (List Key × α)
@[reducible] instance : Enc Int := ⟨.int⟩
@[reducible] instance : Enc Bool := ⟨.bl⟩
@[reducible] instance : Enc Str := ⟨.str⟩
@[reducible] instance : Enc Unit := ⟨fun _ => .non⟩
@[reducible] instance : Enc D := ⟨id⟩
@[reducible] instance {α : Type} [Enc α] : Enc (List α) := ⟨fun xs => .lst (xs.map E)⟩
@[reducible] instance {α : Type} [Enc α] : Enc (Tup α) := ⟨fun xs => .tup (xs.l.map E)⟩
@[reducible] instance {α β : Type} [Enc α] [Enc β] : Enc (α × β) := ⟨fun p => .tup [E p.1, E p.2]⟩
@[reducible] instance {α : Type} [Enc α] : Enc (T1 α) := ⟨fun p => .tup [E p.a]⟩
@[reducible] instance {α β γ : Type} [Enc α] [Enc β] [Enc γ] : Enc (T3 α β γ) := ⟨fun p => .tup [E p.a, E p.b, E p.c]⟩
@[reducible] instance {α β γ δ : Type} [Enc α] [Enc β] [Enc γ] [Enc δ] : Enc (T4 α β γ δ) := ⟨fun p => .tup [E p.a, E p.b, E p.c, E p.d]⟩
@[reducible] instance {α β γ δ ε : Type} [Enc α] [Enc β] [Enc γ] [Enc δ] [Enc ε] : Enc (T5 α β γ δ ε) := ⟨fun p => .tup [E p.a, E p.b, E p.c, E p.d, E p.e]⟩
@[reducible] instance {α : Type} [Enc α] : Enc (Dct α) := ⟨fun d => .dct (d.l.map fun p => (p.1, E p.2))⟩
@[reducible] instance {α : Type} [Enc α] : Enc (DctT α) := ⟨fun d => .dctT (d.l.map fun p => (p.1, E p.2))⟩

/-! ### what evaluates to what -/
def EvS (K : PySem.W.Frag) (te : TE) (ρ : List Sl) (os : List Ow) (s : Sl) (os' : List Ow) : Prop :=
  ∀ (R F : Hp) (ps : List Addr) (σ : L2.St) (H : Hp) (Q : VK), St K R F ps ρ os σ H → (∀ v F' H', Ex F F' → St K R F' ps ρ os' σ H' → SlR K F' ps (some v) s → Q v H') → te σ H Q
abbrev Ev (K : PySem.W.Frag) (te : TE) (ρ : List Sl) (os : List Ow) (d : D) (os' : List Ow) : Prop := EvS K te ρ os (.fz d) os'
/-- a new object of one's own, laid behind the others -/
def EvN (K : PySem.W.Frag) (te : TE) (ρ : List Sl) (os : List Ow) (d : D) (os' : List Ow) : Prop :=
  ∀ (R F : Hp) (ps : List Addr) (σ : L2.St) (H : Hp) (Q : VK), St K R F ps ρ os σ H → (∀ p F' H', Ex F F' → St K R F' (ps ++ [p]) ρ (os' ++ [.has d]) σ H' → St K R F' ps ρ os' σ H' → Q (.ref p) H') → te σ H Q
def EvT (K : PySem.W.Frag) (tt : TT) (ρ : List Sl) (os : List Ow) (b : Bool) (os' : List Ow) : Prop :=
  ∀ (R F : Hp) (ps : List Addr) (σ : L2.St) (H : Hp) (Q : Bool → Hp → Prop), St K R F ps ρ os σ H → (∀ F' H', Ex F F' → St K R F' ps ρ os' σ H' → Q b H') → tt σ H Q
def EvA (K : PySem.W.Frag) (ta : TA) (ρ : List Sl) (os : List Ow) (ss : List Sl) (os' : List Ow) : Prop :=
  ∀ (R F : Hp) (ps : List Addr) (σ : L2.St) (H : Hp) (Q : List V → Hp → Prop), St K R F ps ρ os σ H → (∀ vs F' H', Ex F F' → St K R F' ps ρ os' σ H' → Paired (SlR K F' ps) (vs.map some) ss → Q vs H') → ta σ H Q
def EvO (K : PySem.W.Frag) (to : TO) (ρ : List Sl) (os : List Ow) (o : Option Int) (os' : List Ow) : Prop :=
  ∀ (R F : Hp) (ps : List Addr) (σ : L2.St) (H : Hp) (Q : Option Int → Hp → Prop), St K R F ps ρ os σ H → (∀ F' H', Ex F F' → St K R F' ps ρ os' σ H' → Q o H') → to σ H Q

/-- what a slot's value is like, seen now -/
def Look (os : List Ow) : Sl → D → Prop
  | .fz d, e => d = e
  | .at i, e => os[i]? = some (.has e)
  | .un, _ => False

section
variable {K : PySem.W.Frag} {R F G H : Hp} {ps : List Addr} {ρ : List Sl} {os os1 os2 os3 : List Ow} {σ : L2.St} {s t : Sl} {d e : D} {te ta tb : TE} {tt tu : TT}

theorem St.len (h : St K R F ps ρ os σ H) : ps.length = os.length := h.hst.len
/-- a view of it in the heap -/
theorem St.seeL (h : St K R F ps ρ os σ H) {v : V} {ds : List D} (r : SlR K F ps (some v) s) (k : Look os s (.lst ds)) : ∃ a xs, v = .ref a ∧ SqL K H a xs ∧ RpL K F xs ds := by
  cases s with
  | un => exact k.elim
  | fz d =>
    cases (show d = .lst ds from k)
    cases (show Rp K F v (.lst ds) from r) with
    | lst h1 h2 => exact ⟨_, _, rfl, h.hst.sub.sqL h1, h2⟩
  | «at» i =>
    obtain ⟨p, h1, rfl⟩ := r
    obtain ⟨_, _, o, h2, h3⟩ := h.hst.own i p _ h1 k
    cases h3 with
    | lst h4 => exact ⟨p, _, rfl, .inl (.inl h2), h4⟩
theorem St.seeT (h : St K R F ps ρ os σ H) {v : V} {ds : List D} (r : SlR K F ps (some v) s) (k : Look os s (.tup ds)) : ∃ a xs, v = .ref a ∧ SqT K H a xs ∧ RpL K F xs ds := by
  cases s with
  | un => exact k.elim
  | fz d =>
    cases (show d = .tup ds from k)
    cases (show Rp K F v (.tup ds) from r) with
    | tup h1 h2 => exact ⟨_, _, rfl, .inl (.inl (h.hst.sub _ _ h1)), h2⟩
  | «at» i =>
    obtain ⟨p, h1, rfl⟩ := r
    obtain ⟨_, _, o, h2, h3⟩ := h.hst.own i p _ h1 k
    cases h3
theorem St.seeK (h : St K R F ps ρ os σ H) {v : V} {ds : List (Key × D)} (r : SlR K F ps (some v) s) (k : Look os s (.dct ds)) : ∃ a xs, v = .ref a ∧ Rd H a (.dK xs) ∧ RpK K F xs ds := by
  cases s with
  | un => exact k.elim
  | fz d =>
    cases (show d = .dct ds from k)
    cases (show Rp K F v (.dct ds) from r) with
    | dct h1 h2 => exact ⟨_, _, rfl, h.hst.sub.rd h1, h2⟩
  | «at» i =>
    obtain ⟨p, h1, rfl⟩ := r
    obtain ⟨_, _, o, h2, h3⟩ := h.hst.own i p _ h1 k
    cases h3 with
    | dct h4 => exact ⟨p, _, rfl, .inl h2, h4⟩
theorem St.seeD (h : St K R F ps ρ os σ H) {v : V} {ds : List (List Key × D)} (r : SlR K F ps (some v) s) (k : Look os s (.dctT ds)) : ∃ a xs, v = .ref a ∧ Rd H a (.dT xs) ∧ RpT K F xs ds := by
  cases s with
  | un => exact k.elim
  | fz d =>
    cases (show d = .dctT ds from k)
    cases (show Rp K F v (.dctT ds) from r) with
    | dctT h1 h2 => exact ⟨_, _, rfl, h.hst.sub.rd h1, h2⟩
  | «at» i =>
    obtain ⟨p, h1, rfl⟩ := r
    obtain ⟨_, _, o, h2, h3⟩ := h.hst.own i p _ h1 k
    cases h3 with
    | dctT h4 => exact ⟨p, _, rfl, .inl h2, h4⟩

theorem ev_var {i : Nat} (h : ρ[i]? = some s) (hs : s ≠ .un := by exact fun z => nomatch z) : EvS K (tVar i) ρ os s os := fun R F ps σ H Q I q => by
  obtain ⟨a, h1, h2⟩ := Paired.getR I.sl h
  cases a with
  | none =>
    cases s with
    | un => exact absurd rfl hs
    | fz d => exact h2.elim
    | «at» i => exact h2.elim
  | some v => exact ⟨v, h1, q v F H (Ex.refl F) I h2⟩
theorem ev_non : Ev K (tC .non) ρ os .non os := fun R F ps σ H Q I q => q _ F H (Ex.refl F) I .non
theorem ev_bl {b : Bool} : Ev K (tC (.bl b)) ρ os (.bl b) os := fun R F ps σ H Q I q => q _ F H (Ex.refl F) I (.bl b)
theorem ev_int {i : Int} : Ev K (tC (.int i)) ρ os (.int i) os := fun R F ps σ H Q I q => q _ F H (Ex.refl F) I (.int i)
theorem ev_str {x : Str} : Ev K (tC (.str x)) ρ os (.str x) os := fun R F ps σ H Q I q => q _ F H (Ex.refl F) I (.str x)
theorem ev_is {te : TE} (h : Ev K te ρ os d os1) (q : d = e) : Ev K te ρ os e os1 := q ▸ h
/-- a binary operation, its operands' values scalar: by their values -/
theorem ev_op {r : R2} {x y : D} (ha : Ev K ta ρ os x os1) (hb : Ev K tb ρ os1 y os2)
    (hr : ∀ R F ps σ H (Q : VK) v w, St K R F ps ρ os2 σ H → Rp K F v x → Rp K F w y → (∀ v F' H', Ex F F' → St K R F' ps ρ os2 σ H' → Rp K F' v d → Q v H') → r v w H Q) : Ev K (tOp r ta tb) ρ os d os2 :=
  fun R F ps σ H Q I q => ha R F ps σ H _ I fun v F1 H1 e1 I1 r1 => hb R F1 ps σ H1 _ I1 fun w F2 H2 e2 I2 r2 =>
    hr R F2 ps σ H2 Q v w I2 (Rp.up e2 r1) r2 fun u F3 H3 e3 I3 r3 => q u F3 H3 ((e1.trans e2).trans e3) I3 r3
theorem ev_I0 {g : Int → Int → V} {i j : Int} (ha : Ev K ta ρ os (.int i) os1) (hb : Ev K tb ρ os1 (.int j) os2) (hg : ∀ F, Rp K F (g i j) d) : Ev K (tOp (rI0 g) ta tb) ρ os d os2 :=
  ev_op ha hb fun R F ps σ H Q v w I r1 r2 q => by
    cases r1; cases r2
    exact ⟨i, j, rfl, rfl, q _ F H (Ex.refl F) I (hg F)⟩
theorem ev_I {C : Int → Int → Prop} {g : Int → Int → V} {i j : Int} (ha : Ev K ta ρ os (.int i) os1) (hb : Ev K tb ρ os1 (.int j) os2) (hc : C i j) (hg : ∀ F, Rp K F (g i j) d) : Ev K (tOp (rI C g) ta tb) ρ os d os2 :=
  ev_op ha hb fun R F ps σ H Q v w I r1 r2 q => by
    cases r1; cases r2
    exact ⟨i, j, rfl, rfl, hc, q _ F H (Ex.refl F) I (hg F)⟩
theorem ev_add {i j : Int} (ha : Ev K ta ρ os (.int i) os1) (hb : Ev K tb ρ os1 (.int j) os2) : Ev K (tOp (rI0 fun i j => .int (i + j)) ta tb) ρ os (.int (i + j)) os2 := ev_I0 ha hb fun _ => .int _
theorem ev_sub {i j : Int} (ha : Ev K ta ρ os (.int i) os1) (hb : Ev K tb ρ os1 (.int j) os2) : Ev K (tOp (rI0 fun i j => .int (i - j)) ta tb) ρ os (.int (i - j)) os2 := ev_I0 ha hb fun _ => .int _
theorem ev_mulW {i j : Int} (ha : Ev K ta ρ os (.int i) os1) (hb : Ev K tb ρ os1 (.int j) os2) (hc : CMulW i j) : Ev K (tOp (rI CMulW fun i j => .int (i * j)) ta tb) ρ os (.int (i * j)) os2 := ev_I ha hb hc fun _ => .int _
theorem ev_mul {i j : Int} (ha : Ev K ta ρ os (.int i) os1) (hb : Ev K tb ρ os1 (.int j) os2) (hc : CMul i j) : Ev K (tOp (rI CMul fun i j => .int (i * j)) ta tb) ρ os (.int (i * j)) os2 := ev_I ha hb hc fun _ => .int _
theorem ev_fdiv {i j : Int} (ha : Ev K ta ρ os (.int i) os1) (hb : Ev K tb ρ os1 (.int j) os2) (hc : CDivN i j) : Ev K (tOp (rI CDivN fun i j => .int (i.fdiv j)) ta tb) ρ os (.int (i.fdiv j)) os2 := ev_I ha hb hc fun _ => .int _
theorem ev_mod {i j : Int} (ha : Ev K ta ρ os (.int i) os1) (hb : Ev K tb ρ os1 (.int j) os2) (hc : j ≠ 0) : Ev K (tOp (rI (fun _ j => j ≠ 0) fun i j => .int (i.fmod j)) ta tb) ρ os (.int (i.fmod j)) os2 := ev_I ha hb hc fun _ => .int _
theorem ev_pow {i j : Int} (ha : Ev K ta ρ os (.int i) os1) (hb : Ev K tb ρ os1 (.int j) os2) (hc : CPow i j) : Ev K (tOp (rI CPow fun i j => .int (i ^ j.toNat)) ta tb) ρ os (.int (i ^ j.toNat)) os2 := ev_I ha hb hc fun _ => .int _
theorem ev_lt {i j : Int} (ha : Ev K ta ρ os (.int i) os1) (hb : Ev K tb ρ os1 (.int j) os2) : Ev K (tOp (rI0 fun i j => .bl (decide (i < j))) ta tb) ρ os (.bl (decide (i < j))) os2 := ev_I0 ha hb fun _ => .bl _
theorem ev_le {i j : Int} (ha : Ev K ta ρ os (.int i) os1) (hb : Ev K tb ρ os1 (.int j) os2) : Ev K (tOp (rI0 fun i j => .bl (decide (i ≤ j))) ta tb) ρ os (.bl (decide (i ≤ j))) os2 := ev_I0 ha hb fun _ => .bl _
theorem ev_gt {i j : Int} (ha : Ev K ta ρ os (.int i) os1) (hb : Ev K tb ρ os1 (.int j) os2) : Ev K (tOp (rI0 fun i j => .bl (decide (j < i))) ta tb) ρ os (.bl (decide (j < i))) os2 := ev_I0 ha hb fun _ => .bl _
theorem ev_ge {i j : Int} (ha : Ev K ta ρ os (.int i) os1) (hb : Ev K tb ρ os1 (.int j) os2) : Ev K (tOp (rI0 fun i j => .bl (decide (j ≤ i))) ta tb) ρ os (.bl (decide (j ≤ i))) os2 := ev_I0 ha hb fun _ => .bl _
theorem ev_un {g : Int → V} {i : Int} (ha : Ev K ta ρ os (.int i) os1) (hg : ∀ F, Rp K F (g i) d) : Ev K (tUn (rU g) ta) ρ os d os1 := fun R F ps σ H Q I q => ha R F ps σ H _ I fun v F1 H1 e1 I1 r1 => by
  cases (show Rp K F1 v (.int i) from r1)
  exact ⟨i, rfl, q _ F1 H1 e1 I1 (hg F1)⟩
theorem ev_neg {i : Int} (ha : Ev K ta ρ os (.int i) os1) : Ev K (tUn (rU fun i => .int (-i)) ta) ρ os (.int (-i)) os1 := ev_un ha fun _ => .int _
/-- == of scalars of one kind -/
theorem ev_eqI {i j : Int} (ha : Ev K ta ρ os (.int i) os1) (hb : Ev K tb ρ os1 (.int j) os2) : Ev K (tOp rEq ta tb) ρ os (.bl (decide (i = j))) os2 :=
  ev_op ha hb fun R F ps σ H Q v w I r1 r2 q => by
    cases r1; cases r2
    refine ⟨rfl, q _ F H (Ex.refl F) I ?_⟩
    rw [show decide (V.int i = V.int j) = decide (i = j) by simp]
    exact .bl _
theorem ev_neI {i j : Int} (ha : Ev K ta ρ os (.int i) os1) (hb : Ev K tb ρ os1 (.int j) os2) : Ev K (tOp rNe ta tb) ρ os (.bl (!decide (i = j))) os2 :=
  ev_op ha hb fun R F ps σ H Q v w I r1 r2 q => by
    cases r1; cases r2
    refine ⟨rfl, q _ F H (Ex.refl F) I ?_⟩
    rw [show decide (V.int i = V.int j) = decide (i = j) by simp]
    exact .bl _
theorem ev_eqS {i j : Str} (ha : Ev K ta ρ os (.str i) os1) (hb : Ev K tb ρ os1 (.str j) os2) : Ev K (tOp rEq ta tb) ρ os (.bl (decide (i = j))) os2 :=
  ev_op ha hb fun R F ps σ H Q v w I r1 r2 q => by
    cases r1; cases r2
    refine ⟨rfl, q _ F H (Ex.refl F) I ?_⟩
    rw [show decide (V.str i = V.str j) = decide (i = j) by simp]
    exact .bl _
theorem ev_neS {i j : Str} (ha : Ev K ta ρ os (.str i) os1) (hb : Ev K tb ρ os1 (.str j) os2) : Ev K (tOp rNe ta tb) ρ os (.bl (!decide (i = j))) os2 :=
  ev_op ha hb fun R F ps σ H Q v w I r1 r2 q => by
    cases r1; cases r2
    refine ⟨rfl, q _ F H (Ex.refl F) I ?_⟩
    rw [show decide (V.str i = V.str j) = decide (i = j) by simp]
    exact .bl _
theorem ev_eqB {i j : Bool} (ha : Ev K ta ρ os (.bl i) os1) (hb : Ev K tb ρ os1 (.bl j) os2) : Ev K (tOp rEq ta tb) ρ os (.bl (decide (i = j))) os2 :=
  ev_op ha hb fun R F ps σ H Q v w I r1 r2 q => by
    cases r1; cases r2
    refine ⟨rfl, q _ F H (Ex.refl F) I ?_⟩
    rw [show decide (V.bl i = V.bl j) = decide (i = j) by simp]
    exact .bl _
/-- is None -/
def isNon : D → Bool
  | .non => true
  | _ => false
theorem rp_non {v : V} (r : Rp K F v d) : decide (v = .non) = isNon d := by
  cases r <;> first | rfl | (simp [isNon])
theorem ev_isN (ha : Ev K ta ρ os d os1) : Ev K (tOp (fun x y H Q => y = .non ∧ Q (.bl (decide (x = .non))) H) ta (tC .non)) ρ os (.bl (isNon d)) os1 := fun R F ps σ H Q I q =>
  ha R F ps σ H _ I fun v F1 H1 e1 I1 r1 => ⟨rfl, q _ F1 H1 e1 I1 (by rw [rp_non (show Rp K F1 v d from r1)]; exact .bl _)⟩
theorem ev_notN (ha : Ev K ta ρ os d os1) : Ev K (tOp (fun x y H Q => y = .non ∧ Q (.bl (!decide (x = .non))) H) ta (tC .non)) ρ os (.bl (!isNon d)) os1 := fun R F ps σ H Q I q =>
  ha R F ps σ H _ I fun v F1 H1 e1 I1 r1 => ⟨rfl, q _ F1 H1 e1 I1 (by rw [rp_non (show Rp K F1 v d from r1)]; exact .bl _)⟩

/-! tests -/
theorem et_test {b : Bool} (h : Ev K te ρ os (.bl b) os1) : EvT K (tTest te) ρ os b os1 := fun R F ps σ H Q I q => h R F ps σ H _ I fun v F1 H1 e1 I1 r1 => by
  cases (show Rp K F1 v (.bl b) from r1)
  exact ⟨b, rfl, q F1 H1 e1 I1⟩
theorem et_B {b : Bool} (h : Ev K te ρ os (.bl b) os1) : EvT K (tB te) ρ os b os1 := fun R F ps σ H Q I q => h R F ps σ H _ I fun v F1 H1 e1 I1 r1 => by
  cases (show Rp K F1 v (.bl b) from r1)
  exact ⟨b, rfl, q F1 H1 e1 I1⟩
theorem et_is {a b : Bool} (h : EvT K tt ρ os a os1) (e : a = b) : EvT K tt ρ os b os1 := e ▸ h
theorem et_not {a : Bool} (h : EvT K tt ρ os a os1) : EvT K (tNot tt) ρ os (!a) os1 := fun R F ps σ H Q I q => h R F ps σ H _ I fun F1 H1 e1 I1 => q F1 H1 e1 I1
theorem et_and {a b : Bool} (h : EvT K tt ρ os a os1) (h1 : a = true → EvT K tu ρ os1 b os2) (h2 : a = false → b = false ∧ os2 = os1) : EvT K (tAnd tt tu) ρ os b os2 := fun R F ps σ H Q I q => h R F ps σ H _ I fun F1 H1 e1 I1 => by
  cases a with
  | true =>
    show tu σ H1 Q
    exact h1 rfl R F1 ps σ H1 Q I1 fun F2 H2 e2 I2 => q F2 H2 (e1.trans e2) I2
  | false =>
    obtain ⟨rfl, rfl⟩ := h2 rfl
    exact q F1 H1 e1 I1
theorem et_or {a b : Bool} (h : EvT K tt ρ os a os1) (h1 : a = false → EvT K tu ρ os1 b os2) (h2 : a = true → b = true ∧ os2 = os1) : EvT K (tOr tt tu) ρ os b os2 := fun R F ps σ H Q I q => h R F ps σ H _ I fun F1 H1 e1 I1 => by
  cases a with
  | true =>
    obtain ⟨rfl, rfl⟩ := h2 rfl
    exact q F1 H1 e1 I1
  | false =>
    show tu σ H1 Q
    exact h1 rfl R F1 ps σ H1 Q I1 fun F2 H2 e2 I2 => q F2 H2 (e1.trans e2) I2
theorem ev_andV {a b : Bool} (h : Ev K ta ρ os (.bl a) os1) (h1 : a = true → Ev K tb ρ os1 (.bl b) os2) (h2 : a = false → b = false ∧ os2 = os1) : Ev K (tAndV ta tb) ρ os (.bl b) os2 := fun R F ps σ H Q I q => h R F ps σ H _ I fun v F1 H1 e1 I1 r1 => by
  cases (show Rp K F1 v (.bl a) from r1)
  refine ⟨a, rfl, ?_⟩
  cases a with
  | true =>
    show tb σ H1 Q
    exact h1 rfl R F1 ps σ H1 Q I1 fun v F2 H2 e2 I2 r2 => q v F2 H2 (e1.trans e2) I2 r2
  | false =>
    obtain ⟨rfl, rfl⟩ := h2 rfl
    exact q _ F1 H1 e1 I1 (.bl false)
theorem ev_orV {a b : Bool} (h : Ev K ta ρ os (.bl a) os1) (h1 : a = false → Ev K tb ρ os1 (.bl b) os2) (h2 : a = true → b = true ∧ os2 = os1) : Ev K (tOrV ta tb) ρ os (.bl b) os2 := fun R F ps σ H Q I q => h R F ps σ H _ I fun v F1 H1 e1 I1 r1 => by
  cases (show Rp K F1 v (.bl a) from r1)
  refine ⟨a, rfl, ?_⟩
  cases a with
  | true =>
    obtain ⟨rfl, rfl⟩ := h2 rfl
    exact q _ F1 H1 e1 I1 (.bl true)
  | false =>
    show tb σ H1 Q
    exact h1 rfl R F1 ps σ H1 Q I1 fun v F2 H2 e2 I2 r2 => q v F2 H2 (e1.trans e2) I2 r2
theorem ev_notV {a : Bool} (h : Ev K ta ρ os (.bl a) os1) : Ev K (tNotV ta) ρ os (.bl (!a)) os1 := fun R F ps σ H Q I q => h R F ps σ H _ I fun v F1 H1 e1 I1 r1 => by
  cases (show Rp K F1 v (.bl a) from r1)
  exact ⟨a, rfl, q _ F1 H1 e1 I1 (.bl _)⟩
theorem ev_if {b : Bool} (h : EvT K tt ρ os b os1) (h1 : b = true → EvS K ta ρ os1 s os2) (h2 : b = false → EvS K tb ρ os1 s os2) : EvS K (tIf tt ta tb) ρ os s os2 := fun R F ps σ H Q I q => h R F ps σ H _ I fun F1 H1 e1 I1 => by
  cases b with
  | true =>
    show ta σ H1 Q
    exact h1 rfl R F1 ps σ H1 Q I1 fun v F2 H2 e2 I2 r2 => q v F2 H2 (e1.trans e2) I2 r2
  | false =>
    show tb σ H1 Q
    exact h2 rfl R F1 ps σ H1 Q I1 fun v F2 H2 e2 I2 r2 => q v F2 H2 (e1.trans e2) I2 r2
theorem en_if {b : Bool} (h : EvT K tt ρ os b os1) (h1 : b = true → EvN K ta ρ os1 d os2) (h2 : b = false → EvN K tb ρ os1 d os2) : EvN K (tIf tt ta tb) ρ os d os2 := fun R F ps σ H Q I q => h R F ps σ H _ I fun F1 H1 e1 I1 => by
  cases b with
  | true =>
    show ta σ H1 Q
    exact h1 rfl R F1 ps σ H1 Q I1 fun p F2 H2 e2 I2 I3 => q p F2 H2 (e1.trans e2) I2 I3
  | false =>
    show tb σ H1 Q
    exact h2 rfl R F1 ps σ H1 Q I1 fun p F2 H2 e2 I2 I3 => q p F2 H2 (e1.trans e2) I2 I3

/-! arguments, displays -/
theorem ea_nil : EvA K tNil ρ os [] os := fun R F ps σ H Q I q => q [] F H (Ex.refl F) I .nil
theorem ea_cons {tr : TA} {ss : List Sl} (h : EvS K te ρ os s os1) (hr : EvA K tr ρ os1 ss os2) : EvA K (tCons te tr) ρ os (s :: ss) os2 := fun R F ps σ H Q I q =>
  h R F ps σ H _ I fun v F1 H1 e1 I1 r1 => hr R F1 ps σ H1 _ I1 fun vs F2 H2 e2 I2 r2 => q (v :: vs) F2 H2 (e1.trans e2) I2 (.cons (SlR.up e2 (List.prefix_refl _) r1) r2)
theorem rpl_of {F : Hp} : ∀ {ds : List D} {vs : List V}, Paired (SlR K F ps) (vs.map some) (ds.map Sl.fz) → RpL K F vs ds
  | [], [], _ => .nil
  | [], _ :: _, h => nomatch h
  | _ :: _, [], h => nomatch h
  | _ :: _, _ :: _, .cons h r => .cons h (rpl_of r)
/-- a new object is one's own, or stands still -/
theorem en_new {ta : TA} {ds : List D} (h : EvA K ta ρ os (ds.map Sl.fz) os1) (hl : ds.length ≤ sizeLine) : EvN K (tLst ta) ρ os (.lst ds) os1 := fun R F ps σ H Q I q =>
  h R F ps σ H _ I fun vs F1 H1 e1 I1 r1 => by
    have r := rpl_of r1
    refine ⟨by rw [r.length]; exact hl, fun p hp => ?_⟩
    have I2 := I1.newO hp (.lst r)
    refine q p F1 _ e1 I2 ⟨I1.sl, ?_⟩
    have := I2.hst.cut ps.length
    rw [List.take_left, show ps.length = os1.length from I1.hst.len, List.take_left] at this
    exact this
theorem ev_tup {ta : TA} {ds : List D} (h : EvA K ta ρ os (ds.map Sl.fz) os1) (hl : ds.length ≤ sizeLine) : Ev K (tTup ta) ρ os (.tup ds) os1 := fun R F ps σ H Q I q =>
  h R F ps σ H _ I fun vs F1 H1 e1 I1 r1 => by
    have r := rpl_of r1
    refine ⟨by rw [r.length]; exact hl, fun p hp => ?_⟩
    obtain ⟨e2, I2⟩ := I1.newF hp (o := .tup vs)
    exact q (.ref p) _ _ (e1.trans e2) I2 (.tup upd_same (r.up e2))
/-- what is one's own and new may stand still at once -/
theorem ev_frz (h : EvN K te ρ os d os1) : Ev K te ρ os d os1 := fun R F ps σ H Q I q => h R F ps σ H _ I fun p F1 H1 e1 I1 I2 => by
  have hl : ps.length = os1.length := I2.hst.len
  obtain ⟨o, e2, r, J⟩ := I1.hst.still (i := ps.length) (p := p) (d := d) (by simp) (by rw [hl]; simp)
  refine q (.ref p) _ H1 (e1.trans e2) ⟨I2.sl.up e2 (List.prefix_refl _), ?_⟩ (r.rp upd_same)
  have := J.cut ps.length
  rw [List.take_left, List.take_set, hl, List.take_left, List.set_eq_of_length_le (by omega)] at this
  exact this
theorem ev_lst {ta : TA} {ds : List D} (h : EvA K ta ρ os (ds.map Sl.fz) os1) (hl : ds.length ≤ sizeLine) : Ev K (tLst ta) ρ os (.lst ds) os1 := ev_frz (en_new h hl)

/-! lists -/
theorem ev_len {ta : TA} {ds : List D} (h : EvA K ta ρ os [s] os1) (k : Look os1 s (.lst ds) ∨ Look os1 s (.tup ds)) :
    Ev K (tCB (fun xs H Q => ∃ p ys, xs = [.ref p] ∧ (SqL K H p ys ∨ SqT K H p ys) ∧ Q (.int ys.length) H) ta) ρ os (.int ds.length) os1 := fun R F ps σ H Q I q =>
  h R F ps σ H _ I fun vs F1 H1 e1 I1 r1 => by
    cases vs with
    | nil => cases r1
    | cons v vs =>
      cases r1 with
      | cons r r' =>
        cases vs with
        | cons _ _ => cases r'
        | nil =>
          rcases k with k | k
          · obtain ⟨a, xs, rfl, h1, h2⟩ := I1.seeL r k
            exact ⟨a, xs, rfl, .inl h1, q _ F1 H1 e1 I1 (by rw [h2.length]; exact .int _)⟩
          · obtain ⟨a, xs, rfl, h1, h2⟩ := I1.seeT r k
            exact ⟨a, xs, rfl, .inr h1, q _ F1 H1 e1 I1 (by rw [h2.length]; exact .int _)⟩
theorem atI_rp {xs : List V} {ds : List D} {i : Int} (r : RpL K F xs ds) (h : atI ds i = some d) : ∃ v, atI xs i = some v ∧ Rp K F v d := by
  unfold atI at h ⊢
  rw [r.length]
  cases e : ixN ds.length i with
  | none => rw [e] at h; cases h
  | some j =>
    rw [e] at h
    exact r.get h
theorem ev_ixL {ds : List D} {i : Int} (ha : EvS K ta ρ os s os1) (hb : Ev K tb ρ os1 (.int i) os2) (k : Look os2 s (.lst ds)) (h : atI ds i = some d) : Ev K (tOp (rIxL K) ta tb) ρ os d os2 := fun R F ps σ H Q I q =>
  ha R F ps σ H _ I fun v F1 H1 e1 I1 r1 => hb R F1 ps σ H1 _ I1 fun w F2 H2 e2 I2 r2 => by
    cases (show Rp K F2 w (.int i) from r2)
    obtain ⟨a, xs, rfl, h1, h2⟩ := I2.seeL (SlR.up e2 (List.prefix_refl _) r1) k
    obtain ⟨x, h3, h4⟩ := atI_rp h2 h
    exact ⟨a, xs, i, x, rfl, rfl, h1, h3, q x F2 H2 (e1.trans e2) I2 h4⟩
theorem ev_ixT {ds : List D} {i : Int} (ha : EvS K ta ρ os s os1) (hb : Ev K tb ρ os1 (.int i) os2) (k : Look os2 s (.tup ds)) (h : atI ds i = some d) : Ev K (tOp (rIxT K) ta tb) ρ os d os2 := fun R F ps σ H Q I q =>
  ha R F ps σ H _ I fun v F1 H1 e1 I1 r1 => hb R F1 ps σ H1 _ I1 fun w F2 H2 e2 I2 r2 => by
    cases (show Rp K F2 w (.int i) from r2)
    obtain ⟨a, xs, rfl, h1, h2⟩ := I2.seeT (SlR.up e2 (List.prefix_refl _) r1) k
    obtain ⟨x, h3, h4⟩ := atI_rp h2 h
    exact ⟨a, xs, i, x, rfl, rfl, h1, h3, q x F2 H2 (e1.trans e2) I2 h4⟩
/-- list(xs) -/
theorem en_list {ta : TA} {ds : List D} (h : EvA K ta ρ os [s] os1) (k : Look os1 s (.lst ds) ∨ Look os1 s (.tup ds)) :
    EvN K (tCB (fun xs H Q => ∃ p ys, xs = [.ref p] ∧ (SqL K H p ys ∨ SqT K H p ys) ∧ ∀ l, H l = none → Q (.ref l) (upd H l (.lst ys))) ta) ρ os (.lst ds) os1 := fun R F ps σ H Q I q =>
  h R F ps σ H _ I fun vs F1 H1 e1 I1 r1 => by
    have fin : ∀ {xs : List V}, RpL K F1 xs ds → ∀ l, H1 l = none → Q (.ref l) (upd H1 l (.lst xs)) := fun {xs} r l hl => by
      have I2 := I1.newO hl (.lst r)
      refine q l F1 _ e1 I2 ⟨I1.sl, ?_⟩
      have := I2.hst.cut ps.length
      rw [List.take_left, show ps.length = os1.length from I1.hst.len, List.take_left] at this
      exact this
    cases vs with
    | nil => cases r1
    | cons v vs =>
      cases r1 with
      | cons r r' =>
        cases vs with
        | cons _ _ => cases r'
        | nil =>
          rcases k with k | k
          · obtain ⟨a, xs, rfl, h1, h2⟩ := I1.seeL r k
            exact ⟨a, xs, rfl, .inl h1, fin h2⟩
          · obtain ⟨a, xs, rfl, h1, h2⟩ := I1.seeT r k
            exact ⟨a, xs, rfl, .inr h1, fin h2⟩

/-! ### statements -/
/-- an exception's own fields, in its dict (none: it has none) -/
def XdR (K : PySem.W.Frag) (F R : Hp) (fs : List (Str × D)) (d : Option Addr) (H : Hp) : Prop :=
  (fs = [] ∧ d = none) ∨ ∃ (a : Addr) (fv : List (Str × V)), d = some a ∧ R a = none ∧ H a = some (.xd fv) ∧ Paired (fun p q => p.1 = q.1 ∧ Rp K F p.2 q.2) fv fs
structure Post where
  nx : List Sl → List Ow → Prop
  rt : Sl → List Ow → Prop
  bk : List Sl → List Ow → Prop := fun _ _ => False
  ct : List Sl → List Ow → Prop := fun _ _ => False
  EX : Value → Option Addr → L2.St → Hp → Prop := fun _ _ _ _ => False
  ex : Addr → List (Str × D) → List Sl → List Ow → Prop := fun _ _ _ _ => False
structure Cont (K : PySem.W.Frag) (R : Hp) (P : Post) (F : Hp) (ps : List Addr) (Dn : Ends) : Prop where
  nx : ∀ ρ' os' F' ps' σ' H', Ex F F' → ps <+: ps' → St K R F' ps' ρ' os' σ' H' → P.nx ρ' os' → Dn.nx σ' H'
  rt : ∀ s ρ' os' F' ps' σ' v H', Ex F F' → ps <+: ps' → St K R F' ps' ρ' os' σ' H' → SlR K F' ps' (some v) s → P.rt s os' → Dn.rt v H'
  bk : ∀ ρ' os' F' ps' σ' H', Ex F F' → ps <+: ps' → St K R F' ps' ρ' os' σ' H' → P.bk ρ' os' → Dn.bk σ' H'
  ct : ∀ ρ' os' F' ps' σ' H', Ex F F' → ps <+: ps' → St K R F' ps' ρ' os' σ' H' → P.ct ρ' os' → Dn.ct σ' H'
  ex : ∀ C fs ρ' os' F' ps' σ' d H', Ex F F' → ps <+: ps' → St K R F' ps' ρ' os' σ' H' → XdR K F' R fs d H' → P.ex C fs ρ' os' → P.EX (.ref C) d σ' H'
theorem Cont.up {P : Post} {F F' : Hp} {ps ps' : List Addr} {Dn : Ends} (c : Cont K R P F ps Dn) (e : Ex F F') (q : ps <+: ps') : Cont K R P F' ps' Dn :=
  ⟨fun ρ' os' G qs σ' H' e' q' => c.nx ρ' os' G qs σ' H' (e.trans e') (q.trans q'), fun s ρ' os' G qs σ' v H' e' q' => c.rt s ρ' os' G qs σ' v H' (e.trans e') (q.trans q'),
   fun ρ' os' G qs σ' H' e' q' => c.bk ρ' os' G qs σ' H' (e.trans e') (q.trans q'), fun ρ' os' G qs σ' H' e' q' => c.ct ρ' os' G qs σ' H' (e.trans e') (q.trans q'),
   fun C fs ρ' os' G qs σ' d H' e' q' => c.ex C fs ρ' os' G qs σ' d H' (e.trans e') (q.trans q')⟩
def Run (K : PySem.W.Frag) (ts : TS) (ρ : List Sl) (os : List Ow) (P : Post) : Prop :=
  ∀ (R F : Hp) (ps : List Addr) (σ : L2.St) (H : Hp) (Dn : Ends), St K R F ps ρ os σ H → Cont K R P F ps Dn → ts Dn σ H
variable {P : Post} {t u : TS}
theorem run_seq (h : Run K t ρ os { P with nx := fun ρ' os' => Run K u ρ' os' P }) : Run K (tSeq t u) ρ os P := fun R F ps σ H Dn I c =>
  h R F ps σ H _ I ⟨fun ρ' os' F' ps' σ' H' e q I' r => r R F' ps' σ' H' Dn I' (c.up e q), c.rt, c.bk, c.ct, c.ex⟩
theorem run_next (h : P.nx ρ os) : Run K tNext ρ os P := fun R F ps σ H Dn I c => c.nx ρ os F ps σ H (Ex.refl F) (List.prefix_refl _) I h
theorem run_break (h : P.bk ρ os) : Run K tBreak ρ os P := fun R F ps σ H Dn I c => c.bk ρ os F ps σ H (Ex.refl F) (List.prefix_refl _) I h
theorem run_cont (h : P.ct ρ os) : Run K tCont ρ os P := fun R F ps σ H Dn I c => c.ct ρ os F ps σ H (Ex.refl F) (List.prefix_refl _) I h
theorem run_asg {i : Nat} (h : EvS K te ρ os s os1) (k : P.nx (ρ.set i s) os1) : Run K (tAsg te (gName i)) ρ os P := fun R F ps σ H Dn I c =>
  h R F ps σ H _ I fun v F1 H1 e1 I1 r1 => c.nx _ _ F1 ps _ H1 e1 (List.prefix_refl _) (I1.set i r1) k
theorem run_asgN {i : Nat} (h : EvN K te ρ os d os1) (k : P.nx (ρ.set i (.at os1.length)) (os1 ++ [.has d])) : Run K (tAsg te (gName i)) ρ os P := fun R F ps σ H Dn I c =>
  h R F ps σ H _ I fun p F1 H1 e1 I1 I2 => c.nx _ _ F1 _ _ H1 e1 (List.prefix_append _ _) (I1.set i (s := .at os1.length) (ov := some (.ref p)) ⟨p, by rw [← I2.hst.len]; simp, rfl⟩) k
theorem run_if {b : Bool} (h : EvT K tt ρ os b os1) (h1 : b = true → Run K t ρ os1 P) (h2 : b = false → Run K u ρ os1 P) : Run K (tIfS tt t u) ρ os P := fun R F ps σ H Dn I c =>
  h R F ps σ H _ I fun F1 H1 e1 I1 => by
    cases b with
    | true => exact h1 rfl R F1 ps σ H1 Dn I1 (c.up e1 (List.prefix_refl _))
    | false => exact h2 rfl R F1 ps σ H1 Dn I1 (c.up e1 (List.prefix_refl _))
theorem run_ret (h : EvS K te ρ os s os1) (k : P.rt s os1) : Run K (tRet te) ρ os P := fun R F ps σ H Dn I c =>
  h R F ps σ H _ I fun v F1 H1 e1 I1 r1 => c.rt s ρ os1 F1 ps σ v H1 e1 (List.prefix_refl _) I1 r1 k
theorem run_retN (h : EvN K te ρ os d os1) (k : P.rt (.at os1.length) (os1 ++ [.has d])) : Run K (tRet te) ρ os P := fun R F ps σ H Dn I c =>
  h R F ps σ H _ I fun p F1 H1 e1 I1 I2 => c.rt (.at os1.length) ρ _ F1 _ σ _ H1 e1 (List.prefix_append _ _) I1 ⟨p, by rw [← I2.hst.len]; simp, rfl⟩ k
theorem run_retU (k : P.rt (.fz .non) os) : Run K tRetN ρ os P := fun R F ps σ H Dn I c => c.rt (.fz .non) ρ os F ps σ .non H (Ex.refl F) (List.prefix_refl _) I Rp.non k
theorem run_drop (h : EvS K te ρ os s os1) (k : P.nx ρ os1) : Run K (tDrop te) ρ os P := fun R F ps σ H Dn I c =>
  h R F ps σ H _ I fun v F1 H1 e1 I1 r1 => c.nx _ _ F1 ps _ H1 e1 (List.prefix_refl _) I1 k
theorem set_self {α : Type} {l : List α} {i : Nat} {a : α} (h : l[i]? = some a) : l.set i a = l := by
  apply List.ext_getElem?
  intro k
  rw [List.getElem?_set]
  by_cases e : i = k
  · subst e
    have := (List.getElem?_eq_some_iff.mp h).1
    rw [if_pos rfl, if_pos this, h]
  · simp [e]
/-- a variable's own object stands still from now on -/
theorem run_still {i j : Nat} (hi : ρ[j]? = some (.at i)) (hd : os[i]? = some (.has d)) (h : Run K t (ρ.set j (.fz d)) (os.set i .gone) P) : Run K t ρ os P := fun R F ps σ H Dn I c => by
  obtain ⟨p, h1, h2⟩ := I.at hi
  obtain ⟨o, e, r, J⟩ := I.hst.still h2 hd
  refine h R (upd F p o) ps σ H Dn ⟨?_, J⟩ (c.up e (List.prefix_refl _))
  have := Paired.setR (F := SlR K (upd F p o) ps) (a := some (.ref p)) (b := .fz d) (r.rp upd_same) j (I.sl.up e (List.prefix_refl _))
  rwa [set_self h1] at this

end
end Ly

set_option Elab.async false
set_option linter.all false
set_option autoImplicit false
set_option maxRecDepth 100000
set_option maxHeartbeats 4000000
/-! Lay3: loops, comprehensions, lists that change, calls, a def's promise. -/
namespace Ly
open PySem PySem.Spec PyProof.Rows L2

/-! ### plain loops -/
inductive Ctl (S R : Type) where
  | nx (s : S) | bk (s : S) | rt (r : R)
def loopM {α S R : Type} (b : α → S → Option (Ctl S R)) : List α → S → Option (Ctl S R)
  | [], s => some (.nx s)
  | x :: xs, s => match b x s with
    | none => none
    | some (.nx s') => loopM b xs s'
    | some (.bk s') => some (.nx s')
    | some (.rt r) => some (.rt r)
def whileM {S R : Type} (c : S → Option Bool) (b : S → Option (Ctl S R)) : Nat → S → Option (Ctl S R)
  | 0, _ => none
  | n + 1, s => match c s with
    | none => none
    | some false => some (.nx s)
    | some true => match b s with
      | none => none
      | some (.nx s') => whileM c b n s'
      | some (.bk s') => some (.nx s')
      | some (.rt r) => some (.rt r)
def compM {α β S : Type} (f : α → S → Option (Option β × S)) : List α → S → Option (List β × S)
  | [], s => some ([], s)
  | x :: xs, s => match f x s with
    | none => none
    | some (y, s1) => match compM f xs s1 with
      | none => none
      | some (ys, s2) => some ((match y with | some v => v :: ys | none => ys), s2)
def LIM : Nat := 16777216
def comp {α β S : Type} (f : α → S → Option (Option β × S)) (xs : List α) (s : S) : Option (List β × S) := if xs.length ≤ LIM then compM f xs s else none
def obind {α β : Type} (m : Option α) (k : α → Option β) : Option β := match m with
  | none => none
  | some a => k a
theorem obind_some {α β : Type} {m : Option α} {k : α → Option β} {r : β} (h : obind m k = some r) : ∃ a, m = some a ∧ k a = some r := by
  cases m with
  | none => cases h
  | some a => exact ⟨a, rfl, h⟩
theorem cond_t {α : Type} {b : Bool} {x y : α} {r : α} (hb : b = true) (h : cond b x y = r) : x = r := by rw [hb] at h; exact h
theorem cond_f {α : Type} {b : Bool} {x y : α} {r : α} (hb : b = false) (h : cond b x y = r) : y = r := by rw [hb] at h; exact h
theorem compM_len {α β S : Type} {f : α → S → Option (Option β × S)} : ∀ {xs : List α} {s : S} {ys : List β} {s' : S}, compM f xs s = some (ys, s') → ys.length ≤ xs.length
  | [], _, _, _, h => by cases h; exact Nat.le_refl _
  | x :: xs, s, ys, s', h => by
    unfold compM at h
    split at h
    · cases h
    · rename_i y s1 e
      split at h
      · cases h
      · rename_i zs s2 e2
        have ih := compM_len e2
        cases h
        cases y with
        | none => exact Nat.le_succ_of_le ih
        | some v => exact Nat.succ_le_succ ih

section
variable {K : PySem.W.Frag} {R F G H : Hp} {ps : List Addr} {ρ ρ' : List Sl} {os os1 os2 os3 : List Ow} {σ : L2.St} {s t : Sl} {d e : D} {te ta tb : TE} {tt tu : TT} {P : Post}

/-! ### weakening -/
inductive WkS (n : Nat) : List Sl → List Sl → Prop
  | nil : WkS n [] []
  | un {s : Sl} {r r' : List Sl} : WkS n r r' → WkS n (s :: r) (.un :: r')
  | fz {d : D} {r r' : List Sl} : WkS n r r' → WkS n (.fz d :: r) (.fz d :: r')
  | at {i : Nat} {r r' : List Sl} : i < n → WkS n r r' → WkS n (.at i :: r) (.at i :: r')
inductive WkO : List Ow → List Ow → Prop
  | nil {os : List Ow} : WkO os []
  | gone {o : Ow} {os os' : List Ow} : WkO os os' → WkO (o :: os) (.gone :: os')
  | has {d : D} {os os' : List Ow} : WkO os os' → WkO (.has d :: os) (.has d :: os')
  | deep {m : Mk} {d : D} {os os' : List Ow} : WkO os os' → WkO (.deep m d :: os) (.deep m d :: os')
structure Wk (ρ : List Sl) (os : List Ow) (ρ' : List Sl) (os' : List Ow) : Prop where
  s : WkS os'.length ρ ρ'
  o : WkO os os'
theorem WkO.get : ∀ {os os' : List Ow} {i : Nat} {d : D}, WkO os os' → os'[i]? = some (.has d) → os[i]? = some (.has d)
  | _, _, _, _, .nil, h => by simp at h
  | _, _, 0, _, .gone _, h => by simp at h
  | _, _, i + 1, _, .gone w, h => by simpa using WkO.get w (i := i) (by simpa using h)
  | _, _, 0, _, .has _, h => by simpa using h
  | _, _, i + 1, _, .has w, h => by simpa using WkO.get w (i := i) (by simpa using h)
  | _, _, 0, _, .deep _, h => by simp at h
  | _, _, i + 1, _, .deep w, h => by simpa using WkO.get w (i := i) (by simpa using h)
theorem WkO.getD : ∀ {os os' : List Ow} {i : Nat} {m : Mk} {d : D}, WkO os os' → os'[i]? = some (.deep m d) → os[i]? = some (.deep m d)
  | _, _, _, _, _, .nil, h => by simp at h
  | _, _, 0, _, _, .gone _, h => by simp at h
  | _, _, i + 1, _, _, .gone w, h => by simpa using WkO.getD w (i := i) (by simpa using h)
  | _, _, 0, _, _, .has _, h => by simp at h
  | _, _, i + 1, _, _, .has w, h => by simpa using WkO.getD w (i := i) (by simpa using h)
  | _, _, 0, _, _, .deep _, h => by simpa using h
  | _, _, i + 1, _, _, .deep w, h => by simpa using WkO.getD w (i := i) (by simpa using h)
theorem WkO.len : ∀ {os os' : List Ow}, WkO os os' → os'.length ≤ os.length
  | _, _, .nil => Nat.zero_le _
  | _, _, .gone w => Nat.succ_le_succ w.len
  | _, _, .has w => Nat.succ_le_succ w.len
  | _, _, .deep w => Nat.succ_le_succ w.len
theorem Hst.wk (h : Hst K F R ps os H) {os' : List Ow} (w : WkO os os') : Hst K F R (ps.take os'.length) os' H := by
  have g1 : ∀ i a, (ps.take os'.length)[i]? = some a → ps[i]? = some a := fun i a q => by
    rw [List.getElem?_take] at q
    split at q
    · exact q
    · cases q
  have hl := w.len
  have hp := h.len
  exact ⟨h.sub, h.oth, by rw [List.length_take]; omega, fun i p d h1 h2 => h.own i p d (g1 _ _ h1) (w.get h2), fun i j p h1 h2 ⟨d1, h3⟩ ⟨d2, h4⟩ => h.dis i j p (g1 _ _ h1) (g1 _ _ h2) ⟨d1, w.get h3⟩ ⟨d2, w.get h4⟩,
    h.dp.tr (Ex.refl F) (fun i p m d x y => ⟨g1 _ _ x, w.getD y⟩) fun a f r n q => ⟨f, r, fun _ z => z, fun j q' e x y => q j q' e (g1 _ _ x) (w.get y)⟩⟩
theorem WkS.sl {n : Nat} : ∀ {σ : L2.St} {ρ ρ' : List Sl}, Slots K F ps σ ρ → WkS n ρ ρ' → Slots K F (ps.take n) σ ρ'
  | _, _, _, .nil, .nil => .nil
  | _, _, _, .cons _ t, .un w => .cons (by unfold SlR; trivial) (WkS.sl t w)
  | _, _, _, .cons r t, .fz w => .cons (by
      rename_i a _ _ _ _
      cases a with
      | none => exact r.elim
      | some v => exact r) (WkS.sl t w)
  | _, _, _, .cons r t, .at hi w => .cons (by
      rename_i a _ _ _ _
      cases a with
      | none => exact r.elim
      | some v =>
        obtain ⟨p, h1, h2⟩ := r
        exact ⟨p, by rw [List.getElem?_take_of_lt hi]; exact h1, h2⟩) (WkS.sl t w)
theorem St.wk (h : St K R F ps ρ os σ H) {os' : List Ow} (w : Wk ρ os ρ' os') : St K R F (ps.take os'.length) ρ' os' σ H := ⟨WkS.sl h.sl w.s, h.hst.wk w.o⟩
theorem take_pre {ps qs : List Addr} {n : Nat} (h : ps <+: qs) (e : n = ps.length) : ps <+: qs.take n := by
  subst e
  obtain ⟨t, rfl⟩ := h
  rw [List.take_left]
  exact List.prefix_refl _

/-! ### targets -/
def TgB (K : PySem.W.Frag) (g : TG) (d : D) (ρ ρ' : List Sl) (js : List Nat) : Prop :=
  ∀ (R F : Hp) (ps : List Addr) (os : List Ow) (σ : L2.St) (H : Hp) (v : V) (Q : L2.St → Hp → Prop), St K R F ps ρ os σ H → Rp K F v d →
    (∀ σ', St K R F ps ρ' os σ' H → (∀ i, i ∉ js → σ'[i]? = σ[i]?) → σ'.length = σ.length → Q σ' H) → g v σ H Q
def TgBs (K : PySem.W.Frag) (g : TGs) (ds : List D) (ρ ρ' : List Sl) (js : List Nat) : Prop :=
  ∀ (R F : Hp) (ps : List Addr) (os : List Ow) (σ : L2.St) (H : Hp) (vs : List V) (Q : L2.St → Hp → Prop), St K R F ps ρ os σ H → RpL K F vs ds →
    (∀ σ', St K R F ps ρ' os σ' H → (∀ i, i ∉ js → σ'[i]? = σ[i]?) → σ'.length = σ.length → Q σ' H) → g vs σ H Q
theorem tgb_name {i : Nat} : TgB K (gName i) d ρ (ρ.set i (.fz d)) [i] := fun R F ps os σ H v Q I r q =>
  q _ (I.set i (s := .fz d) (ov := some v) r) (fun j hj => List.getElem?_set_ne (fun z => hj (by rw [z]; exact List.mem_singleton.mpr rfl))) (List.length_set ..)
theorem tgbs_nil : TgBs K gNil [] ρ ρ [] := fun R F ps os σ H vs Q I r q => by
  cases r
  exact ⟨rfl, q σ I (fun _ _ => rfl) rfl⟩
theorem tgbs_cons {g : TG} {gs : TGs} {ds : List D} {ρ2 : List Sl} {is js : List Nat} (h1 : TgB K g d ρ ρ' is) (h2 : TgBs K gs ds ρ' ρ2 js) : TgBs K (gCons g gs) (d :: ds) ρ ρ2 (is ++ js) := fun R F ps os σ H vs Q I r q => by
  cases r with
  | cons r1 r2 =>
    refine ⟨_, _, rfl, h1 R F ps os σ H _ _ I r1 fun σ1 I1 e1 l1 => h2 R F ps os σ1 H _ _ I1 r2 fun σ2 I2 e2 l2 => q σ2 I2 (fun i hi => ?_) (l2.trans l1)⟩
    rw [e2 i fun z => hi (List.mem_append.mpr (.inr z)), e1 i fun z => hi (List.mem_append.mpr (.inl z))]
theorem tgb_tup {gs : TGs} {ds : List D} {n : Nat} {js : List Nat} (h : TgBs K gs ds ρ ρ' js) (hn : ds.length = n) : TgB K (gTup K n gs) (.tup ds) ρ ρ' js := fun R F ps os σ H v Q I r q => by
  obtain ⟨a, xs, rfl, h1, h2⟩ := I.seeT (s := .fz (.tup ds)) (v := v) r rfl
  exact ⟨a, xs, rfl, h1, by rw [h2.length]; exact hn, h R F ps os σ H xs Q I h2 q⟩
theorem run_asgT {g : TG} {js : List Nat} (h : Ev K te ρ os d os1) (hg : TgB K g d ρ ρ' js) (k : P.nx ρ' os1) : Run K (tAsg te g) ρ os P := fun R F ps σ H Dn I c =>
  h R F ps σ H _ I fun v F1 H1 e1 I1 r1 => hg R F1 ps os1 σ H1 v _ I1 r1 fun σ' I2 _ _ => c.nx _ _ F1 ps _ H1 e1 (List.prefix_refl _) I2 k
/-- a, b = e, f -/
theorem run_par {i j : Nat} {ta : TA} (h : EvA K ta ρ os [s, t] os1) (k : P.nx ((ρ.set i s).set j t) os1) : Run K (tPar i j ta) ρ os P := fun R F ps σ H Dn I c =>
  h R F ps σ H _ I fun vs F1 H1 e1 I1 r1 => by
    match vs, r1 with
    | [v, w], .cons r1 (.cons r2 .nil) => exact ⟨v, w, rfl, c.nx _ _ F1 ps _ H1 e1 (List.prefix_refl _) ((I1.set i r1).set j r2) k⟩

/-! ### what is walked -/
def Walks (K : PySem.W.Frag) (J : It) (F : Hp) (ds : List D) : Prop :=
  Walk J ds.length (fun H => Ex F H) fun i H x H' => ∃ d, ds[i]? = some d ∧ ∀ (R F2 : Hp) (ps : List Addr) (os : List Ow), Ex F F2 → Hst K F2 R ps os H → ∃ F3, Ex F2 F3 ∧ Hst K F3 R ps os H' ∧ Rp K F3 x d
def Src (K : PySem.W.Frag) (wi : TI) (ρ : List Sl) (os : List Ow) (ds : List D) (os' : List Ow) : Prop :=
  ∀ (R F : Hp) (ps : List Addr) (σ : L2.St) (H : Hp) (Q : It → Hp → Prop), St K R F ps ρ os σ H → (∀ J F' H', Ex F F' → St K R F' ps ρ os' σ H' → Walks K J F' ds → Q J H') → wi σ H Q
theorem src_list {ds : List D} (h : Ev K te ρ os (.lst ds) os1) : Src K (iList K te) ρ os ds os1 := fun R F ps σ H Q I q =>
  h R F ps σ H _ I fun v F1 H1 e1 I1 r1 => by
    cases (show Rp K F1 v (.lst ds) from r1) with
    | @lst a xs _ h1 h2 =>
      refine ⟨a, rfl, ⟨xs, I1.hst.sub.sqL h1⟩, q _ F1 H1 e1 I1 ?_⟩
      unfold Walks
      rw [← h2.length]
      refine walk_list.mono (fun H' e => e.sqL h1) fun i H' x H'' hi e y => ?_
      obtain ⟨rfl, y⟩ := y
      obtain ⟨d, q1, q2⟩ := h2.getV y
      exact ⟨d, q1, fun R F2 ps os e2 I2 => ⟨F2, Ex.refl _, I2, q2.up e2⟩⟩
theorem src_tup {ds : List D} (h : Ev K te ρ os (.tup ds) os1) : Src K (iTup K te) ρ os ds os1 := fun R F ps σ H Q I q =>
  h R F ps σ H _ I fun v F1 H1 e1 I1 r1 => by
    have r2 : Rp K F1 v (.tup ds) := r1
    have : ∃ a xs, v = .ref a ∧ SqT K F1 a xs ∧ RpL K F1 xs ds := by
      cases r2 with
      | tup h1 h2 => exact ⟨_, _, rfl, .inl (.inl h1), h2⟩
    obtain ⟨a, xs, rfl, h1, h2⟩ := this
    refine ⟨a, rfl, ⟨xs, I1.hst.sub.sqT h1⟩, q _ F1 H1 e1 I1 ?_⟩
    unfold Walks
    rw [← h2.length]
    refine walk_tup.mono (fun H' e => e.sqT h1) fun i H' x H'' hi e y => ?_
    obtain ⟨rfl, y⟩ := y
    obtain ⟨d, q1, q2⟩ := h2.getV y
    exact ⟨d, q1, fun R F2 ps os e2 I2 => ⟨F2, Ex.refl _, I2, q2.up e2⟩⟩
/-- lo, lo + 1, .. below hi -/
def rng (lo hi : Int) : List Int := (List.range (hi - lo).toNat).map fun (i : Nat) => lo + (i : Int)
theorem rng_len {lo hi : Int} : (rng lo hi).length = (hi - lo).toNat := by simp [rng]
theorem rng_get {lo hi : Int} {i : Nat} (h : i < (hi - lo).toNat) : (rng lo hi)[i]? = some (lo + (i : Int)) := by
  unfold rng
  rw [List.getElem?_map, List.getElem?_range h]
  rfl
def rngOk (lo hi : Int) : Bool := decide (-(2 ^ 62) ≤ lo ∧ lo < 2 ^ 62 ∧ -(2 ^ 62) ≤ hi ∧ hi < 2 ^ 62)
theorem walks_range {lo hi : Int} : Walks K (Itr lo (hi - lo).toNat) F ((rng lo hi).map D.int) := by
  unfold Walks
  rw [List.length_map, rng_len]
  refine walk_range.mono (fun _ _ => True.intro) fun i H x H' hi _ y => ?_
  obtain ⟨rfl, rfl⟩ := y
  exact ⟨.int (lo + i), by rw [List.getElem?_map, rng_get hi]; rfl, fun R F2 ps os _ I => ⟨F2, Ex.refl _, I, .int _⟩⟩
theorem one_of {F : Hp} {vs : List V} {d : D} (h : Paired (SlR K F ps) (vs.map some) [.fz d]) : ∃ v, vs = [v] ∧ Rp K F v d := by
  match vs, h with
  | [v], .cons r .nil => exact ⟨v, rfl, r⟩
theorem two_of {F : Hp} {vs : List V} {d e : D} (h : Paired (SlR K F ps) (vs.map some) [.fz d, .fz e]) : ∃ v w, vs = [v, w] ∧ Rp K F v d ∧ Rp K F w e := by
  match vs, h with
  | [v, w], .cons r (.cons q .nil) => exact ⟨v, w, rfl, r, q⟩
theorem oneS_of {F : Hp} {vs : List V} {s : Sl} (h : Paired (SlR K F ps) (vs.map some) [s]) : ∃ v, vs = [v] ∧ SlR K F ps (some v) s := by
  match vs, h with
  | [v], .cons r .nil => exact ⟨v, rfl, r⟩
theorem src_rng1 {ta : TA} {n : Int} (h : EvA K ta ρ os [.fz (.int n)] os1) (hn : rngOk 0 n = true) : Src K (iRng1 ta) ρ os ((rng 0 n).map D.int) os1 := fun R F ps σ H Q I q =>
  h R F ps σ H _ I fun vs F1 H1 e1 I1 r1 => by
    obtain ⟨v, rfl, r⟩ := one_of r1
    cases r
    have := of_decide_eq_true hn
    refine ⟨n, rfl, by omega, by omega, q _ F1 H1 e1 I1 ?_⟩
    have w := walks_range (K := K) (F := F1) (lo := 0) (hi := n)
    rw [Int.sub_zero] at w
    exact w
theorem src_rng2 {ta : TA} {m n : Int} (h : EvA K ta ρ os [.fz (.int m), .fz (.int n)] os1) (hn : rngOk m n = true) : Src K (iRng2 ta) ρ os ((rng m n).map D.int) os1 := fun R F ps σ H Q I q =>
  h R F ps σ H _ I fun vs F1 H1 e1 I1 r1 => by
    obtain ⟨v, w, rfl, r, r'⟩ := two_of r1
    cases r; cases r'
    have := of_decide_eq_true hn
    exact ⟨m, n, rfl, ⟨by omega, by omega, by omega, by omega⟩, q _ F1 H1 e1 I1 walks_range⟩

/-! ### for -/
abbrev LPost {S Rr : Type} (P : Post) (shape : S → List Sl) (osh : S → List Ow) (RP : Rr → Sl → List Ow → Prop) (c : Ctl S Rr) (RX : Rr → Addr → List (Str × D) → List Sl → List Ow → Prop := fun _ _ _ _ _ => False) : Post where
  nx := fun ρ' os' => ∃ s', c = .nx s' ∧ Wk ρ' os' (shape s') (osh s')
  ct := fun ρ' os' => ∃ s', c = .nx s' ∧ Wk ρ' os' (shape s') (osh s')
  bk := fun ρ' os' => ∃ s', c = .bk s' ∧ Wk ρ' os' (shape s') (osh s')
  rt := fun sl os' => ∃ r, c = .rt r ∧ RP r sl os'
  EX := P.EX
  ex := fun C fs ρ' os' => ∃ r, c = .rt r ∧ RX r C fs ρ' os'
theorem loopM_drop {α S Rr : Type} {b : α → S → Option (Ctl S Rr)} {xs : List α} {i : Nat} {x : α} {s : S} (h : xs[i]? = some x) :
    loopM b (xs.drop i) s = match b x s with
      | none => none
      | some (.nx s') => loopM b (xs.drop (i + 1)) s'
      | some (.bk s') => some (.nx s')
      | some (.rt r) => some (.rt r) := by
  obtain ⟨hi, rfl⟩ := List.getElem?_eq_some_iff.mp h
  rw [List.drop_eq_getElem_cons hi]
  rfl
theorem for_at {α S Rr : Type} [Enc α] {wi : TI} {g : TG} {tb : TS} {xs : List α} {b : α → S → Option (Ctl S Rr)} {s0 : S} {c : Ctl S Rr} {RX : Rr → Addr → List (Str × D) → List Sl → List Ow → Prop} (shape : S → List Sl) (osh : S → List Ow) (RP : Rr → Sl → List Ow → Prop)
    (hm : loopM b xs s0 = some c) (hw : Wk ρ os1 (shape s0) (osh s0)) (hn : ∀ s, (osh s).length = os1.length)
    (hb : ∀ x s c', x ∈ xs → b x s = some c' → ∃ ρ' js, TgB K g (E x) (shape s) ρ' js ∧ Run K tb ρ' (osh s) (LPost P shape osh RP c' RX))
    (hx : ∀ s, c = .nx s → P.nx (shape s) (osh s)) (hr : ∀ r, c = .rt r → ∀ sl os', RP r sl os' → P.rt sl os') (hrx : ∀ r, c = .rt r → ∀ C fs ρ' os', RX r C fs ρ' os' → P.ex C fs ρ' os')
    {σ : L2.St} {H : Hp} {Dn : Ends} (len : ps.length = os1.length) (cn : Cont K R P F ps Dn)
    (hs : ∀ Q : It → Hp → Prop, (∀ J F' H', Ex F F' → St K R F' ps ρ os1 σ H' → Walks K J F' (xs.map E) → Q J H') → wi σ H Q) : tFor wi g tb Dn σ H :=
  hs _ fun J F1 H1 e1 I1 w => by
    have hps : ps.length = os1.length := I1.hst.len
    let Pv : Nat → L2.St → Hp → Prop := fun i σ' H' => ∃ s F' ps', loopM b (xs.drop i) s = some c ∧ Ex F1 F' ∧ ps <+: ps' ∧ St K R F' ps' (shape s) (osh s) σ' H'
    have hEnd : ∀ s F' ps' σ' H', c = .nx s → Ex F1 F' → ps <+: ps' → St K R F' ps' (shape s) (osh s) σ' H' → Dn.nx σ' H' := fun s F' ps' σ' H' hc e p J => cn.nx _ _ F' ps' σ' H' (e1.trans e) p J (hx s hc)
    have fin : ∀ {s' : S} {ρ' : List Sl} {os' : List Ow} {F' : Hp} {ps' : List Addr} {σ' : L2.St} {H' : Hp}, ps <+: ps' → St K R F' ps' ρ' os' σ' H' → Wk ρ' os' (shape s') (osh s') → ps <+: ps'.take (osh s').length ∧ St K R F' (ps'.take (osh s').length) (shape s') (osh s') σ' H' :=
      fun {s' ρ' os' F' ps' σ' H'} p J w => ⟨take_pre p ((hn s').trans hps.symm), J.wk w⟩
    refine for_it w Pv ?_ ?_ ?_ ?_
    · obtain ⟨p, J0⟩ := fin (List.prefix_refl ps) I1 hw
      exact ⟨s0, F1, _, hm, Ex.refl _, p, J0⟩
    · rintro i σ' H' _ ⟨s, F', ps', _, e, _, J'⟩
      exact e.trans J'.hst.sub
    · rintro i v σ' H' H'' hi ⟨s, F', ps', hl, e, p, J'⟩ ⟨d, hd, hy⟩
      rw [List.getElem?_map] at hd
      obtain ⟨x, hx', rfl⟩ := Option.map_eq_some_iff.mp hd
      obtain ⟨F3, e3, J3, r3⟩ := hy R F' ps' (osh s) e J'.hst
      have J4 : St K R F3 ps' (shape s) (osh s) σ' H'' := ⟨J'.sl.up e3 (List.prefix_refl _), J3⟩
      rw [loopM_drop hx'] at hl
      cases hbx : b x s with
      | none => rw [hbx] at hl; cases hl
      | some c' =>
        rw [hbx] at hl
        obtain ⟨ρ', js, ht, hrun⟩ := hb x s c' (List.mem_of_getElem? hx') hbx
        refine ht R F3 ps' (osh s) σ' H'' v _ J4 r3 fun σ2 J5 _ _ => hrun R F3 ps' σ2 H'' _ J5 ⟨?_, ?_, ?_, ?_, ?_⟩
        · rintro ρ2 os2 F4 ps4 σ4 H4 e4 p4 J6 ⟨s', hc, w'⟩
          subst hc
          obtain ⟨p5, J7⟩ := fin (p.trans p4) J6 w'
          exact ⟨s', F4, _, hl, e.trans (e3.trans e4), p5, J7⟩
        · rintro sl ρ2 os2 F4 ps4 σ4 v4 H4 e4 p4 J6 r6 ⟨r, hc, hR⟩
          subst hc
          cases hl
          exact cn.rt sl _ os2 F4 ps4 σ4 v4 H4 (e1.trans (e.trans (e3.trans e4))) (p.trans p4) J6 r6 (hr r rfl sl os2 hR)
        · rintro ρ2 os2 F4 ps4 σ4 H4 e4 p4 J6 ⟨s', hc, w'⟩
          subst hc
          cases hl
          obtain ⟨p5, J7⟩ := fin (p.trans p4) J6 w'
          exact hEnd s' F4 _ σ4 H4 rfl (e.trans (e3.trans e4)) p5 J7
        · rintro ρ2 os2 F4 ps4 σ4 H4 e4 p4 J6 ⟨s', hc, w'⟩
          subst hc
          obtain ⟨p5, J7⟩ := fin (p.trans p4) J6 w'
          exact ⟨s', F4, _, hl, e.trans (e3.trans e4), p5, J7⟩
        · rintro C fs ρ2 os2 F4 ps4 σ4 d H4 e4 p4 J6 xd ⟨r, hc, hR⟩
          subst hc
          cases hl
          exact cn.ex C fs ρ2 os2 F4 ps4 σ4 d H4 (e1.trans (e.trans (e3.trans e4))) (p.trans p4) J6 xd (hrx r rfl C fs ρ2 os2 hR)
    · rintro σ' H' ⟨s, F', ps', hl, e, p, J'⟩
      rw [List.length_map, List.drop_length] at hl
      exact hEnd s F' ps' σ' H' (Option.some.inj hl).symm e p J'

theorem run_forX {α S Rr : Type} [Enc α] {wi : TI} {g : TG} {tb : TS} {xs : List α} {b : α → S → Option (Ctl S Rr)} {s0 : S} {c : Ctl S Rr} (shape : S → List Sl) (osh : S → List Ow) (RP : Rr → Sl → List Ow → Prop) (RX : Rr → Addr → List (Str × D) → List Sl → List Ow → Prop)
    (hs : Src K wi ρ os (xs.map E) os1) (hm : loopM b xs s0 = some c) (hw : Wk ρ os1 (shape s0) (osh s0)) (hn : ∀ s, (osh s).length = os1.length)
    (hb : ∀ x s c', x ∈ xs → b x s = some c' → ∃ ρ' js, TgB K g (E x) (shape s) ρ' js ∧ Run K tb ρ' (osh s) (LPost P shape osh RP c' RX))
    (hx : ∀ s, c = .nx s → P.nx (shape s) (osh s)) (hr : ∀ r, c = .rt r → ∀ sl os', RP r sl os' → P.rt sl os') (hrx : ∀ r, c = .rt r → ∀ C fs ρ' os', RX r C fs ρ' os' → P.ex C fs ρ' os') : Run K (tFor wi g tb) ρ os P := fun R F ps σ H Dn I cn => by
  by_cases hl : ps.length = os1.length
  · exact for_at shape osh RP hm hw hn hb hx hr hrx hl cn fun Q q => hs R F ps σ H Q I q
  · exact hs R F ps σ H _ I fun J F1 H1 e1 I1 w => absurd I1.hst.len hl
theorem run_for {α S Rr : Type} [Enc α] {wi : TI} {g : TG} {tb : TS} {xs : List α} {b : α → S → Option (Ctl S Rr)} {s0 : S} {c : Ctl S Rr} (shape : S → List Sl) (osh : S → List Ow) (RP : Rr → Sl → List Ow → Prop)
    (hs : Src K wi ρ os (xs.map E) os1) (hm : loopM b xs s0 = some c) (hw : Wk ρ os1 (shape s0) (osh s0)) (hn : ∀ s, (osh s).length = os1.length)
    (hb : ∀ x s c', x ∈ xs → b x s = some c' → ∃ ρ' js, TgB K g (E x) (shape s) ρ' js ∧ Run K tb ρ' (osh s) (LPost P shape osh RP c'))
    (hx : ∀ s, c = .nx s → P.nx (shape s) (osh s)) (hr : ∀ r, c = .rt r → ∀ sl os', RP r sl os' → P.rt sl os') : Run K (tFor wi g tb) ρ os P :=
  run_forX shape osh RP _ hs hm hw hn hb hx hr fun _ _ _ _ _ _ z => z.elim

/-! ### while -/
theorem run_whileX {S Rr : Type} {tb : TS} {cM : S → Option Bool} {b : S → Option (Ctl S Rr)} {n : Nat} {s0 : S} {c : Ctl S Rr} (shape : S → List Sl) (osh : S → List Ow) (RP : Rr → Sl → List Ow → Prop) (RX : Rr → Addr → List (Str × D) → List Sl → List Ow → Prop)
    (hm : whileM cM b n s0 = some c) (hw : Wk ρ os (shape s0) (osh s0)) (hn : ∀ s, (osh s).length = os.length)
    (ht : ∀ s q, cM s = some q → EvT K tt (shape s) (osh s) q (osh s))
    (hb : ∀ s c', cM s = some true → b s = some c' → Run K tb (shape s) (osh s) (LPost P shape osh RP c' RX))
    (hx : ∀ s, c = .nx s → P.nx (shape s) (osh s)) (hr : ∀ r, c = .rt r → ∀ sl os', RP r sl os' → P.rt sl os') (hrx : ∀ r, c = .rt r → ∀ C fs ρ' os', RX r C fs ρ' os' → P.ex C fs ρ' os') : Run K (tWhile tt tb) ρ os P := fun R F ps σ H Dn I cn => by
  have hps : ps.length = os.length := I.hst.len
  have fin : ∀ {s' : S} {ρ' : List Sl} {os' : List Ow} {F' : Hp} {ps' : List Addr} {σ' : L2.St} {H' : Hp}, ps <+: ps' → St K R F' ps' ρ' os' σ' H' → Wk ρ' os' (shape s') (osh s') → ps <+: ps'.take (osh s').length ∧ St K R F' (ps'.take (osh s').length) (shape s') (osh s') σ' H' :=
    fun {s' ρ' os' F' ps' σ' H'} p J w => ⟨take_pre p ((hn s').trans hps.symm), J.wk w⟩
  refine ⟨fun m σ' H' => ∃ s F' ps', whileM cM b m s = some c ∧ Ex F F' ∧ ps <+: ps' ∧ St K R F' ps' (shape s) (osh s) σ' H', ⟨n, ?_⟩, ?_⟩
  · obtain ⟨p, J0⟩ := fin (List.prefix_refl ps) I hw
    exact ⟨s0, F, _, hm, Ex.refl _, p, J0⟩
  · rintro m σ' H' ⟨s, F', ps', hl, e, p, J⟩
    cases m with
    | zero => cases hl
    | succ m =>
      unfold whileM at hl
      cases hc : cM s with
      | none => rw [hc] at hl; cases hl
      | some q =>
        rw [hc] at hl
        refine ht s q hc R F' ps' σ' H' _ J fun F2 H2 e2 J2 => ?_
        cases q with
        | false =>
          cases hl
          exact cn.nx _ _ F2 ps' σ' H2 (e.trans e2) p J2 (hx s rfl)
        | true =>
          cases hbx : b s with
          | none => rw [hbx] at hl; cases hl
          | some c' =>
            rw [hbx] at hl
            refine ⟨fun σ3 H3 => ∃ s F' ps', whileM cM b m s = some c ∧ Ex F F' ∧ ps <+: ps' ∧ St K R F' ps' (shape s) (osh s) σ3 H3, fun σ3 H3 h3 => ⟨m, Nat.lt_succ_self m, h3⟩, ?_⟩
            refine hb s c' hc hbx R F2 ps' σ' H2 _ J2 ⟨?_, ?_, ?_, ?_, ?_⟩
            · rintro ρ2 os2 F4 ps4 σ4 H4 e4 p4 J6 ⟨s', hc, w'⟩
              subst hc
              obtain ⟨p5, J7⟩ := fin (p.trans p4) J6 w'
              exact ⟨s', F4, _, hl, e.trans (e2.trans e4), p5, J7⟩
            · rintro sl ρ2 os2 F4 ps4 σ4 v4 H4 e4 p4 J6 r6 ⟨r, hc, hR⟩
              subst hc
              cases hl
              exact cn.rt sl _ os2 F4 ps4 σ4 v4 H4 (e.trans (e2.trans e4)) (p.trans p4) J6 r6 (hr r rfl sl os2 hR)
            · rintro ρ2 os2 F4 ps4 σ4 H4 e4 p4 J6 ⟨s', hc, w'⟩
              subst hc
              cases hl
              obtain ⟨p5, J7⟩ := fin (p.trans p4) J6 w'
              exact cn.nx _ _ F4 _ σ4 H4 (e.trans (e2.trans e4)) p5 J7 (hx s' rfl)
            · rintro ρ2 os2 F4 ps4 σ4 H4 e4 p4 J6 ⟨s', hc, w'⟩
              subst hc
              obtain ⟨p5, J7⟩ := fin (p.trans p4) J6 w'
              exact ⟨s', F4, _, hl, e.trans (e2.trans e4), p5, J7⟩
            · rintro C fs ρ2 os2 F4 ps4 σ4 d H4 e4 p4 J6 xd ⟨r, hc, hR⟩
              subst hc
              cases hl
              exact cn.ex C fs ρ2 os2 F4 ps4 σ4 d H4 (e.trans (e2.trans e4)) (p.trans p4) J6 xd (hrx r rfl C fs ρ2 os2 hR)
theorem run_while {S Rr : Type} {tb : TS} {cM : S → Option Bool} {b : S → Option (Ctl S Rr)} {n : Nat} {s0 : S} {c : Ctl S Rr} (shape : S → List Sl) (osh : S → List Ow) (RP : Rr → Sl → List Ow → Prop)
    (hm : whileM cM b n s0 = some c) (hw : Wk ρ os (shape s0) (osh s0)) (hn : ∀ s, (osh s).length = os.length)
    (ht : ∀ s q, cM s = some q → EvT K tt (shape s) (osh s) q (osh s))
    (hb : ∀ s c', cM s = some true → b s = some c' → Run K tb (shape s) (osh s) (LPost P shape osh RP c'))
    (hx : ∀ s, c = .nx s → P.nx (shape s) (osh s)) (hr : ∀ r, c = .rt r → ∀ sl os', RP r sl os' → P.rt sl os') : Run K (tWhile tt tb) ρ os P :=
  run_whileX shape osh RP _ hm hw hn ht hb hx hr fun _ _ _ _ _ _ z => z.elim


/-! ### list comprehensions -/
def wipeS (ρ : List Sl) : List Nat → List Sl
  | [] => ρ
  | v :: vs => (wipeS ρ vs).set v .un
theorem slots_wipe (h : Slots K F ps σ ρ) : ∀ vs : List Nat, Slots K F ps (wipe σ vs) (wipeS ρ vs)
  | [] => h
  | v :: vs => Paired.setR (by unfold SlR; trivial) v (slots_wipe h vs)
theorem wipe_get (σ : L2.St) (i : Nat) : ∀ vs : List Nat, (wipe σ vs)[i]? = if i ∈ vs then (σ[i]?).map (fun _ => none) else σ[i]?
  | [] => by simp [wipe]
  | v :: vs => by
    unfold wipe
    have ih := wipe_get σ i vs
    by_cases e : v = i
    · subst e
      rw [List.getElem?_set, if_pos rfl, wipe_length]
      by_cases hl : v < σ.length
      · simp [hl]
      · rw [if_neg hl]
        simp [List.getElem?_eq_none_iff.mpr (Nat.le_of_not_lt hl)]
    · rw [List.getElem?_set_ne e, ih]
      have : (i ∈ v :: vs) ↔ i ∈ vs := by
        rw [List.mem_cons]
        exact ⟨fun h => h.resolve_left fun z => e z.symm, .inr⟩
      by_cases m : i ∈ vs
      · rw [if_pos m, if_pos (this.mpr m)]
      · rw [if_neg m, if_neg fun z => m (this.mp z)]
theorem wipe_back {σ σ' : L2.St} {vs js : List Nat} (h : ∀ i, i ∉ js → σ'[i]? = (wipe σ vs)[i]?) (hl : σ'.length = (wipe σ vs).length) (hj : ∀ j ∈ js, j ∈ vs) : wipe σ' vs = wipe σ vs := by
  apply List.ext_getElem?
  intro i
  rw [wipe_get, wipe_get]
  rw [wipe_length] at hl
  by_cases m : i ∈ vs
  · rw [if_pos m, if_pos m]
    by_cases hi : i < σ.length
    · rw [List.getElem?_eq_getElem hi, List.getElem?_eq_getElem (by omega)]
      rfl
    · rw [List.getElem?_eq_none_iff.mpr (by omega), List.getElem?_eq_none_iff.mpr (by omega)]
  · rw [if_neg m, if_neg m, h i fun z => m (hj i z), wipe_get, if_neg m]
theorem compM_drop {α β S : Type} {f : α → S → Option (Option β × S)} {xs : List α} {i : Nat} {x : α} {s : S} (h : xs[i]? = some x) :
    compM f (xs.drop i) s = match f x s with
    | none => none
    | some (y, s1) => match compM f (xs.drop (i + 1)) s1 with
      | none => none
      | some (ys, s2) => some ((match y with | some v => v :: ys | none => ys), s2) := by
  obtain ⟨hi, rfl⟩ := List.getElem?_eq_some_iff.mp h
  rw [List.drop_eq_getElem_cons hi]
  rfl
/-- one object more of one's own -/
theorem Hst.add (h : Hst K F R ps os H) {p : Addr} {o : HO} (h1 : F p = none) (h2 : R p = none) (h3 : ∀ (i : Nat) (d : D), ps[i]? = some p → os[i]? = some (Ow.has d) → False) (h4 : H p = some o) (h5 : ObjR K F o d) (h6 : Av K F R ps os H p) : Hst K F R (ps ++ [p]) (os ++ [.has d]) H := by
  have key : ∀ i a d', (ps ++ [p])[i]? = some a → (os ++ [Ow.has d])[i]? = some (Ow.has d') → (i < ps.length ∧ ps[i]? = some a ∧ os[i]? = some (Ow.has d')) ∨ (i = ps.length ∧ a = p ∧ d' = d) := fun i a d' q1 q2 => by
    by_cases z : i < ps.length
    · rw [List.getElem?_append_left z] at q1
      rw [List.getElem?_append_left (by rw [← h.len]; exact z)] at q2
      exact .inl ⟨z, q1, q2⟩
    · have z2 : i = ps.length := by
        have := (List.getElem?_eq_some_iff.mp q1).1
        simp at this; omega
      subst z2
      rw [List.getElem?_append_right (Nat.le_refl _)] at q1
      rw [h.len, List.getElem?_append_right (Nat.le_refl _)] at q2
      simp at q1 q2
      exact .inr ⟨rfl, q1.symm, q2.symm⟩
  have app : ∀ {i : Nat} {a : Addr} {w : Ow}, (ps ++ [p])[i]? = some a → (os ++ [Ow.has d])[i]? = some w → (ps[i]? = some a ∧ os[i]? = some w) ∨ (a = p ∧ w = .has d) := fun {i a w} h1 h2 => by
    by_cases z : i < ps.length
    · rw [List.getElem?_append_left z] at h1
      rw [List.getElem?_append_left (by rw [← h.len]; exact z)] at h2
      exact .inl ⟨h1, h2⟩
    · have z2 : i = ps.length := by
        have := (List.getElem?_eq_some_iff.mp h1).1
        simp at this; omega
      subst z2
      rw [List.getElem?_append_right (Nat.le_refl _)] at h1
      rw [h.len, List.getElem?_append_right (Nat.le_refl _)] at h2
      simp at h1 h2
      exact .inr ⟨h1.symm, h2.symm⟩
  obtain ⟨φ, g1, g2⟩ := h6
  refine ⟨h.sub, h.oth, by simp [h.len], fun i a d' q1 q2 => ?_, fun i j a q1 q2 ⟨d1, q3⟩ ⟨d2, q4⟩ => ?_, φ, g1.tr (Ex.refl F) (fun i q m e x y => ?_) fun i a ⟨q', m, d', x', y'⟩ ha f r n q => ⟨f, r, fun _ z => z, fun j q'' e x y => ?_⟩⟩
  rotate_left 2
  · rcases app x y with z | ⟨_, z⟩
    · exact z
    · cases z
  · rcases app x y with w | ⟨w, _⟩
    · exact q j q'' e w.1 w.2
    · rw [w]; exact fun z => g2 i q' m d' x' y' (z ▸ ha)
  · rcases key i a d' q1 q2 with ⟨_, b2, b3⟩ | ⟨_, rfl, rfl⟩
    · exact h.own i a d' b2 b3
    · exact ⟨h1, h2, o, h4, h5⟩
  · rcases key i a d1 q1 q3 with ⟨a1, a2, a3⟩ | ⟨a1, a2, _⟩ <;> rcases key j a d2 q2 q4 with ⟨b1, b2, b3⟩ | ⟨b1, b2, _⟩
    · exact h.dis i j a a2 b2 ⟨_, a3⟩ ⟨_, b3⟩
    · subst b2; exact (h3 i d1 a2 a3).elim
    · subst a2; exact (h3 j d2 b2 b3).elim
    · rw [a1, b1]
theorem Hst.lock1 (h : Hst K F R ps os H) {p : Addr} {xs : List V} (hp : H p = none) : R p = none ∧ F p = none ∧ Hst K F (upd R p (.lst xs)) ps os (upd H p (.lst xs)) := by
  have hF : F p = none := by
    cases q : F p with
    | none => rfl
    | some u => rw [h.sub _ _ q] at hp; cases hp
  have hR : R p = none := by
    cases q : R p with
    | none => rfl
    | some u => rw [(h.oth _ _ q).2.1] at hp; cases hp
  refine ⟨hR, hF, ⟨fun a u q => ?_, fun a u q => ?_, h.len, fun i a d h1 h2 => ?_, h.dis, h.dp.tr (Ex.refl F) (fun _ _ _ _ x y => ⟨x, y⟩) fun a f r n q => by
    have z : a ≠ p := fun z => by obtain ⟨o', n, _⟩ := n; rw [z, hp] at n; cases n
    rw [upd_ne z, upd_ne z]; exact ⟨f, r, fun _ q => q, q⟩⟩⟩
  · rw [upd_ne (ne_of_none q hF)]; exact h.sub _ _ q
  · by_cases z : a = p
    · subst z
      rw [upd_same] at q ⊢
      cases q
      exact ⟨hF, rfl, fun _ z => nomatch z⟩
    · rw [upd_ne z] at q ⊢
      exact h.oth a u q
  · obtain ⟨q1, q2, w, q3, q4⟩ := h.own i a d h1 h2
    have z : a ≠ p := ne_of_none q3 hp
    exact ⟨q1, by rw [upd_ne z]; exact q2, w, by rw [upd_ne z]; exact q3, q4⟩
theorem Hst.set1 {p : Addr} {xs ys : List V} (h : Hst K F (upd R p (.lst xs)) ps os H) : Hst K F (upd R p (.lst ys)) ps os (upd H p (.lst ys)) := by
  obtain ⟨hF, hH, _⟩ := h.oth p _ upd_same
  refine ⟨fun a u q => ?_, fun a u q => ?_, h.len, fun i a d h1 h2 => ?_, h.dis, h.dp.tr (Ex.refl F) (fun _ _ _ _ x y => ⟨x, y⟩) fun a f r n q => by
    have z : a ≠ p := fun z => by subst z; rw [upd_same] at r; cases r
    rw [upd_ne z] at r; rw [upd_ne z, upd_ne z]; exact ⟨f, r, fun _ q => q, q⟩⟩
  · rw [upd_ne (ne_of_none q hF)]; exact h.sub _ _ q
  · by_cases z : a = p
    · subst z
      rw [upd_same] at q ⊢
      cases q
      exact ⟨hF, rfl, fun _ z => nomatch z⟩
    · rw [upd_ne z] at q ⊢
      exact h.oth a u (by rw [upd_ne z]; exact q)
  · obtain ⟨q1, q2, w, q3, q4⟩ := h.own i a d h1 h2
    have z : a ≠ p := fun z => by
      subst z
      rw [upd_same] at q2
      cases q2
    exact ⟨q1, by rw [upd_ne z] at q2 ⊢; exact q2, w, by rw [upd_ne z]; exact q3, q4⟩
theorem Hst.unlock1 {p : Addr} {xs : List V} {ds : List D} (h : Hst K F (upd R p (.lst xs)) ps os H) (hR : R p = none) (r : RpL K F xs ds) : Hst K F R (ps ++ [p]) (os ++ [.has (.lst ds)]) H ∧ Hst K F R ps os H := by
  obtain ⟨hF, hH, _⟩ := h.oth p _ upd_same
  have base : Hst K F R ps os H := by
    refine ⟨h.sub, fun a u q => ?_, h.len, fun i a d h1 h2 => ?_, h.dis, h.dp.tr (Ex.refl F) (fun _ _ _ _ x y => ⟨x, y⟩) fun a f r n q => by
      have z : a ≠ p := fun z => by subst z; rw [upd_same] at r; cases r
      rw [upd_ne z] at r; exact ⟨f, r, fun _ q => q, q⟩⟩
    · exact h.oth a u (by rw [upd_ne (ne_of_none q hR)]; exact q)
    · obtain ⟨q1, q2, w, q3, q4⟩ := h.own i a d h1 h2
      have z : a ≠ p := fun z => by
        subst z
        rw [upd_same] at q2
        cases q2
      exact ⟨q1, by rw [upd_ne z] at q2; exact q2, w, q3, q4⟩
  have ne : ∀ i a d, ps[i]? = some a → os[i]? = some (Ow.has d) → a ≠ p := fun i a d h1 h2 z => by
    obtain ⟨_, q2, _⟩ := h.own i a d h1 h2
    subst z
    rw [upd_same] at q2
    cases q2
  exact ⟨base.add hF hR (fun i d h1 h2 => ne i p d h1 h2 rfl) hH (.lst r) (h.dp.av (by rw [upd_same]; exact fun z => nomatch z) fun a q => by
    by_cases z : a = p
    · rw [z]; exact hR
    · rwa [upd_ne z] at q), base⟩
/-- [e for x in xs if t] -/
theorem en_lc {α β S : Type} [Enc α] [Enc β] {wi : TI} {g : TG} {xs : List α} {f : α → S → Option (Option β × S)} {s0 s1 : S} {ys : List β} {vs : List Nat} (osh : S → List Ow)
    (hs : Src K wi ρ os (xs.map E) os1) (hm : comp f xs s0 = some (ys, s1)) (h0 : os1 = osh s0)
    (hb : ∀ x s y s', x ∈ xs → f x s = some (y, s') → ∃ ρ' js, TgB K g (E x) (wipeS ρ vs) ρ' js ∧ (∀ j ∈ js, j ∈ vs) ∧ ∃ q osm, EvT K tt ρ' (osh s) q osm ∧
      (q = true → ∃ z, y = some z ∧ Ev K te ρ' osm (E z) (osh s')) ∧ (q = false → y = none ∧ osm = osh s')) :
    EvN K (tLc wi g tt te vs) ρ os (E ys) (osh s1) := fun R F ps σ H Q I k =>
  hs R F ps σ H _ I fun J F1 H1 e1 I1 w => by
    intro Dl hD
    subst h0
    unfold comp at hm
    split at hm
    case isFalse => cases hm
    rename_i hlim
    have hys : ys.length ≤ sizeLine := Nat.le_trans (compM_len hm) hlim
    obtain ⟨hR, hF, J0⟩ := I1.hst.lock1 (xs := []) hD
    let Pv : Nat → Hp → Prop := fun i H' => ∃ s F' acc zs as, H' Dl = some (.lst acc) ∧ compM f (xs.drop i) s = some (zs, s1) ∧ as ++ zs = ys ∧ Ex F1 F' ∧ RpL K F' acc (as.map E) ∧ Hst K F' (upd R Dl (.lst acc)) ps (osh s) H'
    refine lc_it w Pv ?_ ?_ ?_ ?_
    · exact ⟨s0, F1, [], ys, [], upd_same, hm, rfl, Ex.refl _, .nil, J0⟩
    · rintro i H' _ ⟨s, F', acc, zs, as, _, _, _, e, _, J'⟩
      exact e.trans J'.sub
    · rintro i v H' H'' hi ⟨s, F', acc, zs, as, hacc, hl, hcat, e, ra, J'⟩ ⟨d, hd, hy⟩
      rw [List.getElem?_map] at hd
      obtain ⟨x, hx', rfl⟩ := Option.map_eq_some_iff.mp hd
      obtain ⟨F3, e3, J3, r3⟩ := hy _ F' ps (osh s) e J'
      rw [compM_drop hx'] at hl
      cases hbx : f x s with
      | none => rw [hbx] at hl; cases hl
      | some ys' =>
        obtain ⟨y, s'⟩ := ys'
        rw [hbx] at hl
        simp only at hl
        cases hrest : compM f (xs.drop (i + 1)) s' with
        | none => rw [hrest] at hl; cases hl
        | some q2 =>
          obtain ⟨zs', s2⟩ := q2
          rw [hrest] at hl
          simp only [Option.some.injEq, Prod.mk.injEq] at hl
          obtain ⟨hz, rfl⟩ := hl
          obtain ⟨ρ', js, ht, hjs, q, osm, hT, hq1, hq2⟩ := hb x s y s' (List.mem_of_getElem? hx') hbx
          have Iw : St K (upd R Dl (.lst acc)) F3 ps (wipeS ρ vs) (osh s) (wipe σ vs) H'' := ⟨slots_wipe (I1.sl.up (e.trans e3) (List.prefix_refl _)) vs, J3⟩
          refine ht _ F3 ps (osh s) _ H'' v _ Iw r3 fun σ2 J5 eq5 l5 => ⟨wipe_back eq5 l5 hjs, ?_⟩
          refine hT _ F3 ps σ2 H'' _ J5 fun F4 H4 e4 J6 => ?_
          cases q with
          | false =>
            obtain ⟨rfl, rfl⟩ := hq2 rfl
            simp only at hz
            subst hz
            refine ⟨s', F4, acc, zs', as, (J6.hst.oth Dl _ upd_same).2.1, hrest, hcat, e.trans (e3.trans e4), ra.up (e3.trans e4), J6.hst⟩
          | true =>
            obtain ⟨z, rfl, hE⟩ := hq1 rfl
            simp only at hz
            subst hz
            refine hE _ F4 ps σ2 H4 _ J6 fun w F5 H5 e5 J7 r7 => ?_
            have hacc5 := (J7.hst.oth Dl _ upd_same).2.1
            have r5 := ra.up (e3.trans (e4.trans e5))
            refine ⟨acc, hacc5, ?_, s', F5, acc ++ [w], zs', as ++ [z], upd_same, hrest, by rw [List.append_assoc]; exact hcat, e.trans (e3.trans (e4.trans e5)), ?_, J7.hst.set1⟩
            · rw [ra.length, List.length_map]
              have := congrArg List.length hcat
              simp at this
              omega
            · rw [List.map_append]
              exact r5.app (.cons r7 .nil)
    · rintro H' ⟨s, F', acc, zs, as, hacc, hl, hcat, e, ra, J'⟩
      rw [List.length_map, List.drop_length] at hl
      cases hl
      rw [List.append_nil] at hcat
      subst hcat
      obtain ⟨a1, a2⟩ := J'.unlock1 hR ra
      have sl : Slots K F' ps σ ρ := I1.sl.up e (List.prefix_refl _)
      exact k Dl F' H' (e1.trans e) ⟨sl.up (Ex.refl _) (List.prefix_append _ _), a1⟩ ⟨sl, a2⟩

/-! ### lists that change -/
theorem map_eraseIdx {α β : Type} {f : α → β} : ∀ {xs : List α} {n : Nat}, (xs.eraseIdx n).map f = (xs.map f).eraseIdx n
  | [], _ => rfl
  | _ :: _, 0 => rfl
  | _ :: _, n + 1 => by
    show _ :: _ = _ :: _
    rw [map_eraseIdx]
theorem map_set {α β : Type} {f : α → β} {x : α} : ∀ {xs : List α} {n : Nat}, (xs.set n x).map f = (xs.map f).set n (f x)
  | [], _ => rfl
  | _ :: _, 0 => rfl
  | _ :: _, n + 1 => by
    show _ :: _ = _ :: _
    rw [map_set]
theorem St.lst (h : St K R F ps ρ os σ H) {i : Nat} {p : Addr} {ds : List D} (hp : ps[i]? = some p) (hk : os[i]? = some (.has (.lst ds))) : ∃ xs, H p = some (.lst xs) ∧ RpL K F xs ds := by
  obtain ⟨_, _, o, h2, h3⟩ := h.hst.own i p _ hp hk
  cases h3 with
  | lst r => exact ⟨_, h2, r⟩
theorem look_at {ds : List D} {i : Nat} (h : os[i]? = some (.has (.lst ds))) : Look os (.at i) (.lst ds) := h
theorem ev_append {α : Type} [Enc α] {xs : List α} {x : α} {i : Nat} (ha : EvS K ta ρ os (.at i) os) (h0 : ∃ ds, os[i]? = some (.has (.lst ds))) (hb : Ev K tb ρ os (E x) os1) (hk : os1[i]? = some (.has (E xs))) (hz : xs.length < LIM) :
    Ev K (tBM K "list" rAppend ta (tCons tb tNil)) ρ os .non (os1.set i (.has (E (xs ++ [x])))) := fun R F ps σ H Q I q =>
  ha R F ps σ H _ I fun v F1 H1 e1 I1 r1 => by
    obtain ⟨p, hp, rfl⟩ := r1
    obtain ⟨ds, h0⟩ := h0
    obtain ⟨xs0, hx0, _⟩ := I1.lst hp h0
    refine ⟨.inl ⟨rfl, xs0, .inl (.inl hx0)⟩, hb R F1 ps σ H1 _ I1 fun w F2 H2 e2 I2 r2 => ?_⟩
    obtain ⟨vs, hv, r⟩ := I2.lst hp hk
    refine ⟨p, vs, w, rfl, rfl, hv, by rw [r.length, List.length_map]; exact hz, q .non F2 _ (e1.trans e2) (I2.wr (d' := E (xs ++ [x])) hp hk ?_) .non⟩
    show ObjR K F2 (.lst (vs ++ [w])) (.lst ((xs ++ [x]).map E))
    rw [List.map_append]
    exact .lst (r.app (.cons r2 .nil))
theorem ev_popAt {α : Type} [Enc α] {xs : List α} {x : α} {i : Nat} {n : Int} (ha : EvS K ta ρ os (.at i) os) (h0 : ∃ ds, os[i]? = some (.has (.lst ds))) (hb : Ev K tb ρ os (.int n) os1) (hk : os1[i]? = some (.has (E xs))) (hn : 0 ≤ n) (hx : xs[n.toNat]? = some x) (hz : xs.length ≤ LIM) :
    Ev K (tBM K "list" rPopAt ta (tCons tb tNil)) ρ os (E x) (os1.set i (.has (E (xs.eraseIdx n.toNat)))) := fun R F ps σ H Q I q =>
  ha R F ps σ H _ I fun v F1 H1 e1 I1 r1 => by
    obtain ⟨p, hp, rfl⟩ := r1
    obtain ⟨ds, h0⟩ := h0
    obtain ⟨xs0, hx0, _⟩ := I1.lst hp h0
    refine ⟨.inl ⟨rfl, xs0, .inl (.inl hx0)⟩, hb R F1 ps σ H1 _ I1 fun w F2 H2 e2 I2 r2 => ?_⟩
    cases (show Rp K F2 w (.int n) from r2)
    obtain ⟨vs, hv, r⟩ := I2.lst hp hk
    have hlen : vs.length = xs.length := by rw [r.length, List.length_map]
    have hlt := (List.getElem?_eq_some_iff.mp hx).1
    obtain ⟨y, hy, ry⟩ := r.get (i := n.toNat) (d := E x) (by rw [List.getElem?_map, hx]; rfl)
    have hz' : xs.length ≤ 16777216 := hz
    refine ⟨p, vs, n, n.toNat, y, rfl, rfl, hv, by omega, by omega, PySem.seqIndex_of hn (by omega), hy, q y F2 _ (e1.trans e2) (I2.wr (d' := E (xs.eraseIdx n.toNat)) hp hk ?_) ry⟩
    show ObjR K F2 (.lst (vs.eraseIdx n.toNat)) (.lst ((xs.eraseIdx n.toNat).map E))
    rw [map_eraseIdx]
    exact .lst (r.eraseIdx _)
/-- xs[i] = e -/
theorem run_setL {α : Type} [Enc α] {xs : List α} {x : α} {i : Nat} {n : Int} {j : Nat} (h : Ev K te ρ os (E x) os1) (ha : EvS K ta ρ os1 (.at i) os1) (hb : Ev K tb ρ os1 (.int n) os2) (hk : os2[i]? = some (.has (E xs))) (hj : ixN xs.length n = some j)
    (k : P.nx ρ (os2.set i (.has (E (xs.set j x))))) : Run K (tAsg te (gSub ta tb rSetL)) ρ os P := fun R F ps σ H Dn I c =>
  h R F ps σ H _ I fun v F1 H1 e1 I1 r1 => ha R F1 ps σ H1 _ I1 fun u F2 H2 e2 I2 r2 => hb R F2 ps σ H2 _ I2 fun w F3 H3 e3 I3 r3 => by
    obtain ⟨p, hp, rfl⟩ := r2
    cases (show Rp K F3 w (.int n) from r3)
    obtain ⟨vs, hv, r⟩ := I3.lst hp hk
    refine ⟨p, vs, n, j, rfl, rfl, hv, by rw [r.length, List.length_map]; exact hj, c.nx _ _ F3 ps σ _ ((e1.trans e2).trans e3) (List.prefix_refl _) (I3.wr (d' := E (xs.set j x)) hp hk ?_) k⟩
    show ObjR K F3 (.lst (vs.set j v)) (.lst ((xs.set j x).map E))
    rw [map_set]
    exact .lst (r.set (Rp.up (e2.trans e3) r1) j)
/-- xs[i] of a list of data -/
theorem atI_map {α β : Type} {f : α → β} {xs : List α} {i : Int} {x : α} (h : atI xs i = some x) : atI (xs.map f) i = some (f x) := by
  unfold atI at h ⊢
  rw [List.length_map]
  cases e : ixN xs.length i with
  | none => rw [e] at h; cases h
  | some j =>
    rw [e] at h
    show (xs.map f)[j]? = some (f x)
    rw [List.getElem?_map, show xs[j]? = some x from h]
    rfl
theorem ev_ix {α : Type} [Enc α] {xs : List α} {x : α} {i : Int} (ha : EvS K ta ρ os s os1) (hb : Ev K tb ρ os1 (.int i) os2) (k : Look os2 s (E xs)) (h : atI xs i = some x) : Ev K (tOp (rIxL K) ta tb) ρ os (E x) os2 :=
  ev_ixL ha hb k (atI_map h)
theorem ev_ixTT {α : Type} [Enc α] {xs : Tup α} {x : α} {i : Int} (ha : EvS K ta ρ os s os1) (hb : Ev K tb ρ os1 (.int i) os2) (k : Look os2 s (E xs)) (h : atI xs.l i = some x) : Ev K (tOp (rIxT K) ta tb) ρ os (E x) os2 :=
  ev_ixT ha hb k (atI_map h)
theorem ev_lenL {α : Type} [Enc α] {xs : List α} {ta : TA} (h : EvA K ta ρ os [s] os1) (k : Look os1 s (E xs)) :
    Ev K (tCB (fun xs H Q => ∃ p ys, xs = [.ref p] ∧ (SqL K H p ys ∨ SqT K H p ys) ∧ Q (.int ys.length) H) ta) ρ os (.int (xs.length : Int)) os1 := by
  have := ev_len h (.inl k)
  rwa [List.length_map] at this
theorem ev_lenT {α : Type} [Enc α] {xs : Tup α} {ta : TA} (h : EvA K ta ρ os [s] os1) (k : Look os1 s (E xs)) :
    Ev K (tCB (fun xs H Q => ∃ p ys, xs = [.ref p] ∧ (SqL K H p ys ∨ SqT K H p ys) ∧ Q (.int ys.length) H) ta) ρ os (.int (xs.l.length : Int)) os1 := by
  have := ev_len h (.inr k)
  rwa [List.length_map] at this

/-! ### a def's promise -/
inductive Ret where
  | fz (d : D) | nw (d : D) | dw (m : Mk) (d : D) | ex (C : Addr) (fs : List (Str × D))
def RetK (K : PySem.W.Frag) (R F : Hp) (ps : List Addr) (os' : List Ow) (Q : VK) (X : XK) : Ret → Prop
  | .fz d => ∀ v F' H', Ex F F' → Hst K F' R ps os' H' → Rp K F' v d → Q v H'
  | .nw d => ∀ p F' H', Ex F F' → Hst K F' R (ps ++ [p]) (os' ++ [.has d]) H' → Hst K F' R ps os' H' → Q (.ref p) H'
  | .dw m d => ∀ p F' H', Ex F F' → Hst K F' R (ps ++ [p]) (os' ++ [.deep m d]) H' → Hst K F' R ps os' H' → Q (.ref p) H'
  | .ex C fs => ∀ d F' H', Ex F F' → Hst K F' R ps os' H' → XdR K F' R fs d H' → X (.ref C) d H'
abbrev Rel := List Sl → List Ow → Ret → List Ow → Prop
def spR (K : PySem.W.Frag) (Rl : Rel) : Sp := fun vs H Q X => ∃ (R F : Hp) (ps : List Addr) (ρ : List Sl) (os : List Ow) (r : Ret) (os' : List Ow), Rl ρ os r os' ∧ St K R F ps ρ os (vs.map some) H ∧ RetK K R F ps os' Q X r
def RetP (n : Nat) (os' : List Ow) : Ret → Sl → List Ow → Prop
  | .fz d, .fz e, os2 => e = d ∧ WkO os2 os'
  | .fz d, .at i, os2 => n ≤ i ∧ os2[i]? = some (.has d) ∧ WkO os2 os'
  | .nw d, .at i, os2 => n ≤ i ∧ os2[i]? = some (.has d) ∧ WkO os2 os'
  | .dw m d, .at i, os2 => n ≤ i ∧ os2[i]? = some (.deep m d) ∧ WkO os2 os'
  | _, _, _ => False
def RetX (os' : List Ow) : Ret → Addr → List (Str × D) → List Sl → List Ow → Prop
  | .ex C fs, C', fs', _, os2 => C' = C ∧ fs' = fs ∧ WkO os2 os'
  | _, _, _, _, _ => False
abbrev PostR (r : Ret) (os' : List Ow) (X : WX := fun _ _ _ _ => False) : Post where
  nx := fun _ os2 => RetP os'.length os' r (.fz .non) os2
  rt := RetP os'.length os' r
  EX := X
  ex := RetX os' r
theorem Hst.pick (h : Hst K F R ps os H) {i : Nat} {p : Addr} {os' : List Ow} (w : WkO os os') (hi : os'.length ≤ i) (hp : ps[i]? = some p) (hd : os[i]? = some (.has d)) : Hst K F R (ps.take os'.length ++ [p]) (os' ++ [.has d]) H := by
  have b := h.wk w
  have hlen : (ps.take os'.length).length = os'.length := b.len
  have key : ∀ j a d', (ps.take os'.length ++ [p])[j]? = some a → (os' ++ [Ow.has d])[j]? = some (Ow.has d') → (j < os'.length ∧ ps[j]? = some a ∧ os[j]? = some (Ow.has d')) ∨ (j = os'.length ∧ a = p ∧ d' = d) := fun j a d' q1 q2 => by
    by_cases z : j < os'.length
    · rw [List.getElem?_append_left (by omega), List.getElem?_take_of_lt z] at q1
      rw [List.getElem?_append_left z] at q2
      exact .inl ⟨z, q1, w.get q2⟩
    · have z2 : j = os'.length := by
        have := (List.getElem?_eq_some_iff.mp q2).1
        simp at this; omega
      subst z2
      rw [List.getElem?_append_right (by omega)] at q1
      rw [List.getElem?_append_right (Nat.le_refl _)] at q2
      simp [hlen] at q1 q2
      exact .inr ⟨rfl, by
        first
          | exact q1.symm
          | (have hh := h.len
             have h3 := (List.getElem?_eq_some_iff.mp hp).1
             have : min os'.length ps.length = os'.length := by omega
             simp [this] at q1
             exact q1.symm), q2.symm⟩
  have keyD : ∀ {j : Nat} {a : Addr} {o : Ow}, (ps.take os'.length ++ [p])[j]? = some a → (os' ++ [Ow.has d])[j]? = some o → (ps[j]? = some a ∧ os'[j]? = some o) ∨ (a = p ∧ o = .has d) := fun {j a o} q1 q2 => by
    by_cases z : j < os'.length
    · rw [List.getElem?_append_left (by omega), List.getElem?_take_of_lt z] at q1
      rw [List.getElem?_append_left z] at q2
      exact .inl ⟨q1, q2⟩
    · have z2 : j = os'.length := by
        have := (List.getElem?_eq_some_iff.mp q2).1
        simp at this; omega
      rw [List.getElem?_append_right (by omega)] at q1 q2
      rw [hlen] at q1
      rw [z2, Nat.sub_self] at q1 q2
      simp at q1 q2
      exact .inr ⟨q1.symm, q2.symm⟩
  refine ⟨h.sub, h.oth, by simp [b.len], fun j a d' q1 q2 => ?_, fun j k a q1 q2 ⟨d1, q3⟩ ⟨d2, q4⟩ => ?_, h.dp.tr (Ex.refl F) (fun j q m e x y => ?_) fun a f r n q => ⟨f, r, fun _ z => z, fun j q' e x y => ?_⟩⟩
  rotate_left 2
  · rcases keyD x y with z | ⟨_, z⟩
    · exact ⟨z.1, w.getD z.2⟩
    · cases z
  · rcases keyD x y with z | ⟨z, _⟩
    · exact q j q' e z.1 (w.get z.2)
    · rw [z]; exact q i p d hp hd
  · rcases key j a d' q1 q2 with ⟨_, a2, a3⟩ | ⟨_, rfl, rfl⟩
    · exact h.own j a d' a2 a3
    · exact h.own i a d' hp hd
  · rcases key j a d1 q1 q3 with ⟨a1, a2, a3⟩ | ⟨a1, rfl, rfl⟩ <;> rcases key k a d2 q2 q4 with ⟨b1, b2, b3⟩ | ⟨b1, b2, _⟩
    · exact h.dis j k a a2 b2 ⟨_, a3⟩ ⟨_, b3⟩
    · subst b2
      exact absurd (h.dis j i a a2 hp ⟨_, a3⟩ ⟨_, hd⟩) (by omega)
    · exact absurd (h.dis k i a b2 hp ⟨_, b3⟩ ⟨_, hd⟩) (by omega)
    · rw [a1, b1]
theorem Hst.pickD (h : Hst K F R ps os H) {i : Nat} {p : Addr} {m : Mk} {os' : List Ow} (w : WkO os os') (hi : os'.length ≤ i) (hp : ps[i]? = some p) (hd : os[i]? = some (.deep m d)) : Hst K F R (ps.take os'.length ++ [p]) (os' ++ [.deep m d]) H := by
  have b := h.wk w
  have hlen : (ps.take os'.length).length = os'.length := b.len
  have key : ∀ {j : Nat} {a : Addr} {o : Ow}, (ps.take os'.length ++ [p])[j]? = some a → (os' ++ [Ow.deep m d])[j]? = some o → (j < os'.length ∧ ps[j]? = some a ∧ os'[j]? = some o) ∨ (j = os'.length ∧ a = p ∧ o = .deep m d) := fun {j a o} q1 q2 => by
    by_cases z : j < os'.length
    · rw [List.getElem?_append_left (by omega), List.getElem?_take_of_lt z] at q1
      rw [List.getElem?_append_left z] at q2
      exact .inl ⟨z, q1, q2⟩
    · have z2 : j = os'.length := by
        have := (List.getElem?_eq_some_iff.mp q2).1
        simp at this; omega
      rw [List.getElem?_append_right (by omega)] at q1 q2
      rw [hlen] at q1
      rw [z2, Nat.sub_self] at q1 q2
      simp at q1 q2
      exact .inr ⟨z2, q1.symm, q2.symm⟩
  obtain ⟨φ, hφ⟩ := h.dp
  refine ⟨h.sub, h.oth, by simp [b.len], fun j a d' q1 q2 => ?_, fun j k a q1 q2 ⟨d1, q3⟩ ⟨d2, q4⟩ => ?_, fun j => if j = os'.length then φ i else φ j, ⟨fun j a m' d' q1 q2 => ?_, fun j a m' d' q1 q2 b' hb => ?_, fun j k a b' m1 m2 d1 d2 hne q1 q2 q3 q4 x hx hy => ?_⟩⟩
  · rcases key q1 q2 with ⟨_, a2, a3⟩ | ⟨_, _, a3⟩
    · exact h.own j a d' a2 (w.get a3)
    · cases a3
  · rcases key q1 q3 with ⟨_, a2, a3⟩ | ⟨_, _, a3⟩
    · rcases key q2 q4 with ⟨_, b2, b3⟩ | ⟨_, _, b3⟩
      · exact h.dis j k a a2 b2 ⟨_, w.get a3⟩ ⟨_, w.get b3⟩
      · cases b3
    · cases a3
  · rcases key q1 q2 with ⟨lt, a2, a3⟩ | ⟨e, rfl, a3⟩
    · show Own K F H m' (.ref a) d' (if j = os'.length then φ i else φ j)
      rw [if_neg (by omega)]
      exact hφ.ow j a m' d' a2 (w.getD a3)
    · cases a3
      show Own K F H m (.ref a) d (if j = os'.length then φ i else φ j)
      rw [if_pos e]
      exact hφ.ow i a m d hp hd
  · have fr : F b' = none ∧ R b' = none ∧ ∀ (j : Nat) (q : Addr) (e : D), ps[j]? = some q → os[j]? = some (Ow.has e) → q ≠ b' := by
      rcases key q1 q2 with ⟨lt, a2, a3⟩ | ⟨e, rfl, a3⟩
      · have hb : b' ∈ (if j = os'.length then φ i else φ j) := hb
        rw [if_neg (by omega)] at hb
        exact hφ.fr j a m' d' a2 (w.getD a3) b' hb
      · cases a3
        have hb : b' ∈ (if j = os'.length then φ i else φ j) := hb
        rw [if_pos e] at hb
        exact hφ.fr i a m d hp hd b' hb
    refine ⟨fr.1, fr.2.1, fun j' q' e' x y => ?_⟩
    rcases key x y with ⟨_, a2, a3⟩ | ⟨_, _, a3⟩
    · exact fr.2.2 j' q' e' a2 (w.get a3)
    · cases a3
  · have hx : x ∈ (if j = os'.length then φ i else φ j) := hx
    have hy : x ∈ (if k = os'.length then φ i else φ k) := hy
    rcases key q1 q3 with ⟨l1, a2, a3⟩ | ⟨e1, rfl, a3⟩ <;> rcases key q2 q4 with ⟨l2, b2, b3⟩ | ⟨e2, rfl, b3⟩
    · rw [if_neg (by omega)] at hx hy
      exact hφ.dj j k a b' m1 m2 d1 d2 hne a2 b2 (w.getD a3) (w.getD b3) x hx hy
    · cases b3
      rw [if_neg (by omega)] at hx
      rw [if_pos e2] at hy
      exact hφ.dj j i a b' m1 m d1 d (by omega) a2 hp (w.getD a3) hd x hx hy
    · cases a3
      rw [if_pos e1] at hx
      rw [if_neg (by omega)] at hy
      exact hφ.dj i k a b' m m2 d d2 (by omega) hp b2 hd (w.getD b3) x hx hy
    · omega
/-- a run of a def's body, seen by its caller -/
theorem run_body {N pars : List Str} {t : TS} {vs : List V} {Q : VK} {E : XK} {r : Ret} {os' : List Ow} (I : St K R F ps ρ os (vs.map some) H) (kq : RetK K R F ps os' Q E r) (hlen : vs.length = pars.length) (hl2 : os'.length = os.length)
    (hrun : Run K t (ρ ++ List.replicate (N.length - pars.length) .un) os (PostR r os' fun cls d _ H' => E cls d H')) : t { nx := fun _ H' => Q .non H', rt := Q } (L2.start N vs) H := by
  have hos : os'.length = ps.length := by rw [hl2, I.hst.len]
  have I2 : St K R F ps (ρ ++ List.replicate (N.length - pars.length) .un) os (L2.start N vs) H := by
    refine ⟨?_, I.hst⟩
    unfold L2.start
    rw [hlen]
    have app : ∀ {a : L2.St} {b : List Sl} {c : L2.St} {e : List Sl}, Slots K F ps a b → Slots K F ps c e → Slots K F ps (a ++ c) (b ++ e) := by
      intro a b c e h1 h2
      induction h1 with
      | nil => exact h2
      | cons r _ ih => exact .cons r ih
    refine app I.sl ?_
    generalize N.length - pars.length = m
    induction m with
    | zero => exact .nil
    | succ m ih => exact .cons (by unfold SlR; trivial) ih
  have fin : ∀ sl ρ' os2 F' ps' σ' v H', Ex F F' → ps <+: ps' → St K R F' ps' ρ' os2 σ' H' → SlR K F' ps' (some v) sl → RetP os'.length os' r sl os2 → Q v H' := by
    intro sl ρ' os2 F' ps' σ' v H' e p J rs hp
    have cut : ∀ {os2 : List Ow} {F' : Hp}, Hst K F' R ps' os2 H' → WkO os2 os' → Hst K F' R ps os' H' := fun {os2 F'} J w => by
      have := J.wk w
      rw [hos] at this
      obtain ⟨t, rfl⟩ := p
      rwa [List.take_left] at this
    cases r with
    | fz d =>
      cases sl with
      | un => exact hp.elim
      | fz d' =>
        obtain ⟨rfl, w⟩ := hp
        exact kq v F' H' e (cut J.hst w) rs
      | «at» i =>
        obtain ⟨hi, hd, w⟩ := hp
        obtain ⟨a, h1, rfl⟩ := rs
        obtain ⟨o, e2, r2, J2⟩ := J.hst.still h1 hd
        refine kq _ _ H' (e.trans e2) (cut J2 ?_) (r2.rp upd_same)
        have : ∀ {os os' : List Ow} {i : Nat}, WkO os os' → os'.length ≤ i → WkO (os.set i .gone) os' := by
          intro os os' i w
          induction w generalizing i with
          | nil => intro _; exact .nil
          | gone _ ih =>
            intro h
            cases i with
            | zero => simp at h
            | succ i => exact .gone (ih (by simpa using h))
          | has _ ih =>
            intro h
            cases i with
            | zero => simp at h
            | succ i => exact .has (ih (by simpa using h))
          | deep _ ih =>
            intro h
            cases i with
            | zero => simp at h
            | succ i => exact .deep (ih (by simpa using h))
        exact this w hi
    | nw d =>
      cases sl with
      | un => exact hp.elim
      | fz d' => exact hp.elim
      | «at» i =>
        obtain ⟨hi, hd, w⟩ := hp
        obtain ⟨a, h1, rfl⟩ := rs
        have := J.hst.pick w hi h1 hd
        have c := cut J.hst w
        rw [hos] at this
        obtain ⟨t, rfl⟩ := p
        rw [List.take_left] at this
        exact kq a F' H' e this c
    | dw m d =>
      cases sl with
      | un => exact hp.elim
      | fz d' => exact hp.elim
      | «at» i =>
        obtain ⟨hi, hd, w⟩ := hp
        obtain ⟨a, h1, rfl⟩ := rs
        have := J.hst.pickD w hi h1 hd
        have c := cut J.hst w
        rw [hos] at this
        obtain ⟨t, rfl⟩ := p
        rw [List.take_left] at this
        exact kq a F' H' e this c
    | ex C fs =>
      cases sl <;> exact hp.elim
  refine hrun R F ps _ H _ I2 ⟨fun ρ' os2 F' ps' σ' H' e p J h => ?_, fun sl ρ' os2 F' ps' σ' v H' e p J rs h => fin sl ρ' os2 F' ps' σ' v H' e p J rs h, fun _ _ _ _ _ _ _ _ _ h => h.elim, fun _ _ _ _ _ _ _ _ _ h => h.elim, fun C fs ρ' os2 F' ps' σ' d H' e p J xd hx => ?_⟩
  rotate_left
  · cases r with
    | ex C' fs' =>
      obtain ⟨rfl, rfl, w⟩ := hx
      refine kq d F' H' e ?_ xd
      have := J.hst.wk w
      rw [hos] at this
      obtain ⟨t, rfl⟩ := p
      rwa [List.take_left] at this
    | _ => exact hx.elim
  exact fin (.fz .non) ρ' os2 F' ps' σ' .non H' e p J Rp.non h


/-- a def keeps its promise, by a run of its body -/
theorem fn_R {P : Program} {w : World} {mg : Str → Option Value} {base : Heap} {x qual : Str} {st : Stmt} {f : Addr} {fd : FuncData} {N pars : List Str} {k : Nat} {Rl : Rel} (Fn : Fun K x qual st f fd) (S : FnScope N pars (defScope st))
    (hl : ∀ ρ os r os', Rl ρ os r os' → ρ.length = pars.length ∧ os'.length = os.length)
    (hbody : ∀ (cdv : Value) (A : Around) (outer : List Env) (s : Shared) (H : Hp) (E : XK), Room k (A.deeper (envOfC qual (defScope st) s.heap.objs.size f cdv)) →
      ∃ t, PSs (cxOf CX0 P w K mg base N qual (defScope st) f cdv A outer s H E).nox (defBody st) t ∧ ∀ ρ os r os', Rl ρ os r os' → Run K t (ρ ++ List.replicate (N.length - pars.length) .un) os (PostR r os' fun cls d _ H' => E cls d H')) :
    FnOk P w K mg base CX0 (k + 1) f fd pars (spR K Rl) := by
  have len : ∀ vs H Q E, spR K Rl vs H Q E → vs.length = pars.length := fun vs H Q E h => by
    obtain ⟨R, F, ps, ρ, os, r, os', hR, I, _⟩ := h
    have := Paired.length I.sl
    rw [List.length_map] at this
    rw [this]; exact (hl _ _ _ _ hR).1
  refine Fn.ok S len (fun cdv A outer s H vs Q E hr h => ?_)
  have hlen := len _ _ _ _ h
  obtain ⟨R, F, ps, ρ, os, r, os', hR, I, kq⟩ := h
  obtain ⟨t, ht, hrun⟩ := hbody cdv A outer s H E hr
  exact ⟨t, ht, run_body I kq hlen (hl _ _ _ _ hR).2 (hrun _ _ _ _ hR)⟩
/-- a def that may raise -/
theorem fn_RX {P : Program} {w : World} {mg : Str → Option Value} {base : Heap} {x qual : Str} {st : Stmt} {f : Addr} {fd : FuncData} {N pars : List Str} {k : Nat} {Rl : Rel} (Fn : Fun K x qual st f fd) (S : FnScope N pars (defScope st))
    (hl : ∀ ρ os r os', Rl ρ os r os' → ρ.length = pars.length ∧ os'.length = os.length)
    (hbody : ∀ (cdv : Value) (A : Around) (outer : List Env) (s : Shared) (H : Hp) (E : XK), Room k (A.deeper (envOfC qual (defScope st) s.heap.objs.size f cdv)) →
      ∃ t, PSs (cxOf (L2N.CX P w) P w K mg base N qual (defScope st) f cdv A outer s H E) (defBody st) t ∧ ∀ ρ os r os', Rl ρ os r os' → Run K t (ρ ++ List.replicate (N.length - pars.length) .un) os (PostR r os' fun cls d _ H' => E cls d H')) :
    FnOk P w K mg base (L2N.CX P w) (k + 1) f fd pars (spR K Rl) := by
  have len : ∀ vs H Q E, spR K Rl vs H Q E → vs.length = pars.length := fun vs H Q E h => by
    obtain ⟨R, F, ps, ρ, os, r, os', hR, I, _⟩ := h
    have := Paired.length I.sl
    rw [List.length_map] at this
    rw [this]; exact (hl _ _ _ _ hR).1
  obtain ⟨oc, od, kV, doc, pm, an, cdv, ct, osl, rfl, lk, hcd⟩ := Fn.ex
  refine fn_of lk hcd S len fun A outer s H vs Q E hr h => ?_
  have hlen := len _ _ _ _ h
  obtain ⟨R, F, ps, ρ, os, r, os', hR, I, kq⟩ := h
  obtain ⟨t, ht, hrun⟩ := hbody cdv A outer s H E hr
  exact ⟨t, ht, run_body I kq hlen (hl _ _ _ _ hR).2 (hrun _ _ _ _ hR)⟩

/-! ### calls -/
/-- what is not lent -/
def Mine (ps : List Addr) (os : List Ow) (φ : Nat → List Addr) (L : Nat → Prop) (a : Addr) : Prop :=
  (∃ (i : Nat) (d : D), ¬ L i ∧ ps[i]? = some a ∧ os[i]? = some (Ow.has d)) ∨ ∃ (i : Nat) (q : Addr) (m : Mk) (d : D), ¬ L i ∧ ps[i]? = some q ∧ os[i]? = some (Ow.deep m d) ∧ a ∈ φ i
open Classical in
/-- the callees' heap: it stands while they work -/
noncomputable def lendR (H R : Hp) (ps : List Addr) (os : List Ow) (φ : Nat → List Addr) (L : Nat → Prop) : Hp := fun a => if Mine ps os φ L a then H a else R a
section
variable {φ : Nat → List Addr} {L : Nat → Prop}
theorem Hst.mine (h : Hst K F R ps os H) (hφ : DpW K F R ps os H φ) {a : Addr} (m : Mine ps os φ L a) : F a = none ∧ R a = none ∧ ∃ o, H a = some o ∧ ∀ xs, o ≠ .tup xs := by
  rcases m with ⟨i, d, _, h1, h2⟩ | ⟨i, q, m, d, _, h1, h2, ha⟩
  · obtain ⟨q1, q2, w, q3, q4⟩ := h.own i a d h1 h2
    exact ⟨q1, q2, w, q3, fun xs z => by subst z; cases q4⟩
  · obtain ⟨f, r, _⟩ := hφ.fr i q m d h1 h2 a ha
    exact ⟨f, r, Own.at (hφ.ow i q m d h1 h2) a ha⟩
theorem Hst.lendO (h : Hst K F R ps os H) (hφ : DpW K F R ps os H φ) (a : Addr) (u : HO) (q : lendR H R ps os φ L a = some u) : F a = none ∧ H a = some u ∧ ∀ xs, u ≠ .tup xs := by
  unfold lendR at q
  split at q
  · rename_i m
    obtain ⟨f, _, o, e, n⟩ := h.mine hφ m
    rw [e] at q
    cases q
    exact ⟨f, e, n⟩
  · exact h.oth a u q
/-- back from a call -/
theorem Hst.merge (h : Hst K F R ps os H) (hφ : DpW K F R ps os H φ) {F' H' : Hp} {qs ps2 : List Addr} {ws os2 : List Ow} (e : Ex F F') (J : Hst K F' (lendR H R ps os φ L) qs ws H') (c : Nat → Nat ⊕ Nat) (hlen : ps2.length = os2.length)
    (ci : ∀ i j, i < ps2.length → j < ps2.length → c i = c j → i = j) (hl : ∀ i j, i < ps2.length → c i = .inl j → ¬ L j ∧ ps2[i]? = ps[j]? ∧ os2[i]? = os[j]?) (hr : ∀ i k, i < ps2.length → c i = .inr k → ps2[i]? = qs[k]? ∧ os2[i]? = ws[k]?) : Hst K F' R ps2 os2 H' := by
  obtain ⟨ψ, hψ⟩ := J.dp
  have lt : ∀ {i : Nat} {a : Addr}, ps2[i]? = some a → i < ps2.length := fun {i a} q => (List.getElem?_eq_some_iff.mp q).1
  have atM : ∀ {a : Addr}, Mine ps os φ L a → ∀ o, H a = some o → F' a = none ∧ H' a = some o := fun {a} m o ho => by
    obtain ⟨z1, z2, _⟩ := J.oth a o (by unfold lendR; rw [if_pos m]; exact ho)
    exact ⟨z1, z2⟩
  have out : ∀ {a : Addr}, lendR H R ps os φ L a = none → R a = none ∧ ¬ Mine ps os φ L a := fun {a} q => by
    unfold lendR at q
    split at q
    · rename_i m
      obtain ⟨_, _, o, e, _⟩ := h.mine hφ m
      rw [e] at q; cases q
    · rename_i m
      exact ⟨q, m⟩
  have own2 : ∀ (i : Nat) (p : Addr) (d : D), ps2[i]? = some p → os2[i]? = some (Ow.has d) → F' p = none ∧ R p = none ∧ (∃ o, H' p = some o ∧ ObjR K F' o d) ∧ ((∃ j, c i = .inl j ∧ ps[j]? = some p ∧ os[j]? = some (.has d) ∧ Mine ps os φ L p) ∨ (∃ k, c i = .inr k ∧ qs[k]? = some p ∧ ws[k]? = some (.has d) ∧ ¬ Mine ps os φ L p)) := fun i p d h1 h2 => by
    cases hc : c i with
    | inl j =>
      obtain ⟨nl, a1, a2⟩ := hl i j (lt h1) hc
      rw [a1] at h1; rw [a2] at h2
      obtain ⟨q1, q2, w, q3, q4⟩ := h.own j p d h1 h2
      have m : Mine ps os φ L p := .inl ⟨j, d, nl, h1, h2⟩
      obtain ⟨z1, z2⟩ := atM m w q3
      exact ⟨z1, q2, ⟨w, z2, q4.up e⟩, .inl ⟨j, rfl, h1, h2, m⟩⟩
    | inr k =>
      obtain ⟨a1, a2⟩ := hr i k (lt h1) hc
      rw [a1] at h1; rw [a2] at h2
      obtain ⟨q1, q2, q3⟩ := J.own k p d h1 h2
      exact ⟨q1, (out q2).1, q3, .inr ⟨k, rfl, h1, h2, (out q2).2⟩⟩
  let χ : Nat → List Addr := fun i => match c i with
    | .inl j => φ j
    | .inr k => ψ k
  have deep2 : ∀ (i : Nat) (p : Addr) (m : Mk) (d : D), ps2[i]? = some p → os2[i]? = some (Ow.deep m d) → (∃ j, c i = .inl j ∧ ¬ L j ∧ ps[j]? = some p ∧ os[j]? = some (.deep m d) ∧ χ i = φ j) ∨ (∃ k, c i = .inr k ∧ qs[k]? = some p ∧ ws[k]? = some (.deep m d) ∧ χ i = ψ k) := fun i p m d h1 h2 => by
    cases hc : c i with
    | inl j =>
      obtain ⟨nl, a1, a2⟩ := hl i j (lt h1) hc
      exact .inl ⟨j, rfl, nl, a1 ▸ h1, a2 ▸ h2, by show (match c i with | .inl j => φ j | .inr k => ψ k) = _; rw [hc]⟩
    | inr k =>
      obtain ⟨a1, a2⟩ := hr i k (lt h1) hc
      exact .inr ⟨k, rfl, a1 ▸ h1, a2 ▸ h2, by show (match c i with | .inl j => φ j | .inr k => ψ k) = _; rw [hc]⟩
  refine ⟨J.sub, fun a u q => ?_, hlen, fun i p d h1 h2 => ?_, fun i j p h1 h2 ⟨d1, h3⟩ ⟨d2, h4⟩ => ?_, χ, ⟨fun i p m d h1 h2 => ?_, fun i p m d h1 h2 a ha => ?_, fun i j p q m m' d d' hne h1 h2 h3 h4 a ha hb => ?_⟩⟩
  · have m : ¬ Mine ps os φ L a := fun m => by
      rw [(h.mine hφ m).2.1] at q; cases q
    exact J.oth a u (by unfold lendR; rw [if_neg m]; exact q)
  · obtain ⟨q1, q2, q3, _⟩ := own2 i p d h1 h2
    exact ⟨q1, q2, q3⟩
  · obtain ⟨_, _, _, g⟩ := own2 i p d1 h1 h3
    obtain ⟨_, _, _, g'⟩ := own2 j p d2 h2 h4
    rcases g with ⟨a, e1, e2, e3, e4⟩ | ⟨a, e1, e2, e3, e4⟩ <;> rcases g' with ⟨b, f1, f2, f3, f4⟩ | ⟨b, f1, f2, f3, f4⟩
    · have := h.dis a b p e2 f2 ⟨_, e3⟩ ⟨_, f3⟩
      subst this
      exact ci i j (lt h1) (lt h2) (e1.trans f1.symm)
    · exact absurd e4 f4
    · exact absurd f4 e4
    · have := J.dis a b p e2 f2 ⟨_, e3⟩ ⟨_, f3⟩
      subst this
      exact ci i j (lt h1) (lt h2) (e1.trans f1.symm)
  · rcases deep2 i p m d h1 h2 with ⟨j, _, nl, e2, e3, e4⟩ | ⟨k, _, e2, e3, e4⟩
    · rw [e4]
      exact Own.tr e (hφ.ow j p m d e2 e3) fun a ha o ho => (atM (.inr ⟨j, p, m, d, nl, e2, e3, ha⟩) o ho).2
    · rw [e4]
      exact hψ.ow k p m d e2 e3
  · rcases deep2 i p m d h1 h2 with ⟨j, _, nl, e2, e3, e4⟩ | ⟨k, _, e2, e3, e4⟩
    · rw [e4] at ha
      have mi : Mine ps os φ L a := .inr ⟨j, p, m, d, nl, e2, e3, ha⟩
      obtain ⟨f, r, q⟩ := hφ.fr j p m d e2 e3 a ha
      obtain ⟨o, ho, _⟩ := Own.at (hφ.ow j p m d e2 e3) a ha
      refine ⟨(atM mi o ho).1, r, fun j' q' e' x y => ?_⟩
      obtain ⟨_, _, _, g⟩ := own2 j' q' e' x y
      rcases g with ⟨b, _, f2, f3, _⟩ | ⟨b, _, _, _, f4⟩
      · exact q b q' e' f2 f3
      · exact fun z => f4 (z ▸ mi)
    · rw [e4] at ha
      obtain ⟨f, r, q⟩ := hψ.fr k p m d e2 e3 a ha
      refine ⟨f, (out r).1, fun j' q' e' x y => ?_⟩
      obtain ⟨_, _, _, g⟩ := own2 j' q' e' x y
      rcases g with ⟨b, _, f2, f3, f4⟩ | ⟨b, _, f2, f3, _⟩
      · exact fun z => (out r).2 (z ▸ f4)
      · exact q b q' e' f2 f3
  · rcases deep2 i p m d h1 h3 with ⟨x, c1, nl, e2, e3, e4⟩ | ⟨x, c1, e2, e3, e4⟩ <;> rcases deep2 j q m' d' h2 h4 with ⟨y, c2, nl', f2, f3, f4⟩ | ⟨y, c2, f2, f3, f4⟩
    · rw [e4] at ha; rw [f4] at hb
      exact hφ.dj x y p q m m' d d' (fun z => hne (ci i j (lt h1) (lt h2) (by rw [c1, c2, z]))) e2 f2 e3 f3 a ha hb
    · rw [e4] at ha; rw [f4] at hb
      exact (out (hψ.fr y q m' d' f2 f3 a hb).2.1).2 (.inr ⟨x, p, m, d, nl, e2, e3, ha⟩)
    · rw [e4] at ha; rw [f4] at hb
      exact (out (hψ.fr x p m d e2 e3 a ha).2.1).2 (.inr ⟨y, q, m', d', nl', f2, f3, hb⟩)
    · rw [e4] at ha; rw [f4] at hb
      exact hψ.dj x y p q m m' d d' (fun z => hne (ci i j (lt h1) (lt h2) (by rw [c1, c2, z]))) e2 f2 e3 f3 a ha hb
end
/-- nothing of one's own is lent -/
theorem lendR_none {φ : Nat → List Addr} {L : Nat → Prop} (h : Hst K F R ps os H) (hφ : DpW K F R ps os H φ) {a : Addr} (q : lendR H R ps os φ L a = none) : R a = none := by
  unfold lendR at q
  split at q
  · rename_i m
    obtain ⟨_, _, o, e, _⟩ := h.mine hφ m
    rw [e] at q; cases q
  · exact q
theorem Hst.lend0 (h : Hst K F R ps os H) : ∃ R', (∀ a, R' a = none → R a = none) ∧ Hst K F R' [] [] H ∧ ∀ F' H' (qs : List Addr) (ws : List Ow), Ex F F' → Hst K F' R' qs ws H' → Hst K F' R (ps ++ qs) (os ++ ws) H' := by
  obtain ⟨φ, hφ⟩ := h.dp
  refine ⟨lendR H R ps os φ (fun _ => False), fun a q => lendR_none h hφ q, ⟨h.sub, fun a u q => h.lendO hφ a u q, rfl, fun i a d h1 _ => by simp at h1, fun i j a h1 _ _ _ => by simp at h1, Dp.nil⟩, fun F' H' qs ws e J => ?_⟩
  refine h.merge hφ e J (fun i => if i < ps.length then .inl i else .inr (i - ps.length)) (by rw [List.length_append, List.length_append, h.len, J.len]) (fun i j _ _ q => ?_) (fun i j _ q => ?_) fun i k _ q => ?_
  · by_cases a : i < ps.length <;> by_cases b : j < ps.length <;> simp [a, b] at q
    · exact q
    · omega
  · by_cases a : i < ps.length
    · simp [a] at q
      subst q
      exact ⟨fun z => z, List.getElem?_append_left a, List.getElem?_append_left (by rw [← h.len]; exact a)⟩
    · simp [a] at q
  · by_cases a : i < ps.length
    · simp [a] at q
    · simp [a] at q
      subst q
      exact ⟨List.getElem?_append_right (by omega), by rw [h.len]; exact List.getElem?_append_right (by rw [← h.len]; omega)⟩
/-- the one at n is lent -/
theorem Hst.lend1 (h : Hst K F R ps os H) {n : Nat} {p : Addr} {w : Ow} (hp : ps[n]? = some p) (hd : os[n]? = some w) :
    ∃ R', (∀ a, R' a = none → R a = none) ∧ Hst K F R' [p] [w] H ∧ ∀ F' H' w' (qs : List Addr) (ws : List Ow), Ex F F' → Hst K F' R' (p :: qs) (w' :: ws) H' → Hst K F' R (ps ++ qs) (os.set n w' ++ ws) H' := by
  obtain ⟨φ, hφ⟩ := h.dp
  have hn : n < ps.length := (List.getElem?_eq_some_iff.mp hp).1
  have nm : ∀ a, R a = none → (∀ i d, i ≠ n → ps[i]? = some a → os[i]? = some (Ow.has d) → False) → (∀ i q m d, i ≠ n → ps[i]? = some q → os[i]? = some (Ow.deep m d) → a ∉ φ i) → lendR H R ps os φ (fun i => i = n) a = none := fun a r x y => by
    unfold lendR
    rw [if_neg]
    · exact r
    · rintro (⟨i, d, nl, h1, h2⟩ | ⟨i, q, m, d, nl, h1, h2, ha⟩)
      · exact x i d nl h1 h2
      · exact y i q m d nl h1 h2 ha
  refine ⟨lendR H R ps os φ (fun i => i = n), fun a q => lendR_none h hφ q, ⟨h.sub, fun a u q => h.lendO hφ a u q, rfl, fun i a d h1 h2 => ?_, fun i j a h1 h2 _ _ => ?_, fun _ => φ n, ⟨fun i a m d h1 h2 => ?_, fun i a m d h1 h2 b hb => ?_, fun i j a b m m' d d' hne h1 h2 _ _ => ?_⟩⟩, fun F' H' w' qs ws e J => ?_⟩
  · cases i with
    | succ i => simp at h1
    | zero =>
      simp at h1 h2
      subst h1; subst h2
      obtain ⟨q1, q2, q3⟩ := h.own n p d hp hd
      exact ⟨q1, nm p q2 (fun i d' ne h1 h2 => ne (h.dis i n p h1 hp ⟨_, h2⟩ ⟨_, hd⟩)) (fun i q m d' _ h1 h2 ha => (hφ.fr i q m d' h1 h2 p ha).2.2 n p d hp hd rfl), q3⟩
  · cases i with
    | succ i => simp at h1
    | zero => cases j with
      | succ j => simp at h2
      | zero => rfl
  · cases i with
    | succ i => simp at h1
    | zero =>
      simp at h1 h2
      subst h1; subst h2
      exact hφ.ow n p m d hp hd
  · cases i with
    | succ i => simp at h1
    | zero =>
      simp at h1 h2
      subst h1; subst h2
      obtain ⟨f, r, q⟩ := hφ.fr n p m d hp hd b hb
      exact ⟨f, nm b r (fun i d' ne h1 h2 => q i b d' h1 h2 rfl) (fun i q m' d' ne h1 h2 ha => hφ.dj i n q p m' m d' d ne h1 hp h2 hd b ha hb), fun j q' e' x y => by cases j <;> simp at y⟩
  · cases i with
    | succ i => simp at h1
    | zero => cases j with
      | succ j => simp at h2
      | zero => exact absurd rfl hne
  · have jl := J.len
    simp at jl
    refine h.merge hφ e J (fun i => if i < ps.length then (if i = n then .inr 0 else .inl i) else .inr (i - ps.length + 1)) (by rw [List.length_append, List.length_append, List.length_set, h.len, jl]) (fun i j _ _ q => ?_) (fun i j _ q => ?_) fun i k _ q => ?_
    · have q : (if i < ps.length then (if i = n then (.inr 0 : Nat ⊕ Nat) else .inl i) else .inr (i - ps.length + 1)) = (if j < ps.length then (if j = n then (.inr 0 : Nat ⊕ Nat) else .inl j) else .inr (j - ps.length + 1)) := q
      by_cases a : i < ps.length
      · by_cases a' : i = n
        · rw [if_pos a, if_pos a'] at q
          by_cases b : j < ps.length
          · by_cases b' : j = n
            · omega
            · rw [if_pos b, if_neg b'] at q; cases q
          · rw [if_neg b] at q
            have := Sum.inr.inj q
            omega
        · rw [if_pos a, if_neg a'] at q
          by_cases b : j < ps.length
          · by_cases b' : j = n
            · rw [if_pos b, if_pos b'] at q; cases q
            · rw [if_pos b, if_neg b'] at q
              exact Sum.inl.inj q
          · rw [if_neg b] at q; cases q
      · rw [if_neg a] at q
        by_cases b : j < ps.length
        · by_cases b' : j = n
          · rw [if_pos b, if_pos b'] at q
            have := Sum.inr.inj q
            omega
          · rw [if_pos b, if_neg b'] at q; cases q
        · rw [if_neg b] at q
          have := Sum.inr.inj q
          omega
    · by_cases a : i < ps.length
      · by_cases a' : i = n
        · simp [a', hn] at q
        · simp [a, a'] at q
          subst q
          exact ⟨a', List.getElem?_append_left a, by rw [List.getElem?_append_left (by rw [List.length_set, ← h.len]; exact a), List.getElem?_set_ne (Ne.symm a')]⟩
      · simp [a] at q
    · by_cases a : i < ps.length
      · by_cases a' : i = n
        · simp [a', hn] at q
          subst q; subst a'
          exact ⟨by rw [List.getElem?_append_left a, hp]; rfl, by rw [List.getElem?_append_left (by rw [List.length_set, ← h.len]; exact a), List.getElem?_set_self (by rw [← h.len]; exact a)]; rfl⟩
        · simp [a, a'] at q
      · simp [a] at q
        subst q
        exact ⟨by rw [List.getElem?_append_right (by omega)]; rfl, by rw [List.getElem?_append_right (by rw [List.length_set, ← h.len]; omega), List.length_set, h.len]; rfl⟩
theorem slots_fz {F : Hp} {ps qs : List Addr} : ∀ {ds : List D} {vs : L2.St}, Slots K F ps vs (ds.map Sl.fz) → Slots K F qs vs (ds.map Sl.fz)
  | [], [], .nil => .nil
  | d :: ds, none :: vs, .cons r t => (show False from r).elim
  | d :: ds, some v :: vs, .cons r t => .cons (show Rp K F v d from r) (slots_fz t)
/-- f(..), nothing of one's own goes in: an answer that stands still -/
theorem ev_call {Rl : Rel} {ta : TA} {ds : List D} {EE : XK} (ha : EvA K ta ρ os (ds.map Sl.fz) os1) (hR : Rl (ds.map Sl.fz) [] (.fz d) []) : Ev K (tCall (spR K Rl) [] EE ta) ρ os d os1 := fun R F ps σ H Q I q =>
  ha R F ps σ H _ I fun vs F1 H1 e1 I1 r1 => by
    obtain ⟨R', _, J, back⟩ := I1.hst.lend0
    refine ⟨R', F1, [], _, [], _, [], hR, ⟨by rw [List.append_nil]; exact slots_fz r1, J⟩, fun v F2 H2 e2 J2 r2 => ?_⟩
    have B := back F2 H2 [] [] e2 J2
    rw [List.append_nil, List.append_nil] at B
    exact q v F2 H2 (e1.trans e2) ⟨I1.sl.up e2 (List.prefix_refl _), B⟩ r2
/-- .. a new object -/
theorem en_call {Rl : Rel} {ta : TA} {ds : List D} {EE : XK} (ha : EvA K ta ρ os (ds.map Sl.fz) os1) (hR : Rl (ds.map Sl.fz) [] (.nw d) []) : EvN K (tCall (spR K Rl) [] EE ta) ρ os d os1 := fun R F ps σ H Q I q =>
  ha R F ps σ H _ I fun vs F1 H1 e1 I1 r1 => by
    obtain ⟨R', _, J, back⟩ := I1.hst.lend0
    refine ⟨R', F1, [], _, [], _, [], hR, ⟨by rw [List.append_nil]; exact slots_fz r1, J⟩, fun p F2 H2 e2 J2 J3 => ?_⟩
    have B := back F2 H2 [] [] e2 J3
    rw [List.append_nil, List.append_nil] at B
    have hsl := I1.sl.up e2 (List.prefix_refl ps)
    exact q p F2 H2 (e1.trans e2) ⟨hsl.up (Ex.refl _) (List.prefix_append _ _), back F2 H2 [p] [.has d] e2 J2⟩ ⟨hsl, B⟩
def lendS (n : Nat) : Sl → Sl
  | .fz d => .fz d
  | .at i => if i = n then .at 0 else .un
  | .un => .un
theorem slots_lend {F : Hp} {ps : List Addr} {n : Nat} {p : Addr} (hp : ps[n]? = some p) : ∀ {ss : List Sl} {vs : L2.St}, Slots K F ps vs ss → Slots K F [p] vs (ss.map (lendS n))
  | [], [], .nil => .nil
  | s :: ss, ov :: vs, .cons r t => .cons (by
      cases s with
      | un => show SlR K F [p] ov .un; unfold SlR; trivial
      | fz d =>
        cases ov with
        | none => exact (show False from r).elim
        | some v => exact (show Rp K F v d from r)
      | «at» i =>
        show SlR K F [p] ov (if i = n then .at 0 else .un)
        by_cases e : i = n
        · subst e
          rw [if_pos rfl]
          cases ov with
          | none => exact (show False from r).elim
          | some v =>
            obtain ⟨a, h1, h2⟩ := r
            rw [hp] at h1
            cases h1
            exact ⟨p, rfl, h2⟩
        · rw [if_neg e]
          unfold SlR; trivial) (slots_lend hp t)
/-- f(.., x, ..), x one's own and changed -/
theorem ev_call1 {Rl : Rel} {ta : TA} {ss : List Sl} {n : Nat} {o o' : Ow} {EE : XK} (ha : EvA K ta ρ os ss os1) (hk : os1[n]? = some o) (hR : Rl (ss.map (lendS n)) [o] (.fz d) [o']) : Ev K (tCall (spR K Rl) [] EE ta) ρ os d (os1.set n o') := fun R F ps σ H Q I q =>
  ha R F ps σ H _ I fun vs F1 H1 e1 I1 r1 => by
    have hn : n < ps.length := by
      rw [I1.hst.len]
      exact (List.getElem?_eq_some_iff.mp hk).1
    obtain ⟨p, hp⟩ : ∃ p, ps[n]? = some p := ⟨_, List.getElem?_eq_getElem hn⟩
    obtain ⟨R', _, J, back⟩ := I1.hst.lend1 hp hk
    refine ⟨R', F1, [p], _, [o], _, [o'], hR, ⟨by rw [List.append_nil]; exact slots_lend hp r1, J⟩, fun v F2 H2 e2 J2 r2 => ?_⟩
    have B := back F2 H2 o' [] [] e2 J2
    rw [List.append_nil, List.append_nil] at B
    exact q v F2 H2 (e1.trans e2) ⟨I1.sl.up e2 (List.prefix_refl _), B⟩ r2
theorem en_call1 {Rl : Rel} {ta : TA} {ss : List Sl} {n : Nat} {o o' : Ow} {EE : XK} (ha : EvA K ta ρ os ss os1) (hk : os1[n]? = some o) (hR : Rl (ss.map (lendS n)) [o] (.nw d) [o']) : EvN K (tCall (spR K Rl) [] EE ta) ρ os d (os1.set n o') := fun R F ps σ H Q I q =>
  ha R F ps σ H _ I fun vs F1 H1 e1 I1 r1 => by
    have hn : n < ps.length := by
      rw [I1.hst.len]
      exact (List.getElem?_eq_some_iff.mp hk).1
    obtain ⟨p, hp⟩ : ∃ p, ps[n]? = some p := ⟨_, List.getElem?_eq_getElem hn⟩
    obtain ⟨R', _, J, back⟩ := I1.hst.lend1 hp hk
    refine ⟨R', F1, [p], _, [o], _, [o'], hR, ⟨by rw [List.append_nil]; exact slots_lend hp r1, J⟩, fun a F2 H2 e2 J2 J3 => ?_⟩
    have B := back F2 H2 o' [] [] e2 J3
    rw [List.append_nil, List.append_nil] at B
    have hsl := I1.sl.up e2 (List.prefix_refl ps)
    exact q a F2 H2 (e1.trans e2) ⟨hsl.up (Ex.refl _) (List.prefix_append _ _), back F2 H2 o' [a] [.has d] e2 J2⟩ ⟨hsl, B⟩
/-- f(.., x, ..), x one's own and only looked at, the answer a scalar -/
theorem rpk_of : ∀ {kvs : List (Key × V)} {kds : List (Key × D)}, kvs.map (·.1) = kds.map (·.1) → RpL K F (kvs.map (·.2)) (kds.map (·.2)) → RpK K F kvs kds
  | [], [], _, _ => .nil
  | [], _ :: _, h, _ => by cases h
  | _ :: _, [], h, _ => by cases h
  | (k, v) :: kvs, (k', d) :: kds, h, .cons r t => by
    rw [List.map_cons, List.map_cons] at h
    injection h with h1 h2
    have h1 : k = k' := h1
    subst h1
    exact .cons r (rpk_of h2 t)
theorem rpt_of : ∀ {kvs : List (List Key × V)} {kds : List (List Key × D)}, kvs.map (·.1) = kds.map (·.1) → RpL K F (kvs.map (·.2)) (kds.map (·.2)) → RpT K F kvs kds
  | [], [], _, _ => .nil
  | [], _ :: _, h, _ => by cases h
  | _ :: _, [], h, _ => by cases h
  | (k, v) :: kvs, (k', d) :: kds, h, .cons r t => by
    rw [List.map_cons, List.map_cons] at h
    injection h with h1 h2
    have h1 : k = k' := h1
    subst h1
    exact .cons r (rpt_of h2 t)
mutual
theorem Own.rp {F G H : Hp} (e : Ex F G) : ∀ {m : Mk} {v : V} {d : D} {fp : List Addr}, Own K F H m v d fp → (∀ a ∈ fp, ∀ o, H a = some o → G a = some o) → Rp K G v d
  | _, _, _, _, .fz r, _ => Rp.up e r
  | _, _, _, _, .lst h1 _ h3 _, k => .lst (.inl (.inl (k _ (List.mem_cons_self ..) _ h1))) (OwnE.rp e h3 fun a ha => k a (List.mem_cons_of_mem _ ha))
  | _, _, _, _, .tup h1 _ h3, k => .tup (e _ _ h1) (OwnE.rp e h3 k)
  | _, _, _, _, .dct h1 _ h5 h3 _, k => .dct (.inl (k _ (List.mem_cons_self ..) _ h1)) (rpk_of h5 (OwnE.rp e h3 fun a ha => k a (List.mem_cons_of_mem _ ha)))
  | _, _, _, _, .dctT h1 _ h5 h3 _, k => .dctT (.inl (k _ (List.mem_cons_self ..) _ h1)) (rpt_of h5 (OwnE.rp e h3 fun a ha => k a (List.mem_cons_of_mem _ ha)))
theorem OwnE.rp {F G H : Hp} (e : Ex F G) : ∀ {ms : List Mk} {vs : List V} {ds : List D} {fp : List Addr}, OwnE K F H ms vs ds fp → (∀ a ∈ fp, ∀ o, H a = some o → G a = some o) → RpL K G vs ds
  | _, _, _, _, .nil, _ => .nil
  | _, _, _, _, .cons h1 h2 _, k => .cons (Own.rp e h1 fun a ha => k a (List.mem_append_left _ ha)) (OwnE.rp e h2 fun a ha => k a (List.mem_append_right _ ha))
end
/-- what one sees of one's own -/
def Ow.sees : Ow → D → Prop
  | .gone, _ => False
  | .has d, e => d = e
  | .deep _ d, e => d = e
theorem Hst.view (h : Hst K F R ps os H) : ∃ G, Ex F G ∧ Hst K G R [] [] H ∧ (∀ (i : Nat) (p : Addr) (w : Ow) (d : D), ps[i]? = some p → os[i]? = some w → w.sees d → Rp K G (.ref p) d) ∧ ∀ G' H', Ex G G' → Hst K G' R [] [] H' → Hst K F R ps os H' := by
  classical
  obtain ⟨φ, hφ⟩ := h.dp
  have hM : ∀ {a}, Mine ps os φ (fun _ => False) a → F a = none ∧ R a = none ∧ ∃ o, H a = some o ∧ ∀ xs, o ≠ .tup xs := fun {a} m => h.mine hφ m
  have e : Ex F (fun a => if Mine ps os φ (fun _ => False) a then H a else F a) := fun a u q => by
    by_cases m : Mine ps os φ (fun _ => False) a
    · rw [(hM m).1] at q; cases q
    · simp only [m, if_false]; exact q
  have eM : ∀ {a}, Mine ps os φ (fun _ => False) a → (if Mine ps os φ (fun _ => False) a then H a else F a) = H a := fun {a} m => if_pos m
  refine ⟨fun a => if Mine ps os φ (fun _ => False) a then H a else F a, e, ⟨fun a u q => ?_, fun a u q => ?_, rfl, fun i a d h1 _ => by simp at h1, fun i j a h1 _ _ _ => by simp at h1, Dp.nil⟩, fun i p w d h1 h2 h3 => ?_, fun G' H' e' J => ?_⟩
  · by_cases m : Mine ps os φ (fun _ => False) a
    · simp only [m, if_true] at q; exact q
    · simp only [m, if_false] at q; exact h.sub a u q
  · obtain ⟨q1, q2, q3⟩ := h.oth a u q
    have m : ¬ Mine ps os φ (fun _ => False) a := fun m => by rw [(hM m).2.1] at q; cases q
    exact ⟨by simp only [m, if_false]; exact q1, q2, q3⟩
  · cases w with
    | gone => exact h3.elim
    | has d' =>
      have h3 : d' = d := h3
      subst h3
      obtain ⟨q1, q2, w, q3, q4⟩ := h.own i p d' h1 h2
      have m : Mine ps os φ (fun _ => False) p := .inl ⟨i, d', fun z => z, h1, h2⟩
      exact (q4.up e).rp (by simp only [m, if_true]; exact q3)
    | deep mk d' =>
      have h3 : d' = d := h3
      subst h3
      exact Own.rp e (hφ.ow i p mk d' h1 h2) fun a ha o ho => by
        have m : Mine ps os φ (fun _ => False) a := .inr ⟨i, p, mk, d', fun z => z, h1, h2, ha⟩
        simp only [m, if_true]; exact ho
  · have keep : ∀ {a}, Mine ps os φ (fun _ => False) a → ∀ o, H a = some o → H' a = some o := fun {a} m o ho => J.sub _ _ (e' _ _ (by simp only [m, if_true]; exact ho))
    refine ⟨(e.trans e').trans J.sub, fun a u q => ?_, h.len, fun i a d h1 h2 => ?_, h.dis, φ, hφ.tr (Ex.refl F) (fun _ _ _ _ x y => ⟨x, y⟩) fun i a ⟨q', m, d, x, y⟩ ha f r n q => ⟨f, r, keep (.inr ⟨i, q', m, d, fun z => z, x, y, ha⟩), q⟩⟩
    · obtain ⟨q1, q2, q3⟩ := J.oth a u q
      exact ⟨(h.oth a u q).1, q2, q3⟩
    · obtain ⟨q1, q2, w, q3, q4⟩ := h.own i a d h1 h2
      exact ⟨q1, q2, w, keep (.inl ⟨i, d, fun z => z, h1, h2⟩) w q3, q4⟩
theorem ev_callV {Rl : Rel} {ta : TA} {ss : List Sl} {ds : List D} {EE : XK} (ha : EvA K ta ρ os ss os1) (hv : Paired (Look os1) ss ds) (hR : Rl (ds.map Sl.fz) [] (.fz d) []) (hsc : scal d = true) : Ev K (tCall (spR K Rl) [] EE ta) ρ os d os1 := fun R F ps σ H Q I q =>
  ha R F ps σ H _ I fun vs F1 H1 e1 I1 r1 => by
    obtain ⟨G, eG, J, see, back⟩ := I1.hst.view
    have sl : ∀ {vs : List V} {ss : List Sl} {ds : List D}, Paired (SlR K F1 ps) (vs.map some) ss → Paired (Look os1) ss ds → Slots K G [] (vs.map some) (ds.map Sl.fz) := by
      intro vs
      induction vs with
      | nil =>
        intro ss ds h1 h2
        cases h1
        cases h2
        exact .nil
      | cons v vs ih =>
        intro ss ds h1 h2
        cases h1 with
        | @cons _ s _ ss r t =>
          cases h2 with
          | @cons _ d _ ds k t2 =>
            refine .cons ?_ (ih t t2)
            show Rp K G v d
            cases s with
            | un => exact k.elim
            | fz d' =>
              have : d' = d := k
              subst this
              exact Rp.up eG r
            | «at» i =>
              obtain ⟨p, h1, rfl⟩ := r
              exact see i p _ d h1 k (show (Ow.has d).sees d from rfl)
    refine ⟨R, G, [], _, [], _, [], hR, ⟨by rw [List.append_nil]; exact sl r1 hv, J⟩, fun v F2 H2 e2 J2 r2 => ?_⟩
    exact q v F1 H2 e1 ⟨I1.sl, back F2 H2 e2 J2⟩ (Rp.scal r2 hsc)
end
end Ly

set_option Elab.async false
set_option linter.all false
set_option autoImplicit false
set_option maxRecDepth 100000
set_option maxHeartbeats 4000000
/-! Lay4: more expressions; the plain partial operations that the mirrors are made of. -/
namespace Ly
open PySem PySem.Spec PyProof.Rows L2

structure LH2 (α β : Type) where
  a : α
  b : β
structure LH3 (α β γ : Type) where
  a : α
  b : β
  c : γ
structure LH4 (α β γ δ : Type) where
  a : α
  b : β
  c : γ
  d : δ
@[reducible] instance {α β : Type} [Enc α] [Enc β] : Enc (LH2 α β) := ⟨fun p => .lst [E p.a, E p.b]⟩
@[reducible] instance {α β γ : Type} [Enc α] [Enc β] [Enc γ] : Enc (LH3 α β γ) := ⟨fun p => .lst [E p.a, E p.b, E p.c]⟩
@[reducible] instance {α β γ δ : Type} [Enc α] [Enc β] [Enc γ] [Enc δ] : Enc (LH4 α β γ δ) := ⟨fun p => .lst [E p.a, E p.b, E p.c, E p.d]⟩
/-- a list or a tuple -/
inductive Sq (α : Type) where
  | l (xs : List α) | t (xs : List α)
def Sq.v {α : Type} : Sq α → List α
  | .l xs => xs
  | .t xs => xs
@[reducible] instance {α : Type} [Enc α] : Enc (Sq α) := ⟨fun s => match s with | .l xs => .lst (xs.map E) | .t xs => .tup (xs.map E)⟩

/-! ### plain partial operations -/
def fdivI (i j : Int) : Option Int := if j ≠ 0 ∧ j.natAbs < 1073741824 then some (i.fdiv j) else none
def modI (i j : Int) : Option Int := if j ≠ 0 then some (i.fmod j) else none
def mulI (i j : Int) : Option Int := if i.natAbs.log2 + j.natAbs.log2 < 1000000 then some (i * j) else none
def powI (i j : Int) : Option Int := if 0 ≤ j ∧ j ≤ 1000000 ∧ i.natAbs < 2 ^ 64 then some (i ^ j.toNat) else none
def rngL (lo hi : Int) : Option (List Int) := if rngOk lo hi then some (rng lo hi) else none
def appL {α : Type} (xs : List α) (x : α) : Option (List α) := if xs.length < LIM then some (xs ++ [x]) else none
def popL {α : Type} (xs : List α) (n : Int) : Option (α × List α) := if 0 ≤ n ∧ xs.length ≤ LIM then (xs[n.toNat]?).map fun x => (x, xs.eraseIdx n.toNat) else none
def setL {α : Type} (xs : List α) (n : Int) (x : α) : Option (List α) := (ixN xs.length n).map fun j => xs.set j x
def insL {α : Type} (xs : List α) (n : Int) (x : α) : Option (List α) := if 0 ≤ n ∧ n < 2 ^ 63 ∧ xs.length < LIM then some (xs.take n.toNat ++ [x] ++ xs.drop n.toNat) else none
def absI (i : Int) : Int := if i < 0 then -i else i
def max2 (i j : Int) : Int := if j > i then j else i
def min2 (i j : Int) : Int := if j < i then j else i
def guard (b : Bool) : Option Unit := if b then some () else none
def ctl {S R β : Type} : Ctl S R → (S → β) → (R → β) → β
  | .nx s, f, _ => f s
  | .bk s, f, _ => f s
  | .rt r, _, g => g r
theorem guard_some {b : Bool} {u : Unit} (h : guard b = some u) : b = true := by
  unfold guard at h
  split at h
  · assumption
  · cases h
/-- loops that are not left by a return -/
def loopN {α S : Type} (b : α → S → Option (Ctl S Empty)) (xs : List α) (s : S) : Option S := match loopM b xs s with
  | some (.nx s) => some s
  | _ => none
def whileN {S : Type} (c : S → Option Bool) (b : S → Option (Ctl S Empty)) (n : Nat) (s : S) : Option S := match whileM c b n s with
  | some (.nx s) => some s
  | _ => none
theorem loopN_some {α S : Type} {b : α → S → Option (Ctl S Empty)} {xs : List α} {s s' : S} (h : loopN b xs s = some s') : loopM b xs s = some (.nx s') := by
  unfold loopN at h
  split at h
  · cases h; assumption
  · cases h
theorem whileN_some {S : Type} {c : S → Option Bool} {b : S → Option (Ctl S Empty)} {n : Nat} {s s' : S} (h : whileN c b n s = some s') : whileM c b n s = some (.nx s') := by
  unfold whileN at h
  split at h
  · cases h; assumption
  · cases h

section
variable {K : PySem.W.Frag} {R F G H : Hp} {ps : List Addr} {ρ ρ' : List Sl} {os os1 os2 os3 : List Ow} {σ : L2.St} {s t : Sl} {d e : D} {te ta tb tc : TE} {tt tu : TT} {P : Post}

theorem ev_fdivO {i j r : Int} (ha : Ev K ta ρ os (.int i) os1) (hb : Ev K tb ρ os1 (.int j) os2) (h : fdivI i j = some r) : Ev K (tOp (rI CDivN fun i j => .int (i.fdiv j)) ta tb) ρ os (.int r) os2 := by
  unfold fdivI at h
  split at h
  · cases h
    rename_i h
    exact ev_fdiv ha hb h
  · cases h
theorem ev_modO {i j r : Int} (ha : Ev K ta ρ os (.int i) os1) (hb : Ev K tb ρ os1 (.int j) os2) (h : modI i j = some r) : Ev K (tOp (rI (fun _ j => j ≠ 0) fun i j => .int (i.fmod j)) ta tb) ρ os (.int r) os2 := by
  unfold modI at h
  split at h
  · cases h
    rename_i h
    exact ev_mod ha hb h
  · cases h
theorem ev_mulO {i j r : Int} (ha : Ev K ta ρ os (.int i) os1) (hb : Ev K tb ρ os1 (.int j) os2) (h : mulI i j = some r) : Ev K (tOp (rI CMulW fun i j => .int (i * j)) ta tb) ρ os (.int r) os2 := by
  unfold mulI at h
  split at h
  · cases h
    rename_i h
    exact ev_mulW ha hb h
  · cases h
theorem ev_powO {i j r : Int} (ha : Ev K ta ρ os (.int i) os1) (hb : Ev K tb ρ os1 (.int j) os2) (h : powI i j = some r) : Ev K (tOp (rI CPow fun i j => .int (i ^ j.toNat)) ta tb) ρ os (.int r) os2 := by
  unfold powI at h
  split at h
  · cases h
    rename_i h
    exact ev_pow ha hb h
  · cases h
theorem src_rng1O {ta : TA} {n : Int} {xs : List Int} (h : EvA K ta ρ os [.fz (.int n)] os1) (hn : rngL 0 n = some xs) : Src K (iRng1 ta) ρ os (xs.map E) os1 := by
  unfold rngL at hn
  split at hn
  · cases hn
    rename_i hn
    exact src_rng1 h hn
  · cases hn
theorem src_rng2O {ta : TA} {m n : Int} {xs : List Int} (h : EvA K ta ρ os [.fz (.int m), .fz (.int n)] os1) (hn : rngL m n = some xs) : Src K (iRng2 ta) ρ os (xs.map E) os1 := by
  unfold rngL at hn
  split at hn
  · cases hn
    rename_i hn
    exact src_rng2 h hn
  · cases hn
theorem src_lst {α : Type} [Enc α] {xs : List α} (h : Ev K te ρ os (E xs) os1) : Src K (iList K te) ρ os (xs.map E) os1 := src_list h
theorem src_tupT {α : Type} [Enc α] {xs : Tup α} (h : Ev K te ρ os (E xs) os1) : Src K (iTup K te) ρ os (xs.l.map E) os1 := src_tup h
theorem ev_appO {α : Type} [Enc α] {xs ys : List α} {x : α} {i : Nat} (ha : EvS K ta ρ os (.at i) os) (h0 : ∃ ds, os[i]? = some (.has (.lst ds))) (hb : Ev K tb ρ os (E x) os1) (hk : os1[i]? = some (.has (E xs))) (h : appL xs x = some ys) :
    Ev K (tBM K "list" rAppend ta (tCons tb tNil)) ρ os .non (os1.set i (.has (E ys))) := by
  unfold appL at h
  split at h
  · cases h
    rename_i h
    exact ev_append ha h0 hb hk h
  · cases h
theorem ev_popO {α : Type} [Enc α] {xs ys : List α} {x : α} {i : Nat} {n : Int} (ha : EvS K ta ρ os (.at i) os) (h0 : ∃ ds, os[i]? = some (.has (.lst ds))) (hb : Ev K tb ρ os (.int n) os1) (hk : os1[i]? = some (.has (E xs))) (h : popL xs n = some (x, ys)) :
    Ev K (tBM K "list" rPopAt ta (tCons tb tNil)) ρ os (E x) (os1.set i (.has (E ys))) := by
  unfold popL at h
  split at h
  · rename_i hc
    obtain ⟨y, hy, he⟩ := Option.map_eq_some_iff.mp h
    cases he
    exact ev_popAt ha h0 hb hk hc.1 hy hc.2
  · cases h
theorem run_setO {α : Type} [Enc α] {xs ys : List α} {x : α} {i : Nat} {n : Int} (h : Ev K te ρ os (E x) os1) (ha : EvS K ta ρ os1 (.at i) os1) (hb : Ev K tb ρ os1 (.int n) os2) (hk : os2[i]? = some (.has (E xs))) (hj : setL xs n x = some ys)
    (k : P.nx ρ (os2.set i (.has (E ys)))) : Run K (tAsg te (gSub ta tb rSetL)) ρ os P := by
  unfold setL at hj
  obtain ⟨j, hj2, rfl⟩ := Option.map_eq_some_iff.mp hj
  exact run_setL h ha hb hk hj2 k
/-- xs[n] = e, a list of unlike things -/
theorem run_setD {ds : List D} {i : Nat} {n : Int} {j : Nat} (h : Ev K te ρ os d os1) (ha : EvS K ta ρ os1 (.at i) os1) (hb : Ev K tb ρ os1 (.int n) os2) (hk : os2[i]? = some (.has (.lst ds))) (hj : ixN ds.length n = some j)
    (k : P.nx ρ (os2.set i (.has (.lst (ds.set j d))))) : Run K (tAsg te (gSub ta tb rSetL)) ρ os P := fun R F ps σ H Dn I c =>
  h R F ps σ H _ I fun v F1 H1 e1 I1 r1 => ha R F1 ps σ H1 _ I1 fun u F2 H2 e2 I2 r2 => hb R F2 ps σ H2 _ I2 fun w F3 H3 e3 I3 r3 => by
    obtain ⟨p, hp, rfl⟩ := r2
    cases (show Rp K F3 w (.int n) from r3)
    obtain ⟨vs, hv, r⟩ := I3.lst hp hk
    exact ⟨p, vs, n, j, rfl, rfl, hv, by rw [r.length]; exact hj, c.nx _ _ F3 ps σ _ ((e1.trans e2).trans e3) (List.prefix_refl _) (I3.wr hp hk (.lst (r.set (Rp.up (e2.trans e3) r1) j))) k⟩
/-- xs.insert(n, e) -/
theorem ev_insO {α : Type} [Enc α] {xs ys : List α} {x : α} {i : Nat} {n : Int} (ha : EvS K ta ρ os (.at i) os) (h0 : ∃ ds, os[i]? = some (.has (.lst ds))) (hb : Ev K tb ρ os (.int n) os1) (hc : Ev K tc ρ os1 (E x) os2) (hk : os2[i]? = some (.has (E xs))) (h : insL xs n x = some ys) :
    Ev K (tBM K "list" (fun x vs H Q => ∃ (l : Addr) (xs : List V) (i : Int) (y : V), x = .ref l ∧ vs = [.int i, y] ∧ H l = some (.lst xs) ∧ xs.length < sizeLine ∧ 0 ≤ i ∧ i < 2 ^ 63 ∧
    Q .non (upd H l (.lst (xs.take i.toNat ++ [y] ++ xs.drop i.toNat)))) ta (tCons tb (tCons tc tNil))) ρ os .non (os2.set i (.has (E ys))) := fun R F ps σ H Q I q =>
  ha R F ps σ H _ I fun v F1 H1 e1 I1 r1 => by
    obtain ⟨p, hp, rfl⟩ := r1
    obtain ⟨ds, h0⟩ := h0
    obtain ⟨xs0, hx0, _⟩ := I1.lst hp h0
    unfold insL at h
    split at h
    case isFalse => cases h
    rename_i hcond
    cases h
    refine ⟨.inl ⟨rfl, xs0, .inl (.inl hx0)⟩, hb R F1 ps σ H1 _ I1 fun w F2 H2 e2 I2 r2 => hc R F2 ps σ H2 _ I2 fun u F3 H3 e3 I3 r3 => ?_⟩
    cases (show Rp K F2 w (.int n) from r2)
    obtain ⟨vs, hv, r⟩ := I3.lst hp hk
    refine ⟨p, vs, n, u, rfl, rfl, hv, by rw [r.length, List.length_map]; exact hcond.2.2, hcond.1, hcond.2.1, q .non F3 _ ((e1.trans e2).trans e3) (I3.wr (d' := E (xs.take n.toNat ++ [x] ++ xs.drop n.toNat)) hp hk ?_) .non⟩
    show ObjR K F3 (.lst (vs.take n.toNat ++ [u] ++ vs.drop n.toNat)) (.lst ((xs.take n.toNat ++ [x] ++ xs.drop n.toNat).map E))
    rw [List.map_append, List.map_append, List.map_take, List.map_drop]
    exact .lst (((r.take _).app (.cons r3 .nil)).app (r.drop _))

/-! numbers -/
theorem ev_abs {i : Int} {ta : TA} (h : EvA K ta ρ os [.fz (.int i)] os1) : Ev K (tCB (fun xs H Q => ∃ i, xs = [.int i] ∧ Q (.int (if i < 0 then -i else i)) H) ta) ρ os (.int (absI i)) os1 := fun R F ps σ H Q I q =>
  h R F ps σ H _ I fun vs F1 H1 e1 I1 r1 => by
    obtain ⟨v, rfl, r⟩ := one_of r1
    cases r
    exact ⟨i, rfl, q _ F1 H1 e1 I1 (.int _)⟩
theorem ev_int1 {i : Int} {ta : TA} (h : EvA K ta ρ os [.fz (.int i)] os1) : Ev K (tCB (fun xs H Q => (∃ i, xs = [.int i] ∧ Q (.int i) H) ∨ ∃ k, xs = [.bl k] ∧ Q (.int (if k then 1 else 0)) H) ta) ρ os (.int i) os1 := fun R F ps σ H Q I q =>
  h R F ps σ H _ I fun vs F1 H1 e1 I1 r1 => by
    obtain ⟨v, rfl, r⟩ := one_of r1
    cases r
    exact .inl ⟨i, rfl, q _ F1 H1 e1 I1 (.int _)⟩
theorem ev_max2 {i j : Int} {ta : TA} (h : EvA K ta ρ os [.fz (.int i), .fz (.int j)] os1) : Ev K (tCB (fun xs H Q => ∃ i j, xs = [.int i, .int j] ∧ Q (.int (if j > i then j else i)) H) ta) ρ os (.int (max2 i j)) os1 := fun R F ps σ H Q I q =>
  h R F ps σ H _ I fun vs F1 H1 e1 I1 r1 => by
    obtain ⟨v, w, rfl, r, r'⟩ := two_of r1
    cases r; cases r'
    exact ⟨i, j, rfl, q _ F1 H1 e1 I1 (.int _)⟩
theorem ev_min2 {i j : Int} {ta : TA} (h : EvA K ta ρ os [.fz (.int i), .fz (.int j)] os1) : Ev K (tCB (fun xs H Q => ∃ i j, xs = [.int i, .int j] ∧ Q (.int (if j < i then j else i)) H) ta) ρ os (.int (min2 i j)) os1 := fun R F ps σ H Q I q =>
  h R F ps σ H _ I fun vs F1 H1 e1 I1 r1 => by
    obtain ⟨v, w, rfl, r, r'⟩ := two_of r1
    cases r; cases r'
    exact ⟨i, j, rfl, q _ F1 H1 e1 I1 (.int _)⟩

/-! isinstance -/
def tyN : D → String
  | .non => "NoneType"
  | .bl _ => "bool"
  | .int _ => "int"
  | .str _ => "str"
  | .lst _ => "list"
  | .tup _ => "tuple"
  | .dct _ => "dict"
  | .dctT _ => "dict"
  | .adr _ => "?"
  | .ty _ => "?"
  | .exc _ _ _ _ => "?"
theorem tyX_of (h : Hst K F R ps os H) {v : V} (r : Rp K F v d) (hq : tyN d ≠ "?") (hd : ∀ ds, d = .dctT ds → ∀ a o u, v = .ref a → F a ≠ some (.frz o u)) : TyX K H v (.type (tyN d)) := by
  cases r with
  | non => exact .base .non
  | bl b => exact .base (.bl b)
  | int i => exact .base (.int i)
  | str x => exact .base (.str x)
  | ty n => exact absurd rfl hq
  | @lst a xs ds h1 h2 =>
    rcases h1 with (h1 | ⟨o, h1⟩) | ⟨o, its, n, h1, h3, _⟩
    · exact .base (.lst (h.sub _ _ h1))
    · exact .base (.frz (h.sub _ _ h1))
    · exact .kList h1 h3
  | tup h1 h2 => exact .base (.tup (h.sub _ _ h1))
  | dct h1 h2 =>
    rcases h1 with h1 | ⟨o, h1⟩
    · exact .base (.dK (h.sub _ _ h1))
    · exact .fDict (h.sub _ _ h1)
  | dctT h1 h2 =>
    rcases h1 with h1 | ⟨o, h1⟩
    · exact .base (.dT (h.sub _ _ h1))
    · exact absurd h1 (hd _ rfl _ _ _ rfl)
  | adr a => exact absurd rfl hq
  | exc _ _ => exact absurd rfl hq
theorem twoS_of {F : Hp} {vs : List V} {s t : Sl} (h : Paired (SlR K F ps) (vs.map some) [s, t]) : ∃ v w, vs = [v, w] ∧ SlR K F ps (some v) s ∧ SlR K F ps (some w) t := by
  match vs, h with
  | [v, w], .cons r (.cons q .nil) => exact ⟨v, w, rfl, r, q⟩
theorem ev_ty {n : String} : Ev K (tC (.ty n)) ρ os (.ty n) os := fun R F ps σ H Q I q => q _ F H (Ex.refl F) I (.ty n)
def notT : D → Bool
  | .dctT _ => false
  | .adr _ => false
  | .ty _ => false
  | .exc _ _ _ _ => false
  | _ => true
theorem tyN_ok (h : notT d = true) : tyN d ≠ "?" := by
  cases d <;> first | (cases h; done) | (simp [tyN])
theorem ev_isi {n : String} {b : Bool} {ta : TA} (h : EvA K ta ρ os [.fz d, .fz (.ty n)] os1) (hq : notT d = true) (hb : kitB (tyN d) n = some b) : Ev K (tCB (rIsi K) ta) ρ os (.bl b) os1 := fun R F ps σ H Q I q =>
  h R F ps σ H _ I fun vs F1 H1 e1 I1 r1 => by
    obtain ⟨v, w, rfl, r, r'⟩ := two_of r1
    cases r'
    exact ⟨v, .ty n, _, .type n, b, rfl, .ty n, tyX_of I1.hst r (tyN_ok hq) (fun ds e => by subst e; cases hq), kit_ty hb, q _ F1 H1 e1 I1 (.bl b)⟩

theorem take_app_le {α : Type} {l m : List α} {n : Nat} (h : l.length ≤ n) : (l ++ m).take n = l ++ m.take (n - l.length) := by
  rw [List.take_append, List.take_of_length_le h]
/-! a join behind an if -/
theorem run_join {V' : Type} {v : V'} {ts us : TS} (shape : V' → List Sl) (osh : V' → List Ow) (hn : os.length ≤ (osh v).length) (hif : Run K ts ρ os { P with nx := fun ρ' os' => Wk ρ' os' (shape v) (osh v) }) (hrest : Run K us (shape v) (osh v) P) : Run K (tSeq ts us) ρ os P := fun R F ps σ H Dn I c =>
  hif R F ps σ H _ I ⟨fun ρ' os' F' ps' σ' H' e p J w => by
    have hp : ps <+: ps'.take (osh v).length := by
      obtain ⟨t, rfl⟩ := p
      have : ps.length ≤ (osh v).length := by rw [I.hst.len]; exact hn
      rw [take_app_le this]
      exact List.prefix_append _ _
    exact hrest R F' _ σ' H' Dn (J.wk w) (c.up e hp), c.rt, c.bk, c.ct, c.ex⟩
theorem run_nxW {ρ2 : List Sl} {osn : List Ow} (h : Wk ρ os ρ2 osn) (hP : P.nx = fun ρ' os' => Wk ρ' os' ρ2 osn) : P.nx ρ os := by rw [hP]; exact h
/-- a for that is not left -/
theorem run_forN {α S : Type} [Enc α] {wi : TI} {g : TG} {tb : TS} {xs : List α} {b : α → S → Option (Ctl S Empty)} {s0 s1 : S} (shape : S → List Sl) (osh : S → List Ow)
    (hs : Src K wi ρ os (xs.map E) os1) (hm : loopN b xs s0 = some s1) (hw : Wk ρ os1 (shape s0) (osh s0)) (hn : ∀ s, (osh s).length = os1.length)
    (hb : ∀ x s c', x ∈ xs → b x s = some c' → ∃ ρ' js, TgB K g (E x) (shape s) ρ' js ∧ Run K tb ρ' (osh s) (LPost P shape osh (fun (_ : Empty) _ _ => False) c'))
    (hx : P.nx (shape s1) (osh s1)) : Run K (tFor wi g tb) ρ os P :=
  run_for shape osh (fun (_ : Empty) _ _ => False) hs (loopN_some hm) hw hn hb (fun s e => by cases e; exact hx) (fun r => nomatch r)
theorem run_whileN {S : Type} {tb : TS} {cM : S → Option Bool} {b : S → Option (Ctl S Empty)} {n : Nat} {s0 s1 : S} (shape : S → List Sl) (osh : S → List Ow)
    (hm : whileN cM b n s0 = some s1) (hw : Wk ρ os (shape s0) (osh s0)) (hn : ∀ s, (osh s).length = os.length)
    (ht : ∀ s q, cM s = some q → EvT K tt (shape s) (osh s) q (osh s))
    (hb : ∀ s c', cM s = some true → b s = some c' → Run K tb (shape s) (osh s) (LPost P shape osh (fun (_ : Empty) _ _ => False) c'))
    (hx : P.nx (shape s1) (osh s1)) : Run K (tWhile tt tb) ρ os P :=
  run_while shape osh (fun (_ : Empty) _ _ => False) (whileN_some hm) hw hn ht hb (fun s e => by cases e; exact hx) (fun r => nomatch r)

/-! truth values, joined -/
theorem et_andP {a b : Bool} (h : EvT K tt ρ os a os1) (h1 : EvT K tu ρ os1 b os1) : EvT K (tAnd tt tu) ρ os (a && b) os1 := by
  cases a with
  | true => exact et_and h (fun _ => h1) (fun z => nomatch z)
  | false => exact et_and h (fun z => nomatch z) (fun _ => ⟨rfl, rfl⟩)
theorem et_orP {a b : Bool} (h : EvT K tt ρ os a os1) (h1 : EvT K tu ρ os1 b os1) : EvT K (tOr tt tu) ρ os (a || b) os1 := by
  cases a with
  | true => exact et_or h (fun z => nomatch z) (fun _ => ⟨rfl, rfl⟩)
  | false => exact et_or h (fun _ => h1) (fun z => nomatch z)
theorem ev_andP {a b : Bool} (h : Ev K ta ρ os (.bl a) os1) (h1 : Ev K tb ρ os1 (.bl b) os1) : Ev K (tAndV ta tb) ρ os (.bl (a && b)) os1 := by
  cases a with
  | true => exact ev_andV h (fun _ => h1) (fun z => nomatch z)
  | false => exact ev_andV h (fun z => nomatch z) (fun _ => ⟨rfl, rfl⟩)
theorem ev_orP {a b : Bool} (h : Ev K ta ρ os (.bl a) os1) (h1 : Ev K tb ρ os1 (.bl b) os1) : Ev K (tOrV ta tb) ρ os (.bl (a || b)) os1 := by
  cases a with
  | true => exact ev_orV h (fun z => nomatch z) (fun _ => ⟨rfl, rfl⟩)
  | false => exact ev_orV h (fun _ => h1) (fun z => nomatch z)
theorem ev_ifP {α : Type} [Enc α] {b : Bool} {x y : α} (h : EvT K tt ρ os b os1) (h1 : Ev K ta ρ os1 (E x) os1) (h2 : Ev K tb ρ os1 (E y) os1) : Ev K (tIf tt ta tb) ρ os (E (cond b x y)) os1 := by
  cases b with
  | true => exact ev_if h (fun _ => h1) (fun z => nomatch z)
  | false => exact ev_if h (fun z => nomatch z) (fun _ => h2)
theorem cond_tt {b : Bool} {v : Bool} {os0 : List Ow} (hb : b = false) (h : cond b (some true) (some v) = some true ∨ True) : True := True.intro
end
end Ly

set_option Elab.async false
set_option linter.all false
set_option autoImplicit false
set_option maxRecDepth 100000
set_option maxHeartbeats 4000000
/-! Lay5: data of any kind; comprehensions without effects; sums of truths. -/
namespace Ly
open PySem PySem.Spec PyProof.Rows L2

def dIx : D → Int → Option D
  | .lst ds, i => atI ds i
  | .tup ds, i => atI ds i
  | _, _ => none
def dLen : D → Option Int
  | .lst ds => some ds.length
  | .tup ds => some ds.length
  | _ => none
def dTup : D → Option (List D)
  | .tup ds => some ds
  | _ => none
def dLst : D → Option (List D)
  | .lst ds => some ds
  | _ => none
def dIsi (d : D) (n : String) : Option Bool := if notT d then kitB (tyN d) n else none
def mapO {α β : Type} (f : α → β) (xs : List α) : Option (List β) := if xs.length ≤ LIM then some (xs.map f) else none
def filtO {α β : Type} (p : α → Bool) (f : α → β) (xs : List α) : Option (List β) := if xs.length ≤ LIM then some ((xs.filter p).map f) else none
theorem compM_map {α β : Type} {p : α → Bool} {f : α → β} : ∀ {xs : List α}, compM (fun x (_ : Unit) => some (cond (p x) (some (f x)) none, ())) xs () = some ((xs.filter p).map f, ())
  | [] => rfl
  | x :: xs => by
    have ih := compM_map (p := p) (f := f) (xs := xs)
    simp only [compM, ih]
    cases h : p x <;> simp [List.filter_cons, h]

section
variable {K : PySem.W.Frag} {R F G H : Hp} {ps : List Addr} {ρ ρ' : List Sl} {os os1 os2 os3 : List Ow} {σ : L2.St} {s t : Sl} {d e : D} {te ta tb tc : TE} {tt tu : TT} {P : Post}
/-- xs[i], a list or a tuple -/
theorem ev_ixQ {ds : List D} {i : Int} (ha : EvS K ta ρ os s os1) (hb : Ev K tb ρ os1 (.int i) os2) (k : Look os2 s (.lst ds) ∨ Look os2 s (.tup ds)) (h : atI ds i = some d) : Ev K (tOp (rIx K) ta tb) ρ os d os2 := fun R F ps σ H Q I q => by
  rcases k with k | k
  · exact ha R F ps σ H _ I fun v F1 H1 e1 I1 r1 => hb R F1 ps σ H1 _ I1 fun w F2 H2 e2 I2 r2 => by
      cases (show Rp K F2 w (.int i) from r2)
      obtain ⟨a, xs, rfl, h1, h2⟩ := I2.seeL (SlR.up e2 (List.prefix_refl _) r1) k
      obtain ⟨x, h3, h4⟩ := atI_rp h2 h
      exact .inl ⟨a, xs, i, x, rfl, rfl, h1, h3, q x F2 H2 (e1.trans e2) I2 h4⟩
  · exact ha R F ps σ H _ I fun v F1 H1 e1 I1 r1 => hb R F1 ps σ H1 _ I1 fun w F2 H2 e2 I2 r2 => by
      cases (show Rp K F2 w (.int i) from r2)
      obtain ⟨a, xs, rfl, h1, h2⟩ := I2.seeT (SlR.up e2 (List.prefix_refl _) r1) k
      obtain ⟨x, h3, h4⟩ := atI_rp h2 h
      exact .inr (.inl ⟨a, xs, i, x, rfl, rfl, h1, h3, q x F2 H2 (e1.trans e2) I2 h4⟩)
theorem look_sq {α : Type} [Enc α] {xs : Sq α} (k : Look os s (E xs)) : Look os s (.lst (xs.v.map E)) ∨ Look os s (.tup (xs.v.map E)) := by
  cases xs with
  | l xs => exact .inl k
  | t xs => exact .inr k
theorem ev_ixSq {α : Type} [Enc α] {xs : Sq α} {x : α} {i : Int} (ha : EvS K ta ρ os s os1) (hb : Ev K tb ρ os1 (.int i) os2) (k : Look os2 s (E xs)) (h : atI xs.v i = some x) : Ev K (tOp (rIx K) ta tb) ρ os (E x) os2 :=
  ev_ixQ ha hb (look_sq k) (atI_map h)
theorem ev_ixD {c : D} {i : Int} (ha : EvS K ta ρ os s os1) (hb : Ev K tb ρ os1 (.int i) os2) (k : Look os2 s c) (h : dIx c i = some d) : Ev K (tOp (rIx K) ta tb) ρ os d os2 := by
  cases c <;> first | (cases h; done) | exact ev_ixQ ha hb (.inl k) h | exact ev_ixQ ha hb (.inr k) h
theorem ev_lenSq {α : Type} [Enc α] {xs : Sq α} {ta : TA} (h : EvA K ta ρ os [s] os1) (k : Look os1 s (E xs)) :
    Ev K (tCB (fun xs H Q => ∃ p ys, xs = [.ref p] ∧ (SqL K H p ys ∨ SqT K H p ys) ∧ Q (.int ys.length) H) ta) ρ os (.int (xs.v.length : Int)) os1 := by
  have := ev_len h (look_sq k)
  rwa [List.length_map] at this
theorem ev_lenD {c : D} {n : Int} {ta : TA} (h : EvA K ta ρ os [s] os1) (k : Look os1 s c) (hn : dLen c = some n) :
    Ev K (tCB (fun xs H Q => ∃ p ys, xs = [.ref p] ∧ (SqL K H p ys ∨ SqT K H p ys) ∧ Q (.int ys.length) H) ta) ρ os (.int n) os1 := by
  cases c <;> first | (cases hn; done) | (cases hn; exact ev_len h (.inl k)) | (cases hn; exact ev_len h (.inr k))
theorem en_listSq {α : Type} [Enc α] {xs : Sq α} {ta : TA} (h : EvA K ta ρ os [s] os1) (k : Look os1 s (E xs)) :
    EvN K (tCB (fun xs H Q => ∃ p ys, xs = [.ref p] ∧ (SqL K H p ys ∨ SqT K H p ys) ∧ ∀ l, H l = none → Q (.ref l) (upd H l (.lst ys))) ta) ρ os (E xs.v) os1 := en_list h (look_sq k)
theorem ev_tupL {α : Type} [Enc α] {xs : List α} {ta : TA} (h : EvA K ta ρ os [s] os1) (k : Look os1 s (E xs)) :
    Ev K (tCB (fun xs H Q => ∃ p ys, xs = [.ref p] ∧ ((SqL K H p ys ∧ ∀ l, H l = none → Q (.ref l) (upd H l (.tup ys))) ∨ (SqT K H p ys ∧ Q (.ref p) H))) ta) ρ os (E (⟨xs⟩ : Tup α)) os1 := fun R F ps σ H Q I q =>
  h R F ps σ H _ I fun vs F1 H1 e1 I1 r1 => by
    obtain ⟨v, rfl, r⟩ := oneS_of r1
    obtain ⟨a, ys, rfl, h1, h2⟩ := I1.seeL r k
    refine ⟨a, ys, rfl, .inl ⟨h1, fun l hl => ?_⟩⟩
    obtain ⟨e2, I2⟩ := I1.newF hl (o := .tup ys)
    exact q (.ref l) _ _ (e1.trans e2) I2 (.tup upd_same (h2.up e2))
theorem src_dTup {ds : List D} (h : Ev K te ρ os d os1) (hd : dTup d = some ds) : Src K (iTup K te) ρ os (ds.map E) os1 := by
  cases d <;> first | (cases hd; done) | skip
  cases hd
  rw [show ds.map E = ds from List.map_id ds]
  exact src_tup h
theorem src_dLst {ds : List D} (h : Ev K te ρ os d os1) (hd : dLst d = some ds) : Src K (iList K te) ρ os (ds.map E) os1 := by
  cases d <;> first | (cases hd; done) | skip
  cases hd
  rw [show ds.map E = ds from List.map_id ds]
  exact src_list h
theorem ev_isiD {n : String} {b : Bool} {ta : TA} (h : EvA K ta ρ os [.fz d, .fz (.ty n)] os1) (hb : dIsi d n = some b) : Ev K (tCB (rIsi K) ta) ρ os (.bl b) os1 := by
  unfold dIsi at hb
  split at hb
  · rename_i hq
    exact ev_isi h hq hb
  · cases hb
theorem ev_isI {i j : Int} (h : Ev K te ρ os (.int i) os1) (q : i = j) : Ev K te ρ os (.int j) os1 := q ▸ h
theorem rpl_bls {F : Hp} {vs : List V} {bs : List Bool} (r : RpL K F vs (bs.map E)) : vs = bs.map V.bl := of_rpl_bls r
theorem ev_all {bs : List Bool} {ta : TA} (h : EvA K ta ρ os [s] os1) (k : Look os1 s (E bs)) : Ev K (tCB (rAll K) ta) ρ os (.bl (bs.all id)) os1 := fun R F ps σ H Q I q =>
  h R F ps σ H _ I fun vs F1 H1 e1 I1 r1 => by
    obtain ⟨v, rfl, r⟩ := oneS_of r1
    obtain ⟨a, ys, rfl, h1, h2⟩ := I1.seeL r k
    have := rpl_bls h2
    subst this
    exact ⟨a, bs, rfl, h1, q _ F1 H1 e1 I1 (.bl _)⟩
theorem ev_any {bs : List Bool} {ta : TA} (h : EvA K ta ρ os [s] os1) (k : Look os1 s (E bs)) : Ev K (tCB (rAny K) ta) ρ os (.bl (bs.any id)) os1 := fun R F ps σ H Q I q =>
  h R F ps σ H _ I fun vs F1 H1 e1 I1 r1 => by
    obtain ⟨v, rfl, r⟩ := oneS_of r1
    obtain ⟨a, ys, rfl, h1, h2⟩ := I1.seeL r k
    have := rpl_bls h2
    subst this
    exact ⟨a, bs, rfl, h1, q _ F1 H1 e1 I1 (.bl _)⟩
/-- comprehensions whose parts are plain -/
theorem en_lcM {α β : Type} [Enc α] [Enc β] {wi : TI} {g : TG} {xs : List α} {f : α → β} {ys : List β} {vs : List Nat} (hs : Src K wi ρ os (xs.map E) os1) (hm : mapO f xs = some ys)
    (hb : ∀ x, x ∈ xs → ∃ ρ' js, TgB K g (E x) (wipeS ρ vs) ρ' js ∧ (∀ j ∈ js, j ∈ vs) ∧ Ev K te ρ' os1 (E (f x)) os1) : EvN K (tLc wi g tYes te vs) ρ os (E ys) os1 := by
  unfold mapO at hm
  split at hm
  case isFalse => cases hm
  rename_i hl
  cases hm
  have e : xs.map f = (xs.filter fun _ => true).map f := by rw [List.filter_eq_self.mpr fun _ _ => rfl]
  rw [e]
  refine en_lc (S := Unit) (f := fun x _ => some (cond ((fun _ => true) x) (some (f x)) none, ())) (s1 := ()) (fun _ => os1) hs (by unfold comp; rw [if_pos hl]; exact compM_map) rfl fun x s y s' hx h => ?_
  obtain ⟨ρ', js, h1, h2, h3⟩ := hb x hx
  refine ⟨ρ', js, h1, h2, true, os1, fun R F ps σ H Q I q => q F H (Ex.refl F) I, fun _ => ?_, fun z => nomatch z⟩
  cases h
  exact ⟨_, rfl, h3⟩
theorem en_lcF {α β : Type} [Enc α] [Enc β] {wi : TI} {g : TG} {xs : List α} {p : α → Bool} {f : α → β} {ys : List β} {vs : List Nat} (hs : Src K wi ρ os (xs.map E) os1) (hm : filtO p f xs = some ys)
    (hb : ∀ x, x ∈ xs → ∃ ρ' js, TgB K g (E x) (wipeS ρ vs) ρ' js ∧ (∀ j ∈ js, j ∈ vs) ∧ EvT K tt ρ' os1 (p x) os1 ∧ (p x = true → Ev K te ρ' os1 (E (f x)) os1)) : EvN K (tLc wi g tt te vs) ρ os (E ys) os1 := by
  unfold filtO at hm
  split at hm
  case isFalse => cases hm
  rename_i hl
  cases hm
  refine en_lc (S := Unit) (f := fun x _ => some (cond (p x) (some (f x)) none, ())) (s1 := ()) (fun _ => os1) hs (by unfold comp; rw [if_pos hl]; exact compM_map) rfl fun x s y s' hx h => ?_
  obtain ⟨ρ', js, h1, h2, h3, h4⟩ := hb x hx
  refine ⟨ρ', js, h1, h2, p x, os1, h3, fun hp => ?_, fun hp => ?_⟩
  · cases h
    exact ⟨_, by rw [hp]; rfl, h4 hp⟩
  · cases h
    exact ⟨by rw [hp]; rfl, rfl⟩
/-- x += e, x -= e -/
theorem run_aug {f : Int → Int → Int} {i : Nat} {a b : Int} (hx : ρ[i]? = some (.fz (.int a))) (h : Ev K te ρ os (.int b) os1) (k : P.nx (ρ.set i (.fz (.int (f a b)))) os1) : Run K (tAug i te (ipI f)) ρ os P := fun R F ps σ H Dn I c => by
  obtain ⟨v, h1, h2⟩ := I.fz hx
  cases h2
  refine ⟨_, h1, h R F ps σ H _ I fun w F1 H1 e1 I1 r1 => ?_⟩
  cases (show Rp K F1 w (.int b) from r1)
  exact ⟨a, b, rfl, rfl, c.nx _ _ F1 ps _ H1 e1 (List.prefix_refl _) (I1.set i (s := .fz (.int (f a b))) (ov := some (.int (f a b))) (Rp.int _)) k⟩
theorem run_augAdd {i : Nat} {a b : Int} (hx : ρ[i]? = some (.fz (.int a))) (h : Ev K te ρ os (.int b) os1) (k : P.nx (ρ.set i (.fz (.int (a + b)))) os1) : Run K (tAug i te (ipI (· + ·))) ρ os P := run_aug hx h k
theorem run_augSub {i : Nat} {a b : Int} (hx : ρ[i]? = some (.fz (.int a))) (h : Ev K te ρ os (.int b) os1) (k : P.nx (ρ.set i (.fz (.int (a - b)))) os1) : Run K (tAug i te (ipI (· - ·))) ρ os P := run_aug hx h k
end
end Ly

set_option Elab.async false
set_option linter.all false
set_option autoImplicit false
set_option maxRecDepth 100000
set_option maxHeartbeats 4000000
/-! Lay6: the syntax rules, with the written part a letter (so that they serve within a block, too). -/
namespace Ly
open PySem PySem.Spec PyProof.Rows L2
section
variable {X : Cx} {K : PySem.W.Frag}
theorem ix_listK (hK : X.K = K) : IxR X (rIxL K) := by subst hK; exact ix_list
theorem ix_tupK (hK : X.K = K) : IxR X (rIxT K) := by subst hK; exact ix_tup
theorem ix_seqK (hK : X.K = K) : IxR X (rIx K) := by subst hK; exact ix_seq
theorem call_lenK (hK : X.K = K) : CallR X (.builtin "len") (fun xs H Q => ∃ p ys, xs = [.ref p] ∧ (SqL K H p ys ∨ SqT K H p ys) ∧ Q (.int ys.length) H) := by subst hK; exact call_len_seq
theorem call_listK (hK : X.K = K) : CallR X (.type "list") (fun xs H Q => ∃ p ys, xs = [.ref p] ∧ (SqL K H p ys ∨ SqT K H p ys) ∧ ∀ l, H l = none → Q (.ref l) (upd H l (.lst ys))) := by subst hK; exact call_list_of
theorem call_tupleK (hK : X.K = K) : CallR X (.type "tuple") (fun xs H Q => ∃ p ys, xs = [.ref p] ∧ ((SqL K H p ys ∧ ∀ l, H l = none → Q (.ref l) (upd H l (.tup ys))) ∨ (SqT K H p ys ∧ Q (.ref p) H))) := by subst hK; exact call_tuple_of
theorem call_isK (hK : X.K = K) : CallR X (.builtin "isinstance") (rIsi K) := by subst hK; exact call_isi
theorem call_allK (hc : X.calm = true) (hK : X.K = K) : CallR X (.builtin "all") (rAll K) := by subst hK; exact cr_all hc
theorem call_anyK (hc : X.calm = true) (hK : X.K = K) : CallR X (.builtin "any") (rAny K) := by subst hK; exact cr_any hc
theorem pi_listK {tg l : Expr} {tl : TE} (hK : X.K = K) (hl : PE X l tl) : PI X tg l (iList K tl) := by subst hK; exact pi_list hl
theorem pi_tupK {tg l : Expr} {tl : TE} (hK : X.K = K) (hl : PE X l tl) : PI X tg l (iTup K tl) := by subst hK; exact pi_tup hl
theorem pg_tupK {es : List Expr} {k : Nat} {t : TGs} {n : Nat} {pos : Pos} (hK : X.K = K) (hc : X.calm = true) (h : PGs X es t)
    (hn : (assignEach es X.env).length = n := by rfl) (hst : (assignEach es X.env).findIdx? (·.1) = none := by rfl) : PG X (.Tuple es k pos) (gTup K n t) := by subst hK; exact pg_tup hc h hn hst
theorem pe_bmK {T : String} {name : Str} {id : String} {r : V → List V → Hp → VK → Prop} {o e : Expr} {es : List Expr} {to : TE} {t : TA} {apos cpos : Pos} (hK : X.K = K) (pa : PlainAttrs T) (slot : Slot T name id) (hty : typeOf (.builtin id) = pure (.type "method_descriptor")) (hm : MtR X id r) (ho : PE X o to) (ha : PA X (e :: es) t)
    (hbase : attributeBase o name X.env (eval o X.env) = eval o X.env := by rfl)
    (hfew : ((backTo cpos (starEach (e :: es) X.env)).all (fun x => !x.1) && (backToKw cpos (keywordEach [] X.env)).all (fun x => x.1.isSome)
      && decide ((e :: es).length + ([] : List Keyword).length + (if ([] : List Keyword).isEmpty then 0 else 1) < 30)) = true := by rfl)
    (hline : (apos.endLine == cpos.line) = true := by rfl) (hs : starEach (e :: es) X.env = (false, eval e X.env) :: starEach es X.env := by rfl) (hplain : (backTo cpos (starEach es X.env)).any (·.1) = false := by rfl) :
    PE X (.Call (.Attribute o name apos) (e :: es) [] cpos) (tBM K T r to t) := by subst hK; exact pe_bm pa slot hty hm ho ha hbase hfew hline hs hplain
end
end Ly

set_option Elab.async false
set_option linter.all false
set_option autoImplicit false
set_option maxRecDepth 100000
set_option maxHeartbeats 4000000
/-! Lay7: dicts; any length; scalars compared. -/
namespace Ly
open PySem PySem.Spec PyProof.Rows L2

def keyD : Key → D
  | .inl i => .int i
  | .inr x => .str x
@[reducible] instance : Enc Key := ⟨keyD⟩
/-- a tuple that is a key -/
structure TK where
  l : List Key
@[reducible] instance : Enc TK := ⟨fun t => .tup (t.l.map keyD)⟩
section
variable {κ α : Type} [DecidableEq κ]
def dget (l : List (κ × α)) (k : κ) : Option α := (l.find? fun kv => decide (kv.1 = k)).map (·.2)
def dhas (l : List (κ × α)) (k : κ) : Bool := (dget l k).isSome
def dput (l : List (κ × α)) (k : κ) (v : α) : List (κ × α) :=
  if (l.any fun kv => decide (kv.1 = k)) = true then l.map (fun kv => if kv.1 = k then (kv.1, v) else kv) else l ++ [(k, v)]
def dputO (l : List (κ × α)) (k : κ) (v : α) : Option (List (κ × α)) := if l.length < LIM then some (dput l k v) else none
theorem dget_map {β : Type} {f : α → β} {l : List (κ × α)} {k : κ} : dget (l.map fun p => (p.1, f p.2)) k = (dget l k).map f := by
  unfold dget
  induction l with
  | nil => rfl
  | cons p l ih =>
    by_cases e : p.1 = k
    · simp [List.find?_cons, e]
    · simpa [List.find?_cons, e] using ih
theorem dhas_map {β : Type} {f : α → β} {l : List (κ × α)} {k : κ} : dhas (l.map fun p => (p.1, f p.2)) k = dhas l k := by
  unfold dhas
  rw [dget_map, Option.isSome_map]
theorem dput_map {β : Type} {f : α → β} {l : List (κ × α)} {k : κ} {v : α} : (dput l k v).map (fun p => (p.1, f p.2)) = dput (l.map fun p => (p.1, f p.2)) k (f v) := by
  unfold dput
  rw [List.any_map]
  have e : ((fun kv : κ × β => decide (kv.1 = k)) ∘ fun p : κ × α => (p.1, f p.2)) = fun kv => decide (kv.1 = k) := rfl
  rw [e]
  split
  · rw [List.map_map, List.map_map]
    apply List.map_congr_left
    intro p _
    by_cases h : p.1 = k <;> simp [h]
  · simp
end
/-- a D as a key -/
def dKey : D → Option Key
  | .int i => some (.inl i)
  | .str x => some (.inr x)
  | _ => none
def dKeys : List D → Option (List Key)
  | [] => some []
  | d :: ds => match dKey d, dKeys ds with
    | some k, some ks => some (k :: ks)
    | _, _ => none
def dTK : D → Option TK
  | .tup ds => (dKeys ds).map TK.mk
  | _ => none
theorem dKey_eq {d : D} {k : Key} (h : dKey d = some k) : d = keyD k := by
  cases d <;> first | (cases h; done) | (cases h; rfl)
theorem dKeys_eq : ∀ {ds : List D} {ks : List Key}, dKeys ds = some ks → ds = ks.map keyD
  | [], _, h => by cases h; rfl
  | d :: ds, ks, h => by
    unfold dKeys at h
    split at h
    · rename_i k ks' h1 h2
      cases h
      rw [dKey_eq h1, dKeys_eq h2]
      rfl
    · cases h
theorem dTK_eq {d : D} {k : TK} (h : dTK d = some k) : d = E k := by
  cases d <;> first | (cases h; done) | skip
  obtain ⟨ks, h1, rfl⟩ := Option.map_eq_some_iff.mp h
  rw [dKeys_eq h1]
  rfl
def dDct : D → Option (List (Key × D))
  | .dct l => some l
  | _ => none
def dDctT : D → Option (List (List Key × D))
  | .dctT l => some l
  | _ => none
/-- scalars of one kind compared -/
def dEq : D → D → Option Bool
  | .int i, .int j => some (decide (i = j))
  | .bl i, .bl j => some (decide (i = j))
  | .str i, .str j => some (decide (i = j))
  | _, _ => none
/-- len of anything -/
def dLenA : D → Option Int
  | .lst ds => some ds.length
  | .tup ds => some ds.length
  | .dct ds => some ds.length
  | _ => none

section
variable {K : PySem.W.Frag} {R F G H : Hp} {ps : List Addr} {ρ ρ' : List Sl} {os os1 os2 os3 : List Ow} {σ : L2.St} {s t : Sl} {d e : D} {te ta tb tc td tk tv : TE} {tt tu : TT} {P : Post}
theorem rpk_put {d : D} {v : V} (h : Rp K F v d) (k : Key) : ∀ {vs : List (Key × V)} {ds : List (Key × D)}, RpK K F vs ds → RpK K F (putK vs k v) (dput ds k d) := by
  intro vs ds r
  have ha : (vs.any fun kv => decide (kv.1 = k)) = ds.any fun kv => decide (kv.1 = k) := by
    clear h
    induction vs generalizing ds with
    | nil => cases r; rfl
    | cons p vs ih =>
      cases r with
      | cons h r =>
        rw [List.any_cons, List.any_cons, ih r]
  have mp : ∀ {vs : List (Key × V)} {ds : List (Key × D)}, RpK K F vs ds → RpK K F (vs.map fun kv => if kv.1 = k then (kv.1, v) else kv) (ds.map fun kv => if kv.1 = k then (kv.1, d) else kv) := by
    intro vs
    induction vs with
    | nil => intro ds r; cases r; exact .nil
    | cons p vs ih =>
      intro ds r
      cases r with
      | @cons k2 _ _ d2 ds q2 r2 =>
        rw [List.map_cons, List.map_cons]
        by_cases e : k2 = k
        · simp only [e, if_true]; exact .cons h (ih r2)
        · simp only [e, if_false]; exact .cons q2 (ih r2)
  have app : ∀ {vs : List (Key × V)} {ds : List (Key × D)}, RpK K F vs ds → RpK K F (vs ++ [(k, v)]) (ds ++ [(k, d)]) := by
    intro vs
    induction vs with
    | nil => intro ds r; cases r; exact .cons h .nil
    | cons p vs ih => intro ds r; cases r with | cons q r => exact .cons q (ih r)
  unfold putK dput
  rw [ha]
  split
  · exact mp r
  · exact app r
theorem rpt_put {d : D} {v : V} (h : Rp K F v d) (k : List Key) : ∀ {vs : List (List Key × V)} {ds : List (List Key × D)}, RpT K F vs ds → RpT K F (putK vs k v) (dput ds k d) := by
  intro vs ds r
  have ha : (vs.any fun kv => decide (kv.1 = k)) = ds.any fun kv => decide (kv.1 = k) := by
    clear h
    induction vs generalizing ds with
    | nil => cases r; rfl
    | cons p vs ih =>
      cases r with
      | cons h r =>
        rw [List.any_cons, List.any_cons, ih r]
  have mp : ∀ {vs : List (List Key × V)} {ds : List (List Key × D)}, RpT K F vs ds → RpT K F (vs.map fun kv => if kv.1 = k then (kv.1, v) else kv) (ds.map fun kv => if kv.1 = k then (kv.1, d) else kv) := by
    intro vs
    induction vs with
    | nil => intro ds r; cases r; exact .nil
    | cons p vs ih =>
      intro ds r
      cases r with
      | @cons k2 _ _ d2 ds q2 r2 =>
        rw [List.map_cons, List.map_cons]
        by_cases e : k2 = k
        · simp only [e, if_true]; exact .cons h (ih r2)
        · simp only [e, if_false]; exact .cons q2 (ih r2)
  have app : ∀ {vs : List (List Key × V)} {ds : List (List Key × D)}, RpT K F vs ds → RpT K F (vs ++ [(k, v)]) (ds ++ [(k, d)]) := by
    intro vs
    induction vs with
    | nil => intro ds r; cases r; exact .cons h .nil
    | cons p vs ih => intro ds r; cases r with | cons q r => exact .cons q (ih r)
  unfold putK dput
  rw [ha]
  split
  · exact mp r
  · exact app r
theorem rp_key {v : V} {k : Key} (r : Rp K F v (keyD k)) : v = kV k := by
  cases k with
  | inl i => cases r; rfl
  | inr x => cases r; rfl
theorem rpl_keys : ∀ {ks : List Key} {vs : List V}, RpL K F vs (ks.map keyD) → vs = ks.map kV
  | [], _, .nil => rfl
  | k :: ks, _, .cons h r => by
    rw [rp_key h, rpl_keys r]
    rfl
theorem rp_tk {v : V} {ks : List Key} (e : Ex F H) (r : Rp K F v (.tup (ks.map keyD))) : ∃ b, v = .ref b ∧ H b = some (.tup (ks.map kV)) := by
  cases r with
  | tup h1 h2 =>
    rw [rpl_keys h2] at h1
    exact ⟨_, rfl, e _ _ h1⟩
/-! reading -/
theorem seeGetK (h : St K R F ps ρ os σ H) {v y : V} {ds : List (Key × D)} {k : Key} (r : SlR K F ps (some v) s) (l : Look os s (.dct ds)) (ry : Rp K F y (keyD k)) :
    ∃ a o, v = .ref a ∧ DGet H a y o ∧ o.isSome = dhas ds k ∧ ∀ d, dget ds k = some d → ∃ w, o = some w ∧ Rp K F w d := by
  obtain ⟨a, xs, rfl, h1, h2⟩ := h.seeK r l
  refine ⟨a, valV xs k, rfl, .inl ⟨xs, k, h1, rp_key ry, rfl⟩, ?_, fun d hd => ?_⟩
  · unfold dhas dget
    rcases RpK.val k h2 with ⟨w, d', e1, e2, _⟩ | ⟨e1, e2⟩
    · rw [e1, e2]; rfl
    · rw [e1, e2]
      rfl
  · unfold dget at hd
    rcases RpK.val k h2 with ⟨w, d', e1, e2, e3⟩ | ⟨e1, e2⟩
    · rw [e2] at hd
      cases hd
      exact ⟨w, e1, e3⟩
    · rw [e2] at hd; cases hd
theorem seeGetT (h : St K R F ps ρ os σ H) {v y : V} {ds : List (List Key × D)} {k : List Key} (r : SlR K F ps (some v) s) (l : Look os s (.dctT ds)) (ry : Rp K F y (.tup (k.map keyD))) :
    ∃ a o, v = .ref a ∧ DGet H a y o ∧ o.isSome = dhas ds k ∧ ∀ d, dget ds k = some d → ∃ w, o = some w ∧ Rp K F w d := by
  obtain ⟨a, xs, rfl, h1, h2⟩ := h.seeD r l
  obtain ⟨b, rfl, hb⟩ := rp_tk h.hst.sub ry
  refine ⟨a, valV xs k, rfl, .inr ⟨xs, k, b, h1, rfl, hb, rfl⟩, ?_, fun d hd => ?_⟩
  · unfold dhas dget
    rcases RpT.val k h2 with ⟨w, d', e1, e2, _⟩ | ⟨e1, e2⟩
    · rw [e1, e2]; rfl
    · rw [e1, e2]
      rfl
  · unfold dget at hd
    rcases RpT.val k h2 with ⟨w, d', e1, e2, e3⟩ | ⟨e1, e2⟩
    · rw [e2] at hd
      cases hd
      exact ⟨w, e1, e3⟩
    · rw [e2] at hd; cases hd
theorem ev_dgetKD {ds : List (Key × D)} {k : Key} (hd : EvS K td ρ os s os1) (hk : Ev K tk ρ os1 (keyD k) os2) (l : Look os2 s (.dct ds)) (h : dget ds k = some d) : Ev K (tDGet td tk) ρ os d os2 := fun R F ps σ H Q I q =>
  hd R F ps σ H _ I fun v F1 H1 e1 I1 r1 => hk R F1 ps σ H1 _ I1 fun y F2 H2 e2 I2 r2 => by
    obtain ⟨a, o, rfl, g, _, c⟩ := seeGetK I2 (SlR.up e2 (List.prefix_refl _) r1) l r2
    obtain ⟨w, rfl, rw'⟩ := c d h
    exact ⟨a, w, rfl, g, q w F2 H2 (e1.trans e2) I2 rw'⟩
theorem ev_dgetTD {ds : List (List Key × D)} {k : List Key} (hd : EvS K td ρ os s os1) (hk : Ev K tk ρ os1 (.tup (k.map keyD)) os2) (l : Look os2 s (.dctT ds)) (h : dget ds k = some d) : Ev K (tDGet td tk) ρ os d os2 := fun R F ps σ H Q I q =>
  hd R F ps σ H _ I fun v F1 H1 e1 I1 r1 => hk R F1 ps σ H1 _ I1 fun y F2 H2 e2 I2 r2 => by
    obtain ⟨a, o, rfl, g, _, c⟩ := seeGetT I2 (SlR.up e2 (List.prefix_refl _) r1) l r2
    obtain ⟨w, rfl, rw'⟩ := c d h
    exact ⟨a, w, rfl, g, q w F2 H2 (e1.trans e2) I2 rw'⟩
theorem ev_dgetK {α : Type} [Enc α] {l : List (Key × α)} {k : Key} {x : α} (hd : EvS K td ρ os s os1) (hk : Ev K tk ρ os1 (keyD k) os2) (lk : Look os2 s (E (⟨l⟩ : Dct α))) (h : dget l k = some x) : Ev K (tDGet td tk) ρ os (E x) os2 :=
  ev_dgetKD hd hk lk (by rw [dget_map, h]; rfl)
theorem ev_dgetT {α : Type} [Enc α] {l : List (List Key × α)} {k : List Key} {x : α} (hd : EvS K td ρ os s os1) (hk : Ev K tk ρ os1 (.tup (k.map keyD)) os2) (lk : Look os2 s (E (⟨l⟩ : DctT α))) (h : dget l k = some x) : Ev K (tDGet td tk) ρ os (E x) os2 :=
  ev_dgetTD hd hk lk (by rw [dget_map, h]; rfl)
theorem ev_dinKD {ds : List (Key × D)} {k : Key} (hk : Ev K tk ρ os (keyD k) os1) (hd : EvS K td ρ os1 s os2) (l : Look os2 s (.dct ds)) : Ev K (tDIn tk td) ρ os (.bl (dhas ds k)) os2 := fun R F ps σ H Q I q =>
  hk R F ps σ H _ I fun y F1 H1 e1 I1 r1 => hd R F1 ps σ H1 _ I1 fun v F2 H2 e2 I2 r2 => by
    obtain ⟨a, o, rfl, g, c, _⟩ := seeGetK I2 r2 l (Rp.up e2 r1)
    exact ⟨a, o, rfl, g, q _ F2 H2 (e1.trans e2) I2 (by rw [c]; exact .bl _)⟩
theorem ev_dinTD {ds : List (List Key × D)} {k : List Key} (hk : Ev K tk ρ os (.tup (k.map keyD)) os1) (hd : EvS K td ρ os1 s os2) (l : Look os2 s (.dctT ds)) : Ev K (tDIn tk td) ρ os (.bl (dhas ds k)) os2 := fun R F ps σ H Q I q =>
  hk R F ps σ H _ I fun y F1 H1 e1 I1 r1 => hd R F1 ps σ H1 _ I1 fun v F2 H2 e2 I2 r2 => by
    obtain ⟨a, o, rfl, g, c, _⟩ := seeGetT I2 r2 l (Rp.up e2 r1)
    exact ⟨a, o, rfl, g, q _ F2 H2 (e1.trans e2) I2 (by rw [c]; exact .bl _)⟩
theorem ev_dniKD {ds : List (Key × D)} {k : Key} (hk : Ev K tk ρ os (keyD k) os1) (hd : EvS K td ρ os1 s os2) (l : Look os2 s (.dct ds)) : Ev K (tDNotIn tk td) ρ os (.bl (!dhas ds k)) os2 := fun R F ps σ H Q I q =>
  hk R F ps σ H _ I fun y F1 H1 e1 I1 r1 => hd R F1 ps σ H1 _ I1 fun v F2 H2 e2 I2 r2 => by
    obtain ⟨a, o, rfl, g, c, _⟩ := seeGetK I2 r2 l (Rp.up e2 r1)
    exact ⟨a, o, rfl, g, q _ F2 H2 (e1.trans e2) I2 (by rw [c]; exact .bl _)⟩
theorem ev_dniTD {ds : List (List Key × D)} {k : List Key} (hk : Ev K tk ρ os (.tup (k.map keyD)) os1) (hd : EvS K td ρ os1 s os2) (l : Look os2 s (.dctT ds)) : Ev K (tDNotIn tk td) ρ os (.bl (!dhas ds k)) os2 := fun R F ps σ H Q I q =>
  hk R F ps σ H _ I fun y F1 H1 e1 I1 r1 => hd R F1 ps σ H1 _ I1 fun v F2 H2 e2 I2 r2 => by
    obtain ⟨a, o, rfl, g, c, _⟩ := seeGetT I2 r2 l (Rp.up e2 r1)
    exact ⟨a, o, rfl, g, q _ F2 H2 (e1.trans e2) I2 (by rw [c]; exact .bl _)⟩
theorem ev_dinK {α : Type} [Enc α] {l : List (Key × α)} {k : Key} (hk : Ev K tk ρ os (keyD k) os1) (hd : EvS K td ρ os1 s os2) (lk : Look os2 s (E (⟨l⟩ : Dct α))) : Ev K (tDIn tk td) ρ os (.bl (dhas l k)) os2 := by
  have := ev_dinKD hk hd lk
  rwa [dhas_map] at this
theorem ev_dinT {α : Type} [Enc α] {l : List (List Key × α)} {k : List Key} (hk : Ev K tk ρ os (.tup (k.map keyD)) os1) (hd : EvS K td ρ os1 s os2) (lk : Look os2 s (E (⟨l⟩ : DctT α))) : Ev K (tDIn tk td) ρ os (.bl (dhas l k)) os2 := by
  have := ev_dinTD hk hd lk
  rwa [dhas_map] at this
theorem ev_dniK {α : Type} [Enc α] {l : List (Key × α)} {k : Key} (hk : Ev K tk ρ os (keyD k) os1) (hd : EvS K td ρ os1 s os2) (lk : Look os2 s (E (⟨l⟩ : Dct α))) : Ev K (tDNotIn tk td) ρ os (.bl (!dhas l k)) os2 := by
  have := ev_dniKD hk hd lk
  rwa [dhas_map] at this
theorem ev_dniT {α : Type} [Enc α] {l : List (List Key × α)} {k : List Key} (hk : Ev K tk ρ os (.tup (k.map keyD)) os1) (hd : EvS K td ρ os1 s os2) (lk : Look os2 s (E (⟨l⟩ : DctT α))) : Ev K (tDNotIn tk td) ρ os (.bl (!dhas l k)) os2 := by
  have := ev_dniTD hk hd lk
  rwa [dhas_map] at this
/-! making -/
theorem en_dnewK {α : Type} [Enc α] : EvN K tDNewK ρ os (E (⟨[]⟩ : Dct α)) os := fun R F ps σ H Q I q p hp => by
  have I2 := I.newO hp (o := .dK []) (.dct .nil)
  exact q p F _ (Ex.refl F) I2 ⟨I.sl, by
    have := I2.hst.cut ps.length
    rwa [List.take_left, show ps.length = os.length from I.hst.len, List.take_left] at this⟩
theorem en_dnewT {α : Type} [Enc α] : EvN K tDNewT ρ os (E (⟨[]⟩ : DctT α)) os := fun R F ps σ H Q I q p hp => by
  have I2 := I.newO hp (o := .dT []) (.dctT .nil)
  exact q p F _ (Ex.refl F) I2 ⟨I.sl, by
    have := I2.hst.cut ps.length
    rwa [List.take_left, show ps.length = os.length from I.hst.len, List.take_left] at this⟩
/-- d[k] = e -/
theorem run_dputK {α : Type} [Enc α] {l l' : List (Key × α)} {k : Key} {x : α} {i : Nat} (hv : Ev K tv ρ os (E x) os1) (hd : EvS K td ρ os1 (.at i) os1) (hk : Ev K tk ρ os1 (keyD k) os2) (lk : os2[i]? = some (.has (E (⟨l⟩ : Dct α)))) (h : dputO l k x = some l')
    (kk : P.nx ρ (os2.set i (.has (E (⟨l'⟩ : Dct α))))) : Run K (sDPut td tk tv) ρ os P := fun R F ps σ H Dn I c =>
  hv R F ps σ H _ I fun v F1 H1 e1 I1 r1 => hd R F1 ps σ H1 _ I1 fun u F2 H2 e2 I2 r2 => hk R F2 ps σ H2 _ I2 fun y F3 H3 e3 I3 r3 => by
    obtain ⟨p, hp, rfl⟩ := r2
    unfold dputO at h
    split at h
    case isFalse => cases h
    rename_i hz
    cases h
    obtain ⟨_, _, o, ho, hr⟩ := I3.hst.own i p _ hp lk
    cases hr with
    | @dct kvs _ r =>
      have hl : kvs.length < sizeLine := by rw [r.length, List.length_map]; exact hz
      refine ⟨p, _, rfl, .inl ⟨kvs, k, ho, rp_key r3, hl, rfl⟩, c.nx _ _ F3 ps σ _ ((e1.trans e2).trans e3) (List.prefix_refl _) (I3.wr (d' := E (⟨dput l k x⟩ : Dct α)) hp lk ?_) kk⟩
      show ObjR K F3 _ (.dct ((dput l k x).map fun p => (p.1, E p.2)))
      rw [dput_map]
      exact .dct (rpk_put (Rp.up (e2.trans e3) r1) k r)
theorem run_dputT {α : Type} [Enc α] {l l' : List (List Key × α)} {k : List Key} {x : α} {i : Nat} (hv : Ev K tv ρ os (E x) os1) (hd : EvS K td ρ os1 (.at i) os1) (hk : Ev K tk ρ os1 (.tup (k.map keyD)) os2) (lk : os2[i]? = some (.has (E (⟨l⟩ : DctT α)))) (h : dputO l k x = some l')
    (kk : P.nx ρ (os2.set i (.has (E (⟨l'⟩ : DctT α))))) : Run K (sDPut td tk tv) ρ os P := fun R F ps σ H Dn I c =>
  hv R F ps σ H _ I fun v F1 H1 e1 I1 r1 => hd R F1 ps σ H1 _ I1 fun u F2 H2 e2 I2 r2 => hk R F2 ps σ H2 _ I2 fun y F3 H3 e3 I3 r3 => by
    obtain ⟨p, hp, rfl⟩ := r2
    obtain ⟨b, rfl, hb⟩ := rp_tk I3.hst.sub r3
    unfold dputO at h
    split at h
    case isFalse => cases h
    rename_i hz
    cases h
    obtain ⟨_, _, o, ho, hr⟩ := I3.hst.own i p _ hp lk
    cases hr with
    | @dctT kvs _ r =>
      have hl : kvs.length < sizeLine := by rw [r.length, List.length_map]; exact hz
      refine ⟨p, _, rfl, .inr ⟨kvs, k, b, ho, rfl, hb, hl, rfl⟩, c.nx _ _ F3 ps σ _ ((e1.trans e2).trans e3) (List.prefix_refl _) (I3.wr (d' := E (⟨dput l k x⟩ : DctT α)) hp lk ?_) kk⟩
      show ObjR K F3 _ (.dctT ((dput l k x).map fun p => (p.1, E p.2)))
      rw [dput_map]
      exact .dctT (rpt_put (Rp.up (e2.trans e3) r1) k r)
/-! any length -/
theorem CallR.or {X : Cx} {f : Value} {r r' : List V → Hp → VK → Prop} (h : CallR X f r) (h' : CallR X f r') : CallR X f (fun xs H Q => r xs H Q ∨ r' xs H Q) := by
  intro pins s σ H xs us Q I rv q
  rcases q with q | q
  · exact h pins s σ H xs us Q I rv q
  · exact h' pins s σ H xs us Q I rv q
def rLenSq (K : PySem.W.Frag) : List V → Hp → VK → Prop := fun xs H Q => ∃ p ys, xs = [.ref p] ∧ (SqL K H p ys ∨ SqT K H p ys) ∧ Q (.int ys.length) H
def rLenDk : List V → Hp → VK → Prop := fun xs H Q => ∃ a kvs, xs = [V.ref a] ∧ Rd H a (.dK kvs) ∧ Q (.int kvs.length) H
theorem call_lenDk {X : Cx} : CallR X (.builtin "len") rLenDk := by
  intro pins s σ H xs us Q I r h
  obtain ⟨a, kvs, rfl, ha, q⟩ := h
  obtain ⟨u, rfl, ru⟩ := vals1 r
  cases ru
  exact d_len I ha fun t s' I' => ⟨.int kvs.length, H, I', ⟨t, rfl⟩, q⟩
theorem call_lenA {X : Cx} (hK : X.K = K) : CallR X (.builtin "len") (fun xs H Q => rLenSq K xs H Q ∨ rLenDk xs H Q) := CallR.or (call_lenK hK) call_lenDk
theorem ev_lenA {c : D} {n : Int} {ta : TA} (h : EvA K ta ρ os [s] os1) (k : Look os1 s c) (hn : dLenA c = some n) : Ev K (tCB (fun xs H Q => rLenSq K xs H Q ∨ rLenDk xs H Q) ta) ρ os (.int n) os1 := fun R F ps σ H Q I q =>
  h R F ps σ H _ I fun vs F1 H1 e1 I1 r1 => by
    obtain ⟨v, rfl, r⟩ := oneS_of r1
    cases c with
    | lst ds =>
      cases hn
      obtain ⟨a, xs, rfl, h1, h2⟩ := I1.seeL r k
      exact .inl ⟨a, xs, rfl, .inl h1, q _ F1 H1 e1 I1 (by rw [h2.length]; exact .int _)⟩
    | tup ds =>
      cases hn
      obtain ⟨a, xs, rfl, h1, h2⟩ := I1.seeT r k
      exact .inl ⟨a, xs, rfl, .inr h1, q _ F1 H1 e1 I1 (by rw [h2.length]; exact .int _)⟩
    | dct ds =>
      cases hn
      obtain ⟨a, xs, rfl, h1, h2⟩ := I1.seeK r k
      exact .inr ⟨a, xs, rfl, h1, q _ F1 H1 e1 I1 (by rw [h2.length]; exact .int _)⟩
    | _ => cases hn
theorem ev_lenK {α : Type} [Enc α] {l : List (Key × α)} {ta : TA} (h : EvA K ta ρ os [s] os1) (k : Look os1 s (E (⟨l⟩ : Dct α))) : Ev K (tCB (fun xs H Q => rLenSq K xs H Q ∨ rLenDk xs H Q) ta) ρ os (.int (l.length : Int)) os1 :=
  ev_lenA h k (by show some ((l.map _).length : Int) = _; rw [List.length_map])
/-! scalars compared -/
theorem ev_eqD {a b : D} {r : Bool} (ha : Ev K ta ρ os a os1) (hb : Ev K tb ρ os1 b os2) (h : dEq a b = some r) : Ev K (tOp rEq ta tb) ρ os (.bl r) os2 := by
  cases a <;> first | (cases h; done) | skip
  all_goals (cases b <;> first | (cases h; done) | skip)
  · cases h; exact ev_eqB ha hb
  · cases h; exact ev_eqI ha hb
  · cases h; exact ev_eqS ha hb
/-! a dict walked by its keys -/
theorem ps_lockO {X : Cx} {st : Stmt} {t : TS} (h : PS X st t) : PS X st (fun D σ H => tLock t D σ H ∨ t D σ H) := ⟨fun pins s σ H D I q => by
  rcases q with q | q
  · exact (ps_lock h).run pins s σ H D I q
  · exact h.run pins s σ H D I q⟩
theorem lk_lock {p : Addr} {u : HO} {o : Obj} (hu : F p = some u) (hn : nf u = true) (ht : (∀ xs, u ≠ .tup xs) ∧ ∀ fs, u ≠ .xd fs) : Lk F (upd F p (.frz o u)) := by
  refine ⟨fun a w hw h => ?_, fun a xs h => ?_, fun a fs h => ?_⟩
  · by_cases e : a = p
    · subst e
      rcases h with h | ⟨o', h⟩
      · rw [hu] at h; cases h
        exact .inr ⟨o, upd_same⟩
      · rw [hu] at h; cases h
        cases hn
    · rcases h with h | ⟨o', h⟩
      · exact .inl (by rw [upd_ne e]; exact h)
      · exact .inr ⟨o', by rw [upd_ne e]; exact h⟩
  · by_cases e : a = p
    · subst e
      rw [hu] at h; cases h
      exact absurd rfl (ht.1 xs)
    · rw [upd_ne e]; exact h
  · by_cases e : a = p
    · subst e
      rw [hu] at h; cases h
      exact absurd rfl (ht.2 fs)
    · rw [upd_ne e]; exact h
theorem lk_unlock {p : Addr} {u : HO} {o : Obj} (hu : F p = some (.frz o u)) (hn : nf u = true) : Lk F (upd F p u) := by
  refine ⟨fun a w hw h => ?_, fun a xs h => ?_, fun a fs h => ?_⟩
  · by_cases e : a = p
    · subst e
      rcases h with h | ⟨o', h⟩
      · rw [hu] at h; cases h
        cases hw
      · rw [hu] at h; cases h
        exact .inl upd_same
    · rcases h with h | ⟨o', h⟩
      · exact .inl (by rw [upd_ne e]; exact h)
      · exact .inr ⟨o', by rw [upd_ne e]; exact h⟩
  · by_cases e : a = p
    · subst e
      rw [hu] at h; cases h
    · rw [upd_ne e]; exact h
  · by_cases e : a = p
    · subst e
      rw [hu] at h; cases h
    · rw [upd_ne e]; exact h
theorem SlR.lk (e : Lk F G) : ∀ {ov : Option V} {s : Sl}, SlR K F ps ov s → SlR K G ps ov s
  | _, .un, _ => True.intro
  | some _, .fz _, h => Rp.lk e h
  | some _, .at i, h => h
  | none, .fz _, h => h
  | none, .at _, h => h
mutual
theorem Own.lk {F G H H' : Hp} (e : Lk F G) : ∀ {m : Mk} {v : V} {d : D} {fp : List Addr}, Own K F H m v d fp → (∀ a ∈ fp, ∀ o, H a = some o → H' a = some o) → Own K G H' m v d fp
  | _, _, _, _, .fz r, _ => .fz (Rp.lk e r)
  | _, _, _, _, .lst h1 h2 h3 h4, k => .lst (k _ (List.mem_cons_self ..) _ h1) h2 (OwnE.lk e h3 fun a ha => k a (List.mem_cons_of_mem _ ha)) h4
  | _, _, _, _, .tup h1 h2 h3, k => .tup (e.2.1 _ _ h1) h2 (OwnE.lk e h3 k)
  | _, _, _, _, .dct h1 h2 h5 h3 h4, k => .dct (k _ (List.mem_cons_self ..) _ h1) h2 h5 (OwnE.lk e h3 fun a ha => k a (List.mem_cons_of_mem _ ha)) h4
  | _, _, _, _, .dctT h1 h2 h5 h3 h4, k => .dctT (k _ (List.mem_cons_self ..) _ h1) h2 h5 (OwnE.lk e h3 fun a ha => k a (List.mem_cons_of_mem _ ha)) h4
theorem OwnE.lk {F G H H' : Hp} (e : Lk F G) : ∀ {ms : List Mk} {vs : List V} {ds : List D} {fp : List Addr}, OwnE K F H ms vs ds fp → (∀ a ∈ fp, ∀ o, H a = some o → H' a = some o) → OwnE K G H' ms vs ds fp
  | _, _, _, _, .nil, _ => .nil
  | _, _, _, _, .cons h1 h2 h3, k => .cons (Own.lk e h1 fun a ha => k a (List.mem_append_left _ ha)) (OwnE.lk e h2 fun a ha => k a (List.mem_append_right _ ha)) h3
end
/-- what stands still at p is exchanged for what reads the same -/
theorem St.swap (h : St K R F ps ρ os σ H) {p : Addr} {u u' : HO} (hu : F p = some u) (e : Lk F (upd F p u')) : St K R (upd F p u') ps ρ os σ (upd H p u') := by
  refine ⟨Paired.mapP h.sl fun _ _ r => SlR.lk e r, ⟨fun a w q => ?_, fun a w q => ?_, h.hst.len, fun i a d h1 h2 => ?_, h.hst.dis, by
    obtain ⟨φ, hφ⟩ := h.hst.dp
    have ne : ∀ i q m d, ps[i]? = some q → os[i]? = some (Ow.deep m d) → ∀ a ∈ φ i, a ≠ p := fun i q m d x y a ha z => by
      have := (hφ.fr i q m d x y a ha).1
      rw [z, hu] at this; cases this
    exact ⟨φ, ⟨fun i q m d x y => Own.lk e (hφ.ow i q m d x y) fun a ha o ho => by rw [upd_ne (ne i q m d x y a ha)]; exact ho, fun i q m d x y a ha => by rw [upd_ne (ne i q m d x y a ha)]; exact hφ.fr i q m d x y a ha, hφ.dj⟩⟩⟩⟩
  · by_cases z : a = p
    · subst z
      rw [upd_same] at q ⊢; exact q
    · rw [upd_ne z] at q ⊢; exact h.hst.sub _ _ q
  · obtain ⟨q1, q2, q3⟩ := h.hst.oth a w q
    have z : a ≠ p := fun z => by
      subst z
      rw [hu] at q1; cases q1
    exact ⟨by rw [upd_ne z]; exact q1, by rw [upd_ne z]; exact q2, q3⟩
  · obtain ⟨q1, q2, w, q3, q4⟩ := h.hst.own i a d h1 h2
    have z : a ≠ p := fun z => by
      subst z
      rw [hu] at q1; cases q1
    exact ⟨by rw [upd_ne z]; exact q1, q2, w, by rw [upd_ne z]; exact q3, q4.lk e⟩
/-- a new walk is a new tuple's at most -/
theorem walks_keys {p : Addr} {o : Obj} {kvs : List (Key × V)} {ds : List (Key × D)} (hp : F p = some (.frz o (.dK kvs))) (r : RpK K F kvs ds) : Walks K (Itk p o kvs) F ((ds.map (·.1)).map E) := by
  unfold Walks
  have hl : ((ds.map (·.1)).map (E : Key → D)).length = kvs.length := by rw [List.length_map, List.length_map, r.length]
  rw [hl]
  refine walk_keys.mono (fun H' e => e _ _ hp) fun i H' x H'' hi e y => ?_
  obtain ⟨rfl, k, v, hk, rfl⟩ := y
  have key : ∀ {kvs : List (Key × V)} {ds : List (Key × D)} {i : Nat}, RpK K F kvs ds → kvs[i]? = some (k, v) → (ds.map (·.1))[i]? = some k := by
    intro kvs
    induction kvs with
    | nil => intro ds i _ h; simp at h
    | cons a kvs ih =>
      intro ds i r h
      cases r with
      | cons _ r =>
        cases i with
        | zero => simp at h; simp [h.1]
        | succ i => simpa using ih r (by simpa using h)
  refine ⟨E k, by rw [List.getElem?_map, key r hk]; rfl, fun R F2 ps os e2 I2 => ⟨F2, Ex.refl _, I2, ?_⟩⟩
  cases k with
  | inl i => exact .int i
  | inr x => exact .str x
theorem walks_keysT {p : Addr} {o : Obj} {kvs : List (List Key × V)} {ds : List (List Key × D)} (hp : F p = some (.frz o (.dT kvs))) (r : RpT K F kvs ds) : Walks K (Itkt p o kvs) F ((ds.map fun kv => (⟨kv.1⟩ : TK)).map E) := by
  unfold Walks
  have hl : ((ds.map fun kv => (⟨kv.1⟩ : TK)).map (E : TK → D)).length = kvs.length := by rw [List.length_map, List.length_map, r.length]
  rw [hl]
  refine walk_keysT.mono (fun H' e => e _ _ hp) fun i H' x H'' hi e y => ?_
  obtain ⟨rfl, k, v, b, hk, rfl, hb⟩ := y
  have key : ∀ {kvs : List (List Key × V)} {ds : List (List Key × D)} {i : Nat}, RpT K F kvs ds → kvs[i]? = some (k, v) → (ds.map fun kv => (⟨kv.1⟩ : TK))[i]? = some ⟨k⟩ := by
    intro kvs
    induction kvs with
    | nil => intro ds i _ h; simp at h
    | cons a kvs ih =>
      intro ds i r h
      cases r with
      | cons _ r =>
        cases i with
        | zero => simp at h; simp [h.1]
        | succ i => simpa using ih r (by simpa using h)
  have keys : ∀ {F : Hp} (ks : List Key), RpL K F (ks.map kV) (ks.map keyD) := by
    intro F ks
    induction ks with
    | nil => exact .nil
    | cons k ks ih =>
      refine .cons ?_ ih
      cases k with
      | inl i => exact .int i
      | inr x => exact .str x
  refine ⟨E (⟨k⟩ : TK), by rw [List.getElem?_map, key r hk]; rfl, fun R F2 ps os e2 I2 => ?_⟩
  cases hF : F2 b with
  | some w =>
    have := I2.sub _ _ hF
    rw [hb] at this
    cases this
    exact ⟨F2, Ex.refl _, I2, .tup hF (keys k)⟩
  | none =>
    have e3 : Ex F2 (upd F2 b (.tup (k.map kV))) := Ex.new hF
    refine ⟨_, e3, ⟨fun a w q => ?_, fun a w q => ?_, I2.len, fun i a d h1 h2 => ?_, I2.dis, I2.dp.tr e3 (fun _ _ _ _ x y => ⟨x, y⟩) fun a f r n q => by
      have z : a ≠ b := fun z => by
        obtain ⟨o', n1, n2⟩ := n
        rw [z, hb] at n1; cases n1
        exact n2 _ rfl
      rw [upd_ne z]; exact ⟨f, r, fun _ q => q, q⟩⟩, .tup upd_same (keys k)⟩
    · by_cases z : a = b
      · subst z
        rw [upd_same] at q; cases q; exact hb
      · rw [upd_ne z] at q; exact I2.sub _ _ q
    · obtain ⟨q1, q2, q3⟩ := I2.oth a w q
      have z : a ≠ b := fun z => by
        subst z
        rw [hb] at q2; cases q2
        exact q3 _ rfl
      exact ⟨by rw [upd_ne z]; exact q1, q2, q3⟩
    · obtain ⟨q1, q2, w, q3, q4⟩ := I2.own i a d h1 h2
      have z : a ≠ b := fun z => by
        subst z
        rw [hb] at q3; cases q3
        cases q4
      exact ⟨by rw [upd_ne z]; exact q1, q2, w, q3, q4.up e3⟩
/-- nothing is raised -/
abbrev Post.calm (P : Post) : Post := { P with ex := fun _ _ _ _ => False }
/-- for k in d, d a name that stands still -/
theorem run_lock_core {wi : TI} {g : TG} {tb : TS} {α S Rr : Type} [Enc α] {xs : List α} {b : α → S → Option (Ctl S Rr)} {s0 : S} {c : Ctl S Rr} (shape : S → List Sl) (osh : S → List Ow) (RP : Rr → Sl → List Ow → Prop)
    (hm : loopM b xs s0 = some c) (hw : Wk ρ os (shape s0) (osh s0)) (hn : ∀ s, (osh s).length = os.length)
    (hb : ∀ x s c', x ∈ xs → b x s = some c' → ∃ ρ' js, TgB K g (E x) (shape s) ρ' js ∧ Run K tb ρ' (osh s) (LPost P.calm shape osh RP c'))
    (hx : ∀ s, c = .nx s → P.nx (shape s) (osh s)) (hr : ∀ r, c = .rt r → ∀ sl os', RP r sl os' → P.rt sl os')
    {Dn : Ends} (I : St K R F ps ρ os σ H) (cn : Cont K R P F ps Dn) {p : Addr} {u : HO} (hF : F p = some u) (hnf : nf u = true) (htu : (∀ xs, u ≠ .tup xs) ∧ ∀ fs, u ≠ .xd fs) (hmu : Mut (some u))
    (src : ∀ (o : Obj) (F1 H1 : Hp), F1 p = some (.frz o u) → St K R F1 ps ρ os σ H1 → ∀ Q : It → Hp → Prop, (∀ J F' H', Ex F1 F' → St K R F' ps ρ os σ H' → Walks K J F' (xs.map E) → Q J H') → wi σ H1 Q) : tLock (tFor wi g tb) Dn σ H := by
  refine ⟨p, u, I.hst.sub _ _ hF, hmu, fun od => ?_⟩
  have e1 := lk_lock (o := od) hF hnf htu
  have I1 := I.swap hF e1
  have back : ∀ {ρ' : List Sl} {os' : List Ow} {F' : Hp} {ps' : List Addr} {σ' : L2.St} {H' : Hp}, Ex (upd F p (.frz od u)) F' → St K R F' ps' ρ' os' σ' H' → H' p = some (.frz od u) ∧ Ex F (upd F' p u) ∧ St K R (upd F' p u) ps' ρ' os' σ' (upd H' p u) := fun {ρ' os' F' ps' σ' H'} e J => by
    have hp : F' p = some (.frz od u) := e _ _ upd_same
    refine ⟨J.hst.sub _ _ hp, fun a w q => ?_, J.swap hp (lk_unlock hp hnf)⟩
    by_cases z : a = p
    · subst z
      rw [hF] at q; cases q
      exact upd_same
    · rw [upd_ne z]
      exact e _ _ (by rw [upd_ne z]; exact q)
  refine for_at (P := P.calm) shape osh RP hm hw hn hb hx hr (fun _ _ _ _ _ _ z => z.elim) I1.hst.len ⟨fun ρ' os' F' ps' σ' H' e q J r => ?_, fun sl ρ' os' F' ps' σ' v H' e q J rs r => ?_, fun ρ' os' F' ps' σ' H' e q J r => ?_, fun ρ' os' F' ps' σ' H' e q J r => ?_, fun _ _ _ _ _ _ _ _ _ _ _ _ _ z => z.elim⟩ (src od _ _ upd_same I1)
  · obtain ⟨a1, a2, a3⟩ := back e J
    exact ⟨a1, cn.nx _ _ _ _ _ _ a2 q a3 r⟩
  · obtain ⟨a1, a2, a3⟩ := back e J
    exact ⟨a1, cn.rt sl _ _ _ _ _ v _ a2 q a3 (SlR.lk (lk_unlock (e _ _ upd_same) hnf) rs) r⟩
  · obtain ⟨a1, a2, a3⟩ := back e J
    exact ⟨a1, cn.bk _ _ _ _ _ _ a2 q a3 r⟩
  · obtain ⟨a1, a2, a3⟩ := back e J
    exact ⟨a1, cn.ct _ _ _ _ _ _ a2 q a3 r⟩
theorem run_forKD {S Rr : Type} {g : TG} {tb : TS} {i : Nat} {ds : List (Key × D)} {b : Key → S → Option (Ctl S Rr)} {s0 : S} {c : Ctl S Rr} (shape : S → List Sl) (osh : S → List Ow) (RP : Rr → Sl → List Ow → Prop)
    (hi : ρ[i]? = some (.fz (.dct ds))) (hm : loopM b (ds.map (·.1)) s0 = some c) (hw : Wk ρ os (shape s0) (osh s0)) (hn : ∀ s, (osh s).length = os.length)
    (hb : ∀ x s c', x ∈ ds.map (·.1) → b x s = some c' → ∃ ρ' js, TgB K g (E x) (shape s) ρ' js ∧ Run K tb ρ' (osh s) (LPost P.calm shape osh RP c'))
    (hx : ∀ s, c = .nx s → P.nx (shape s) (osh s)) (hr : ∀ r, c = .rt r → ∀ sl os', RP r sl os' → P.rt sl os') : Run K (fun D σ H => tLock (tFor (iKeys (tVar i)) g tb) D σ H ∨ tFor (iKeys (tVar i)) g tb D σ H) ρ os P := fun R F ps σ H Dn I cn => by
  obtain ⟨v, hv, r⟩ := I.fz hi
  cases r with
  | @dct a kvs _ h1 h2 =>
    rcases h1 with h1 | ⟨o, h1⟩
    · refine .inl (run_lock_core shape osh RP hm hw hn hb hx hr I cn h1 rfl ⟨(fun _ z => nomatch z), (fun _ z => nomatch z)⟩ True.intro fun o F1 H1 q J Q k => ?_)
      refine ⟨_, hv, a, o, rfl, .inl ⟨kvs, J.hst.sub _ _ q, k _ F1 H1 (Ex.refl _) J (walks_keys q ?_)⟩⟩
      obtain ⟨v', hv', r'⟩ := J.fz hi
      rw [hv] at hv'
      cases hv'
      cases r' with
      | dct h1' h2' =>
        rcases h1' with h1' | ⟨o', h1'⟩
        · rw [q] at h1'; cases h1'
        · rw [q] at h1'; cases h1'
          exact h2'
    · refine .inr (for_at (P := P.calm) shape osh RP hm hw hn hb hx hr (fun _ _ _ _ _ _ z => z.elim) I.hst.len ⟨cn.nx, cn.rt, cn.bk, cn.ct, fun _ _ _ _ _ _ _ _ _ _ _ _ _ z => z.elim⟩ fun Q k => ?_)
      exact ⟨_, hv, a, o, rfl, .inl ⟨kvs, I.hst.sub _ _ h1, k _ F H (Ex.refl _) I (walks_keys h1 h2)⟩⟩
theorem run_forTD {S Rr : Type} {g : TG} {tb : TS} {i : Nat} {ds : List (List Key × D)} {b : TK → S → Option (Ctl S Rr)} {s0 : S} {c : Ctl S Rr} (shape : S → List Sl) (osh : S → List Ow) (RP : Rr → Sl → List Ow → Prop)
    (hi : ρ[i]? = some (.fz (.dctT ds))) (hm : loopM b (ds.map fun kv => ⟨kv.1⟩) s0 = some c) (hw : Wk ρ os (shape s0) (osh s0)) (hn : ∀ s, (osh s).length = os.length)
    (hb : ∀ x s c', x ∈ ds.map (fun kv => (⟨kv.1⟩ : TK)) → b x s = some c' → ∃ ρ' js, TgB K g (E x) (shape s) ρ' js ∧ Run K tb ρ' (osh s) (LPost P.calm shape osh RP c'))
    (hx : ∀ s, c = .nx s → P.nx (shape s) (osh s)) (hr : ∀ r, c = .rt r → ∀ sl os', RP r sl os' → P.rt sl os') : Run K (fun D σ H => tLock (tFor (iKeys (tVar i)) g tb) D σ H ∨ tFor (iKeys (tVar i)) g tb D σ H) ρ os P := fun R F ps σ H Dn I cn => by
  obtain ⟨v, hv, r⟩ := I.fz hi
  cases r with
  | @dctT a kvs _ h1 h2 =>
    rcases h1 with h1 | ⟨o, h1⟩
    · refine .inl (run_lock_core shape osh RP hm hw hn hb hx hr I cn h1 rfl ⟨(fun _ z => nomatch z), (fun _ z => nomatch z)⟩ True.intro fun o F1 H1 q J Q k => ?_)
      refine ⟨_, hv, a, o, rfl, .inr ⟨kvs, J.hst.sub _ _ q, k _ F1 H1 (Ex.refl _) J (walks_keysT q ?_)⟩⟩
      obtain ⟨v', hv', r'⟩ := J.fz hi
      rw [hv] at hv'
      cases hv'
      cases r' with
      | dctT h1' h2' =>
        rcases h1' with h1' | ⟨o', h1'⟩
        · rw [q] at h1'; cases h1'
        · rw [q] at h1'; cases h1'
          exact h2'
    · refine .inr (for_at (P := P.calm) shape osh RP hm hw hn hb hx hr (fun _ _ _ _ _ _ z => z.elim) I.hst.len ⟨cn.nx, cn.rt, cn.bk, cn.ct, fun _ _ _ _ _ _ _ _ _ _ _ _ _ z => z.elim⟩ fun Q k => ?_)
      exact ⟨_, hv, a, o, rfl, .inr ⟨kvs, I.hst.sub _ _ h1, k _ F H (Ex.refl _) I (walks_keysT h1 h2)⟩⟩
end
end Ly

set_option Elab.async false
set_option linter.all false
set_option autoImplicit false
set_option maxRecDepth 100000
set_option maxHeartbeats 4000000
/-! Lay8: dicts whose keys are tuples: comprehensions, update; data compared, the least and the greatest. -/
namespace Ly
open PySem PySem.Spec PyProof.Rows L2

/-! ### d[k] = v within a block, the key a tuple -/
theorem put_tup {X : Cx} {pins : List (Addr × Obj)} {σ : L2.St} {H : Hp} {s : Shared} {A : Around} {E : Value → Shared → Prop} {a b : Addr} {kvs : List (List L2.Key × V)} {k : List L2.Key} {v : V} {r : Value} {Q : Unit → Shared → Prop}
    (hu : A.units + 1 < cLine) (I : Inv X pins σ H s) (e : H a = some (.dT kvs)) (eb : H b = some (.tup (k.map kV))) (l : kvs.length < sizeLine) (rv : RelV v r)
    (h : ∀ s', Inv X pins σ (upd H a (.dT (putK kvs k v))) s' → Q () s') : wpAny (model X.prog X.w) A (dictSet a (.ref b) r) Q E s := by
  obtain ⟨z, hd, xs, rel, dd⟩ := dt_of I.hok e
  have h1 : xs.length ≤ sizeLine := by rw [← Paired.length rel]; omega
  have h2 : (putK kvs k v).length ≤ sizeLine := by have := length_putK kvs k v; omega
  have room : (tupleKind (mixKind X.prog X.w)).room A := show A.units < cLine by omega
  refine wpAny_dictSet_heap (hsz := h1) room (key_of I.hok eb) dd fun h' d2 hs => h _ ?_
  obtain ⟨q, es, ep, q1, q2, q3, q4, _, q5⟩ := d2
  refine d_write I (by rw [e]; exact True.intro) hs ⟨q, q1⟩ ⟨h2, hd, _, (rel.put k eb rv).keeps fun c ys ec => ?_, q, es, ep, q1, q2, q3, q4, q5⟩
  exact (upd_ne (ne_of ec e (fun z => nomatch z))).trans ec

section
variable {X : Cx}
/-- {k: v for target in iter if ..}, the keys tuples: Dl the new dict -/
def tDcT (wi : TI) (g : TG) (tt : TT) (tk tv : TE) (vs : List Nat) : TE := fun σ H Q => wi σ H fun J H1 => ∀ Dl, H1 Dl = none → ∃ W : Nat → Nat → Hp → Prop, (∃ m, W 0 m (upd H1 Dl (.dT []))) ∧ ∀ i m H, W i m H →
  (J.stop i H ∧ Q (.ref Dl) H) ∨ (J.go i H ∧ ∃ Nx : Hp → Prop, (∀ H', Nx H' → ∃ m', m' < m ∧ W (i + 1) m' H') ∧ ∀ x H', J.yld i H x H' → g x (wipe σ vs) H' fun σ2 H2 => wipe σ2 vs = wipe σ vs ∧ tt σ2 H2 fun b H3 =>
    if b = true then tk σ2 H3 fun y H4 => tv σ2 H4 fun z H5 => ∃ kvs k b, y = .ref b ∧ H5 b = some (.tup (k.map kV)) ∧ H5 Dl = some (.dT kvs) ∧ kvs.length < sizeLine ∧ Nx (upd H5 Dl (.dT (putK kvs k z))) else Nx H3)
abbrev Blks (X : Cx) (scope : Scope) (f : Cx → Prop) : Prop := ∀ (s : Shared) (H : Hp) (C : Addr) (cl : List (Str × Addr)) (fp : List Addr), f (X.blk s H scope (compEnvC scope cl C X.env) fp)
theorem dcT_core {pins : List (Addr × Obj)} {s : Shared} {σ : L2.St} {H : Hp} {Q : VK} {kx vx tg iter : Expr} {ifs : List Expr} {scope : Scope} {own : List (Str × Nat)} {pos pos' : Pos} {wi : TI} {g : TG} {tt : TT} {tk tv : TE} {use : Option (Value → Sem Unit)} {Qf : Value → Shared → Prop}
    (hu : X.A.units + 1 < cLine) (hc : X.calm = true) (hN : X.N.Nodup) (I : Inv X pins σ H s) (hi : PI X tg iter wi) (ok : BlkOk X.N X.env.scope scope own)
    (hg : Blks X scope fun Y => PG Y tg g) (ht : Blks X scope fun Y => PTs Y ifs tt) (hk : Blks X scope fun Y => PE Y kx tk) (he : Blks X scope fun Y => PE Y vx tv) (hs : ∀ x, foldedSetIterable iter X.env x = pure x)
    (h : tDcT wi g tt tk tv (own.map (·.2)) σ H Q)
    (hRR : ∀ Dl C s' m H', Inv X pins σ H' s' → Q (.ref Dl) H' → s'.heap.Ns C m → FpOk X pins H' C → compPost (model X.prog X.w) X.A X.xe use Qf (.ref Dl) C (.ok .next) s') :
    wpAny (model X.prog X.w) X.A (comprehension (.DictComp kx vx [⟨tg, iter, ifs, 0⟩] scope pos) scope X.env pos' newDict false (eval iter X.env) use) Qf X.xe s := by
  have free : ∀ y ∈ scope.names, y.2 = .free → ∃ c, X.env.cells.lookup y.1 = some c := fun y hy e => (ok.free y hy e).elim (fun k => I.ok.has _ (.inl k)) fun k => I.ok.has _ (.inr k)
  refine wpAny_comprehension_free (use := use) rfl hs (closure_ok free) ok.kind (fun y hy e => (ok.uniq y hy).trans (congrArg some e)) (thn (hi.run pins s σ H _ I h) fun v0 sa ha => thn ha fun v1 sb hb => ?_)
  obtain ⟨it, fp, tn, J, Hb, e, Ib, T, st, fr, q⟩ := hb
  subst e
  refine wpAny_newObj_type (newEnv_comp ?_)
  generalize hDl : sb.heap.objs.size = Dl
  have nD : Hb Dl = none := Ib.hok.fresh (Nat.le_of_eq hDl)
  obtain ⟨W, ⟨m0, w0⟩, turn⟩ := q Dl nD
  generalize hsc : ({ sb with heap := sb.heap.push { cls := .type "dict", data := .dict #[] } } : Shared) = sc
  have Ic : Inv X pins σ (upd Hb Dl (.dT [])) sc := by
    subst hsc
    subst hDl
    exact Ib.laid (t' := sb.toks) (fun b o e => Heap.get?_push_of_some _ e) (Nat.le_refl _) (dt_empty sb.heap Ib.big)
  have ec : sc.heap = sb.heap.push { cls := .type "dict", data := .dict #[] } := by subst hsc; rfl
  have small : ∀ b ∈ fp, b < sb.heap.objs.size := fun b hb => let ⟨o, e, _⟩ := T.obj _ _ st b hb; Heap.lt_size e
  have frc : ∀ b ∈ fp, FpOk X pins (upd Hb Dl (.dT [])) b ∧ b < sc.heap.objs.size := fun b hb => ⟨⟨(upd_ne (by rw [← hDl]; exact Nat.ne_of_lt (small b hb))).trans (fr b hb).1, (fr b hb).2⟩, by rw [ec, Heap.size_push]; exact Nat.lt_succ_of_lt (small b hb)⟩
  have stc : tn 0 sc.heap := T.keep _ _ _ st fun b _ o e => by rw [ec]; exact Heap.get?_push_of_some _ e
  have Id := block_start Ic ok hN frc
  have cells := cellsFrom (sc.heap.objs.size + 1) scope.names (cloFrom X.env.cells scope.names [])
  have pg := hg sc (upd Hb Dl (.dT [])) sc.heap.objs.size (cellsFrom (sc.heap.objs.size + 1) scope.names (cloFrom X.env.cells scope.names [])) fp
  have pt := ht sc (upd Hb Dl (.dT [])) sc.heap.objs.size (cellsFrom (sc.heap.objs.size + 1) scope.names (cloFrom X.env.cells scope.names [])) fp
  have pk := hk sc (upd Hb Dl (.dT [])) sc.heap.objs.size (cellsFrom (sc.heap.objs.size + 1) scope.names (cloFrom X.env.cells scope.names [])) fp
  have pv' := he sc (upd Hb Dl (.dT [])) sc.heap.objs.size (cellsFrom (sc.heap.objs.size + 1) scope.names (cloFrom X.env.cells scope.names [])) fp
  show codeAny _ _ (.compStart (.DictComp kx vx [⟨tg, iter, ifs, 0⟩] scope pos) 0 (.ref it) (.ref Dl) (compEnvC scope (cellsFrom (sc.heap.objs.size + 1) scope.names (cloFrom X.env.cells scope.names [])) sc.heap.objs.size X.env)) (compPost (model X.prog X.w) X.A X.xe use Qf (.ref Dl) sc.heap.objs.size) { sc with heap := pushCells (sc.heap.push { cls := .type "dict", data := .dict #[] }) scope.names }
  have nfp : ∀ b ∈ fp, (upd Hb Dl (.dT [])) b = none := fun b hb => (frc b hb).1.1
  generalize hce : compEnvC scope (cellsFrom (sc.heap.objs.size + 1) scope.names (cloFrom X.env.cells scope.names [])) sc.heap.objs.size X.env = ce at Id pg pt pk pv' ⊢
  have cL : ce.locals = sc.heap.objs.size := by subst hce; rfl
  generalize hHc : upd Hb Dl (.dT []) = Hc at Ic Id pg pt pk pv' w0 nfp frc
  generalize hsd : ({ sc with heap := pushCells (sc.heap.push { cls := .type "dict", data := .dict #[] }) scope.names } : Shared) = sd at Id ⊢
  have std : tn 0 sd.heap := T.keep _ _ _ stc fun b _ o e => by subst hsd; exact pushCells_keeps _ _ _ _ (Heap.get?_push_of_some _ e)
  have stat : ∀ {σ' : L2.St} {H' : Hp} {s' : Shared}, Inv (X.blk sc Hc scope ce fp) [] σ' H' s' → (∀ b ∈ fp, H' b = none) → ∀ b ∈ fp, FpOk (X.blk sc Hc scope ce fp) [] H' b := fun {_ _ _} J hn b hb =>
    ⟨hn b hb, (J.ok.exf b hb).1, J.ok.exfs b hb, .inl hb, fun x c e => (J.ok.exf b hb).2 x c e, fun p hp => nomatch (show p ∈ ([] : List (Addr × Obj)) from hp)⟩
  have loop : codeAny (model X.prog X.w) X.A (.compLoop (.DictComp kx vx [⟨tg, iter, ifs, 0⟩] scope pos) 0 (.ref it) (.ref Dl) ce) (compPost (model X.prog X.w) X.A X.xe use Qf (.ref Dl) sc.heap.objs.size) sd := by
    refine compLoop_anyD (fun n s' => ∃ i H', Inv (X.blk sc Hc scope ce fp) [] (wipe σ (own.map (·.2))) H' s' ∧ tn i s'.heap ∧ (∀ b ∈ fp, H' b = none) ∧ W i n H') ?_ m0 ⟨0, Hc, Id, std, nfp, w0⟩
    rintro n s5 ⟨i, H5, J5, t5, n5, w5⟩
    rcases turn i n H5 w5 with ⟨stop, qq⟩ | ⟨go, Nx, hNx, step⟩
    · refine thnF (T.done (X.blk sc Hc scope ce fp) rfl rfl rfl hc i [] s5 _ H5 (fun _ _ => False) J5 (stat J5 n5) t5 stop) fun r s6 ⟨hr, J6⟩ => ?_
      subst hr
      have J7 : Inv X pins σ H5 s6 := Ic.call' (ch := fp) J6.os J6.base J6.hok J6.bare fun b hb => ⟨(frc b hb).1.2.2.2.1, (frc b hb).1.2.1, (frc b hb).1.2.2.2.2.1, (frc b hb).1.2.2.2.2.2⟩
      have nC : H5 sc.heap.objs.size = none := cL ▸ (show H5 ce.locals = none from J6.free)
      obtain ⟨m, hm, _⟩ := J6.loc
      exact hRR Dl sc.heap.objs.size s6 m H5 J7 qq (cL ▸ (show s6.heap.Ns ce.locals m from hm)) (Ic.fpOk (Nat.le_refl _) nC)
    · refine thnF (T.item (X.blk sc Hc scope ce fp) rfl rfl rfl hc i [] s5 _ H5 (fun _ _ => False) J5 (stat J5 n5) t5 go) fun r s6 ⟨u, hr, h6⟩ => ?_
      subst hr
      refine thnF h6 fun _ s7 ⟨x, H7, J7, r7, y7, t7, n7⟩ => ?_
      have J7' := J7.pinned (stat J7 n7) (T.obj _ _ t7)
      refine thnF (pg.run _ s7 _ H7 x u _ J7' r7 (step x H7 y7)) fun _ s8 ⟨σ8, H8, J8, hw8, q8⟩ => thnF (pt.run _ s8 σ8 H8 _ J8 q8) fun b s9 ⟨H9, J9, q9⟩ => ?_
      have fin : ∀ {s' : Shared} {H' : Hp}, Inv (X.blk sc Hc scope ce fp) ([] ++ pinsAt fp s7.heap) σ8 H' s' → Nx H' → ∃ m, m < n ∧ ∃ i H', Inv (X.blk sc Hc scope ce fp) [] (wipe σ (own.map (·.2))) H' s' ∧ tn i s'.heap ∧ (∀ b ∈ fp, H' b = none) ∧ W i m H' := fun {s' H'} J' nx => by
        obtain ⟨m', lt, w'⟩ := hNx H' nx
        have pin' : ∀ b ∈ fp, ∀ o, s7.heap.get? b = some o → s'.heap.get? b = some o ∧ H' b = none := fun b hb o e => let z := J'.pin (b, o) (List.mem_append_right _ (List.mem_append_right _ (mem_pinsAt hb e))); ⟨z.1, z.2.1⟩
        refine ⟨m', lt, i + 1, H', (J'.unpinned (pins := [])).weak (by rw [← hw8, wipe_length]) (fun j v e => (wipe_some (hw8.symm ▸ e)).1), T.keep _ _ _ t7 fun b hb o e => (pin' b hb o e).1, fun b hb => ?_, w'⟩
        obtain ⟨o, e, _⟩ := T.obj _ _ t7 b hb
        exact (pin' b hb o e).2
      cases b with
      | false => simpa using fin J9 (by simpa using q9)
      | true =>
        simp only [if_true] at q9 ⊢
        refine thnF (pk.run _ s9 σ8 H9 _ J9 q9) fun z sx ⟨yk, Hx, Jx, rx, qx⟩ => thnF (pv'.run _ sx σ8 Hx _ Jx qx) fun z2 sy ⟨yv, Hy, Jy, ry, kvs, k, b, ek, hb, hDy, hzy, nx⟩ => ?_
        subst ek
        cases (show z = Value.ref b from rx)
        exact put_tup (X := X.blk sc Hc scope ce fp) hu Jy hDy hb hzy ry fun s' J' => fin J' nx
  exact codeAny_compStart_dict loop (T.self X.A 0 _ _ _ std loop)
theorem pe_dcT {kx vx tg iter : Expr} {ifs : List Expr} {scope : Scope} {own : List (Str × Nat)} {pos : Pos} {wi : TI} {g : TG} {tt : TT} {tk tv : TE} (hu : X.A.units + 1 < cLine) (hc : X.calm = true) (hN : X.N.Nodup) (hi : PI X tg iter wi) (ok : BlkOk X.N X.env.scope scope own)
    (hg : Blks X scope fun Y => PG Y tg g) (ht : Blks X scope fun Y => PTs Y ifs tt) (hk : Blks X scope fun Y => PE Y kx tk) (he : Blks X scope fun Y => PE Y vx tv) (hs : ∀ x, foldedSetIterable iter X.env x = pure x := by intro _; rfl) :
    PE X (.DictComp kx vx [⟨tg, iter, ifs, 0⟩] scope pos) (tDcT wi g tt tk tv (own.map (·.2))) := ⟨fun pins s σ H Q I h => by
  rw [arm_eval_DictComp]
  refine dcT_core hu hc hN I hi ok hg ht hk he hs h fun Dl C s' m H' J q hn f => ⟨m, hn, fun h2 sb => ?_⟩
  obtain ⟨f0, f1, f2, f3, f4, f5⟩ := f
  exact ⟨.ref Dl, H', J.turned (t' := s'.toks) (fun b o hb e => (sb.2 b hb).trans e) f0 f1 f3 f4 f5, rfl, q⟩⟩
end

/-! ### d.update(e), tuples as keys -/
def mergeT {κ α : Type} [DecidableEq κ] (l m : List (κ × α)) : List (κ × α) := m.foldl (fun acc p => dput acc p.1 p.2) l
def mergeV (l m : List (List L2.Key × V)) : List (List L2.Key × V) := m.foldl (fun acc p => putK acc p.1 p.2) l
/-- a key's hash, of ints alone -/
def hashT : List L2.Key → Option (List Int)
  | [] => some []
  | .inl i :: ks => (hashT ks).map fun l => hashInt i :: l
  | .inr _ :: _ => none
def hashK (k : List L2.Key) : Option Int := (hashT k).map fun l => reduceHash (Builtin.Tuple.tupleHashOf l)
theorem hashT_eq {w : World} : ∀ {k : List L2.Key} {l : List Int}, hashT k = some l → k.map (keyH w) = l
  | [], _, h => by cases h; rfl
  | .inl i :: ks, l, h => by
    unfold hashT at h
    obtain ⟨l', h1, rfl⟩ := Option.map_eq_some_iff.mp h
    rw [List.map_cons, hashT_eq h1]
    rfl
  | .inr _ :: _, _, h => by cases h
theorem hashK_eq {P : Program} {w : World} {k : List L2.Key} {n : Int} (h : hashK k = some n) : tupleKeyHash (mixKind P w) k = n := by
  unfold hashK at h
  obtain ⟨l, h1, rfl⟩ := Option.map_eq_some_iff.mp h
  unfold tupleKeyHash
  rw [show (mixKind P w).hash = keyH w from rfl, hashT_eq h1]
/-- the hashes are told, and none is another's -/
def hashOk {α : Type} (m : List (List L2.Key × α)) : Bool := (m.map fun p => hashK p.1).all (·.isSome) && decide (m.map fun p => hashK p.1).Nodup
def updO {α : Type} (l m : List (List L2.Key × α)) : Option (List (List L2.Key × α)) :=
  if l.length + m.length ≤ LIM ∧ (l.isEmpty = false ∨ hashOk m = true) then some (mergeT l m) else none
theorem kt_merge {H : Hp} : ∀ {m : List (List L2.Key × V)} {ys : List (List L2.Key × Addr × Value)} {l : List (List L2.Key × V)} {xs : List (List L2.Key × Addr × Value)}, KT H l xs → KT H m ys → KT H (mergeV l m) (storedAllH xs ys)
  | [], _, _, _, r, .nil => r
  | p :: m, q :: ys, l, xs, r, .cons ⟨h1, h2, h3⟩ t => by
    obtain ⟨k, v⟩ := p
    obtain ⟨k', a, u⟩ := q
    have h1' : k = k' := h1
    subst h1'
    show KT H (mergeV (putK l k v) m) (storedAllH (storedH xs k a u) ys)
    exact kt_merge (r.put k h2 h3) t
def rUpdT : V → List V → Hp → VK → Prop := fun x xs H Q => ∃ a b l m, x = .ref a ∧ xs = [.ref b] ∧ a ≠ b ∧ H a = some (.dT l) ∧ Rd H b (.dT m) ∧ l.length + m.length ≤ sizeLine ∧ (mergeV l m).length ≤ sizeLine ∧ (l.isEmpty = false ∨ hashOk m = true) ∧ Q .non (upd H a (.dT (mergeV l m)))
theorem mt_updT {X : Cx} (hu : X.A.units + 1 < cLine) : MtR X "dict.update" rUpdT := by
  intro pins s σ H x vs v us Q I rx rv h
  obtain ⟨a, b, l, m, rfl, rfl, hne, ha, hb, hz, hz2, hh, q⟩ := h
  cases rx
  obtain ⟨u, rfl, ru⟩ := rv.one
  cases ru
  obtain ⟨z1, s1, xs, r1, d1⟩ := dt_of I.hok ha
  obtain ⟨z2, s2, ys, r2, d2⟩ := dt_rd I.hok hb
  have room : (tupleKind (mixKind X.prog X.w)).room X.A.in1 := show X.A.in1.units < cLine by
    show X.A.units + 1 < cLine
    exact hu
  have keys : ∀ {m : List (List L2.Key × V)} {ys : List (List L2.Key × Addr × Value)}, KT H m ys → ys.map (·.1) = m.map (·.1) := fun {m ys} r => by
    induction r with
    | nil => rfl
    | cons h _ ih => rw [List.map_cons, List.map_cons, ih, h.1]
  refine call_update_dictH (hsz := by rw [← Paired.length r1, ← Paired.length r2]; exact hz) room hne s2 d1 d2 ?_ fun h' e1 e2 hs => ?_
  · rcases hh with hh | hh
    · refine .inl fun e => ?_
      have := Paired.length r1
      rw [e] at this
      cases l with
      | nil => cases hh
      | cons _ _ => cases this
    · refine .inr ⟨fun x hx => ?_, ?_⟩
      · obtain ⟨_, _, _, _, _, _, _, his, _⟩ := d2
        exact (his x hx).typeIs
      · unfold hashOk at hh
        rw [Bool.and_eq_true] at hh
        have hn := of_decide_eq_true hh.2
        have ha := List.all_eq_true.mp hh.1
        have hk := keys r2
        have e3 : (ys.map fun x => (tupleKind (mixKind X.prog X.w)).hash x.1).map some = m.map fun p => hashK p.1 := by
          rw [show (ys.map fun x => (tupleKind (mixKind X.prog X.w)).hash x.1) = (ys.map (·.1)).map (tupleKeyHash (mixKind X.prog X.w)) by rw [List.map_map]; rfl, hk, List.map_map, List.map_map]
          apply List.map_congr_left
          intro p hp
          have := ha (hashK p.1) (List.mem_map.mpr ⟨p, hp, rfl⟩)
          obtain ⟨n, hn⟩ := Option.isSome_iff_exists.mp this
          show some (tupleKeyHash (mixKind X.prog X.w) p.1) = hashK p.1
          rw [hn, hashK_eq hn]
        rw [← e3] at hn
        exact List.Pairwise.of_map some (fun a b h e => h (congrArg some e)) hn
  · obtain ⟨o, es, ep, q1, q2, q3, q4, _, q5⟩ := e1
    refine ⟨.non, _, d_write (ob := .dT (mergeV l m)) I (by rw [ha]; exact True.intro) hs ⟨o, q1⟩ ⟨hz2, s1, _, (kt_merge r1 r2).keeps fun c ys ec => ?_, o, es, ep, q1, q2, q3, q4, q5⟩, rfl, q⟩
    exact (upd_ne (ne_of ec ha (fun z => nomatch z))).trans ec
end Ly

set_option Elab.async false
set_option linter.all false
set_option autoImplicit false
set_option maxRecDepth 100000
set_option maxHeartbeats 4000000
/-! Lay9: + of lists and tuples, min and max, dict comprehensions, displays, update. -/
namespace Ly
open PySem PySem.Spec PyProof.Rows L2

/-! ### xs + ys -/
def rCatL (K : PySem.W.Frag) : R2 := fun x y H Q => ∃ a b xs ys, x = .ref a ∧ y = .ref b ∧ SqL K H a xs ∧ SqL K H b ys ∧ xs.length + ys.length ≤ sizeLine ∧ ∀ p, H p = none → Q (.ref p) (upd H p (.lst (xs ++ ys)))
theorem op_catL {X : Cx} : OpR X (binaryOp .Add) (rCatL X.K) := by
  intro pins s σ H x y v u Q I rx ry h
  obtain ⟨a, b, xs, ys, rfl, rfl, ha, hb, hz, q⟩ := h
  cases rx
  cases ry
  obtain ⟨its, r1, ⟨⟨cls, dd, data, sl⟩, n, ho, hc, hd, he⟩, _⟩ := I.list ha
  obtain ⟨its2, r2, ⟨⟨cls2, dd2, data2, sl2⟩, n2, ho2, hc2, hd2, he2⟩, _⟩ := I.list hb
  simp only at hc hd he hc2 hd2 he2
  subst hc hd he hc2 hd2 he2
  have e : its.toArray ++ its2.toArray = (its ++ its2).toArray := by simp
  refine concat_meets ⟨_, ho, rfl⟩ ⟨_, ho2, rfl⟩ noFill_list_add seq_list_add PySem.F.slot_list_add PySem.F.entry_list_add (PySem.F.args_list_add_2 _ _)
    (list_addW a b its.toArray its2.toArray n n2 none none sl sl2 (by rw [List.size_toArray, List.size_toArray, ← r1.length, ← r2.length]; exact hz)) ⟨ho, ho2, ?_⟩
  rw [e]
  exact ⟨.ref _, _, I.lnew (t' := s.toks) (r1.append r2) (by rw [List.length_append]; omega), rfl, q _ I.fresh⟩
theorem op_catLK {X : Cx} {K : PySem.W.Frag} (hK : X.K = K) : OpR X (binaryOp .Add) (rCatL K) := by subst hK; exact op_catL
theorem op_catAK {X : Cx} {K : PySem.W.Frag} (hK : X.K = K) : OpR X (binaryOp .Add) (rCatA K) := by subst hK; exact op_catA
def catL {α : Type} (xs ys : List α) : Option (List α) := if xs.length + ys.length ≤ LIM then some (xs ++ ys) else none
def dCat : D → D → Option D
  | .tup a, .tup b => (catL a b).map D.tup
  | _, _ => none
/-! ### min, max of ints -/
def minL : List Int → Option Int
  | [] => none
  | x :: xs => some (xs.foldl (fun a y => if y < a then y else a) x)
def maxL : List Int → Option Int
  | [] => none
  | x :: xs => some (xs.foldl (fun a y => if a < y then y else a) x)
def rExtI (K : PySem.W.Frag) (f : List Int → Option Int) : List V → Hp → VK → Prop := fun vs H Q => ∃ p ns m, vs = [.ref p] ∧ (SqL K H p (ns.map V.int) ∨ SqT K H p (ns.map V.int)) ∧ f ns = some m ∧ Q (.int m) H
theorem minOf_int (x : Int) (xs : List Int) : PySem.W.minOf x xs = xs.foldl (fun a y => if y < a then y else a) x := by
  unfold PySem.W.minOf
  congr 1
  funext a y
  by_cases h : y < a
  · rw [if_pos h, if_pos (show PySem.W.DatumOrd.lt y a = true from by show decide _ = true; exact decide_eq_true h)]
  · rw [if_neg h, if_neg (show ¬ PySem.W.DatumOrd.lt y a = true from by show ¬ decide _ = true; simpa using h)]
theorem maxOf_int (x : Int) (xs : List Int) : PySem.W.maxOf x xs = xs.foldl (fun a y => if a < y then y else a) x := by
  unfold PySem.W.maxOf
  congr 1
  funext a y
  by_cases h : a < y
  · rw [if_pos h, if_pos (show PySem.W.DatumOrd.lt a y = true from by show decide _ = true; exact decide_eq_true h)]
  · rw [if_neg h, if_neg (show ¬ PySem.W.DatumOrd.lt a y = true from by show ¬ decide _ = true; simpa using h)]
theorem depth_int : PySem.W.Datum.depth Int = 0 := rfl
theorem call_minI {X : Cx} {K : PySem.W.Frag} (hc : X.calm = true) (hK : X.K = K) (hu : X.A.units + 64 < cLine) : CallR X (.builtin "min") (rExtI K minL) := by
  subst hK
  intro pins s σ H vs us Q I r h
  obtain ⟨p, ns, m, rfl, hs, hm, q⟩ := h
  rw [Vals.ref1 r]
  cases ns with
  | nil => cases hm
  | cons x xs =>
    cases hm
    rcases hs with hs | hs
    · obtain ⟨its, rv, hl, _⟩ := I.list hs
      refine PySem.W.min_list_datum (I.ok.hd hc) hl.isList (PySem.W.HoldAll.of_ints (intsAre_of rv)) (by rw [depth_int]; omega) fun i v h' tk hi hh hk => ?_
      obtain ⟨as, hh⟩ := hh
      rw [minOf_int] at hh
      cases hh
      exact ⟨.int (xs.foldl (fun a y => if y < a then y else a) x), H, I.kept hk, ⟨_, rfl⟩, q⟩
    · obtain ⟨its, rv, hl, _⟩ := I.tuple hs
      refine PySem.W.min_tuple_datum (I.ok.hd hc) hl (PySem.W.HoldAll.of_ints (intsAre_of rv)) (by rw [depth_int]; omega) fun i v h' tk hi hh hk => ?_
      obtain ⟨as, hh⟩ := hh
      rw [minOf_int] at hh
      cases hh
      exact ⟨.int (xs.foldl (fun a y => if y < a then y else a) x), H, I.kept hk, ⟨_, rfl⟩, q⟩
theorem call_maxI {X : Cx} {K : PySem.W.Frag} (hc : X.calm = true) (hK : X.K = K) (hu : X.A.units + 64 < cLine) : CallR X (.builtin "max") (rExtI K maxL) := by
  subst hK
  intro pins s σ H vs us Q I r h
  obtain ⟨p, ns, m, rfl, hs, hm, q⟩ := h
  rw [Vals.ref1 r]
  cases ns with
  | nil => cases hm
  | cons x xs =>
    cases hm
    rcases hs with hs | hs
    · obtain ⟨its, rv, hl, _⟩ := I.list hs
      refine PySem.W.max_list_datum (I.ok.hd hc) hl.isList (PySem.W.HoldAll.of_ints (intsAre_of rv)) (by rw [depth_int]; omega) fun i v h' tk hi hh hk => ?_
      obtain ⟨as, hh⟩ := hh
      rw [maxOf_int] at hh
      cases hh
      exact ⟨.int (xs.foldl (fun a y => if a < y then y else a) x), H, I.kept hk, ⟨_, rfl⟩, q⟩
    · obtain ⟨its, rv, hl, _⟩ := I.tuple hs
      refine PySem.W.max_tuple_datum (I.ok.hd hc) hl (PySem.W.HoldAll.of_ints (intsAre_of rv)) (by rw [depth_int]; omega) fun i v h' tk hi hh hk => ?_
      obtain ⟨as, hh⟩ := hh
      rw [maxOf_int] at hh
      cases hh
      exact ⟨.int (xs.foldl (fun a y => if a < y then y else a) x), H, I.kept hk, ⟨_, rfl⟩, q⟩
def dInts : List D → Option (List Int)
  | [] => some []
  | .int i :: ds => (dInts ds).map (i :: ·)
  | _ :: _ => none
theorem dInts_eq : ∀ {ds : List D} {is : List Int}, dInts ds = some is → ds = is.map D.int
  | [], _, h => by cases h; rfl
  | .int i :: ds, is, h => by
    unfold dInts at h
    obtain ⟨l, h1, rfl⟩ := Option.map_eq_some_iff.mp h
    rw [dInts_eq h1]
    rfl
  | .non :: _, _, h | .bl _ :: _, _, h | .str _ :: _, _, h | .lst _ :: _, _, h | .tup _ :: _, _, h | .dct _ :: _, _, h | .dctT _ :: _, _, h | .adr _ :: _, _, h | .ty _ :: _, _, h | .exc _ _ _ _ :: _, _, h => by cases h
/-- the ints of a list or a tuple -/
def dIs : D → Option (List Int)
  | .lst ds => dInts ds
  | .tup ds => dInts ds
  | _ => none
def dMin (d : D) : Option Int := (dIs d).bind minL
def dMax (d : D) : Option Int := (dIs d).bind maxL
section
variable {K : PySem.W.Frag} {R F G H : Hp} {ps : List Addr} {ρ ρ' : List Sl} {os os1 os2 os3 : List Ow} {σ : L2.St} {s t : Sl} {d e : D} {te ta tb tc td tk tv : TE} {tt tu : TT} {P : Post}
theorem ev_ext {f : List Int → Option Int} {is : List Int} {m : Int} {ta : TA} (h : EvA K ta ρ os [s] os1) (k : Look os1 s (.lst (is.map D.int)) ∨ Look os1 s (.tup (is.map D.int))) (hm : f is = some m) : Ev K (tCB (rExtI K f) ta) ρ os (.int m) os1 := fun R F ps σ H Q I q =>
  h R F ps σ H _ I fun vs F1 H1 e1 I1 r1 => by
    obtain ⟨v, rfl, r⟩ := oneS_of r1
    rcases k with k | k
    · obtain ⟨a, ys, rfl, h1, h2⟩ := I1.seeL r k
      rw [of_rpl_ints h2] at h1
      exact ⟨a, is, m, rfl, .inl h1, hm, q _ F1 H1 e1 I1 (.int _)⟩
    · obtain ⟨a, ys, rfl, h1, h2⟩ := I1.seeT r k
      rw [of_rpl_ints h2] at h1
      exact ⟨a, is, m, rfl, .inr h1, hm, q _ F1 H1 e1 I1 (.int _)⟩
theorem ev_extL {f : List Int → Option Int} {is : List Int} {m : Int} {ta : TA} (h : EvA K ta ρ os [s] os1) (k : Look os1 s (E is)) (hm : f is = some m) : Ev K (tCB (rExtI K f) ta) ρ os (.int m) os1 := ev_ext h (.inl k) hm
theorem ev_extT {f : List Int → Option Int} {is : Tup Int} {m : Int} {ta : TA} (h : EvA K ta ρ os [s] os1) (k : Look os1 s (E is)) (hm : f is.l = some m) : Ev K (tCB (rExtI K f) ta) ρ os (.int m) os1 := ev_ext h (.inr k) hm
theorem ev_extD {f : List Int → Option Int} {c : D} {m : Int} {ta : TA} (h : EvA K ta ρ os [s] os1) (k : Look os1 s c) (hm : (dIs c).bind f = some m) : Ev K (tCB (rExtI K f) ta) ρ os (.int m) os1 := by
  obtain ⟨is, h1, h2⟩ := Option.bind_eq_some_iff.mp hm
  cases c <;> first | (cases h1; done) | skip
  · exact ev_ext h (.inl (by rw [← dInts_eq h1]; exact k)) h2
  · exact ev_ext h (.inr (by rw [← dInts_eq h1]; exact k)) h2
/-! + -/
theorem St.fin (I : St K R F ps ρ os σ H) {p : Addr} {o : HO} (hp : H p = none) (r : ObjR K F o d) : St K R F (ps ++ [p]) ρ (os ++ [.has d]) σ (upd H p o) ∧ St K R F ps ρ os σ (upd H p o) := by
  have I2 := I.newO hp r
  refine ⟨I2, I.sl, ?_⟩
  have := I2.hst.cut ps.length
  rwa [List.take_left, show ps.length = os.length from I.hst.len, List.take_left] at this
theorem ev_catT {a b : List D} (ha : Ev K ta ρ os (.tup a) os1) (hb : Ev K tb ρ os1 (.tup b) os2) (hz : a.length + b.length ≤ LIM) : Ev K (tOp (rCatA K) ta tb) ρ os (.tup (a ++ b)) os2 := fun R F ps σ H Q I q =>
  ha R F ps σ H _ I fun v F1 H1 e1 I1 r1 => hb R F1 ps σ H1 _ I1 fun w F2 H2 e2 I2 r2 => by
    obtain ⟨x, xs, rfl, h1, h2⟩ := I2.seeT (SlR.up e2 (List.prefix_refl _) r1) (k := (rfl : Look os2 (.fz (.tup a)) (.tup a)))
    obtain ⟨y, ys, rfl, h3, h4⟩ := I2.seeT r2 (k := (rfl : Look os2 (.fz (.tup b)) (.tup b)))
    refine ⟨x, y, xs, ys, rfl, rfl, h1, h3, by rw [h2.length, h4.length]; exact hz, fun z => ?_, fun z z' => ?_, fun z z' p hp => ?_⟩
    · subst z
      cases h2
      exact q _ F2 H2 (e1.trans e2) I2 r2
    · subst z'
      cases h4
      exact q _ F2 H2 (e1.trans e2) I2 (by rw [List.append_nil]; exact Rp.up e2 r1)
    · obtain ⟨e3, I3⟩ := I2.newF hp (o := .tup (xs ++ ys))
      exact q (.ref p) _ _ ((e1.trans e2).trans e3) I3 (.tup upd_same ((h2.app h4).up e3))
theorem ev_catD {a b c : D} (ha : Ev K ta ρ os a os1) (hb : Ev K tb ρ os1 b os2) (h : dCat a b = some c) : Ev K (tOp (rCatA K) ta tb) ρ os c os2 := by
  cases a <;> first | (cases h; done) | skip
  cases b <;> first | (cases h; done) | skip
  obtain ⟨l, h1, rfl⟩ := Option.map_eq_some_iff.mp h
  unfold catL at h1
  split at h1
  · cases h1
    rename_i hz
    exact ev_catT ha hb hz
  · cases h1
theorem ev_catTu {α : Type} [Enc α] {a b : Tup α} {c : List α} (ha : Ev K ta ρ os (E a) os1) (hb : Ev K tb ρ os1 (E b) os2) (h : catL a.l b.l = some c) : Ev K (tOp (rCatA K) ta tb) ρ os (E (⟨c⟩ : Tup α)) os2 := by
  unfold catL at h
  split at h
  · cases h
    rename_i hz
    have := ev_catT ha hb (by rw [List.length_map, List.length_map]; exact hz)
    rwa [← List.map_append] at this
  · cases h
theorem en_cat {α : Type} [Enc α] {a b c : List α} (ha : Ev K ta ρ os (E a) os1) (hb : Ev K tb ρ os1 (E b) os2) (h : catL a b = some c) : EvN K (tOp (rCatL K) ta tb) ρ os (E c) os2 := fun R F ps σ H Q I q =>
  ha R F ps σ H _ I fun v F1 H1 e1 I1 r1 => hb R F1 ps σ H1 _ I1 fun w F2 H2 e2 I2 r2 => by
    unfold catL at h
    split at h
    case isFalse => cases h
    rename_i hz
    cases h
    obtain ⟨x, xs, rfl, h1, h2⟩ := I2.seeL (SlR.up e2 (List.prefix_refl _) r1) (k := (rfl : Look os2 (.fz (E a)) (.lst (a.map E))))
    obtain ⟨y, ys, rfl, h3, h4⟩ := I2.seeL r2 (k := (rfl : Look os2 (.fz (E b)) (.lst (b.map E))))
    refine ⟨x, y, xs, ys, rfl, rfl, h1, h3, by rw [h2.length, h4.length, List.length_map, List.length_map]; exact hz, fun p hp => ?_⟩
    obtain ⟨i1, i2⟩ := I2.fin hp (o := .lst (xs ++ ys)) (d := E (a ++ b)) (by
      show ObjR K F2 _ (.lst ((a ++ b).map E))
      rw [List.map_append]
      exact .lst (h2.app h4))
    exact q p F2 _ (e1.trans e2) i1 i2
/-! ### dicts -/
theorem ev_tkD {k : TK} (h : EvS K te ρ os (.fz d) os1) (e : dTK d = some k) : Ev K te ρ os (.tup (k.l.map keyD)) os1 := by
  have := dTK_eq e
  subst this
  exact h
theorem ev_keyD {k : Key} (h : EvS K te ρ os (.fz d) os1) (e : dKey d = some k) : Ev K te ρ os (keyD k) os1 := by
  have := dKey_eq e
  subst this
  exact h
def rLenDT : List V → Hp → VK → Prop := fun xs H Q => ∃ (p : Addr) (kvs : List (List Key × V)), xs = [.ref p] ∧ Rd H p (.dT kvs) ∧ Q (.int ((kvs.length : Nat) : Int)) H
theorem call_lenDT {X : Cx} : CallR X (.builtin "len") rLenDT := by
  intro pins s σ H xs us Q I r h
  obtain ⟨p, kvs, rfl, hp, q⟩ := h
  obtain ⟨u, rfl, rx⟩ := vals1 r
  obtain rfl : u = .ref p := rx
  obtain ⟨z, hd, ys, rel, dd⟩ := dt_rd I.hok hp
  have hl : kvs.length = ys.length := Paired.length rel
  refine call_len_dictH hd dd (by rw [← hl]; rw [sizeLine_eq] at z; omega) ?_
  rw [← hl]
  exact ⟨.int ((kvs.length : Nat) : Int), H, I.tok _, ⟨_, rfl⟩, q⟩
theorem rpt_len : ∀ {vs : List (List Key × V)} {ds : List (List Key × D)}, RpT K F vs ds → vs.length = ds.length
  | _, _, .nil => rfl
  | _, _, .cons _ r => by rw [List.length_cons, List.length_cons, rpt_len r]
theorem ev_lenDT {α : Type} [Enc α] {l : List (List Key × α)} {ta : TA} (h : EvA K ta ρ os [s] os1) (k : Look os1 s (E (⟨l⟩ : DctT α))) : Ev K (tCB rLenDT ta) ρ os (.int (l.length : Int)) os1 := fun R F ps σ H Q I q =>
  h R F ps σ H _ I fun vs F1 H1 e1 I1 r1 => by
    obtain ⟨v, rfl, r⟩ := oneS_of r1
    obtain ⟨a, xs, rfl, h1, h2⟩ := I1.seeD r k
    exact ⟨a, xs, rfl, h1, q _ F1 H1 e1 I1 (by rw [rpt_len h2, List.length_map]; exact .int _)⟩
/-! update -/
theorem rpt_merge : ∀ {ms : List (List Key × V)} {md : List (List Key × D)} {vs : List (List Key × V)} {ds : List (List Key × D)}, RpT K F ms md → RpT K F vs ds → RpT K F (mergeV vs ms) (mergeT ds md)
  | _, _, _, _, .nil, r => r
  | _, _, vs, ds, @RpT.cons _ _ k v ms d md h t, r => (rpt_merge t (rpt_put h k r) : RpT K F (mergeV (putK vs k v) ms) (mergeT (dput ds k d) md))
theorem mergeT_map {α β : Type} {f : α → β} : ∀ {m l : List (List Key × α)}, (mergeT l m).map (fun p => (p.1, f p.2)) = mergeT (l.map fun p => (p.1, f p.2)) (m.map fun p => (p.1, f p.2))
  | [], _ => rfl
  | p :: m, l => by
    show (mergeT (dput l p.1 p.2) m).map _ = mergeT (dput (l.map fun p => (p.1, f p.2)) p.1 (f p.2)) (m.map fun p => (p.1, f p.2))
    rw [mergeT_map, dput_map]
theorem rpt_keys : ∀ {vs : List (List Key × V)} {ds : List (List Key × D)}, RpT K F vs ds → vs.map (·.1) = ds.map (·.1)
  | _, _, .nil => rfl
  | _, _, .cons _ r => by rw [List.map_cons, List.map_cons, rpt_keys r]
theorem length_dput {κ α : Type} [DecidableEq κ] {l : List (κ × α)} {k : κ} {v : α} : (dput l k v).length ≤ l.length + 1 := by
  unfold dput
  split
  · rw [List.length_map]; omega
  · rw [List.length_append]; exact Nat.le_refl _
theorem length_mergeT {κ α : Type} [DecidableEq κ] : ∀ {m l : List (κ × α)}, (mergeT l m).length ≤ l.length + m.length
  | [], l => by show l.length ≤ _; omega
  | p :: m, l => by
    have h1 := length_mergeT (m := m) (l := dput l p.1 p.2)
    have h2 := length_dput (l := l) (k := p.1) (v := p.2)
    show (mergeT (dput l p.1 p.2) m).length ≤ _
    rw [List.length_cons]; omega
theorem hashOk_keys {α β : Type} {l : List (List Key × α)} {m : List (List Key × β)} (h : l.map (·.1) = m.map (·.1)) : hashOk l = hashOk m := by
  unfold hashOk
  have e : ∀ {γ : Type} (z : List (List Key × γ)), (z.map fun p => hashK p.1) = (z.map (·.1)).map hashK := fun z => by rw [List.map_map]; rfl
  rw [e l, e m, h]
theorem ev_updO {α : Type} [Enc α] {l m l' : List (List Key × α)} {i : Nat} (ha : EvS K ta ρ os (.at i) os) (h0 : ∃ l0 : List (List Key × D), os[i]? = some (.has (.dctT l0))) (hb : Ev K tb ρ os (E (⟨m⟩ : DctT α)) os1) (hk : os1[i]? = some (.has (E (⟨l⟩ : DctT α)))) (h : updO l m = some l') :
    Ev K (tBM K "dict" rUpdT ta (tCons tb tNil)) ρ os .non (os1.set i (.has (E (⟨l'⟩ : DctT α)))) := fun R F ps σ H Q I q =>
  ha R F ps σ H _ I fun v F1 H1 e1 I1 r1 => by
    obtain ⟨p, hp, rfl⟩ := r1
    obtain ⟨l0, h0⟩ := h0
    obtain ⟨_, _, o0, ho0, hr0⟩ := I1.hst.own i p _ hp h0
    cases hr0 with
    | dctT _ =>
    refine ⟨.inr (.inr (.inl ⟨rfl, .inr ⟨_, ho0⟩⟩)), hb R F1 ps σ H1 _ I1 fun w F2 H2 e2 I2 r2 => ?_⟩
    unfold updO at h
    split at h
    case isFalse => cases h
    rename_i hz
    cases h
    obtain ⟨hz, hh⟩ := hz
    obtain ⟨hF, _, o, ho, hr⟩ := I2.hst.own i p _ hp hk
    cases hr with
    | @dctT vs _ r =>
    cases (show Rp K F2 w (.dctT (m.map fun p => (p.1, E p.2))) from r2) with
    | @dctT b ws _ g1 g2 =>
    have hlv : vs.length = l.length := by rw [rpt_len r, List.length_map]
    have hlw : ws.length = m.length := by rw [rpt_len g2, List.length_map]
    have rm := rpt_merge g2 r
    have lm : (mergeV vs ws).length ≤ sizeLine := by
      rw [rpt_len rm]
      refine Nat.le_trans length_mergeT ?_
      rw [List.length_map, List.length_map]; exact hz
    refine ⟨p, b, vs, ws, rfl, rfl, fun z => ?_, ho, Ex.rd I2.hst.sub g1, by rw [hlv, hlw]; exact hz, lm, ?_, q .non F2 _ (e1.trans e2) (I2.wr (d' := E (⟨mergeT l m⟩ : DctT α)) hp hk ?_) .non⟩
    · subst z
      rcases g1 with g1 | ⟨_, g1⟩ <;> (rw [hF] at g1; cases g1)
    · rcases hh with hh | hh
      · left
        cases l with
        | nil => cases hh
        | cons _ _ => cases vs with
          | nil => cases hlv
          | cons _ _ => rfl
      · right
        rw [← hh]
        refine hashOk_keys ?_
        rw [rpt_keys g2, List.map_map]
        rfl
    · show ObjR K F2 _ (.dctT ((mergeT l m).map fun p => (p.1, E p.2)))
      rw [mergeT_map]
      exact .dctT rm
/-! ### dict comprehensions -/
theorem Hst.lockO (h : Hst K F R ps os H) {p : Addr} {u : HO} (hu : ∀ xs, u ≠ .tup xs) (hp : H p = none) : R p = none ∧ F p = none ∧ Hst K F (upd R p u) ps os (upd H p u) := by
  have hF : F p = none := by
    cases q : F p with
    | none => rfl
    | some u => rw [h.sub _ _ q] at hp; cases hp
  have hR : R p = none := by
    cases q : R p with
    | none => rfl
    | some u => rw [(h.oth _ _ q).2.1] at hp; cases hp
  refine ⟨hR, hF, ⟨fun a u q => ?_, fun a u q => ?_, h.len, fun i a d h1 h2 => ?_, h.dis, h.dp.tr (Ex.refl F) (fun _ _ _ _ x y => ⟨x, y⟩) fun a f r n q => by
    have z : a ≠ p := fun z => by obtain ⟨o', n, _⟩ := n; rw [z, hp] at n; cases n
    rw [upd_ne z, upd_ne z]; exact ⟨f, r, fun _ q => q, q⟩⟩⟩
  · rw [upd_ne (ne_of_none q hF)]; exact h.sub _ _ q
  · by_cases z : a = p
    · subst z
      rw [upd_same] at q ⊢
      cases q
      exact ⟨hF, rfl, hu⟩
    · rw [upd_ne z] at q ⊢
      exact h.oth a u q
  · obtain ⟨q1, q2, w, q3, q4⟩ := h.own i a d h1 h2
    have z : a ≠ p := ne_of_none q3 hp
    exact ⟨q1, by rw [upd_ne z]; exact q2, w, by rw [upd_ne z]; exact q3, q4⟩
theorem Hst.setO {p : Addr} {u u' : HO} (hu : ∀ xs, u' ≠ .tup xs) (h : Hst K F (upd R p u) ps os H) : Hst K F (upd R p u') ps os (upd H p u') := by
  obtain ⟨hF, hH, _⟩ := h.oth p _ upd_same
  refine ⟨fun a u q => ?_, fun a u q => ?_, h.len, fun i a d h1 h2 => ?_, h.dis, h.dp.tr (Ex.refl F) (fun _ _ _ _ x y => ⟨x, y⟩) fun a f r n q => by
    have z : a ≠ p := fun z => by subst z; rw [upd_same] at r; cases r
    rw [upd_ne z] at r; rw [upd_ne z, upd_ne z]; exact ⟨f, r, fun _ q => q, q⟩⟩
  · rw [upd_ne (ne_of_none q hF)]; exact h.sub _ _ q
  · by_cases z : a = p
    · subst z
      rw [upd_same] at q ⊢
      cases q
      exact ⟨hF, rfl, hu⟩
    · rw [upd_ne z] at q ⊢
      exact h.oth a u (by rw [upd_ne z]; exact q)
  · obtain ⟨q1, q2, w, q3, q4⟩ := h.own i a d h1 h2
    have z : a ≠ p := fun z => by
      subst z
      rw [upd_same] at q2
      cases q2
    exact ⟨q1, by rw [upd_ne z] at q2 ⊢; exact q2, w, by rw [upd_ne z]; exact q3, q4⟩
theorem Hst.unlockO {p : Addr} {u : HO} (h : Hst K F (upd R p u) ps os H) (hR : R p = none) (r : ObjR K F u d) : Hst K F R (ps ++ [p]) (os ++ [.has d]) H ∧ Hst K F R ps os H := by
  obtain ⟨hF, hH, _⟩ := h.oth p _ upd_same
  have base : Hst K F R ps os H := by
    refine ⟨h.sub, fun a u q => ?_, h.len, fun i a d h1 h2 => ?_, h.dis, h.dp.tr (Ex.refl F) (fun _ _ _ _ x y => ⟨x, y⟩) fun a f r n q => by
      have z : a ≠ p := fun z => by subst z; rw [upd_same] at r; cases r
      rw [upd_ne z] at r; exact ⟨f, r, fun _ q => q, q⟩⟩
    · exact h.oth a u (by rw [upd_ne (ne_of_none q hR)]; exact q)
    · obtain ⟨q1, q2, w, q3, q4⟩ := h.own i a d h1 h2
      have z : a ≠ p := fun z => by
        subst z
        rw [upd_same] at q2
        cases q2
      exact ⟨q1, by rw [upd_ne z] at q2; exact q2, w, q3, q4⟩
  have ne : ∀ i a d, ps[i]? = some a → os[i]? = some (Ow.has d) → a ≠ p := fun i a d h1 h2 z => by
    obtain ⟨_, q2, _⟩ := h.own i a d h1 h2
    subst z
    rw [upd_same] at q2
    cases q2
  exact ⟨base.add hF hR (fun i d h1 h2 => ne i p d h1 h2 rfl) hH r (h.dp.av (by rw [upd_same]; exact fun z => nomatch z) fun a q => by
    by_cases z : a = p
    · rw [z]; exact hR
    · rwa [upd_ne z] at q), base⟩
def dcompM {κ α β : Type} [DecidableEq κ] (f : α → Option (Option (κ × β))) : List α → List (κ × β) → Option (List (κ × β))
  | [], acc => some acc
  | x :: xs, acc => match f x with
    | none => none
    | some none => dcompM f xs acc
    | some (some (k, v)) => match dputO acc k v with
      | none => none
      | some acc' => dcompM f xs acc'
def dcomp {κ α β : Type} [DecidableEq κ] (f : α → Option (Option (κ × β))) (xs : List α) : Option (List (κ × β)) := dcompM f xs []
theorem dcompM_drop {κ α β : Type} [DecidableEq κ] {f : α → Option (Option (κ × β))} {xs : List α} {i : Nat} {x : α} {acc : List (κ × β)} (h : xs[i]? = some x) :
    dcompM f (xs.drop i) acc = match f x with
      | none => none
      | some none => dcompM f (xs.drop (i + 1)) acc
      | some (some (k, v)) => match dputO acc k v with
        | none => none
        | some acc' => dcompM f (xs.drop (i + 1)) acc' := by
  obtain ⟨hi, rfl⟩ := List.getElem?_eq_some_iff.mp h
  rw [List.drop_eq_getElem_cons hi]
  rfl
theorem en_dcT {α β : Type} [Enc α] [Enc β] {wi : TI} {g : TG} {xs : List α} {f : α → Option (Option (List Key × β))} {ys : List (List Key × β)} {vs : List Nat} (hs : Src K wi ρ os (xs.map E) os1) (hm : dcomp f xs = some ys)
    (hb : ∀ x y, x ∈ xs → f x = some y → ∃ ρ' js, TgB K g (E x) (wipeS ρ vs) ρ' js ∧ (∀ j ∈ js, j ∈ vs) ∧ ∃ q, EvT K tt ρ' os1 q os1 ∧
      (q = true → ∃ k v, y = some (k, v) ∧ Ev K tk ρ' os1 (.tup (k.map keyD)) os1 ∧ Ev K tv ρ' os1 (E v) os1) ∧ (q = false → y = none)) :
    EvN K (tDcT wi g tt tk tv vs) ρ os (E (⟨ys⟩ : DctT β)) os1 := fun R F ps σ H Q I k =>
  hs R F ps σ H _ I fun J F1 H1 e1 I1 w => by
    intro Dl hD
    obtain ⟨hR, hF, J0⟩ := I1.hst.lockO (u := .dT []) (fun _ z => nomatch z) hD
    let Pv : Nat → Hp → Prop := fun i H' => ∃ F' acc zs, H' Dl = some (.dT acc) ∧ dcompM f (xs.drop i) zs = some ys ∧ Ex F1 F' ∧ RpT K F' acc (zs.map fun p => (p.1, E p.2)) ∧ Hst K F' (upd R Dl (.dT acc)) ps os1 H'
    have key : (xs.map (E : α → D)).length = xs.length := List.length_map _
    refine ⟨fun i m H => m = xs.length - i ∧ i ≤ xs.length ∧ Pv i H, ⟨xs.length, rfl, Nat.zero_le _, F1, [], [], upd_same, hm, Ex.refl _, .nil, J0⟩, ?_⟩
    rintro i m H' ⟨rfl, hi, F', acc, zs, hacc, hl, e, ra, J'⟩
    by_cases hlt : i < xs.length
    · refine .inr ⟨w.goes i H' (by rw [key]; exact hlt) (e.trans J'.sub), Pv (i + 1), fun H'' p' => ⟨_, ?_, rfl, hlt, p'⟩, fun v H'' hy => ?_⟩
      · omega
      · obtain ⟨d, hd, hy⟩ := w.yields i H' v H'' (by rw [key]; exact hlt) (e.trans J'.sub) hy
        rw [List.getElem?_map] at hd
        obtain ⟨x, hx', rfl⟩ := Option.map_eq_some_iff.mp hd
        obtain ⟨F3, e3, J3, r3⟩ := hy _ F' ps os1 e J'
        rw [dcompM_drop hx'] at hl
        cases hbx : f x with
        | none => rw [hbx] at hl; cases hl
        | some y =>
          rw [hbx] at hl
          obtain ⟨ρ', js, ht, hjs, q, hT, hq1, hq2⟩ := hb x y (List.mem_of_getElem? hx') hbx
          have Iw : St K (upd R Dl (.dT acc)) F3 ps (wipeS ρ vs) os1 (wipe σ vs) H'' := ⟨slots_wipe (I1.sl.up (e.trans e3) (List.prefix_refl _)) vs, J3⟩
          refine ht _ F3 ps os1 _ H'' v _ Iw r3 fun σ2 J5 eq5 l5 => ⟨wipe_back eq5 l5 hjs, ?_⟩
          refine hT _ F3 ps σ2 H'' _ J5 fun F4 H4 e4 J6 => ?_
          cases q with
          | false =>
            obtain rfl := hq2 rfl
            exact ⟨F4, acc, zs, (J6.hst.oth Dl _ upd_same).2.1, hl, e.trans (e3.trans e4), RpT.up (e3.trans e4) ra, J6.hst⟩
          | true =>
            obtain ⟨kk, z, rfl, hK, hV⟩ := hq1 rfl
            simp only at hl
            rw [if_pos rfl]
            refine hK _ F4 ps σ2 H4 _ J6 fun yk F5 H5 e5 J7 r7 => hV _ F5 ps σ2 H5 _ J7 fun yv F6 H6 e6 J8 r8 => ?_
            obtain ⟨b, rfl, hbk⟩ := rp_tk J8.hst.sub (Rp.up e6 r7)
            have hacc6 := (J8.hst.oth Dl _ upd_same).2.1
            cases hput : dputO zs kk z with
            | none => rw [hput] at hl; cases hl
            | some zs' =>
              rw [hput] at hl
              simp only at hl
              unfold dputO at hput
              split at hput
              case isFalse => cases hput
              rename_i hz
              cases hput
              have r6 : RpT K F6 acc (zs.map fun p => (p.1, E p.2)) := RpT.up (e3.trans (e4.trans (e5.trans e6))) ra
              refine ⟨acc, kk, b, rfl, hbk, hacc6, ?_, F6, _, dput zs kk z, upd_same, hl, e.trans (e3.trans (e4.trans (e5.trans e6))), ?_, J8.hst.setO (fun _ z => nomatch z)⟩
              · rw [rpt_len r6, List.length_map]; exact hz
              · rw [dput_map]
                exact rpt_put r8 kk r6
    · have hi' : i = xs.length := by omega
      subst hi'
      refine .inl ⟨by
        have := w.stops H' (e.trans J'.sub)
        rwa [key] at this, ?_⟩
      rw [List.drop_length] at hl
      cases hl
      obtain ⟨a1, a2⟩ := J'.unlockO hR (.dctT ra)
      have sl : Slots K F' ps σ ρ := I1.sl.up e (List.prefix_refl _)
      exact k Dl F' H' (e1.trans e) ⟨sl.up (Ex.refl _) (List.prefix_append _ _), a1⟩ ⟨sl, a2⟩
/-! ### displays -/
def EvP (K : PySem.W.Frag) (trs : List (TE × TE)) (ρ : List Sl) (os : List Ow) (kds : List (Key × D)) (os' : List Ow) : Prop :=
  ∀ (R F : Hp) (ps : List Addr) (σ : L2.St) (H : Hp) (Q : List (V × V) → Hp → Prop), St K R F ps ρ os σ H → (∀ kvs F' H', Ex F F' → St K R F' ps ρ os' σ H' → RpK K F' kvs kds → Q (kvs.map fun kv => (kV kv.1, kv.2)) H') → tPairs trs σ H Q
theorem ep_nil : EvP K [] ρ os [] os := fun R F ps σ H Q I q => q [] F H (Ex.refl F) I .nil
theorem ep_cons {trs : List (TE × TE)} {k : Key} {kds : List (Key × D)} (hk : Ev K tk ρ os (keyD k) os1) (hv : Ev K tv ρ os1 d os2) (hr : EvP K trs ρ os2 kds os3) : EvP K ((tk, tv) :: trs) ρ os ((k, d) :: kds) os3 := fun R F ps σ H Q I q =>
  hk R F ps σ H _ I fun y F1 H1 e1 I1 r1 => hv R F1 ps σ H1 _ I1 fun v F2 H2 e2 I2 r2 => hr R F2 ps σ H2 _ I2 fun kvs F3 H3 e3 I3 r3 => by
    have := q ((k, v) :: kvs) F3 H3 (e1.trans (e2.trans e3)) I3 (.cons (Rp.up e3 r2) r3)
    rw [rp_key r1]
    exact this
def mergeKD (l m : List (Key × D)) : List (Key × D) := m.foldl (fun acc p => dput acc p.1 p.2) l
theorem rpk_merge : ∀ {ms : List (Key × V)} {md : List (Key × D)} {vs : List (Key × V)} {ds : List (Key × D)}, RpK K F ms md → RpK K F vs ds → RpK K F (mergeK vs ms) (mergeKD ds md)
  | _, _, _, _, .nil, r => r
  | _, _, vs, ds, @RpK.cons _ _ k v ms d md h t, r => (rpk_merge t (rpk_put h k r) : RpK K F (mergeK (putK vs k v) ms) (mergeKD (dput ds k d) md))
theorem en_disp {trs : List (TE × TE)} {kds : List (Key × D)} (h : EvP K trs ρ os kds os1) (hl : kds.length ≤ 15) : EvN K (tDisp trs) ρ os (.dct (mergeKD [] kds)) os1 := fun R F ps σ H Q I q p hp => by
  obtain ⟨hR, hF, J0⟩ := I.hst.lockO (u := .dK []) (fun _ z => nomatch z) hp
  refine h _ F ps σ _ _ ⟨I.sl, J0⟩ fun kvs F1 H1 e1 I1 r1 => ?_
  have hp1 := (I1.hst.oth p _ upd_same).2.1
  have J2 := I1.hst.setO (u' := .dK (mergeK [] kvs)) (fun _ z => nomatch z)
  obtain ⟨a1, a2⟩ := J2.unlockO hR (.dct (rpk_merge r1 .nil))
  exact ⟨hp1, kvs, rfl, by rw [r1.length]; exact hl, q p F1 _ e1 ⟨I1.sl.up (Ex.refl _) (List.prefix_append _ _), a1⟩ ⟨I1.sl, a2⟩⟩
/-! a walked dict that is a D -/
theorem dDct_eq {l : List (Key × D)} (h : dDct d = some l) : d = .dct l := by
  cases d <;> first | (cases h; done) | (cases h; rfl)
theorem dDctT_eq {l : List (List Key × D)} (h : dDctT d = some l) : d = .dctT l := by
  cases d <;> first | (cases h; done) | (cases h; rfl)
theorem fzD_of {i : Nat} {d e : D} (h : ρ[i]? = some (.fz d)) (q : d = e) : ρ[i]? = some (.fz e) := q ▸ h
end
end Ly

set_option Elab.async false
set_option linter.all false
set_option autoImplicit false
set_option maxRecDepth 100000
set_option maxHeartbeats 4000000
/-! Lay10: a dict's keys walked; a list seen as one of data. -/
namespace Ly
open PySem PySem.Spec PyProof.Rows L2
section
variable {K : PySem.W.Frag} {R F G H : Hp} {ps : List Addr} {ρ ρ' : List Sl} {os os1 os2 os3 : List Ow} {σ : L2.St} {s t : Sl} {d e : D} {te ta tb tc td tk tv : TE} {tt tu : TT} {P : Post}
abbrev tsKeys (i : Nat) (g : TG) (tb : TS) : TS := fun D σ H => tLock (tFor (iKeys (tVar i)) g tb) D σ H ∨ tFor (iKeys (tVar i)) g tb D σ H
theorem run_forKd {S Rr : Type} {g : TG} {tb : TS} {i : Nat} {ds : List (Key × D)} {b : Key → S → Option (Ctl S Rr)} {s0 : S} {c : Ctl S Rr} (shape : S → List Sl) (osh : S → List Ow) (RP : Rr → Sl → List Ow → Prop)
    (hi : ρ[i]? = some (.fz d) ∧ dDct d = some ds) (hm : loopM b (ds.map (·.1)) s0 = some c) (hw : Wk ρ os (shape s0) (osh s0)) (hn : ∀ s, (osh s).length = os.length)
    (hb : ∀ x s c', x ∈ ds.map (·.1) → b x s = some c' → ∃ ρ' js, TgB K g (E x) (shape s) ρ' js ∧ Run K tb ρ' (osh s) (LPost P.calm shape osh RP c'))
    (hx : ∀ s, c = .nx s → P.nx (shape s) (osh s)) (hr : ∀ r, c = .rt r → ∀ sl os', RP r sl os' → P.rt sl os') : Run K (tsKeys i g tb) ρ os P :=
  run_forKD shape osh RP (fzD_of hi.1 (dDct_eq hi.2)) hm hw hn hb hx hr
theorem run_forTd {S Rr : Type} {g : TG} {tb : TS} {i : Nat} {ds : List (List Key × D)} {b : TK → S → Option (Ctl S Rr)} {s0 : S} {c : Ctl S Rr} (shape : S → List Sl) (osh : S → List Ow) (RP : Rr → Sl → List Ow → Prop)
    (hi : ρ[i]? = some (.fz d) ∧ dDctT d = some ds) (hm : loopM b (ds.map fun kv => (⟨kv.1⟩ : TK)) s0 = some c) (hw : Wk ρ os (shape s0) (osh s0)) (hn : ∀ s, (osh s).length = os.length)
    (hb : ∀ x s c', x ∈ ds.map (fun kv => (⟨kv.1⟩ : TK)) → b x s = some c' → ∃ ρ' js, TgB K g (E x) (shape s) ρ' js ∧ Run K tb ρ' (osh s) (LPost P.calm shape osh RP c'))
    (hx : ∀ s, c = .nx s → P.nx (shape s) (osh s)) (hr : ∀ r, c = .rt r → ∀ sl os', RP r sl os' → P.rt sl os') : Run K (tsKeys i g tb) ρ os P :=
  run_forTD shape osh RP (fzD_of hi.1 (dDctT_eq hi.2)) hm hw hn hb hx hr
theorem run_forKa {α S Rr : Type} [Enc α] {g : TG} {tb : TS} {i : Nat} {l : List (Key × α)} {b : Key → S → Option (Ctl S Rr)} {s0 : S} {c : Ctl S Rr} (shape : S → List Sl) (osh : S → List Ow) (RP : Rr → Sl → List Ow → Prop)
    (hi : ρ[i]? = some (.fz (E (⟨l⟩ : Dct α)))) (hm : loopM b (l.map (·.1)) s0 = some c) (hw : Wk ρ os (shape s0) (osh s0)) (hn : ∀ s, (osh s).length = os.length)
    (hb : ∀ x s c', x ∈ l.map (·.1) → b x s = some c' → ∃ ρ' js, TgB K g (E x) (shape s) ρ' js ∧ Run K tb ρ' (osh s) (LPost P.calm shape osh RP c'))
    (hx : ∀ s, c = .nx s → P.nx (shape s) (osh s)) (hr : ∀ r, c = .rt r → ∀ sl os', RP r sl os' → P.rt sl os') : Run K (tsKeys i g tb) ρ os P := by
  have e : (l.map fun p => (p.1, (E p.2 : D))).map (·.1) = l.map (·.1) := by rw [List.map_map]; rfl
  refine run_forKD shape osh RP (ds := l.map fun p => (p.1, E p.2)) hi (by rw [e]; exact hm) hw hn (fun x s c' hx' => hb x s c' (by rw [e] at hx'; exact hx')) hx hr
theorem run_forTa {α S Rr : Type} [Enc α] {g : TG} {tb : TS} {i : Nat} {l : List (List Key × α)} {b : TK → S → Option (Ctl S Rr)} {s0 : S} {c : Ctl S Rr} (shape : S → List Sl) (osh : S → List Ow) (RP : Rr → Sl → List Ow → Prop)
    (hi : ρ[i]? = some (.fz (E (⟨l⟩ : DctT α)))) (hm : loopM b (l.map fun kv => (⟨kv.1⟩ : TK)) s0 = some c) (hw : Wk ρ os (shape s0) (osh s0)) (hn : ∀ s, (osh s).length = os.length)
    (hb : ∀ x s c', x ∈ l.map (fun kv => (⟨kv.1⟩ : TK)) → b x s = some c' → ∃ ρ' js, TgB K g (E x) (shape s) ρ' js ∧ Run K tb ρ' (osh s) (LPost P.calm shape osh RP c'))
    (hx : ∀ s, c = .nx s → P.nx (shape s) (osh s)) (hr : ∀ r, c = .rt r → ∀ sl os', RP r sl os' → P.rt sl os') : Run K (tsKeys i g tb) ρ os P := by
  have e : (l.map fun p => (p.1, (E p.2 : D))).map (fun kv => (⟨kv.1⟩ : TK)) = l.map fun kv => (⟨kv.1⟩ : TK) := by rw [List.map_map]; rfl
  refine run_forTD shape osh RP (ds := l.map fun p => (p.1, E p.2)) hi (by rw [e]; exact hm) hw hn (fun x s c' hx' => hb x s c' (by rw [e] at hx'; exact hx')) hx hr
section
variable {S : Type} {g : TG} {tb : TS} {i : Nat} {s0 s1 : S}
theorem run_forKdN {ds : List (Key × D)} {b : Key → S → Option (Ctl S Empty)} (shape : S → List Sl) (osh : S → List Ow)
    (hi : ρ[i]? = some (.fz d) ∧ dDct d = some ds) (hm : loopN b (ds.map (·.1)) s0 = some s1) (hw : Wk ρ os (shape s0) (osh s0)) (hn : ∀ s, (osh s).length = os.length)
    (hb : ∀ x s c', x ∈ ds.map (·.1) → b x s = some c' → ∃ ρ' js, TgB K g (E x) (shape s) ρ' js ∧ Run K tb ρ' (osh s) (LPost P.calm shape osh (fun (_ : Empty) _ _ => False) c'))
    (hx : P.nx (shape s1) (osh s1)) : Run K (tsKeys i g tb) ρ os P :=
  run_forKd shape osh (fun (_ : Empty) _ _ => False) hi (loopN_some hm) hw hn hb (fun s e => by cases e; exact hx) (fun r => nomatch r)
theorem run_forTdN {ds : List (List Key × D)} {b : TK → S → Option (Ctl S Empty)} (shape : S → List Sl) (osh : S → List Ow)
    (hi : ρ[i]? = some (.fz d) ∧ dDctT d = some ds) (hm : loopN b (ds.map fun kv => (⟨kv.1⟩ : TK)) s0 = some s1) (hw : Wk ρ os (shape s0) (osh s0)) (hn : ∀ s, (osh s).length = os.length)
    (hb : ∀ x s c', x ∈ ds.map (fun kv => (⟨kv.1⟩ : TK)) → b x s = some c' → ∃ ρ' js, TgB K g (E x) (shape s) ρ' js ∧ Run K tb ρ' (osh s) (LPost P.calm shape osh (fun (_ : Empty) _ _ => False) c'))
    (hx : P.nx (shape s1) (osh s1)) : Run K (tsKeys i g tb) ρ os P :=
  run_forTd shape osh (fun (_ : Empty) _ _ => False) hi (loopN_some hm) hw hn hb (fun s e => by cases e; exact hx) (fun r => nomatch r)
theorem run_forKaN {α : Type} [Enc α] {l : List (Key × α)} {b : Key → S → Option (Ctl S Empty)} (shape : S → List Sl) (osh : S → List Ow)
    (hi : ρ[i]? = some (.fz (E (⟨l⟩ : Dct α)))) (hm : loopN b (l.map (·.1)) s0 = some s1) (hw : Wk ρ os (shape s0) (osh s0)) (hn : ∀ s, (osh s).length = os.length)
    (hb : ∀ x s c', x ∈ l.map (·.1) → b x s = some c' → ∃ ρ' js, TgB K g (E x) (shape s) ρ' js ∧ Run K tb ρ' (osh s) (LPost P.calm shape osh (fun (_ : Empty) _ _ => False) c'))
    (hx : P.nx (shape s1) (osh s1)) : Run K (tsKeys i g tb) ρ os P :=
  run_forKa shape osh (fun (_ : Empty) _ _ => False) hi (loopN_some hm) hw hn hb (fun s e => by cases e; exact hx) (fun r => nomatch r)
theorem run_forTaN {α : Type} [Enc α] {l : List (List Key × α)} {b : TK → S → Option (Ctl S Empty)} (shape : S → List Sl) (osh : S → List Ow)
    (hi : ρ[i]? = some (.fz (E (⟨l⟩ : DctT α)))) (hm : loopN b (l.map fun kv => (⟨kv.1⟩ : TK)) s0 = some s1) (hw : Wk ρ os (shape s0) (osh s0)) (hn : ∀ s, (osh s).length = os.length)
    (hb : ∀ x s c', x ∈ l.map (fun kv => (⟨kv.1⟩ : TK)) → b x s = some c' → ∃ ρ' js, TgB K g (E x) (shape s) ρ' js ∧ Run K tb ρ' (osh s) (LPost P.calm shape osh (fun (_ : Empty) _ _ => False) c'))
    (hx : P.nx (shape s1) (osh s1)) : Run K (tsKeys i g tb) ρ os P :=
  run_forTa shape osh (fun (_ : Empty) _ _ => False) hi (loopN_some hm) hw hn hb (fun s e => by cases e; exact hx) (fun r => nomatch r)
end
theorem ps_keys {X : Cx} {st : Stmt} {g : TG} {tb : TS} {i : Nat} (h : PS X st (tFor (iKeys (tVar i)) g tb)) : PS X st (tsKeys i g tb) := ps_lockO h
theorem e_toD {α : Type} [Enc α] {xs : List α} : (E (xs.map (E : α → D)) : D) = E xs := by
  show D.lst ((xs.map E).map id) = D.lst (xs.map E)
  rw [List.map_id]
theorem en_toD {α : Type} [Enc α] {xs : List α} (h : EvN K te ρ os (E xs) os1) : EvN K te ρ os (E (xs.map (E : α → D))) os1 := by rw [e_toD]; exact h
theorem ev_toD {α : Type} [Enc α] {xs : List α} (h : Ev K te ρ os (E xs) os1) : Ev K te ρ os (E (xs.map (E : α → D))) os1 := by rw [e_toD]; exact h
end
/-- y = {k: v for ..}: the comprehension stores by itself -/
theorem ps_setDcT {X : Cx} {i : Nat} {y : Str} {py : Pos} {kx vx tg iter : Expr} {ifs : List Expr} {scope : Scope} {own : List (Str × Nat)} {pos spos : Pos} {wi : TI} {g : TG} {tt : TT} {tk tv : TE} (hu : X.A.units + 1 < cLine) (hc : X.calm = true) (hN : X.N.Nodup) (hy : X.N[i]? = some y) (hyl : X.env.scope.names.lookup y = some .local)
    (hsw : swapsWith (.DictComp kx vx [⟨tg, iter, ifs, 0⟩] scope pos) (some (.Name y py)) spos.line X.env = pure true) (hi : PI X tg iter wi) (ok : BlkOk X.N X.env.scope scope own)
    (hg : Blks X scope fun Y => PG Y tg g) (ht : Blks X scope fun Y => PTs Y ifs tt) (hk : Blks X scope fun Y => PE Y kx tk) (he : Blks X scope fun Y => PE Y vx tv) (hs : ∀ x, foldedSetIterable iter X.env x = pure x := by intro _; rfl) :
    PS X (.Assign [.Name y py] (.DictComp kx vx [⟨tg, iter, ifs, 0⟩] scope pos) spos) (tAsg (tDcT wi g tt tk tv (own.map (·.2))) (gName i)) := by
  refine ⟨fun pins s σ H D I h => ?_⟩
  rw [exec_Assign_Name_used _ _ _ _ hsw]
  refine wpAny_bind (wpAny_standAt (wpAny_bind ?_))
  show wpAny _ X.A (do let _ ← comprehension (.DictComp kx vx [⟨tg, iter, ifs, 0⟩] scope pos) scope X.env (firstIterPos [⟨tg, iter, ifs, 0⟩] pos) newDict false (eval iter X.env) (some (assign (.Name y py) X.env))) _ _ s
  have h : tDcT wi g tt tk tv (own.map (·.2)) σ H (fun x H1 => gName i x σ H1 D.nx) := h
  refine wpAny_bind (thn (dcT_core (Qf := fun _ s' => SP X pins D .next s') hu hc hN I hi ok hg ht hk he hs h fun L C s' m H' I' q hn f => ?_) fun _ s' hq => wpAny_pure (wpAny_pure hq))
  show wpAny _ _ (assign (.Name y py) X.env (.ref L)) _ _ _
  refine wpAny_assign_Name (store_ok2 (v := V.ref L) I' hN hy (.inl hyl) rfl (fun s2 I2 ⟨a, sb, ha⟩ => ?_) (.inr hyl))
  obtain ⟨f0, f1, f2, f3, f4, f5⟩ := f
  have haC : C ≠ a := by
    rcases ha with z | z
    · rw [z]; exact f1
    · exact fun e => f4 y a z e.symm
  refine ⟨m, hn.sameBut sb haC, fun h3 sb3 => ?_⟩
  exact ⟨_, H', I2.turned (t' := s2.toks) (fun b o hb e => (sb3.2 b hb).trans e) f0 f1 f3 f4 f5, q⟩
theorem sw_trueD {kx vx : Expr} {gs : List Comprehension} {scope : Scope} {pos py : Pos} {y : Str} {l : Nat} {env : Env} (hk : env.scope.kind = .function) (hy : env.scope.names.lookup y = some .local) (hl : (py.line == pos.line) = true)
    (ha : (scope.names.any fun (n, k) => n == y && (k == .local || k == .cell)) = false) : swapsWith (.DictComp kx vx gs scope pos) (some (.Name y py)) l env = pure true := by
  have ky : env.kindOf y = some .local := hy
  have hb : env.blockKind = .function := by unfold Env.blockKind; rw [hk]; rfl
  unfold swapsWith
  simp only [hb, ky, ha, Expr.pos, hl]
  rfl
end Ly

set_option Elab.async false
set_option linter.all false
set_option autoImplicit false
set_option maxRecDepth 100000
set_option maxHeartbeats 4000000
/-! Lay11: the law's own end. -/
namespace Ly
open PySem PySem.Spec PyProof.Rows L2
def spLaw (K : PySem.W.Frag) : Sp := fun vs H Q _ => ∃ (a : Addr) (ns : List Int), vs = [.ref a] ∧ SqL K H a (ns.map V.int) ∧ ns.length ≤ 63 ∧ ∀ H', Q (.bl true) H'
theorem spLaw_R {K : PySem.W.Frag} {m : List Int → Option Bool} {Rl : Rel} (hm : ∀ ns : List Int, ns.length ≤ 63 → m ns = some true) (hR : ∀ ns : List Int, m ns = some true → Rl [.fz (E ns)] [] (.fz (E true)) []) :
    ∀ vs H Q X, spLaw K vs H Q X → spR K Rl vs H Q X := by
  rintro vs H Q X ⟨a, ns, rfl, hs, hl, q⟩
  classical
  refine ⟨fun _ => none, fun x => if x = a then H a else none, [], [.fz (E ns)], [], .fz (E true), [], hR ns (hm ns hl), ⟨?_, ?_⟩, ?_⟩
  · refine .cons ?_ .nil
    refine Rp.lst (K := K) (xs := ns.map V.int) ?_ (rpl_ints ns)
    rcases hs with hs | hs
    · left
      rcases hs with hs | ⟨o, hs⟩
      · left
        show (if a = a then H a else none) = _
        rw [if_pos rfl]; exact hs
      · right
        refine ⟨o, ?_⟩
        show (if a = a then H a else none) = _
        rw [if_pos rfl]; exact hs
    · exact .inr hs
  · refine ⟨fun x o h => ?_, fun _ _ h => (by cases h), rfl, fun i p d h _ => (by simp at h), fun i j p h _ _ _ => (by simp at h), Dp.nil⟩
    have h : (if x = a then H a else none) = some o := h
    by_cases e : x = a
    · subst e
      rw [if_pos rfl] at h
      exact h
    · rw [if_neg e] at h
      cases h
  · intro v F' H' e h r
    cases r
    exact q H'
end Ly

set_option Elab.async false
set_option linter.all false
set_option autoImplicit false
set_option maxRecDepth 100000
set_option maxHeartbeats 4000000
/-! Lay12: what raises. -/
namespace Ly
open PySem PySem.Spec PyProof.Rows L2
section
variable {K : PySem.W.Frag} {R F G H H' : Hp} {ps : List Addr} {ρ ρ' : List Sl} {os os1 os2 os3 : List Ow} {σ : L2.St} {s t : Sl} {d e : D} {te : TE} {ta tb : TA} {P : Post} {C : Addr} {fs : List (Str × D)}
theorem Hst.grow (h : Hst K F R ps os H) (k : ∀ b o, H b = some o → H' b = some o) : Hst K F R ps os H' :=
  ⟨fun a u q => k a u (h.sub a u q), fun a u q => ⟨(h.oth a u q).1, k a u (h.oth a u q).2.1, (h.oth a u q).2.2⟩, h.len, fun i p d h1 h2 => by
    obtain ⟨q1, q2, w, q3, q4⟩ := h.own i p d h1 h2
    exact ⟨q1, q2, w, k _ _ q3, q4⟩, h.dis, h.dp.tr (Ex.refl F) (fun _ _ _ _ x y => ⟨x, y⟩) fun a f r n q => ⟨f, r, k a, q⟩⟩
theorem Hst.noR (h : Hst K F R ps os H) {p : Addr} (hp : H p = none) : R p = none := by
  cases q : R p with
  | none => rfl
  | some u => rw [(h.oth _ _ q).2.1] at hp; cases hp
theorem XdR.less {R' : Hp} {fs : List (Str × D)} {d : Option Addr} (hr : ∀ a, R' a = none → R a = none) (x : XdR K F R' fs d H) : XdR K F R fs d H := by
  rcases x with x | ⟨a, fv, h1, h2, h3⟩
  · exact .inl x
  · exact .inr ⟨a, fv, h1, hr a h2, h3⟩
theorem St.grow (h : St K R F ps ρ os σ H) (k : ∀ b o, H b = some o → H' b = some o) : St K R F ps ρ os σ H' := ⟨h.sl, h.hst.grow k⟩
/-! ### an exception's own __init__ -/
def spI1 (C : Addr) (f : Str) : Sp := fun vs H Q _ => ∃ (a : Addr) (y : V), vs = [.ref a, y] ∧ H a = some (exo a C none) ∧ ∀ dx, H dx = none → dx ≠ a → Q .non (upd (upd H dx (exd dx [(f, y)])) a (exo a C (some dx)))
def spI2 (C : Addr) (f g : Str) : Sp := fun vs H Q _ => ∃ (a : Addr) (y z : V), vs = [.ref a, y, z] ∧ H a = some (exo a C none) ∧
  ∀ dx, H dx = none → dx ≠ a → Q .non (upd (upd (upd H dx (exd dx [(f, y)])) a (exo a C (some dx))) dx (exd dx [(g, z), (f, y)]))
theorem init1_run {vs : List V} {Q : VK} {X : XK} {N : List Str} {f : Str} (T : OexC K C) (hf : PySem.W.findIn K (.ref C) f = some none) (hN : N.length = 2) (h : spI1 C f vs H Q X) : tOst K f (tVar 0) (tVar 1) { nx := fun _ H' => Q .non H', rt := Q } (L2.start N vs) H := by
  obtain ⟨a, y, rfl, ha, q⟩ := h
  have e : L2.start N [V.ref a, y] = [some (.ref a), some y] := by
    unfold L2.start
    rw [hN]
    rfl
  rw [e]
  exact ⟨y, rfl, .ref a, rfl, a, C, rfl, T, hf, .inl ⟨ha, fun dx n ne => q dx n ne⟩⟩
theorem init2_run {vs : List V} {Q : VK} {X : XK} {N : List Str} {f g : Str} (T : OexC K C) (hf : PySem.W.findIn K (.ref C) f = some none) (hg : PySem.W.findIn K (.ref C) g = some none) (hN : N.length = 3) (h : spI2 C f g vs H Q X) :
    tSeq (tOst K f (tVar 0) (tVar 1)) (tOst K g (tVar 0) (tVar 2)) { nx := fun _ H' => Q .non H', rt := Q } (L2.start N vs) H := by
  obtain ⟨a, y, z, rfl, ha, q⟩ := h
  have e : L2.start N [V.ref a, y, z] = [some (.ref a), some y, some z] := by
    unfold L2.start
    rw [hN]
    rfl
  rw [e]
  refine ⟨y, rfl, .ref a, rfl, a, C, rfl, T, hf, .inl ⟨ha, fun dx n ne => ?_⟩⟩
  refine ⟨z, rfl, .ref a, rfl, a, C, rfl, T, hg, .inr ⟨dx, [(f, y)], upd_same, ?_, by show 1 ≤ 900; decide, q dx n ne⟩⟩
  rw [upd_ne ne]
  exact upd_same
/-! ### raise -/
theorem run_raise1 {f : Str} {W : Value → Option Addr → L2.St → Hp → Prop} (ha : EvA K ta ρ os [.fz d] os1) (hE : P.EX = W) (k : P.ex C [(f, d)] ρ os1) : Run K (fun _ σ H => tMkO C (spI1 C f) [] ta σ H fun cls d H' => W cls d σ H') ρ os P := fun R F ps σ H Dn I c =>
  ha R F ps σ H _ I fun vs F1 H1 e1 I1 r1 => by
    obtain ⟨v, rfl, r⟩ := one_of r1
    refine ⟨by show 1 ≤ 1000; decide, fun a hn => ⟨a, v, rfl, upd_same, fun dx hd hne => ?_⟩⟩
    have hd1 : H1 dx = none := by rwa [upd_ne hne] at hd
    refine ⟨rfl, dx, [(f, v)], upd_same, by rw [upd_ne hne]; exact upd_same, hd1, ?_⟩
    rw [← hE]
    refine c.ex C [(f, d)] ρ os1 F1 ps σ (some dx) _ e1 (List.prefix_refl _) (I1.grow fun b o q => ?_) (.inr ⟨dx, [(f, v)], rfl, I1.hst.noR hd1, upd_same, .cons ⟨rfl, r⟩ .nil⟩) k
    rw [upd_ne (ne_of_none q hd1), del_ne (ne_of_none q hn), upd_ne (ne_of_none q hn), upd_ne (ne_of_none q hd1), upd_ne (ne_of_none q hn)]
    exact q
theorem run_raise2 {f g : Str} {W : Value → Option Addr → L2.St → Hp → Prop} (ha : EvA K ta ρ os [.fz d, .fz e] os1) (hE : P.EX = W) (k : P.ex C [(g, e), (f, d)] ρ os1) : Run K (fun _ σ H => tMkO C (spI2 C f g) [] ta σ H fun cls d H' => W cls d σ H') ρ os P := fun R F ps σ H Dn I c =>
  ha R F ps σ H _ I fun vs F1 H1 e1 I1 r1 => by
    obtain ⟨v, w, rfl, r, r'⟩ := two_of r1
    refine ⟨by show 2 ≤ 1000; decide, fun a hn => ⟨a, v, w, rfl, upd_same, fun dx hd hne => ?_⟩⟩
    have hd1 : H1 dx = none := by rwa [upd_ne hne] at hd
    refine ⟨rfl, dx, [(g, w), (f, v)], by rw [upd_ne (Ne.symm hne)]; exact upd_same, upd_same, hd1, ?_⟩
    rw [← hE]
    refine c.ex C [(g, e), (f, d)] ρ os1 F1 ps σ (some dx) _ e1 (List.prefix_refl _) (I1.grow fun b o q => ?_) (.inr ⟨dx, [(g, w), (f, v)], rfl, I1.hst.noR hd1, upd_same, .cons ⟨rfl, r'⟩ (.cons ⟨rfl, r⟩ .nil)⟩) k
    rw [upd_ne (ne_of_none q hd1), del_ne (ne_of_none q hn), upd_ne (ne_of_none q hd1), upd_ne (ne_of_none q hn), upd_ne (ne_of_none q hd1), upd_ne (ne_of_none q hn)]
    exact q
/-! ### expressions that raise -/
def EvX (K : PySem.W.Frag) (te : TE) (ρ : List Sl) (os : List Ow) (W : Value → Option Addr → L2.St → Hp → Prop) (C : Addr) (fs : List (Str × D)) (os' : List Ow) : Prop :=
  ∀ (R F : Hp) (ps : List Addr) (σ : L2.St) (H : Hp) (Q : VK), St K R F ps ρ os σ H → (∀ F' H' d, Ex F F' → St K R F' ps ρ os' σ H' → XdR K F' R fs d H' → W (.ref C) d σ H') → te σ H Q
def EvAX (K : PySem.W.Frag) (ta : TA) (ρ : List Sl) (os : List Ow) (W : Value → Option Addr → L2.St → Hp → Prop) (C : Addr) (fs : List (Str × D)) (os' : List Ow) : Prop :=
  ∀ (R F : Hp) (ps : List Addr) (σ : L2.St) (H : Hp) (Q : List V → Hp → Prop), St K R F ps ρ os σ H → (∀ F' H' d, Ex F F' → St K R F' ps ρ os' σ H' → XdR K F' R fs d H' → W (.ref C) d σ H') → ta σ H Q
variable {W : Value → Option Addr → L2.St → Hp → Prop}
theorem ev_ofS {sp : Sp} {E : L2.St → XK} (h : ∀ EE, EvS K (tCall sp [] EE ta) ρ os s os1) : EvS K (tCallS sp E ta) ρ os s os1 := fun R F ps σ H Q I q => by
  have := h (E σ) R F ps σ H Q I q
  unfold tCall at this
  simp only [List.append_nil] at this
  exact this
theorem en_ofS {sp : Sp} {E : L2.St → XK} (h : ∀ EE, EvN K (tCall sp [] EE ta) ρ os d os1) : EvN K (tCallS sp E ta) ρ os d os1 := fun R F ps σ H Q I q => by
  have := h (E σ) R F ps σ H Q I q
  unfold tCall at this
  simp only [List.append_nil] at this
  exact this
theorem er_call {Rl : Rel} {ds : List D} (ha : EvA K ta ρ os (ds.map Sl.fz) os1) (hR : Rl (ds.map Sl.fz) [] (.ex C fs) []) : EvX K (tCallS (spR K Rl) (WE W) ta) ρ os W C fs os1 := fun R F ps σ H Q I q =>
  ha R F ps σ H _ I fun vs F1 H1 e1 I1 r1 => by
    obtain ⟨R', less, J, back⟩ := I1.hst.lend0
    refine ⟨R', F1, [], _, [], _, [], hR, ⟨slots_fz r1, J⟩, fun d F2 H2 e2 J2 xd => ?_⟩
    have B := back F2 H2 [] [] e2 J2
    rw [List.append_nil, List.append_nil] at B
    exact q F2 H2 d (e1.trans e2) ⟨I1.sl.up e2 (List.prefix_refl _), B⟩ (xd.less less)
theorem er_call1 {Rl : Rel} {ss : List Sl} {n : Nat} {o o' : Ow} (ha : EvA K ta ρ os ss os1) (hk : os1[n]? = some o) (hR : Rl (ss.map (lendS n)) [o] (.ex C fs) [o']) : EvX K (tCallS (spR K Rl) (WE W) ta) ρ os W C fs (os1.set n o') := fun R F ps σ H Q I q =>
  ha R F ps σ H _ I fun vs F1 H1 e1 I1 r1 => by
    have hn : n < ps.length := by
      rw [I1.hst.len]
      exact (List.getElem?_eq_some_iff.mp hk).1
    obtain ⟨p, hp⟩ : ∃ p, ps[n]? = some p := ⟨_, List.getElem?_eq_getElem hn⟩
    obtain ⟨R', less, J, back⟩ := I1.hst.lend1 hp hk
    refine ⟨R', F1, [p], _, [o], _, [o'], hR, ⟨slots_lend hp r1, J⟩, fun d F2 H2 e2 J2 xd => ?_⟩
    have B := back F2 H2 o' [] [] e2 J2
    rw [List.append_nil, List.append_nil] at B
    exact q F2 H2 d (e1.trans e2) ⟨I1.sl.up e2 (List.prefix_refl _), B⟩ (xd.less less)
theorem er_hd (h : EvX K te ρ os W C fs os1) : EvAX K (tCons te tb) ρ os W C fs os1 := fun R F ps σ H Q I q => h R F ps σ H _ I q
theorem er_tl (h : EvS K te ρ os s os1) (h2 : EvAX K tb ρ os1 W C fs os2) : EvAX K (tCons te tb) ρ os W C fs os2 := fun R F ps σ H Q I q =>
  h R F ps σ H _ I fun v F1 H1 e1 I1 _ => h2 R F1 ps σ H1 _ I1 fun F2 H2 d e2 I2 xd => q F2 H2 d (e1.trans e2) I2 xd
theorem er_lst (h : EvAX K ta ρ os W C fs os1) : EvX K (tLst ta) ρ os W C fs os1 := fun R F ps σ H Q I q => h R F ps σ H _ I q
theorem er_tup (h : EvAX K ta ρ os W C fs os1) : EvX K (tTup ta) ρ os W C fs os1 := fun R F ps σ H Q I q => h R F ps σ H _ I q
theorem er_args {sp : Sp} {E : L2.St → XK} (h : EvAX K ta ρ os W C fs os1) : EvX K (tCallS sp E ta) ρ os W C fs os1 := fun R F ps σ H Q I q => h R F ps σ H _ I q
theorem er_args0 {sp : Sp} {EE : XK} (h : EvAX K ta ρ os W C fs os1) : EvX K (tCall sp [] EE ta) ρ os W C fs os1 := fun R F ps σ H Q I q => h R F ps σ H _ I q
theorem run_retX (h : EvX K te ρ os W C fs os1) (hE : P.EX = W) (k : P.ex C fs ρ os1) : Run K (tRet te) ρ os P := fun R F ps σ H Dn I c =>
  h R F ps σ H _ I fun F1 H1 d e1 I1 xd => by rw [← hE]; exact c.ex C fs ρ os1 F1 ps σ d H1 e1 (List.prefix_refl _) I1 xd k
theorem run_asgX {g : TG} (h : EvX K te ρ os W C fs os1) (hE : P.EX = W) (k : P.ex C fs ρ os1) : Run K (tAsg te g) ρ os P := fun R F ps σ H Dn I c =>
  h R F ps σ H _ I fun F1 H1 d e1 I1 xd => by rw [← hE]; exact c.ex C fs ρ os1 F1 ps σ d H1 e1 (List.prefix_refl _) I1 xd k
theorem run_dropX (h : EvX K te ρ os W C fs os1) (hE : P.EX = W) (k : P.ex C fs ρ os1) : Run K (tDrop te) ρ os P := fun R F ps σ H Dn I c =>
  h R F ps σ H _ I fun F1 H1 d e1 I1 xd => by rw [← hE]; exact c.ex C fs ρ os1 F1 ps σ d H1 e1 (List.prefix_refl _) I1 xd k
end
end Ly

set_option Elab.async false
set_option linter.all false
set_option autoImplicit false
set_option maxRecDepth 100000
set_option maxHeartbeats 4000000
/-! Lay13: defs called in an except suite; what they promise may speak of the object that is handled. -/
namespace Ly
open PySem PySem.Spec PyProof.Rows L2 L2H
/-- as FnH, the handled object p a letter of the promise -/
structure FnP (P : Program) (w : World) (K : PySem.W.Frag) (mg : Str → Option Value) (base : Heap) (k : Nat) (f : Addr) (fd : FuncData) (pars : List Str) (sp : Addr × Obj → Sp) : Prop where
  len : ∀ p vs H Q E, sp p vs H Q E → vs.length = pars.length
  run : ∀ (p : Addr × Obj) (A : Around) (outer : List Env) (s : Shared) (H : Hp) (args : Args) (us : List Value) (vs : List V) (Q : VK) (E : XK),
    RoomH k A → Hot1 A p → PinOk outer H s p → Env0 P w K mg base A outer s H → BindsTo s fd args (pars.zip us) → Vals vs us → sp p vs H Q E → codeAny (model P w) A (.call (.ref f) args) (CR CX0 outer P w H s Q E) s
theorem FnP.mono {P : Program} {w : World} {K : PySem.W.Frag} {mg : Str → Option Value} {base : Heap} {j k : Nat} {f : Addr} {fd : FuncData} {pars : List Str} {sp : Addr × Obj → Sp} (g : FnP P w K mg base j f fd pars sp) (h : j ≤ k) : FnP P w K mg base k f fd pars sp :=
  ⟨g.len, fun p A outer s H args us vs Q E hr => g.run p A outer s H args us vs Q E (hr.mono h)⟩
theorem fn_P {P : Program} {w : World} {K : PySem.W.Frag} {mg : Str → Option Value} {base : Heap} {x qual : Str} {st : Stmt} {f : Addr} {fd : FuncData} {N pars : List Str} {k : Nat} {sp : Addr × Obj → Sp} (Fn : Fun K x qual st f fd) (S : FnScope N pars (defScope st))
    (len : ∀ p vs H Q E, sp p vs H Q E → vs.length = pars.length)
    (body : ∀ (cdv : Value) (A : Around) (outer : List Env) (s : Shared) (H : Hp) (E : XK) (p : Addr × Obj) (vs : List V) (Q : VK), Hot1 A p → RoomH k (A.deeper (envOfC qual (defScope st) s.heap.objs.size f cdv)) → sp p vs H Q E →
      ∃ t, PSs (cxH CX0 P w K mg base N qual (defScope st) f cdv A outer s H E p) (defBody st) t ∧ t { nx := fun _ H' => Q .non H', rt := Q } (L2.start N vs) H) :
    FnP P w K mg base (k + 1) f fd pars sp := by
  obtain ⟨oc, od, kV, doc, pm, an, cdv, ct, osl, rfl, lk, hcd⟩ := Fn.ex
  refine ⟨len, fun p A outer s H args us vs Q E room hot pin env binds rel want => ?_⟩
  have hn := len _ _ _ _ _ want
  have inK : K.In s.heap := env.mod.kin.keeps fun b o z => (env.bs b o z).1
  have free : s.heap.NoLimit := env.mod.nolimit.keeps fun b o z => (env.bs b o z).1
  have kinds : ∀ y ∈ pars.zip us, (defScope st).names.lookup y.1 = some .local ∨ ((defScope st).names.lookup y.1 = some .cell ∧ ((cellsFrom (s.heap.objs.size + 1) (defScope st).names []).lookup y.1).isSome = true) := by
    rintro ⟨n, v⟩ hy
    have hp := (List.of_mem_zip hy).1
    cases S.par n hp with
    | inl z => exact .inl z
    | inr z => exact .inr ⟨z, PySem.W.cellsFrom_some _ _ _ (.inl z)⟩
  refine codeAny_call_function room.depth (inK _ _ lk) rfl S.co S.gen rfl (PySem.W.codeRec_of inK hcd) (binds _ _ _ _ ?_)
  refine wpAny_newFunctionEnv_cells S.kind kinds fun e he s1 made => ?_
  subst he
  refine ⟨free.keeps made.toInCall.keep, codeAny_func ?_⟩
  obtain ⟨t, ht, ht2⟩ := body cdv A outer s H E p vs Q hot (room.deeper _) want
  have I := inv_startH (CX := CX0) (E := E) (qual := qual) (f := f) (cd := cdv) S pin env hn rel made
  refine wpAny_mono (ht.run [] s1 (L2.start N vs) H _ I ht2) (fun fl s' out => ?_) fun _ _ z => z
  cases fl with
  | next =>
    obtain ⟨σ', H', J, q⟩ := out
    exact ⟨V.non, H', J.os, J.bare, J.base, J.hok, rfl, q⟩
  | ret u =>
    obtain ⟨v, σ', H', J, rv, q⟩ := out
    exact ⟨v, H', J.os, J.bare, J.base, J.hok, rv, q⟩
  | brk => obtain ⟨_, _, _, q⟩ := out; exact q.elim
  | cont => obtain ⟨_, _, _, q⟩ := out; exact q.elim
section
variable {X : Cx} {k : Nat} {f : Addr} {fd : FuncData} {pars : List Str} {sp : Addr × Obj → Sp} {x : Str} {q pos : Pos} {e : Expr} {es : List Expr} {t : TA} {p : Addr × Obj}
theorem pe_callP (F : FnP X.prog X.w X.K X.mg X.base k f fd pars sp) (room : RoomH k X.A) (hot : Hot1 X.A p) (hp : p ∈ X.pn) (hg : Gl X x) (hm : X.mg x = some (.ref f)) (hk : PySem.W.keepIn X.K (.ref f) = true) (hb : Binds X.K fd pars [])
    (ha : PA X (e :: es) t) (hdb : (x == ("__debug__" : Str)) = false := by decide) (he : starEach (e :: es) X.env = (false, eval e X.env) :: starEach es X.env := by rfl) (hpl : (backTo pos (starEach es X.env)).any (·.1) = false := by rfl) :
    PE X (.Call (.Name x q) (e :: es) [] pos) (tCall (sp p) [] E0 t) := by
  refine ⟨fun pins s σ H Q I h => ?_⟩
  refine wpAny_Call_Name_kw (ld_glob I hg hm ?_ hdb)
  refine PySem.W.callWith_K (h₀ := X.base) I.ok.mod.kin hk (thn (ha.run pos pins s σ H _ I h) fun us s1 got => ?_) he hpl
  obtain ⟨vs, H1, I1, rel, want⟩ := got
  rw [List.append_nil] at want
  refine ⟨I1.kIn, ?_⟩
  have hn : us.length = pars.length := (rel.length).symm.trans (F.len _ _ _ _ _ want)
  have bt := hb s1 us I1.kIn (by simpa using hn)
  rw [List.append_nil] at bt
  have at1 := I1.pin p (List.mem_append_left _ hp)
  have pin : PinOk X.stack H1 s1 p := by
    refine ⟨at1.1, at1.2.1, fun hm => ?_, at1.2.2.2.2⟩
    rcases List.mem_cons.mp (I1.stkSub p.1 hm) with z | z
    · exact at1.2.2.1 z
    · exact at1.2.2.2.1 z
  refine wpAny_call (codeAny_mono (F.run p X.A X.stack s1 H1 ⟨us, []⟩ us vs Q E0 room hot pin I1.env0 bt rel want) fun r s' out => ?_)
  cases r with
  | error _ => exact out.elim
  | ok fl =>
    cases fl with
    | ret u => exact I1.after out
    | next => exact out.elim
    | brk => exact out.elim
    | cont => exact out.elim
/-! ### what one asks of the handled object -/
/-- its class, its dict -/
def HotO (C : Addr) (d : Option Addr) (p : Addr × Obj) : Prop := Zc (.ref C) d p.2 ∧ ∃ vs, p.2.data = .fields vs
/-- what its class must say for that -/
structure ExcP (K : PySem.W.Frag) (C : Addr) : Prop where
  cl : (PySem.W.clsIn K C).isSome = true
  ga : PySem.W.findIn K (.ref C) "__getattribute__" = some (some (.builtin "BaseException.__getattribute__"))
  gt : PySem.W.findIn K (.ref C) "__getattr__" = some none
  sb : PySem.W.subIn K (.ref C) (.type "BaseException") = some true
  kc : PySem.W.findIn K (.ref C) "__class__" = some (some (.builtin "object.__class__"))
  kg : PySem.W.specialIn K (.builtin "object.__class__") "__get__" = some (some (.builtin "getset_descriptor.__get__"))
  kt : PySem.W.takesIn K (.builtin "object.__class__") = some true
  mo : PySem.W.mroIn K C (.type "object") = some true
/-- isinstance(e, c) -/
def rIsP (K : PySem.W.Frag) (C a : Addr) (d : Option Addr) : List V → Hp → VK → Prop := fun xs H Q => ∃ (c : V) (cv : Value) (b : Bool), xs = [.ref a, c] ∧ (∀ u, RelV c u → u = cv) ∧ (∀ dd, d = some dd → ∃ fs, H dd = some (.xd fs)) ∧ PySem.W.kitOne K (.ref C) cv = some b ∧ Q (.bl b) H
theorem call_isP {K : PySem.W.Frag} {C : Addr} {d : Option Addr} (hK : X.K = K) (E : ExcP K C) (ho : HotO C d p) (hp : p ∈ X.pn) : CallR X (.builtin "isinstance") (rIsP K C p.1 d) := by
  subst hK
  intro pins s σ H xs us Q I r h
  obtain ⟨c, cv, b, rfl, hcv, hd, want, q⟩ := h
  obtain ⟨u, w, rfl, ru, rw'⟩ := vals2 r
  cases (show u = Value.ref p.1 from ru)
  have ec := hcv _ rw'
  subst ec
  have got := (I.pin p (List.mem_append_left _ hp)).1
  obtain ⟨⟨h1, h2⟩, vs, h3⟩ := ho
  have fin : ∀ {od : Option Obj}, PySem.W.InstAt s.heap p.1 p.2 C od → wpAny (model X.prog X.w) X.A (call (.builtin "isinstance") [.ref p.1, w]) (EP X pins σ Q) X.xe s := fun {od} J =>
    PySem.W.kia_one (PySem.W.kitx_exc E.cl E.ga E.gt E.sb E.kc E.kg E.kt E.mo) I.kIn J want (fun z => nomatch z) fun tk => ⟨.bl b, H, I.kept (t' := tk) fun _ _ z => z, rfl, q⟩
  cases hdd : d with
  | none =>
    subst hdd
    refine fin (od := none) ?_
    obtain ⟨a, oc, od, oda, osl⟩ := p
    dsimp only at h1 h2 h3 got ⊢
    subst h1 h2 h3
    exact ⟨got, rfl, rfl, trivial⟩
  | some dd =>
    subst hdd
    obtain ⟨fs, hx⟩ := hd dd rfl
    have x : ObjOk X.prog X.w H s.heap dd (.xd fs) := I.hok dd _ hx
    obtain ⟨mA, ⟨oD, es', ep', ho', _⟩, _⟩ := x
    refine fin (od := some oD) ?_
    obtain ⟨a, oc, od, oda, osl⟩ := p
    dsimp only at h1 h2 h3 got ⊢
    subst h1 h2 h3
    exact ⟨got, rfl, rfl, ho'⟩
/-- e.f -/
def tXfP (C a : Addr) (d : Option Addr) (f : Str) (te : TE) : TE := fun σ H Q => te σ H fun x H1 => x = .ref a ∧ ∃ (dd : Addr) (fs : List (Str × V)) (v : V), d = some dd ∧ H1 dd = some (.xd fs) ∧ fs.lookup f = some v ∧ Q v H1
theorem pe_xfP {C : Addr} {d : Option Addr} {te : TE} {n : Str} (E : ExcP X.K C) (hd : PySem.W.hasDictIn X.K C = true) (hno : PySem.W.findIn X.K (.ref C) n = some none) (ho : HotO C d p) (hp : p ∈ X.pn) (he : PE X e te)
    (hb : attributeBase e n X.env (eval e X.env) = eval e X.env := by rfl) : PE X (.Attribute e n pos) (tXfP C p.1 d n te) := by
  refine ⟨fun pins s σ H Q I h => attr_of hb (thn (he.run pins s σ H _ I h) fun u s1 got => ?_)⟩
  obtain ⟨x, H1, I1, rx, ex, dd, fs, v, ed, ea, l, q⟩ := got
  subst ex ed
  cases (show u = Value.ref p.1 from rx)
  obtain ⟨⟨z1, z2⟩, vs, z3⟩ := ho
  have mine : ObjOk X.prog X.w H1 s1.heap dd (.xd fs) := I1.hok dd _ ea
  obtain ⟨mA, hns, hr⟩ := mine
  obtain ⟨oD, hD, look⟩ := lookIn_ns hns
  obtain ⟨w, hw, rw'⟩ := RelO.some_of (v := v) (o := mA n) (l ▸ hr n)
  have at1 := (I1.pin p (List.mem_append_left _ hp)).1
  have J : PySem.W.InstAt s1.heap p.1 p.2 C (some oD) := by
    refine ⟨at1, z1, ?_, by rw [z2]; exact hD⟩
    unfold PySem.W.notCls
    rw [z3]
  exact HandSPX.exc_get I1.kIn J E.ga E.gt E.sb (PySem.W.findObj_own hd hno rfl (by rw [look, hw])) (handed_of rw') ⟨v, H1, I1.tok _, rw', q⟩
end
section
variable {K : PySem.W.Frag} {R F G H H' : Hp} {ps : List Addr} {ρ ρ' : List Sl} {os os1 os2 os3 : List Ow} {σ : L2.St} {s t : Sl} {d e c : D} {te : TE} {ta tb : TA} {P : Post} {C a dd : Addr} {ns : List Str} {xs : List D}
/-- a class as an argument -/
def clsD : D → Option Value
  | .ty n => some (.type n)
  | .adr a => some (.ref a)
  | _ => none
theorem ev_isP {b : Bool} {cv : Value} (h : EvA K ta ρ os [.fz (.exc a dd ns xs), .fz c] os1) (hc : clsD c = some cv) (hk : PySem.W.kitOne K (.ref C) cv = some b) : Ev K (tCB (rIsP K C a (some dd)) ta) ρ os (.bl b) os1 := fun R F ps σ H Q I q =>
  h R F ps σ H _ I fun vs F1 H1 e1 I1 r1 => by
    obtain ⟨v, w, rfl, r, r'⟩ := two_of r1
    cases r with
    | exc g _ =>
    have hcv : ∀ u, RelV w u → u = cv := fun u ru => by
      cases r' <;> first | (cases hc; done) | (cases hc; exact ru)
    exact ⟨w, cv, b, rfl, hcv, fun z hz => by cases hz; exact ⟨_, I1.hst.sub _ _ g⟩, hk, q _ F1 H1 e1 I1 (.bl b)⟩
/-- the field of a name -/
def fieldD : List Str → List D → Str → Option D
  | n :: ns, x :: xs, f => if f = n then some x else fieldD ns xs f
  | _, _, _ => none
theorem rp_field {f : Str} : ∀ {ns : List Str} {vs : List V} {xs : List D}, RpL K F vs xs → fieldD ns xs f = some d → ∃ v, (ns.zip vs).lookup f = some v ∧ Rp K F v d
  | [], _, _, _, h => by simp [fieldD] at h
  | _ :: _, _, _, .nil, h => by simp [fieldD] at h
  | n :: ns, v :: vs, x :: xs, .cons r t, h => by
    unfold fieldD at h
    rw [List.zip_cons_cons, lookup_put]
    by_cases e : f = n
    · rw [if_pos e] at h ⊢
      cases h
      exact ⟨v, rfl, r⟩
    · rw [if_neg e] at h ⊢
      exact rp_field t h
theorem ev_xfP {f : Str} (h : Ev K te ρ os (.exc a dd ns xs) os1) (hf : fieldD ns xs f = some d) : Ev K (tXfP C a (some dd) f te) ρ os d os1 := fun R F ps σ H Q I q =>
  h R F ps σ H _ I fun v F1 H1 e1 I1 r1 => by
    cases (show Rp K F1 v (.exc a dd ns xs) from r1) with
    | exc g r =>
    obtain ⟨w, hw, rw'⟩ := rp_field r hf
    exact ⟨rfl, dd, _, w, rfl, I1.hst.sub _ _ g, hw, q w F1 H1 e1 I1 rw'⟩
end
end Ly

set_option Elab.async false
set_option linter.all false
set_option autoImplicit false
set_option maxRecDepth 100000
set_option maxHeartbeats 4000000
/-! Lay14: try. -/
namespace Ly
open PySem PySem.Spec PyProof.Rows L2 L2H
section
variable {K : PySem.W.Frag} {R F G H H' : Hp} {ps : List Addr} {ρ ρ' : List Sl} {os os1 os2 os3 : List Ow} {σ : L2.St} {s t : Sl} {d e c : D} {te : TE} {ta tb : TA} {P : Post} {C a dd : Addr} {ns : List Str} {xs : List D}
mutual
theorem Own.atX : ∀ {m : Mk} {v : V} {d : D} {fp : List Addr}, Own K F H m v d fp → ∀ a ∈ fp, ∀ fs, H a ≠ some (.xd fs)
  | _, _, _, _, .fz _, a, h => nomatch h
  | _, _, _, _, .lst h1 _ h3 _, a, h => by
    rcases List.mem_cons.mp h with rfl | h
    · rw [h1]; exact fun _ z => nomatch z
    · exact OwnE.atX h3 a h
  | _, _, _, _, .tup _ _ h3, a, h => OwnE.atX h3 a h
  | _, _, _, _, .dct h1 _ _ h3 _, a, h => by
    rcases List.mem_cons.mp h with rfl | h
    · rw [h1]; exact fun _ z => nomatch z
    · exact OwnE.atX h3 a h
  | _, _, _, _, .dctT h1 _ _ h3 _, a, h => by
    rcases List.mem_cons.mp h with rfl | h
    · rw [h1]; exact fun _ z => nomatch z
    · exact OwnE.atX h3 a h
theorem OwnE.atX : ∀ {ms : List Mk} {vs : List V} {ds : List D} {fp : List Addr}, OwnE K F H ms vs ds fp → ∀ a ∈ fp, ∀ fs, H a ≠ some (.xd fs)
  | _, _, _, _, .nil, a, h => nomatch h
  | _, _, _, _, .cons h1 h2 _, a, h => by
    rcases List.mem_append.mp h with h | h
    · exact Own.atX h1 a h
    · exact OwnE.atX h2 a h
end
/-- an exception's dict is seen from now on -/
theorem Hst.seeX (h : Hst K F R ps os H) {fv : List (Str × V)} (hR : R dd = none) (hH : H dd = some (.xd fv)) : Ex F (upd F dd (.xd fv)) ∧ Hst K (upd F dd (.xd fv)) R ps os H := by
  have e : Ex F (upd F dd (.xd fv)) := fun x o q => by
    by_cases z : x = dd
    · subst z
      have := h.sub _ _ q
      rw [hH] at this
      cases this
      exact upd_same
    · rw [upd_ne z]; exact q
  refine ⟨e, fun x o q => ?_, fun x o q => ?_, h.len, fun i p d h1 h2 => ?_, h.dis, ?_⟩
  · by_cases z : x = dd
    · subst z; rw [upd_same] at q; cases q; exact hH
    · rw [upd_ne z] at q; exact h.sub _ _ q
  · have z : x ≠ dd := fun z => by rw [z, hR] at q; cases q
    rw [upd_ne z]; exact h.oth x o q
  · obtain ⟨q1, q2, w, q3, q4⟩ := h.own i p d h1 h2
    have z : p ≠ dd := fun z => by
      rw [z, hH] at q3; cases q3
      cases q4
    rw [upd_ne z]; exact ⟨q1, q2, w, q3, q4.up e⟩
  · obtain ⟨φ, hφ⟩ := h.dp
    refine ⟨φ, hφ.tr e (fun _ _ _ _ x y => ⟨x, y⟩) fun i x ⟨q, m, d, y1, y2⟩ hx f r n w => ?_⟩
    have z : x ≠ dd := fun z => Own.atX (hφ.ow i q m d y1 y2) x hx fv (z ▸ hH)
    rw [upd_ne z]; exact ⟨f, r, fun _ q => q, w⟩
/-- behind the suite the name is gone -/
abbrev Post.clr (i : Nat) (P : Post) : Post where
  nx := fun ρ2 os2 => P.nx (ρ2.set i .un) os2
  rt := P.rt
  bk := fun ρ2 os2 => P.bk (ρ2.set i .un) os2
  ct := fun ρ2 os2 => P.ct (ρ2.set i .un) os2
theorem run_try {tb : (Value → Option Addr → L2.St → Hp → Prop) → TS} {ts : Addr → Value → Option Addr → TS} {c : Value} {i : Nat} {Wout : Value → Option Addr → L2.St → Hp → Prop} (Y : Addr → List (Str × D) → List Sl → List Ow → Prop)
    (hb : ∀ W, Run K (tb W) ρ os { P with EX := W, ex := Y })
    (hs : ∀ C fs ρ' os', Y C fs ρ' os' → fs ≠ [] ∧ PySem.W.exmOne K (.ref C) c = some true ∧ ∀ (a dd : Addr), Run K (ts a (.ref C) (some dd)) (ρ'.set i (.fz (.exc a dd (fs.map (·.1)) (fs.map (·.2))))) os' (P.clr i)) :
    Run K (fun D σ H => tb (wAs K c i ts Wout D) D σ H) ρ os P := fun R F ps σ H Dn I cn =>
  hb (wAs K c i ts Wout Dn) R F ps σ H Dn I ⟨cn.nx, cn.rt, cn.bk, cn.ct, fun C fs ρ' os' F' ps' σ' d H' e p J xd hx => by
    obtain ⟨hne, hex, hrun⟩ := hs C fs ρ' os' hx
    refine ⟨true, hex, fun _ a ha => ?_, fun z => nomatch z⟩
    rcases xd with ⟨z, _⟩ | ⟨dd, fv, rfl, hR, hH, pr⟩
    · exact absurd z hne
    obtain ⟨e2, J2⟩ := J.hst.seeX hR hH
    have pr2 : fv = (fs.map (·.1)).zip (fv.map (·.2)) ∧ RpL K F' (fv.map (·.2)) (fs.map (·.2)) := by
      clear hrun hne hx hex hH J2 e2
      induction pr with
      | nil => exact ⟨rfl, .nil⟩
      | @cons x y xs ys h t ih =>
        obtain ⟨i1, i2⟩ := ih
        refine ⟨?_, .cons h.2 i2⟩
        rw [List.map_cons, List.map_cons, List.zip_cons_cons, ← i1, ← h.1]
    have r0 : SlR K (upd F' dd (.xd fv)) ps' (some (.ref a)) (.fz (.exc a dd (fs.map (·.1)) (fs.map (·.2)))) := by
      show Rp K (upd F' dd (.xd fv)) (.ref a) (.exc a dd (fs.map (·.1)) (fs.map (·.2)))
      exact Rp.exc (by rw [← pr2.1]; exact upd_same) (pr2.2.up e2)
    have sl := Paired.setR (F := SlR K (upd F' dd (.xd fv)) ps') r0 i (J.sl.up e2 (List.prefix_refl _))
    have un : ∀ {F2 : Hp} {ps2 : List Addr} {ρ2 : List Sl} {os2 : List Ow} {σ2 : L2.St} {H2 : Hp}, St K R F2 ps2 ρ2 os2 σ2 H2 → St K R F2 ps2 (ρ2.set i .un) os2 (σ2.set i none) H2 := fun {F2 ps2 ρ2 os2 σ2 H2} J3 => J3.set i (by unfold SlR; trivial)
    exact hrun a dd R _ ps' _ H' _ ⟨sl, J2⟩ ⟨fun ρ2 os2 F2 ps2 σ2 H2 e3 p3 J3 k => cn.nx _ os2 F2 ps2 _ H2 (e.trans (e2.trans e3)) (p.trans p3) (un J3) k,
      fun s ρ2 os2 F2 ps2 σ2 v H2 e3 p3 J3 r k => cn.rt s ρ2 os2 F2 ps2 σ2 v H2 (e.trans (e2.trans e3)) (p.trans p3) J3 r k,
      fun ρ2 os2 F2 ps2 σ2 H2 e3 p3 J3 k => cn.bk _ os2 F2 ps2 _ H2 (e.trans (e2.trans e3)) (p.trans p3) (un J3) k,
      fun ρ2 os2 F2 ps2 σ2 H2 e3 p3 J3 k => cn.ct _ os2 F2 ps2 _ H2 (e.trans (e2.trans e3)) (p.trans p3) (un J3) k,
      fun _ _ _ _ _ _ _ _ _ _ _ _ _ z => z.elim⟩⟩
/-- a def that is called in a suite, with the exception -/
theorem fn_PR {P : Program} {w : World} {mg : Str → Option Value} {base : Heap} {x qual : Str} {st : Stmt} {f : Addr} {fd : FuncData} {N pars : List Str} {k : Nat} {Rl : Addr → Value → Option Addr → Rel} (Fn : Fun K x qual st f fd) (S : FnScope N pars (defScope st))
    (hl : ∀ a cls d ρ os r os', Rl a cls d ρ os r os' → ρ.length = pars.length ∧ os'.length = os.length ∧ ∃ C dd, cls = .ref C ∧ d = some dd)
    (hbody : ∀ (cdv : Value) (A : Around) (outer : List Env) (s : Shared) (H : Hp) (E : XK) (p : Addr × Obj) (C dd : Addr), Hot1 A p → RoomH k (A.deeper (envOfC qual (defScope st) s.heap.objs.size f cdv)) → HotO C (some dd) p →
      ∀ ρ os r os', Rl p.1 (.ref C) (some dd) ρ os r os' → ∃ t, PSs (cxH CX0 P w K mg base N qual (defScope st) f cdv A outer s H E p) (defBody st) t ∧ Run K t (ρ ++ List.replicate (N.length - pars.length) .un) os (PostR r os' fun cls d _ H' => E cls d H')) :
    FnP P w K mg base (k + 1) f fd pars (fun p => spR K (Rl p.1 p.2.cls p.2.dict)) := by
  have len : ∀ (p : Addr × Obj) vs H Q E, spR K (Rl p.1 p.2.cls p.2.dict) vs H Q E → vs.length = pars.length := fun p vs H Q E h => by
    obtain ⟨R, F, ps, ρ, os, r, os', hR, I, _⟩ := h
    have := Paired.length I.sl
    rw [List.length_map] at this
    rw [this]; exact (hl _ _ _ _ _ _ _ hR).1
  refine fn_P Fn S len fun cdv A outer s H E p vs Q hot room want => ?_
  have hlen := len _ _ _ _ _ want
  obtain ⟨R, F, ps, ρ, os, r, os', hR, I, kq⟩ := want
  obtain ⟨_, l2, C, dd, hC, hd⟩ := hl _ _ _ _ _ _ _ hR
  obtain ⟨_, vs', hv, _⟩ := id hot
  rw [hC, hd] at hR
  obtain ⟨t, ht, hrun⟩ := hbody cdv A outer s H E p C dd hot room ⟨⟨hC, hd⟩, vs', hv⟩ _ _ _ _ hR
  exact ⟨t, ht, run_body I kq hlen l2 hrun⟩
end
end Ly

set_option Elab.async false
set_option linter.all false
set_option autoImplicit false
set_option maxRecDepth 100000
set_option maxHeartbeats 4000000
/-! Lay15: flat items: in, index, count; split. -/
namespace Ly
open PySem PySem.Spec PyProof.Rows L2
/-- ints, truths, texts -/
class Fl (α : Type) [Enc α] [DecidableEq α] where
  vf : α → V
  rp : ∀ {K : PySem.W.Frag} {F : Hp} {v : V} {x : α}, Rp K F v (E x) → v = vf x
  fl : ∀ x : α, flatV (vf x) = true
  eq : ∀ x y : α, eqV (vf x) (vf y) = decide (x = y)
instance : Fl Int := ⟨.int, fun r => by cases r; rfl, fun _ => rfl, fun x y => by show (x == y) = _; by_cases h : x = y <;> simp [h]⟩
instance : Fl Bool := ⟨.bl, fun r => by cases r; rfl, fun _ => rfl, fun x y => by show (x == y) = _; by_cases h : x = y <;> simp [h]⟩
instance : Fl Str := ⟨.str, fun r => by cases r; rfl, fun _ => rfl, fun x y => by show (x == y) = _; by_cases h : x = y <;> simp [h]⟩
section
variable {K : PySem.W.Frag} {R F G H H' : Hp} {ps : List Addr} {ρ ρ' : List Sl} {os os1 os2 os3 : List Ow} {σ : L2.St} {s t : Sl} {d e c : D} {te ta tb : TE} {P : Post}
variable {α : Type} [Enc α] [DecidableEq α] [Fl α]
theorem rpl_fl : ∀ {xs : List α} {vs : List V}, RpL K F vs (xs.map E) → vs = xs.map Fl.vf
  | [], _, .nil => rfl
  | x :: xs, _, .cons h r => by rw [Fl.rp h, rpl_fl r]; rfl
theorem all_fl : ∀ xs : List α, (xs.map (Fl.vf : α → V)).all flatV = true
  | [] => rfl
  | x :: xs => by rw [List.map_cons, List.all_cons, Fl.fl, all_fl xs]; rfl
theorem in_fl (x : α) : ∀ xs : List α, inV (Fl.vf x) (xs.map Fl.vf) = decide (x ∈ xs)
  | [] => rfl
  | y :: ys => by
    have ih := in_fl x ys
    unfold inV at ih ⊢
    rw [List.map_cons, List.any_cons, ih, Fl.eq]
    by_cases h : y = x
    · subst h; simp
    · have h' : ¬ x = y := fun z => h z.symm
      simp [h, h']
/-- x in a list, a tuple -/
theorem ev_inFl {x : α} {xs : List α} {neg : Bool} (ha : Ev K ta ρ os (E x) os1) (hb : EvS K tb ρ os1 s os2) (k : Look os2 s (.lst (xs.map E)) ∨ Look os2 s (.tup (xs.map E))) :
    Ev K (tOp (rIn K neg) ta tb) ρ os (.bl (if neg = true then !decide (x ∈ xs) else decide (x ∈ xs))) os2 := fun R F ps σ H Q I q =>
  ha R F ps σ H _ I fun v F1 H1 e1 I1 r1 => hb R F1 ps σ H1 _ I1 fun w F2 H2 e2 I2 r2 => by
    have hv := Fl.rp (K := K) (show Rp K F1 v (E x) from r1)
    subst hv
    have go : ∀ {a : Addr} {ys : List V}, w = .ref a → (SqL K H2 a ys ∨ SqT K H2 a ys) → RpL K F2 ys (xs.map E) → rIn K neg (Fl.vf x) w H2 Q := fun {a ys} hw h1 h2 => by
      rw [rpl_fl h2] at h1
      refine ⟨a, _, hw, h1, Fl.fl x, all_fl xs, ?_⟩
      rw [in_fl]
      exact q _ F2 H2 (e1.trans e2) I2 (.bl _)
    rcases k with k | k
    · obtain ⟨a, ys, rfl, h1, h2⟩ := I2.seeL r2 k
      exact go rfl (.inl h1) h2
    · obtain ⟨a, ys, rfl, h1, h2⟩ := I2.seeT r2 k
      exact go rfl (.inr h1) h2
/-- xs.index(x) -/
def idxL (xs : List α) (x : α) : Option Int := (xs.findIdx? fun y => decide (y = x)).map fun (i : Nat) => (i : Int)
theorem ev_idxFl {x : α} {xs : List α} {n : Int} (ha : EvS K ta ρ os s os) (k0 : ∃ ds, Look os s (.lst ds)) (hb : Ev K tb ρ os (E x) os1) (k : Look os1 s (E xs)) (hn : idxL xs x = some n) :
    Ev K (tBM K "list" (rIndex K) ta (tCons tb tNil)) ρ os (.int n) os1 := fun R F ps σ H Q I q =>
  ha R F ps σ H _ I fun v F1 H1 e1 I1 r1 => by
    obtain ⟨ds0, k0⟩ := k0
    obtain ⟨a0, ys0, rfl, h0, _⟩ := I1.seeL r1 k0
    refine ⟨.inl ⟨rfl, ys0, h0⟩, hb R F1 ps σ H1 _ I1 fun w F2 H2 e2 I2 r2 => ?_⟩
    have hv := Fl.rp (K := K) (show Rp K F2 w (E x) from r2)
    subst hv
    obtain ⟨a, ys, ea, h1, h2⟩ := I2.seeL (SlR.up e2 (List.prefix_refl _) r1) k
    cases ea
    rw [rpl_fl h2] at h1
    obtain ⟨i, hi, rfl⟩ := Option.map_eq_some_iff.mp hn
    obtain ⟨hlt, hi1, hi2⟩ := List.findIdx?_eq_some_iff_getElem.mp hi
    refine ⟨a0, _, _, i, Fl.vf xs[i], rfl, rfl, h1, Fl.fl x, all_fl xs, by rw [List.getElem?_map, List.getElem?_eq_getElem hlt]; rfl, ?_, fun m z' hm hz => ?_, q _ F2 H2 (e1.trans e2) I2 (.int _)⟩
    · rw [Fl.eq]; simpa using hi1
    · rw [List.getElem?_map] at hz
      obtain ⟨y, hy, rfl⟩ := Option.map_eq_some_iff.mp hz
      obtain ⟨l1, l2⟩ := List.getElem?_eq_some_iff.mp hy
      have := hi2 m hm
      rw [Fl.eq, decide_eq_false]
      intro z
      rw [l2, z] at this
      simp at this
end
/-- fits.count(True) -/
def rCntB (K : PySem.W.Frag) : V → List V → Hp → VK → Prop := fun x xs H Q => ∃ (p : Addr) (bs : List Bool) (b : Bool), x = .ref p ∧ xs = [.bl b] ∧ SqL K H p (bs.map V.bl) ∧ Q (.int ((bs.countP fun y => decide (y = b) : Nat) : Int)) H
theorem hold_bools {h : Heap} : ∀ {bs : List Bool} {us : List Value}, Vals (bs.map V.bl) us → PySem.W.HoldAll h us bs
  | [], _, r => by cases r; exact PySem.W.HoldAll.nil
  | b :: bs, _, r => by
    cases r with
    | cons r t =>
      cases r
      exact PySem.W.HoldAll.cons (PySem.W.holds_bool b) (hold_bools t)
theorem mt_countB {X : Cx} (hu : X.A.units + 64 < cLine) : MtR X "list.count" (rCntB X.K) := by
  intro pins s σ H x xs v us Q I rx rxs h
  obtain ⟨p, bs, b, rfl, rfl, hs, q⟩ := h
  cases rx
  obtain ⟨u, rfl, ru⟩ := rxs.one
  cases ru
  obtain ⟨its, rv, pl, _⟩ := I.list hs
  refine PySem.W.count_list_datum pl.isList (hold_bools rv) (PySem.W.holds_bool b) ?_ ⟨.int ((bs.countP fun y => decide (y = b) : Nat) : Int), H, I.tok _, ⟨_, rfl⟩, q⟩
  have : PySem.W.Datum.depth Bool = 0 := rfl
  omega
section
variable {K : PySem.W.Frag} {ρ : List Sl} {os os1 os2 : List Ow} {s : Sl} {ta tb : TE}
theorem ev_cntB {bs : List Bool} {b : Bool} (ha : EvS K ta ρ os s os) (k0 : ∃ ds, Look os s (.lst ds)) (hb : Ev K tb ρ os (.bl b) os1) (k : Look os1 s (E bs)) :
    Ev K (tBM K "list" (rCntB K) ta (tCons tb tNil)) ρ os (.int ((bs.countP fun y => decide (y = b) : Nat) : Int)) os1 := fun R F ps σ H Q I q =>
  ha R F ps σ H _ I fun v F1 H1 e1 I1 r1 => by
    obtain ⟨ds0, k0⟩ := k0
    obtain ⟨a0, ys0, rfl, h0, _⟩ := I1.seeL r1 k0
    refine ⟨.inl ⟨rfl, ys0, h0⟩, hb R F1 ps σ H1 _ I1 fun w F2 H2 e2 I2 r2 => ?_⟩
    cases (show Rp K F2 w (.bl b) from r2)
    obtain ⟨a, ys, ea, h1, h2⟩ := I2.seeL (SlR.up e2 (List.prefix_refl _) r1) k
    cases ea
    rw [rpl_fl h2] at h1
    exact ⟨a0, bs, b, rfl, rfl, h1, q _ F2 H2 (e1.trans e2) I2 (.int _)⟩
end
end Ly

set_option Elab.async false
set_option linter.all false
set_option autoImplicit false
set_option maxRecDepth 100000
set_option maxHeartbeats 4000000
/-! Lay16: what is deep of one's own: read, changed, made. -/
namespace Ly
open PySem PySem.Spec PyProof.Rows L2
section
variable {K : PySem.W.Frag} {R F G H H' : Hp} {ps : List Addr} {ρ ρ' : List Sl} {os os1 os2 os3 : List Ow} {σ : L2.St} {s t : Sl} {d e c : D} {te ta tb : TE} {P : Post}
theorem OwnE.lens : ∀ {ms : List Mk} {vs : List V} {ds : List D} {fp : List Addr}, OwnE K F H ms vs ds fp → ms.length = vs.length ∧ vs.length = ds.length
  | _, _, _, _, .nil => ⟨rfl, rfl⟩
  | _, _, _, _, .cons _ r _ => by
    obtain ⟨h1, h2⟩ := OwnE.lens r
    exact ⟨congrArg (· + 1) h1, congrArg (· + 1) h2⟩
/-- a part, and the whole when it is another -/
theorem OwnE.part : ∀ {ms : List Mk} {vs : List V} {ds : List D} {fp : List Addr} {j : Nat} {m : Mk} {d : D}, OwnE K F H ms vs ds fp → ms[j]? = some m → ds[j]? = some d →
    ∃ v fj, vs[j]? = some v ∧ Own K F H m v d fj ∧ (∀ a ∈ fj, a ∈ fp) ∧ ∀ {F' H' : Hp} {d' : D} {fj' : List Addr}, Ex F F' → (∀ a ∈ fp, a ∉ fj → ∀ o, H a = some o → H' a = some o) → Own K F' H' m v d' fj' → (∀ a ∈ fj', a ∈ fj ∨ a ∉ fp) →
      ∃ fp', OwnE K F' H' ms vs (ds.set j d') fp' ∧ ∀ a ∈ fp', a ∈ fp ∨ a ∈ fj'
  | _, _, _, _, _, _, _, .nil, h, _ => by simp at h
  | _, _, _, _, 0, _, _, .cons (fp := fp) (fq := fq) o r dj, h1, h2 => by
    simp at h1 h2
    subst h1; subst h2
    refine ⟨_, fp, rfl, o, fun a ha => List.mem_append_left _ ha, fun {F' H' d' fj'} e k o' n => ?_⟩
    refine ⟨fj' ++ fq, .cons o' (OwnE.tr e r fun a ha => k a (List.mem_append_right _ ha) fun z => dj a z ha) fun a ha hq => ?_, fun a ha => ?_⟩
    · rcases n a ha with z | z
      · exact dj a z hq
      · exact z (List.mem_append_right _ hq)
    · rcases List.mem_append.mp ha with z | z
      · exact .inr z
      · exact .inl (List.mem_append_right _ z)
  | _, _, _, _, j + 1, _, _, .cons (fp := fp) (fq := fq) o r dj, h1, h2 => by
    obtain ⟨v, fj, hv, oj, sub, rep⟩ := OwnE.part r (j := j) (by simpa using h1) (by simpa using h2)
    refine ⟨v, fj, by simpa using hv, oj, fun a ha => List.mem_append_right _ (sub a ha), fun {F' H' d' fj'} e k o' n => ?_⟩
    obtain ⟨fp', h3, h4⟩ := rep e (fun a ha => k a (List.mem_append_right _ ha)) o' fun a ha => by
      rcases n a ha with z | z
      · exact .inl z
      · exact .inr fun y => z (List.mem_append_right _ y)
    refine ⟨fp ++ fp', .cons (Own.tr e o fun a ha => k a (List.mem_append_left _ ha) fun z => dj a ha (sub a z)) h3 fun a ha hq => ?_, fun a ha => ?_⟩
    · rcases h4 a hq with z | z
      · exact dj a ha z
      · rcases n a z with y | y
        · exact dj a ha (sub a y)
        · exact y (List.mem_append_left _ ha)
    · rcases List.mem_append.mp ha with z | z
      · exact .inl (List.mem_append_left _ z)
      · rcases h4 a z with y | y
        · exact .inl (List.mem_append_right _ y)
        · exact .inr y
/-- a list's items of no parts of one's own -/
theorem OwnE.flat : ∀ {n : Nat} {vs : List V} {ds : List D} {fp : List Addr}, OwnE K F H (List.replicate n .fz) vs ds fp → RpL K F vs ds ∧ fp = []
  | 0, _, _, _, .nil => ⟨.nil, rfl⟩
  | n + 1, _, _, _, .cons o r _ => by
    obtain ⟨h1, h2⟩ := OwnE.flat (n := n) r
    cases o with
    | fz q => exact ⟨.cons q h1, by rw [h2]; rfl⟩
    | lst _ h => cases h
    | tup _ h => cases h
    | dct _ h => cases h
    | dctT _ h => cases h
theorem OwnE.ofFlat : ∀ {vs : List V} {ds : List D}, RpL K F vs ds → OwnE K F H (List.replicate vs.length .fz) vs ds []
  | _, _, .nil => .nil
  | _, _, .cons h r => .cons (fp := []) (fq := []) (.fz h) (OwnE.ofFlat r) (fun _ z => nomatch z)
/-- a flat list of one's own -/
theorem Own.flatL {p : Addr} {ds : List D} {fp : List Addr} (o : Own K F H (.all .fz) (.ref p) (.lst ds) fp) : ∃ xs, H p = some (.lst xs) ∧ RpL K F xs ds ∧ fp = [p] := by
  cases o with
  | @lst _ ms _ xs _ fq h1 h2 h3 h4 =>
    cases h2
    obtain ⟨r, e⟩ := OwnE.flat h3
    exact ⟨xs, h1, r, by rw [e]⟩
theorem Own.mkFlatL {p : Addr} {xs : List V} {ds : List D} (h : H p = some (.lst xs)) (r : RpL K F xs ds) : Own K F H (.all .fz) (.ref p) (.lst ds) [p] :=
  .lst h rfl (OwnE.ofFlat r) (fun z => nomatch z)
/-- while its parts are held -/
theorem Hst.hold (h : Hst K F R ps os H) {i : Nat} {p : Addr} {m : Mk} (hp : ps[i]? = some p) (hd : os[i]? = some (.deep m d)) : ∃ fp, Own K F H m (.ref p) d fp ∧ ∃ R', (∀ a ∈ fp, R' a = H a) ∧ Hst K F R' ps (os.set i .gone) H ∧
    ∀ {F' H' H2 : Hp} {os' : List Ow} {m' : Mk} {d' : D} {fp' : List Addr}, Ex F F' → Hst K F' R' ps os' H' → (∀ a, a ∉ fp → ∀ o, H' a = some o → H2 a = some o) → Own K F' H2 m' (.ref p) d' fp' → (∀ a ∈ fp', a ∈ fp) → i < os'.length → Hst K F' R ps (os'.set i (.deep m' d')) H2 := by
  classical
  obtain ⟨φ, hφ⟩ := h.dp
  have o := hφ.ow i p m d hp hd
  have fr := hφ.fr i p m d hp hd
  refine ⟨φ i, o, fun a => if a ∈ φ i then H a else R a, fun a ha => if_pos ha, ⟨h.sub, fun a u q => ?_, by rw [List.length_set]; exact h.len, fun j a e h1 h2 => ?_, fun j k a h1 h2 ⟨d1, h3⟩ ⟨d2, h4⟩ => ?_, φ, ?_⟩, ?_⟩
  · by_cases z : a ∈ φ i
    · simp only [z, if_true] at q
      obtain ⟨o', ho, hn⟩ := Own.at o a z
      rw [ho] at q; cases q
      exact ⟨(fr a z).1, ho, hn⟩
    · simp only [z, if_false] at q
      exact h.oth a u q
  · by_cases z : j = i
    · subst z
      rw [List.getElem?_set_self (by rw [← h.len]; exact (List.getElem?_eq_some_iff.mp hp).1)] at h2
      cases h2
    · rw [List.getElem?_set_ne (Ne.symm z)] at h2
      obtain ⟨q1, q2, q3⟩ := h.own j a e h1 h2
      have na : a ∉ φ i := fun y => (fr a y).2.2 j a e h1 h2 rfl
      exact ⟨q1, by simp only [na, if_false]; exact q2, q3⟩
  · have g : ∀ {j : Nat} {d2 : D}, (os.set i Ow.gone)[j]? = some (Ow.has d2) → os[j]? = some (Ow.has d2) := fun {j d2} q => by
      by_cases z : j = i
      · subst z
        rw [List.getElem?_set_self (by rw [← h.len]; exact (List.getElem?_eq_some_iff.mp hp).1)] at q
        cases q
      · rwa [List.getElem?_set_ne (Ne.symm z)] at q
    exact h.dis j k a h1 h2 ⟨d1, g h3⟩ ⟨d2, g h4⟩
  · have g : ∀ {j : Nat} {m2 : Mk} {d2 : D}, (os.set i Ow.gone)[j]? = some (Ow.deep m2 d2) → j ≠ i ∧ os[j]? = some (Ow.deep m2 d2) := fun {j m2 d2} q => by
      by_cases z : j = i
      · subst z
        rw [List.getElem?_set_self (by rw [← h.len]; exact (List.getElem?_eq_some_iff.mp hp).1)] at q
        cases q
      · rw [List.getElem?_set_ne (Ne.symm z)] at q; exact ⟨z, q⟩
    have g' : ∀ {j : Nat} {d2 : D}, (os.set i Ow.gone)[j]? = some (Ow.has d2) → os[j]? = some (Ow.has d2) := fun {j d2} q => by
      by_cases z : j = i
      · subst z
        rw [List.getElem?_set_self (by rw [← h.len]; exact (List.getElem?_eq_some_iff.mp hp).1)] at q
        cases q
      · rwa [List.getElem?_set_ne (Ne.symm z)] at q
    refine ⟨fun j q m2 d2 x y => hφ.ow j q m2 d2 x (g y).2, fun j q m2 d2 x y a ha => ?_, fun j k q q' m1 m2 d1 d2 hne x y x' y' => hφ.dj j k q q' m1 m2 d1 d2 hne x y (g x').2 (g y').2⟩
    obtain ⟨f, r, w⟩ := hφ.fr j q m2 d2 x (g y).2 a ha
    have na : a ∉ φ i := hφ.dj j i q p m2 m d2 d (g y).1 x hp (g y).2 hd a ha
    exact ⟨f, by simp only [na, if_false]; exact r, fun j' q' e' x' y' => w j' q' e' x' (g' y')⟩
  · intro F' H' H2 os' m' d' fp' e J k o' sub hi
    obtain ⟨ψ, hψ⟩ := J.dp
    have nl : os'.length = ps.length := J.len.symm
    have inF : ∀ {a : Addr}, a ∈ φ i → F' a = none ∧ ∀ o, H a = some o → H' a = some o := fun {a} ha => by
      obtain ⟨u, hu, _⟩ := Own.at o a ha
      obtain ⟨z1, z2, _⟩ := J.oth a u (by simp only [ha, if_true]; exact hu)
      exact ⟨z1, fun o ho => by rw [hu] at ho; cases ho; exact z2⟩
    have noR : ∀ {a : Addr}, a ∈ φ i → (if a ∈ φ i then H a else R a) ≠ none := fun {a} ha => by
      obtain ⟨u, hu, _⟩ := Own.at o a ha
      rw [if_pos ha, hu]; exact fun z => nomatch z
    have out : ∀ {a : Addr}, (if a ∈ φ i then H a else R a) = none → a ∉ φ i ∧ R a = none := fun {a} q => by
      by_cases z : a ∈ φ i
      · exact absurd q (noR z)
      · rw [if_neg z] at q; exact ⟨z, q⟩
    have gs : ∀ {j : Nat} {w : Ow}, (os'.set i (Ow.deep m' d'))[j]? = some w → (j = i ∧ w = .deep m' d') ∨ (j ≠ i ∧ os'[j]? = some w) := fun {j w} q => by
      by_cases z : j = i
      · subst z
        rw [List.getElem?_set_self hi] at q
        exact .inl ⟨rfl, (Option.some.inj q).symm⟩
      · rw [List.getElem?_set_ne (Ne.symm z)] at q; exact .inr ⟨z, q⟩
    refine ⟨fun a u q => k a (fun z => by rw [(inF z).1] at q; cases q) u (J.sub a u q), fun a u q => ?_, by rw [List.length_set]; exact J.len, fun j a e2 h1 h2 => ?_, fun j k2 a h1 h2 ⟨d1, h3⟩ ⟨d2, h4⟩ => ?_, fun j => if j = i then fp' else ψ j, ⟨fun j a m2 d2 h1 h2 => ?_, fun j a m2 d2 h1 h2 b hb => ?_, fun j k2 a b m1 m2 d1 d2 hne h1 h2 h3 h4 x hx hy => ?_⟩⟩
    · have na : a ∉ φ i := fun z => by rw [(fr a z).2.1] at q; cases q
      obtain ⟨z1, z2, z3⟩ := J.oth a u (by simp only [na, if_false]; exact q)
      exact ⟨z1, k a na u z2, z3⟩
    · rcases gs h2 with ⟨_, z⟩ | ⟨_, z⟩
      · cases z
      · obtain ⟨q1, q2, w, q3, q4⟩ := J.own j a e2 h1 z
        obtain ⟨na, r⟩ := out q2
        exact ⟨q1, r, w, k a na w q3, q4⟩
    · rcases gs h3 with ⟨_, z⟩ | ⟨_, z⟩
      · cases z
      · rcases gs h4 with ⟨_, y⟩ | ⟨_, y⟩
        · cases y
        · exact J.dis j k2 a h1 h2 ⟨_, z⟩ ⟨_, y⟩
    · show Own K F' H2 m2 (.ref a) d2 (if j = i then fp' else ψ j)
      rcases gs h2 with ⟨z, y⟩ | ⟨z, y⟩
      · cases y
        subst z
        rw [hp] at h1; cases h1
        rw [if_pos rfl]; exact o'
      · rw [if_neg z]
        exact Own.tr (Ex.refl _) (hψ.ow j a m2 d2 h1 y) fun b hb o ho => k b (out (hψ.fr j a m2 d2 h1 y b hb).2.1).1 o ho
    · have hb : b ∈ (if j = i then fp' else ψ j) := hb
      rcases gs h2 with ⟨z, y⟩ | ⟨z, y⟩
      · rw [if_pos z] at hb
        have hb := sub b hb
        refine ⟨(inF hb).1, (fr b hb).2.1, fun j' q' e' x y' => ?_⟩
        rcases gs y' with ⟨_, y2⟩ | ⟨_, y2⟩
        · cases y2
        · exact fun z => (out (J.own j' q' e' x y2).2.1).1 (z ▸ hb)
      · rw [if_neg z] at hb
        obtain ⟨f, r, w⟩ := hψ.fr j a m2 d2 h1 y b hb
        refine ⟨f, (out r).2, fun j' q' e' x y' => ?_⟩
        rcases gs y' with ⟨_, y2⟩ | ⟨_, y2⟩
        · cases y2
        · exact w j' q' e' x y2
    · have hx : x ∈ (if j = i then fp' else ψ j) := hx
      have hy : x ∈ (if k2 = i then fp' else ψ k2) := hy
      rcases gs h3 with ⟨z, y⟩ | ⟨z, y⟩ <;> rcases gs h4 with ⟨z', y'⟩ | ⟨z', y'⟩
      · exact hne (z.trans z'.symm)
      · rw [if_pos z] at hx; rw [if_neg z'] at hy
        exact (out (hψ.fr k2 b m2 d2 h2 y' x hy).2.1).1 (sub x hx)
      · rw [if_neg z] at hx; rw [if_pos z'] at hy
        exact (out (hψ.fr j a m1 d1 h1 y x hx).2.1).1 (sub x hy)
      · rw [if_neg z] at hx; rw [if_neg z'] at hy
        exact hψ.dj j k2 a b m1 m2 d1 d2 hne h1 h2 y y' x hx hy
/-- x[j].append(e), x[j] a flat list -/
def dAppC (m : Mk) (d : D) (j : Int) (x : D) : Option D := match d with
  | .lst ds => (mks m ds.length).bind fun ms => (ixN ds.length j).bind fun k => match ms[k]?, ds[k]? with
    | some (.all .fz), some (.lst es) => if es.length < LIM then some (.lst (ds.set k (.lst (es ++ [x])))) else none
    | _, _ => none
  | _ => none
theorem dAppC_some {m : Mk} {d d' x : D} {j : Int} (h : dAppC m d j x = some d') : ∃ ds ms k es, d = .lst ds ∧ mks m ds.length = some ms ∧ ixN ds.length j = some k ∧ ms[k]? = some (.all .fz) ∧ ds[k]? = some (.lst es) ∧ es.length < LIM ∧ d' = .lst (ds.set k (.lst (es ++ [x]))) := by
  unfold dAppC at h
  cases d <;> first | (cases h; done) | skip
  rename_i ds
  obtain ⟨ms, h1, h⟩ := Option.bind_eq_some_iff.mp h
  obtain ⟨k, h2, h⟩ := Option.bind_eq_some_iff.mp h
  split at h
  · rename_i h3 h4
    split at h
    · rename_i h5
      cases h
      exact ⟨ds, ms, k, _, rfl, h1, h2, h3, h4, h5, rfl⟩
    · cases h
  · cases h
theorem ev_appC {v i : Nat} {m : Mk} {d d' x : D} {j : Int} {tj : TE} (hv : ρ[v]? = some (.at i)) (hd : os[i]? = some (.deep m d)) (hj : Ev K tj ρ (os.set i .gone) (.int j) (os.set i .gone)) (hb : Ev K tb ρ (os.set i .gone) x (os.set i .gone)) (h : dAppC m d j x = some d') :
    Ev K (tBM K "list" rAppend (tOp (rIxL K) (tVar v) tj) (tCons tb tNil)) ρ os .non (os.set i (.deep m d')) := fun R F ps σ H Q I q => by
  obtain ⟨ds, ms, k, es, rfl, hm, hk, hmk, hdk, hz, rfl⟩ := dAppC_some h
  obtain ⟨p, hs, hp⟩ := I.at hv
  obtain ⟨fp, o, R', hR', J, back⟩ := I.hst.hold hp hd
  have I' : St K R' F ps ρ (os.set i .gone) σ H := ⟨I.sl, J⟩
  have hi : i < os.length := (List.getElem?_eq_some_iff.mp hd).1
  cases o with
  | fz _ => cases hm
  | @lst _ ms' _ xs _ fq h1 h2 h3 h4 =>
  have hl := (OwnE.lens h3).2
  rw [hl] at h2
  rw [hm] at h2
  cases h2
  obtain ⟨u, fj, hu, oj, sub, rep⟩ := OwnE.part h3 hmk hdk
  obtain ⟨q1, rfl⟩ : ∃ q1, u = .ref q1 := by
    cases oj with
    | lst _ _ _ _ => exact ⟨_, rfl⟩
  obtain ⟨ys, hy, ry, rfl⟩ := Own.flatL oj
  have mq : q1 ∈ fq := sub q1 (List.mem_singleton.mpr rfl)
  have npq : p ≠ q1 := fun z => h4 (z ▸ mq)
  have stay : ∀ {F2 H2 : Hp}, St K R' F2 ps ρ (os.set i .gone) σ H2 → ∀ a ∈ p :: fq, ∀ w, H a = some w → H2 a = some w := fun {F2 H2} I2 a ha w hw => (I2.hst.oth a w (by rw [hR' a ha]; exact hw)).2.1
  refine ⟨_, hs, hj R' F ps σ H _ I' fun w F1 H1 e1 I1 r1 => ?_⟩
  cases (show Rp K F1 w (.int j) from r1)
  have at1 : atI xs j = some (.ref q1) := by
    unfold atI
    rw [hl, hk]
    exact hu
  refine ⟨p, xs, j, .ref q1, rfl, rfl, .inl (.inl (stay I1 p (List.mem_cons_self ..) _ h1)), at1, ?_⟩
  refine ⟨.inl ⟨rfl, ys, .inl (.inl (stay I1 q1 (List.mem_cons_of_mem _ mq) _ hy))⟩, hb R' F1 ps σ H1 _ I1 fun w2 F2 H2 e2 I2 r2 => ?_⟩
  refine ⟨q1, ys, w2, rfl, rfl, stay I2 q1 (List.mem_cons_of_mem _ mq) _ hy, by rw [ry.length]; exact hz, q .non F2 _ (e1.trans e2) ⟨I2.sl, ?_⟩ .non⟩
  have e12 := e1.trans e2
  obtain ⟨fr, orr, sr⟩ := rep (F' := F2) (H' := upd H2 q1 (.lst (ys ++ [w2]))) (d' := .lst (es ++ [x])) (fj' := [q1]) e12
    (fun a ha hna w hw => by
      have : a ≠ q1 := fun z => hna (by rw [z]; exact List.mem_singleton.mpr rfl)
      rw [upd_ne this]
      exact stay I2 a (List.mem_cons_of_mem _ ha) w hw)
    (Own.mkFlatL upd_same ((RpL.up e12 ry).app (.cons r2 .nil))) (fun a ha => .inl ha)
  have srq : ∀ a ∈ fr, a ∈ fq := fun a ha => by
    rcases sr a ha with z | z
    · exact z
    · rw [List.mem_singleton.mp z]; exact mq
  have fin := back (F' := F2) (H' := H2) (H2 := upd H2 q1 (.lst (ys ++ [w2]))) (os' := os.set i .gone) (m' := m) (d' := .lst (ds.set k (.lst (es ++ [x])))) (fp' := p :: fr) e12 I2.hst
    (fun a ha w hw => by
      have : a ≠ q1 := fun z => ha (by rw [z]; exact List.mem_cons_of_mem _ mq)
      rw [upd_ne this]; exact hw)
    (.lst (by rw [upd_ne npq]; exact stay I2 p (List.mem_cons_self ..) _ h1) (by rw [hl]; exact hm) orr (fun z => h4 (srq p z)))
    (fun a ha => by
      rcases List.mem_cons.mp ha with rfl | z
      · exact List.mem_cons_self ..
      · exact List.mem_cons_of_mem _ (srq a z))
    (by rw [List.length_set]; exact hi)
  rwa [List.set_set] at fin
end
end Ly

set_option Elab.async false
set_option linter.all false
set_option autoImplicit false
set_option maxRecDepth 100000
set_option maxHeartbeats 4000000
/-! Lay17: what is deep of one's own is made. -/
namespace Ly
open PySem PySem.Spec PyProof.Rows L2
section
variable {K : PySem.W.Frag} {R F G H H' : Hp} {ps : List Addr} {ρ ρ' : List Sl} {os os1 os2 os3 : List Ow} {σ : L2.St} {s t : Sl} {d e c : D} {te ta tb : TE} {P : Post} {m : Mk}
/-- a new thing, deep of one's own -/
def EvD (K : PySem.W.Frag) (te : TE) (ρ : List Sl) (os : List Ow) (m : Mk) (d : D) (os' : List Ow) : Prop :=
  ∀ (R F : Hp) (ps : List Addr) (σ : L2.St) (H : Hp) (Q : VK), St K R F ps ρ os σ H → (∀ p F' H', Ex F F' → St K R F' (ps ++ [p]) ρ (os' ++ [.deep m d]) σ H' → St K R F' ps ρ os' σ H' → Q (.ref p) H') → te σ H Q
/-- a flat list of one's own, seen so -/
theorem Hst.deepen {i : Nat} {p : Addr} {es : List D} (h : Hst K F R ps os H) (hp : ps[i]? = some p) (hd : os[i]? = some (.has (.lst es))) : Hst K F R ps (os.set i (.deep (.all .fz) (.lst es))) H := by
  obtain ⟨φ, hφ⟩ := h.dp
  obtain ⟨f, r, o, ho, hr⟩ := h.own i p _ hp hd
  have hi : i < os.length := (List.getElem?_eq_some_iff.mp hd).1
  cases hr with
  | @lst xs _ hr =>
  have gs : ∀ {j : Nat} {w : Ow}, (os.set i (Ow.deep (.all .fz) (.lst es)))[j]? = some w → (j = i ∧ w = .deep (.all .fz) (.lst es)) ∨ (j ≠ i ∧ os[j]? = some w) := fun {j w} q => by
    by_cases z : j = i
    · subst z
      rw [List.getElem?_set_self hi] at q
      exact .inl ⟨rfl, (Option.some.inj q).symm⟩
    · rw [List.getElem?_set_ne (Ne.symm z)] at q; exact .inr ⟨z, q⟩
  refine ⟨h.sub, h.oth, by rw [List.length_set]; exact h.len, fun j a e h1 h2 => ?_, fun j k a h1 h2 ⟨d1, h3⟩ ⟨d2, h4⟩ => ?_, fun j => if j = i then [p] else φ j, ⟨fun j a m2 d2 h1 h2 => ?_, fun j a m2 d2 h1 h2 b hb => ?_, fun j k a b m1 m2 d1 d2 hne h1 h2 h3 h4 x hx hy => ?_⟩⟩
  · rcases gs h2 with ⟨_, z⟩ | ⟨_, z⟩
    · cases z
    · exact h.own j a e h1 z
  · rcases gs h3 with ⟨_, z⟩ | ⟨_, z⟩
    · cases z
    · rcases gs h4 with ⟨_, y⟩ | ⟨_, y⟩
      · cases y
      · exact h.dis j k a h1 h2 ⟨_, z⟩ ⟨_, y⟩
  · show Own K F H m2 (.ref a) d2 (if j = i then [p] else φ j)
    rcases gs h2 with ⟨z, y⟩ | ⟨z, y⟩
    · cases y
      subst z
      rw [hp] at h1; cases h1
      rw [if_pos rfl]
      exact Own.mkFlatL ho hr
    · rw [if_neg z]
      exact hφ.ow j a m2 d2 h1 y
  · have hb : b ∈ (if j = i then [p] else φ j) := hb
    rcases gs h2 with ⟨z, y⟩ | ⟨z, y⟩
    · rw [if_pos z] at hb
      cases List.mem_singleton.mp hb
      refine ⟨f, r, fun j' q' e' x y' => ?_⟩
      rcases gs y' with ⟨_, y2⟩ | ⟨nz, y2⟩
      · cases y2
      · exact fun z' => nz (h.dis j' i q' x (z' ▸ hp) ⟨_, y2⟩ ⟨_, hd⟩)
    · rw [if_neg z] at hb
      obtain ⟨f', r', w⟩ := hφ.fr j a m2 d2 h1 y b hb
      refine ⟨f', r', fun j' q' e' x y' => ?_⟩
      rcases gs y' with ⟨_, y2⟩ | ⟨_, y2⟩
      · cases y2
      · exact w j' q' e' x y2
  · have hx : x ∈ (if j = i then [p] else φ j) := hx
    have hy : x ∈ (if k = i then [p] else φ k) := hy
    rcases gs h3 with ⟨z, y⟩ | ⟨z, y⟩ <;> rcases gs h4 with ⟨z', y'⟩ | ⟨z', y'⟩
    · exact hne (z.trans z'.symm)
    · rw [if_pos z] at hx; rw [if_neg z'] at hy
      cases List.mem_singleton.mp hx
      exact (hφ.fr k b m2 d2 h2 y' _ hy).2.2 i _ _ hp hd rfl
    · rw [if_neg z] at hx; rw [if_pos z'] at hy
      cases List.mem_singleton.mp hy
      exact (hφ.fr j a m1 d1 h1 y _ hx).2.2 i _ _ hp hd rfl
    · rw [if_neg z] at hx; rw [if_neg z'] at hy
      exact hφ.dj j k a b m1 m2 d1 d2 hne h1 h2 y y' x hx hy
theorem ed_ofN {es : List D} (h : EvN K te ρ os (.lst es) os1) : EvD K te ρ os (.all .fz) (.lst es) os1 := fun R F ps σ H Q I q => h R F ps σ H _ I fun p F1 H1 e1 I1 I2 => by
  have hl : ps.length = os1.length := I2.hst.len
  have J := I1.hst.deepen (i := ps.length) (p := p) (es := es) (by simp) (by rw [hl]; simp)
  rw [hl, List.set_append_right _ _ (Nat.le_refl _), Nat.sub_self] at J
  exact q p F1 H1 e1 ⟨I1.sl, J⟩ I2
theorem run_asgD {i : Nat} (h : EvD K te ρ os m d os1) (k : P.nx (ρ.set i (.at os1.length)) (os1 ++ [.deep m d])) : Run K (tAsg te (gName i)) ρ os P := fun R F ps σ H Dn I c =>
  h R F ps σ H _ I fun p F1 H1 e1 I1 I2 => c.nx _ _ F1 _ _ H1 e1 (List.prefix_append _ _) (I1.set i (s := .at os1.length) (ov := some (.ref p)) ⟨p, by rw [← I2.hst.len]; simp, rfl⟩) k
theorem run_retD (h : EvD K te ρ os m d os1) (k : P.rt (.at os1.length) (os1 ++ [.deep m d])) : Run K (tRet te) ρ os P := fun R F ps σ H Dn I c =>
  h R F ps σ H _ I fun p F1 H1 e1 I1 I2 => c.rt (.at os1.length) ρ _ F1 _ σ _ H1 e1 (List.prefix_append _ _) I1 ⟨p, by rw [← I2.hst.len]; simp, rfl⟩ k
/-- a call that gives such a thing -/
theorem ed_call {Rl : Rel} {tx : TA} {ds : List D} {EE : XK} (ha : EvA K tx ρ os (ds.map Sl.fz) os1) (hR : Rl (ds.map Sl.fz) [] (.dw m d) []) : EvD K (tCall (spR K Rl) [] EE tx) ρ os m d os1 := fun R F ps σ H Q I q =>
  ha R F ps σ H _ I fun vs F1 H1 e1 I1 r1 => by
    obtain ⟨R', _, J, back⟩ := I1.hst.lend0
    refine ⟨R', F1, [], _, [], _, [], hR, ⟨by rw [List.append_nil]; exact slots_fz r1, J⟩, fun p F2 H2 e2 J2 J3 => ?_⟩
    have B := back F2 H2 [] [] e2 J3
    rw [List.append_nil, List.append_nil] at B
    have hsl := I1.sl.up e2 (List.prefix_refl ps)
    exact q p F2 H2 (e1.trans e2) ⟨hsl.up (Ex.refl _) (List.prefix_append _ _), back F2 H2 [p] [.deep m d] e2 J2⟩ ⟨hsl, B⟩
end
end Ly

set_option Elab.async false
set_option linter.all false
set_option autoImplicit false
set_option maxRecDepth 100000
set_option maxHeartbeats 4000000
/-! Lay18: a list whose last part is one's own, too. -/
namespace Ly
open PySem PySem.Spec PyProof.Rows L2
theorem snoc_at {α : Type} {l : List α} {x y : α} {i : Nat} (h : (l ++ [x])[i]? = some y) : (i < l.length ∧ l[i]? = some y) ∨ (i = l.length ∧ y = x) := by
  by_cases z : i < l.length
  · rw [List.getElem?_append_left z] at h; exact .inl ⟨z, h⟩
  · have := (List.getElem?_eq_some_iff.mp h).1
    rw [List.length_append, List.length_singleton] at this
    have e : i = l.length := by omega
    subst e
    rw [List.getElem?_append_right (Nat.le_refl _), Nat.sub_self] at h
    exact .inr ⟨rfl, (Option.some.inj h).symm⟩
section
variable {K : PySem.W.Frag} {R F G H H' : Hp} {ps : List Addr} {ρ ρ' : List Sl} {os os1 os2 os3 : List Ow} {σ : L2.St} {s t : Sl} {d e c : D} {te ta tb : TE} {P : Post} {m : Mk}
theorem OwnE.snoc : ∀ {vs : List V} {ds : List D} {v : V} {fp : List Addr}, RpL K F vs ds → Own K F H m v d fp → OwnE K F H (List.replicate vs.length .fz ++ [m]) (vs ++ [v]) (ds ++ [d]) fp
  | _, _, _, fp, .nil, h => by
    have := OwnE.cons h OwnE.nil (fun a _ hb => nomatch hb)
    rw [List.append_nil] at this
    exact this
  | _, _, _, _, .cons r rs, h => OwnE.cons (.fz r) (OwnE.snoc rs h) (fun a ha => nomatch ha)
theorem Hst.wrap {p a : Addr} {vs : List V} {ds : List D} (h : Hst K F R (ps ++ [p]) (os ++ [.deep m d]) H) (r : RpL K F vs ds) (ha : H a = none) :
    Hst K F R (ps ++ [a]) (os ++ [.deep (.each (List.replicate vs.length .fz ++ [m])) (.lst (ds ++ [d]))]) (upd H a (.lst (vs ++ [.ref p]))) := by
  obtain ⟨φ, hφ⟩ := h.dp
  have hl : ps.length = os.length := by have := h.len; simp at this; exact this
  have hn : (ps ++ [p])[os.length]? = some p := by rw [← hl]; simp
  have hm : (os ++ [Ow.deep m d])[os.length]? = some (.deep m d) := by simp
  have up : ∀ b o, H b = some o → upd H a (.lst (vs ++ [.ref p])) b = some o := fun b o q => by
    rw [upd_ne (fun z => by subst z; rw [ha] at q; cases q)]; exact q
  have lo : ∀ {j : Nat} {q : Addr} {w : Ow} {x : Addr}, j < os.length → (ps ++ [x])[j]? = some q → (ps ++ [p])[j]? = some q := fun {j q w x} z y => by
    rw [List.getElem?_append_left (by omega)] at y ⊢; exact y
  have lo2 : ∀ {j : Nat} {w x : Ow}, os[j]? = some w → (os ++ [x])[j]? = some w := fun {j w x} y => by
    rw [List.getElem?_append_left (List.getElem?_eq_some_iff.mp y).1]; exact y
  have nF : F a = none := by
    cases q : F a with
    | none => rfl
    | some u => rw [h.sub _ _ q] at ha; cases ha
  have nin : ∀ {i : Nat} {q : Addr} {m2 : Mk} {d2 : D}, (ps ++ [p])[i]? = some q → (os ++ [Ow.deep m d])[i]? = some (.deep m2 d2) → a ∉ φ i := fun x y z => by
    obtain ⟨o, w, _⟩ := Own.at (hφ.ow _ _ _ _ x y) _ z
    rw [ha] at w; cases w
  refine ⟨fun b u q => up _ _ (h.sub b u q), fun b u q => ⟨(h.oth b u q).1, up _ _ (h.oth b u q).2.1, (h.oth b u q).2.2⟩, by simp [hl], fun i q d2 h1 h2 => ?_, fun i j q h1 h2 ⟨d1, h3⟩ ⟨d2, h4⟩ => ?_, fun i => if i = os.length then a :: φ i else φ i, ⟨fun i q m2 d2 h1 h2 => ?_, fun i q m2 d2 h1 h2 b hb => ?_, fun i j q q' m1 m2 d1 d2 hne h1 h2 h3 h4 x hx hy => ?_⟩⟩
  · rcases snoc_at h2 with ⟨z, y⟩ | ⟨_, y⟩
    · obtain ⟨f, r, o, q1, q2⟩ := h.own i q d2 (lo (w := .gone) z h1) (lo2 y)
      exact ⟨f, r, o, up _ _ q1, q2⟩
    · cases y
  · rcases snoc_at h3 with ⟨z, y⟩ | ⟨_, y⟩
    · rcases snoc_at h4 with ⟨z', y'⟩ | ⟨_, y'⟩
      · exact h.dis i j q (lo (w := .gone) z h1) (lo (w := .gone) z' h2) ⟨_, lo2 y⟩ ⟨_, lo2 y'⟩
      · cases y'
    · cases y
  · show Own K F _ m2 (.ref q) d2 (if i = os.length then a :: φ i else φ i)
    rcases snoc_at h2 with ⟨z, y⟩ | ⟨z, y⟩
    · rw [if_neg (by omega)]
      exact (hφ.ow i q m2 d2 (lo (w := .gone) z h1) (lo2 y)).tr (Ex.refl F) fun b _ o => up b o
    · cases y
      subst z
      rw [if_pos rfl]
      have : q = a := by rw [← hl] at h1; simp at h1; exact h1.symm
      subst this
      have O := (hφ.ow _ _ _ _ hn hm).tr (H' := upd H q (.lst (vs ++ [.ref p]))) (Ex.refl F) fun b _ o => up b o
      exact .lst upd_same (by show (if _ then _ else _) = _; rw [if_pos (by simp)]) (OwnE.snoc r O) (nin hn hm)
  · have hb : b ∈ (if i = os.length then a :: φ i else φ i) := hb
    have ws : ∀ (j : Nat) (q' : Addr) (e : D), (ps ++ [a])[j]? = some q' → (os ++ [Ow.deep (.each (List.replicate vs.length .fz ++ [m])) (.lst (ds ++ [d]))])[j]? = some (Ow.has e) → (ps ++ [p])[j]? = some q' ∧ (os ++ [Ow.deep m d])[j]? = some (Ow.has e) := fun j q' e x y => by
      rcases snoc_at y with ⟨z, y2⟩ | ⟨_, y2⟩
      · exact ⟨lo (w := .gone) z x, lo2 y2⟩
      · cases y2
    rcases snoc_at h2 with ⟨z, y⟩ | ⟨z, y⟩
    · rw [if_neg (by omega)] at hb
      obtain ⟨f, r, w⟩ := hφ.fr i q m2 d2 (lo (w := .gone) z h1) (lo2 y) b hb
      exact ⟨f, r, fun j q' e x y => w j q' e (ws j q' e x y).1 (ws j q' e x y).2⟩
    · subst z
      rw [if_pos rfl] at hb
      rcases List.mem_cons.mp hb with hb | hb
      · subst hb
        refine ⟨nF, h.noR ha, fun j q' e x y zz => ?_⟩
        obtain ⟨x', y'⟩ := ws j q' e x y
        obtain ⟨_, _, o, w, _⟩ := h.own j q' e x' y'
        rw [zz, ha] at w; cases w
      · obtain ⟨f, r, w⟩ := hφ.fr _ _ _ _ hn hm b hb
        exact ⟨f, r, fun j q' e x y => w j q' e (ws j q' e x y).1 (ws j q' e x y).2⟩
  · replace hx : x ∈ (if i = os.length then a :: φ i else φ i) := hx
    replace hy : x ∈ (if j = os.length then a :: φ j else φ j) := hy
    rcases snoc_at h3 with ⟨z, y⟩ | ⟨z, y⟩ <;> rcases snoc_at h4 with ⟨z', y'⟩ | ⟨z', y'⟩
    · rw [if_neg (by omega)] at hx hy
      exact hφ.dj i j q q' m1 m2 d1 d2 hne (lo (w := .gone) z h1) (lo (w := .gone) z' h2) (lo2 y) (lo2 y') x hx hy
    · rw [if_neg (by omega)] at hx; rw [if_pos z'] at hy
      subst z'
      rcases List.mem_cons.mp hy with hy | hy
      · subst hy; exact nin (lo (w := .gone) z h1) (lo2 y) hx
      · exact hφ.dj i _ q p m1 m d1 d hne (lo (w := .gone) z h1) hn (lo2 y) hm x hx hy
    · rw [if_pos z] at hx; rw [if_neg (by omega)] at hy
      subst z
      rcases List.mem_cons.mp hx with hx | hx
      · subst hx; exact nin (lo (w := .gone) z' h2) (lo2 y') hy
      · exact hφ.dj _ j p q' m m2 d d2 hne hn (lo (w := .gone) z' h2) hm (lo2 y') x hx hy
    · exact hne (z.trans z'.symm)
/-- arguments, the last of them new and one's own -/
def EvDA (K : PySem.W.Frag) (ta : TA) (ρ : List Sl) (os : List Ow) (ds : List D) (m : Mk) (d : D) (os' : List Ow) : Prop :=
  ∀ (R F : Hp) (ps : List Addr) (σ : L2.St) (H : Hp) (Q : List V → Hp → Prop), St K R F ps ρ os σ H → (∀ vs p F' H', Ex F F' → St K R F' (ps ++ [p]) ρ (os' ++ [.deep m d]) σ H' → St K R F' ps ρ os' σ H' → RpL K F' vs ds → Q (vs ++ [.ref p]) H') → ta σ H Q
theorem eda_last (h : EvD K te ρ os m d os1) : EvDA K (tCons te tNil) ρ os [] m d os1 := fun R F ps σ H Q I q =>
  h R F ps σ H _ I fun p F1 H1 e1 I1 I2 => q [] p F1 H1 e1 I1 I2 .nil
theorem eda_cons {tx : TA} {ds : List D} (h : Ev K te ρ os e os1) (hr : EvDA K tx ρ os1 ds m d os2) : EvDA K (tCons te tx) ρ os (e :: ds) m d os2 := fun R F ps σ H Q I q =>
  h R F ps σ H _ I fun v F1 H1 e1 I1 r1 => hr R F1 ps σ H1 _ I1 fun vs p F2 H2 e2 I2 I3 r2 => q (v :: vs) p F2 H2 (e1.trans e2) I2 I3 (.cons (Rp.up e2 r1) r2)
theorem sz_snoc {vs : List V} {ds : List D} {v : V} (r : RpL K F vs ds) (hz : ds.length < 1000) : (vs ++ [v]).length ≤ sizeLine := by
  rw [List.length_append, r.length]
  have : (1001 : Nat) ≤ sizeLine := by decide
  show ds.length + 1 ≤ sizeLine
  omega
theorem ed_lst {tx : TA} {ds : List D} (h : EvDA K tx ρ os ds m d os1) (hz : ds.length < 1000) : EvD K (tLst tx) ρ os (.each (List.replicate ds.length .fz ++ [m])) (.lst (ds ++ [d])) os1 := fun R F ps σ H Q I q =>
  h R F ps σ H _ I fun vs p F1 H1 e1 I1 I2 r => ⟨sz_snoc r hz, fun a ha => by
    have W := I1.hst.wrap r ha
    rw [r.length] at W
    have up : ∀ b o, H1 b = some o → upd H1 a (.lst (vs ++ [.ref p])) b = some o := fun b o q => by
      rw [upd_ne (fun z => by subst z; rw [ha] at q; cases q)]; exact q
    exact q a F1 _ e1 ⟨I2.sl.up (Ex.refl _) (List.prefix_append _ _), W⟩ (I2.grow up)⟩
/-- f(.., x, ..), x one's own, the answer new and deep -/
theorem ed_call1 {Rl : Rel} {ta : TA} {ss : List Sl} {n : Nat} {o o' : Ow} {EE : XK} (ha : EvA K ta ρ os ss os1) (hk : os1[n]? = some o) (hR : Rl (ss.map (lendS n)) [o] (.dw m d) [o']) : EvD K (tCall (spR K Rl) [] EE ta) ρ os m d (os1.set n o') := fun R F ps σ H Q I q =>
  ha R F ps σ H _ I fun vs F1 H1 e1 I1 r1 => by
    have hn : n < ps.length := by
      rw [I1.hst.len]
      exact (List.getElem?_eq_some_iff.mp hk).1
    obtain ⟨p, hp⟩ : ∃ p, ps[n]? = some p := ⟨_, List.getElem?_eq_getElem hn⟩
    obtain ⟨R', _, J, back⟩ := I1.hst.lend1 hp hk
    refine ⟨R', F1, [p], _, [o], _, [o'], hR, ⟨by rw [List.append_nil]; exact slots_lend hp r1, J⟩, fun a F2 H2 e2 J2 J3 => ?_⟩
    have B := back F2 H2 o' [] [] e2 J3
    rw [List.append_nil, List.append_nil] at B
    have hsl := I1.sl.up e2 (List.prefix_refl ps)
    exact q a F2 H2 (e1.trans e2) ⟨hsl.up (Ex.refl _) (List.prefix_append _ _), back F2 H2 o' [a] [.deep m d] e2 J2⟩ ⟨hsl, B⟩
theorem ed_ofS {sp : Sp} {tx : TA} {E : L2.St → XK} (h : ∀ EE, EvD K (tCall sp [] EE tx) ρ os m d os1) : EvD K (tCallS sp E tx) ρ os m d os1 := fun R F ps σ H Q I q => by
  have := h (E σ) R F ps σ H Q I q
  unfold tCall at this
  simp only [List.append_nil] at this
  exact this
end
end Ly

set_option Elab.async false
set_option linter.all false
set_option autoImplicit false
set_option maxRecDepth 100000
set_option maxHeartbeats 4000000
/-! Lay19: str.split. -/
namespace Ly
open PySem PySem.Spec PyProof.Rows L2
section
variable {K : PySem.W.Frag} {R F G H H' : Hp} {ps : List Addr} {ρ ρ' : List Sl} {os os1 os2 os3 : List Ow} {σ : L2.St} {te ta tb : TE}
theorem rpl_strs : ∀ {ys : List Str}, RpL K F (ys.map V.str) (ys.map D.str)
  | [] => .nil
  | _ :: _ => .cons (.str _) rpl_strs
theorem en_split {a b : Str} (ha : Ev K ta ρ os (.str a) os1) (hb : Ev K tb ρ os1 (.str b) os2) (h0 : (b.length == 0) = false) (hz : a.length + 2 ≤ sizeLine) : EvN K (tM1 rSplitAny ta tb) ρ os (E (Txt.split a b)) os2 := fun R F ps σ H Q I q =>
  ha R F ps σ H _ I fun v F1 H1 e1 I1 r1 => by
    cases r1
    exact ⟨⟨a, rfl⟩, hb R F1 ps σ H1 _ I1 fun w F2 H2 e2 I2 r2 => by
      cases r2
      exact .inl ⟨a, b, rfl, rfl, h0, hz, fun p hp => by
        obtain ⟨J1, J2⟩ := I2.fin (o := .lst ((Txt.split a b).map V.str)) (d := .lst ((Txt.split a b).map D.str)) hp (.lst rpl_strs)
        exact q p F2 _ (e1.trans e2) J1 J2⟩⟩
end
end Ly

set_option Elab.async false
set_option linter.all false
set_option autoImplicit false
set_option maxRecDepth 100000
set_option maxHeartbeats 4000000
/-! Lay20: a list many times. -/
namespace Ly
open PySem PySem.Spec PyProof.Rows L2
/-- xs * k -/
def repL {α : Type} (xs : List α) (k : Int) : Option (List α) := if -(2 ^ 63) ≤ k ∧ k < 2 ^ 63 ∧ xs.length * k.toNat ≤ LIM then some (List.replicate k.toNat xs).flatten else none
section
variable {K : PySem.W.Frag} {R F G H H' : Hp} {ps : List Addr} {ρ ρ' : List Sl} {os os1 os2 os3 : List Ow} {σ : L2.St} {te ta tb : TE}
theorem rpl_rep {xs : List V} {ds : List D} (h : RpL K F xs ds) : ∀ {n : Nat}, RpL K F (List.replicate n xs).flatten (List.replicate n ds).flatten
  | 0 => .nil
  | n + 1 => by
    rw [List.replicate_succ, List.replicate_succ, List.flatten_cons, List.flatten_cons]
    exact h.app (rpl_rep h)
theorem en_rep {α : Type} [Enc α] {a c : List α} {k : Int} (ha : EvN K ta ρ os (E a) os1) (hb : Ev K tb ρ os1 (.int k) os2) (h : repL a k = some c) : EvN K (tOp rRep ta tb) ρ os (E c) os2 := fun R F ps σ H Q I q =>
  ha R F ps σ H _ I fun x F1 H1 e1 I1 I1' => by
    have hl : ps.length = os1.length := I1'.hst.len
    obtain ⟨o, e0, r0, J⟩ := I1.hst.still (i := ps.length) (p := x) (d := E a) (by simp) (by rw [hl]; simp)
    have J' := J.cut ps.length
    rw [List.take_left, List.take_set, hl, List.take_left, List.set_eq_of_length_le (by omega)] at J'
    refine hb R (upd F1 x o) ps σ H1 _ ⟨I1'.sl.up e0 (List.prefix_refl _), J'⟩ fun w F2 H2 e2 I2 r2 => ?_
    unfold repL at h
    split at h
    case isFalse => cases h
    rename_i hz
    cases h
    cases r2
    cases r0 with
    | @lst xs _ h2 =>
    have h2 := h2.up e2
    refine ⟨x, k, xs, rfl, rfl, I2.hst.sub _ _ (e2 _ _ upd_same), hz.1, hz.2.1, by rw [h2.length, List.length_map]; exact hz.2.2, fun p hp => ?_⟩
    obtain ⟨i1, i2⟩ := I2.fin hp (o := .lst (List.replicate k.toNat xs).flatten) (d := E (List.replicate k.toNat a).flatten) (by
      show ObjR K F2 _ (.lst ((List.replicate k.toNat a).flatten.map E))
      rw [List.map_flatten, List.map_replicate]
      exact .lst (rpl_rep h2))
    exact q p F2 _ ((e1.trans e0).trans e2) i1 i2
end
end Ly

set_option Elab.async false
set_option linter.all false
set_option autoImplicit false
set_option maxRecDepth 100000
set_option maxHeartbeats 4000000
/-! Lay21: range downwards. -/
namespace Ly
open PySem PySem.Spec PyProof.Rows L2
def rngD (lo hi : Int) : List Int := (List.range (lo - hi).toNat).map fun (i : Nat) => lo + (i : Int) * (-1)
def rngDL (lo hi : Int) : Option (List Int) := if rngOk lo hi then some (rngD lo hi) else none
section
variable {K : PySem.W.Frag} {R F G H H' : Hp} {ps : List Addr} {ρ ρ' : List Sl} {os os1 os2 os3 : List Ow} {σ : L2.St}
theorem three_of {F : Hp} {vs : List V} {d e c : D} (h : Paired (SlR K F ps) (vs.map some) [.fz d, .fz e, .fz c]) : ∃ v w x, vs = [v, w, x] ∧ Rp K F v d ∧ Rp K F w e ∧ Rp K F x c := by
  match vs, h with
  | [v, w, x], .cons r (.cons q (.cons z .nil)) => exact ⟨v, w, x, rfl, r, q, z⟩
theorem walks_rangeD {lo hi : Int} : Walks K (Itc lo (-1) (lo - hi).toNat) F ((rngD lo hi).map D.int) := by
  unfold Walks
  rw [List.length_map, show (rngD lo hi).length = (lo - hi).toNat by simp [rngD]]
  refine walk_rangeC.mono (fun _ _ => True.intro) fun i H x H' hi _ y => ?_
  obtain ⟨rfl, rfl⟩ := y
  refine ⟨.int (lo + (i : Int) * (-1)), ?_, fun R F2 ps os _ I => ⟨F2, Ex.refl _, I, .int _⟩⟩
  unfold rngD
  rw [List.getElem?_map, List.getElem?_map, List.getElem?_range hi]
  rfl
theorem src_rngDO {ta : TA} {m n : Int} {xs : List Int} (h : EvA K ta ρ os [.fz (.int m), .fz (.int n), .fz (.int (-1))] os1) (hn : rngDL m n = some xs) : Src K (iRng3 ta) ρ os (xs.map E) os1 := fun R F ps σ H Q I q =>
  h R F ps σ H _ I fun vs F1 H1 e1 I1 r1 => by
    unfold rngDL at hn
    split at hn
    case isFalse => cases hn
    rename_i hz
    cases hn
    obtain ⟨v, w, x, rfl, r, r', r''⟩ := three_of r1
    cases r; cases r'; cases r''
    have := of_decide_eq_true hz
    exact ⟨m, n, -1, _, rfl, RgC.neg (by omega) (by omega) (by omega) (by omega), q _ F1 H1 e1 I1 walks_rangeD⟩
end
end Ly

set_option Elab.async false
set_option linter.all false
set_option autoImplicit false
set_option maxRecDepth 100000
set_option maxHeartbeats 4000000
/-! Lay22: enumerate. -/
namespace Ly
open PySem PySem.Spec PyProof.Rows L2
section
variable {K : PySem.W.Frag} {R F G H H' : Hp} {ps : List Addr} {ρ ρ' : List Sl} {os os1 os2 os3 : List Ow} {σ : L2.St}
/-- the pairs of enumerate -/
def enumL {α : Type} (xs : List α) : List (Int × α) := xs.mapIdx fun i x => ((i : Int), x)
theorem src_enum {α : Type} [Enc α] {xs : List α} {te : TE} (h : Ev K te ρ os (E xs) os1) : Src K (iEnum K (tCons te tNil)) ρ os ((enumL xs).map E) os1 := fun R F ps σ H Q I q =>
  h R F ps σ H _ I fun v F1 H1 e1 I1 r1 => by
    cases (show Rp K F1 v (.lst (xs.map E)) from r1) with
    | @lst a vs _ h1 h2 =>
      refine ⟨a, vs, rfl, I1.hst.sub.sqL h1, q _ F1 H1 e1 I1 ?_⟩
      unfold Walks
      have hl : ((enumL xs).map (E : Int × α → D)).length = vs.length := by rw [h2.length]; simp [enumL]
      rw [hl]
      refine walk_enum.mono (fun H' e => e.sqL h1) fun i H' x H'' hi e y => ?_
      obtain ⟨T, y1, y2, rfl, hT, rfl, z1, z2⟩ := y
      cases z1
      obtain ⟨d, q1, q2⟩ := h2.getV z2
      rw [List.getElem?_map] at q1
      obtain ⟨b, b1, b2⟩ := Option.map_eq_some_iff.mp q1
      refine ⟨E ((i : Int), b), ?_, fun R F2 ps os e2 I2 => ?_⟩
      · rw [List.getElem?_map, enumL, List.getElem?_mapIdx, b1]; rfl
      · obtain ⟨e3, I3⟩ := I2.newF hT (o := .tup [.int (i : Nat), y2])
        subst b2
        exact ⟨_, e3, I3, .tup upd_same (.cons (.int _) (.cons (q2.up (e2.trans e3)) .nil))⟩
end
end Ly

set_option Elab.async false
set_option linter.all false
set_option autoImplicit false
set_option maxRecDepth 100000
set_option maxHeartbeats 4000000
/-! Lay23: slices of lists; max with a default; sorted of lists of ints; dict comprehensions with plain keys; what a deep root looks like; a datum that is a list of ints. -/
namespace Ly
open PySem PySem.Spec PyProof.Rows L2
/-! ### slices -/
def cutL {α : Type} (xs : List α) (lo hi : Option Int) : List α := (xs.drop (HT.sIx xs.length 0 lo)).take (HT.sIx xs.length xs.length hi - HT.sIx xs.length 0 lo)
section
variable {K : PySem.W.Frag} {R F G H H' : Hp} {ps : List Addr} {ρ ρ' : List Sl} {os os1 os2 os3 : List Ow} {σ : L2.St} {s t : Sl} {d e c : D} {te ta tb tk tv : TE} {tl th : TO} {tt : TT} {P : Post}
theorem eo_none : EvO K tNoPart ρ os none os := fun R F ps σ H Q I q => q F H (Ex.refl F) I
theorem eo_some {i : Int} (h : Ev K te ρ os (.int i) os1) : EvO K (tPart te) ρ os (some i) os1 := fun R F ps σ H Q I q =>
  h R F ps σ H _ I fun v F1 H1 e1 I1 r1 => by
    cases (show Rp K F1 v (.int i) from r1)
    exact ⟨i, rfl, q F1 H1 e1 I1⟩
theorem en_cut {α : Type} [Enc α] {xs : List α} {lo hi : Option Int} (ha : EvS K ta ρ os s os1) (hl : EvO K tl ρ os1 lo os2) (hh : EvO K th ρ os2 hi os3) (k : Look os3 s (E xs)) : EvN K (tSl (rSlL K) ta tl th) ρ os (E (cutL xs lo hi)) os3 := fun R F ps σ H Q I q =>
  ha R F ps σ H _ I fun v F1 H1 e1 I1 r1 => hl R F1 ps σ H1 _ I1 fun F2 H2 e2 I2 => hh R F2 ps σ H2 _ I2 fun F3 H3 e3 I3 => by
    have r3 : SlR K F3 ps (some v) s := r1.up (e2.trans e3) (List.prefix_refl _)
    obtain ⟨a, ys, rfl, h1, h2⟩ := I3.seeL r3 k
    refine ⟨a, ys, rfl, h1, fun p hp => ?_⟩
    have hn : ys.length = xs.length := by rw [h2.length, List.length_map]
    obtain ⟨i1, i2⟩ := I3.fin hp (o := .lst (cutV ys lo hi)) (d := E (cutL xs lo hi)) (by
      show ObjR K F3 _ (.lst ((cutL xs lo hi).map E))
      unfold cutV cutL
      rw [hn, List.map_take, List.map_drop]
      exact .lst ((h2.drop _).take _))
    exact q p F3 _ (e1.trans (e2.trans e3)) i1 i2
/-! ### max with a default -/
def maxDL (ns : List Int) (z : Int) : Int := match maxL ns with
  | none => z
  | some m => m
def rMaxD (K : PySem.W.Frag) : List V → List V → Hp → VK → Prop := fun vs zs H Q => ∃ p ns z, vs = [.ref p] ∧ zs = [.int z] ∧ SqL K H p (ns.map V.int) ∧ Q (.int (maxDL ns z)) H
theorem call_maxD {X : Cx} {K : PySem.W.Frag} (hc : X.calm = true) (hK : X.K = K) (hu : X.A.units + 64 < cLine) : CallRK X (.builtin "max") [Str.ofString "default"] (rMaxD K) := by
  subst hK
  intro pins s σ H vs zs us ws Q I r rz h
  obtain ⟨p, ns, z, rfl, rfl, hs, q⟩ := h
  rw [Vals.ref1 r]
  cases rz with
  | cons rz0 rzn =>
  cases rzn
  obtain ⟨its, rv, hl, _⟩ := I.list hs
  refine PySem.W.max_list_datum_default (I.ok.hd hc) hl.isList (PySem.W.HoldAll.of_ints (intsAre_of rv)) (by rw [depth_int]; omega) (fun e h' tk hk => ?_) fun y ys i v h' tk e hi hh hk => ?_
  · subst e
    exact ⟨.int z, H, I.kept hk, rz0, q⟩
  · subst e
    obtain ⟨as, hh⟩ := hh
    rw [maxOf_int] at hh
    cases hh
    exact ⟨.int (maxDL (y :: ys) z), H, I.kept hk, ⟨_, rfl⟩, q⟩
theorem ev_maxD {is : List Int} {z : Int} {t tk : TA} (h : EvA K t ρ os [s] os1) (hk : EvA K tk ρ os1 [.fz (.int z)] os2) (k : Look os2 s (E is)) : Ev K (tCKw (rMaxD K) t tk) ρ os (.int (maxDL is z)) os2 := fun R F ps σ H Q I q =>
  h R F ps σ H _ I fun vs F1 H1 e1 I1 r1 => hk R F1 ps σ H1 _ I1 fun zs F2 H2 e2 I2 r2 => by
    obtain ⟨v, rfl, r⟩ := oneS_of r1
    obtain ⟨w, rfl, r'⟩ := one_of r2
    cases r'
    obtain ⟨a, ys, rfl, h1, h2⟩ := I2.seeL (r.up e2 (List.prefix_refl _)) (k : Look os2 s (.lst (is.map D.int)))
    rw [of_rpl_ints h2] at h1
    exact ⟨a, is, z, rfl, rfl, h1, q _ F2 H2 (e1.trans e2) I2 (.int _)⟩
/-! ### sorted of lists of ints -/
def sortLI (bs : List (List Int)) : Option (List (List Int)) := if bs.length ≤ LIM then some (bs.mergeSort fun p q => decide (p ≤ q)) else none
def rSortLI (K : PySem.W.Frag) : List V → Hp → VK → Prop := fun vs H Q => ∃ (a : Addr) (xs : List V) (bs : List (List Int)) (P : V → List Int → Prop), vs = [.ref a] ∧ SqL K H a xs ∧ PySem.W.EachIs P xs bs ∧ (∀ x ns, P x ns → ∃ b, x = .ref b ∧ SqL K H b (ns.map V.int)) ∧ bs.length ≤ LIM ∧
  ∀ ys p, PySem.W.EachIs P ys (bs.mergeSort fun p q => decide (p ≤ q)) → H p = none → Q (.ref p) (upd H p (.lst ys))
theorem each_vals {P : V → List Int → Prop} : ∀ {xs : List V} {us : List Value} {bs : List (List Int)}, Vals xs us → PySem.W.EachIs P xs bs → PySem.W.EachIs (fun u b => ∃ x, RelV x u ∧ P x b) us bs
  | _, _, _, .nil, .nil => .nil
  | _, _, _, .cons r t, .cons p q => .cons ⟨_, r, p⟩ (each_vals t q)
theorem vals_each {P : V → List Int → Prop} : ∀ {us : List Value} {bs : List (List Int)}, PySem.W.EachIs (fun u b => ∃ x, RelV x u ∧ P x b) us bs → ∃ xs, Vals xs us ∧ PySem.W.EachIs P xs bs
  | _, _, .nil => ⟨[], .nil, .nil⟩
  | _, _, .cons ⟨x, r, p⟩ q => by
    obtain ⟨xs, h1, h2⟩ := vals_each q
    exact ⟨x :: xs, .cons r h1, .cons p h2⟩
theorem each_imp {α β : Type} {P Q : α → β → Prop} (h : ∀ a b, P a b → Q a b) : ∀ {as : List α} {bs : List β}, PySem.W.EachIs P as bs → PySem.W.EachIs Q as bs
  | _, _, .nil => .nil
  | _, _, .cons p q => .cons (h _ _ p) (each_imp h q)
theorem depth_row (ns : List Int) : (PySem.PyData.list (ns.map .int)).depth ≤ 1 := PySem.W.Datum.depth_le (α := List Int) ns
theorem cr_sortLI {X : Cx} {K : PySem.W.Frag} (hK : X.K = K) (hu : X.A.units + 64 < cLine) : CallR X (.builtin "sorted") (rSortLI K) := by
  subst hK
  intro pins s σ H vs us Q I r h
  obtain ⟨a, xs, bs, P, rfl, hs, hP, hI, hz, q⟩ := h
  rw [Vals.ref1 r]
  obtain ⟨its, rv, hl, _⟩ := I.list hs
  refine PySem.W.sorted_data (R := fun u b => ∃ x, RelV x u ∧ P x b) (enc := fun ns : List Int => .list (ns.map .int)) hl.isList (each_vals rv hP) (each_imp (fun u b h0 => ?_) (each_vals rv hP)) ?_ ?_ (by rw [sizeLine_eq]; exact hz) (fun b _ => ?_) fun out ho eo => ?_
  · obtain ⟨x, ru, px⟩ := h0
    obtain ⟨b2, rfl, hb⟩ := hI x b px
    cases (show u = Value.ref b2 from ru)
    obtain ⟨its2, rv2, hl2, _⟩ := I.list hb
    exact PySem.W.holds_list (α := Int) hl2.isList (PySem.W.HoldAll.of_ints (intsAre_of rv2))
  · intro x hx y hy
    obtain ⟨m, _, rfl⟩ := List.mem_map.mp hx
    obtain ⟨n, _, rfl⟩ := List.mem_map.mp hy
    exact PySem.W.DatumOrd.alike (α := List Int) m n
  · refine .inr fun x hx => ?_
    obtain ⟨m, _, rfl⟩ := List.mem_map.mp hx
    exact ⟨(fun z => nomatch z), fun _ z => nomatch z⟩
  · have := depth_row b
    omega
  · rw [show (PySem.W.dataLe false fun ns : List Int => PySem.PyData.list (ns.map .int)) = fun p q => decide (p ≤ q) from PySem.W.dataLe_rows (β := List Int) id] at eo
    obtain ⟨ys, h1, h2⟩ := vals_each eo
    obtain ⟨ep, he'⟩ := PyProof.Rows.sortedAll_at s.heap its out.toArray
    have hlen : ys.length ≤ sizeLine := by
      rw [h1.length, ho, sizeLine_eq]; exact hz
    exact ⟨.ref _, upd H (s.heap.objs.size + 1) (.lst ys), I.laid (t' := s.toks) (fun _ _ => PyProof.Rows.sortedAll_old) (Nat.le_succ _) ⟨hlen, out, ep, h1, he'⟩, rfl, q ys _ h2 (I.hok.fresh (Nat.le_succ _))⟩
theorem each_rpl {F : Hp} : ∀ {xs : List V} {bs : List (List Int)}, RpL K F xs (bs.map E) → PySem.W.EachIs (fun x ns => Rp K F x (E (ns : List Int))) xs bs
  | _, [], .nil => .nil
  | _, _ :: _, .cons h r => .cons h (each_rpl r)
theorem rpl_each {F : Hp} : ∀ {xs : List V} {bs : List (List Int)}, PySem.W.EachIs (fun x ns => Rp K F x (E (ns : List Int))) xs bs → RpL K F xs (bs.map E)
  | _, _, .nil => .nil
  | _, _, .cons h r => .cons h (rpl_each r)
theorem en_sortLI {bs ys : List (List Int)} {ta : TA} (h : EvA K ta ρ os [s] os1) (k : Look os1 s (E bs)) (hy : sortLI bs = some ys) : EvN K (tCB (rSortLI K) ta) ρ os (E ys) os1 := fun R F ps σ H Q I q =>
  h R F ps σ H _ I fun vs F1 H1 e1 I1 r1 => by
    obtain ⟨v, rfl, r⟩ := oneS_of r1
    obtain ⟨a, xs, rfl, h1, h2⟩ := I1.seeL r (k : Look os1 s (.lst (bs.map E)))
    unfold sortLI at hy
    split at hy
    case isFalse => cases hy
    rename_i hz
    cases hy
    refine ⟨a, xs, bs, fun x ns => Rp K F1 x (E (ns : List Int)), rfl, h1, each_rpl h2, fun x ns px => ?_, hz, fun ys p hy hp => ?_⟩
    · cases (show Rp K F1 x (.lst (ns.map D.int)) from px) with
      | lst g1 g2 => exact ⟨_, rfl, by rw [← of_rpl_ints g2]; exact I1.hst.sub.sqL g1⟩
    · obtain ⟨i1, i2⟩ := I1.fin hp (o := .lst ys) (d := .lst ((bs.mergeSort fun p q => decide (p ≤ q)).map E)) (.lst (rpl_each hy))
      exact q p F1 _ e1 i1 i2
/-! ### a call that looks at roots, deep ones too -/
def LookD (os : List Ow) : Sl → D → Prop
  | .fz d, e => d = e
  | .at i, e => ∃ w, os[i]? = some w ∧ w.sees e
  | .un, _ => False
theorem Look.deep : ∀ {s : Sl} {d : D}, Look os s d → LookD os s d
  | .fz _, _, h => h
  | .at i, _, h => ⟨_, h, rfl⟩
  | .un, _, h => h.elim
theorem ev_callW {Rl : Rel} {ta : TA} {ss : List Sl} {ds : List D} {EE : XK} (ha : EvA K ta ρ os ss os1) (hv : Paired (LookD os1) ss ds) (hR : Rl (ds.map Sl.fz) [] (.fz d) []) (hsc : scal d = true) : Ev K (tCall (spR K Rl) [] EE ta) ρ os d os1 := fun R F ps σ H Q I q =>
  ha R F ps σ H _ I fun vs F1 H1 e1 I1 r1 => by
    obtain ⟨G, eG, JG, hG, back⟩ := I1.hst.view
    have sl : ∀ {ss : List Sl} {ds : List D} {vs : L2.St}, Slots K F1 ps vs ss → Paired (LookD os1) ss ds → Slots K G [] vs (ds.map Sl.fz) := by
      intro ss ds vs h1 h2
      induction h2 generalizing vs with
      | nil => cases h1; exact .nil
      | @cons s d ss ds hk t ih =>
        cases h1 with
        | @cons ov s' vs' ss' r t' =>
          refine .cons ?_ (ih t')
          cases s with
          | un => exact hk.elim
          | fz d0 =>
            cases ov with
            | none => exact (show False from r).elim
            | some v =>
              have hk : d0 = d := hk
              subst hk
              exact Rp.up eG (show Rp K F1 v d0 from r)
          | «at» i =>
            cases ov with
            | none => exact (show False from r).elim
            | some v =>
              obtain ⟨p, h3, h4⟩ := (show ∃ p, ps[i]? = some p ∧ v = .ref p from r)
              obtain ⟨w, h5, h6⟩ := hk
              subst h4
              exact hG i p w d h3 h5 h6
    refine ⟨R, G, [], ds.map Sl.fz, [], .fz d, [], by simpa using hR, ⟨by simpa using sl r1 hv, JG⟩, fun v F2 H2 e2 J2 r2 => ?_⟩
    exact q v F1 H2 e1 ⟨I1.sl, back F2 H2 e2 J2⟩ (r2.scal hsc)
/-! ### a dict of plain keys by a comprehension -/
theorem en_dcK {α β : Type} [Enc α] [Enc β] {wi : TI} {g : TG} {xs : List α} {f : α → Option (Option (Key × β))} {ys : List (Key × β)} {vs : List Nat} (hs : Src K wi ρ os (xs.map E) os1) (hm : dcomp f xs = some ys)
    (hb : ∀ x y, x ∈ xs → f x = some y → ∃ ρ' js, TgB K g (E x) (wipeS ρ vs) ρ' js ∧ (∀ j ∈ js, j ∈ vs) ∧ ∃ q, EvT K tt ρ' os1 q os1 ∧
      (q = true → ∃ k v, y = some (k, v) ∧ Ev K tk ρ' os1 (keyD k) os1 ∧ Ev K tv ρ' os1 (E v) os1) ∧ (q = false → y = none)) :
    EvN K (tDc wi g tt tk tv vs) ρ os (E (⟨ys⟩ : Dct β)) os1 := fun R F ps σ H Q I k =>
  hs R F ps σ H _ I fun J F1 H1 e1 I1 w => by
    intro Dl hD
    obtain ⟨hR, hF, J0⟩ := I1.hst.lockO (u := .dK []) (fun _ z => nomatch z) hD
    let Pv : Nat → Hp → Prop := fun i H' => ∃ F' acc zs, H' Dl = some (.dK acc) ∧ dcompM f (xs.drop i) zs = some ys ∧ Ex F1 F' ∧ RpK K F' acc (zs.map fun p => (p.1, E p.2)) ∧ Hst K F' (upd R Dl (.dK acc)) ps os1 H'
    have key : (xs.map (E : α → D)).length = xs.length := List.length_map _
    refine ⟨fun i m H => m = xs.length - i ∧ i ≤ xs.length ∧ Pv i H, ⟨xs.length, rfl, Nat.zero_le _, F1, [], [], upd_same, hm, Ex.refl _, .nil, J0⟩, ?_⟩
    rintro i m H' ⟨rfl, hi, F', acc, zs, hacc, hl, e, ra, J'⟩
    by_cases hlt : i < xs.length
    · refine .inr ⟨w.goes i H' (by rw [key]; exact hlt) (e.trans J'.sub), Pv (i + 1), fun H'' p' => ⟨_, ?_, rfl, hlt, p'⟩, fun v H'' hy => ?_⟩
      · omega
      · obtain ⟨d, hd, hy⟩ := w.yields i H' v H'' (by rw [key]; exact hlt) (e.trans J'.sub) hy
        rw [List.getElem?_map] at hd
        obtain ⟨x, hx', rfl⟩ := Option.map_eq_some_iff.mp hd
        obtain ⟨F3, e3, J3, r3⟩ := hy _ F' ps os1 e J'
        rw [dcompM_drop hx'] at hl
        cases hbx : f x with
        | none => rw [hbx] at hl; cases hl
        | some y =>
          rw [hbx] at hl
          obtain ⟨ρ', js, ht, hjs, q, hT, hq1, hq2⟩ := hb x y (List.mem_of_getElem? hx') hbx
          have Iw : St K (upd R Dl (.dK acc)) F3 ps (wipeS ρ vs) os1 (wipe σ vs) H'' := ⟨slots_wipe (I1.sl.up (e.trans e3) (List.prefix_refl _)) vs, J3⟩
          refine ht _ F3 ps os1 _ H'' v _ Iw r3 fun σ2 J5 eq5 l5 => ⟨wipe_back eq5 l5 hjs, ?_⟩
          refine hT _ F3 ps σ2 H'' _ J5 fun F4 H4 e4 J6 => ?_
          cases q with
          | false =>
            obtain rfl := hq2 rfl
            exact ⟨F4, acc, zs, (J6.hst.oth Dl _ upd_same).2.1, hl, e.trans (e3.trans e4), RpK.up (e3.trans e4) ra, J6.hst⟩
          | true =>
            obtain ⟨kk, z, rfl, hK, hV⟩ := hq1 rfl
            simp only at hl
            rw [if_pos rfl]
            refine hK _ F4 ps σ2 H4 _ J6 fun yk F5 H5 e5 J7 r7 => hV _ F5 ps σ2 H5 _ J7 fun yv F6 H6 e6 J8 r8 => ?_
            have hyk := rp_key (show Rp K F5 yk (keyD kk) from r7)
            have hacc6 := (J8.hst.oth Dl _ upd_same).2.1
            cases hput : dputO zs kk z with
            | none => rw [hput] at hl; cases hl
            | some zs' =>
              rw [hput] at hl
              simp only at hl
              unfold dputO at hput
              split at hput
              case isFalse => cases hput
              rename_i hz
              cases hput
              have r6 : RpK K F6 acc (zs.map fun p => (p.1, E p.2)) := RpK.up (e3.trans (e4.trans (e5.trans e6))) ra
              refine ⟨acc, kk, hyk, hacc6, ?_, F6, _, dput zs kk z, upd_same, hl, e.trans (e3.trans (e4.trans (e5.trans e6))), ?_, J8.hst.setO (fun _ z => nomatch z)⟩
              · rw [r6.length, List.length_map]; exact hz
              · rw [dput_map]
                exact rpk_put r8 kk r6
    · have hi' : i = xs.length := by omega
      subst hi'
      refine .inl ⟨by
        have := w.stops H' (e.trans J'.sub)
        rwa [key] at this, ?_⟩
      rw [List.drop_length] at hl
      cases hl
      obtain ⟨a1, a2⟩ := J'.unlockO hR (.dct ra)
      have sl : Slots K F' ps σ ρ := I1.sl.up e (List.prefix_refl _)
      exact k Dl F' H' (e1.trans e) ⟨sl.up (Ex.refl _) (List.prefix_append _ _), a1⟩ ⟨sl, a2⟩
/-! ### a datum that is a list of ints -/
def dLI : D → Option (List Int)
  | .lst ds => dInts ds
  | _ => none
theorem dLI_eq {ns : List Int} (h : dLI d = some ns) : d = E ns := by
  cases d <;> first | (cases h; done) | skip
  rename_i ds
  rw [dInts_eq (show dInts ds = some ns from h)]
  rfl
theorem dLI_of {ns : List Int} : dLI (E ns) = some ns := by
  show dInts (ns.map D.int) = some ns
  induction ns with
  | nil => rfl
  | cons n ns ih => rw [List.map_cons]; unfold dInts; rw [ih]; rfl
end
end Ly

set_option Elab.async false
set_option linter.all false
set_option autoImplicit false
set_option maxRecDepth 100000
set_option maxHeartbeats 4000000
/-! Lay24: the errors of the package: what a def answers that may raise; raise, try and the suite. -/
namespace Ly
open PySem PySem.Spec PyProof.Rows L2 L2H
/-- the classes -/
inductive Cn where
  | BadEdit | BadHistory | BadText | BadValue | NotShown | Ring | Sealed | TooOld | NothingToUndo | NothingToRedo | BadVersion | TwoFaces | ApartError
  deriving DecidableEq
structure Exn where
  c : Cn
  fs : List (Str × D)
/-- an exception as a datum -/
def excD (a dd : Addr) (e : Exn) : D := .exc a dd (e.fs.map (·.1)) (e.fs.map (·.2))
/-- an answer, or an exception; with what is lent -/
inductive Out (α μ : Type) where
  | ok (a : α) (s : μ) | ex (e : Exn) (s : μ)
def oout {α μ β : Type} (o : Out α μ) (g : Exn → μ → Option β) (f : α → μ → Option β) : Option β := match o with
  | .ok a s => f a s
  | .ex e s => g e s
def RPo {α μ : Type} (n : Nat) (mk : α → Ret) (om : μ → List Ow) : Out α μ → Sl → List Ow → Prop
  | .ok a s, sl, os2 => RetP n (om s) (mk a) sl os2
  | .ex _ _, _, _ => False
def RXo {α μ : Type} (cl : Cn → Addr) (om : μ → List Ow) : Out α μ → Addr → List (Str × D) → List Sl → List Ow → Prop
  | .ok _ _, _, _, _, _ => False
  | .ex e s, C, fs, _, os2 => C = cl e.c ∧ fs = e.fs ∧ WkO os2 (om s)
def OutR {α μ : Type} (cl : Cn → Addr) (mk : α → Ret) (om : μ → List Ow) : Out α μ → Ret → List Ow → Prop
  | .ok a s, r, os2 => r = mk a ∧ os2 = om s
  | .ex e s, r, os2 => r = .ex (cl e.c) e.fs ∧ os2 = om s
/-- the field of an exception -/
def fldE (e : Exn) (f : Str) : Option D := fieldD (e.fs.map (·.1)) (e.fs.map (·.2)) f
/-! ### an exception is made: its context is None -/
theorem takesN0 {X : Cx} : L2N.Takes X (fun _ _ _ _ => False) := fun u s' x => by
  obtain ⟨a, B, sI, pins, σ, H, cls, d, x⟩ := x
  exact x.2.2.2.2.2.2.2.2.elim
theorem pmkN {X : Cx} {CX : CXT} {x : Str} {e : Expr} {es : List Expr} {ta : TA} {p pos : Pos} {C g : Addr} {k : Nat} {fd : FuncData} {ns : List Str} {sp : Sp}
    (T : OexC X.K C) (iC : PySem.W.findIn X.K (.ref C) "__init__" = some (some (.ref g))) (tI : PySem.W.typeIn X.K (.ref g) = some (.type "function"))
    (Fi : FnOk X.prog X.w X.K X.mg X.base CX k g fd ns sp) (room : Room (k + 1) X.A) (bi : Binds X.K fd ns []) (pass : Passes CX X (fun _ _ _ => False)) (gl : Gl X x) (mx : X.mg x = some (.ref C)) (ha : PA X (e :: es) ta)
    (hd : (x == ("__debug__" : Str)) = false := by decide) (h1 : starEach (e :: es) X.env = (false, eval e X.env) :: starEach es X.env := by rfl) (h2 : (backTo pos (starEach es X.env)).any (·.1) = false := by rfl) :
    L2N.PMk X (.Call (.Name x p) (e :: es) [] pos) (tMkO C sp [] ta) := fun pins s σ H Q I want => by
  obtain ⟨nm, q, N, bs, bm, sn, sub, ab, col, dd, k0, k1, k2, k3, k5, lkC, refs⟩ := T.cls
  refine wpAny_Call_Name_kw (ld_glob I gl mx (PySem.W.callWith_K (h₀ := X.base) I.ok.mod.kin T.kC (thn (ha.run pos pins s σ H _ I want) fun us s1 got => ?_) h1 h2) hd)
  obtain ⟨vs, H1, I1, rel, short, more⟩ := got
  refine ⟨I1.kIn, ?_⟩
  show wpAny _ _ (call (.ref C) us) _ _ _
  rcases s1 with ⟨hp, gs, dr, tk, os⟩
  -- the new object's place
  obtain ⟨a, ea⟩ : ∃ a, a = hp.objs.size + 1 := ⟨_, rfl⟩
  obtain ⟨hp2, e2⟩ : ∃ h, h = (hp.push (PySem.W.kdv_tup us)).push (PySem.HandSPX.excO C hp.objs.size) := ⟨_, rfl⟩
  have le : hp.objs.size ≤ a := by omega
  have keep : ∀ b o, hp.get? b = some o → hp2.get? b = some o := fun b o z => by
    rw [e2]
    exact Heap.get?_push_of_some _ (Heap.get?_push_of_some _ z)
  have at2 : hp2.get? a = some (PySem.HandSPX.excO C hp.objs.size) := by
    rw [ea, e2]
    heap_get
  have go := more a (I1.hok.fresh le)
  rw [List.append_nil] at go
  have I2 : Inv X pins σ (upd H1 a (exo a C none)) ⟨hp2, gs, dr, tk, os⟩ := I1.laid (t' := tk) keep le (exo_ok at2)
  have rel2 : Vals (V.ref a :: vs) (Value.ref a :: us) := .cons rfl rel
  have len2 : (Value.ref a :: us).length = ns.length := by rw [← rel2.length]; exact Fi.len _ _ _ _ go
  have few : us.length ≤ sizeLine := by rw [← Vals.length rel, sizeLine_eq]; omega
  have bi2 := bi _ (Value.ref a :: us) I2.kIn (by rw [List.append_nil]; exact len2)
  rw [List.append_nil] at bi2
  have run := Fi.run _ X.stack _ _ ⟨Value.ref a :: us, []⟩ (Value.ref a :: us) _ _ (fun _ _ _ => False) (room.make C us []) (I2.env0.make C us []) bi2 rel2 go
  subst ea e2
  refine wpAny_call (PySem.HandSPX.call_own F.excBase_ValueError (fun Y => PySem.HandSPX.refsVE_contains Y bm refs) (I1.kIn _ _ lkC) (PySem.W.looks_findIn I1.kIn iC) (fun self => PySem.W.bind_fn I1.kIn self tI) few (codeAny_mono run fun r s' out => ?_))
  cases r with
  | error er => exact pass pins σ _ _ er s' I2 out
  | ok fl =>
    cases fl with
    | next | brk | cont => exact out.elim
    | ret u =>
      obtain ⟨v, H2, os2, bare2, un2, hok2, rv, ev, d, fs, ex1, ex2, hd1, fin⟩ := out
      subst ev
      rcases s' with ⟨h2, gs2, dr2, tk2, os'⟩
      obtain ⟨t0, G, J, kG, ge, here, gone⟩ := mk_end0 (d2 := dr2) (t2 := tk2) I1 le keep un2 hok2 os2 bare2 ex1 ex2 hd1
      have zn : L2N.Zn (.ref C) (some d) ({ cls := .ref C, dict := some d, data := .fields #[.ref t0, .none, .none, .none, .bool false, .none] } : Obj) := ⟨rfl, rfl, fun ws hw => by cases hw; rfl⟩
      exact ⟨rv, _, _, _, ⟨G, gs2, dr2, tk2, os'⟩, _, .ref C, some d, rfl, J, kG, ge, here, zn, rfl, rfl, gone, rfl, bare2, raises_own T.exC T.tyC, fin⟩
/-! ### the suite -/
theorem hot_suite {A : Around} {a : Addr} {oe : Obj} {cls : Value} {d : Option Addr} (hz : L2N.Zn cls d oe) (hf : ∃ vs, oe.data = .fields vs) : Hot1 (A.mark (some (.ref a))) (a, oe) := by
  obtain ⟨vs, e⟩ := hf
  exact ⟨rfl, vs, e, hz.2.2 vs e⟩
section
variable {X : Cx} {k : Nat} {f : Addr} {fd : FuncData} {pars : List Str} {Rl : Addr → Value → Option Addr → Rel} {x : Str} {q pos : Pos} {e : Expr} {es : List Expr} {t : TA}
/-- a call in a suite -/
theorem pe_callA {K : PySem.W.Frag} {a : Addr} {oe : Obj} {cls : Value} {d : Option Addr} (F : FnP X.prog X.w X.K X.mg X.base k f fd pars (fun p => spR K (Rl p.1 p.2.cls p.2.dict))) (room : RoomH k X.A) (hot : Hot1 X.A (a, oe)) (hp : (a, oe) ∈ X.pn) (hz : L2N.Zn cls d oe)
    (hg : Gl X x) (hm : X.mg x = some (.ref f)) (hk : PySem.W.keepIn X.K (.ref f) = true) (hb : Binds X.K fd pars [])
    (ha : PA X (e :: es) t) (hdb : (x == ("__debug__" : Str)) = false := by decide) (he : starEach (e :: es) X.env = (false, eval e X.env) :: starEach es X.env := by rfl) (hpl : (backTo pos (starEach es X.env)).any (·.1) = false := by rfl) :
    PE X (.Call (.Name x q) (e :: es) [] pos) (tCall (spR K (Rl a cls d)) [] E0 t) := by
  obtain ⟨rfl, rfl, _⟩ := hz
  exact pe_callP F room hot hp hg hm hk hb ha hdb he hpl
/-- a call in a def of a suite -/
theorem pe_callQ {K : PySem.W.Frag} {p : Addr × Obj} {cls : Value} {d : Option Addr} (F : FnP X.prog X.w X.K X.mg X.base k f fd pars (fun p => spR K (Rl p.1 p.2.cls p.2.dict))) (room : RoomH k X.A) (hot : Hot1 X.A p) (hp : p ∈ X.pn) (hz : Zc cls d p.2)
    (hg : Gl X x) (hm : X.mg x = some (.ref f)) (hk : PySem.W.keepIn X.K (.ref f) = true) (hb : Binds X.K fd pars [])
    (ha : PA X (e :: es) t) (hdb : (x == ("__debug__" : Str)) = false := by decide) (he : starEach (e :: es) X.env = (false, eval e X.env) :: starEach es X.env := by rfl) (hpl : (backTo pos (starEach es X.env)).any (·.1) = false := by rfl) :
    PE X (.Call (.Name x q) (e :: es) [] pos) (tCall (spR K (Rl p.1 cls d)) [] E0 t) := by
  obtain ⟨rfl, rfl⟩ := hz
  exact pe_callP F room hot hp hg hm hk hb ha hdb he hpl
end
/-! ### readings -/
section
variable {K : PySem.W.Frag} {R F G H H' : Hp} {ps : List Addr} {ρ ρ' : List Sl} {os os1 os2 os3 : List Ow} {σ : L2.St} {s t : Sl} {d c : D} {te ta tb : TE} {P : Post} {a dd : Addr}
theorem ev_adr : Ev K (tC (.ref a)) ρ os (.adr a) os := fun R F ps σ H Q I q => q (.ref a) F H (Ex.refl F) I (Rp.adr a)
/-- isinstance(e, class) -/
theorem ev_isE {e : Exn} {b : Bool} {C : Addr} {cv : Value} {ta : TA} (h : EvA K ta ρ os [.fz (excD a dd e), .fz c] os1) (hc : clsD c = some cv) (hk : PySem.W.kitOne K (.ref C) cv = some b) : Ev K (tCB (rIsP K C a (some dd)) ta) ρ os (.bl b) os1 := ev_isP h hc hk
/-- e.f -/
theorem ev_fldE {e : Exn} {C : Addr} {f : Str} (h : Ev K te ρ os (excD a dd e) os1) (hf : fldE e f = some d) : Ev K (tXfP C a (some dd) f te) ρ os d os1 := ev_xfP h hf
/-- try: .. except class as slot i: .. -/
def tTry (K : PySem.W.Frag) (cv : Value) (i : Nat) (tb : (Value → Option Addr → L2.St → Hp → Prop) → TS) (ts : Addr → Value → Option Addr → TS) (Wout : Value → Option Addr → L2.St → Hp → Prop) : TS := fun D σ H => tb (wAs K cv i ts Wout D) D σ H
/-- a try of which each way is left -/
theorem run_tryR {Rt μ : Type} {cl : Cn → Addr} {tb : (Value → Option Addr → L2.St → Hp → Prop) → TS} {ts : Addr → Value → Option Addr → TS} {cv : Value} {i : Nat} {Wout : Value → Option Addr → L2.St → Hp → Prop} (o : Out Rt μ) (RP : Rt → Sl → List Ow → Prop) (rh : μ → List Sl) (om : μ → List Ow)
    (hb : ∀ W, Run K (tb W) ρ os { nx := fun _ _ => False, rt := fun sl os' => ∃ r m, o = .ok r m ∧ RP r sl os', EX := W, ex := fun C fs ρ' os' => ∃ e m, o = .ex e m ∧ C = cl e.c ∧ fs = e.fs ∧ ρ' = rh m ∧ os' = om m })
    (hr : ∀ r m, o = .ok r m → ∀ sl os', RP r sl os' → P.rt sl os')
    (hs : ∀ e m, o = .ex e m → e.fs ≠ [] ∧ PySem.W.exmOne K (.ref (cl e.c)) cv = some true ∧ ∀ (a dd : Addr), Run K (ts a (.ref (cl e.c)) (some dd)) ((rh m).set i (.fz (excD a dd e))) (om m) (P.clr i)) :
    Run K (tTry K cv i tb ts Wout) ρ os P := by
  show Run K (fun D σ H => tb (wAs K cv i ts Wout D) D σ H) ρ os P
  refine run_try (fun C fs ρ' os' => ∃ e m, o = .ex e m ∧ C = cl e.c ∧ fs = e.fs ∧ ρ' = rh m ∧ os' = om m) (fun W => ?_) fun C fs ρ' os' ⟨e, m, eo, ec, ef, er, eos⟩ => ?_
  · intro R F ps σ H Dn I cn
    refine hb W R F ps σ H Dn I ⟨fun _ _ _ _ _ _ _ _ _ z => z.elim, fun s ρ' os' F' ps' σ' v H' e q J r ⟨rr, m, eo, h⟩ => cn.rt s ρ' os' F' ps' σ' v H' e q J r (hr rr m eo s os' h), fun _ _ _ _ _ _ _ _ _ z => z.elim, fun _ _ _ _ _ _ _ _ _ z => z.elim, cn.ex⟩
  · subst ec ef er eos
    exact hs e m eo
end
end Ly

set_option Elab.async false
set_option linter.all false
set_option autoImplicit false
set_option maxRecDepth 100000
set_option maxHeartbeats 4000000
/-! Lay25: a deep root stands still; the kit's rules with K written. -/
namespace Ly
open PySem PySem.Spec PyProof.Rows L2 L2H
theorem Hst.stillD {K : PySem.W.Frag} {R F H : Hp} {ps : List Addr} {os : List Ow} (h : Hst K F R ps os H) {i : Nat} {p : Addr} {m : Mk} {d : D} (hp : ps[i]? = some p) (hd : os[i]? = some (.deep m d)) :
    ∃ F', Ex F F' ∧ Rp K F' (.ref p) d ∧ Hst K F' R ps (os.set i .gone) H := by
  classical
  obtain ⟨φ, hφ⟩ := h.dp
  have fr := hφ.fr i p m d hp hd
  have hi : i < os.length := (List.getElem?_eq_some_iff.mp hd).1
  have e : Ex F (fun a => if a ∈ φ i then H a else F a) := fun a u q => by
    by_cases z : a ∈ φ i
    · rw [(fr a z).1] at q; cases q
    · simp only [z, if_false]; exact q
  have away : ∀ {j : Nat} {o : Ow}, (os.set i .gone)[j]? = some o → o ≠ .gone → j ≠ i ∧ os[j]? = some o := fun {j o} q n => by
    by_cases z : j = i
    · subst z
      rw [List.getElem?_set_self hi] at q
      exact absurd (Option.some.inj q).symm n
    · rw [List.getElem?_set_ne (Ne.symm z)] at q
      exact ⟨z, q⟩
  refine ⟨fun a => if a ∈ φ i then H a else F a, e, Own.rp e (hφ.ow i p m d hp hd) fun a ha o ho => by simp only [ha, if_true]; exact ho,
    ⟨fun a u q => ?_, fun a u q => ?_, by rw [List.length_set]; exact h.len, fun j a d' h1 h2 => ?_, fun j k a h1 h2 ⟨d1, h3⟩ ⟨d2, h4⟩ => ?_, φ, fun j q m' d' h1 h2 => ?_, fun j q m' d' h1 h2 a ha => ?_, fun j k q q' m1 m2 d1 d2 hne h1 h2 h3 h4 => ?_⟩⟩
  · by_cases z : a ∈ φ i
    · simp only [z, if_true] at q; exact q
    · simp only [z, if_false] at q; exact h.sub a u q
  · obtain ⟨q1, q2, q3⟩ := h.oth a u q
    have z : a ∉ φ i := fun z => by rw [(fr a z).2.1] at q; cases q
    exact ⟨by simp only [z, if_false]; exact q1, q2, q3⟩
  · obtain ⟨hj, h2⟩ := away h2 (fun z => nomatch z)
    obtain ⟨q1, q2, w, q3, q4⟩ := h.own j a d' h1 h2
    have z : a ∉ φ i := fun z => (fr a z).2.2 j a d' h1 h2 rfl
    exact ⟨by simp only [z, if_false]; exact q1, q2, w, q3, q4.up e⟩
  · exact h.dis j k a h1 h2 ⟨d1, (away h3 (fun z => nomatch z)).2⟩ ⟨d2, (away h4 (fun z => nomatch z)).2⟩
  · exact Own.tr e (hφ.ow j q m' d' h1 (away h2 (fun z => nomatch z)).2) fun _ _ _ z => z
  · obtain ⟨hj, h2⟩ := away h2 (fun z => nomatch z)
    obtain ⟨f, r, g⟩ := hφ.fr j q m' d' h1 h2 a ha
    have z : a ∉ φ i := hφ.dj j i q p m' m d' d hj h1 hp h2 hd a ha
    exact ⟨by simp only [z, if_false]; exact f, r, fun k q' e' x y => g k q' e' x (away y (fun z => nomatch z)).2⟩
  · exact hφ.dj j k q q' m1 m2 d1 d2 hne h1 h2 (away h3 (fun z => nomatch z)).2 (away h4 (fun z => nomatch z)).2
section
variable {K : PySem.W.Frag} {R F G H H' : Hp} {ps : List Addr} {ρ ρ' : List Sl} {os os1 os2 os3 : List Ow} {σ : L2.St} {s t : Sl} {m : Mk} {d c : D} {te ta tb : TE} {P : Post} {a dd : Addr}
theorem ev_frzD (h : EvD K te ρ os m d os1) : Ev K te ρ os d os1 := fun R F ps σ H Q I q =>
  h R F ps σ H _ I fun p F1 H1 e1 I1 I1' => by
    have hl : ps.length = os1.length := I1'.hst.len
    obtain ⟨F2, e2, r2, J⟩ := I1.hst.stillD (i := ps.length) (p := p) (m := m) (d := d) (by simp) (by rw [hl]; simp)
    have J' := J.cut ps.length
    rw [List.take_left, List.take_set, hl, List.take_left, List.set_eq_of_length_le (by omega)] at J'
    exact q (.ref p) F2 H1 (e1.trans e2) ⟨I1'.sl.up e2 (List.prefix_refl _), J'⟩ r2
theorem run_stillD {t : TS} {i j : Nat} (hi : ρ[j]? = some (.at i)) (hd : os[i]? = some (.deep m d)) (h : Run K t (ρ.set j (.fz d)) (os.set i .gone) P) : Run K t ρ os P := fun R F ps σ H Dn I cn => by
  obtain ⟨p, hv, hp⟩ := I.at hi
  obtain ⟨F2, e2, r2, J⟩ := I.hst.stillD hp hd
  have sl := Paired.setR (F := SlR K F2 ps) (show SlR K F2 ps (some (.ref p)) (.fz d) from r2) j (I.sl.up e2 (List.prefix_refl _))
  rw [set_self hv] at sl
  exact h R F2 ps σ H Dn ⟨sl, J⟩ (cn.up e2 (List.prefix_refl _))
end
/-! ### rules with K -/
theorem sl_listK {X : Cx} {K : PySem.W.Frag} (hK : X.K = K) : L2.SlR X (rSlL K) := by subst hK; exact sl_list
theorem op_inK {X : Cx} {K : PySem.W.Frag} (hK : X.K = K) : OpR X (compareOp .In) (rIn K false) := by subst hK; exact op_in_seq
theorem op_niK {X : Cx} {K : PySem.W.Frag} (hK : X.K = K) : OpR X (compareOp .NotIn) (rIn K true) := by subst hK; exact op_notIn_seq
theorem mt_countBK {X : Cx} {K : PySem.W.Frag} (hK : X.K = K) (hu : X.A.units + 64 < cLine) : MtR X "list.count" (rCntB K) := by subst hK; exact mt_countB hu
theorem mt_indexK {X : Cx} {K : PySem.W.Frag} (hK : X.K = K) : MtR X "list.index" (rIndex K) := by subst hK; exact mt_index
theorem _root_.L2H.RoomH.units {k : Nat} {A : Around} (r : RoomH k A) : A.units + 64 < cLine := by have := r.un; omega
/-- a class of a class -/
def isC (c c' : Cn) : Bool := decide (c = c') || decide (c' = .ApartError)
theorem kit_of {K : PySem.W.Frag} {S A : Addr} {b : Bool} (h1 : PySem.W.isClsIn K A = true) (h2 : PySem.W.typeIn K (.ref A) = some (.type "type")) (hs : PySem.W.subIn K (.ref S) (.ref S) = some true) (h3 : PySem.W.subIn K (.ref S) (.ref A) = some b) : PySem.W.kitOne K (.ref S) (.ref A) = some b := by
  unfold PySem.W.kitOne
  split
  · rename_i e
    have e : Value.ref S = Value.ref A := eq_of_beq e
    cases e
    rw [hs] at h3
    exact h3
  · show (if ((PySem.W.clsIn K A).isSome && PySem.W.typeIn K (.ref A) == some (.type "type")) = true then PySem.W.subIn K (.ref S) (.ref A) else none) = some b
    have h1' : (PySem.W.clsIn K A).isSome = true := h1
    rw [if_pos (by rw [h1', h2]; rfl)]
    exact h3
theorem kit_ofT {K : PySem.W.Frag} {S : Addr} {T : String} {b : Bool} (h1 : PySem.W.kitMeta T = true) (h3 : PySem.W.subIn K (.ref S) (.type T) = some b) : PySem.W.kitOne K (.ref S) (.type T) = some b := by
  unfold PySem.W.kitOne
  split
  · rename_i e
    have e : Value.ref S = Value.type T := eq_of_beq e
    cases e
  · show (if PySem.W.kitMeta T = true then PySem.W.subIn K (.ref S) (.type T) else none) = some b
    rw [if_pos h1]
    exact h3
theorem exm_of {K : PySem.W.Frag} {S A : Addr} (h0 : PySem.W.subIn K (.ref A) (.type "BaseException") = some true) (h1 : PySem.W.isClsIn K A = true) (h2 : PySem.W.typeIn K (.ref A) = some (.type "type")) (h3 : PySem.W.subIn K (.ref S) (.ref A) = some true) : PySem.W.exmOne K (.ref S) (.ref A) = some true := by
  unfold PySem.W.exmOne
  rw [if_pos (by rw [h0]; rfl)]
  show (if ((PySem.W.clsIn K A).isSome && PySem.W.typeIn K (.ref A) == some (.type "type")) = true then PySem.W.subIn K (.ref S) (.ref A) else none) = some true
  have h1' : (PySem.W.clsIn K A).isSome = true := h1
  rw [if_pos (by rw [h1', h2]; rfl)]
  exact h3
theorem exn_ne {e : Exn} (h : (!e.fs.isEmpty) = true) : e.fs ≠ [] := fun z => by rw [z] at h; cases h
section
variable {X : Cx} {K : PySem.W.Frag} {x n : Str} {c : Value} {i : Nat} {body suite : List Stmt} {b₀ : Stmt} {np pos pos' : Pos} {tb : WX → TS} {ts : Addr → Value → Option Addr → TS} {Wout : WX}
theorem ps_tryK (hK : X.K = K) (h1 : X.stack = X.env :: X.outer) (h2 : X.env.frame = some X.env.locals) (h3 : X.N.Nodup) (h4 : X.N[i]? = some n) (h5 : X.env.kindOf n = some .local) (h6 : Names X x c) (tk : L2N.Takes X Wout)
    (hb : ∀ (W : WX) (pn : List (Addr × Obj)) (xe : Value → Shared → Prop), L2N.Takes (X.tr pn xe) W → PassesOwn (model X.prog X.w) X.A X.env xe → PSs (X.tr pn xe) body (tb W))
    (hsu : ∀ (a : Addr) (oe : Obj) (cls : Value) (d : Option Addr) (pn : List (Addr × Obj)), L2N.Zn cls d oe → (∃ vs, oe.data = .fields vs) → PSs (X.suite a ((a, oe) :: pn)) (b₀ :: suite) (ts a cls d)) :
    PS X (.Try body [.ExceptHandler (some (.Name x np)) (some n) (b₀ :: suite) pos'] [] [] pos) (tTry K c i tb ts Wout) := by
  subst hK
  exact L2N.ps_try_as h1 h2 h3 h4 h5 h6 tk hb hsu
end
theorem pi_enumK {X : Cx} {K : PySem.W.Frag} (hK : X.K = K) {e : Expr} {ta : TA} {p pos tpos : Pos} {elts : List Expr} {kk : Nat} (hg : Gl X "enumerate") (hm : X.mg "enumerate" = none) (ha : PA X [e] ta) (hs : starEach [e] X.env = [(false, eval e X.env)] := by rfl) :
    PI X (.Tuple elts kk tpos) (.Call (.Name "enumerate" p) [e] [] pos) (iEnum K ta) := by
  subst hK
  exact pi_enum hg hm ha hs
/-- the statements of a class -/
def clsBody : Stmt → List Stmt
  | .ClassDef _ _ _ body .. => body
  | _ => []
section
variable {α μ : Type} {cl : Cn → Addr} {mk : α → Ret} {om : μ → List Ow} {o : Out α μ} {r : Ret} {os' os2 : List Ow} {n : Nat} {sl : Sl} {C : Addr} {fs : List (Str × D)} {ρ' : List Sl}
theorem RPo.ret (h : OutR cl mk om o r os') (g : RPo n mk om o sl os2) (hn : ∀ s, (om s).length = n) : RetP os'.length os' r sl os2 := by
  cases o with
  | ok a s =>
    obtain ⟨rfl, rfl⟩ := h
    rw [hn s]
    exact g
  | ex e s => exact g.elim
theorem RXo.ex (h : OutR cl mk om o r os') (g : RXo cl om o C fs ρ' os2) (hn : ∀ s, (om s).length = n) : RetX os' r C fs ρ' os2 := by
  cases o with
  | ok a s => exact g.elim
  | ex e s =>
    obtain ⟨rfl, rfl⟩ := h
    exact g
end
end Ly

set_option Elab.async false
set_option linter.all false
set_option autoImplicit false
set_option maxRecDepth 100000
set_option maxHeartbeats 4000000
/-! Lay26: list(range(..)). -/
namespace Ly
open PySem PySem.Spec PyProof.Rows L2 L2H
def rngC (lo hi : Int) : Option (List Int) := if rngOk lo hi = true ∧ (hi - lo).toNat ≤ LIM then some (rng lo hi) else none
section
variable {K : PySem.W.Frag} {R F G H H' : Hp} {ps : List Addr} {ρ ρ' : List Sl} {os os1 os2 os3 : List Ow} {σ : L2.St} {te ta tb : TE}
theorem en_rg {a b : Int} {ns : List Int} (h : rngC a b = some ns) {Q : VK} (I : St K R F ps ρ os σ H) (q : ∀ p F' H', Ex F F' → St K R F' (ps ++ [p]) ρ (os ++ [.has (E ns)]) σ H' → St K R F' ps ρ os σ H' → Q (.ref p) H') : RgOk a b ∧ ∀ p, H p = none → Q (.ref p) (upd H p (.lst (rgV a b))) := by
  unfold rngC at h
  split at h
  case isFalse => cases h
  rename_i hz
  cases h
  have hk := of_decide_eq_true (show decide _ = true from hz.1)
  refine ⟨⟨hk.1, hk.2.1, hk.2.2.1, hk.2.2.2, hz.2⟩, fun p hp => ?_⟩
  obtain ⟨i1, i2⟩ := I.fin hp (o := .lst (rgV a b)) (d := E (rng a b)) (by
    show ObjR K F _ (.lst ((rng a b).map D.int))
    refine .lst ?_
    have e : rgV a b = (rng a b).map V.int := by
      unfold rgV rng
      rw [List.map_map]
      rfl
    rw [e]
    exact rpl_ints _)
  exact q p F _ (Ex.refl F) i1 i2
theorem en_listRg1 {n : Int} {ns : List Int} (ha : Ev K ta ρ os (.int n) os1) (h : rngC 0 n = some ns) : EvN K (tLstRg (tRg1 ta)) ρ os (E ns) os1 := fun R F ps σ H Q I q =>
  ha R F ps σ H _ I fun v F1 H1 e1 I1 r1 => by
    cases (show Rp K F1 v (.int n) from r1)
    exact ⟨n, rfl, en_rg h I1 fun p F2 H2 e2 i1 i2 => q p F2 H2 (e1.trans e2) i1 i2⟩
theorem en_listRg2 {m n : Int} {ns : List Int} (ha : Ev K ta ρ os (.int m) os1) (hb : Ev K tb ρ os1 (.int n) os2) (h : rngC m n = some ns) : EvN K (tLstRg (tRg2 ta tb)) ρ os (E ns) os2 := fun R F ps σ H Q I q =>
  ha R F ps σ H _ I fun v F1 H1 e1 I1 r1 => hb R F1 ps σ H1 _ I1 fun w F2 H2 e2 I2 r2 => by
    cases (show Rp K F1 v (.int m) from r1)
    cases (show Rp K F2 w (.int n) from r2)
    exact ⟨m, n, rfl, rfl, en_rg h I2 fun p F3 H3 e3 i1 i2 => q p F3 H3 (e1.trans (e2.trans e3)) i1 i2⟩
end
end Ly

set_option Elab.async false
set_option linter.all false
set_option autoImplicit false
set_option maxRecDepth 100000
set_option maxHeartbeats 4000000
namespace K65
open PySem L2 Ly
/-- what is raised -/
def rz : Cn → Bool
  | .BadValue => true
  | _ => false

def m_is_integer (value_1 : D) : Option Bool :=
  obind (dIsi value_1 "int") fun (b_2 : Bool) =>
  obind (cond b_2 (obind (dIsi value_1 "bool") fun (b_4 : Bool) => some (!b_4)) (some false)) fun (b_6 : Bool) =>
  some b_6

def m_first_not_greater_w1c (tails_1 : (List Int)) (number_2 : Int) : (Int × Int) → Option Bool
  | (low_3, high_4) =>  some (decide (low_3 < high_4))
def m_first_not_greater_w1 (tails_1 : (List Int)) (number_2 : Int) : (Int × Int) → Option (Ctl (Int × Int) Empty)
  | (low_3, high_4) =>
  obind (fdivI (low_3 + high_4) (2 : Int)) fun (q_5 : Int) =>
  obind (atI tails_1 q_5) fun (t_7 : Int) =>
  cond (decide (number_2 < t_7)) (
  some (.nx ((q_5 + (1 : Int)), high_4))) (
  some (.nx (low_3, q_5)))
def m_first_not_greater (tails_1 : (List Int)) (number_2 : Int) : Option Int :=
  obind (whileN (m_first_not_greater_w1c tails_1 number_2) (m_first_not_greater_w1 tails_1 number_2) (tails_1.length + 1) ((0 : Int), (tails_1.length : Int))) fun (⟨low_10, high_11⟩ : Int × Int) =>
  some low_10

def m_lengths_from_l1 (numbers_1 : (List Int)) : Int → ((List Int) × (List Int)) → Option (Ctl ((List Int) × (List Int)) Empty)
  | at_8, (s_6, s_7) =>
  obind (atI numbers_1 at_8) fun (t_9 : Int) =>
  obind (m_first_not_greater s_7 t_9) fun (r_11 : Int) =>
  obind (cond (decide (r_11 = (s_7.length : Int))) (obind (atI numbers_1 at_8) fun (t_15 : Int) =>
  obind (appL s_7 t_15) fun (tails_17 : (List Int)) =>
  some tails_17) (obind (atI numbers_1 at_8) fun (t_19 : Int) =>
  obind (setL s_7 r_11 t_19) fun (tails_21 : (List Int)) =>
  some tails_21)) fun (w_14 : (List Int)) =>
  obind (setL s_6 at_8 (r_11 + (1 : Int))) fun (found_24 : (List Int)) =>
  some (.nx (found_24, w_14))
def m_lengths_from (numbers_1 : (List Int)) : Option (List Int) :=
  obind (repL [(0 : Int)] (numbers_1.length : Int)) fun (ys_2 : (List Int)) =>
  obind (rngDL ((numbers_1.length : Int) - (1 : Int)) (-1 : Int)) fun (rg_4 : (List Int)) =>
  obind (loopN (m_lengths_from_l1 numbers_1) rg_4 (ys_2, ([] : (List Int)))) fun (⟨w_26, w_27⟩ : (List Int) × (List Int)) =>
  some w_26

def m_rising_places_l1 (numbers_1 : (List Int)) (r_2 : (List Int)) : (Int × Int) → (Int × (List Int)) → Option (Ctl (Int × (List Int)) Empty)
  | ⟨at_6, number_7⟩, (left_4, s_5) =>
  obind (atI r_2 at_6) fun (t_8 : Int) =>
  obind (cond (decide (t_8 = left_4)) (obind (cond (decide ((0 : Int) < left_4)) (obind (cond (decide ((s_5.length : Int) = (0 : Int))) (some true) (obind (atI s_5 (-1 : Int)) fun (t_10 : Int) => obind (atI numbers_1 t_10) fun (t_12 : Int) => some (decide (t_12 < number_7)))) fun (b_14 : Bool) => some b_14) (some false)) fun (b_17 : Bool) => some b_17) (some false)) fun (b_20 : Bool) =>
  cond b_20 (
  obind (appL s_5 at_6) fun (found_24 : (List Int)) =>
  some (.nx ((left_4 - (1 : Int)), found_24))) (
  some (.nx (left_4, s_5)))
def m_rising_places (numbers_1 : (List Int)) : Option (List Int) :=
  obind (m_lengths_from numbers_1) fun (r_2 : (List Int)) =>
  obind (loopN (m_rising_places_l1 numbers_1 r_2) (enumL numbers_1) ((maxDL r_2 (0 : Int)), ([] : (List Int)))) fun (⟨left_26, w_27⟩ : Int × (List Int)) =>
  some w_27

def m_kept_row_c1 : D → Unit → Option (Option Bool × Unit)
  | one_6, _u => obind (m_is_integer one_6) fun (r_7 : Bool) => some (some r_7, ())
def m_kept_row_c2 : D → Option (Option (L2.Key × Bool))
  | one_18 => obind (dKey one_18) fun (k_19 : L2.Key) => some (some (k_19, true))
def m_kept_row (numbers_1 : D) : Option (Out (List Int) Unit) :=
  obind (dIsi numbers_1 "list") fun (b_2 : Bool) =>
  obind (cond (!b_2) (some true) (obind (dLst numbers_1) fun (ds_4 : (List D)) => obind (comp m_kept_row_c1 ds_4 ()) fun (⟨ys_9, u_10⟩ : (List Bool) × Unit) => some (!(ys_9.all id)))) fun (b_12 : Bool) =>
  cond b_12 (
  some (.ex (⟨.BadValue, [("name", E (("numbers" : Str) : Str))]⟩ : Exn) ())) (
  obind (dLst numbers_1) fun (ds_16 : (List D)) =>
  obind (dcomp m_kept_row_c2 ds_16) fun (ys_21 : (List (L2.Key × Bool))) =>
  obind (dLenA numbers_1) fun (n_23 : Int) =>
  cond (decide (((⟨ys_21⟩ : (Dct Bool)).l.length : Int) < n_23)) (
  some (.ex (⟨.BadValue, [("name", E (("numbers" : Str) : Str))]⟩ : Exn) ())) (
  obind (dLI numbers_1) fun (ns_26 : (List Int)) =>
  obind (m_rising_places ns_26) fun (r_28 : (List Int)) =>
  some (.ok r_28 ())))


def m_law_stream (script_1 : (List Int)) : Option (LH3 (List Int) Int Int) :=
  some (⟨script_1, (0 : Int), (0 : Int)⟩ : (LH3 (List Int) Int Int))


def m_law_next (stream_1 : (LH3 (List Int) Int Int)) (many_2 : Int) : Option (Int × (LH3 (List Int) Int Int)) :=
  obind (cond (decide (stream_1.b = (0 : Int))) (obind (cond (decide (stream_1.c < (stream_1.a.length : Int))) (obind (atI stream_1.a stream_1.c) fun (t_7 : Int) =>
  obind (modI (absI t_7) (1000000000000000000000000000000000000000000000000000000000000000000000000000000000000000000000000000000000000000000000000000000000000000000000000000000000000000000000000000000000000000000000000 : Int)) fun (q_9 : Int) =>
  some q_9) (some ((7 : Int) + stream_1.c))) fun (cell_6 : Int) =>
  obind (cond (decide (cell_6 < (1000000000000000000 : Int))) (obind (mulI cell_6 (48271 : Int)) fun (q_14 : Int) =>
  obind (mulI stream_1.c (69621 : Int)) fun (q_16 : Int) =>
  obind (modI ((q_14 + q_16) + (11 : Int)) (2147483647 : Int)) fun (q_18 : Int) =>
  obind (mulI q_18 (16807 : Int)) fun (q_20 : Int) =>
  obind (modI (q_20 + (13 : Int)) (2147483647 : Int)) fun (q_22 : Int) =>
  obind (mulI q_22 (65537 : Int)) fun (q_24 : Int) =>
  some (q_24 + q_18)) (some cell_6)) fun (cell_13 : Int) =>
  some (⟨(⟨stream_1.a, cell_13, stream_1.c⟩ : (LH3 (List Int) Int Int)).a, (⟨stream_1.a, cell_13, stream_1.c⟩ : (LH3 (List Int) Int Int)).b, (stream_1.c + (1 : Int))⟩ : (LH3 (List Int) Int Int))) (some stream_1)) fun (w_4 : (LH3 (List Int) Int Int)) =>
  obind (modI w_4.b many_2) fun (q_28 : Int) =>
  obind (fdivI w_4.b many_2) fun (q_30 : Int) =>
  some (q_28, (⟨w_4.a, q_30, w_4.c⟩ : (LH3 (List Int) Int Int)))


def m_law_pick {α : Type} [Enc α] (stream_1 : (LH3 (List Int) Int Int)) (rows_2 : (Sq α)) : Option (α × (LH3 (List Int) Int Int)) :=
  obind (m_law_next stream_1 (rows_2.v.length : Int)) fun (⟨r_3, w_4⟩ : Int × (LH3 (List Int) Int Int)) =>
  obind (atI rows_2.v r_3) fun (t_6 : α) =>
  some (t_6, w_4)


def m_law_from (stream_1 : (LH3 (List Int) Int Int)) (low_2 : Int) (high_3 : Int) : Option (Int × (LH3 (List Int) Int Int)) :=
  obind (m_law_next stream_1 ((high_3 - low_2) + (1 : Int))) fun (⟨r_4, w_5⟩ : Int × (LH3 (List Int) Int Int)) =>
  some ((low_2 + r_4), w_5)

def m_law_shuffled_l1 {α : Type} [Enc α] : Int → ((LH3 (List Int) Int Int) × (List α) × (List α)) → Option (Ctl ((LH3 (List Int) Int Int) × (List α) × (List α)) Empty)
  | turn_8, (s_5, s_6, s_7) =>
  obind (m_law_next s_5 (s_6.length : Int)) fun (⟨r_9, w_10⟩ : Int × (LH3 (List Int) Int Int)) =>
  obind (popL s_6 r_9) fun (⟨x_12, left_13⟩ : α × (List α)) =>
  obind (appL s_7 x_12) fun (found_15 : (List α)) =>
  some (.nx (w_10, left_13, found_15))
def m_law_shuffled {α : Type} [Enc α] (stream_1 : (LH3 (List Int) Int Int)) (rows_2 : (List α)) : Option ((List α) × (LH3 (List Int) Int Int)) :=
  obind (rngL (0 : Int) (rows_2.length : Int)) fun (rg_3 : (List Int)) =>
  obind (loopN m_law_shuffled_l1 rg_3 (stream_1, rows_2, ([] : (List α)))) fun (⟨w_17, w_18, w_19⟩ : (LH3 (List Int) Int Int) × (List α) × (List α)) =>
  some (w_19, w_17)


def m_law_is_row (value_1 : D) (kind_2 : Str) (many_3 : Int) : Option Bool :=
  obind (cond (decide (kind_2 = ("L" : Str))) (obind (dIsi value_1 "list") fun (b_4 : Bool) => some (!b_4)) (some false)) fun (b_6 : Bool) =>
  cond b_6 (
  some false) (
  obind (cond (decide (kind_2 = ("T" : Str))) (obind (dIsi value_1 "tuple") fun (b_10 : Bool) => some (!b_10)) (some false)) fun (b_12 : Bool) =>
  cond b_12 (
  some false) (
  obind (cond (false) (some true) (obind (dLenA value_1) fun (n_16 : Int) => some (decide (n_16 = many_3)))) fun (b_18 : Bool) =>
  some b_18))

def m_law_same_l1 (self : D → D → Option Bool) (actual_1 : D) (due_2 : D) : Int → Unit → Option (Ctl Unit Bool)
  | at_22, _u =>
  obind (dIx actual_1 at_22) fun (t_23 : D) =>
  obind (dIx due_2 at_22) fun (t_25 : D) =>
  obind (self t_23 t_25) fun (r_27 : Bool) =>
  cond (!r_27) (
  some (.rt false)) (
  some (.nx ()))
def m_law_same_l2 (self : D → D → Option Bool) (actual_1 : D) (due_2 : D) : L2.Key → Unit → Option (Ctl Unit Bool)
  | key_49, _u =>
  obind (dDct actual_1) fun (ds_50 : (List (L2.Key × D))) =>
  obind (cond (!dhas ds_50 key_49) (some true) (obind (dDct actual_1) fun (ds_52 : (List (L2.Key × D))) => obind (dget ds_52 key_49) fun (t_54 : D) => obind (dDct due_2) fun (ds_56 : (List (L2.Key × D))) => obind (dget ds_56 key_49) fun (t_58 : D) => obind (self t_54 t_58) fun (r_60 : Bool) => some (!r_60))) fun (b_62 : Bool) =>
  cond b_62 (
  some (.rt false)) (
  some (.nx ()))
def m_law_same : Nat → D → D → Option Bool
  | 0, _, _ => none
  | n + 1, actual_1, due_2 =>
  obind (dIsi due_2 "tuple") fun (b_3 : Bool) =>
  obind (cond b_3 (some true) (obind (dIsi due_2 "list") fun (b_5 : Bool) => some b_5)) fun (b_7 : Bool) =>
  cond b_7 (
  obind (dIsi due_2 "tuple") fun (b_11 : Bool) =>
  obind (dLenA due_2) fun (n_13 : Int) =>
  obind (m_law_is_row actual_1 (cond b_11 ("T" : Str) ("L" : Str)) n_13) fun (r_15 : Bool) =>
  cond (!r_15) (
  some false) (
  obind (dLenA due_2) fun (n_18 : Int) =>
  obind (rngL (0 : Int) n_18) fun (rg_20 : (List Int)) =>
  obind (loopM ((m_law_same_l1 (m_law_same n)) actual_1 due_2) rg_20 ()) fun c_31 => ctl c_31 (fun (u_30 : Unit) =>
  some true) (fun r_33 => some r_33))) (
  obind (dIsi due_2 "dict") fun (b_34 : Bool) =>
  cond b_34 (
  obind (dIsi actual_1 "dict") fun (b_37 : Bool) =>
  obind (cond (!b_37) (some true) (obind (dLenA actual_1) fun (n_39 : Int) => obind (dLenA due_2) fun (n_41 : Int) => some (!decide (n_39 = n_41)))) fun (b_43 : Bool) =>
  cond b_43 (
  some false) (
  obind (dDct due_2) fun (ds_47 : (List (L2.Key × D))) =>
  obind (loopM ((m_law_same_l2 (m_law_same n)) actual_1 due_2) (ds_47.map (·.1)) ()) fun c_67 => ctl c_67 (fun (u_66 : Unit) =>
  some true) (fun r_69 => some r_69))) (
  obind (dIsi due_2 "bool") fun (b_70 : Bool) =>
  cond b_70 (
  obind (dIsi actual_1 "bool") fun (b_73 : Bool) =>
  obind (cond b_73 (obind (dEq actual_1 due_2) fun (b_75 : Bool) => some b_75) (some false)) fun (b_77 : Bool) =>
  some b_77) (
  obind (dIsi due_2 "str") fun (b_80 : Bool) =>
  cond b_80 (
  obind (dIsi actual_1 "str") fun (b_83 : Bool) =>
  obind (cond b_83 (obind (dEq actual_1 due_2) fun (b_85 : Bool) => some b_85) (some false)) fun (b_87 : Bool) =>
  some b_87) (
  obind (dIsi due_2 "int") fun (b_90 : Bool) =>
  cond b_90 (
  obind (dIsi actual_1 "int") fun (b_93 : Bool) =>
  obind (cond b_93 (obind (dIsi actual_1 "bool") fun (b_95 : Bool) => obind (cond (!b_95) (obind (dEq actual_1 due_2) fun (b_97 : Bool) => some b_97) (some false)) fun (b_99 : Bool) => some b_99) (some false)) fun (b_102 : Bool) =>
  some b_102) (
  some (isNon (E (actual_1 : D))))))))


def m_law_named (error_1 : Exn) : Option Str :=
  obind (catL [(isC error_1.c .BadEdit), (isC error_1.c .BadHistory), (isC error_1.c .BadText), (isC error_1.c .BadValue)] [(isC error_1.c .NotShown), (isC error_1.c .Ring), (isC error_1.c .Sealed), (isC error_1.c .TooOld)]) fun (ys_2 : (List Bool)) =>
  obind (catL ys_2 [(isC error_1.c .NothingToUndo), (isC error_1.c .NothingToRedo)]) fun (ys_4 : (List Bool)) =>
  obind (catL ys_4 [(isC error_1.c .BadVersion), (isC error_1.c .TwoFaces)]) fun (ys_6 : (List Bool)) =>
  cond ((!decide (((ys_6.countP fun y => decide (y = true) : Nat) : Int) = (1 : Int))) || ((!(isC error_1.c .ApartError)) || (!true))) (
  some ("other" : Str)) (
  obind (idxL ys_6 true) fun (n_9 : Int) =>
  obind (atI (Txt.split ("BadEdit BadHistory BadText BadValue NotShown Ring Sealed TooOld NothingToUndo NothingToRedo BadVersion TwoFaces" : Str) (" " : Str)) n_9) fun (t_11 : Str) =>
  some t_11)


def m_law_attributes (e_1 : Exn) (name_2 : Str) : Option (Tup D) :=
  cond (decide (name_2 = ("BadEdit" : Str))) (
  obind (fldE e_1 "word") fun (t_4 : D) =>
  some (⟨[t_4]⟩ : Tup D)) (
  cond (decide (name_2 = ("BadHistory" : Str))) (
  obind (fldE e_1 "index") fun (t_7 : D) =>
  obind (fldE e_1 "word") fun (t_9 : D) =>
  some (⟨[t_7, t_9]⟩ : Tup D)) (
  cond (decide (name_2 = ("BadText" : Str))) (
  obind (fldE e_1 "line") fun (t_12 : D) =>
  obind (fldE e_1 "column") fun (t_14 : D) =>
  some (⟨[t_12, t_14]⟩ : Tup D)) (
  cond (decide (name_2 = ("BadValue" : Str))) (
  obind (fldE e_1 "name") fun (t_17 : D) =>
  some (⟨[t_17]⟩ : Tup D)) (
  cond (decide (name_2 = ("NotShown" : Str))) (
  obind (fldE e_1 "slot") fun (t_20 : D) =>
  some (⟨[t_20]⟩ : Tup D)) (
  cond (decide (name_2 = ("Ring" : Str))) (
  obind (fldE e_1 "nodes") fun (t_23 : D) =>
  some (⟨[t_23]⟩ : Tup D)) (
  cond (decide (name_2 ∈ ([("Sealed" : Str), ("TwoFaces" : Str)] : List Str))) (
  obind (fldE e_1 "id") fun (t_26 : D) =>
  some (⟨[t_26]⟩ : Tup D)) (
  cond (decide (name_2 = ("TooOld" : Str))) (
  obind (fldE e_1 "version") fun (t_29 : D) =>
  some (⟨[t_29]⟩ : Tup D)) (
  cond (decide (name_2 = ("BadVersion" : Str))) (
  obind (fldE e_1 "hand") fun (t_32 : D) =>
  some (⟨[t_32]⟩ : Tup D)) (
  some (⟨[]⟩ : Tup D))))))))))


def m_law_error (error_1 : Exn) : Option (List D) :=
  obind (m_law_named error_1) fun (r_2 : Str) =>
  obind (m_law_attributes error_1 r_2) fun (r_4 : (Tup D)) =>
  some ([(E (("raised" : Str) : Str)), (E (r_2 : Str)), (E (r_4 : (Tup D)))] : (List D))

def m_law_rising_l1 (numbers_1 : (List Int)) (turn_7 : Int) : Int → (List Int) → Option (Ctl (List Int) Empty)
  | later_11, s_10 =>
  obind (atI numbers_1 later_11) fun (t_12 : Int) =>
  obind (atI numbers_1 (((numbers_1.length : Int) - (1 : Int)) - turn_7)) fun (t_14 : Int) =>
  cond (decide (t_14 < t_12)) (
  obind (atI s_10 (((numbers_1.length : Int) - (1 : Int)) - turn_7)) fun (t_17 : Int) =>
  obind (atI s_10 later_11) fun (t_19 : Int) =>
  obind (setL s_10 (((numbers_1.length : Int) - (1 : Int)) - turn_7) (max2 t_17 (t_19 + (1 : Int)))) fun (longest_21 : (List Int)) =>
  some (.nx longest_21)) (
  some (.nx s_10))
def m_law_rising_l2 (numbers_1 : (List Int)) : Int → (List Int) → Option (Ctl (List Int) Empty)
  | turn_7, s_6 =>
  obind (rngL ((((numbers_1.length : Int) - (1 : Int)) - turn_7) + (1 : Int)) (numbers_1.length : Int)) fun (rg_8 : (List Int)) =>
  obind (loopN (m_law_rising_l1 numbers_1 turn_7) rg_8 s_6) fun (w_23 : (List Int)) =>
  some (.nx w_23)
def m_law_rising_l3 (numbers_1 : (List Int)) (w_25 : (List Int)) : Int → (Int × (List Int)) → Option (Ctl (Int × (List Int)) Empty)
  | at_36, (left_34, s_35) =>
  obind (cond (decide ((0 : Int) < left_34)) (obind (atI w_25 at_36) fun (t_37 : Int) => obind (cond (decide (t_37 = left_34)) (obind (cond (decide ((s_35.length : Int) = (0 : Int))) (some true) (obind (atI numbers_1 at_36) fun (t_39 : Int) => obind (atI s_35 (-1 : Int)) fun (t_41 : Int) => obind (atI numbers_1 t_41) fun (t_43 : Int) => some (decide (t_43 < t_39)))) fun (b_45 : Bool) => some b_45) (some false)) fun (b_48 : Bool) => some b_48) (some false)) fun (b_51 : Bool) =>
  cond b_51 (
  obind (appL s_35 at_36) fun (found_55 : (List Int)) =>
  some (.nx ((left_34 - (1 : Int)), found_55))) (
  some (.nx (left_34, s_35)))
def m_law_rising (numbers_1 : (List Int)) : Option (List Int) :=
  obind (repL [(1 : Int)] (numbers_1.length : Int)) fun (ys_2 : (List Int)) =>
  obind (rngL (0 : Int) (numbers_1.length : Int)) fun (rg_4 : (List Int)) =>
  obind (loopN (m_law_rising_l2 numbers_1) rg_4 ys_2) fun (w_25 : (List Int)) =>
  obind (cond (decide ((0 : Int) < (w_25.length : Int))) (obind (maxL w_25) fun (m_27 : Int) => some m_27) ( some (0 : Int))) fun (v_29 : Int) =>
  obind (rngL (0 : Int) (numbers_1.length : Int)) fun (rg_32 : (List Int)) =>
  obind (loopN (m_law_rising_l3 numbers_1 w_25) rg_32 (v_29, ([] : (List Int)))) fun (⟨left_57, w_58⟩ : Int × (List Int)) =>
  some w_58

def m_law_all_rising_c1 (numbers_1 : (List Int)) (at_5 : Int) : (List Int) → Unit → Option (Option (List Int) × Unit)
  | row_6, _u => obind (cond (decide ((row_6.length : Int) = (0 : Int))) (some true) (obind (atI row_6 (-1 : Int)) fun (t_7 : Int) => obind (atI numbers_1 t_7) fun (t_9 : Int) => obind (atI numbers_1 at_5) fun (t_11 : Int) => some (decide (t_9 < t_11)))) fun (b_13 : Bool) => cond b_13 (obind (catL row_6 [at_5]) fun (ys_16 : (List Int)) => some (some ys_16, ())) (some (none, ()))
def m_law_all_rising_l1 (numbers_1 : (List Int)) : Int → (List (List Int)) → Option (Ctl (List (List Int)) Empty)
  | at_5, rows_4 =>
  obind (comp (m_law_all_rising_c1 numbers_1 at_5) rows_4 ()) fun (⟨ys_18, u_19⟩ : (List (List Int)) × Unit) =>
  obind (catL rows_4 ys_18) fun (ys_22 : (List (List Int))) =>
  some (.nx ys_22)
def m_law_all_rising (numbers_1 : (List Int)) : Option (List (List Int)) :=
  obind (rngL (0 : Int) (numbers_1.length : Int)) fun (rg_2 : (List Int)) =>
  obind (loopN (m_law_all_rising_l1 numbers_1) rg_2 ([([] : (List Int))] : (List (List Int)))) fun (rows_24 : (List (List Int))) =>
  some rows_24

def m_law_due_row_c1 (row_7 : (List Int)) : Int := (row_7.length : Int)
def m_law_due_row_c2 (m_10 : Int) (row_12 : (List Int)) : (List Int) := row_12
def m_law_due_row_c2t (m_10 : Int) (row_12 : (List Int)) : Bool := (decide ((row_12.length : Int) = m_10))
def m_law_due_row (numbers_1 : (List Int)) : Option (List Int) :=
  cond (decide ((9 : Int) < (numbers_1.length : Int))) (
  obind (m_law_rising numbers_1) fun (r_3 : (List Int)) =>
  some r_3) (
  obind (m_law_all_rising numbers_1) fun (r_5 : (List (List Int))) =>
  obind (mapO m_law_due_row_c1 r_5) fun (ys_8 : (List Int)) =>
  obind (maxL ys_8) fun (m_10 : Int) =>
  obind (filtO (m_law_due_row_c2t m_10) (m_law_due_row_c2 m_10) r_5) fun (ys_13 : (List (List Int))) =>
  obind (sortLI ys_13) fun (ys_15 : (List (List Int))) =>
  obind (atI ys_15 (0 : Int)) fun (t_17 : (List Int)) =>
  some t_17)

def m_law_mixed_c1 (many_2 : Int) (at_18 : Int) (r_23 : Int) (rg_26 : (List Int)) : Int → Unit → Option (Option Int × Unit)
  | k_33, _u => obind (atI rg_26 (((min2 (many_2 - at_18) r_23) - (1 : Int)) - k_33)) fun (t_34 : Int) => some (some t_34, ())
def m_law_mixed_l1 (many_2 : Int) : Int → (Int × (LH3 (List Int) Int Int) × (List (List Int))) → Option (Ctl (Int × (LH3 (List Int) Int Int) × (List (List Int))) Empty)
  | turn_21, (at_18, s_19, s_20) =>
  cond (decide (at_18 < many_2)) (
  obind (m_law_from s_19 (1 : Int) (cond (decide (many_2 < (10 : Int))) (4 : Int) (12 : Int))) fun (⟨r_23, w_24⟩ : Int × (LH3 (List Int) Int Int)) =>
  obind (rngC at_18 (at_18 + (min2 (many_2 - at_18) r_23))) fun (rg_26 : (List Int)) =>
  obind (m_law_next w_24 (3 : Int)) fun (⟨r_28, w_29⟩ : Int × (LH3 (List Int) Int Int)) =>
  obind (cond (decide ((0 : Int) < r_28)) ( some rg_26) (obind (rngL (0 : Int) (min2 (many_2 - at_18) r_23)) fun (rg_31 : (List Int)) => obind (comp (m_law_mixed_c1 many_2 at_18 r_23 rg_26) rg_31 ()) fun (⟨ys_36, u_37⟩ : (List Int) × Unit) => some ys_36)) fun (v_39 : (List Int)) =>
  obind (appL s_20 v_39) fun (parts_42 : (List (List Int))) =>
  some (.nx ((at_18 + (min2 (many_2 - at_18) r_23)), w_29, parts_42))) (
  some (.nx (at_18, s_19, s_20)))
def m_law_mixed_l2 : (List Int) → (List Int) → Option (Ctl (List Int) Empty)
  | part_52, found_51 =>
  obind (catL found_51 part_52) fun (ys_53 : (List Int)) =>
  some (.nx ys_53)
def m_law_mixed (stream_1 : (LH3 (List Int) Int Int)) (many_2 : Int) : Option ((List Int) × (LH3 (List Int) Int Int)) :=
  obind (cond (decide (many_2 < (10 : Int))) (obind (m_law_next stream_1 (2 : Int)) fun (⟨r_3, w_4⟩ : Int × (LH3 (List Int) Int Int)) => some ((decide (r_3 = (0 : Int))), w_4)) (some (false, stream_1))) fun (⟨b_6, w_7⟩ : Bool × (LH3 (List Int) Int Int)) =>
  cond b_6 (
  obind (rngC (0 : Int) many_2) fun (rg_11 : (List Int)) =>
  obind (m_law_shuffled w_7 rg_11) fun (⟨r_13, w_14⟩ : (List Int) × (LH3 (List Int) Int Int)) =>
  some (r_13, w_14)) (
  obind (rngL (0 : Int) many_2) fun (rg_16 : (List Int)) =>
  obind (loopN (m_law_mixed_l1 many_2) rg_16 ((0 : Int), w_7, ([] : (List (List Int))))) fun (⟨at_44, w_45, w_46⟩ : Int × (LH3 (List Int) Int Int) × (List (List Int))) =>
  obind (m_law_shuffled w_45 w_46) fun (⟨r_48, w_49⟩ : (List (List Int)) × (LH3 (List Int) Int Int)) =>
  obind (loopN m_law_mixed_l2 r_48 ([] : (List Int))) fun (found_55 : (List Int)) =>
  some (found_55, w_49))

def m_law_numbers_c1 (r_3 : Int) (r_6 : Int) : Int → (LH3 (List Int) Int Int) → Option (Option Int × (LH3 (List Int) Int Int))
  | one_12, s_13 => obind (mulI (one_12 - r_6) r_3) fun (q_14 : Int) => some (some q_14, s_13)
def m_law_numbers (stream_1 : (LH3 (List Int) Int Int)) (many_2 : Int) : Option ((List Int) × (LH3 (List Int) Int Int)) :=
  obind (m_law_pick stream_1 (Sq.t [(⟨(1 : Int), (1 : Int), (3 : Int), (-1 : Int), (10000000000000000000000000000000000000000 : Int)⟩ : (T5 Int Int Int Int Int)).a, (⟨(1 : Int), (1 : Int), (3 : Int), (-1 : Int), (10000000000000000000000000000000000000000 : Int)⟩ : (T5 Int Int Int Int Int)).b, (⟨(1 : Int), (1 : Int), (3 : Int), (-1 : Int), (10000000000000000000000000000000000000000 : Int)⟩ : (T5 Int Int Int Int Int)).c, (⟨(1 : Int), (1 : Int), (3 : Int), (-1 : Int), (10000000000000000000000000000000000000000 : Int)⟩ : (T5 Int Int Int Int Int)).d, (⟨(1 : Int), (1 : Int), (3 : Int), (-1 : Int), (10000000000000000000000000000000000000000 : Int)⟩ : (T5 Int Int Int Int Int)).e])) fun (⟨r_3, w_4⟩ : Int × (LH3 (List Int) Int Int)) =>
  obind (m_law_next w_4 (12 : Int)) fun (⟨r_6, w_7⟩ : Int × (LH3 (List Int) Int Int)) =>
  obind (m_law_mixed w_7 many_2) fun (⟨r_9, w_10⟩ : (List Int) × (LH3 (List Int) Int Int)) =>
  obind (comp (m_law_numbers_c1 r_3 r_6) r_9 w_10) fun (⟨ys_16, w_17⟩ : (List Int) × (LH3 (List Int) Int Int)) =>
  some (ys_16, w_17)


def m_law_ask (numbers_1 : D) : Option (Mk × D) :=
  obind (obind (m_kept_row numbers_1) fun (o_8 : (Out (List Int) Unit)) =>
  oout o_8 (fun (e_9 : Exn) (_ : Unit) => some (.ex e_9 ())) fun (r_7 : (List Int)) (_ : Unit) =>
  some (.ok ((.each (List.replicate 1 .fz ++ [.all .fz]), .lst ([E (("told" : Str) : Str)] ++ [E (r_7 : (List Int))])) : Mk × D) ())) fun (o_2 : Out (Mk × D) Unit) =>
  oout o_2 (fun (e_4 : Exn) (_ : Unit) => obind (Ly.guard (rz e_4.c && !e_4.fs.isEmpty)) fun (_ : Unit) =>
  obind (m_law_error e_4) fun (r_12 : (List D)) =>
  some ((.all .fz, E (r_12 : (List D))) : Mk × D)) fun (rr_3 : (Mk × D)) (_ : Unit) => some rr_3


def m_law_wrong (stream_1 : (LH3 (List Int) Int Int)) (numbers_2 : (List Int)) : Option (D × (LH3 (List Int) Int Int)) :=
  obind (m_law_next stream_1 (6 : Int)) fun (⟨r_3, w_4⟩ : Int × (LH3 (List Int) Int Int)) =>
  obind (m_law_next w_4 ((numbers_2.length : Int) + (1 : Int))) fun (⟨r_6, w_7⟩ : Int × (LH3 (List Int) Int Int)) =>
  cond ((decide (r_3 = (0 : Int))) && (decide ((0 : Int) < (numbers_2.length : Int)))) (
  obind (m_law_pick w_7 (Sq.l numbers_2)) fun (⟨r_10, w_11⟩ : Int × (LH3 (List Int) Int Int)) =>
  obind (catL (cutL numbers_2 none (some r_6)) [r_10]) fun (ys_13 : (List Int)) =>
  obind (catL ys_13 (cutL numbers_2 (some r_6) none)) fun (ys_15 : (List Int)) =>
  some ((E (ys_15 : (List Int))), w_11)) (
  cond (decide (r_3 = (1 : Int))) (
  some ((E ((⟨numbers_2⟩ : Tup Int) : (Tup Int))), w_7)) (
  cond (decide (r_3 < (5 : Int))) (
  obind (m_law_pick w_7 (Sq.t [(E (true : Bool)), (E (false : Bool)), (E (() : Unit)), (E (("1" : Str) : Str)), (E ((⟨(1 : Int)⟩ : (T1 Int)) : (T1 Int))), (E ([(2 : Int)] : (List Int)))])) fun (⟨r_19, w_20⟩ : D × (LH3 (List Int) Int Int)) =>
  obind (catL ((cutL numbers_2 none (some r_6)).map (E : Int → D)) [r_19]) fun (ys_22 : (List D)) =>
  obind (catL ys_22 ((cutL numbers_2 (some r_6) none).map (E : Int → D))) fun (ys_24 : (List D)) =>
  some ((E (ys_24 : (List D))), w_20)) (
  obind (m_law_pick w_7 (Sq.t [(E (() : Unit)), (E (("12" : Str) : Str)), (E ((⟨[]⟩ : (Dct D)) : (Dct D))), (E ((7 : Int) : Int)), (E (true : Bool))])) fun (⟨r_26, w_27⟩ : D × (LH3 (List Int) Int Int)) =>
  some (r_26, w_27))))

def m_law_l1 (r_4 : Int) : Int → (LH3 (List Int) Int Int) → Option (Ctl (LH3 (List Int) Int Int) Bool)
  | turn_10, s_9 =>
  obind (cond ((decide (r_4 = (0 : Int))) && (decide (turn_10 = (0 : Int)))) (obind (m_law_from s_9 (280 : Int) (320 : Int)) fun (⟨r_11, w_12⟩ : Int × (LH3 (List Int) Int Int)) => some (r_11, w_12)) (obind (m_law_next s_9 (10 : Int)) fun (⟨r_14, w_15⟩ : Int × (LH3 (List Int) Int Int)) => some (r_14, w_15))) fun (⟨v_17, w_18⟩ : Int × (LH3 (List Int) Int Int)) =>
  obind (m_law_numbers w_18 v_17) fun (⟨r_21, w_22⟩ : (List Int) × (LH3 (List Int) Int Int)) =>
  obind (m_law_due_row r_21) fun (r_24 : (List Int)) =>
  obind (m_law_ask (E (r_21 : (List Int)))) fun (r_26 : (Mk × D)) =>
  obind (m_law_same 8 r_26.2 (E ([(E (("told" : Str) : Str)), (E (r_24 : (List Int)))] : (List D)))) fun (r_28 : Bool) =>
  obind (cond (!r_28) (some true) (obind (m_law_same 8 (E (r_21 : (List Int))) (E (r_21 : (List Int)))) fun (r_30 : Bool) => some (!r_30))) fun (b_32 : Bool) =>
  cond b_32 (
  some (.rt false)) (
  obind (dAppC r_26.1 r_26.2 (1 : Int) (E ((0 : Int) : Int))) fun (d_36 : D) =>
  obind (m_law_ask (E (r_21 : (List Int)))) fun (r_38 : (Mk × D)) =>
  obind (m_law_same 8 r_38.2 (E ([(E (("told" : Str) : Str)), (E (r_24 : (List Int)))] : (List D)))) fun (r_40 : Bool) =>
  cond (!r_40) (
  some (.rt false)) (
  obind (m_law_wrong w_22 (cutL r_21 none (some (9 : Int)))) fun (⟨r_43, w_44⟩ : D × (LH3 (List Int) Int Int)) =>
  obind (m_law_ask r_43) fun (r_46 : (Mk × D)) =>
  obind (m_law_same 8 r_46.2 (E ([(E (("raised" : Str) : Str)), (E (("BadValue" : Str) : Str)), (E ((⟨("numbers" : Str)⟩ : (T1 Str)) : (T1 Str)))] : (List D)))) fun (r_48 : Bool) =>
  cond (!r_48) (
  some (.rt false)) (
  some (.nx w_44))))
def m_law (script_1 : (List Int)) : Option Bool :=
  obind (m_law_stream script_1) fun (r_2 : (LH3 (List Int) Int Int)) =>
  obind (m_law_next r_2 (30 : Int)) fun (⟨r_4, w_5⟩ : Int × (LH3 (List Int) Int Int)) =>
  obind (rngL (0 : Int) (3 : Int)) fun (rg_7 : (List Int)) =>
  obind (loopM (m_law_l1 r_4) rg_7 w_5) fun c_52 => ctl c_52 (fun (w_51 : (LH3 (List Int) Int Int)) =>
  some true) (fun r_54 => some r_54)
end K65

set_option Elab.async false
set_option linter.all false
set_option autoImplicit false
set_option maxRecDepth 100000
set_option maxHeartbeats 4000000
/-! plain data: its kind, its copy, its likeness -/
namespace Ly
open PySem L2
theorem kit_NoneType_list : kitB "NoneType" "list" = some false := by decide +kernel
theorem isi_NoneType_list  : dIsi .non "list" = some false := kit_NoneType_list
theorem kit_NoneType_tuple : kitB "NoneType" "tuple" = some false := by decide +kernel
theorem isi_NoneType_tuple  : dIsi .non "tuple" = some false := kit_NoneType_tuple
theorem kit_NoneType_dict : kitB "NoneType" "dict" = some false := by decide +kernel
theorem isi_NoneType_dict  : dIsi .non "dict" = some false := kit_NoneType_dict
theorem kit_NoneType_int : kitB "NoneType" "int" = some false := by decide +kernel
theorem isi_NoneType_int  : dIsi .non "int" = some false := kit_NoneType_int
theorem kit_NoneType_bool : kitB "NoneType" "bool" = some false := by decide +kernel
theorem isi_NoneType_bool  : dIsi .non "bool" = some false := kit_NoneType_bool
theorem kit_NoneType_str : kitB "NoneType" "str" = some false := by decide +kernel
theorem isi_NoneType_str  : dIsi .non "str" = some false := kit_NoneType_str
theorem kit_bool_list : kitB "bool" "list" = some false := by decide +kernel
theorem isi_bool_list (b : Bool) : dIsi (.bl b) "list" = some false := kit_bool_list
theorem kit_bool_tuple : kitB "bool" "tuple" = some false := by decide +kernel
theorem isi_bool_tuple (b : Bool) : dIsi (.bl b) "tuple" = some false := kit_bool_tuple
theorem kit_bool_dict : kitB "bool" "dict" = some false := by decide +kernel
theorem isi_bool_dict (b : Bool) : dIsi (.bl b) "dict" = some false := kit_bool_dict
theorem kit_bool_int : kitB "bool" "int" = some true := by decide +kernel
theorem isi_bool_int (b : Bool) : dIsi (.bl b) "int" = some true := kit_bool_int
theorem kit_bool_bool : kitB "bool" "bool" = some true := by decide +kernel
theorem isi_bool_bool (b : Bool) : dIsi (.bl b) "bool" = some true := kit_bool_bool
theorem kit_bool_str : kitB "bool" "str" = some false := by decide +kernel
theorem isi_bool_str (b : Bool) : dIsi (.bl b) "str" = some false := kit_bool_str
theorem kit_int_list : kitB "int" "list" = some false := by decide +kernel
theorem isi_int_list (i : Int) : dIsi (.int i) "list" = some false := kit_int_list
theorem kit_int_tuple : kitB "int" "tuple" = some false := by decide +kernel
theorem isi_int_tuple (i : Int) : dIsi (.int i) "tuple" = some false := kit_int_tuple
theorem kit_int_dict : kitB "int" "dict" = some false := by decide +kernel
theorem isi_int_dict (i : Int) : dIsi (.int i) "dict" = some false := kit_int_dict
theorem kit_int_int : kitB "int" "int" = some true := by decide +kernel
theorem isi_int_int (i : Int) : dIsi (.int i) "int" = some true := kit_int_int
theorem kit_int_bool : kitB "int" "bool" = some false := by decide +kernel
theorem isi_int_bool (i : Int) : dIsi (.int i) "bool" = some false := kit_int_bool
theorem kit_int_str : kitB "int" "str" = some false := by decide +kernel
theorem isi_int_str (i : Int) : dIsi (.int i) "str" = some false := kit_int_str
theorem kit_str_list : kitB "str" "list" = some false := by decide +kernel
theorem isi_str_list (x : Str) : dIsi (.str x) "list" = some false := kit_str_list
theorem kit_str_tuple : kitB "str" "tuple" = some false := by decide +kernel
theorem isi_str_tuple (x : Str) : dIsi (.str x) "tuple" = some false := kit_str_tuple
theorem kit_str_dict : kitB "str" "dict" = some false := by decide +kernel
theorem isi_str_dict (x : Str) : dIsi (.str x) "dict" = some false := kit_str_dict
theorem kit_str_int : kitB "str" "int" = some false := by decide +kernel
theorem isi_str_int (x : Str) : dIsi (.str x) "int" = some false := kit_str_int
theorem kit_str_bool : kitB "str" "bool" = some false := by decide +kernel
theorem isi_str_bool (x : Str) : dIsi (.str x) "bool" = some false := kit_str_bool
theorem kit_str_str : kitB "str" "str" = some true := by decide +kernel
theorem isi_str_str (x : Str) : dIsi (.str x) "str" = some true := kit_str_str
theorem kit_list_list : kitB "list" "list" = some true := by decide +kernel
theorem isi_list_list (ds : List D) : dIsi (.lst ds) "list" = some true := kit_list_list
theorem kit_list_tuple : kitB "list" "tuple" = some false := by decide +kernel
theorem isi_list_tuple (ds : List D) : dIsi (.lst ds) "tuple" = some false := kit_list_tuple
theorem kit_list_dict : kitB "list" "dict" = some false := by decide +kernel
theorem isi_list_dict (ds : List D) : dIsi (.lst ds) "dict" = some false := kit_list_dict
theorem kit_list_int : kitB "list" "int" = some false := by decide +kernel
theorem isi_list_int (ds : List D) : dIsi (.lst ds) "int" = some false := kit_list_int
theorem kit_list_bool : kitB "list" "bool" = some false := by decide +kernel
theorem isi_list_bool (ds : List D) : dIsi (.lst ds) "bool" = some false := kit_list_bool
theorem kit_list_str : kitB "list" "str" = some false := by decide +kernel
theorem isi_list_str (ds : List D) : dIsi (.lst ds) "str" = some false := kit_list_str
theorem kit_tuple_list : kitB "tuple" "list" = some false := by decide +kernel
theorem isi_tuple_list (ds : List D) : dIsi (.tup ds) "list" = some false := kit_tuple_list
theorem kit_tuple_tuple : kitB "tuple" "tuple" = some true := by decide +kernel
theorem isi_tuple_tuple (ds : List D) : dIsi (.tup ds) "tuple" = some true := kit_tuple_tuple
theorem kit_tuple_dict : kitB "tuple" "dict" = some false := by decide +kernel
theorem isi_tuple_dict (ds : List D) : dIsi (.tup ds) "dict" = some false := kit_tuple_dict
theorem kit_tuple_int : kitB "tuple" "int" = some false := by decide +kernel
theorem isi_tuple_int (ds : List D) : dIsi (.tup ds) "int" = some false := kit_tuple_int
theorem kit_tuple_bool : kitB "tuple" "bool" = some false := by decide +kernel
theorem isi_tuple_bool (ds : List D) : dIsi (.tup ds) "bool" = some false := kit_tuple_bool
theorem kit_tuple_str : kitB "tuple" "str" = some false := by decide +kernel
theorem isi_tuple_str (ds : List D) : dIsi (.tup ds) "str" = some false := kit_tuple_str
theorem kit_dict_list : kitB "dict" "list" = some false := by decide +kernel
theorem isi_dict_list (l : List (L2.Key × D)) : dIsi (.dct l) "list" = some false := kit_dict_list
theorem kit_dict_tuple : kitB "dict" "tuple" = some false := by decide +kernel
theorem isi_dict_tuple (l : List (L2.Key × D)) : dIsi (.dct l) "tuple" = some false := kit_dict_tuple
theorem kit_dict_dict : kitB "dict" "dict" = some true := by decide +kernel
theorem isi_dict_dict (l : List (L2.Key × D)) : dIsi (.dct l) "dict" = some true := kit_dict_dict
theorem kit_dict_int : kitB "dict" "int" = some false := by decide +kernel
theorem isi_dict_int (l : List (L2.Key × D)) : dIsi (.dct l) "int" = some false := kit_dict_int
theorem kit_dict_bool : kitB "dict" "bool" = some false := by decide +kernel
theorem isi_dict_bool (l : List (L2.Key × D)) : dIsi (.dct l) "bool" = some false := kit_dict_bool
theorem kit_dict_str : kitB "dict" "str" = some false := by decide +kernel
theorem isi_dict_str (l : List (L2.Key × D)) : dIsi (.dct l) "str" = some false := kit_dict_str
end Ly

set_option Elab.async false
set_option linter.all false
set_option autoImplicit false
set_option maxRecDepth 100000
set_option maxHeartbeats 4000000
/-! what the stream draws -/
namespace K65
open PySem L2 Ly
abbrev STR := LH3 (List Int) Int Int
structure Sm (k : Nat) (s : STR) : Prop where
  b : 0 ≤ s.b
  c0 : 0 ≤ s.c
  c : s.c ≤ k
theorem Sm.mono {k j : Nat} {s : STR} (h : Sm k s) (hj : k ≤ j) : Sm j s := ⟨h.b, h.c0, by have := h.c; omega⟩
theorem cT {α : Type} {x y : α} : cond true x y = x := rfl
theorem cF {α : Type} {x y : α} : cond false x y = y := rfl
theorem ob {α β : Type} {a : α} {k : α → Option β} : obind (some a) k = k a := rfl
theorem modI_pos {i j : Int} (h : 0 < j) : modI i j = some (i % j) := by
  unfold modI
  rw [if_pos (by omega), Int.fmod_eq_emod_of_nonneg _ (by omega)]
theorem fdivI_pos {i j : Int} (h : 0 < j) (h2 : j < 1073741824) : fdivI i j = some (i / j) := by
  unfold fdivI
  rw [if_pos (by omega), Int.fdiv_eq_ediv_of_nonneg _ (by omega)]
theorem log_lt {i : Int} {n : Nat} (h : i.natAbs < 2 ^ n) (hn : 0 < n) : i.natAbs.log2 < n := by
  by_cases z : i.natAbs = 0
  · rw [z]; simpa using hn
  · exact (Nat.log2_lt z).mpr h
theorem mulI_ok {i j : Int} (hi : i.natAbs < 2 ^ 400000) (hj : j.natAbs < 2 ^ 400000) : mulI i j = some (i * j) := by
  unfold mulI
  have h1 := log_lt hi (by decide)
  have h2 := log_lt hj (by decide)
  rw [if_pos (by omega)]
theorem small {n m : Nat} (h : n < 2 ^ 200) (hm : 200 ≤ m) : n < 2 ^ m := Nat.lt_of_lt_of_le h (Nat.pow_le_pow_right (by decide) hm)
theorem mulI_sm {i j : Int} (hi : i.natAbs < 2 ^ 200) (hj : j.natAbs < 2 ^ 200) : mulI i j = some (i * j) := mulI_ok (small hi (by decide)) (small hj (by decide))
theorem atI_ok {α : Type} {xs : List α} {i : Int} (h0 : 0 ≤ i) (h1 : i < xs.length) : atI xs i = xs[i.toNat]? := by
  unfold atI ixN
  rw [if_pos h0, if_pos h1]
  rfl
theorem atI_get {α : Type} {xs : List α} {i : Int} (h0 : 0 ≤ i) (h1 : i < xs.length) : ∃ x, atI xs i = some x ∧ xs[i.toNat]? = some x := by
  rw [atI_ok h0 h1]
  have : i.toNat < xs.length := by omega
  exact ⟨xs[i.toNat], by simp [this], by simp [this]⟩
theorem next_ok {k : Nat} {s : STR} {many : Int} (h : Sm k s) (hk : k < 2 ^ 100) (hm : 0 < many) (hm2 : many < 1073741824) : ∃ d s', m_law_next s many = some (d, s') ∧ 0 ≤ d ∧ d < many ∧ Sm (k + 1) s' := by
  have e : ∃ w : STR, (cond (decide (s.b = (0 : Int))) (obind (cond (decide (s.c < (s.a.length : Int))) (obind (atI s.a s.c) fun (t_7 : Int) =>
      obind (modI (absI t_7) (1000000000000000000000000000000000000000000000000000000000000000000000000000000000000000000000000000000000000000000000000000000000000000000000000000000000000000000000000000000000000000000000000 : Int)) fun (q_9 : Int) =>
      some q_9) (some ((7 : Int) + s.c))) fun (cell_6 : Int) =>
      obind (cond (decide (cell_6 < (1000000000000000000 : Int))) (obind (mulI cell_6 (48271 : Int)) fun (q_14 : Int) =>
      obind (mulI s.c (69621 : Int)) fun (q_16 : Int) =>
      obind (modI ((q_14 + q_16) + (11 : Int)) (2147483647 : Int)) fun (q_18 : Int) =>
      obind (mulI q_18 (16807 : Int)) fun (q_20 : Int) =>
      obind (modI (q_20 + (13 : Int)) (2147483647 : Int)) fun (q_22 : Int) =>
      obind (mulI q_22 (65537 : Int)) fun (q_24 : Int) =>
      some (q_24 + q_18)) (some cell_6)) fun (cell_13 : Int) =>
      some (⟨(⟨s.a, cell_13, s.c⟩ : (LH3 (List Int) Int Int)).a, (⟨s.a, cell_13, s.c⟩ : (LH3 (List Int) Int Int)).b, (s.c + (1 : Int))⟩ : (LH3 (List Int) Int Int))) (some s)) = some w ∧ Sm (k + 1) w := by
    by_cases hb : s.b = 0
    · rw [decide_eq_true hb, cT]
      have hcell : ∃ c : Int, (cond (decide (s.c < (s.a.length : Int))) (obind (atI s.a s.c) fun (t_7 : Int) =>
          obind (modI (absI t_7) (1000000000000000000000000000000000000000000000000000000000000000000000000000000000000000000000000000000000000000000000000000000000000000000000000000000000000000000000000000000000000000000000000 : Int)) fun (q_9 : Int) =>
          some q_9) (some ((7 : Int) + s.c))) = some c ∧ 0 ≤ c := by
        by_cases hl : s.c < (s.a.length : Int)
        · rw [decide_eq_true hl, cT]
          obtain ⟨x, hx, _⟩ := atI_get h.c0 hl
          rw [hx, ob, modI_pos (by decide), ob]
          exact ⟨_, rfl, Int.emod_nonneg _ (by decide)⟩
        · rw [decide_eq_false hl, cF]
          exact ⟨_, rfl, by have := h.c0; omega⟩
      obtain ⟨c, hc, hc0⟩ := hcell
      rw [hc, ob]
      by_cases hs : c < 1000000000000000000
      · rw [decide_eq_true hs, cT]
        have h1 := h.c0
        have h2 := h.c
        have hk' : (k : Int) < 2 ^ 100 := by exact_mod_cast hk
        have r1 := Int.emod_nonneg (c * 48271 + s.c * 69621 + 11) (b := 2147483647) (by decide)
        have r2 := Int.emod_lt_of_pos (c * 48271 + s.c * 69621 + 11) (b := 2147483647) (by decide)
        have r3 := Int.emod_nonneg ((c * 48271 + s.c * 69621 + 11) % 2147483647 * 16807 + 13) (b := 2147483647) (by decide)
        have r4 := Int.emod_lt_of_pos ((c * 48271 + s.c * 69621 + 11) % 2147483647 * 16807 + 13) (b := 2147483647) (by decide)
        rw [mulI_sm (by omega) (by decide), ob, mulI_sm (by omega) (by decide), ob, modI_pos (by decide), ob, mulI_sm (by omega) (by decide), ob, modI_pos (by decide), ob, mulI_sm (by omega) (by decide), ob, ob]
        exact ⟨_, rfl, ⟨by show 0 ≤ ((c * 48271 + s.c * 69621 + 11) % 2147483647 * 16807 + 13) % 2147483647 * 65537 + (c * 48271 + s.c * 69621 + 11) % 2147483647; omega, by show 0 ≤ s.c + 1; omega, by show s.c + 1 ≤ ((k + 1 : Nat) : Int); omega⟩⟩
      · rw [decide_eq_false hs, cF]
        rw [ob]
        exact ⟨_, rfl, ⟨hc0, by have := h.c0; show 0 ≤ s.c + 1; omega, by have := h.c; show s.c + 1 ≤ ((k + 1 : Nat) : Int); omega⟩⟩
    · rw [decide_eq_false hb, cF]
      exact ⟨s, rfl, h.mono (by omega)⟩
  obtain ⟨w, hw, gw⟩ := e
  unfold m_law_next
  rw [hw, ob, modI_pos hm, ob, fdivI_pos hm hm2, ob]
  exact ⟨_, _, rfl, Int.emod_nonneg _ (by omega), Int.emod_lt_of_pos _ hm, ⟨Int.ediv_nonneg gw.b (by omega), gw.c0, gw.c⟩⟩
theorem pick_ok {α : Type} [Enc α] {k : Nat} {s : STR} {q : Sq α} (h : Sm k s) (hk : k < 2 ^ 100) (h0 : q.v ≠ []) (h1 : q.v.length < 1073741824) : ∃ x s', m_law_pick s q = some (x, s') ∧ x ∈ q.v ∧ Sm (k + 1) s' := by
  have hl : 0 < q.v.length := List.length_pos_iff.mpr h0
  obtain ⟨d, s', e, a, b, c⟩ := next_ok (many := (q.v.length : Int)) h hk (by omega) (by omega)
  obtain ⟨x, hx, hm⟩ := atI_get (xs := q.v) a (by omega)
  unfold m_law_pick
  rw [e, ob]
  dsimp only
  rw [hx, ob]
  exact ⟨x, s', rfl, List.mem_of_getElem? hm, c⟩
theorem from_ok {k : Nat} {s : STR} {lo hi : Int} (h : Sm k s) (hk : k < 2 ^ 100) (h0 : lo ≤ hi) (h1 : hi - lo < 1073741823) : ∃ d s', m_law_from s lo hi = some (d, s') ∧ lo ≤ d ∧ d ≤ hi ∧ Sm (k + 1) s' := by
  obtain ⟨d, s', e, a, b, c⟩ := next_ok (many := hi - lo + 1) h hk (by omega) (by omega)
  unfold m_law_from
  rw [e, ob]
  exact ⟨_, s', rfl, by omega, by omega, c⟩
theorem stream_ok (xs : List Int) : ∃ s, m_law_stream xs = some s ∧ Sm 0 s := ⟨_, rfl, ⟨Int.le_refl _, Int.le_refl _, Int.le_refl _⟩⟩
/-! loops -/
theorem loopM_inv {α S R : Type} {b : α → S → Option (Ctl S R)} (P : Nat → S → Prop) : ∀ {xs : List α} {j : Nat} {s : S}, P j s → (∀ i x s, xs[i]? = some x → P (j + i) s → ∃ s', b x s = some (.nx s') ∧ P (j + i + 1) s') →
    ∃ s', loopM b xs s = some (.nx s') ∧ P (j + xs.length) s'
  | [], j, s, h, _ => ⟨s, rfl, h⟩
  | x :: xs, j, s, h, hs => by
    obtain ⟨s1, e, h1⟩ := hs 0 x s rfl h
    obtain ⟨s2, e2, h2⟩ := loopM_inv P (xs := xs) (j := j + 1) h1 fun i y s hy hp => by
      obtain ⟨s', q1, q2⟩ := hs (i + 1) y s (by simpa using hy) (by rw [show j + (i + 1) = j + 1 + i by omega]; exact hp)
      exact ⟨s', q1, by rw [show j + 1 + i + 1 = j + (i + 1) + 1 by omega]; exact q2⟩
    refine ⟨s2, ?_, by rw [List.length_cons, show j + (xs.length + 1) = j + 1 + xs.length by omega]; exact h2⟩
    unfold loopM
    rw [e]
    exact e2
theorem loopN_inv {α S : Type} {b : α → S → Option (Ctl S Empty)} (P : Nat → S → Prop) {xs : List α} {s : S} (h : P 0 s) (hs : ∀ i x s, xs[i]? = some x → P i s → ∃ s', b x s = some (.nx s') ∧ P (i + 1) s') :
    ∃ s', loopN b xs s = some s' ∧ P xs.length s' := by
  obtain ⟨s', e, q⟩ := loopM_inv (R := Empty) P (xs := xs) (j := 0) h (by simpa using hs)
  refine ⟨s', ?_, by simpa using q⟩
  unfold loopN
  rw [e]
theorem compM_inv {α β S : Type} {f : α → S → Option (Option β × S)} (P : Nat → S → Prop) (Y : Nat → β → Prop) : ∀ {xs : List α} {j : Nat} {s : S}, P j s → (∀ i x s, xs[i]? = some x → P (j + i) s → ∃ y s', f x s = some (some y, s') ∧ Y (j + i) y ∧ P (j + i + 1) s') →
    ∃ ys s', compM f xs s = some (ys, s') ∧ ys.length = xs.length ∧ (∀ i y, ys[i]? = some y → Y (j + i) y) ∧ P (j + xs.length) s'
  | [], j, s, h, _ => ⟨[], s, rfl, rfl, fun i y h => by simp at h, h⟩
  | x :: xs, j, s, h, hs => by
    obtain ⟨y, s1, e, hy, h1⟩ := hs 0 x s rfl h
    obtain ⟨ys, s2, e2, hl, hY, h2⟩ := compM_inv P Y (xs := xs) (j := j + 1) h1 fun i z s hz hp => by
      obtain ⟨y', s', q1, q2, q3⟩ := hs (i + 1) z s (by simpa using hz) (by rw [show j + (i + 1) = j + 1 + i by omega]; exact hp)
      exact ⟨y', s', q1, by rw [show j + 1 + i = j + (i + 1) by omega]; exact q2, by rw [show j + 1 + i + 1 = j + (i + 1) + 1 by omega]; exact q3⟩
    refine ⟨y :: ys, s2, ?_, by simp [hl], fun i z hz => ?_, by rw [List.length_cons, show j + (xs.length + 1) = j + 1 + xs.length by omega]; exact h2⟩
    · unfold compM
      rw [e]
      simp only [e2]
    · cases i with
      | zero => simp at hz; subst hz; exact hy
      | succ i => rw [show j + (i + 1) = j + 1 + i by omega]; exact hY i z (by simpa using hz)
theorem comp_inv {α β S : Type} {f : α → S → Option (Option β × S)} (P : Nat → S → Prop) (Y : Nat → β → Prop) {xs : List α} {s : S} (hl : xs.length ≤ LIM) (h : P 0 s) (hs : ∀ i x s, xs[i]? = some x → P i s → ∃ y s', f x s = some (some y, s') ∧ Y i y ∧ P (i + 1) s') :
    ∃ ys s', comp f xs s = some (ys, s') ∧ ys.length = xs.length ∧ (∀ i y, ys[i]? = some y → Y i y) ∧ P xs.length s' := by
  obtain ⟨ys, s', a, b, c, d⟩ := compM_inv P Y (xs := xs) (j := 0) (s := s) h (by simpa using hs)
  exact ⟨ys, s', by unfold comp; rw [if_pos hl, a], b, by simpa using c, by simpa using d⟩
theorem rngL_ok {n : Int} (h : n < 2 ^ 60) (h0 : 0 ≤ n) : rngL 0 n = some ((List.range n.toNat).map fun (i : Nat) => (i : Int)) := by
  unfold rngL
  rw [if_pos]
  · unfold rng
    simp
  · unfold rngOk
    simp only [decide_eq_true_eq]
    omega
theorem rng_at {n i : Nat} {x : Int} (h : ((List.range n).map fun (i : Nat) => (i : Int))[i]? = some x) : x = (i : Int) ∧ i < n := by
  rw [List.getElem?_map] at h
  obtain ⟨y, hy, rfl⟩ := Option.map_eq_some_iff.mp h
  obtain ⟨h1, h2⟩ := List.getElem?_eq_some_iff.mp hy
  simp at h1 h2
  exact ⟨by omega, h1⟩
theorem perm_erase {α : Type} {xs : List α} {n : Nat} (h : n < xs.length) : (xs[n] :: xs.eraseIdx n).Perm xs := by
  have e : xs = xs.take n ++ xs[n] :: xs.drop (n + 1) := by
    rw [← List.drop_eq_getElem_cons h, List.take_append_drop]
  rw [List.eraseIdx_eq_take_drop_succ]
  exact (List.perm_middle.symm).trans (List.Perm.of_eq e.symm)
/-- what is shuffled is the same but for the sequence -/
theorem shuffled_ok {α : Type} [Enc α] {k : Nat} {s : STR} {xs : List α} (h : Sm k s) (hk : k + xs.length < 2 ^ 100) (hl : xs.length < 16777216) : ∃ ys s', m_law_shuffled s xs = some (ys, s') ∧ ys.Perm xs ∧ Sm (k + xs.length) s' := by
  unfold m_law_shuffled
  rw [rngL_ok (by omega) (by omega), ob]
  obtain ⟨⟨s1, l1, f1⟩, e, c⟩ := loopN_inv (b := m_law_shuffled_l1) (fun i (st : STR × List α × List α) => Sm (k + i) st.1 ∧ st.2.1.length + i = xs.length ∧ st.2.2.length = i ∧ (st.2.2 ++ st.2.1).Perm xs)
    (xs := (List.range (xs.length : Int).toNat).map fun (i : Nat) => (i : Int)) (s := (s, xs, ([] : List α))) ⟨h, rfl, rfl, .refl _⟩ fun i x st hx => by
    obtain ⟨s1, l1, f1⟩ := st
    rintro ⟨g1, g2, g3, g4⟩
    simp only at g1 g2 g3 g4
    obtain ⟨rfl, hi⟩ := rng_at hx
    obtain ⟨d, s2, e, a, b, c⟩ := next_ok (many := (l1.length : Int)) g1 (by omega) (by omega) (by omega)
    have hd : d.toNat < l1.length := by omega
    unfold m_law_shuffled_l1
    simp only [e, ob]
    unfold popL
    rw [if_pos ⟨a, by show _ ≤ 16777216; omega⟩, List.getElem?_eq_getElem hd]
    simp only [Option.map_some, ob]
    unfold appL
    rw [if_pos (by show f1.length < 16777216; omega), ob]
    refine ⟨_, rfl, c, ?_, ?_, ?_⟩
    · show (l1.eraseIdx d.toNat).length + (i + 1) = xs.length
      rw [List.length_eraseIdx_of_lt hd]; omega
    · show (f1 ++ [l1[d.toNat]]).length = i + 1
      rw [List.length_append, g3]; rfl
    · show ((f1 ++ [l1[d.toNat]]) ++ l1.eraseIdx d.toNat).Perm xs
      refine List.Perm.trans ?_ g4
      rw [List.append_assoc]
      refine List.Perm.append_left _ ?_
      exact perm_erase hd
  simp only [List.length_map, List.length_range] at c
  have e' : (xs.length : Int).toNat = xs.length := by omega
  rw [e'] at c
  rw [e, ob]
  obtain ⟨c1, c2, c3, c4⟩ := c
  have : l1 = [] := List.length_eq_zero_iff.mp (by omega)
  subst this
  rw [List.append_nil] at c4
  exact ⟨f1, s1, rfl, c4, c1⟩
end K65

set_option Elab.async false
set_option linter.all false
set_option autoImplicit false
set_option maxRecDepth 100000
set_option maxHeartbeats 4000000
/-! plain data: its kind, its copy, its likeness -/
namespace K65
open PySem L2 Ly
/-- plain data of a depth -/
def Pl : Nat → D → Prop
  | _ + 1, .non => True
  | _ + 1, .bl _ => True
  | _ + 1, .int _ => True
  | _ + 1, .str _ => True
  | n + 1, .lst ds => ds.length < 16777216 ∧ ∀ d ∈ ds, Pl n d
  | n + 1, .tup ds => ds.length < 16777216 ∧ ∀ d ∈ ds, Pl n d
  | n + 1, .dct l => l.length < 16777216 ∧ (l.map (·.1)).Nodup ∧ ∀ p ∈ l, Pl n p.2
  | _, _ => False
theorem comp_id {α : Type} {f : α → Unit → Option (Option α × Unit)} : ∀ {ds : List α}, (∀ d ∈ ds, f d () = some (some d, ())) → compM f ds () = some (ds, ())
  | [], _ => rfl
  | d :: ds, h => by
    unfold compM
    rw [h d (List.mem_cons_self ..)]
    simp only [comp_id (f := f) (ds := ds) fun x hx => h x (List.mem_cons_of_mem _ hx)]
theorem comp_id' {α : Type} {f : α → Unit → Option (Option α × Unit)} {ds : List α} (hl : ds.length < 16777216) (h : ∀ d ∈ ds, f d () = some (some d, ())) : comp f ds () = some (ds, ()) := by
  unfold comp
  rw [if_pos (show ds.length ≤ LIM from (by show ds.length ≤ 16777216; omega)), comp_id h]
section
variable {κ α : Type} [DecidableEq κ]
theorem dget_none {l : List (κ × α)} {k : κ} : dget l k = none ↔ k ∉ l.map (·.1) := by
  unfold dget
  rw [Option.map_eq_none_iff, List.find?_eq_none]
  constructor
  · intro h hm
    obtain ⟨p, hp, e⟩ := List.mem_map.mp hm
    have := h p hp
    simp [e] at this
  · intro h p hp
    simp only [decide_eq_true_eq]
    intro e
    exact h (List.mem_map.mpr ⟨p, hp, e⟩)
theorem dhas_iff {l : List (κ × α)} {k : κ} : dhas l k = true ↔ k ∈ l.map (·.1) := by
  unfold dhas
  constructor
  · intro h
    by_cases z : k ∈ l.map (·.1)
    · exact z
    · rw [dget_none.mpr z] at h; cases h
  · intro h
    cases e : dget l k with
    | none => exact absurd h (dget_none.mp e)
    | some _ => rfl
theorem dhas_not {l : List (κ × α)} {k : κ} : dhas l k = false ↔ k ∉ l.map (·.1) := by
  rw [← Bool.not_eq_true, dhas_iff]
theorem dget_mem {l : List (κ × α)} {k : κ} {v : α} (hn : (l.map (·.1)).Nodup) (h : (k, v) ∈ l) : dget l k = some v := by
  induction l with
  | nil => cases h
  | cons p l ih =>
    rw [List.map_cons, List.nodup_cons] at hn
    unfold dget
    rcases List.mem_cons.mp h with h | h
    · subst h; simp
    · have : p.1 ≠ k := fun e => hn.1 (List.mem_map.mpr ⟨_, h, e.symm⟩)
      rw [List.find?_cons_of_neg (by simpa using this)]
      exact ih hn.2 h
theorem dget_of {l : List (κ × α)} {k : κ} {v : α} (h : dget l k = some v) : (k, v) ∈ l := by
  unfold dget at h
  obtain ⟨p, hp, rfl⟩ := Option.map_eq_some_iff.mp h
  have h1 := List.mem_of_find?_eq_some hp
  have h2 := List.find?_some hp
  simp only [decide_eq_true_eq] at h2
  rw [← h2]; exact h1
theorem dput_new {l : List (κ × α)} {k : κ} {v : α} (h : k ∉ l.map (·.1)) : dput l k v = l ++ [(k, v)] := by
  unfold dput
  rw [if_neg]
  rw [List.any_eq_true]
  rintro ⟨p, hp, e⟩
  exact h (List.mem_map.mpr ⟨p, hp, by simpa using e⟩)
theorem dput_old {l : List (κ × α)} {k : κ} {v : α} (h : k ∈ l.map (·.1)) : (dput l k v).length = l.length := by
  unfold dput
  rw [if_pos]
  · rw [List.length_map]
  · obtain ⟨p, hp, e⟩ := List.mem_map.mp h
    rw [List.any_eq_true]
    exact ⟨p, hp, by simpa using e⟩
theorem dputO_ok {l : List (κ × α)} {k : κ} {v : α} (h : l.length < 16777216) : dputO l k v = some (dput l k v) := by
  unfold dputO
  rw [if_pos (show l.length < LIM from h)]
end
theorem idE (ds : List D) : ds.map (E : D → D) = ds := List.map_id ds
theorem idE2 (l : List (L2.Key × D)) : (l.map fun p => (p.1, (E p.2 : D))) = l := by
  rw [show (fun p : L2.Key × D => (p.1, (E p.2 : D))) = id from rfl, List.map_id]
theorem neLT : ("L" : Str) ≠ ("T" : Str) := by decide +kernel
theorem row_ok {d : D} {k : Str} {n : Int} (hL : k = "L" → dIsi d "list" = some true) (hT : k = "T" → dIsi d "tuple" = some true) (hn : dLenA d = some n) : m_law_is_row d k n = some true := by
  unfold m_law_is_row
  have e1 : (cond (decide (k = ("L" : Str))) (obind (dIsi d "list") fun (b_4 : Bool) => some (!b_4)) (some false)) = some false := by
    by_cases z : k = "L"
    · rw [decide_eq_true z, cT, hL z]; rfl
    · rw [decide_eq_false z]; rfl
  have e2 : (cond (decide (k = ("T" : Str))) (obind (dIsi d "tuple") fun (b_4 : Bool) => some (!b_4)) (some false)) = some false := by
    by_cases z : k = "T"
    · rw [decide_eq_true z, cT, hT z]; rfl
    · rw [decide_eq_false z]; rfl
  rw [e1, ob, cF, e2, ob, cF, cF, hn]
  simp only [ob, decide_true]
theorem loopM_all {α R : Type} {b : α → Unit → Option (Ctl Unit R)} : ∀ {xs : List α}, (∀ x ∈ xs, b x () = some (.nx ())) → loopM b xs () = some (.nx ())
  | [], _ => rfl
  | x :: xs, h => by
    unfold loopM
    rw [h x (List.mem_cons_self ..)]
    exact loopM_all fun y hy => h y (List.mem_cons_of_mem _ hy)
theorem seq_same {n : Nat} {d : D} {ds : List D} (hl : ds.length < 16777216) (hix : ∀ i, dIx d i = atI ds i) (h : ∀ x ∈ ds, m_law_same n x x = some true) :
    loopM (m_law_same_l1 (m_law_same n) d d) ((List.range (ds.length : Int).toNat).map fun (i : Nat) => (i : Int)) () = some (.nx ()) := by
  refine loopM_all fun x hx => ?_
  obtain ⟨i, hi, rfl⟩ := List.mem_map.mp hx
  have hi' := List.mem_range.mp hi
  obtain ⟨y, e, hy⟩ := atI_get (xs := ds) (i := (i : Int)) (by omega) (by omega)
  unfold m_law_same_l1
  dsimp only
  rw [hix, e]
  simp only [ob]
  rw [h y (List.mem_of_getElem? hy)]
  rfl
theorem same_non (n : Nat) : m_law_same (n + 1) .non .non = some true := by
  unfold m_law_same; simp only [isi_NoneType_dict, isi_NoneType_list, isi_NoneType_tuple, isi_NoneType_bool, isi_NoneType_int, isi_NoneType_str, ob, cF]; rfl
theorem same_bl (n : Nat) (a b : Bool) : m_law_same (n + 1) (.bl a) (.bl b) = some (decide (a = b)) := by
  unfold m_law_same; simp only [isi_bool_dict, isi_bool_list, isi_bool_tuple, isi_bool_bool, ob, cF, cT, dEq]
theorem same_int (n : Nat) (i : Int) : m_law_same (n + 1) (.int i) (.int i) = some true := by
  unfold m_law_same; simp only [isi_int_dict, isi_int_list, isi_int_tuple, isi_int_bool, isi_int_str, isi_int_int, ob, cF, cT, Bool.not_false]
  rw [show dEq (.int i) (.int i) = some (decide (i = i)) from rfl, ob, decide_eq_true rfl, ob, ob]
theorem same_str (n : Nat) (i : Str) : m_law_same (n + 1) (.str i) (.str i) = some true := by
  unfold m_law_same; simp only [isi_str_dict, isi_str_list, isi_str_tuple, isi_str_bool, isi_str_str, isi_str_int, ob, cF, cT, Bool.not_false]
  rw [show dEq (.str i) (.str i) = some (decide (i = i)) from rfl, ob, decide_eq_true rfl, ob]
theorem same_lst {n : Nat} {ds : List D} (h1 : ds.length < 16777216) (ih : ∀ x ∈ ds, m_law_same n x x = some true) : m_law_same (n + 1) (.lst ds) (.lst ds) = some true := by
  unfold m_law_same
  rw [isi_list_tuple, ob, cF, isi_list_list, ob, ob, cT, ob, show dLenA (.lst ds) = some (ds.length : Int) from rfl, ob, cF]
  rw [row_ok (fun _ => isi_list_list ds) (fun e => absurd e neLT) (show dLenA (.lst ds) = some (ds.length : Int) from rfl), ob, Bool.not_true, cF, ob]
  rw [rngL_ok (by omega) (by omega), ob, seq_same h1 (fun _ => rfl) ih]
  rfl
theorem same_tup {n : Nat} {ds : List D} (h1 : ds.length < 16777216) (ih : ∀ x ∈ ds, m_law_same n x x = some true) : m_law_same (n + 1) (.tup ds) (.tup ds) = some true := by
  unfold m_law_same
  rw [isi_tuple_tuple, ob, cT, ob, cT, ob, show dLenA (.tup ds) = some (ds.length : Int) from rfl, ob, cT]
  rw [row_ok (fun e => absurd e.symm neLT) (fun _ => isi_tuple_tuple ds) (show dLenA (.tup ds) = some (ds.length : Int) from rfl), ob, Bool.not_true, cF, ob]
  rw [rngL_ok (by omega) (by omega), ob, seq_same h1 (fun _ => rfl) ih]
  rfl
theorem same_dct {n : Nat} {l : List (L2.Key × D)} (h2 : (l.map (·.1)).Nodup) (ih : ∀ p ∈ l, m_law_same n p.2 p.2 = some true) : m_law_same (n + 1) (.dct l) (.dct l) = some true := by
  unfold m_law_same
  rw [isi_dict_tuple, ob, cF, isi_dict_list, ob, ob, cF, isi_dict_dict, ob, cT, ob, Bool.not_true, cF, show dLenA (.dct l) = some (l.length : Int) from rfl, ob, ob, decide_eq_true rfl, Bool.not_true, ob, cF, show dDct (.dct l) = some l from rfl, ob]
  rw [loopM_all fun k hk => by
    obtain ⟨p, hp, rfl⟩ := List.mem_map.mp hk
    unfold m_law_same_l2
    dsimp only
    rw [show dDct (.dct l) = some l from rfl, ob, dhas_iff.mpr hk, Bool.not_true, cF, ob, dget_mem (v := p.2) h2 hp, ob, ob, dget_mem (v := p.2) h2 hp, ob, ih p hp, ob, Bool.not_true, ob, cF]]
  rfl
theorem same_ok {n : Nat} : ∀ {d : D}, Pl n d → m_law_same n d d = some true := by
  induction n with
  | zero => intro d h; cases d <;> exact h.elim
  | succ n ih =>
    intro d h
    cases d with
    | non => exact same_non n
    | bl b => rw [same_bl, decide_eq_true rfl]
    | int i => exact same_int n i
    | str i => exact same_str n i
    | lst ds => exact same_lst h.1 fun x hx => ih (h.2 x hx)
    | tup ds => exact same_tup h.1 fun x hx => ih (h.2 x hx)
    | dct l => exact same_dct h.2.1 fun p hp => ih (h.2.2 p hp)
    | dctT l => exact h.elim
    | adr a => exact h.elim
    | ty a => exact h.elim
    | exc a b c d => exact h.elim
end K65

set_option Elab.async false
set_option linter.all false
set_option autoImplicit false
set_option maxRecDepth 100000
set_option maxHeartbeats 4000000
/-! rising rows of a list of numbers, in plain Lean -/
namespace K65
open PySem L2 Ly
def ab : Option Int → Int → Bool
  | none, _ => true
  | some y, x => decide (y < x)
/-- the greatest length among those whose number is above -/
def best (prev : Option Int) : List Int → List Int → Int
  | x :: xs, l :: ls => cond (ab prev x) (max l (best prev xs ls)) (best prev xs ls)
  | _, _ => 0
/-- the lengths of the longest rows that begin at each place -/
def lens : List Int → List Int
  | [] => []
  | x :: xs => (best (some x) xs (lens xs) + 1) :: lens xs
theorem lens_length : ∀ xs : List Int, (lens xs).length = xs.length
  | [] => rfl
  | _ :: xs => by unfold lens; rw [List.length_cons, List.length_cons, lens_length xs]
theorem best_nn (prev : Option Int) : ∀ xs ls : List Int, 0 ≤ best prev xs ls
  | [], _ => by unfold best; omega
  | _ :: _, [] => by unfold best; omega
  | x :: xs, l :: ls => by
    have := best_nn prev xs ls
    unfold best
    cases ab prev x
    · exact this
    · show 0 ≤ max l _; omega
theorem lens_pos : ∀ {xs : List Int} {l : Int}, l ∈ lens xs → 1 ≤ l
  | [], _, h => by cases h
  | x :: xs, l, h => by
    unfold lens at h
    rcases List.mem_cons.mp h with rfl | h
    · have := best_nn (some x) xs (lens xs); omega
    · exact lens_pos h
/-- the greedy row -/
def gr : Nat → List Int → List Int → Int → Option Int → List Int
  | p, x :: xs, l :: ls, left, prev => if l = left ∧ 0 < left ∧ ab prev x = true then (p : Int) :: gr (p + 1) xs ls (left - 1) (some x) else gr (p + 1) xs ls left prev
  | _, _, _, _, _ => []
/-- the rising rows, with their last number -/
def Row : Nat → List Int → Option Int → List Int → Option Int → Prop
  | _, [], prev, r, v => r = [] ∧ v = prev
  | p, x :: xs, prev, r, v => Row (p + 1) xs prev r v ∨ ∃ r', r = (p : Int) :: r' ∧ ab prev x = true ∧ Row (p + 1) xs (some x) r' v
theorem row_ge : ∀ {xs : List Int} {p : Nat} {prev v : Option Int} {r : List Int}, Row p xs prev r v → ∀ q r', r = q :: r' → (p : Int) ≤ q
  | [], _, _, _, _, h, q, r', e => by rw [h.1] at e; cases e
  | x :: xs, p, prev, v, r, h, q, r', e => by
    rcases h with h | ⟨r2, e2, _, _⟩
    · have := row_ge h q r' e; omega
    · rw [e2] at e; cases e; omega
theorem row_len : ∀ {xs : List Int} {p : Nat} {prev v : Option Int} {r : List Int}, Row p xs prev r v → (r.length : Int) ≤ best prev xs (lens xs)
  | [], _, _, _, _, h => by rw [h.1]; unfold best; simp
  | x :: xs, p, prev, v, r, h => by
    unfold lens best
    rcases h with h | ⟨r2, e2, a, h⟩
    · have := row_len h
      cases ab prev x
      · exact this
      · show _ ≤ max _ _; omega
    · have := row_len h
      rw [a, e2, List.length_cons]
      show _ ≤ max _ _
      omega
/-- the greedy row is a longest one, and the least of them -/
theorem gr_least : ∀ {xs : List Int} {p : Nat} {prev : Option Int} {left : Int}, left = best prev xs (lens xs) → (∃ v, Row p xs prev (gr p xs (lens xs) left prev) v) ∧ ((gr p xs (lens xs) left prev).length : Int) = left ∧
    ∀ r v, Row p xs prev r v → (r.length : Int) = left → gr p xs (lens xs) left prev ≤ r
  | [], p, prev, left, h => by
    subst h
    refine ⟨⟨prev, rfl, rfl⟩, rfl, fun r v hr _ => ?_⟩
    rw [hr.1]
    exact List.le_refl _
  | x :: xs, p, prev, left, h => by
    have hb := best_nn (some x) xs (lens xs)
    unfold lens at h ⊢
    unfold best at h
    unfold gr
    by_cases c : best (some x) xs (lens xs) + 1 = left ∧ 0 < left ∧ ab prev x = true
    · rw [if_pos c]
      obtain ⟨c1, c2, c3⟩ := c
      obtain ⟨⟨v, i1⟩, i2, i3⟩ := gr_least (xs := xs) (p := p + 1) (prev := some x) (left := left - 1) (by omega)
      refine ⟨⟨v, .inr ⟨_, rfl, c3, i1⟩⟩, by rw [List.length_cons]; omega, fun r w hr hl => ?_⟩
      rcases hr with hr | ⟨r', e, _, hr⟩
      · cases r with
        | nil => simp at hl; omega
        | cons q r' =>
          have := row_ge hr q r' rfl
          exact List.le_of_lt (List.cons_lt_cons_iff.mpr (.inl (by omega)))
      · subst e
        rw [List.length_cons] at hl
        have := i3 r' w hr (by omega)
        exact List.cons_le_cons_iff.mpr (.inr ⟨rfl, this⟩)
    · rw [if_neg c]
      have hleft : left = best prev xs (lens xs) := by
        cases a : ab prev x with
        | false => rw [a] at h; exact h
        | true =>
          rw [a] at h
          have h : left = max (best (some x) xs (lens xs) + 1) (best prev xs (lens xs)) := h
          by_cases z : best (some x) xs (lens xs) + 1 = left
          · exact absurd ⟨z, by omega, a⟩ c
          · omega
      obtain ⟨⟨v, i1⟩, i2, i3⟩ := gr_least (xs := xs) (p := p + 1) (prev := prev) (left := left) hleft
      refine ⟨⟨v, .inl i1⟩, i2, fun r w hr hl => ?_⟩
      rcases hr with hr | ⟨r', e, a, hr⟩
      · exact i3 r w hr hl
      · subst e
        exfalso
        have h1 := row_len hr
        rw [List.length_cons] at hl
        rw [a] at h
        have h : left = max (best (some x) xs (lens xs) + 1) (best prev xs (lens xs)) := h
        exact c ⟨by omega, by omega, a⟩
/-- one number more -/
theorem row_snoc : ∀ {xs : List Int} {p : Nat} {prev v : Option Int} {r : List Int} {y : Int}, Row p (xs ++ [y]) prev r v ↔ Row p xs prev r v ∨ ∃ r' v', Row p xs prev r' v' ∧ ab v' y = true ∧ r = r' ++ [((p + xs.length : Nat) : Int)] ∧ v = some y
  | [], p, prev, v, r, y => by
    constructor
    · rintro (h | ⟨r', e, a, h⟩)
      · exact .inl h
      · exact .inr ⟨[], prev, ⟨rfl, rfl⟩, a, by rw [e, h.1]; rfl, h.2⟩
    · rintro (h | ⟨r', v', h, a, e1, e2⟩)
      · exact .inl h
      · refine .inr ⟨[], ?_, ?_, rfl, e2⟩
        · rw [e1, h.1]; rfl
        · rw [← h.2]; exact a
  | x :: xs, p, prev, v, r, y => by
    have e0 : p + 1 + xs.length = p + (x :: xs).length := by rw [List.length_cons]; omega
    constructor
    · rintro (h | ⟨r', e, a, h⟩)
      · rcases row_snoc.mp h with h | ⟨r', v', h1, h2, h3, h4⟩
        · exact .inl (.inl h)
        · exact .inr ⟨r', v', .inl h1, h2, by rw [h3, e0], h4⟩
      · rcases row_snoc.mp h with h | ⟨r2, v', h1, h2, h3, h4⟩
        · exact .inl (.inr ⟨r', e, a, h⟩)
        · exact .inr ⟨p :: r2, v', .inr ⟨r2, rfl, a, h1⟩, h2, by rw [e, h3, e0]; rfl, h4⟩
    · rintro (h | ⟨r', v', h, a, e1, e2⟩)
      · rcases h with h | ⟨r', e, a, h⟩
        · exact .inl (row_snoc.mpr (.inl h))
        · exact .inr ⟨r', e, a, row_snoc.mpr (.inl h)⟩
      · rcases h with h | ⟨r2, e, a2, h⟩
        · exact .inl (row_snoc.mpr (.inr ⟨r', v', h, a, by rw [e1, e0], e2⟩))
        · exact .inr ⟨r2 ++ [((p + 1 + xs.length : Nat) : Int)], by rw [e1, e, e0]; rfl, a2, row_snoc.mpr (.inr ⟨r2, v', h, a, rfl, e2⟩)⟩
/-- the last place of a row tells its last number -/
theorem row_last : ∀ {xs : List Int} {p : Nat} {prev v : Option Int} {r : List Int}, Row p xs prev r v → (r = [] ∧ v = prev) ∨ ∃ (r' : List Int) (i : Nat), i < xs.length ∧ r = r' ++ [((p + i : Nat) : Int)] ∧ v = xs[i]?
  | [], _, _, _, _, h => .inl h
  | x :: xs, p, prev, v, r, h => by
    rcases h with h | ⟨r2, e, a, h⟩
    · rcases row_last h with h | ⟨r', i, h1, h2, h3⟩
      · exact .inl h
      · exact .inr ⟨r', i + 1, by rw [List.length_cons]; omega, by rw [h2, show p + 1 + i = p + (i + 1) by omega], by rw [h3]; rfl⟩
    · rcases row_last h with ⟨h1, h2⟩ | ⟨r', i, h1, h2, h3⟩
      · exact .inr ⟨[], 0, by rw [List.length_cons]; omega, by rw [e, h1]; rfl, by rw [h2]; rfl⟩
      · exact .inr ⟨p :: r', i + 1, by rw [List.length_cons]; omega, by rw [e, h2, show p + 1 + i = p + (i + 1) by omega]; rfl, by rw [h3]; rfl⟩
end K65

set_option Elab.async false
set_option linter.all false
set_option autoImplicit false
set_option maxRecDepth 100000
set_option maxHeartbeats 4000000
/-! the lengths, by the program and by the law -/
namespace K65
open PySem L2 Ly
abbrev Fal (ts : List Int) : Prop := ts.Pairwise fun a b => b < a
abbrev cnt (ts : List Int) (y : Int) : Nat := ts.countP fun t => decide (y < t)
theorem atN {α : Type} {xs : List α} {i : Nat} (h : i < xs.length) : atI xs (i : Int) = some xs[i] := by
  rw [atI_ok (by omega) (by omega)]
  simp [h]
theorem fng_loop {ts : List Int} {x : Int} (hf : Fal ts) : ∀ (n lo hi : Nat), hi - lo < n → lo ≤ hi → hi ≤ ts.length → (∀ i, i < lo → ∀ v, ts[i]? = some v → x < v) → (∀ i, hi ≤ i → ∀ v, ts[i]? = some v → v ≤ x) →
    ∃ k : Nat, whileM (m_first_not_greater_w1c ts x) (m_first_not_greater_w1 ts x) n ((lo : Int), (hi : Int)) = some (.nx ((k : Int), (k : Int))) ∧ k ≤ ts.length ∧ (∀ i, i < k → ∀ v, ts[i]? = some v → x < v) ∧ ∀ i, k ≤ i → ∀ v, ts[i]? = some v → v ≤ x
  | 0, _, _, h, _, _, _, _ => by omega
  | n + 1, lo, hi, h, h1, h2, hA, hB => by
    unfold whileM
    by_cases c : lo < hi
    · rw [show m_first_not_greater_w1c ts x ((lo : Int), (hi : Int)) = some true by unfold m_first_not_greater_w1c; dsimp only; rw [decide_eq_true (by omega)]]
      have e : ((lo : Int) + (hi : Int)) / 2 = (((lo + hi) / 2 : Nat) : Int) := by omega
      have hm : (lo + hi) / 2 < ts.length := by omega
      have eb : m_first_not_greater_w1 ts x ((lo : Int), (hi : Int)) = cond (decide (x < ts[(lo + hi) / 2])) (some (.nx ((((lo + hi) / 2 + 1 : Nat) : Int), (hi : Int)))) (some (.nx ((lo : Int), (((lo + hi) / 2 : Nat) : Int)))) := by
        unfold m_first_not_greater_w1
        dsimp only
        rw [fdivI_pos (by decide) (by decide), ob, e, atN hm, ob]
        rw [show (((lo + hi) / 2 : Nat) : Int) + 1 = (((lo + hi) / 2 + 1 : Nat) : Int) by omega]
      simp only [eb]
      have pw := List.pairwise_iff_getElem.mp hf
      by_cases d : x < ts[(lo + hi) / 2]
      · rw [decide_eq_true d, cT]
        refine fng_loop hf n _ _ (by omega) (by omega) h2 (fun i hi' v hv => ?_) hB
        obtain ⟨hl, rfl⟩ := List.getElem?_eq_some_iff.mp hv
        by_cases z : i = (lo + hi) / 2
        · subst z; exact d
        · have := pw i ((lo + hi) / 2) hl hm (by omega)
          omega
      · rw [decide_eq_false d, cF]
        refine fng_loop hf n _ _ (by omega) (by omega) (by omega) hA fun i hi' v hv => ?_
        obtain ⟨hl, rfl⟩ := List.getElem?_eq_some_iff.mp hv
        by_cases z : i = (lo + hi) / 2
        · subst z; omega
        · have := pw ((lo + hi) / 2) i hm hl (by omega)
          omega
    · rw [show m_first_not_greater_w1c ts x ((lo : Int), (hi : Int)) = some false by unfold m_first_not_greater_w1c; dsimp only; rw [decide_eq_false (by omega)]]
      obtain rfl : lo = hi := by omega
      exact ⟨lo, rfl, h2, hA, hB⟩
theorem fng_ok {ts : List Int} (x : Int) (hf : Fal ts) : ∃ k : Nat, m_first_not_greater ts x = some (k : Int) ∧ k ≤ ts.length ∧ (∀ i, i < k → ∀ v, ts[i]? = some v → x < v) ∧ ∀ i, k ≤ i → ∀ v, ts[i]? = some v → v ≤ x := by
  obtain ⟨k, e, h⟩ := fng_loop (x := x) hf (ts.length + 1) 0 ts.length (by omega) (by omega) (Nat.le_refl _) (fun i h => by omega) (fun i h v hv => by
    have := (List.getElem?_eq_some_iff.mp hv).1; omega)
  refine ⟨k, ?_, h⟩
  unfold m_first_not_greater whileN
  rw [show ((0 : Int), (ts.length : Int)) = (((0 : Nat) : Int), (ts.length : Int)) from rfl, e]
  rfl
theorem pat_step {ts xs : List Int} {x : Int} {k : Nat} (hf : Fal ts) (hk : k ≤ ts.length) (hA : ∀ i, i < k → ∀ v, ts[i]? = some v → x < v) (hB : ∀ i, k ≤ i → ∀ v, ts[i]? = some v → v ≤ x) (hc : ∀ y, (cnt ts y : Int) = best (some y) xs (lens xs)) :
    (k : Int) = best (some x) xs (lens xs) ∧ Fal (ts.take k ++ x :: ts.drop (k + 1)) ∧ ∀ y, (cnt (ts.take k ++ x :: ts.drop (k + 1)) y : Int) = best (some y) (x :: xs) (lens (x :: xs)) := by
  obtain ⟨A, hAe⟩ : ∃ A, A = ts.take k := ⟨_, rfl⟩
  obtain ⟨B, hBe⟩ : ∃ B, B = ts.drop k := ⟨_, rfl⟩
  have et : ts = A ++ B := by rw [hAe, hBe, List.take_append_drop]
  have lA : A.length = k := by rw [hAe, List.length_take]; omega
  have mA : ∀ a ∈ A, x < a := fun a ha => by
    obtain ⟨i, hi, rfl⟩ := List.mem_iff_getElem.mp ha
    refine hA i (by omega) _ ?_
    rw [et, List.getElem?_append_left hi, List.getElem?_eq_getElem hi]
  have mB : ∀ b ∈ B, b ≤ x := fun b hb => by
    obtain ⟨i, hi, rfl⟩ := List.mem_iff_getElem.mp hb
    refine hB (k + i) (by omega) _ ?_
    rw [et, List.getElem?_append_right (by omega), lA, show k + i - k = i by omega, List.getElem?_eq_getElem hi]
  have eD : ts.drop (k + 1) = B.tail := by rw [hBe, List.tail_drop]
  rw [← hAe, eD]
  rw [et] at hf hc
  clear et hAe hBe eD hA hB hk
  obtain ⟨fA, fB, fAB⟩ := List.pairwise_append.mp hf
  have cA : ∀ y, y ≤ x → cnt A y = k := fun y hy => by
    rw [← lA]
    exact List.countP_eq_length.mpr fun a ha => decide_eq_true (by have := mA a ha; omega)
  have cB : ∀ (L : List Int) (y : Int), (∀ b ∈ L, b ≤ y) → cnt L y = 0 := fun L y h => List.countP_eq_zero.mpr fun b hb => by
    have := h b hb
    simp only [decide_eq_true_eq]; omega
  have hk : (k : Int) = best (some x) xs (lens xs) := by
    have := hc x
    rw [← this]
    show _ = ((A ++ B).countP _ : Int)
    rw [List.countP_append]
    have e1 := cA x (Int.le_refl _)
    have e2 := cB B x mB
    show (k : Int) = ((cnt A x + cnt B x : Nat) : Int)
    rw [e1, e2]; rfl
  refine ⟨hk, ?_, fun y => ?_⟩
  · refine List.pairwise_append.mpr ⟨fA, List.pairwise_cons.mpr ⟨fun b hb => ?_, ?_⟩, fun a ha b hb => ?_⟩
    · cases B with
      | nil => cases hb
      | cons b0 B' =>
        have h1 := (List.pairwise_cons.mp fB).1 b hb
        have h2 := mB b0 (List.mem_cons_self ..)
        omega
    · exact fB.sublist (List.tail_sublist B)
    · rcases List.mem_cons.mp hb with rfl | hb
      · exact mA a ha
      · exact fAB a ha b (List.mem_of_mem_tail hb)
  · have hy := hc y
    unfold lens best
    rw [← hk, ← hy]
    show ((A ++ x :: B.tail).countP _ : Int) = cond (decide (y < x)) (max ((k : Int) + 1) ((A ++ B).countP _ : Int)) ((A ++ B).countP _ : Int)
    rw [List.countP_append, List.countP_append]
    show ((cnt A y + cnt (x :: B.tail) y : Nat) : Int) = cond (decide (y < x)) (max ((k : Int) + 1) ((cnt A y + cnt B y : Nat) : Int)) ((cnt A y + cnt B y : Nat) : Int)
    by_cases c : y < x
    · rw [decide_eq_true c, cT, cA y (by omega)]
      have e1 : cnt (x :: B.tail) y = cnt B.tail y + 1 := List.countP_cons_of_pos (by simpa using c)
      rw [e1]
      cases B with
      | nil =>
        show ((k + (0 + 1) : Nat) : Int) = max ((k : Int) + 1) ((k + 0 : Nat) : Int)
        omega
      | cons b B' =>
        show ((k + (cnt B' y + 1) : Nat) : Int) = max ((k : Int) + 1) ((k + cnt (b :: B') y : Nat) : Int)
        by_cases d : y < b
        · have e2 : cnt (b :: B') y = cnt B' y + 1 := List.countP_cons_of_pos (by simpa using d)
          rw [e2]; omega
        · have e2 : cnt (b :: B') y = cnt B' y := List.countP_cons_of_neg (by simpa using d)
          have e3 : cnt B' y = 0 := cB B' y fun z hz => by
            have := (List.pairwise_cons.mp fB).1 z hz
            omega
          rw [e2, e3]; omega
    · rw [decide_eq_false c, cF]
      have e1 : cnt (x :: B.tail) y = cnt B.tail y := List.countP_cons_of_neg (by simpa using c)
      have e2 : cnt B.tail y = 0 := cB _ y fun z hz => by
        have := mB z (List.mem_of_mem_tail hz); omega
      have e3 : cnt B y = 0 := cB _ y fun z hz => by
        have := mB z hz; omega
      rw [e1, e2, e3]
theorem rngD_at {n i : Nat} {x : Int} (h : (rngD ((n : Int) - 1) (-1))[i]? = some x) : i < n ∧ x = ((n - 1 - i : Nat) : Int) := by
  unfold rngD at h
  rw [List.getElem?_map] at h
  obtain ⟨y, hy, rfl⟩ := Option.map_eq_some_iff.mp h
  obtain ⟨h1, h2⟩ := List.getElem?_eq_some_iff.mp hy
  rw [List.length_range] at h1
  rw [List.getElem_range] at h2
  omega
theorem setN {α : Type} {xs : List α} {i : Nat} {x : α} (h : i < xs.length) : setL xs (i : Int) x = some (xs.set i x) := by
  unfold setL ixN
  rw [if_pos (by omega), if_pos (by omega)]
  rfl
theorem repL_ok {x : Int} {n : Nat} (h : n < 16777216) : repL [x] (n : Int) = some (List.replicate n x) := by
  unfold repL
  rw [if_pos ⟨by omega, by omega, by show 1 * (n : Int).toNat ≤ 16777216; omega⟩]
  rw [show (n : Int).toNat = n by omega]
  congr 1
  induction n with
  | zero => rfl
  | succ n ih => rw [List.replicate_succ, List.flatten_cons, ih (by omega)]; rfl
theorem drop_at {α : Type} {xs : List α} {j : Nat} (h : j < xs.length) : xs.drop j = xs[j] :: xs.drop (j + 1) := List.drop_eq_getElem_cons h
theorem lengths_ok {ns : List Int} (hl : ns.length < 16000000) : m_lengths_from ns = some (lens ns) := by
  unfold m_lengths_from
  rw [repL_ok (by omega), ob]
  unfold rngDL
  rw [if_pos (by unfold rngOk; simp only [decide_eq_true_eq]; omega), ob]
  obtain ⟨⟨s1, s2⟩, e, p⟩ := loopN_inv (b := m_lengths_from_l1 ns) (fun i (st : List Int × List Int) => i ≤ ns.length ∧ st.1 = List.replicate (ns.length - i) 0 ++ lens (ns.drop (ns.length - i)) ∧ st.2.length ≤ i ∧ Fal st.2 ∧ ∀ y, (cnt st.2 y : Int) = best (some y) (ns.drop (ns.length - i)) (lens (ns.drop (ns.length - i))))
    (xs := rngD ((ns.length : Int) - 1) (-1)) (s := (List.replicate ns.length 0, ([] : List Int))) ⟨by omega, by simp [lens], Nat.le_refl _, List.Pairwise.nil, fun y => by simp [lens, best]⟩ fun i x st hx => by
    obtain ⟨fo, ts⟩ := st
    rintro ⟨h1, h2, h3, h4, h5⟩
    simp only at h2 h3 h4 h5
    obtain ⟨hi, rfl⟩ := rngD_at hx
    have ej : ns.length - i = (ns.length - 1 - i) + 1 := by omega
    generalize hj : ns.length - 1 - i = j at *
    have hjl : j < ns.length := by omega
    obtain ⟨k, ek, kl, kA, kB⟩ := fng_ok ns[j] h4
    rw [ej] at h2 h5
    obtain ⟨q1, q2, q3⟩ := pat_step h4 kl kA kB h5
    have et : (cond (decide ((k : Int) = (ts.length : Int))) (obind (atI ns (j : Int)) fun (t_15 : Int) =>
        obind (appL ts t_15) fun (tails_17 : (List Int)) =>
        some tails_17) (obind (atI ns (j : Int)) fun (t_19 : Int) =>
        obind (setL ts (k : Int) t_19) fun (tails_21 : (List Int)) =>
        some tails_21)) = some (ts.take k ++ ns[j] :: ts.drop (k + 1)) := by
      by_cases z : k = ts.length
      · rw [decide_eq_true (by omega), cT, atN hjl, ob]
        unfold appL
        rw [if_pos (by show ts.length < 16777216; omega), ob]
        subst z
        rw [List.take_length, List.drop_eq_nil_of_le (by omega)]
      · rw [decide_eq_false (by omega), cF, atN hjl, ob, setN (by omega), ob, List.set_eq_take_append_cons_drop, if_pos (by omega)]
    rw [atN hjl] at et
    unfold m_lengths_from_l1
    dsimp only
    rw [atN hjl, ob, ek, ob, et, ob]
    have lfo : fo.length = ns.length := by
      rw [h2, List.length_append, List.length_replicate, lens_length, List.length_drop]; omega
    rw [setN (by omega), ob]
    refine ⟨_, rfl, by omega, ?_, ?_, ?_, ?_⟩
    · show fo.set j ((k : Int) + 1) = _
      rw [show ns.length - (i + 1) = j by omega, h2, q1, List.set_append_left _ _ (by rw [List.length_replicate]; omega), List.replicate_succ', List.set_append_right _ _ (by rw [List.length_replicate]; omega), List.length_replicate, Nat.sub_self, List.append_assoc]
      rw [drop_at hjl]
      rfl
    · show (ts.take k ++ ns[j] :: ts.drop (k + 1)).length ≤ i + 1
      rw [List.length_append, List.length_cons, List.length_take, List.length_drop]; omega
    · exact q2
    · show ∀ y, _
      rw [show ns.length - (i + 1) = j by omega, drop_at hjl]
      exact q3
  rw [e, ob]
  have hlen : (rngD ((ns.length : Int) - 1) (-1)).length = ns.length := by
    unfold rngD
    rw [List.length_map, List.length_range]; omega
  obtain ⟨_, p1, _⟩ := p
  rw [hlen, Nat.sub_self] at p1
  rw [show s1 = lens ns by simpa using p1]
end K65

set_option Elab.async false
set_option linter.all false
set_option autoImplicit false
set_option maxRecDepth 100000
set_option maxHeartbeats 4000000
/-! the greedy row, by the program and by the law -/
namespace K65
open PySem L2 Ly
/-- one step of the law's lengths -/
def stp (x : Int) (acc : Int) (p : Int × Int) : Int := cond (decide (x < p.1)) (max2 acc (p.2 + 1)) acc
theorem fold_best (x : Int) : ∀ (xs ls : List Int) (acc : Int), 1 ≤ acc → xs.length = ls.length → (xs.zip ls).foldl (stp x) acc = max acc (best (some x) xs ls + 1)
  | [], [], acc, h, _ => by
    show acc = max acc (best (some x) [] [] + 1)
    unfold best; omega
  | y :: xs, l :: ls, acc, h, e => by
    rw [List.zip_cons_cons, List.foldl_cons]
    unfold stp best
    show List.foldl (stp x) (cond (decide (x < y)) (max2 acc (l + 1)) acc) _ = max acc (cond (decide (x < y)) _ _ + 1)
    by_cases c : x < y
    · rw [decide_eq_true c, cT, cT, fold_best x xs ls _ (by unfold max2; split <;> omega) (by simpa using e)]
      unfold max2
      split <;> omega
    · rw [decide_eq_false c, cF, cF, fold_best x xs ls _ h (by simpa using e)]
  | [], _ :: _, _, _, e => by simp at e
  | _ :: _, [], _, _, e => by simp at e
theorem rng2_ok {m n : Int} (h0 : -(2 ^ 60) ≤ m) (h1 : m ≤ 2 ^ 60) (h2 : -(2 ^ 60) ≤ n) (h3 : n ≤ 2 ^ 60) : rngL m n = some ((List.range (n - m).toNat).map fun (i : Nat) => m + (i : Int)) := by
  unfold rngL
  rw [if_pos]
  · rfl
  · unfold rngOk
    simp only [decide_eq_true_eq]
    omega
theorem rng2_at {m : Int} {n i : Nat} {x : Int} (h : ((List.range n).map fun (i : Nat) => m + (i : Int))[i]? = some x) : x = m + (i : Int) ∧ i < n := by
  rw [List.getElem?_map] at h
  obtain ⟨y, hy, rfl⟩ := Option.map_eq_some_iff.mp h
  obtain ⟨h1, h2⟩ := List.getElem?_eq_some_iff.mp hy
  rw [List.length_range] at h1
  rw [List.getElem_range] at h2
  exact ⟨by omega, h1⟩
theorem take_snoc {α : Type} {xs : List α} {i : Nat} {x : α} (h : xs[i]? = some x) : xs.take (i + 1) = xs.take i ++ [x] := by
  rw [List.take_succ, h]; rfl
/-- a place of the law's lengths -/
theorem rising_l1 {ns base : List Int} {j turn : Nat} (hl : ns.length < 16000000) (hb : base.length = ns.length) (hj : j < ns.length) (ht : j = ns.length - 1 - turn) (htn : turn < ns.length) :
    loopN (m_law_rising_l1 ns (turn : Int)) ((List.range ((ns.length : Int) - ((j : Int) + 1)).toNat).map fun (i : Nat) => ((j : Int) + 1) + (i : Int)) base =
      some (base.set j ((((ns.drop (j + 1)).zip (base.drop (j + 1))).foldl (stp ns[j]) (base[j]'(by omega))))) := by
  have ea : (((ns.length : Int) - (1 : Int)) - (turn : Int)) = (j : Int) := by omega
  have lz : ((ns.drop (j + 1)).zip (base.drop (j + 1))).length = ns.length - (j + 1) := by
    rw [List.length_zip, List.length_drop, List.length_drop, hb]; omega
  obtain ⟨s, e, p⟩ := loopN_inv (b := m_law_rising_l1 ns (turn : Int)) (fun i (s : List Int) => s = base.set j ((((ns.drop (j + 1)).zip (base.drop (j + 1))).take i).foldl (stp ns[j]) (base[j]'(by omega))))
    (xs := (List.range ((ns.length : Int) - ((j : Int) + 1)).toNat).map fun (i : Nat) => ((j : Int) + 1) + (i : Int)) (s := base) (by simp) fun i x s hx hs => by
    obtain ⟨rfl, hi⟩ := rng2_at hx
    have hi' : j + 1 + i < ns.length := by omega
    have ei : ((j : Int) + 1) + (i : Int) = ((j + 1 + i : Nat) : Int) := by omega
    have hz : ((ns.drop (j + 1)).zip (base.drop (j + 1)))[i]? = some (ns[j + 1 + i], base[j + 1 + i]'(by omega)) := by
      rw [List.getElem?_zip_eq_some]
      exact ⟨by rw [List.getElem?_drop, List.getElem?_eq_getElem hi'], by rw [List.getElem?_drop, List.getElem?_eq_getElem (by omega)]⟩
    have sl : s.length = ns.length := by rw [hs, List.length_set, hb]
    have s1 : s[j]'(by omega) = (((ns.drop (j + 1)).zip (base.drop (j + 1))).take i).foldl (stp ns[j]) (base[j]'(by omega)) := by
      subst hs; rw [List.getElem_set_self]
    have s2 : s[j + 1 + i]'(by omega) = base[j + 1 + i]'(by omega) := by
      subst hs; rw [List.getElem_set_ne (by omega)]
    unfold m_law_rising_l1
    rw [ei]
    dsimp only
    rw [atN hi', ob, ea, atN hj, ob, atN (by omega), ob, atN (by omega), ob, setN (by omega), ob, s1, s2, take_snoc hz, List.foldl_append]
    show ∃ s', cond (decide (ns[j] < ns[j + 1 + i])) _ _ = _ ∧ s' = base.set j (stp ns[j] _ (ns[j + 1 + i], base[j + 1 + i]'(by omega)))
    unfold stp
    dsimp only
    by_cases c : ns[j] < ns[j + 1 + i]
    · rw [decide_eq_true c, cT, cT]
      refine ⟨_, rfl, ?_⟩
      have g : ∀ v : Int, s.set j v = base.set j v := fun v => by rw [hs, List.set_set]
      exact g _
    · rw [decide_eq_false c, cF, cF]
      exact ⟨_, rfl, hs⟩
  rw [e]
  have lr : ((List.range ((ns.length : Int) - ((j : Int) + 1)).toNat).map fun (i : Nat) => ((j : Int) + 1) + (i : Int)).length = ns.length - (j + 1) := by
    rw [List.length_map, List.length_range]; omega
  rw [lr, List.take_of_length_le (by omega)] at p
  rw [p]
theorem longest_ok {ns : List Int} (hl : ns.length < 16000000) : loopN (m_law_rising_l2 ns) ((List.range ns.length).map fun (i : Nat) => (i : Int)) (List.replicate ns.length 1) = some (lens ns) := by
  obtain ⟨s, e, p⟩ := loopN_inv (b := m_law_rising_l2 ns) (fun i (s : List Int) => i ≤ ns.length ∧ s = List.replicate (ns.length - i) 1 ++ lens (ns.drop (ns.length - i)))
    (xs := (List.range ns.length).map fun (i : Nat) => (i : Int)) (s := List.replicate ns.length 1) ⟨by omega, by simp [lens]⟩ fun i x s hx => by
    rintro ⟨h1, h2⟩
    obtain ⟨rfl, hi⟩ := rng_at hx
    have ej : ns.length - i = (ns.length - 1 - i) + 1 := by omega
    generalize hj : ns.length - 1 - i = j at *
    have hjl : j < ns.length := by omega
    rw [ej] at h2
    have sl : s.length = ns.length := by
      rw [h2, List.length_append, List.length_replicate, lens_length, List.length_drop]; omega
    have s1 : s[j]'(by omega) = 1 := by
      subst h2
      rw [List.getElem_append_left (by rw [List.length_replicate]; omega), List.getElem_replicate]
    have s2 : s.drop (j + 1) = lens (ns.drop (j + 1)) := by
      rw [h2, List.drop_append_of_le_length (by rw [List.length_replicate]; omega), List.drop_eq_nil_of_le (by rw [List.length_replicate]; omega), List.nil_append]
    have ea : ((((ns.length : Int) - (1 : Int)) - (i : Int)) + (1 : Int)) = (j : Int) + 1 := by omega
    unfold m_law_rising_l2
    dsimp only
    rw [ea, rng2_ok (by omega) (by omega) (by omega) (by omega), ob, rising_l1 (turn := i) hl sl hjl hj.symm hi, ob]
    refine ⟨_, rfl, by omega, ?_⟩
    rw [s1, s2, fold_best _ _ _ _ (by omega) (by rw [lens_length]), show ns.length - (i + 1) = j by omega]
    have hb := best_nn (some ns[j]) (ns.drop (j + 1)) (lens (ns.drop (j + 1)))
    rw [show max 1 (best (some ns[j]) (ns.drop (j + 1)) (lens (ns.drop (j + 1))) + 1) = best (some ns[j]) (ns.drop (j + 1)) (lens (ns.drop (j + 1))) + 1 by omega]
    rw [h2, List.set_append_left _ _ (by rw [List.length_replicate]; omega), List.replicate_succ', List.set_append_right _ _ (by rw [List.length_replicate]; omega), List.length_replicate, Nat.sub_self, List.append_assoc, drop_at hjl]
    rfl
  rw [e]
  obtain ⟨_, p⟩ := p
  rw [List.length_map, List.length_range, Nat.sub_self] at p
  rw [show s = lens ns by simpa using p]
/-! the greedy loops -/
def Last (ns found : List Int) (prev : Option Int) : Prop := (found = [] ∧ prev = none) ∨ ∃ (f : List Int) (i : Nat), i < ns.length ∧ found = f ++ [(i : Int)] ∧ prev = ns[i]?
theorem at_last {f : List Int} {i : Int} : atI (f ++ [i]) (-1) = some i := by
  unfold atI ixN
  rw [if_neg (by omega), if_pos (by rw [List.length_append]; simp; omega), List.length_append]
  show (f ++ [i])[(-1 + ((f.length + 1 : Nat) : Int)).toNat]? = some i
  rw [show (-1 + ((f.length + 1 : Nat) : Int)).toNat = f.length by omega]
  simp
/-- the test of a place -/
theorem last_test {ns found : List Int} {prev : Option Int} {x : Int} (h : Last ns found prev) : (cond (decide ((found.length : Int) = (0 : Int))) (some true) (obind (atI found (-1 : Int)) fun (t_10 : Int) => obind (atI ns t_10) fun (t_12 : Int) => some (decide (t_12 < x)))) = some (ab prev x) := by
  rcases h with ⟨rfl, rfl⟩ | ⟨f, i, hi, rfl, rfl⟩
  · rfl
  · rw [decide_eq_false (by rw [List.length_append]; simp; omega), cF, at_last, ob, atN hi, ob, List.getElem?_eq_getElem hi]
    rfl
theorem greedy_loop {β : Type} {ns ls : List Int} {b : β → (Int × List Int) → Option (Ctl (Int × List Int) Empty)} (mk : Nat → Int → β) (hb : ∀ (p : Nat) (x l left : Int) (found : List Int) (prev : Option Int), ns[p]? = some x → ls[p]? = some l → Last ns found prev → found.length ≤ p →
      b (mk p x) (left, found) = some (.nx (if l = left ∧ 0 < left ∧ ab prev x = true then (left - 1, found ++ [(p : Int)]) else (left, found)))) :
    ∀ (xs : List Int) (p : Nat) (ls' : List Int) (left : Int) (found : List Int) (prev : Option Int), (∀ i, xs[i]? = ns[p + i]?) → (∀ i, ls'[i]? = ls[p + i]?) → xs.length = ls'.length → Last ns found prev → found.length ≤ p →
      ∃ left', loopM b (xs.mapIdx fun i x => mk (p + i) x) (left, found) = some (.nx (left', found ++ gr p xs ls' left prev))
  | [], p, ls', left, found, prev, _, _, _, _, _ => ⟨left, by unfold gr; rw [List.append_nil]; rfl⟩
  | x :: xs, p, [], left, found, prev, _, _, e, _, _ => by simp at e
  | x :: xs, p, l :: ls', left, found, prev, h1, h2, e, hl, hz => by
    have hx : ns[p]? = some x := by have := h1 0; simpa using this.symm
    have hll : ls[p]? = some l := by have := h2 0; simpa using this.symm
    rw [List.mapIdx_cons]
    unfold loopM
    rw [show p + 0 = p from rfl, hb p x l left found prev hx hll hl hz]
    unfold gr
    have n1 : ∀ i, xs[i]? = ns[p + 1 + i]? := fun i => by have := h1 (i + 1); rw [show p + (i + 1) = p + 1 + i by omega] at this; simpa using this
    have n2 : ∀ i, ls'[i]? = ls[p + 1 + i]? := fun i => by have := h2 (i + 1); rw [show p + (i + 1) = p + 1 + i by omega] at this; simpa using this
    have hi : p < ns.length := (List.getElem?_eq_some_iff.mp hx).1
    have ef : (fun i (y : Int) => mk (p + (i + 1)) y) = fun i y => mk (p + 1 + i) y := by
      funext i y; rw [show p + (i + 1) = p + 1 + i by omega]
    by_cases c : l = left ∧ 0 < left ∧ ab prev x = true
    · rw [if_pos c, if_pos c]
      obtain ⟨left', q⟩ := greedy_loop mk hb xs (p + 1) ls' (left - 1) (found ++ [(p : Int)]) (some x) n1 n2 (by simpa using e) (.inr ⟨found, p, hi, rfl, hx.symm⟩) (by rw [List.length_append]; simp; omega)
      refine ⟨left', ?_⟩
      dsimp only
      rw [ef, q, List.append_assoc]
      rfl
    · rw [if_neg c, if_neg c]
      obtain ⟨left', q⟩ := greedy_loop mk hb xs (p + 1) ls' left found prev n1 n2 (by simpa using e) hl (by omega)
      refine ⟨left', ?_⟩
      dsimp only
      rw [ef, q]
theorem best_none : ∀ {xs ls : List Int}, xs.length = ls.length → (∀ l ∈ ls, 1 ≤ l) → best none xs ls = maxDL ls 0 := by
  have key : ∀ (ls : List Int) (a : Int), ls.foldl (fun a y => if a < y then y else a) a = ls.foldl max a := fun ls a => by
    congr 1
    funext a y
    split <;> omega
  have key2 : ∀ (xs ls : List Int) (a : Int), xs.length = ls.length → 0 ≤ a → ls.foldl max a = max a (best none xs ls) := by
    intro xs
    induction xs with
    | nil => intro ls a e h; cases ls with
      | nil => show a = max a (best none [] []); unfold best; omega
      | cons _ _ => simp at e
    | cons x xs ih => intro ls a e h; cases ls with
      | nil => simp at e
      | cons l ls =>
        rw [List.foldl_cons, ih ls (max a l) (by simpa using e) (by omega)]
        rw [show best none (x :: xs) (l :: ls) = max l (best none xs ls) from rfl]
        omega
  intro xs ls e h
  cases ls with
  | nil =>
    cases xs with
    | nil => rfl
    | cons _ _ => simp at e
  | cons l ls =>
    cases xs with
    | nil => simp at e
    | cons x xs =>
      rw [show best none (x :: xs) (l :: ls) = max l (best none xs ls) from rfl]
      unfold maxDL maxL
      dsimp only
      rw [key, key2 xs ls l (by simpa using e) (by have := h l (List.mem_cons_self ..); omega)]
theorem lens_len1 (ns : List Int) : ∀ l ∈ lens ns, 1 ≤ l := fun l h => lens_pos h
theorem ite_out {S R : Type} {c : Prop} [Decidable c] {x y : S} : (if c then (some (.nx x) : Option (Ctl S R)) else some (.nx y)) = some (.nx (if c then x else y)) := by split <;> rfl
/-- THE row -/
abbrev row (ns : List Int) : List Int := gr 0 ns (lens ns) (maxDL (lens ns) 0) none
theorem enum_idx (ns : List Int) : enumL ns = ns.mapIdx fun i x => (((0 + i : Nat) : Int), x) := by
  unfold enumL
  congr 1
  funext i x
  rw [Nat.zero_add]
theorem places_ok {ns : List Int} (hl : ns.length < 16000000) : m_rising_places ns = some (row ns) := by
  unfold m_rising_places
  rw [lengths_ok hl, ob]
  obtain ⟨left', q⟩ := greedy_loop (ns := ns) (ls := lens ns) (b := m_rising_places_l1 ns (lens ns)) (fun p x => ((p : Int), x)) (fun p x l left found prev hx hll hL hz => by
    have hi : p < (lens ns).length := (List.getElem?_eq_some_iff.mp hll).1
    have hi2 : p < ns.length := (List.getElem?_eq_some_iff.mp hx).1
    have hl' : (lens ns)[p] = l := (List.getElem?_eq_some_iff.mp hll).2
    unfold m_rising_places_l1
    dsimp only
    rw [atN hi, ob, hl', last_test hL]
    by_cases c1 : l = left
    · rw [decide_eq_true c1, cT]
      by_cases c2 : 0 < left
      · rw [decide_eq_true c2, cT, ob, ob, ob]
        by_cases c3 : ab prev x = true
        · rw [c3, cT, if_pos ⟨c1, c2, rfl⟩]
          unfold appL
          rw [if_pos (by show found.length < 16777216; omega), ob]
        · rw [if_neg (fun z => c3 z.2.2), show ab prev x = false by simpa using c3, cF]
      · rw [decide_eq_false c2, cF, ob, ob, cF, if_neg (fun z => c2 z.2.1)]
    · rw [decide_eq_false c1, cF, ob, cF, if_neg (fun z => c1 z.1)]) ns 0 (lens ns) (maxDL (lens ns) 0) [] none (fun i => by rw [Nat.zero_add]) (fun i => by rw [Nat.zero_add]) (lens_length ns).symm (.inl ⟨rfl, rfl⟩) (Nat.le_refl _)
  unfold loopN
  rw [enum_idx, q, ob]
  rfl
theorem rng_idx (ns : List Int) : ((List.range ns.length).map fun (i : Nat) => (i : Int)) = ns.mapIdx fun i _ => ((0 + i : Nat) : Int) := by
  apply List.ext_getElem
  · simp
  · intro i h1 h2; simp
theorem rising_ok {ns : List Int} (hl : ns.length < 16000000) : m_law_rising ns = some (row ns) := by
  unfold m_law_rising
  rw [repL_ok (by omega), ob, rngL_ok (by omega) (by omega), ob, show (ns.length : Int).toNat = ns.length by omega, longest_ok hl, ob]
  have ev : (cond (decide ((0 : Int) < ((lens ns).length : Int))) (obind (maxL (lens ns)) fun (m_27 : Int) => some m_27) (some (0 : Int))) = some (maxDL (lens ns) 0) := by
    cases h : lens ns with
    | nil => rfl
    | cons l ls => rw [decide_eq_true (by rw [List.length_cons]; omega), cT]; rfl
  rw [ev, ob, ob]
  obtain ⟨left', q⟩ := greedy_loop (ns := ns) (ls := lens ns) (b := m_law_rising_l3 ns (lens ns)) (fun p _ => (p : Int)) (fun p x l left found prev hx hll hL hz => by
    have hi : p < (lens ns).length := (List.getElem?_eq_some_iff.mp hll).1
    have hi2 : p < ns.length := (List.getElem?_eq_some_iff.mp hx).1
    have hl' : (lens ns)[p] = l := (List.getElem?_eq_some_iff.mp hll).2
    have hx' : ns[p] = x := (List.getElem?_eq_some_iff.mp hx).2
    unfold m_law_rising_l3
    dsimp only
    rw [atN hi, ob, hl', atN hi2, ob, hx', last_test hL]
    by_cases c2 : 0 < left
    · rw [decide_eq_true c2, cT]
      by_cases c1 : l = left
      · rw [decide_eq_true c1, cT, ob, ob, ob]
        by_cases c3 : ab prev x = true
        · rw [c3, cT, if_pos ⟨c1, c2, rfl⟩]
          unfold appL
          rw [if_pos (by show found.length < 16777216; omega), ob]
        · rw [if_neg (fun z => c3 z.2.2), show ab prev x = false by simpa using c3, cF]
      · rw [decide_eq_false c1, cF, ob, ob, cF, if_neg (fun z => c1 z.1)]
    · rw [decide_eq_false c2, cF, ob, cF, if_neg (fun z => c2 z.2.1)]) ns 0 (lens ns) (maxDL (lens ns) 0) [] none (fun i => by rw [Nat.zero_add]) (fun i => by rw [Nat.zero_add]) (lens_length ns).symm (.inl ⟨rfl, rfl⟩) (Nat.le_refl _)
  unfold loopN
  rw [rng_idx, q, ob]
  rfl
end K65

set_option Elab.async false
set_option linter.all false
set_option autoImplicit false
set_option maxRecDepth 100000
set_option maxHeartbeats 4000000
/-! all rising rows, the least of the longest -/
namespace K65
open PySem L2 Ly
theorem catL_ok {α : Type} {a b : List α} (h : a.length + b.length ≤ 16777216) : catL a b = some (a ++ b) := by
  unfold catL
  rw [if_pos (show a.length + b.length ≤ LIM from h)]
/-- the rows of the first places -/
def RowsOf (ns : List Int) (k : Nat) (rows : List (List Int)) : Prop := rows.length ≤ 2 ^ k ∧ ∀ r, r ∈ rows ↔ ∃ v, Row 0 (ns.take k) none r v
theorem comp_some {α β : Type} {f : α → Unit → Option (Option β × Unit)} {g : α → Option β} : ∀ {xs : List α}, (∀ x ∈ xs, f x () = some (g x, ())) → compM f xs () = some (xs.filterMap g, ())
  | [], _ => rfl
  | x :: xs, h => by
    unfold compM
    rw [h x (List.mem_cons_self ..)]
    simp only [comp_some (f := f) (g := g) (xs := xs) fun y hy => h y (List.mem_cons_of_mem _ hy)]
    rw [List.filterMap_cons]
    cases g x <;> rfl
theorem c1_ok {ns : List Int} {k : Nat} (hk : k < ns.length) {r : List Int} {v : Option Int} (h : Row 0 (ns.take k) none r v) (hr : r.length < 16000000) : m_law_all_rising_c1 ns (k : Int) r () = some (cond (ab v ns[k]) (some (r ++ [(k : Int)])) none, ()) := by
  unfold m_law_all_rising_c1
  dsimp only
  have hL : Last ns r v := by
    rcases row_last h with ⟨h1, h2⟩ | ⟨r', i, h1, h2, h3⟩
    · exact .inl ⟨h1, h2⟩
    · rw [List.length_take] at h1
      exact .inr ⟨r', i, by omega, by rw [h2, Nat.zero_add], by rw [h3, List.getElem?_take, if_pos (by omega)]⟩
  have e : (cond (decide ((r.length : Int) = (0 : Int))) (some true) (obind (atI r (-1 : Int)) fun (t_7 : Int) => obind (atI ns t_7) fun (t_9 : Int) => obind (atI ns (k : Int)) fun (t_11 : Int) => some (decide (t_9 < t_11)))) = some (ab v ns[k]) := by
    have := last_test (x := ns[k]) hL
    rw [atN hk]
    exact this
  rw [e, ob]
  cases ab v ns[k]
  · rfl
  · rw [cT, catL_ok (by simp; omega), ob]
    rfl
theorem row_short : ∀ {xs : List Int} {p : Nat} {prev v : Option Int} {r : List Int}, Row p xs prev r v → r.length ≤ xs.length
  | [], _, _, _, _, h => by rw [h.1]; exact Nat.le_refl _
  | x :: xs, p, prev, v, r, h => by
    rcases h with h | ⟨r', e, _, h⟩
    · have := row_short h; rw [List.length_cons]; omega
    · have := row_short h; rw [e, List.length_cons, List.length_cons]; omega
theorem row_v : ∀ {xs : List Int} {p : Nat} {prev v w : Option Int} {r : List Int}, Row p xs prev r v → Row p xs prev r w → v = w
  | [], _, _, _, _, _, h, g => by rw [h.2, g.2]
  | x :: xs, p, prev, v, w, r, h, g => by
    rcases h with h | ⟨r', e, _, h⟩
    · rcases g with g | ⟨r2, e2, _, g⟩
      · exact row_v h g
      · have := row_ge h p r2 e2; omega
    · rcases g with g | ⟨r2, e2, _, g⟩
      · have := row_ge g p r' e; omega
      · rw [e] at e2
        cases e2
        exact row_v h g
theorem rows_step {ns : List Int} {k : Nat} {rows : List (List Int)} (hk : k < ns.length) (hn : k < 20) (h : RowsOf ns k rows) : ∃ rows', m_law_all_rising_l1 ns (k : Int) rows = some (.nx rows') ∧ RowsOf ns (k + 1) rows' := by
  obtain ⟨h1, h2⟩ := h
  have hp : 2 ^ k ≤ 2 ^ 20 := Nat.pow_le_pow_right (by decide) (by omega)
  have hp2 : 2 ^ (k + 1) = 2 ^ k * 2 := Nat.pow_succ ..
  have val : ∀ r ∈ rows, ∃ v, Row 0 (ns.take k) none r v := fun r hr => (h2 r).mp hr
  classical
  let g : List Int → Option (List Int) := fun r => if hr : ∃ v, Row 0 (ns.take k) none r v then cond (ab (Classical.choose hr) ns[k]) (some (r ++ [(k : Int)])) none else none
  have hg : ∀ r ∈ rows, m_law_all_rising_c1 ns (k : Int) r () = some (g r, ()) := fun r hr => by
    have hv := val r hr
    have hs := Classical.choose_spec hv
    have hlen := row_short hs
    rw [List.length_take] at hlen
    show _ = some (dite _ _ _, ())
    rw [dif_pos hv]
    exact c1_ok hk hs (by omega)
  unfold m_law_all_rising_l1
  dsimp only
  have ec : comp (m_law_all_rising_c1 ns (k : Int)) rows () = some (rows.filterMap g, ()) := by
    unfold comp
    rw [if_pos (show rows.length ≤ LIM from by show _ ≤ 16777216; omega)]
    exact comp_some hg
  have fl : (rows.filterMap g).length ≤ rows.length := List.length_filterMap_le ..
  rw [ec, ob]
  dsimp only
  rw [catL_ok (by omega), ob]
  refine ⟨_, rfl, by rw [List.length_append]; omega, fun r => ?_⟩
  have et : ns.take (k + 1) = ns.take k ++ [ns[k]] := by rw [List.take_succ, List.getElem?_eq_getElem hk]; rfl
  have lt : (ns.take k).length = k := by rw [List.length_take]; omega
  rw [List.mem_append, List.mem_filterMap, et]
  constructor
  · rintro (hr | ⟨r0, hr0, e⟩)
    · obtain ⟨v, hv⟩ := val r hr
      exact ⟨v, row_snoc.mpr (.inl hv)⟩
    · have hv := val r0 hr0
      have e' : (if hr : ∃ v, Row 0 (ns.take k) none r0 v then cond (ab (Classical.choose hr) ns[k]) (some (r0 ++ [(k : Int)])) none else none) = some r := e
      rw [dif_pos hv] at e'
      have hs := Classical.choose_spec hv
      cases a : ab (Classical.choose hv) ns[k] with
      | false => rw [a] at e'; cases e'
      | true =>
        rw [a] at e'
        have e' : some (r0 ++ [(k : Int)]) = some r := e'
        refine ⟨some ns[k], row_snoc.mpr (.inr ⟨r0, _, hs, a, ?_, rfl⟩)⟩
        rw [← Option.some.inj e', lt, Nat.zero_add]
  · rintro ⟨v, hv⟩
    rcases row_snoc.mp hv with hv | ⟨r', v', hv, a, e, _⟩
    · exact .inl ((h2 r).mpr ⟨v, hv⟩)
    · refine .inr ⟨r', (h2 r').mpr ⟨v', hv⟩, ?_⟩
      have hx : ∃ v, Row 0 (ns.take k) none r' v := ⟨v', hv⟩
      show (if hr : ∃ v, Row 0 (ns.take k) none r' v then cond (ab (Classical.choose hr) ns[k]) (some (r' ++ [(k : Int)])) none else none) = some r
      rw [dif_pos hx, ← row_v hv (Classical.choose_spec hx), a, cT, e, lt, Nat.zero_add]
theorem all_ok {ns : List Int} (hl : ns.length ≤ 9) : ∃ rows, m_law_all_rising ns = some rows ∧ rows.length ≤ 512 ∧ ∀ r, r ∈ rows ↔ ∃ v, Row 0 ns none r v := by
  unfold m_law_all_rising
  rw [rngL_ok (by omega) (by omega), ob, show (ns.length : Int).toNat = ns.length by omega]
  obtain ⟨rows, e, p⟩ := loopN_inv (b := m_law_all_rising_l1 ns) (fun i (rows : List (List Int)) => RowsOf ns i rows) (xs := (List.range ns.length).map fun (i : Nat) => (i : Int)) (s := ([([] : List Int)] : List (List Int))) ⟨Nat.le_refl _, fun r => by
    rw [List.mem_singleton, List.take_zero]
    exact ⟨fun h => ⟨none, h, rfl⟩, fun ⟨v, h⟩ => h.1⟩⟩ fun i x rows hx hR => by
    obtain ⟨rfl, hi⟩ := rng_at hx
    exact rows_step hi (by omega) hR
  rw [e, ob]
  obtain ⟨p1, p2⟩ := p
  rw [List.length_map, List.length_range] at p1 p2
  have hp : 2 ^ ns.length ≤ 2 ^ 9 := Nat.pow_le_pow_right (by decide) hl
  refine ⟨rows, rfl, by omega, fun r => ?_⟩
  rw [p2 r, List.take_length]
theorem maxL_of {ls : List Int} {m : Int} (hm : m ∈ ls) (hle : ∀ l ∈ ls, l ≤ m) : maxL ls = some m := by
  cases ls with
  | nil => cases hm
  | cons a ls =>
    unfold maxL
    have key : ∀ (ls : List Int) (a : Int), (∀ l ∈ a :: ls, l ≤ m) → m ∈ a :: ls → ls.foldl (fun a y => if a < y then y else a) a = m := by
      intro ls
      induction ls with
      | nil => intro a _ h2; exact (List.mem_singleton.mp h2).symm
      | cons b ls ih =>
        intro a h1 h2
        rw [List.foldl_cons]
        refine ih _ (fun l hl => ?_) ?_
        · rcases List.mem_cons.mp hl with rfl | hl
          · have ha := h1 a (List.mem_cons_self ..)
            have hb := h1 b (List.mem_cons_of_mem _ (List.mem_cons_self ..))
            split <;> assumption
          · exact h1 l (List.mem_cons_of_mem _ (List.mem_cons_of_mem _ hl))
        · have ha := h1 a (List.mem_cons_self ..)
          have hb := h1 b (List.mem_cons_of_mem _ (List.mem_cons_self ..))
          rcases List.mem_cons.mp h2 with rfl | h2
          · rw [if_neg (by omega)]; exact List.mem_cons_self ..
          · rcases List.mem_cons.mp h2 with rfl | h2
            · by_cases c : a < m
              · rw [if_pos c]; exact List.mem_cons_self ..
              · rw [if_neg c, show a = m by omega]; exact List.mem_cons_self ..
            · exact List.mem_cons_of_mem _ h2
    exact congrArg some (key ls a hle hm)
theorem sort_first {rs : List (List Int)} {R : List Int} (hl : rs.length ≤ 16777216) (hR : R ∈ rs) (hle : ∀ r ∈ rs, R ≤ r) : ∃ ys, sortLI rs = some ys ∧ atI ys 0 = some R := by
  unfold sortLI
  rw [if_pos (show rs.length ≤ LIM from hl)]
  refine ⟨_, rfl, ?_⟩
  have hp := List.mergeSort_perm rs (fun p q : List Int => decide (p ≤ q))
  have hs : (rs.mergeSort fun p q => decide (p ≤ q)).Pairwise (fun p q => decide (p ≤ q) = true) := List.pairwise_mergeSort (le := fun p q : List Int => decide (p ≤ q)) (fun a b c h1 h2 => decide_eq_true (List.le_trans (of_decide_eq_true h1) (of_decide_eq_true h2))) (fun a b => by
    rw [Bool.or_eq_true, decide_eq_true_eq, decide_eq_true_eq]
    exact List.le_total a b) rs
  cases e : rs.mergeSort (fun p q => decide (p ≤ q)) with
  | nil =>
    rw [e] at hp
    have := hp.mem_iff.mpr hR
    cases this
  | cons y ys =>
    rw [e] at hp hs
    have h1 : y ≤ R := by
      have hm := hp.mem_iff.mpr hR
      rcases List.mem_cons.mp hm with rfl | hm
      · exact List.le_refl _
      · exact of_decide_eq_true ((List.pairwise_cons.mp hs).1 R hm)
    have h2 : R ≤ y := hle y (hp.mem_iff.mp (List.mem_cons_self ..))
    rw [show y = R from List.le_antisymm h1 h2]
    exact atN (xs := R :: ys) (i := 0) (by simp)
theorem due_ok {ns : List Int} (hl : ns.length < 16000000) : m_law_due_row ns = some (row ns) := by
  unfold m_law_due_row
  by_cases c : (9 : Int) < (ns.length : Int)
  · rw [decide_eq_true c, cT, rising_ok hl, ob]
  · rw [decide_eq_false c, cF]
    obtain ⟨rows, e, h1, h2⟩ := all_ok (ns := ns) (by omega)
    have hb : maxDL (lens ns) 0 = best none ns (lens ns) := (best_none (lens_length ns).symm (lens_len1 ns)).symm
    obtain ⟨g1, g2, g3⟩ := gr_least (xs := ns) (p := 0) (prev := none) (left := maxDL (lens ns) 0) hb
    have hR : row ns ∈ rows := (h2 _).mpr g1
    rw [e, ob]
    unfold mapO
    rw [if_pos (show rows.length ≤ LIM from by show _ ≤ 16777216; omega), ob]
    have hm : maxL (rows.map m_law_due_row_c1) = some (maxDL (lens ns) 0) := by
      refine maxL_of (List.mem_map.mpr ⟨row ns, hR, g2⟩) fun l hl => ?_
      obtain ⟨r, hr, rfl⟩ := List.mem_map.mp hl
      obtain ⟨v, hv⟩ := (h2 r).mp hr
      rw [hb]
      exact row_len hv
    rw [hm, ob]
    unfold filtO
    rw [if_pos (show rows.length ≤ LIM from by show _ ≤ 16777216; omega), ob]
    have em : (List.filter (m_law_due_row_c2t (maxDL (lens ns) 0)) rows).map (m_law_due_row_c2 (maxDL (lens ns) 0)) = List.filter (m_law_due_row_c2t (maxDL (lens ns) 0)) rows := by
      rw [show m_law_due_row_c2 (maxDL (lens ns) 0) = id from rfl, List.map_id]
    rw [em]
    have fl : (List.filter (m_law_due_row_c2t (maxDL (lens ns) 0)) rows).length ≤ rows.length := List.length_filter_le ..
    obtain ⟨ys, e1, e2⟩ := sort_first (rs := List.filter (m_law_due_row_c2t (maxDL (lens ns) 0)) rows) (R := row ns) (by omega) (List.mem_filter.mpr ⟨hR, decide_eq_true g2⟩) fun r hr => by
      obtain ⟨hr1, hr2⟩ := List.mem_filter.mp hr
      obtain ⟨v, hv⟩ := (h2 r).mp hr1
      exact g3 r v hv (of_decide_eq_true hr2)
    rw [e1, ob, e2, ob]
end K65

set_option Elab.async false
set_option linter.all false
set_option autoImplicit false
set_option maxRecDepth 100000
set_option maxHeartbeats 4000000
/-! what is kept, what is refused -/
namespace K65
open PySem L2 Ly
theorem int_true (x : Int) : m_kept_row_c1 (.int x) () = some (some true, ()) := by
  unfold m_kept_row_c1 m_is_integer
  dsimp only
  rw [isi_int_int, ob, cT, isi_int_bool, ob, ob, ob]
  rfl
theorem c1_val (d : D) : ∀ {b : Bool}, m_is_integer d = some b → m_kept_row_c1 d () = some (some b, ()) := fun {b} h => by
  unfold m_kept_row_c1
  dsimp only
  rw [h, ob]
theorem c2_int (x : Int) : m_kept_row_c2 (.int x) = some (some (.inl x, true)) := rfl
theorem dk_len : ∀ (xs : List Int) (acc : List (L2.Key × Bool)), acc.length + xs.length < 16777216 → ∃ r, dcompM m_kept_row_c2 (xs.map D.int) acc = some r ∧ r.length ≤ acc.length + xs.length ∧
    ((xs.Nodup ∧ ∀ x ∈ xs, (Sum.inl x : L2.Key) ∉ acc.map (·.1)) → r.length = acc.length + xs.length) ∧ ((¬ xs.Nodup ∨ ∃ x ∈ xs, (Sum.inl x : L2.Key) ∈ acc.map (·.1)) → r.length < acc.length + xs.length)
  | [], acc, _ => ⟨acc, rfl, Nat.le_refl _, fun _ => rfl, fun h => by
    rcases h with h | ⟨x, hx, _⟩
    · exact absurd List.nodup_nil h
    · cases hx⟩
  | x :: xs, acc, h => by
    rw [List.length_cons] at h
    rw [List.map_cons]
    unfold dcompM
    rw [c2_int]
    dsimp only
    rw [dputO_ok (by omega)]
    dsimp only
    by_cases c : (Sum.inl x : L2.Key) ∈ acc.map (·.1)
    · have e := dput_old (v := true) c
      obtain ⟨r, q1, q2, q3, q4⟩ := dk_len xs (dput acc (.inl x) true) (by omega)
      refine ⟨r, q1, by rw [List.length_cons]; omega, fun hh => absurd c (hh.2 x (List.mem_cons_self ..)), fun _ => by rw [List.length_cons]; omega⟩
    · have e := dput_new (v := true) c
      have e2 : (dput acc (.inl x) true).length = acc.length + 1 := by rw [e, List.length_append]; rfl
      have ek : (dput acc (.inl x) true).map (·.1) = acc.map (·.1) ++ [(Sum.inl x : L2.Key)] := by rw [e, List.map_append]; rfl
      obtain ⟨r, q1, q2, q3, q4⟩ := dk_len xs (dput acc (.inl x) true) (by omega)
      refine ⟨r, q1, by rw [List.length_cons]; omega, fun hh => ?_, fun hh => ?_⟩
      · rw [List.length_cons, q3 ⟨(List.nodup_cons.mp hh.1).2, fun y hy => ?_⟩]
        · omega
        · rw [ek, List.mem_append, List.mem_singleton]
          rintro (z | z)
          · exact hh.2 y (List.mem_cons_of_mem _ hy) z
          · cases z; exact (List.nodup_cons.mp hh.1).1 hy
      · rw [List.length_cons]
        have : r.length < (dput acc (.inl x) true).length + xs.length := by
          apply q4
          rcases hh with hh | ⟨y, hy, hk⟩
          · by_cases z : x ∈ xs
            · exact .inr ⟨x, z, by rw [ek]; simp⟩
            · exact .inl fun w => hh (List.nodup_cons.mpr ⟨z, w⟩)
          · rcases List.mem_cons.mp hy with rfl | hy
            · exact absurd hk c
            · exact .inr ⟨y, hy, by rw [ek]; exact List.mem_append_left _ hk⟩
        omega
theorem ints_comp {ns : List Int} (hl : ns.length < 16000000) : ∃ ys, comp m_kept_row_c1 (ns.map D.int) () = some (ys, ()) ∧ ys.all id = true := by
  refine ⟨(ns.map D.int).filterMap fun _ => some true, ?_, ?_⟩
  · unfold comp
    rw [if_pos (show (ns.map D.int).length ≤ LIM from by rw [List.length_map]; show _ ≤ 16777216; omega)]
    exact comp_some fun d hd => by
      obtain ⟨x, _, rfl⟩ := List.mem_map.mp hd
      exact int_true x
  · rw [List.all_eq_true]
    intro b hb
    obtain ⟨d, _, e⟩ := List.mem_filterMap.mp hb
    cases e
    rfl
theorem kept_ok {ns : List Int} (hl : ns.length < 16000000) (hn : ns.Nodup) : m_kept_row (E ns) = some (.ok (row ns) ()) := by
  have eE : (E ns : D) = .lst (ns.map D.int) := rfl
  obtain ⟨ys, e1, e2⟩ := ints_comp hl
  obtain ⟨r, q1, q2, q3, _⟩ := dk_len ns [] (by simp; omega)
  have hr := q3 ⟨hn, fun x _ => by simp⟩
  unfold m_kept_row
  rw [eE, isi_list_list, ob, Bool.not_true, cF, show dLst (.lst (ns.map D.int)) = some (ns.map D.int) from rfl, ob, e1, ob]
  dsimp only
  rw [e2, Bool.not_true, ob, cF, ob]
  unfold dcomp
  rw [q1, ob, show dLenA (.lst (ns.map D.int)) = some ((ns.map D.int).length : Int) from rfl, ob, decide_eq_false (by rw [List.length_map]; simp at hr; omega), cF]
  rw [show dLI (.lst (ns.map D.int)) = some ns from dLI_of, ob, places_ok hl, ob]
abbrev NO : Exn := ⟨.BadValue, [("name", E (("numbers" : Str) : Str))]⟩
theorem kept_dup {ns : List Int} (hl : ns.length < 16000000) (hn : ¬ ns.Nodup) : m_kept_row (E ns) = some (.ex NO ()) := by
  have eE : (E ns : D) = .lst (ns.map D.int) := rfl
  obtain ⟨ys, e1, e2⟩ := ints_comp hl
  obtain ⟨r, q1, q2, _, q4⟩ := dk_len ns [] (by simp; omega)
  have hr := q4 (.inl hn)
  unfold m_kept_row
  rw [eE, isi_list_list, ob, Bool.not_true, cF, show dLst (.lst (ns.map D.int)) = some (ns.map D.int) from rfl, ob, e1, ob]
  dsimp only
  rw [e2, Bool.not_true, ob, cF, ob]
  unfold dcomp
  rw [q1, ob, show dLenA (.lst (ns.map D.int)) = some ((ns.map D.int).length : Int) from rfl, ob, decide_eq_true (by rw [List.length_map]; simp at hr; omega), cT]
theorem kept_kind {d : D} (h : dIsi d "list" = some false) : m_kept_row d = some (.ex NO ()) := by
  unfold m_kept_row
  rw [h, ob, Bool.not_false, cT, ob, cT]
/-- a list with an item that is no integer -/
theorem kept_odd {ds : List D} {j : Nat} {d : D} (hl : ds.length < 16000000) (hd : ds[j]? = some d) (ho : m_is_integer d = some false) (hi : ∀ e ∈ ds, ∃ b, m_is_integer e = some b) : m_kept_row (.lst ds) = some (.ex NO ()) := by
  classical
  have ec : comp m_kept_row_c1 ds () = some (ds.filterMap m_is_integer, ()) := by
    unfold comp
    rw [if_pos (show ds.length ≤ LIM from by show _ ≤ 16777216; omega)]
    exact comp_some fun e he => by
      obtain ⟨b, hb⟩ := hi e he
      rw [hb]
      exact c1_val e hb
  have ea : (ds.filterMap m_is_integer).all id = false := by
    rw [List.all_eq_false]
    exact ⟨false, List.mem_filterMap.mpr ⟨d, List.mem_of_getElem? hd, ho⟩, by simp⟩
  unfold m_kept_row
  rw [isi_list_list, ob, Bool.not_true, cF, show dLst (.lst ds) = some ds from rfl, ob, ec, ob]
  dsimp only
  rw [ea, Bool.not_false, ob, cT]
theorem split_names : Txt.split ("BadEdit BadHistory BadText BadValue NotShown Ring Sealed TooOld NothingToUndo NothingToRedo BadVersion TwoFaces" : Str) (" " : Str) = [("BadEdit" : Str), ("BadHistory" : Str), ("BadText" : Str), ("BadValue" : Str), ("NotShown" : Str), ("Ring" : Str), ("Sealed" : Str), ("TooOld" : Str), ("NothingToUndo" : Str), ("NothingToRedo" : Str), ("BadVersion" : Str), ("TwoFaces" : Str)] := by decide +kernel
theorem named_no : m_law_named NO = some ("BadValue" : Str) := by
  unfold m_law_named
  rw [catL_ok (by decide), ob, catL_ok (by decide), ob, catL_ok (by decide), ob]
  rw [show ((!decide (((List.countP (fun y => decide (y = true)) ([isC NO.c .BadEdit, isC NO.c .BadHistory, isC NO.c .BadText, isC NO.c .BadValue] ++ [isC NO.c .NotShown, isC NO.c .Ring, isC NO.c .Sealed, isC NO.c .TooOld] ++ [isC NO.c .NothingToUndo, isC NO.c .NothingToRedo] ++ [isC NO.c .BadVersion, isC NO.c .TwoFaces]) : Nat) : Int) = (1 : Int))) || ((!(isC NO.c .ApartError)) || (!true))) = false by decide, cF]
  rw [show idxL ([isC NO.c .BadEdit, isC NO.c .BadHistory, isC NO.c .BadText, isC NO.c .BadValue] ++ [isC NO.c .NotShown, isC NO.c .Ring, isC NO.c .Sealed, isC NO.c .TooOld] ++ [isC NO.c .NothingToUndo, isC NO.c .NothingToRedo] ++ [isC NO.c .BadVersion, isC NO.c .TwoFaces]) true = some ((3 : Nat) : Int) by decide, ob, split_names, atN (by decide), ob]
  rfl
theorem nameOf : fldE NO "name" = some (.str "numbers") := by
  unfold fldE NO
  dsimp only [List.map]
  unfold fieldD
  rw [if_pos rfl]
  rfl
theorem attr_no : m_law_attributes NO ("BadValue" : Str) = some ⟨[.str "numbers"]⟩ := by
  unfold m_law_attributes
  rw [decide_eq_false (by decide +kernel), cF, decide_eq_false (by decide +kernel), cF, decide_eq_false (by decide +kernel), cF, decide_eq_true rfl, cT, nameOf, ob]
theorem error_no : m_law_error NO = some [.str "raised", .str "BadValue", .tup [.str "numbers"]] := by
  unfold m_law_error
  rw [named_no, ob, attr_no, ob]
  rfl
theorem oout_ex {α μ β : Type} {e : Exn} {s : μ} {g : Exn → μ → Option β} {f : α → μ → Option β} : oout (.ex e s) g f = g e s := rfl
/-- what the law hears of an answer -/
theorem ask_ok {ns : List Int} (hl : ns.length < 16000000) (hn : ns.Nodup) : m_law_ask (E ns) = some (.each (List.replicate 1 .fz ++ [.all .fz]), .lst [.str "told", E (row ns)]) := by
  unfold m_law_ask
  rw [kept_ok hl hn, ob]
  rfl
theorem ask_no {d : D} (h : m_kept_row d = some (.ex NO ())) : m_law_ask d = some (.all .fz, .lst [.str "raised", .str "BadValue", .tup [.str "numbers"]]) := by
  unfold m_law_ask
  rw [h, ob, oout_ex, ob, oout_ex]
  rw [show Ly.guard (rz NO.c && !NO.fs.isEmpty) = some () from rfl, ob, error_no, ob]
  rfl
end K65

set_option Elab.async false
set_option linter.all false
set_option autoImplicit false
set_option maxRecDepth 100000
set_option maxHeartbeats 4000000
/-! the law answers True -/
namespace K65
open PySem L2 Ly
theorem rng_app {a b c : Int} (h1 : a ≤ b) (h2 : b ≤ c) : rng a b ++ rng b c = rng a c := by
  apply List.ext_getElem
  · rw [List.length_append, rng_len, rng_len, rng_len]; omega
  · intro i g1 g2
    rw [rng_len] at g2
    have e : (rng a c)[i]? = some (a + (i : Int)) := rng_get g2
    have e0 : (rng a b ++ rng b c)[i]? = some (a + (i : Int)) := by
      by_cases z : i < (b - a).toNat
      · rw [List.getElem?_append_left (by rw [rng_len]; exact z)]
        exact rng_get z
      · rw [List.getElem?_append_right (by rw [rng_len]; omega), rng_len, rng_get (by omega)]
        congr 1; omega
    rw [List.getElem?_eq_getElem g1] at e0
    rw [List.getElem?_eq_getElem (by rw [rng_len]; exact g2)] at e
    exact (Option.some.inj e0).trans (Option.some.inj e).symm
theorem rngC_ok {a b : Int} (h0 : -(2 ^ 60) ≤ a) (h1 : a ≤ 2 ^ 60) (h2 : -(2 ^ 60) ≤ b) (h3 : b ≤ 2 ^ 60) (h4 : b - a ≤ 16777216) : rngC a b = some (rng a b) := by
  unfold rngC
  rw [if_pos]
  refine ⟨?_, by show _ ≤ 16777216; omega⟩
  unfold rngOk
  simp only [decide_eq_true_eq]
  omega
theorem flat_take {α : Type} {xs : List (List α)} {i : Nat} : (xs.take i).flatten.length ≤ xs.flatten.length := by
  have e : xs = xs.take i ++ xs.drop i := (List.take_append_drop i xs).symm
  have : xs.flatten.length = (xs.take i).flatten.length + (xs.drop i).flatten.length := by
    rw [← List.length_append, ← List.flatten_append, List.take_append_drop]
  omega
theorem joined_ok {ps : List (List Int)} (hl : ps.flatten.length ≤ 16777216) : loopN m_law_mixed_l2 ps ([] : List Int) = some ps.flatten := by
  obtain ⟨s, e, p⟩ := loopN_inv (b := m_law_mixed_l2) (fun i (s : List Int) => s = (ps.take i).flatten) (xs := ps) (s := []) rfl fun i x s hx hs => by
    unfold m_law_mixed_l2
    dsimp only
    have et : (ps.take (i + 1)).flatten = s ++ x := by
      rw [take_snoc hx, List.flatten_append, hs]
      simp
    have := flat_take (xs := ps) (i := i + 1)
    rw [et, List.length_append] at this
    rw [catL_ok (by omega), ob]
    exact ⟨_, rfl, et.symm⟩
  rw [e, p, List.take_length]
/-- a stretch that falls -/
theorem falls_ok {many at_ r size : Int} (hs : size = min2 (many - at_) r) (h0 : 0 ≤ size) (h1 : size ≤ 1000) : ∃ ys, comp (m_law_mixed_c1 many at_ r (rng at_ (at_ + size))) ((List.range size.toNat).map fun (i : Nat) => (i : Int)) () = some (ys, ()) ∧ ys.Perm (rng at_ (at_ + size)) := by
  obtain ⟨ys, u, e, l, hy, _⟩ := comp_inv (f := m_law_mixed_c1 many at_ r (rng at_ (at_ + size))) (fun _ (_ : Unit) => True) (fun i y => (rng at_ (at_ + size)).reverse[i]? = some y) (xs := (List.range size.toNat).map fun (i : Nat) => (i : Int)) (s := ()) (by rw [List.length_map, List.length_range]; show _ ≤ 16777216; omega) trivial fun i x s hx _ => by
    obtain ⟨rfl, hi⟩ := rng_at hx
    have hlen : (rng at_ (at_ + size)).length = size.toNat := by rw [rng_len]; congr 1; omega
    have e : (size - (1 : Int)) - (i : Int) = ((size.toNat - 1 - i : Nat) : Int) := by omega
    unfold m_law_mixed_c1
    dsimp only
    rw [← hs, e, atN (by omega), ob]
    have q1 : (rng at_ (at_ + size)).reverse[i]? = (rng at_ (at_ + size))[size.toNat - 1 - i]? := by rw [List.getElem?_reverse (by omega), hlen]
    refine ⟨_, _, rfl, ?_, trivial⟩
    rw [q1, List.getElem?_eq_getElem]
  have ly : ys = (rng at_ (at_ + size)).reverse := by
    apply List.ext_getElem?
    intro i
    by_cases z : i < ys.length
    · rw [hy i _ (List.getElem?_eq_getElem z), List.getElem?_eq_getElem z]
    · rw [List.getElem?_eq_none (by omega), List.getElem?_eq_none (by rw [List.length_reverse, rng_len]; rw [l, List.length_map, List.length_range] at z; omega)]
  exact ⟨ys, by cases u; exact e, by rw [ly]; exact List.reverse_perm _⟩
theorem mixed_ok {k : Nat} {s : STR} {many : Int} (h : Sm k s) (hk : k < 2 ^ 90) (h0 : 0 ≤ many) (h1 : many ≤ 400) : ∃ ys s', m_law_mixed s many = some (ys, s') ∧ ys.Perm (rng 0 many) ∧ Sm (k + 2000) s' := by
  unfold m_law_mixed
  have e : ∃ b w, (cond (decide (many < (10 : Int))) (obind (m_law_next s (2 : Int)) fun (⟨r_3, w_4⟩ : Int × (LH3 (List Int) Int Int)) => some ((decide (r_3 = (0 : Int))), w_4)) (some (false, s))) = some (b, w) ∧ Sm (k + 1) w := by
    by_cases c : many < 10
    · obtain ⟨d, s', e, _, _, g⟩ := next_ok (many := 2) h (by omega) (by decide) (by decide)
      rw [decide_eq_true c, cT, e, ob]
      exact ⟨_, _, rfl, g⟩
    · rw [decide_eq_false c, cF]
      exact ⟨_, _, rfl, h.mono (by omega)⟩
  obtain ⟨b, w, e, g⟩ := e
  rw [e, ob]
  dsimp only
  cases b with
  | true =>
    rw [cT, rngC_ok (by omega) (by omega) (by omega) (by omega) (by omega), ob]
    have hl : (rng 0 many).length = many.toNat := by rw [rng_len]; congr 1; omega
    obtain ⟨ys, s', e, p, g'⟩ := shuffled_ok (xs := rng 0 many) g (by omega) (by omega)
    rw [e, ob]
    exact ⟨ys, s', rfl, p, g'.mono (by omega)⟩
  | false =>
    rw [cF, rngL_ok (by omega) h0, ob]
    obtain ⟨⟨a1, s1, p1⟩, e, q⟩ := loopN_inv (b := m_law_mixed_l1 many) (fun i (st : Int × STR × List (List Int)) => Sm (k + 1 + 2 * i) st.2.1 ∧ 0 ≤ st.1 ∧ st.1 ≤ many ∧ ((i : Int) ≤ st.1 ∨ st.1 = many) ∧ st.2.2.length ≤ i ∧ st.2.2.flatten.Perm (rng 0 st.1))
      (xs := (List.range many.toNat).map fun (i : Nat) => (i : Int)) (s := ((0 : Int), w, ([] : List (List Int)))) ⟨g, by omega, h0, .inl (by omega), Nat.le_refl _, by simp [rng]⟩ fun i x st hx => by
      obtain ⟨at_, s1, ps⟩ := st
      rintro ⟨g1, g2, g3, g4, g5, g6⟩
      simp only at g1 g2 g3 g4 g5 g6
      obtain ⟨rfl, hi⟩ := rng_at hx
      unfold m_law_mixed_l1
      dsimp only
      by_cases c : at_ < many
      · rw [decide_eq_true c, cT]
        obtain ⟨hi0, ehi, b1, b2⟩ : ∃ hi0 : Int, (cond (decide (many < (10 : Int))) (4 : Int) (12 : Int)) = hi0 ∧ 1 ≤ hi0 ∧ hi0 ≤ 12 := by
          by_cases d : many < 10
          · exact ⟨4, by rw [decide_eq_true d]; rfl, by decide, by decide⟩
          · exact ⟨12, by rw [decide_eq_false d]; rfl, by decide, by decide⟩
        rw [ehi]
        obtain ⟨r, s2, e2, r1, r2, g7⟩ := from_ok (lo := 1) (hi := hi0) g1 (by omega) (by omega) (by omega)
        rw [e2, ob]
        dsimp only
        obtain ⟨size, hsz⟩ : ∃ size, size = min2 (many - at_) r := ⟨_, rfl⟩
        have z1 : 1 ≤ size := by rw [hsz]; unfold min2; split <;> omega
        have z2 : size ≤ many - at_ := by rw [hsz]; unfold min2; split <;> omega
        have z3 : size ≤ 12 := by rw [hsz]; unfold min2; split <;> omega
        rw [← hsz, rngC_ok (by omega) (by omega) (by omega) (by omega) (by omega), ob]
        obtain ⟨d, s3, e3, _, _, g8⟩ := next_ok (many := 3) g7 (by omega) (by decide) (by decide)
        rw [e3, ob]
        dsimp only
        obtain ⟨v, ev, pv⟩ : ∃ v, (cond (decide ((0 : Int) < d)) (some (rng at_ (at_ + size))) (obind (rngL (0 : Int) size) fun (rg_31 : (List Int)) => obind (comp (m_law_mixed_c1 many at_ r (rng at_ (at_ + size))) rg_31 ()) fun (⟨ys_36, u_37⟩ : (List Int) × Unit) => some ys_36)) = some v ∧ v.Perm (rng at_ (at_ + size)) := by
          by_cases c2 : 0 < d
          · exact ⟨_, by rw [decide_eq_true c2]; rfl, .refl _⟩
          · obtain ⟨ys, e4, p4⟩ := falls_ok (many := many) (at_ := at_) (r := r) hsz (by omega) (by omega)
            refine ⟨ys, ?_, p4⟩
            rw [decide_eq_false c2, cF, rngL_ok (by omega) (by omega), ob, e4, ob]
        rw [ev, ob]
        unfold appL
        rw [if_pos (by show ps.length < 16777216; omega), ob]
        refine ⟨_, rfl, by rw [show k + 1 + 2 * (i + 1) = k + 1 + 2 * i + 1 + 1 by omega]; exact g8, by show 0 ≤ at_ + size; omega, by show at_ + size ≤ many; omega, ?_, ?_, ?_⟩
        · show ((i + 1 : Nat) : Int) ≤ at_ + size ∨ at_ + size = many
          omega
        · show (ps ++ [v]).length ≤ i + 1
          rw [List.length_append]; simp; omega
        · show (ps ++ [v]).flatten.Perm (rng 0 (at_ + size))
          rw [List.flatten_append, ← rng_app (b := at_) (by omega) (by omega)]
          refine g6.append ?_
          simpa using pv
      · rw [decide_eq_false c, cF]
        refine ⟨_, rfl, g1.mono (by omega), g2, g3, .inr (by show at_ = many; omega), by show ps.length ≤ i + 1; omega, g6⟩
    rw [e, ob]
    dsimp only
    obtain ⟨q1, q2, q3, q4, q5, q6⟩ := q
    simp only [List.length_map, List.length_range] at q1 q2 q3 q4 q5 q6
    obtain rfl : a1 = many := by omega
    obtain ⟨ys, s', e2, p2, g'⟩ := shuffled_ok (xs := p1) q1 (by omega) (by omega)
    rw [e2, ob]
    dsimp only
    have pf : ys.flatten.Perm (rng 0 a1) := p2.flatten.trans q6
    have lf := pf.length_eq
    rw [rng_len] at lf
    rw [joined_ok (by omega), ob]
    exact ⟨_, s', rfl, pf, g'.mono (by omega)⟩
theorem rng_nodup {a b : Int} : (rng a b).Nodup := by
  unfold rng
  refine List.Pairwise.map _ (fun x y h => ?_) List.nodup_range
  omega
theorem numbers_ok {k : Nat} {s : STR} {many : Int} (h : Sm k s) (hk : k < 2 ^ 80) (h0 : 0 ≤ many) (h1 : many ≤ 400) : ∃ ns s', m_law_numbers s many = some (ns, s') ∧ ns.Nodup ∧ ns.length = many.toNat ∧ Sm (k + 2010) s' := by
  unfold m_law_numbers
  obtain ⟨f, s1, e1, hf, g1⟩ := pick_ok (q := Sq.t [(⟨(1 : Int), (1 : Int), (3 : Int), (-1 : Int), (10000000000000000000000000000000000000000 : Int)⟩ : (T5 Int Int Int Int Int)).a, (⟨(1 : Int), (1 : Int), (3 : Int), (-1 : Int), (10000000000000000000000000000000000000000 : Int)⟩ : (T5 Int Int Int Int Int)).b, (⟨(1 : Int), (1 : Int), (3 : Int), (-1 : Int), (10000000000000000000000000000000000000000 : Int)⟩ : (T5 Int Int Int Int Int)).c, (⟨(1 : Int), (1 : Int), (3 : Int), (-1 : Int), (10000000000000000000000000000000000000000 : Int)⟩ : (T5 Int Int Int Int Int)).d, (⟨(1 : Int), (1 : Int), (3 : Int), (-1 : Int), (10000000000000000000000000000000000000000 : Int)⟩ : (T5 Int Int Int Int Int)).e]) h (by omega) (List.cons_ne_nil _ _) (by show 5 < 1073741824; decide)
  have hf' : f ∈ ([1, 1, 3, -1, 10000000000000000000000000000000000000000] : List Int) := hf
  have f0 : f ≠ 0 ∧ f.natAbs < 2 ^ 200 := by
    simp only [List.mem_cons, List.not_mem_nil, or_false] at hf'
    rcases hf' with rfl | rfl | rfl | rfl | rfl <;> exact ⟨by decide, by decide⟩
  rw [e1, ob]
  dsimp only
  obtain ⟨d, s2, e2, d0, d1, g2⟩ := next_ok (many := 12) g1 (by omega) (by decide) (by decide)
  rw [e2, ob]
  dsimp only
  obtain ⟨ms, s3, e3, pm, g3⟩ := mixed_ok g2 (by omega) h0 h1
  rw [e3, ob]
  dsimp only
  have lm := pm.length_eq
  rw [rng_len] at lm
  obtain ⟨ys, s4, e4, l4, hy, g4⟩ := comp_inv (f := m_law_numbers_c1 f d) (fun _ (st : STR) => Sm (k + 1 + 1 + 2000) st) (fun i y => (ms.map fun o => (o - d) * f)[i]? = some y) (xs := ms) (s := s3) (by show _ ≤ 16777216; omega) g3 fun i x st hx hst => by
    have hm : x ∈ rng 0 many := pm.mem_iff.mp (List.mem_of_getElem? hx)
    obtain ⟨j, hj, rfl⟩ := List.mem_iff_getElem.mp hm
    rw [rng_len] at hj
    have ej : (rng 0 many)[j]'(by rw [rng_len]; exact hj) = (j : Int) := by
      have := rng_get (lo := 0) (hi := many) hj
      rw [List.getElem?_eq_getElem (by rw [rng_len]; exact hj)] at this
      have := Option.some.inj this
      omega
    unfold m_law_numbers_c1
    dsimp only
    rw [mulI_sm (by rw [ej]; omega) f0.2, ob]
    refine ⟨_, _, rfl, ?_, hst⟩
    rw [List.getElem?_map, hx]
    rfl
  have ey : ys = ms.map fun o => (o - d) * f := by
    apply List.ext_getElem?
    intro i
    by_cases z : i < ys.length
    · rw [hy i _ (List.getElem?_eq_getElem z), List.getElem?_eq_getElem z]
    · rw [List.getElem?_eq_none (by omega), List.getElem?_eq_none (by rw [List.length_map]; omega)]
  rw [e4, ob]
  refine ⟨ys, s4, rfl, ?_, by rw [l4, lm]; congr 1; omega, g4.mono (by omega)⟩
  rw [ey]
  refine List.Pairwise.map _ (fun x y hxy e => ?_) (pm.nodup_iff.mpr rng_nodup)
  have : x - d = y - d := Int.eq_of_mul_eq_mul_right f0.1 e
  omega
/-- a wrong value is refused -/
theorem cut_lo {α : Type} {ns : List α} {a : Nat} (h : a ≤ ns.length) : cutL ns none (some (a : Int)) = ns.take a := by
  unfold cutL
  rw [HT.sIx_none, HT.sIx_nat, Nat.min_eq_left h]
  rfl
theorem cut_hi {α : Type} {ns : List α} {a : Nat} (h : a ≤ ns.length) : cutL ns (some (a : Int)) none = ns.drop a := by
  unfold cutL
  rw [HT.sIx_none, HT.sIx_nat, Nat.min_eq_left h, List.take_of_length_le (by rw [List.length_drop]; omega)]
theorem cut_min {α : Type} {ns : List α} {a : Nat} : (cutL ns none (some (a : Int))).length ≤ ns.length ∧ ∀ (i : Nat) (x : α), (cutL ns none (some (a : Int)))[i]? = some x → ns[i]? = some x := by
  unfold cutL
  rw [HT.sIx_none, HT.sIx_nat]
  refine ⟨by rw [List.length_take, List.drop_zero]; omega, fun i x h => ?_⟩
  rw [List.drop_zero, List.getElem?_take] at h
  split at h
  · exact h
  · cases h
theorem isi_odd : ∀ d ∈ ([E (true : Bool), E (false : Bool), E (() : Unit), E (("1" : Str) : Str), E ((⟨(1 : Int)⟩ : (T1 Int)) : (T1 Int)), E ([(2 : Int)] : (List Int))] : List D), m_is_integer d = some false := by
  intro d hd
  simp only [List.mem_cons, List.not_mem_nil, or_false] at hd
  rcases hd with rfl | rfl | rfl | rfl | rfl | rfl
  · show m_is_integer (.bl true) = _
    unfold m_is_integer
    rw [isi_bool_int, ob, cT, isi_bool_bool, ob, ob]; rfl
  · show m_is_integer (.bl false) = _
    unfold m_is_integer
    rw [isi_bool_int, ob, cT, isi_bool_bool, ob, ob]; rfl
  · show m_is_integer .non = _
    unfold m_is_integer
    rw [isi_NoneType_int, ob, cF, ob]
  · show m_is_integer (.str "1") = _
    unfold m_is_integer
    rw [isi_str_int, ob, cF, ob]
  · show m_is_integer (.tup _) = _
    unfold m_is_integer
    rw [isi_tuple_int, ob, cF, ob]
  · show m_is_integer (.lst _) = _
    unfold m_is_integer
    rw [isi_list_int, ob, cF, ob]
theorem isi_int (x : Int) : m_is_integer (.int x) = some true := by
  unfold m_is_integer
  rw [isi_int_int, ob, cT, isi_int_bool, ob, ob]; rfl
theorem isi_none : ∀ d ∈ ([E (() : Unit), E (("12" : Str) : Str), E ((⟨[]⟩ : (Dct D)) : (Dct D)), E ((7 : Int) : Int), E (true : Bool)] : List D), dIsi d "list" = some false := by
  intro d hd
  simp only [List.mem_cons, List.not_mem_nil, or_false] at hd
  rcases hd with rfl | rfl | rfl | rfl | rfl
  · exact isi_NoneType_list
  · exact isi_str_list _
  · exact isi_dict_list _
  · exact isi_int_list _
  · exact isi_bool_list _
/-- a wrong value is refused -/
theorem wrong_ok {k : Nat} {s : STR} {ns : List Int} (h : Sm k s) (hk : k < 2 ^ 90) (hl : ns.length ≤ 400) : ∃ d s', m_law_wrong s ns = some (d, s') ∧ m_kept_row d = some (.ex NO ()) ∧ Sm (k + 10) s' := by
  unfold m_law_wrong
  obtain ⟨r, s1, e1, r0, r1, g1⟩ := next_ok (many := 6) h (by omega) (by decide) (by decide)
  obtain ⟨a, s2, e2, a0, a1, g2⟩ := next_ok (many := (ns.length : Int) + 1) g1 (by omega) (by omega) (by omega)
  obtain ⟨p, rfl⟩ : ∃ p : Nat, a = (p : Int) := ⟨a.toNat, by omega⟩
  rw [e1, ob]
  dsimp only
  rw [e2, ob]
  dsimp only
  have hp : p ≤ ns.length := by omega
  by_cases c0 : r = 0 ∧ 0 < (ns.length : Int)
  · rw [show (decide (r = (0 : Int)) && decide ((0 : Int) < (ns.length : Int))) = true by simp [c0.1]; omega, cT]
    obtain ⟨x, s3, e3, hx, g3⟩ := pick_ok (q := Sq.l ns) g2 (by omega) (by intro z; rw [show (Sq.l ns).v = ns from rfl] at z; rw [z] at c0; simp at c0) (by show ns.length < _; omega)
    rw [e3, ob]
    dsimp only
    rw [cut_lo hp, cut_hi hp, catL_ok (by rw [List.length_take]; simp; omega), ob, catL_ok (by rw [List.length_append, List.length_take, List.length_drop]; simp; omega), ob]
    refine ⟨_, s3, rfl, kept_dup (by rw [List.length_append, List.length_append, List.length_take, List.length_drop]; simp; omega) (fun z => ?_), g3.mono (by omega)⟩
    have hx : x ∈ ns := hx
    rw [← List.take_append_drop p ns, List.mem_append] at hx
    rw [List.append_assoc] at z
    have z2 := List.nodup_append.mp z
    rcases hx with hx | hx
    · exact z2.2.2 x hx x (by simp) rfl
    · have := z2.2.1
      rw [List.singleton_append, List.nodup_cons] at this
      exact this.1 hx
  · rw [show (decide (r = (0 : Int)) && decide ((0 : Int) < (ns.length : Int))) = false by simp only [Bool.and_eq_false_iff, decide_eq_false_iff_not]; omega, cF]
    by_cases c1 : r = 1
    · rw [decide_eq_true c1, cT]
      exact ⟨_, s2, rfl, kept_kind (isi_tuple_list _), g2.mono (by omega)⟩
    · rw [decide_eq_false c1, cF]
      by_cases c2 : r < 5
      · rw [decide_eq_true c2, cT]
        obtain ⟨x, s3, e3, hx, g3⟩ := pick_ok (q := Sq.t [(E (true : Bool)), (E (false : Bool)), (E (() : Unit)), (E (("1" : Str) : Str)), (E ((⟨(1 : Int)⟩ : (T1 Int)) : (T1 Int))), (E ([(2 : Int)] : (List Int)))]) g2 (by omega) (List.cons_ne_nil _ _) (by show 6 < 1073741824; decide)
        rw [e3, ob]
        dsimp only
        rw [cut_lo hp, cut_hi hp, catL_ok (by rw [List.length_map, List.length_take]; simp; omega), ob, catL_ok (by rw [List.length_append, List.length_map, List.length_take, List.length_map, List.length_drop]; simp; omega), ob]
        refine ⟨_, s3, rfl, ?_, g3.mono (by omega)⟩
        have hx := isi_odd x hx
        have eE : (E ((ns.take p).map (E : Int → D) ++ [x] ++ (ns.drop p).map (E : Int → D)) : D) = .lst ((ns.take p).map (E : Int → D) ++ [x] ++ (ns.drop p).map (E : Int → D)) := by
          show D.lst (List.map (E : D → D) _) = _
          rw [idE]
        rw [eE]
        refine kept_odd (j := p) (d := x) (by simp [List.length_append]; omega) ?_ hx fun e he => ?_
        · rw [List.append_assoc, List.getElem?_append_right (by rw [List.length_map, List.length_take]; omega), List.length_map, List.length_take, show p - min p ns.length = 0 by omega]
          rfl
        · rw [List.mem_append, List.mem_append, List.mem_singleton] at he
          rcases he with (he | rfl) | he
          · obtain ⟨y, _, rfl⟩ := List.mem_map.mp he; exact ⟨_, isi_int y⟩
          · exact ⟨_, hx⟩
          · obtain ⟨y, _, rfl⟩ := List.mem_map.mp he; exact ⟨_, isi_int y⟩
      · rw [decide_eq_false c2, cF]
        obtain ⟨x, s3, e3, hx, g3⟩ := pick_ok (q := Sq.t [(E (() : Unit)), (E (("12" : Str) : Str)), (E ((⟨[]⟩ : (Dct D)) : (Dct D))), (E ((7 : Int) : Int)), (E (true : Bool))]) g2 (by omega) (List.cons_ne_nil _ _) (by show 5 < 1073741824; decide)
        rw [e3, ob]
        exact ⟨x, s3, rfl, kept_kind (isi_none x hx), g3.mono (by omega)⟩
/-! the law -/
theorem gr_short : ∀ (xs ls : List Int) (p : Nat) (left : Int) (prev : Option Int), (gr p xs ls left prev).length ≤ xs.length
  | [], _, _, _, _ => by unfold gr; exact Nat.le_refl _
  | _ :: _, [], _, _, _ => by unfold gr; exact Nat.zero_le _
  | x :: xs, l :: ls, p, left, prev => by
    unfold gr
    split
    · have := gr_short xs ls (p + 1) (left - 1) (some x)
      rw [List.length_cons, List.length_cons]; omega
    · have := gr_short xs ls (p + 1) left prev
      rw [List.length_cons]; omega
theorem pl_ints (n : Nat) {xs : List Int} (h : xs.length < 16777216) : Pl (n + 2) (E xs) := by
  show Pl (n + 2) (.lst (xs.map D.int))
  refine ⟨by rw [List.length_map]; exact h, fun d hd => ?_⟩
  obtain ⟨x, _, rfl⟩ := List.mem_map.mp hd
  exact trivial
theorem turn_ok {k : Nat} {s : STR} {r turn : Int} (h : Sm k s) (hk : k < 2 ^ 70) : ∃ s', m_law_l1 r turn s = some (.nx s') ∧ Sm (k + 2100) s' := by
  unfold m_law_l1
  obtain ⟨many, w, e, m0, m1, g⟩ : ∃ many w, (cond ((decide (r = (0 : Int))) && (decide (turn = (0 : Int)))) (obind (m_law_from s (280 : Int) (320 : Int)) fun (⟨r_11, w_12⟩ : Int × (LH3 (List Int) Int Int)) => some (r_11, w_12)) (obind (m_law_next s (10 : Int)) fun (⟨r_14, w_15⟩ : Int × (LH3 (List Int) Int Int)) => some (r_14, w_15))) = some (many, w) ∧ 0 ≤ many ∧ many ≤ 400 ∧ Sm (k + 1) w := by
    cases ((decide (r = (0 : Int))) && (decide (turn = (0 : Int)))) with
    | true =>
      obtain ⟨d, s', e, a, b, g⟩ := from_ok (lo := 280) (hi := 320) h (by omega) (by decide) (by decide)
      rw [cT, e, ob]
      exact ⟨d, s', rfl, by omega, by omega, g⟩
    | false =>
      obtain ⟨d, s', e, a, b, g⟩ := next_ok (many := 10) h (by omega) (by decide) (by decide)
      rw [cF, e, ob]
      exact ⟨d, s', rfl, by omega, by omega, g⟩
  dsimp only
  rw [e, ob]
  dsimp only
  obtain ⟨ns, s2, e2, nd, ln, g2⟩ := numbers_ok g (by omega) m0 m1
  have hl : ns.length < 16000000 := by omega
  rw [e2, ob]
  dsimp only
  rw [due_ok hl, ob, ask_ok hl nd, ob]
  have hrow : (row ns).length < 16000000 := by
    have := gr_short ns (lens ns) 0 (maxDL (lens ns) 0) none
    show (gr 0 ns (lens ns) (maxDL (lens ns) 0) none).length < _
    omega
  have P1 : Pl 8 (.lst [.str "told", E (row ns)]) := ⟨by show 2 < 16777216; decide, fun d hd => by
    simp only [List.mem_cons, List.not_mem_nil, or_false] at hd
    rcases hd with rfl | rfl
    · exact trivial
    · exact pl_ints 5 (by omega)⟩
  have eT : (E ([(E (("told" : Str) : Str)), (E (row ns : (List Int)))] : (List D)) : D) = .lst [.str "told", E (row ns)] := rfl
  have eR : (E ([(E (("raised" : Str) : Str)), (E (("BadValue" : Str) : Str)), (E ((⟨("numbers" : Str)⟩ : (T1 Str)) : (T1 Str)))] : (List D)) : D) = .lst [.str "raised", .str "BadValue", .tup [.str "numbers"]] := rfl
  have P2 : Pl 8 (.lst [.str "raised", .str "BadValue", .tup [.str "numbers"]]) := ⟨by show 3 < 16777216; decide, fun d hd => by
    simp only [List.mem_cons, List.not_mem_nil, or_false] at hd
    rcases hd with rfl | rfl | rfl
    · exact trivial
    · exact trivial
    · exact ⟨by show 1 < 16777216; decide, fun d hd => by
        simp only [List.mem_cons, List.not_mem_nil, or_false] at hd
        subst hd
        exact trivial⟩⟩
  dsimp only
  rw [eT, same_ok P1, ob, Bool.not_true, cF, same_ok (pl_ints 6 (xs := ns) (by omega)), ob, Bool.not_true, ob, cF]
  have eA : dAppC (Mk.each (List.replicate 1 Mk.fz ++ [Mk.all Mk.fz])) (D.lst [D.str "told", E (row ns)]) (1 : Int) (E ((0 : Int) : Int)) = some (D.lst [D.str "told", D.lst ((row ns).map D.int ++ [D.int 0])]) := by
    unfold dAppC
    dsimp only
    rw [show mks (Mk.each (List.replicate 1 Mk.fz ++ [Mk.all Mk.fz])) (List.length [D.str "told", E (row ns)]) = some [Mk.fz, Mk.all Mk.fz] from rfl, Option.bind_some, show ixN (List.length [D.str "told", E (row ns)]) 1 = some 1 from rfl, Option.bind_some]
    show (if ((row ns).map D.int).length < LIM then some (D.lst ([D.str "told", D.lst ((row ns).map D.int)].set 1 (D.lst ((row ns).map D.int ++ [E ((0 : Int) : Int)])))) else none) = _
    rw [if_pos (show ((row ns).map D.int).length < LIM from by rw [List.length_map]; show _ < 16777216; omega)]
    rfl
  rw [eA, ob, ob]
  dsimp only
  rw [same_ok P1, ob, Bool.not_true, cF]
  obtain ⟨c1, c2⟩ := cut_min (ns := ns) (a := 9)
  obtain ⟨d, s3, e3, hd, g3⟩ := wrong_ok (ns := cutL ns none (some ((9 : Nat) : Int))) g2 (by omega) (by omega)
  rw [show (9 : Int) = ((9 : Nat) : Int) from rfl, e3, ob]
  dsimp only
  rw [ask_no hd, ob]
  dsimp only
  rw [eR, same_ok P2, ob, Bool.not_true, cF]
  exact ⟨s3, rfl, g3.mono (by omega)⟩
theorem law_ok (ns : List Int) (h : ns.length ≤ 63) : m_law ns = some true := by
  unfold m_law
  obtain ⟨s, e, g⟩ := stream_ok ns
  rw [e, ob]
  obtain ⟨d, s1, e1, _, _, g1⟩ := next_ok (many := 30) g (by decide) (by decide) (by decide)
  rw [e1, ob]
  dsimp only
  rw [rngL_ok (by decide) (by decide), ob]
  obtain ⟨s2, e2, _⟩ := loopM_inv (b := m_law_l1 d) (R := Bool) (fun i s => Sm (1 + 2100 * i) s) (xs := (List.range (3 : Int).toNat).map fun (i : Nat) => (i : Int)) (j := 0) (s := s1) g1 fun i x st hx hst => by
    obtain ⟨rfl, hi⟩ := rng_at hx
    have hi : i < 3 := hi
    obtain ⟨s', q1, q2⟩ := turn_ok (r := d) (turn := (i : Int)) hst (by omega)
    exact ⟨s', q1, q2.mono (by omega)⟩
  rw [e2, ob]
  rfl
end K65

set_option Elab.async false
set_option linter.all false
set_option autoImplicit false
set_option maxRecDepth 100000
set_option maxHeartbeats 4000000
namespace K65
open PySem PySem.Spec PyProof.Rows L2 L2H Ly
def topS (i : Nat) : Stmt := PySem.Challenge.pw_togetherapart_k65_the_kept_row.main.body.getD i (.Pass ⟨0, 0, 0, 0⟩)
abbrev s_is_integer : Stmt := topS 15
theorem sc_is_integer : FnScope ["value"] ["value"] (defScope s_is_integer) := ⟨rfl, rfl, rfl, by decide +kernel, rfl, by decide +kernel, by decide +kernel⟩
abbrev s_first_not_greater : Stmt := topS 17
theorem sc_first_not_greater : FnScope ["tails", "number", "low", "high", "middle"] ["tails", "number"] (defScope s_first_not_greater) := ⟨rfl, rfl, rfl, by decide +kernel, rfl, by decide +kernel, by decide +kernel⟩
abbrev s_lengths_from : Stmt := topS 18
theorem sc_lengths_from : FnScope ["numbers", "found", "tails", "at", "place"] ["numbers"] (defScope s_lengths_from) := ⟨rfl, rfl, rfl, by decide +kernel, rfl, by decide +kernel, by decide +kernel⟩
abbrev s_rising_places : Stmt := topS 19
theorem sc_rising_places : FnScope ["numbers", "lengths", "left", "found", "at", "number"] ["numbers"] (defScope s_rising_places) := ⟨rfl, rfl, rfl, by decide +kernel, rfl, by decide +kernel, by decide +kernel⟩
abbrev s_kept_row : Stmt := topS 20
theorem sc_kept_row : FnScope ["numbers", "one"] ["numbers"] (defScope s_kept_row) := ⟨rfl, rfl, rfl, by decide +kernel, rfl, by decide +kernel, by decide +kernel⟩
abbrev s__law_stream : Stmt := topS 22
theorem sc__law_stream : FnScope ["script"] ["script"] (defScope s__law_stream) := ⟨rfl, rfl, rfl, by decide +kernel, rfl, by decide +kernel, by decide +kernel⟩
abbrev s__law_next : Stmt := topS 23
theorem sc__law_next : FnScope ["stream", "many", "digit", "k", "cell"] ["stream", "many"] (defScope s__law_next) := ⟨rfl, rfl, rfl, by decide +kernel, rfl, by decide +kernel, by decide +kernel⟩
abbrev s__law_pick : Stmt := topS 24
theorem sc__law_pick : FnScope ["stream", "rows"] ["stream", "rows"] (defScope s__law_pick) := ⟨rfl, rfl, rfl, by decide +kernel, rfl, by decide +kernel, by decide +kernel⟩
abbrev s__law_from : Stmt := topS 25
theorem sc__law_from : FnScope ["stream", "low", "high"] ["stream", "low", "high"] (defScope s__law_from) := ⟨rfl, rfl, rfl, by decide +kernel, rfl, by decide +kernel, by decide +kernel⟩
abbrev s__law_shuffled : Stmt := topS 26
theorem sc__law_shuffled : FnScope ["stream", "rows", "left", "found", "turn"] ["stream", "rows"] (defScope s__law_shuffled) := ⟨rfl, rfl, rfl, by decide +kernel, rfl, by decide +kernel, by decide +kernel⟩
abbrev s__law_is_row : Stmt := topS 27
theorem sc__law_is_row : FnScope ["value", "kind", "many"] ["value", "kind", "many"] (defScope s__law_is_row) := ⟨rfl, rfl, rfl, by decide +kernel, rfl, by decide +kernel, by decide +kernel⟩
abbrev s__law_same : Stmt := topS 28
theorem sc__law_same : FnScope ["actual", "due", "at", "key"] ["actual", "due"] (defScope s__law_same) := ⟨rfl, rfl, rfl, by decide +kernel, rfl, by decide +kernel, by decide +kernel⟩
abbrev s__law_named : Stmt := topS 29
theorem sc__law_named : FnScope ["error", "names", "fits"] ["error"] (defScope s__law_named) := ⟨rfl, rfl, rfl, by decide +kernel, rfl, by decide +kernel, by decide +kernel⟩
abbrev s__law_attributes : Stmt := topS 30
theorem sc__law_attributes : FnScope ["e", "name"] ["e", "name"] (defScope s__law_attributes) := ⟨rfl, rfl, rfl, by decide +kernel, rfl, by decide +kernel, by decide +kernel⟩
abbrev s__law_error : Stmt := topS 31
theorem sc__law_error : FnScope ["error", "name"] ["error"] (defScope s__law_error) := ⟨rfl, rfl, rfl, by decide +kernel, rfl, by decide +kernel, by decide +kernel⟩
abbrev s__law_rising : Stmt := topS 32
theorem sc__law_rising : FnScope ["numbers", "longest", "turn", "found", "left", "at", "later"] ["numbers"] (defScope s__law_rising) := ⟨rfl, rfl, rfl, by decide +kernel, rfl, by decide +kernel, by decide +kernel⟩
abbrev s__law_all_rising : Stmt := topS 33
theorem sc__law_all_rising : FnScope ["numbers", "rows", "at", "row"] ["numbers"] (defScope s__law_all_rising) := ⟨rfl, rfl, rfl, by decide +kernel, rfl, by decide +kernel, by decide +kernel⟩
abbrev s__law_due_row : Stmt := topS 34
theorem sc__law_due_row : FnScope ["numbers", "rows", "most", "row"] ["numbers"] (defScope s__law_due_row) := ⟨rfl, rfl, rfl, by decide +kernel, rfl, by decide +kernel, by decide +kernel⟩
abbrev s__law_mixed : Stmt := topS 35
theorem sc__law_mixed : FnScope ["stream", "many", "parts", "at", "turn", "found", "part", "size", "k"] ["stream", "many"] (defScope s__law_mixed) := ⟨rfl, rfl, rfl, by decide +kernel, rfl, by decide +kernel, by decide +kernel⟩
abbrev s__law_numbers : Stmt := topS 36
theorem sc__law_numbers : FnScope ["stream", "many", "factor", "shift", "one"] ["stream", "many"] (defScope s__law_numbers) := ⟨rfl, rfl, rfl, by decide +kernel, rfl, by decide +kernel, by decide +kernel⟩
abbrev s__law_ask : Stmt := topS 37
theorem sc__law_ask : FnScope ["numbers", "e"] ["numbers"] (defScope s__law_ask) := ⟨rfl, rfl, rfl, by decide +kernel, rfl, by decide +kernel, by decide +kernel⟩
abbrev s__law_wrong : Stmt := topS 38
theorem sc__law_wrong : FnScope ["stream", "numbers", "kind", "at"] ["stream", "numbers"] (defScope s__law_wrong) := ⟨rfl, rfl, rfl, by decide +kernel, rfl, by decide +kernel, by decide +kernel⟩
abbrev s_law : Stmt := topS 39
theorem sc_law : FnScope ["script", "stream", "great", "turn", "numbers", "due", "passed", "told", "wrong"] ["script"] (defScope s_law) := ⟨rfl, rfl, rfl, by decide +kernel, rfl, by decide +kernel, by decide +kernel⟩
abbrev s_BadValue_init : Stmt := (clsBody (topS 5)).getD 0 (.Pass ⟨0, 0, 0, 0⟩)
theorem sc_BadValue_init : FnScope ["self", "name"] ["self", "name"] (defScope s_BadValue_init) := ⟨rfl, rfl, rfl, by decide +kernel, rfl, by decide +kernel, by decide +kernel⟩
structure Tx (K : PySem.W.Frag) (mg : Str → Option Value) where
  cl : Cn → Addr
  g_BadEdit : mg "BadEdit" = some (.ref (cl .BadEdit))
  g_BadHistory : mg "BadHistory" = some (.ref (cl .BadHistory))
  g_BadText : mg "BadText" = some (.ref (cl .BadText))
  g_BadValue : mg "BadValue" = some (.ref (cl .BadValue))
  g_NotShown : mg "NotShown" = some (.ref (cl .NotShown))
  g_Ring : mg "Ring" = some (.ref (cl .Ring))
  g_Sealed : mg "Sealed" = some (.ref (cl .Sealed))
  g_TooOld : mg "TooOld" = some (.ref (cl .TooOld))
  g_NothingToUndo : mg "NothingToUndo" = some (.ref (cl .NothingToUndo))
  g_NothingToRedo : mg "NothingToRedo" = some (.ref (cl .NothingToRedo))
  g_BadVersion : mg "BadVersion" = some (.ref (cl .BadVersion))
  g_TwoFaces : mg "TwoFaces" = some (.ref (cl .TwoFaces))
  g_ApartError : mg "ApartError" = some (.ref (cl .ApartError))
  oc_BadValue : OexC K (cl .BadValue)
  i_BadValue : Addr
  fi_BadValue : FuncData
  ini_BadValue : PySem.W.findIn K (.ref (cl .BadValue)) "__init__" = some (some (.ref i_BadValue))
  ti_BadValue : PySem.W.typeIn K (.ref i_BadValue) = some (.type "function")
  FI_BadValue : Fun K "__init__" "BadValue.__init__" s_BadValue_init i_BadValue fi_BadValue
  BI_BadValue : Binds K fi_BadValue ["self", "name"] []
  xp_BadValue : ExcP K (cl .BadValue)
  hd_BadValue : PySem.W.hasDictIn K (cl .BadValue) = true
  no_BadValue_word : PySem.W.findIn K (.ref (cl .BadValue)) "word" = some none
  no_BadValue_index : PySem.W.findIn K (.ref (cl .BadValue)) "index" = some none
  no_BadValue_line : PySem.W.findIn K (.ref (cl .BadValue)) "line" = some none
  no_BadValue_column : PySem.W.findIn K (.ref (cl .BadValue)) "column" = some none
  no_BadValue_name : PySem.W.findIn K (.ref (cl .BadValue)) "name" = some none
  no_BadValue_slot : PySem.W.findIn K (.ref (cl .BadValue)) "slot" = some none
  no_BadValue_nodes : PySem.W.findIn K (.ref (cl .BadValue)) "nodes" = some none
  no_BadValue_id : PySem.W.findIn K (.ref (cl .BadValue)) "id" = some none
  no_BadValue_version : PySem.W.findIn K (.ref (cl .BadValue)) "version" = some none
  no_BadValue_hand : PySem.W.findIn K (.ref (cl .BadValue)) "hand" = some none
  kit_BadValue_BadEdit : PySem.W.kitOne K (.ref (cl .BadValue)) (.ref (cl .BadEdit)) = some (isC .BadValue .BadEdit)
  kit_BadValue_BadHistory : PySem.W.kitOne K (.ref (cl .BadValue)) (.ref (cl .BadHistory)) = some (isC .BadValue .BadHistory)
  kit_BadValue_BadText : PySem.W.kitOne K (.ref (cl .BadValue)) (.ref (cl .BadText)) = some (isC .BadValue .BadText)
  kit_BadValue_BadValue : PySem.W.kitOne K (.ref (cl .BadValue)) (.ref (cl .BadValue)) = some (isC .BadValue .BadValue)
  kit_BadValue_NotShown : PySem.W.kitOne K (.ref (cl .BadValue)) (.ref (cl .NotShown)) = some (isC .BadValue .NotShown)
  kit_BadValue_Ring : PySem.W.kitOne K (.ref (cl .BadValue)) (.ref (cl .Ring)) = some (isC .BadValue .Ring)
  kit_BadValue_Sealed : PySem.W.kitOne K (.ref (cl .BadValue)) (.ref (cl .Sealed)) = some (isC .BadValue .Sealed)
  kit_BadValue_TooOld : PySem.W.kitOne K (.ref (cl .BadValue)) (.ref (cl .TooOld)) = some (isC .BadValue .TooOld)
  kit_BadValue_NothingToUndo : PySem.W.kitOne K (.ref (cl .BadValue)) (.ref (cl .NothingToUndo)) = some (isC .BadValue .NothingToUndo)
  kit_BadValue_NothingToRedo : PySem.W.kitOne K (.ref (cl .BadValue)) (.ref (cl .NothingToRedo)) = some (isC .BadValue .NothingToRedo)
  kit_BadValue_BadVersion : PySem.W.kitOne K (.ref (cl .BadValue)) (.ref (cl .BadVersion)) = some (isC .BadValue .BadVersion)
  kit_BadValue_TwoFaces : PySem.W.kitOne K (.ref (cl .BadValue)) (.ref (cl .TwoFaces)) = some (isC .BadValue .TwoFaces)
  kit_BadValue_ApartError : PySem.W.kitOne K (.ref (cl .BadValue)) (.ref (cl .ApartError)) = some (isC .BadValue .ApartError)
  kv_BadValue : PySem.W.kitOne K (.ref (cl .BadValue)) (.type "ValueError") = some true
  exm_BadValue : PySem.W.exmOne K (.ref (cl .BadValue)) (.ref (cl .ApartError)) = some true
  a_is_integer : Addr
  fd_is_integer : FuncData
  F_is_integer : Fun K "is_integer" "is_integer" s_is_integer a_is_integer fd_is_integer
  g_is_integer : mg "is_integer" = some (.ref a_is_integer)
  B_is_integer : Binds K fd_is_integer ["value"] []
  a_first_not_greater : Addr
  fd_first_not_greater : FuncData
  F_first_not_greater : Fun K "first_not_greater" "first_not_greater" s_first_not_greater a_first_not_greater fd_first_not_greater
  g_first_not_greater : mg "first_not_greater" = some (.ref a_first_not_greater)
  B_first_not_greater : Binds K fd_first_not_greater ["tails", "number"] []
  a_lengths_from : Addr
  fd_lengths_from : FuncData
  F_lengths_from : Fun K "lengths_from" "lengths_from" s_lengths_from a_lengths_from fd_lengths_from
  g_lengths_from : mg "lengths_from" = some (.ref a_lengths_from)
  B_lengths_from : Binds K fd_lengths_from ["numbers"] []
  a_rising_places : Addr
  fd_rising_places : FuncData
  F_rising_places : Fun K "rising_places" "rising_places" s_rising_places a_rising_places fd_rising_places
  g_rising_places : mg "rising_places" = some (.ref a_rising_places)
  B_rising_places : Binds K fd_rising_places ["numbers"] []
  a_kept_row : Addr
  fd_kept_row : FuncData
  F_kept_row : Fun K "kept_row" "kept_row" s_kept_row a_kept_row fd_kept_row
  g_kept_row : mg "kept_row" = some (.ref a_kept_row)
  B_kept_row : Binds K fd_kept_row ["numbers"] []
  a__law_stream : Addr
  fd__law_stream : FuncData
  F__law_stream : Fun K "_law_stream" "_law_stream" s__law_stream a__law_stream fd__law_stream
  g__law_stream : mg "_law_stream" = some (.ref a__law_stream)
  B__law_stream : Binds K fd__law_stream ["script"] []
  a__law_next : Addr
  fd__law_next : FuncData
  F__law_next : Fun K "_law_next" "_law_next" s__law_next a__law_next fd__law_next
  g__law_next : mg "_law_next" = some (.ref a__law_next)
  B__law_next : Binds K fd__law_next ["stream", "many"] []
  a__law_pick : Addr
  fd__law_pick : FuncData
  F__law_pick : Fun K "_law_pick" "_law_pick" s__law_pick a__law_pick fd__law_pick
  g__law_pick : mg "_law_pick" = some (.ref a__law_pick)
  B__law_pick : Binds K fd__law_pick ["stream", "rows"] []
  a__law_from : Addr
  fd__law_from : FuncData
  F__law_from : Fun K "_law_from" "_law_from" s__law_from a__law_from fd__law_from
  g__law_from : mg "_law_from" = some (.ref a__law_from)
  B__law_from : Binds K fd__law_from ["stream", "low", "high"] []
  a__law_shuffled : Addr
  fd__law_shuffled : FuncData
  F__law_shuffled : Fun K "_law_shuffled" "_law_shuffled" s__law_shuffled a__law_shuffled fd__law_shuffled
  g__law_shuffled : mg "_law_shuffled" = some (.ref a__law_shuffled)
  B__law_shuffled : Binds K fd__law_shuffled ["stream", "rows"] []
  a__law_is_row : Addr
  fd__law_is_row : FuncData
  F__law_is_row : Fun K "_law_is_row" "_law_is_row" s__law_is_row a__law_is_row fd__law_is_row
  g__law_is_row : mg "_law_is_row" = some (.ref a__law_is_row)
  B__law_is_row : Binds K fd__law_is_row ["value", "kind", "many"] []
  a__law_same : Addr
  fd__law_same : FuncData
  F__law_same : Fun K "_law_same" "_law_same" s__law_same a__law_same fd__law_same
  g__law_same : mg "_law_same" = some (.ref a__law_same)
  B__law_same : Binds K fd__law_same ["actual", "due"] []
  a__law_named : Addr
  fd__law_named : FuncData
  F__law_named : Fun K "_law_named" "_law_named" s__law_named a__law_named fd__law_named
  g__law_named : mg "_law_named" = some (.ref a__law_named)
  B__law_named : Binds K fd__law_named ["error"] []
  a__law_attributes : Addr
  fd__law_attributes : FuncData
  F__law_attributes : Fun K "_law_attributes" "_law_attributes" s__law_attributes a__law_attributes fd__law_attributes
  g__law_attributes : mg "_law_attributes" = some (.ref a__law_attributes)
  B__law_attributes : Binds K fd__law_attributes ["e", "name"] []
  a__law_error : Addr
  fd__law_error : FuncData
  F__law_error : Fun K "_law_error" "_law_error" s__law_error a__law_error fd__law_error
  g__law_error : mg "_law_error" = some (.ref a__law_error)
  B__law_error : Binds K fd__law_error ["error"] []
  a__law_rising : Addr
  fd__law_rising : FuncData
  F__law_rising : Fun K "_law_rising" "_law_rising" s__law_rising a__law_rising fd__law_rising
  g__law_rising : mg "_law_rising" = some (.ref a__law_rising)
  B__law_rising : Binds K fd__law_rising ["numbers"] []
  a__law_all_rising : Addr
  fd__law_all_rising : FuncData
  F__law_all_rising : Fun K "_law_all_rising" "_law_all_rising" s__law_all_rising a__law_all_rising fd__law_all_rising
  g__law_all_rising : mg "_law_all_rising" = some (.ref a__law_all_rising)
  B__law_all_rising : Binds K fd__law_all_rising ["numbers"] []
  a__law_due_row : Addr
  fd__law_due_row : FuncData
  F__law_due_row : Fun K "_law_due_row" "_law_due_row" s__law_due_row a__law_due_row fd__law_due_row
  g__law_due_row : mg "_law_due_row" = some (.ref a__law_due_row)
  B__law_due_row : Binds K fd__law_due_row ["numbers"] []
  a__law_mixed : Addr
  fd__law_mixed : FuncData
  F__law_mixed : Fun K "_law_mixed" "_law_mixed" s__law_mixed a__law_mixed fd__law_mixed
  g__law_mixed : mg "_law_mixed" = some (.ref a__law_mixed)
  B__law_mixed : Binds K fd__law_mixed ["stream", "many"] []
  a__law_numbers : Addr
  fd__law_numbers : FuncData
  F__law_numbers : Fun K "_law_numbers" "_law_numbers" s__law_numbers a__law_numbers fd__law_numbers
  g__law_numbers : mg "_law_numbers" = some (.ref a__law_numbers)
  B__law_numbers : Binds K fd__law_numbers ["stream", "many"] []
  a__law_ask : Addr
  fd__law_ask : FuncData
  F__law_ask : Fun K "_law_ask" "_law_ask" s__law_ask a__law_ask fd__law_ask
  g__law_ask : mg "_law_ask" = some (.ref a__law_ask)
  B__law_ask : Binds K fd__law_ask ["numbers"] []
  a__law_wrong : Addr
  fd__law_wrong : FuncData
  F__law_wrong : Fun K "_law_wrong" "_law_wrong" s__law_wrong a__law_wrong fd__law_wrong
  g__law_wrong : mg "_law_wrong" = some (.ref a__law_wrong)
  B__law_wrong : Binds K fd__law_wrong ["stream", "numbers"] []
  a_law : Addr
  fd_law : FuncData
  F_law : Fun K "law" "law" s_law a_law fd_law
  g_law : mg "law" = some (.ref a_law)
  B_law : Binds K fd_law ["script"] []
  b_ValueError : mg "ValueError" = none
  b_abs : mg "abs" = none
  b_all : mg "all" = none
  b_bool : mg "bool" = none
  b_dict : mg "dict" = none
  b_enumerate : mg "enumerate" = none
  b_int : mg "int" = none
  b_isinstance : mg "isinstance" = none
  b_len : mg "len" = none
  b_list : mg "list" = none
  b_max : mg "max" = none
  b_min : mg "min" = none
  b_range : mg "range" = none
  b_sorted : mg "sorted" = none
  b_str : mg "str" = none
  b_tuple : mg "tuple" = none
theorem Tx.xp {K : PySem.W.Frag} {mg : Str → Option Value} (T : Tx K mg) : ∀ c, rz c = true → ExcP K (T.cl c)
  | .BadEdit, h => nomatch h
  | .BadHistory, h => nomatch h
  | .BadText, h => nomatch h
  | .BadValue, _ => T.xp_BadValue
  | .NotShown, h => nomatch h
  | .Ring, h => nomatch h
  | .Sealed, h => nomatch h
  | .TooOld, h => nomatch h
  | .NothingToUndo, h => nomatch h
  | .NothingToRedo, h => nomatch h
  | .BadVersion, h => nomatch h
  | .TwoFaces, h => nomatch h
  | .ApartError, h => nomatch h
theorem Tx.hd {K : PySem.W.Frag} {mg : Str → Option Value} (T : Tx K mg) : ∀ c, rz c = true → PySem.W.hasDictIn K (T.cl c) = true
  | .BadEdit, h => nomatch h
  | .BadHistory, h => nomatch h
  | .BadText, h => nomatch h
  | .BadValue, _ => T.hd_BadValue
  | .NotShown, h => nomatch h
  | .Ring, h => nomatch h
  | .Sealed, h => nomatch h
  | .TooOld, h => nomatch h
  | .NothingToUndo, h => nomatch h
  | .NothingToRedo, h => nomatch h
  | .BadVersion, h => nomatch h
  | .TwoFaces, h => nomatch h
  | .ApartError, h => nomatch h
theorem Tx.no_word {K : PySem.W.Frag} {mg : Str → Option Value} (T : Tx K mg) : ∀ c, rz c = true → PySem.W.findIn K (.ref (T.cl c)) "word" = some none
  | .BadEdit, h => nomatch h
  | .BadHistory, h => nomatch h
  | .BadText, h => nomatch h
  | .BadValue, _ => T.no_BadValue_word
  | .NotShown, h => nomatch h
  | .Ring, h => nomatch h
  | .Sealed, h => nomatch h
  | .TooOld, h => nomatch h
  | .NothingToUndo, h => nomatch h
  | .NothingToRedo, h => nomatch h
  | .BadVersion, h => nomatch h
  | .TwoFaces, h => nomatch h
  | .ApartError, h => nomatch h
theorem Tx.no_index {K : PySem.W.Frag} {mg : Str → Option Value} (T : Tx K mg) : ∀ c, rz c = true → PySem.W.findIn K (.ref (T.cl c)) "index" = some none
  | .BadEdit, h => nomatch h
  | .BadHistory, h => nomatch h
  | .BadText, h => nomatch h
  | .BadValue, _ => T.no_BadValue_index
  | .NotShown, h => nomatch h
  | .Ring, h => nomatch h
  | .Sealed, h => nomatch h
  | .TooOld, h => nomatch h
  | .NothingToUndo, h => nomatch h
  | .NothingToRedo, h => nomatch h
  | .BadVersion, h => nomatch h
  | .TwoFaces, h => nomatch h
  | .ApartError, h => nomatch h
theorem Tx.no_line {K : PySem.W.Frag} {mg : Str → Option Value} (T : Tx K mg) : ∀ c, rz c = true → PySem.W.findIn K (.ref (T.cl c)) "line" = some none
  | .BadEdit, h => nomatch h
  | .BadHistory, h => nomatch h
  | .BadText, h => nomatch h
  | .BadValue, _ => T.no_BadValue_line
  | .NotShown, h => nomatch h
  | .Ring, h => nomatch h
  | .Sealed, h => nomatch h
  | .TooOld, h => nomatch h
  | .NothingToUndo, h => nomatch h
  | .NothingToRedo, h => nomatch h
  | .BadVersion, h => nomatch h
  | .TwoFaces, h => nomatch h
  | .ApartError, h => nomatch h
theorem Tx.no_column {K : PySem.W.Frag} {mg : Str → Option Value} (T : Tx K mg) : ∀ c, rz c = true → PySem.W.findIn K (.ref (T.cl c)) "column" = some none
  | .BadEdit, h => nomatch h
  | .BadHistory, h => nomatch h
  | .BadText, h => nomatch h
  | .BadValue, _ => T.no_BadValue_column
  | .NotShown, h => nomatch h
  | .Ring, h => nomatch h
  | .Sealed, h => nomatch h
  | .TooOld, h => nomatch h
  | .NothingToUndo, h => nomatch h
  | .NothingToRedo, h => nomatch h
  | .BadVersion, h => nomatch h
  | .TwoFaces, h => nomatch h
  | .ApartError, h => nomatch h
theorem Tx.no_name {K : PySem.W.Frag} {mg : Str → Option Value} (T : Tx K mg) : ∀ c, rz c = true → PySem.W.findIn K (.ref (T.cl c)) "name" = some none
  | .BadEdit, h => nomatch h
  | .BadHistory, h => nomatch h
  | .BadText, h => nomatch h
  | .BadValue, _ => T.no_BadValue_name
  | .NotShown, h => nomatch h
  | .Ring, h => nomatch h
  | .Sealed, h => nomatch h
  | .TooOld, h => nomatch h
  | .NothingToUndo, h => nomatch h
  | .NothingToRedo, h => nomatch h
  | .BadVersion, h => nomatch h
  | .TwoFaces, h => nomatch h
  | .ApartError, h => nomatch h
theorem Tx.no_slot {K : PySem.W.Frag} {mg : Str → Option Value} (T : Tx K mg) : ∀ c, rz c = true → PySem.W.findIn K (.ref (T.cl c)) "slot" = some none
  | .BadEdit, h => nomatch h
  | .BadHistory, h => nomatch h
  | .BadText, h => nomatch h
  | .BadValue, _ => T.no_BadValue_slot
  | .NotShown, h => nomatch h
  | .Ring, h => nomatch h
  | .Sealed, h => nomatch h
  | .TooOld, h => nomatch h
  | .NothingToUndo, h => nomatch h
  | .NothingToRedo, h => nomatch h
  | .BadVersion, h => nomatch h
  | .TwoFaces, h => nomatch h
  | .ApartError, h => nomatch h
theorem Tx.no_nodes {K : PySem.W.Frag} {mg : Str → Option Value} (T : Tx K mg) : ∀ c, rz c = true → PySem.W.findIn K (.ref (T.cl c)) "nodes" = some none
  | .BadEdit, h => nomatch h
  | .BadHistory, h => nomatch h
  | .BadText, h => nomatch h
  | .BadValue, _ => T.no_BadValue_nodes
  | .NotShown, h => nomatch h
  | .Ring, h => nomatch h
  | .Sealed, h => nomatch h
  | .TooOld, h => nomatch h
  | .NothingToUndo, h => nomatch h
  | .NothingToRedo, h => nomatch h
  | .BadVersion, h => nomatch h
  | .TwoFaces, h => nomatch h
  | .ApartError, h => nomatch h
theorem Tx.no_id {K : PySem.W.Frag} {mg : Str → Option Value} (T : Tx K mg) : ∀ c, rz c = true → PySem.W.findIn K (.ref (T.cl c)) "id" = some none
  | .BadEdit, h => nomatch h
  | .BadHistory, h => nomatch h
  | .BadText, h => nomatch h
  | .BadValue, _ => T.no_BadValue_id
  | .NotShown, h => nomatch h
  | .Ring, h => nomatch h
  | .Sealed, h => nomatch h
  | .TooOld, h => nomatch h
  | .NothingToUndo, h => nomatch h
  | .NothingToRedo, h => nomatch h
  | .BadVersion, h => nomatch h
  | .TwoFaces, h => nomatch h
  | .ApartError, h => nomatch h
theorem Tx.no_version {K : PySem.W.Frag} {mg : Str → Option Value} (T : Tx K mg) : ∀ c, rz c = true → PySem.W.findIn K (.ref (T.cl c)) "version" = some none
  | .BadEdit, h => nomatch h
  | .BadHistory, h => nomatch h
  | .BadText, h => nomatch h
  | .BadValue, _ => T.no_BadValue_version
  | .NotShown, h => nomatch h
  | .Ring, h => nomatch h
  | .Sealed, h => nomatch h
  | .TooOld, h => nomatch h
  | .NothingToUndo, h => nomatch h
  | .NothingToRedo, h => nomatch h
  | .BadVersion, h => nomatch h
  | .TwoFaces, h => nomatch h
  | .ApartError, h => nomatch h
theorem Tx.no_hand {K : PySem.W.Frag} {mg : Str → Option Value} (T : Tx K mg) : ∀ c, rz c = true → PySem.W.findIn K (.ref (T.cl c)) "hand" = some none
  | .BadEdit, h => nomatch h
  | .BadHistory, h => nomatch h
  | .BadText, h => nomatch h
  | .BadValue, _ => T.no_BadValue_hand
  | .NotShown, h => nomatch h
  | .Ring, h => nomatch h
  | .Sealed, h => nomatch h
  | .TooOld, h => nomatch h
  | .NothingToUndo, h => nomatch h
  | .NothingToRedo, h => nomatch h
  | .BadVersion, h => nomatch h
  | .TwoFaces, h => nomatch h
  | .ApartError, h => nomatch h
theorem Tx.kitV {K : PySem.W.Frag} {mg : Str → Option Value} (T : Tx K mg) : ∀ c, rz c = true → PySem.W.kitOne K (.ref (T.cl c)) (.type "ValueError") = some true
  | .BadEdit, h => nomatch h
  | .BadHistory, h => nomatch h
  | .BadText, h => nomatch h
  | .BadValue, _ => T.kv_BadValue
  | .NotShown, h => nomatch h
  | .Ring, h => nomatch h
  | .Sealed, h => nomatch h
  | .TooOld, h => nomatch h
  | .NothingToUndo, h => nomatch h
  | .NothingToRedo, h => nomatch h
  | .BadVersion, h => nomatch h
  | .TwoFaces, h => nomatch h
  | .ApartError, h => nomatch h
theorem Tx.kit {K : PySem.W.Frag} {mg : Str → Option Value} (T : Tx K mg) : ∀ c, rz c = true → ∀ c2, PySem.W.kitOne K (.ref (T.cl c)) (.ref (T.cl c2)) = some (isC c c2)
  | .BadEdit, h, _ => nomatch h
  | .BadHistory, h, _ => nomatch h
  | .BadText, h, _ => nomatch h
  | .BadValue, _, .BadEdit => T.kit_BadValue_BadEdit
  | .BadValue, _, .BadHistory => T.kit_BadValue_BadHistory
  | .BadValue, _, .BadText => T.kit_BadValue_BadText
  | .BadValue, _, .BadValue => T.kit_BadValue_BadValue
  | .BadValue, _, .NotShown => T.kit_BadValue_NotShown
  | .BadValue, _, .Ring => T.kit_BadValue_Ring
  | .BadValue, _, .Sealed => T.kit_BadValue_Sealed
  | .BadValue, _, .TooOld => T.kit_BadValue_TooOld
  | .BadValue, _, .NothingToUndo => T.kit_BadValue_NothingToUndo
  | .BadValue, _, .NothingToRedo => T.kit_BadValue_NothingToRedo
  | .BadValue, _, .BadVersion => T.kit_BadValue_BadVersion
  | .BadValue, _, .TwoFaces => T.kit_BadValue_TwoFaces
  | .BadValue, _, .ApartError => T.kit_BadValue_ApartError
  | .NotShown, h, _ => nomatch h
  | .Ring, h, _ => nomatch h
  | .Sealed, h, _ => nomatch h
  | .TooOld, h, _ => nomatch h
  | .NothingToUndo, h, _ => nomatch h
  | .NothingToRedo, h, _ => nomatch h
  | .BadVersion, h, _ => nomatch h
  | .TwoFaces, h, _ => nomatch h
  | .ApartError, h, _ => nomatch h
theorem Tx.exm {K : PySem.W.Frag} {mg : Str → Option Value} (T : Tx K mg) : ∀ c, rz c = true → PySem.W.exmOne K (.ref (T.cl c)) (.ref (T.cl .ApartError)) = some true
  | .BadEdit, h => nomatch h
  | .BadHistory, h => nomatch h
  | .BadText, h => nomatch h
  | .BadValue, _ => T.exm_BadValue
  | .NotShown, h => nomatch h
  | .Ring, h => nomatch h
  | .Sealed, h => nomatch h
  | .TooOld, h => nomatch h
  | .NothingToUndo, h => nomatch h
  | .NothingToRedo, h => nomatch h
  | .BadVersion, h => nomatch h
  | .TwoFaces, h => nomatch h
  | .ApartError, h => nomatch h
theorem ok_init_BadValue {P : Program} {w : World} {K : PySem.W.Frag} {mg : Str → Option Value} {base : Heap} (T : Tx K mg) : FnOk P w K mg base CX0 1 T.i_BadValue T.fi_BadValue ["self", "name"] (spI1 (T.cl .BadValue) "name") :=
  T.FI_BadValue.ok sc_BadValue_init (fun vs H Q E h => by obtain ⟨_, _, rfl, _⟩ := h; rfl) (fun cdv A outer s H vs Q E hr h => ⟨_, pss_one (ps_ost (pv 0) (pv 1)), init1_run T.oc_BadValue T.no_BadValue_name rfl h⟩)
def R_is_integer : Rel := fun ρ os r os2 => ∃ (value_1 : D), ρ = [.fz (E value_1)] ∧ os = [] ∧ ∃ (x : Bool), m_is_integer value_1 = some x ∧ r = .fz (E x) ∧ os2 = []
def R_first_not_greater : Rel := fun ρ os r os2 => ∃ (tails_1 : (List Int)) (number_2 : Int), ρ = [.fz (E tails_1), .fz (E number_2)] ∧ os = [] ∧ ∃ (x : Int), m_first_not_greater tails_1 number_2 = some x ∧ r = .fz (E x) ∧ os2 = []
def R_lengths_from : Rel := fun ρ os r os2 => ∃ (numbers_1 : (List Int)), ρ = [.fz (E numbers_1)] ∧ os = [] ∧ ∃ (x : (List Int)), m_lengths_from numbers_1 = some x ∧ r = .nw (E x) ∧ os2 = []
def R_rising_places : Rel := fun ρ os r os2 => ∃ (numbers_1 : (List Int)), ρ = [.fz (E numbers_1)] ∧ os = [] ∧ ∃ (x : (List Int)), m_rising_places numbers_1 = some x ∧ r = .nw (E x) ∧ os2 = []
def R_kept_row (cl : Cn → Addr) : Rel := fun ρ os r os2 => ∃ (numbers_1 : D), ρ = [.fz (E numbers_1)] ∧ os = [] ∧ ∃ o : (Out (List Int) Unit), m_kept_row numbers_1 = some o ∧ OutR cl (fun x : (List Int) => .nw (E x)) (fun (_ : Unit) => []) o r os2
def R_law_stream : Rel := fun ρ os r os2 => ∃ (script_1 : (List Int)), ρ = [.fz (E script_1)] ∧ os = [] ∧ ∃ (x : (LH3 (List Int) Int Int)), m_law_stream script_1 = some x ∧ r = .nw (E x) ∧ os2 = []
def R_law_next : Rel := fun ρ os r os2 => ∃ (stream_1 : (LH3 (List Int) Int Int)) (many_2 : Int), ρ = [.at 0, .fz (E many_2)] ∧ os = [.has (E stream_1)] ∧ ∃ (x : Int) (s0 : (LH3 (List Int) Int Int)), m_law_next stream_1 many_2 = some (x, s0) ∧ r = .fz (E x) ∧ os2 = [.has (E s0)]
def R_law_pick : Rel := fun ρ os r os2 => ∃ (α : Type) (_ : Enc α), ∃ (stream_1 : (LH3 (List Int) Int Int)) (rows_2 : (Sq α)), ρ = [.at 0, .fz (E rows_2)] ∧ os = [.has (E stream_1)] ∧ ∃ (x : α) (s0 : (LH3 (List Int) Int Int)), m_law_pick stream_1 rows_2 = some (x, s0) ∧ r = .fz (E x) ∧ os2 = [.has (E s0)]
def R_law_from : Rel := fun ρ os r os2 => ∃ (stream_1 : (LH3 (List Int) Int Int)) (low_2 : Int) (high_3 : Int), ρ = [.at 0, .fz (E low_2), .fz (E high_3)] ∧ os = [.has (E stream_1)] ∧ ∃ (x : Int) (s0 : (LH3 (List Int) Int Int)), m_law_from stream_1 low_2 high_3 = some (x, s0) ∧ r = .fz (E x) ∧ os2 = [.has (E s0)]
def R_law_shuffled : Rel := fun ρ os r os2 => ∃ (α : Type) (_ : Enc α), ∃ (stream_1 : (LH3 (List Int) Int Int)) (rows_2 : (List α)), ρ = [.at 0, .fz (E rows_2)] ∧ os = [.has (E stream_1)] ∧ ∃ (x : (List α)) (s0 : (LH3 (List Int) Int Int)), m_law_shuffled stream_1 rows_2 = some (x, s0) ∧ r = .nw (E x) ∧ os2 = [.has (E s0)]
def R_law_is_row : Rel := fun ρ os r os2 => ∃ (value_1 : D) (kind_2 : Str) (many_3 : Int), ρ = [.fz (E value_1), .fz (E kind_2), .fz (E many_3)] ∧ os = [] ∧ ∃ (x : Bool), m_law_is_row value_1 kind_2 many_3 = some x ∧ r = .fz (E x) ∧ os2 = []
def R_law_same (n : Nat) : Rel := fun ρ os r os2 => ∃ (actual_1 : D) (due_2 : D), ρ = [.fz (E actual_1), .fz (E due_2)] ∧ os = [] ∧ ∃ (x : Bool), m_law_same n actual_1 due_2 = some x ∧ r = .fz (E x) ∧ os2 = []
def R_law_named (cl : Cn → Addr) : Addr → Value → Option Addr → Rel := fun a cls d ρ os r os2 => ∃ (error_1 : Exn) (dd : Addr), rz error_1.c = true ∧ cls = .ref (cl error_1.c) ∧ d = some dd ∧ ρ = [.fz (excD a dd error_1)] ∧ os = [] ∧ ∃ x : Str, m_law_named error_1 = some x ∧ r = .fz (E x) ∧ os2 = []
def R_law_attributes (cl : Cn → Addr) : Addr → Value → Option Addr → Rel := fun a cls d ρ os r os2 => ∃ (e_1 : Exn) (dd : Addr) (name_2 : Str), rz e_1.c = true ∧ cls = .ref (cl e_1.c) ∧ d = some dd ∧ ρ = [.fz (excD a dd e_1), .fz (E name_2)] ∧ os = [] ∧ ∃ x : (Tup D), m_law_attributes e_1 name_2 = some x ∧ r = .fz (E x) ∧ os2 = []
def R_law_error (cl : Cn → Addr) : Addr → Value → Option Addr → Rel := fun a cls d ρ os r os2 => ∃ (error_1 : Exn) (dd : Addr), rz error_1.c = true ∧ cls = .ref (cl error_1.c) ∧ d = some dd ∧ ρ = [.fz (excD a dd error_1)] ∧ os = [] ∧ ∃ x : (List D), m_law_error error_1 = some x ∧ r = .nw (E x) ∧ os2 = []
def R_law_rising : Rel := fun ρ os r os2 => ∃ (numbers_1 : (List Int)), ρ = [.fz (E numbers_1)] ∧ os = [] ∧ ∃ (x : (List Int)), m_law_rising numbers_1 = some x ∧ r = .nw (E x) ∧ os2 = []
def R_law_all_rising : Rel := fun ρ os r os2 => ∃ (numbers_1 : (List Int)), ρ = [.fz (E numbers_1)] ∧ os = [] ∧ ∃ (x : (List (List Int))), m_law_all_rising numbers_1 = some x ∧ r = .fz (E x) ∧ os2 = []
def R_law_due_row : Rel := fun ρ os r os2 => ∃ (numbers_1 : (List Int)), ρ = [.fz (E numbers_1)] ∧ os = [] ∧ ∃ (x : (List Int)), m_law_due_row numbers_1 = some x ∧ r = .fz (E x) ∧ os2 = []
def R_law_mixed : Rel := fun ρ os r os2 => ∃ (stream_1 : (LH3 (List Int) Int Int)) (many_2 : Int), ρ = [.at 0, .fz (E many_2)] ∧ os = [.has (E stream_1)] ∧ ∃ (x : (List Int)) (s0 : (LH3 (List Int) Int Int)), m_law_mixed stream_1 many_2 = some (x, s0) ∧ r = .fz (E x) ∧ os2 = [.has (E s0)]
def R_law_numbers : Rel := fun ρ os r os2 => ∃ (stream_1 : (LH3 (List Int) Int Int)) (many_2 : Int), ρ = [.at 0, .fz (E many_2)] ∧ os = [.has (E stream_1)] ∧ ∃ (x : (List Int)) (s0 : (LH3 (List Int) Int Int)), m_law_numbers stream_1 many_2 = some (x, s0) ∧ r = .nw (E x) ∧ os2 = [.has (E s0)]
def R_law_ask : Rel := fun ρ os r os2 => ∃ (numbers_1 : D), ρ = [.fz (E numbers_1)] ∧ os = [] ∧ ∃ (x : (Mk × D)), m_law_ask numbers_1 = some x ∧ r = .dw x.1 x.2 ∧ os2 = []
def R_law_wrong : Rel := fun ρ os r os2 => ∃ (stream_1 : (LH3 (List Int) Int Int)) (numbers_2 : (List Int)), ρ = [.at 0, .fz (E numbers_2)] ∧ os = [.has (E stream_1)] ∧ ∃ (x : D) (s0 : (LH3 (List Int) Int Int)), m_law_wrong stream_1 numbers_2 = some (x, s0) ∧ r = .fz (E x) ∧ os2 = [.has (E s0)]
def R_law : Rel := fun ρ os r os2 => ∃ (script_1 : (List Int)), ρ = [.fz (E script_1)] ∧ os = [] ∧ ∃ (x : Bool), m_law script_1 = some x ∧ r = .fz (E x) ∧ os2 = []
section
variable {P : Program} {w : World} {K : PySem.W.Frag} {mg : Str → Option Value} {base : Heap}
theorem ok_is_integer (T : Tx K mg) : FnOk P w K mg base CX0 1 T.a_is_integer T.fd_is_integer ["value"] (spR K R_is_integer) := by
  refine fn_R (k := 0) T.F_is_integer sc_is_integer (fun ρ os r os2 h => by obtain ⟨value_1, rfl, rfl, x, h, rfl, rfl⟩ := h; exact ⟨rfl, rfl⟩) fun cdv A outer s H EX hr => ?_
  have nd := sc_is_integer.nd
  refine ⟨_, pss_one (ps_ret (pe_and (pe_callB (call_isK (K := K) rfl) (by rfl) T.b_isinstance (by decide +kernel) (pa_cons (pv 0) (pa_cons (pe_bltn (v := .ty "int") (by rfl) T.b_int (by decide +kernel) rfl) pa_nil))) (pe_one (pe_not (pe_callB (call_isK (K := K) rfl) (by rfl) T.b_isinstance (by decide +kernel) (pa_cons (pv 0) (pa_cons (pe_bltn (v := .ty "bool") (by rfl) T.b_bool (by decide +kernel) rfl) pa_nil))))))), ?_⟩
  rintro ρ os r os2 ⟨value_1, rfl, rfl, x, h, rfl, rfl⟩
  show Ly.Run K _ [.fz (E (value_1 : D))] [] _
  unfold m_is_integer at h
  have h0 := obind_some h
  clear h
  obtain ⟨b_2, h_3, h⟩ := h0
  have h0 := obind_some h
  clear h
  obtain ⟨b_6, h_7, h⟩ := h0
  have k0 := Option.some.inj h
  clear h
  subst k0
  exact run_ret (s := .fz (E (b_6 : Bool))) (ev_andV (b := b_6) (os2 := []) (ev_isiD (ea_cons (ev_var rfl) (ea_cons ev_ty ea_nil)) h_3) (fun hb_8 => by have h := cond_t hb_8 h_7; have h0 := obind_some h; clear h; obtain ⟨b_4, h_5, h⟩ := h0; have k0 := Option.some.inj h; clear h; subst k0; exact (ev_notV (ev_isiD (ea_cons (ev_var rfl) (ea_cons ev_ty ea_nil)) h_5))) (fun hb_8 => by have h := cond_f hb_8 h_7; have k0 := Option.some.inj h; clear h; subst k0; exact ⟨rfl, rfl⟩)) ⟨rfl, .nil⟩
theorem ok_first_not_greater (T : Tx K mg) : FnOk P w K mg base CX0 1 T.a_first_not_greater T.fd_first_not_greater ["tails", "number"] (spR K R_first_not_greater) := by
  refine fn_R (k := 0) T.F_first_not_greater sc_first_not_greater (fun ρ os r os2 h => by obtain ⟨tails_1, number_2, rfl, rfl, x, h, rfl, rfl⟩ := h; exact ⟨rfl, rfl⟩) fun cdv A outer s H EX hr => ?_
  have nd := sc_first_not_greater.nd
  refine ⟨_, pss_cons (ps_par (i := 2) (j := 3) (by rfl) nd rfl rfl (by decide) rfl rfl (pa_cons (pe_int) (pa_cons (pe_callB (call_lenK (K := K) rfl) (by rfl) T.b_len (by decide +kernel) (pa_cons (pv 0) pa_nil)) pa_nil)) (by rfl)) (pss_cons (ps_while PassesOwn.never (pt_cmpR op_lt (pv 2) (pv 3) (nomark _)) (pss_cons (ps_set (i := 4) nd rfl (Or.inl rfl) (pe_op op_fdivN (pe_op op_add (pv 2) (pv 3)) (pe_int))) (pss_one (ps_if (pt_cmpR op_gt (pe_ix (ix_listK (K := K) rfl) (pv 0) (pv 4) (fun _ _ => rfl)) (pv 1) (nomark _)) (pss_one (ps_set (i := 2) nd rfl (Or.inl rfl) (pe_op op_add (pv 4) (pe_int)))) (pss_one (ps_set (i := 3) nd rfl (Or.inl rfl) (pv 4))))))) (pss_one (ps_ret (pv 2)))), ?_⟩
  rintro ρ os r os2 ⟨tails_1, number_2, rfl, rfl, x, h, rfl, rfl⟩
  show Ly.Run K _ [.fz (E (tails_1 : (List Int))), .fz (E (number_2 : Int)), .un, .un, .un] [] _
  unfold m_first_not_greater at h
  refine run_seq (run_par (s := .fz (E ((0 : Int) : Int))) (t := .fz (E ((tails_1.length : Int) : Int))) (ea_cons ev_int (ea_cons (ev_lenL (xs := tails_1) (ea_cons (ev_var rfl) ea_nil) rfl) ea_nil)) ?_) 
  have h0 := obind_some h
  clear h
  obtain ⟨⟨low_10, high_11⟩, h_12, h⟩ := h0
  dsimp only at h
  show Ly.Run _ _ [.fz (E (tails_1 : (List Int))), .fz (E (number_2 : Int)), .fz (E ((0 : Int) : Int)), .fz (E ((tails_1.length : Int) : Int)), .un] [] _
  refine run_seq (run_whileN (fun (⟨low_3, high_4⟩ : Int × Int) => [.fz (E (tails_1 : (List Int))), .fz (E (number_2 : Int)), .fz (E (low_3 : Int)), .fz (E (high_4 : Int)), .un]) (fun (⟨low_3, high_4⟩ : Int × Int) => []) h_12 (by exact ⟨(.fz (.fz (.fz (.fz (.un .nil))))), .nil⟩) (fun _ => rfl) (by
      rintro ⟨low_3, high_4⟩ q h
      dsimp only [m_first_not_greater_w1c] at h
      have k0 := Option.some.inj h
      clear h
      subst k0
      exact (et_test (ev_lt (ev_var rfl) (ev_var rfl)))) ?_ ?_)
  · rintro ⟨low_3, high_4⟩ c hq h
    dsimp only [m_first_not_greater_w1] at h
    have h0 := obind_some h
    clear h
    obtain ⟨q_5, h_6, h⟩ := h0
    refine run_seq (run_asg (i := 4) (s := .fz (E (q_5 : Int))) (ev_fdivO (ev_add (ev_var rfl) (ev_var rfl)) ev_int h_6) ?_) 
    have h0 := obind_some h
    clear h
    obtain ⟨t_7, h_8, h⟩ := h0
    refine run_if (et_test (ev_gt (ev_ix (xs := tails_1) (ev_var rfl) (ev_var rfl) rfl h_8) (ev_var rfl))) (fun hb_9 => ?_) (fun hb_9 => ?_)
    · replace h := cond_t hb_9 h
      refine run_asg (i := 2) (s := .fz (E ((q_5 + (1 : Int)) : Int))) (ev_add (ev_var rfl) ev_int) ?_
      cases h
      exact ⟨_, rfl, ⟨(.fz (.fz (.fz (.fz (.un .nil))))), .nil⟩⟩
    · replace h := cond_f hb_9 h
      refine run_asg (i := 3) (s := .fz (E (q_5 : Int))) (ev_var rfl) ?_
      cases h
      exact ⟨_, rfl, ⟨(.fz (.fz (.fz (.fz (.un .nil))))), .nil⟩⟩
  have k0 := Option.some.inj h
  clear h
  subst k0
  exact run_ret (s := .fz (E (low_10 : Int))) (ev_var rfl) ⟨rfl, .nil⟩
theorem ok_lengths_from (T : Tx K mg) : FnOk P w K mg base CX0 2 T.a_lengths_from T.fd_lengths_from ["numbers"] (spR K R_lengths_from) := by
  have G_first_not_greater := ok_first_not_greater (P := P) (w := w) (base := base) T
  refine fn_R (k := 1) T.F_lengths_from sc_lengths_from (fun ρ os r os2 h => by obtain ⟨numbers_1, rfl, rfl, x, h, rfl, rfl⟩ := h; exact ⟨rfl, rfl⟩) fun cdv A outer s H EX hr => ?_
  have nd := sc_lengths_from.nd
  refine ⟨_, pss_cons (ps_set (i := 1) nd rfl (Or.inl rfl) (pe_op op_rep (pe_lst (pa_cons (pe_int) pa_nil)) (pe_callB (call_lenK (K := K) rfl) (by rfl) T.b_len (by decide +kernel) (pa_cons (pv 0) pa_nil)))) (pss_cons (ps_set (i := 2) nd rfl (Or.inl rfl) (pe_lst pa_nil)) (pss_cons (ps_for PassesOwn.never rfl (pi_range3 (by rfl) T.b_range (pa_cons (pe_op op_sub (pe_callB (call_lenK (K := K) rfl) (by rfl) T.b_len (by decide +kernel) (pa_cons (pv 0) pa_nil)) (pe_int)) (pa_cons (pe_un un_neg pe_int) (pa_cons (pe_un un_neg pe_int) pa_nil)))) (pg_name (i := 3) nd rfl (Or.inl rfl)) (pss_cons (ps_set (i := 4) nd rfl (Or.inl rfl) (pe_call G_first_not_greater (hr.mono (by decide)) (by rfl) T.g_first_not_greater T.F_first_not_greater.kp T.B_first_not_greater .nil pass0 (pa_cons (pv 2) (pa_cons (pe_ix (ix_listK (K := K) rfl) (pv 0) (pv 3) (fun _ _ => rfl)) pa_nil)))) (pss_cons (ps_if (pt_cmpR op_eq (pv 4) (pe_callB (call_lenK (K := K) rfl) (by rfl) T.b_len (by decide +kernel) (pa_cons (pv 2) pa_nil)) (nomark _)) (pss_one (ps_expr (pe_bmK (K := K) rfl PySem.F.plainAttrs_list PySem.F.slot_list_append PySem.F.type_list_append mt_append (pv 2) (pa_cons (pe_ix (ix_listK (K := K) rfl) (pv 0) (pv 3) (fun _ _ => rfl)) pa_nil)))) (pss_one (ps_asg (pe_ix (ix_listK (K := K) rfl) (pv 0) (pv 3) (fun _ _ => rfl)) (pg_sub (pv 2) (pv 4) set_list)))) (pss_one (ps_asg (pe_op op_add (pv 4) (pe_int)) (pg_sub (pv 1) (pv 3) set_list)))))) (pss_one (ps_ret (pv 1))))), ?_⟩
  rintro ρ os r os2 ⟨numbers_1, rfl, rfl, x, h, rfl, rfl⟩
  show Ly.Run K _ [.fz (E (numbers_1 : (List Int))), .un, .un, .un, .un] [] _
  unfold m_lengths_from at h
  have h0 := obind_some h
  clear h
  obtain ⟨ys_2, h_3, h⟩ := h0
  refine run_seq (run_asgN (i := 1) (d := E (ys_2 : (List Int))) (en_rep (a := [(0 : Int)]) (en_new (ds := [E ((0 : Int) : Int)]) (ea_cons ev_int ea_nil) (by show 1 ≤ sizeLine; decide)) (ev_lenL (xs := numbers_1) (ea_cons (ev_var rfl) ea_nil) rfl) h_3) ?_) 
  refine run_seq (run_asgN (i := 2) (d := E (([] : (List Int)) : (List Int))) (en_new (ds := []) ea_nil (by show 0 ≤ sizeLine; decide)) ?_) 
  have h0 := obind_some h
  clear h
  obtain ⟨rg_4, h_5, h⟩ := h0
  have h0 := obind_some h
  clear h
  obtain ⟨⟨w_26, w_27⟩, h_28, h⟩ := h0
  dsimp only at h
  show Ly.Run _ _ [.fz (E (numbers_1 : (List Int))), .at 0, .at 1, .un, .un] [.has (E (ys_2 : (List Int))), .has (E (([] : (List Int)) : (List Int)))] _
  refine run_seq (run_forN (fun (⟨s_6, s_7⟩ : (List Int) × (List Int)) => [.fz (E (numbers_1 : (List Int))), .at 0, .at 1, .un, .un]) (fun (⟨s_6, s_7⟩ : (List Int) × (List Int)) => [.has (E (s_6 : (List Int))), .has (E (s_7 : (List Int)))]) (src_rngDO (m := ((numbers_1.length : Int) - (1 : Int))) (n := (-1 : Int)) (ea_cons (ev_sub (ev_lenL (xs := numbers_1) (ea_cons (ev_var rfl) ea_nil) rfl) ev_int) (ea_cons (ev_neg ev_int) (ea_cons (ev_neg ev_int) ea_nil))) h_5) h_28 (by exact ⟨(.fz (.at (by show 0 < 2; decide) (.at (by show 1 < 2; decide) (.un (.un .nil))))), (.has (.has .nil))⟩) (fun _ => rfl) ?_ ?_)
  · rintro at_8 ⟨s_6, s_7⟩ c hx h
    dsimp only [m_lengths_from_l1] at h
    refine ⟨_, _, tgb_name, ?_⟩
    have h0 := obind_some h
    clear h
    obtain ⟨t_9, h_10, h⟩ := h0
    have h0 := obind_some h
    clear h
    obtain ⟨r_11, h_12, h⟩ := h0
    refine run_seq (run_asg (i := 4) (s := .fz (E (r_11 : Int))) (ev_callV (Rl := R_first_not_greater) (ea_cons (ev_var rfl) (ea_cons (ev_ix (xs := numbers_1) (ev_var rfl) (ev_var rfl) rfl h_10) ea_nil)) (.cons rfl (.cons rfl .nil)) ⟨s_7, t_9, rfl, rfl, r_11, h_12, rfl, rfl⟩ rfl) ?_) 
    have h0 := obind_some h
    clear h
    obtain ⟨w_14, h_23, h⟩ := h0
    refine run_join (v := w_14) (fun (w_14 : (List Int)) => [.fz (E (numbers_1 : (List Int))), .at 0, .at 1, .fz (E (at_8 : Int)), .fz (E (r_11 : Int))]) (fun (w_14 : (List Int)) => [.has (E (s_6 : (List Int))), .has (E (w_14 : (List Int)))]) (by show 2 ≤ 2; decide) (run_if (et_test (ev_eqI (ev_var rfl) (ev_lenL (xs := s_7) (ea_cons (ev_var rfl) ea_nil) rfl))) (fun hb_13 => ?_) (fun hb_13 => ?_)) ?_
    · have h := cond_t hb_13 h_23
      have h0 := obind_some h
      clear h
      obtain ⟨t_15, h_16, h⟩ := h0
      have h0 := obind_some h
      clear h
      obtain ⟨tails_17, h_18, h⟩ := h0
      refine run_drop (ev_appO (xs := s_7) (x := t_15) (ev_var rfl) ⟨_, rfl⟩ (ev_ix (xs := numbers_1) (ev_var rfl) (ev_var rfl) rfl h_16) rfl h_18) ?_
      have k0 := Option.some.inj h
      clear h
      subst k0
      exact ⟨(.fz (.at (by show 0 < 2; decide) (.at (by show 1 < 2; decide) (.fz (.fz .nil))))), (.has (.has .nil))⟩
    · have h := cond_f hb_13 h_23
      have h0 := obind_some h
      clear h
      obtain ⟨t_19, h_20, h⟩ := h0
      have h0 := obind_some h
      clear h
      obtain ⟨tails_21, h_22, h⟩ := h0
      refine run_setO (xs := s_7) (x := t_19) (ev_ix (xs := numbers_1) (ev_var rfl) (ev_var rfl) rfl h_20) (ev_var rfl) (ev_var rfl) rfl h_22 ?_
      have k0 := Option.some.inj h
      clear h
      subst k0
      exact ⟨(.fz (.at (by show 0 < 2; decide) (.at (by show 1 < 2; decide) (.fz (.fz .nil))))), (.has (.has .nil))⟩
    have h0 := obind_some h
    clear h
    obtain ⟨found_24, h_25, h⟩ := h0
    refine run_setO (xs := s_6) (x := (r_11 + (1 : Int))) (ev_add (ev_var rfl) ev_int) (ev_var rfl) (ev_var rfl) rfl h_25 ?_
    cases h
    exact ⟨_, rfl, ⟨(.fz (.at (by show 0 < 2; decide) (.at (by show 1 < 2; decide) (.un (.un .nil))))), (.has (.has .nil))⟩⟩
  have k0 := Option.some.inj h
  clear h
  subst k0
  exact run_ret (s := .at 0) (ev_var rfl) ⟨(by show 0 ≤ 0; decide), rfl, .nil⟩
theorem ok_rising_places (T : Tx K mg) : FnOk P w K mg base CX0 3 T.a_rising_places T.fd_rising_places ["numbers"] (spR K R_rising_places) := by
  have G_lengths_from := ok_lengths_from (P := P) (w := w) (base := base) T
  refine fn_R (k := 2) T.F_rising_places sc_rising_places (fun ρ os r os2 h => by obtain ⟨numbers_1, rfl, rfl, x, h, rfl, rfl⟩ := h; exact ⟨rfl, rfl⟩) fun cdv A outer s H EX hr => ?_
  have nd := sc_rising_places.nd
  refine ⟨_, pss_cons (ps_set (i := 1) nd rfl (Or.inl rfl) (pe_call G_lengths_from (hr.mono (by decide)) (by rfl) T.g_lengths_from T.F_lengths_from.kp T.B_lengths_from .nil pass0 (pa_cons (pv 0) pa_nil))) (pss_cons (ps_set (i := 2) nd rfl (Or.inl rfl) (pe_callBK (call_maxD rfl (K := K) rfl hr.units) (by rfl) T.b_max (by decide +kernel) (pa_cons (pv 1) pa_nil) (pk_cons (pe_int) pk_nil))) (pss_cons (ps_set (i := 3) nd rfl (Or.inl rfl) (pe_lst pa_nil)) (pss_cons (ps_for PassesOwn.never rfl (pi_enumK (K := K) rfl (by rfl) T.b_enumerate (pa_cons (pv 0) pa_nil)) (pg_tupK (K := K) rfl rfl (pgs_cons (pg_name (i := 4) nd rfl (Or.inl rfl)) (pgs_cons (pg_name (i := 5) nd rfl (Or.inl rfl)) pgs_nil))) (pss_one (ps_if (PW.pt (pw_and (pt_cmpR op_eq (pe_ix (ix_listK (K := K) rfl) (pv 1) (pv 4) (fun _ _ => rfl)) (pv 2) (nomark _)) (pw_and (pt_cmpR op_gt (pv 2) (pe_int) (nomark _)) (pw_and1 (PW.pt (pw_or (pt_cmpR op_eq (pe_callB (call_lenK (K := K) rfl) (by rfl) T.b_len (by decide +kernel) (pa_cons (pv 3) pa_nil)) (pe_int) (nomark _)) (pw_or1 (pt_cmpR op_lt (pe_ix (ix_listK (K := K) rfl) (pv 0) (pe_ix (ix_listK (K := K) rfl) (pv 3) (pe_un un_neg pe_int) (fun _ _ => rfl)) (fun _ _ => rfl)) (pv 5) (nomark _))))))))) (pss_cons (ps_expr (pe_bmK (K := K) rfl PySem.F.plainAttrs_list PySem.F.slot_list_append PySem.F.type_list_append mt_append (pv 3) (pa_cons (pv 4) pa_nil))) (pss_one (ps_aug (i := 2) nd rfl (Or.inl rfl) (pe_int) ip_sub))) (pss_nil)))) (pss_one (ps_ret (pv 3)))))), ?_⟩
  rintro ρ os r os2 ⟨numbers_1, rfl, rfl, x, h, rfl, rfl⟩
  show Ly.Run K _ [.fz (E (numbers_1 : (List Int))), .un, .un, .un, .un, .un] [] _
  unfold m_rising_places at h
  have h0 := obind_some h
  clear h
  obtain ⟨r_2, h_3, h⟩ := h0
  refine run_seq (run_asg (i := 1) (s := .fz (E (r_2 : (List Int)))) (ev_frz (en_call (Rl := R_lengths_from) (ds := [E (numbers_1 : (List Int))]) (ea_cons (ev_var rfl) ea_nil) ⟨numbers_1, rfl, rfl, r_2, h_3, rfl, rfl⟩)) ?_) 
  refine run_seq (run_asg (i := 2) (s := .fz (E ((maxDL r_2 (0 : Int)) : Int))) (ev_maxD (is := r_2) (z := (0 : Int)) (ea_cons (ev_var rfl) ea_nil) (ea_cons ev_int ea_nil) rfl) ?_) 
  refine run_seq (run_asgN (i := 3) (d := E (([] : (List Int)) : (List Int))) (en_new (ds := []) ea_nil (by show 0 ≤ sizeLine; decide)) ?_) 
  have h0 := obind_some h
  clear h
  obtain ⟨⟨left_26, w_27⟩, h_28, h⟩ := h0
  dsimp only at h
  show Ly.Run _ _ [.fz (E (numbers_1 : (List Int))), .fz (E (r_2 : (List Int))), .fz (E ((maxDL r_2 (0 : Int)) : Int)), .at 0, .un, .un] [.has (E (([] : (List Int)) : (List Int)))] _
  refine run_seq (run_forN (fun (⟨left_4, s_5⟩ : Int × (List Int)) => [.fz (E (numbers_1 : (List Int))), .fz (E (r_2 : (List Int))), .fz (E (left_4 : Int)), .at 0, .un, .un]) (fun (⟨left_4, s_5⟩ : Int × (List Int)) => [.has (E (s_5 : (List Int)))]) (src_enum (xs := numbers_1) (ev_var rfl)) h_28 (by exact ⟨(.fz (.fz (.fz (.at (by show 0 < 1; decide) (.un (.un .nil)))))), (.has .nil)⟩) (fun _ => rfl) ?_ ?_)
  · rintro ⟨at_6, number_7⟩ ⟨left_4, s_5⟩ c hx h
    dsimp only [m_rising_places_l1] at h
    refine ⟨_, _, (tgb_tup (tgbs_cons tgb_name (tgbs_cons tgb_name tgbs_nil)) rfl), ?_⟩
    have h0 := obind_some h
    clear h
    obtain ⟨t_8, h_9, h⟩ := h0
    have h0 := obind_some h
    clear h
    obtain ⟨b_20, h_21, h⟩ := h0
    refine run_if (et_and (b := b_20) (os2 := [.has (E (s_5 : (List Int)))]) (et_test (ev_eqI (ev_ix (xs := r_2) (ev_var rfl) (ev_var rfl) rfl h_9) (ev_var rfl))) (fun hb_22 => by have h := cond_t hb_22 h_21; have h0 := obind_some h; clear h; obtain ⟨b_17, h_18, h⟩ := h0; have k0 := Option.some.inj h; clear h; subst k0; exact (et_and (b := b_17) (os2 := [.has (E (s_5 : (List Int)))]) (et_test (ev_gt (ev_var rfl) ev_int)) (fun hb_19 => by have h := cond_t hb_19 h_18; have h0 := obind_some h; clear h; obtain ⟨b_14, h_15, h⟩ := h0; have k0 := Option.some.inj h; clear h; subst k0; exact (et_or (b := b_14) (os2 := [.has (E (s_5 : (List Int)))]) (et_test (ev_eqI (ev_lenL (xs := s_5) (ea_cons (ev_var rfl) ea_nil) rfl) ev_int)) (fun hb_16 => by have h := cond_f hb_16 h_15; have h0 := obind_some h; clear h; obtain ⟨t_10, h_11, h⟩ := h0; have h0 := obind_some h; clear h; obtain ⟨t_12, h_13, h⟩ := h0; have k0 := Option.some.inj h; clear h; subst k0; exact (et_test (ev_lt (ev_ix (xs := numbers_1) (ev_var rfl) (ev_ix (xs := s_5) (ev_var rfl) (ev_neg ev_int) rfl h_11) rfl h_13) (ev_var rfl)))) (fun hb_16 => by have h := cond_t hb_16 h_15; have k0 := Option.some.inj h; clear h; subst k0; exact ⟨rfl, rfl⟩))) (fun hb_19 => by have h := cond_f hb_19 h_18; have k0 := Option.some.inj h; clear h; subst k0; exact ⟨rfl, rfl⟩))) (fun hb_22 => by have h := cond_f hb_22 h_21; have k0 := Option.some.inj h; clear h; subst k0; exact ⟨rfl, rfl⟩)) (fun hb_23 => ?_) (fun hb_23 => ?_)
    · replace h := cond_t hb_23 h
      have h0 := obind_some h
      clear h
      obtain ⟨found_24, h_25, h⟩ := h0
      refine run_seq (run_drop (ev_appO (xs := s_5) (x := at_6) (ev_var rfl) ⟨_, rfl⟩ (ev_var rfl) rfl h_25) ?_) 
      refine run_augSub (i := 2) (a := left_4) rfl ev_int ?_
      cases h
      exact ⟨_, rfl, ⟨(.fz (.fz (.fz (.at (by show 0 < 1; decide) (.un (.un .nil)))))), (.has .nil)⟩⟩
    · replace h := cond_f hb_23 h
      refine run_next ?_
      cases h
      exact ⟨_, rfl, ⟨(.fz (.fz (.fz (.at (by show 0 < 1; decide) (.un (.un .nil)))))), (.has .nil)⟩⟩
  have k0 := Option.some.inj h
  clear h
  subst k0
  exact run_ret (s := .at 0) (ev_var rfl) ⟨(by show 0 ≤ 0; decide), rfl, .nil⟩
theorem ok_kept_row (T : Tx K mg) : FnOk P w K mg base (L2N.CX P w) 4 T.a_kept_row T.fd_kept_row ["numbers"] (spR K (R_kept_row T.cl)) := by
  have G_is_integer := ok_is_integer (P := P) (w := w) (base := base) T
  have G_rising_places := ok_rising_places (P := P) (w := w) (base := base) T
  refine fn_RX (k := 3) T.F_kept_row sc_kept_row (fun ρ os r os2 h => by obtain ⟨numbers_1, rfl, rfl, o, h, hO⟩ := h; cases o <;> (obtain ⟨rfl, rfl⟩ := hO; exact ⟨rfl, rfl⟩)) fun cdv A outer s H EX hr => ?_
  have nd := sc_kept_row.nd
  refine ⟨_, pss_cons (ps_if (PW.pt (pw_or (pt_not (pt_val (pe_callB (call_isK (K := K) rfl) (by rfl) T.b_isinstance (by decide +kernel) (pa_cons (pv 0) (pa_cons (pe_bltn (v := .ty "list") (by rfl) T.b_list (by decide +kernel) rfl) pa_nil))))) (pw_or1 (pt_not (pt_val (pe_callB (call_allK rfl (K := K) rfl) (by rfl) T.b_all (by decide +kernel) (pa_cons (pe_lc (own := [("one", 1)]) rfl nd (pi_listK (K := K) rfl (pv 0)) (blkOk_by (own := [("one", 1)]) (N := ["numbers", "one"]) (sc := defScope s_kept_row) (by decide +kernel)) (fun _ _ _ _ _ => pg_name (i := 1) nd rfl (Or.inl rfl)) (fun _ _ _ _ _ => pts_nil) (fun _ _ _ _ _ => pe_call G_is_integer (hr.mono (by decide)) (by rfl) T.g_is_integer T.F_is_integer.kp T.B_is_integer .nil pass0 (pa_cons (pv 1) pa_nil))) pa_nil))))))) (pss_one (L2N.ps_raise rfl (L2N.takes_of rfl rfl rfl rfl) (pmkN T.oc_BadValue T.ini_BadValue T.ti_BadValue (ok_init_BadValue T) (hr.mono (by decide)) T.BI_BadValue pass0 (by rfl) T.g_BadValue (pa_cons (pe_str) pa_nil)))) (pss_nil)) (pss_cons (ps_if (pt_cmpR op_lt (pe_callB (call_lenA (K := K) rfl) (by rfl) T.b_len (by decide +kernel) (pa_cons (pe_dc (own := [("one", 1)]) rfl nd (pi_listK (K := K) rfl (pv 0)) (blkOk_by (own := [("one", 1)]) (N := ["numbers", "one"]) (sc := defScope s_kept_row) (by decide +kernel)) (fun _ _ _ _ _ => pg_name (i := 1) nd rfl (Or.inl rfl)) (fun _ _ _ _ _ => pts_nil) (fun _ _ _ _ _ => pv 1) (fun _ _ _ _ _ => pe_bl)) pa_nil)) (pe_callB (call_lenA (K := K) rfl) (by rfl) T.b_len (by decide +kernel) (pa_cons (pv 0) pa_nil)) (nomark _)) (pss_one (L2N.ps_raise rfl (L2N.takes_of rfl rfl rfl rfl) (pmkN T.oc_BadValue T.ini_BadValue T.ti_BadValue (ok_init_BadValue T) (hr.mono (by decide)) T.BI_BadValue pass0 (by rfl) T.g_BadValue (pa_cons (pe_str) pa_nil)))) (pss_nil)) (pss_one (ps_ret (pe_call G_rising_places (hr.mono (by decide)) (by rfl) T.g_rising_places T.F_rising_places.kp T.B_rising_places .nil pass0 (pa_cons (pv 0) pa_nil))))), ?_⟩
  rintro ρ os r os2 ⟨numbers_1, rfl, rfl, o, h, hO⟩
  show Ly.Run K _ [.fz (E (numbers_1 : D)), .un] [] _
  unfold m_kept_row at h
  have h0 := obind_some h
  clear h
  obtain ⟨b_2, h_3, h⟩ := h0
  have h0 := obind_some h
  clear h
  obtain ⟨b_12, h_13, h⟩ := h0
  refine run_seq (run_if (et_or (b := b_12) (os2 := []) (et_not (et_B (ev_isiD (ea_cons (ev_var rfl) (ea_cons ev_ty ea_nil)) h_3))) (fun hb_14 => by have h := cond_f hb_14 h_13; have h0 := obind_some h; clear h; obtain ⟨ds_4, h_5, h⟩ := h0; have h0 := obind_some h; clear h; obtain ⟨⟨ys_9, u_10⟩, h_11, h⟩ := h0; dsimp only at h; have k0 := Option.some.inj h; clear h; subst k0; exact (et_not (et_B (ev_all (ea_cons (ev_frz (en_lc (osh := fun (_ : Unit) => []) (src_dLst (ev_var rfl) h_5) h_11 rfl (by
      rintro one_6 _u y s2 hx h
      dsimp only [m_kept_row_c1] at h
      have h0 := obind_some h
      clear h
      obtain ⟨r_7, h_8, h⟩ := h0
      have k0 := Option.some.inj h
      clear h
      have k0p := Prod.mk.inj k0
      clear k0
      obtain ⟨e0, k1⟩ := k0p
      subst e0
      subst k1
      exact ⟨_, _, tgb_name, by decide, true, _, (fun R F ps σ H Q I q => q F H (Ex.refl F) I), fun _ => ⟨_, rfl, (ev_call (Rl := R_is_integer) (ds := [E (one_6 : D)]) (ea_cons (ev_var rfl) ea_nil) ⟨one_6, rfl, rfl, r_7, h_8, rfl, rfl⟩)⟩, fun z => nomatch z⟩))) ea_nil) rfl)))) (fun hb_14 => by have h := cond_t hb_14 h_13; have k0 := Option.some.inj h; clear h; subst k0; exact ⟨rfl, rfl⟩)) (fun hb_15 => ?_) (fun hb_15 => ?_))
  · replace h := cond_t hb_15 h
    have k0 := Option.some.inj h
    clear h
    subst k0
    obtain ⟨rfl, rfl⟩ := hO
    exact run_raise1 (ea_cons ev_str ea_nil) rfl ⟨rfl, rfl, .nil⟩
  · replace h := cond_f hb_15 h
    refine run_next ?_
    have h0 := obind_some h
    clear h
    obtain ⟨ds_16, h_17, h⟩ := h0
    have h0 := obind_some h
    clear h
    obtain ⟨ys_21, h_22, h⟩ := h0
    have h0 := obind_some h
    clear h
    obtain ⟨n_23, h_24, h⟩ := h0
    refine run_seq (run_if (et_test (ev_lt (ev_lenK (l := (⟨ys_21⟩ : (Dct Bool)).l) (ea_cons (ev_frz (en_dcK (src_dLst (ev_var rfl) h_17) h_22 (by
      rintro one_18 y hx h
      dsimp only [m_kept_row_c2] at h
      have h0 := obind_some h
      clear h
      obtain ⟨k_19, h_20, h⟩ := h0
      have k0 := Option.some.inj h
      clear h
      subst k0
      exact ⟨_, _, tgb_name, by decide, true, (fun R F ps σ H Q I q => q F H (Ex.refl F) I), fun _ => ⟨_, _, rfl, (ev_keyD (ev_var rfl) h_20), ev_bl⟩, fun z => nomatch z⟩))) ea_nil) rfl) (ev_lenA (ea_cons (ev_var rfl) ea_nil) rfl h_24))) (fun hb_25 => ?_) (fun hb_25 => ?_))
    · replace h := cond_t hb_25 h
      have k0 := Option.some.inj h
      clear h
      subst k0
      obtain ⟨rfl, rfl⟩ := hO
      exact run_raise1 (ea_cons ev_str ea_nil) rfl ⟨rfl, rfl, .nil⟩
    · replace h := cond_f hb_25 h
      refine run_next ?_
      have h0 := obind_some h
      clear h
      obtain ⟨ns_26, h_27, h⟩ := h0
      have h0 := obind_some h
      clear h
      obtain ⟨r_28, h_29, h⟩ := h0
      have k0 := Option.some.inj h
      clear h
      subst k0
      obtain ⟨rfl, rfl⟩ := hO
      exact run_retN (en_call (Rl := R_rising_places) (ds := [E (ns_26 : (List Int))]) (ea_cons (ev_is (ev_var rfl) (dLI_eq h_27)) ea_nil) ⟨ns_26, rfl, rfl, r_28, h_29, rfl, rfl⟩) ⟨(by show 0 ≤ 0; decide), rfl, .nil⟩
theorem ok_law_stream (T : Tx K mg) : FnOk P w K mg base CX0 1 T.a__law_stream T.fd__law_stream ["script"] (spR K R_law_stream) := by
  refine fn_R (k := 0) T.F__law_stream sc__law_stream (fun ρ os r os2 h => by obtain ⟨script_1, rfl, rfl, x, h, rfl, rfl⟩ := h; exact ⟨rfl, rfl⟩) fun cdv A outer s H EX hr => ?_
  have nd := sc__law_stream.nd
  refine ⟨_, pss_one (ps_ret (pe_lst (pa_cons (pe_callTy (call_listK (K := K) rfl) (by rfl) T.b_list (by decide +kernel) (pa_cons (pv 0) pa_nil)) (pa_cons (pe_int) (pa_cons (pe_int) pa_nil))))), ?_⟩
  rintro ρ os r os2 ⟨script_1, rfl, rfl, x, h, rfl, rfl⟩
  show Ly.Run K _ [.fz (E (script_1 : (List Int)))] [] _
  unfold m_law_stream at h
  have k0 := Option.some.inj h
  clear h
  subst k0
  exact run_retN (en_new (ds := [E (script_1 : (List Int)), E ((0 : Int) : Int), E ((0 : Int) : Int)]) (ea_cons (ev_frz (en_list (ea_cons (ev_var rfl) ea_nil) (.inl rfl))) (ea_cons ev_int (ea_cons ev_int ea_nil))) (by show 3 ≤ sizeLine; decide)) ⟨(by show 0 ≤ 0; decide), rfl, .nil⟩
theorem ok_law_next (T : Tx K mg) : FnOk P w K mg base CX0 1 T.a__law_next T.fd__law_next ["stream", "many"] (spR K R_law_next) := by
  refine fn_R (k := 0) T.F__law_next sc__law_next (fun ρ os r os2 h => by obtain ⟨stream_1, many_2, rfl, rfl, x, s0, h, rfl, rfl⟩ := h; exact ⟨rfl, rfl⟩) fun cdv A outer s H EX hr => ?_
  have nd := sc__law_next.nd
  refine ⟨_, pss_cons (ps_if (pt_cmpR op_eq (pe_ix (ix_listK (K := K) rfl) (pv 0) (pe_int) (fun _ _ => rfl)) (pe_int) (nomark _)) (pss_cons (ps_set (i := 3) nd rfl (Or.inl rfl) (pe_ix (ix_listK (K := K) rfl) (pv 0) (pe_int) (fun _ _ => rfl))) (pss_cons (ps_set (i := 4) nd rfl (Or.inl rfl) (pe_op op_add (pe_int) (pv 3))) (pss_cons (ps_if (pt_cmpR op_lt (pv 3) (pe_callB (call_lenK (K := K) rfl) (by rfl) T.b_len (by decide +kernel) (pa_cons (pe_ix (ix_listK (K := K) rfl) (pv 0) (pe_int) (fun _ _ => rfl)) pa_nil)) (nomark _)) (pss_one (ps_set (i := 4) nd rfl (Or.inl rfl) (pe_op op_modN (pe_callTy call_int1 (by rfl) T.b_int (by decide +kernel) (pa_cons (pe_callB call_abs (by rfl) T.b_abs (by decide +kernel) (pa_cons (pe_ix (ix_listK (K := K) rfl) (pe_ix (ix_listK (K := K) rfl) (pv 0) (pe_int) (fun _ _ => rfl)) (pv 3) (fun _ _ => rfl)) pa_nil)) pa_nil)) (pe_op op_mulW (pe_op op_mulW (pe_op op_pow (pe_int) (pe_int)) (pe_op op_pow (pe_int) (pe_int))) (pe_op op_pow (pe_int) (pe_int)))))) (pss_nil)) (pss_cons (ps_if (pt_cmpR op_lt (pv 4) (pe_op op_pow (pe_int) (pe_int)) (nomark _)) (pss_cons (ps_set (i := 4) nd rfl (Or.inl rfl) (pe_op op_modN (pe_callTy call_int1 (by rfl) T.b_int (by decide +kernel) (pa_cons (pe_op op_add (pe_op op_add (pe_op op_mulW (pv 4) (pe_int)) (pe_op op_mulW (pv 3) (pe_int))) (pe_int)) pa_nil)) (pe_int))) (pss_one (ps_set (i := 4) nd rfl (Or.inl rfl) (pe_op op_add (pe_op op_mulW (pe_op op_modN (pe_callTy call_int1 (by rfl) T.b_int (by decide +kernel) (pa_cons (pe_op op_add (pe_op op_mulW (pv 4) (pe_int)) (pe_int)) pa_nil)) (pe_int)) (pe_int)) (pv 4))))) (pss_nil)) (pss_cons (ps_asg (pv 4) (pg_sub (pv 0) (pe_int) set_list)) (pss_one (ps_asg (pe_op op_add (pv 3) (pe_int)) (pg_sub (pv 0) (pe_int) set_list)))))))) (pss_nil)) (pss_cons (ps_set (i := 2) nd rfl (Or.inl rfl) (pe_op op_modN (pe_callTy call_int1 (by rfl) T.b_int (by decide +kernel) (pa_cons (pe_ix (ix_listK (K := K) rfl) (pv 0) (pe_int) (fun _ _ => rfl)) pa_nil)) (pv 1))) (pss_cons (ps_asg (pe_op op_fdivN (pe_ix (ix_listK (K := K) rfl) (pv 0) (pe_int) (fun _ _ => rfl)) (pv 1)) (pg_sub (pv 0) (pe_int) set_list)) (pss_one (ps_ret (pv 2))))), ?_⟩
  rintro ρ os r os2 ⟨stream_1, many_2, rfl, rfl, x, s0, h, rfl, rfl⟩
  show Ly.Run K _ [.at 0, .fz (E (many_2 : Int)), .un, .un, .un] [.has (E (stream_1 : (LH3 (List Int) Int Int)))] _
  unfold m_law_next at h
  have h0 := obind_some h
  clear h
  obtain ⟨w_4, h_27, h⟩ := h0
  refine run_join (v := w_4) (fun (w_4 : (LH3 (List Int) Int Int)) => [.at 0, .fz (E (many_2 : Int)), .un, .un, .un]) (fun (w_4 : (LH3 (List Int) Int Int)) => [.has (E (w_4 : (LH3 (List Int) Int Int)))]) (by show 1 ≤ 1; decide) (run_if (et_test (ev_eqI (ev_ixL (ds := [E (stream_1.a : (List Int)), E (stream_1.b : Int), E (stream_1.c : Int)]) (d := E (stream_1.b : Int)) (ev_var rfl) ev_int rfl rfl) ev_int)) (fun hb_3 => ?_) (fun hb_3 => ?_)) ?_
  · have h := cond_t hb_3 h_27
    refine run_seq (run_asg (i := 3) (s := .fz (E (stream_1.c : Int))) (ev_ixL (ds := [E (stream_1.a : (List Int)), E (stream_1.b : Int), E (stream_1.c : Int)]) (d := E (stream_1.c : Int)) (ev_var rfl) ev_int rfl rfl) ?_) 
    refine run_seq (run_asg (i := 4) (s := .fz (E (((7 : Int) + stream_1.c) : Int))) (ev_add ev_int (ev_var rfl)) ?_) 
    have h0 := obind_some h
    clear h
    obtain ⟨cell_6, h_11, h⟩ := h0
    refine run_join (v := cell_6) (fun (cell_6 : Int) => [.at 0, .fz (E (many_2 : Int)), .un, .fz (E (stream_1.c : Int)), .fz (E (cell_6 : Int))]) (fun (cell_6 : Int) => [.has (E (stream_1 : (LH3 (List Int) Int Int)))]) (by show 1 ≤ 1; decide) (run_if (et_test (ev_lt (ev_var rfl) (ev_lenL (xs := stream_1.a) (ea_cons (ev_ixL (ds := [E (stream_1.a : (List Int)), E (stream_1.b : Int), E (stream_1.c : Int)]) (d := E (stream_1.a : (List Int))) (ev_var rfl) ev_int rfl rfl) ea_nil) rfl))) (fun hb_5 => ?_) (fun hb_5 => ?_)) ?_
    · have h := cond_t hb_5 h_11
      have h0 := obind_some h
      clear h
      obtain ⟨t_7, h_8, h⟩ := h0
      have h0 := obind_some h
      clear h
      obtain ⟨q_9, h_10, h⟩ := h0
      refine run_asg (i := 4) (s := .fz (E (q_9 : Int))) (ev_modO (ev_int1 (ea_cons (ev_abs (ea_cons (ev_ix (xs := stream_1.a) (ev_ixL (ds := [E (stream_1.a : (List Int)), E (stream_1.b : Int), E (stream_1.c : Int)]) (d := E (stream_1.a : (List Int))) (ev_var rfl) ev_int rfl rfl) (ev_var rfl) rfl h_8) ea_nil)) ea_nil)) (ev_isI (j := 1000000000000000000000000000000000000000000000000000000000000000000000000000000000000000000000000000000000000000000000000000000000000000000000000000000000000000000000000000000000000000000000000) (ev_mulW (ev_isI (j := 100000000000000000000000000000000000000000000000000000000000000000000000000000000000000000000000000000000000000000000000000000000) (ev_mulW (ev_isI (j := 10000000000000000000000000000000000000000000000000000000000000000) (ev_pow ev_int ev_int (by unfold CPow; decide)) (by decide +kernel)) (ev_isI (j := 10000000000000000000000000000000000000000000000000000000000000000) (ev_pow ev_int ev_int (by unfold CPow; decide)) (by decide +kernel)) (by unfold CMulW; decide +kernel)) (by decide +kernel)) (ev_isI (j := 10000000000000000000000000000000000000000000000000000000000000000) (ev_pow ev_int ev_int (by unfold CPow; decide)) (by decide +kernel)) (by unfold CMulW; decide +kernel)) (by decide +kernel)) h_10) ?_
      have k0 := Option.some.inj h
      clear h
      subst k0
      exact ⟨(.at (by show 0 < 1; decide) (.fz (.un (.fz (.fz .nil))))), (.has .nil)⟩
    · have h := cond_f hb_5 h_11
      refine run_next ?_
      have k0 := Option.some.inj h
      clear h
      subst k0
      exact ⟨(.at (by show 0 < 1; decide) (.fz (.un (.fz (.fz .nil))))), (.has .nil)⟩
    have h0 := obind_some h
    clear h
    obtain ⟨cell_13, h_26, h⟩ := h0
    refine run_join (v := cell_13) (fun (cell_13 : Int) => [.at 0, .fz (E (many_2 : Int)), .un, .fz (E (stream_1.c : Int)), .fz (E (cell_13 : Int))]) (fun (cell_13 : Int) => [.has (E (stream_1 : (LH3 (List Int) Int Int)))]) (by show 1 ≤ 1; decide) (run_if (et_test (ev_lt (ev_var rfl) (ev_isI (j := 1000000000000000000) (ev_pow ev_int ev_int (by unfold CPow; decide)) (by decide +kernel)))) (fun hb_12 => ?_) (fun hb_12 => ?_)) ?_
    · have h := cond_t hb_12 h_26
      have h0 := obind_some h
      clear h
      obtain ⟨q_14, h_15, h⟩ := h0
      have h0 := obind_some h
      clear h
      obtain ⟨q_16, h_17, h⟩ := h0
      have h0 := obind_some h
      clear h
      obtain ⟨q_18, h_19, h⟩ := h0
      refine run_seq (run_asg (i := 4) (s := .fz (E (q_18 : Int))) (ev_modO (ev_int1 (ea_cons (ev_add (ev_add (ev_mulO (ev_var rfl) ev_int h_15) (ev_mulO (ev_var rfl) ev_int h_17)) ev_int) ea_nil)) ev_int h_19) ?_) 
      have h0 := obind_some h
      clear h
      obtain ⟨q_20, h_21, h⟩ := h0
      have h0 := obind_some h
      clear h
      obtain ⟨q_22, h_23, h⟩ := h0
      have h0 := obind_some h
      clear h
      obtain ⟨q_24, h_25, h⟩ := h0
      refine run_asg (i := 4) (s := .fz (E ((q_24 + q_18) : Int))) (ev_add (ev_mulO (ev_modO (ev_int1 (ea_cons (ev_add (ev_mulO (ev_var rfl) ev_int h_21) ev_int) ea_nil)) ev_int h_23) ev_int h_25) (ev_var rfl)) ?_
      have k0 := Option.some.inj h
      clear h
      subst k0
      exact ⟨(.at (by show 0 < 1; decide) (.fz (.un (.fz (.fz .nil))))), (.has .nil)⟩
    · have h := cond_f hb_12 h_26
      refine run_next ?_
      have k0 := Option.some.inj h
      clear h
      subst k0
      exact ⟨(.at (by show 0 < 1; decide) (.fz (.un (.fz (.fz .nil))))), (.has .nil)⟩
    refine run_seq (run_setD (ds := [E (stream_1.a : (List Int)), E (stream_1.b : Int), E (stream_1.c : Int)]) (d := E (cell_13 : Int)) (j := 1) (ev_var rfl) (ev_var rfl) ev_int rfl rfl ?_) 
    refine run_setD (ds := [E ((⟨stream_1.a, cell_13, stream_1.c⟩ : (LH3 (List Int) Int Int)).a : (List Int)), E ((⟨stream_1.a, cell_13, stream_1.c⟩ : (LH3 (List Int) Int Int)).b : Int), E ((⟨stream_1.a, cell_13, stream_1.c⟩ : (LH3 (List Int) Int Int)).c : Int)]) (d := E ((stream_1.c + (1 : Int)) : Int)) (j := 2) (ev_add (ev_var rfl) ev_int) (ev_var rfl) ev_int rfl rfl ?_
    have k0 := Option.some.inj h
    clear h
    subst k0
    exact ⟨(.at (by show 0 < 1; decide) (.fz (.un (.un (.un .nil))))), (.has .nil)⟩
  · have h := cond_f hb_3 h_27
    refine run_next ?_
    have k0 := Option.some.inj h
    clear h
    subst k0
    exact ⟨(.at (by show 0 < 1; decide) (.fz (.un (.un (.un .nil))))), (.has .nil)⟩
  have h0 := obind_some h
  clear h
  obtain ⟨q_28, h_29, h⟩ := h0
  refine run_seq (run_asg (i := 2) (s := .fz (E (q_28 : Int))) (ev_modO (ev_int1 (ea_cons (ev_ixL (ds := [E (w_4.a : (List Int)), E (w_4.b : Int), E (w_4.c : Int)]) (d := E (w_4.b : Int)) (ev_var rfl) ev_int rfl rfl) ea_nil)) (ev_var rfl) h_29) ?_) 
  have h0 := obind_some h
  clear h
  obtain ⟨q_30, h_31, h⟩ := h0
  refine run_seq (run_setD (ds := [E (w_4.a : (List Int)), E (w_4.b : Int), E (w_4.c : Int)]) (d := E (q_30 : Int)) (j := 1) (ev_fdivO (ev_ixL (ds := [E (w_4.a : (List Int)), E (w_4.b : Int), E (w_4.c : Int)]) (d := E (w_4.b : Int)) (ev_var rfl) ev_int rfl rfl) (ev_var rfl) h_31) (ev_var rfl) ev_int rfl rfl ?_) 
  have k0 := Option.some.inj h
  clear h
  have k0p := Prod.mk.inj k0
  clear k0
  obtain ⟨e0, k1⟩ := k0p
  subst e0
  subst k1
  exact run_ret (s := .fz (E (q_28 : Int))) (ev_var rfl) ⟨rfl, (.has .nil)⟩
theorem ok_law_pick (T : Tx K mg) : FnOk P w K mg base CX0 2 T.a__law_pick T.fd__law_pick ["stream", "rows"] (spR K R_law_pick) := by
  have G__law_next := ok_law_next (P := P) (w := w) (base := base) T
  refine fn_R (k := 1) T.F__law_pick sc__law_pick (fun ρ os r os2 h => by obtain ⟨α, instα, stream_1, rows_2, rfl, rfl, x, s0, h, rfl, rfl⟩ := h; exact ⟨rfl, rfl⟩) fun cdv A outer s H EX hr => ?_
  have nd := sc__law_pick.nd
  refine ⟨_, pss_one (ps_ret (pe_ix (ix_seqK (K := K) rfl) (pv 1) (pe_call G__law_next (hr.mono (by decide)) (by rfl) T.g__law_next T.F__law_next.kp T.B__law_next .nil pass0 (pa_cons (pv 0) (pa_cons (pe_callB (call_lenK (K := K) rfl) (by rfl) T.b_len (by decide +kernel) (pa_cons (pv 1) pa_nil)) pa_nil))) (fun _ _ => rfl))), ?_⟩
  rintro ρ os r os2 ⟨α, instα, stream_1, rows_2, rfl, rfl, x, s0, h, rfl, rfl⟩
  show Ly.Run K _ [.at 0, .fz (E (rows_2 : (Sq α)))] [.has (E (stream_1 : (LH3 (List Int) Int Int)))] _
  unfold m_law_pick at h
  have h0 := obind_some h
  clear h
  obtain ⟨⟨r_3, w_4⟩, h_5, h⟩ := h0
  dsimp only at h
  have h0 := obind_some h
  clear h
  obtain ⟨t_6, h_7, h⟩ := h0
  have k0 := Option.some.inj h
  clear h
  have k0p := Prod.mk.inj k0
  clear k0
  obtain ⟨e0, k1⟩ := k0p
  subst e0
  subst k1
  exact run_ret (s := .fz (E (t_6 : α))) (ev_ixSq (xs := rows_2) (ev_var rfl) (ev_call1 (Rl := R_law_next) (n := 0) (ea_cons (ev_var rfl) (ea_cons (ev_lenSq (xs := rows_2) (ea_cons (ev_var rfl) ea_nil) rfl) ea_nil)) rfl ⟨stream_1, (rows_2.v.length : Int), rfl, rfl, r_3, w_4, h_5, rfl, rfl⟩) rfl h_7) ⟨rfl, (.has .nil)⟩
theorem ok_law_from (T : Tx K mg) : FnOk P w K mg base CX0 2 T.a__law_from T.fd__law_from ["stream", "low", "high"] (spR K R_law_from) := by
  have G__law_next := ok_law_next (P := P) (w := w) (base := base) T
  refine fn_R (k := 1) T.F__law_from sc__law_from (fun ρ os r os2 h => by obtain ⟨stream_1, low_2, high_3, rfl, rfl, x, s0, h, rfl, rfl⟩ := h; exact ⟨rfl, rfl⟩) fun cdv A outer s H EX hr => ?_
  have nd := sc__law_from.nd
  refine ⟨_, pss_one (ps_ret (pe_op op_add (pv 1) (pe_call G__law_next (hr.mono (by decide)) (by rfl) T.g__law_next T.F__law_next.kp T.B__law_next .nil pass0 (pa_cons (pv 0) (pa_cons (pe_op op_add (pe_op op_sub (pv 2) (pv 1)) (pe_int)) pa_nil))))), ?_⟩
  rintro ρ os r os2 ⟨stream_1, low_2, high_3, rfl, rfl, x, s0, h, rfl, rfl⟩
  show Ly.Run K _ [.at 0, .fz (E (low_2 : Int)), .fz (E (high_3 : Int))] [.has (E (stream_1 : (LH3 (List Int) Int Int)))] _
  unfold m_law_from at h
  have h0 := obind_some h
  clear h
  obtain ⟨⟨r_4, w_5⟩, h_6, h⟩ := h0
  dsimp only at h
  have k0 := Option.some.inj h
  clear h
  have k0p := Prod.mk.inj k0
  clear k0
  obtain ⟨e0, k1⟩ := k0p
  subst e0
  subst k1
  exact run_ret (s := .fz (E ((low_2 + r_4) : Int))) (ev_add (ev_var rfl) (ev_call1 (Rl := R_law_next) (n := 0) (ea_cons (ev_var rfl) (ea_cons (ev_add (ev_sub (ev_var rfl) (ev_var rfl)) ev_int) ea_nil)) rfl ⟨stream_1, ((high_3 - low_2) + (1 : Int)), rfl, rfl, r_4, w_5, h_6, rfl, rfl⟩)) ⟨rfl, (.has .nil)⟩
theorem ok_law_shuffled (T : Tx K mg) : FnOk P w K mg base CX0 2 T.a__law_shuffled T.fd__law_shuffled ["stream", "rows"] (spR K R_law_shuffled) := by
  have G__law_next := ok_law_next (P := P) (w := w) (base := base) T
  refine fn_R (k := 1) T.F__law_shuffled sc__law_shuffled (fun ρ os r os2 h => by obtain ⟨α, instα, stream_1, rows_2, rfl, rfl, x, s0, h, rfl, rfl⟩ := h; exact ⟨rfl, rfl⟩) fun cdv A outer s H EX hr => ?_
  have nd := sc__law_shuffled.nd
  refine ⟨_, pss_cons (ps_set (i := 2) nd rfl (Or.inl rfl) (pe_callTy (call_listK (K := K) rfl) (by rfl) T.b_list (by decide +kernel) (pa_cons (pv 1) pa_nil))) (pss_cons (ps_set (i := 3) nd rfl (Or.inl rfl) (pe_lst pa_nil)) (pss_cons (ps_for PassesOwn.never rfl (pi_range1 (by rfl) T.b_range (pa_cons (pe_callB (call_lenK (K := K) rfl) (by rfl) T.b_len (by decide +kernel) (pa_cons (pv 1) pa_nil)) pa_nil)) (pg_name (i := 4) nd rfl (Or.inl rfl)) (pss_one (ps_expr (pe_bmK (K := K) rfl PySem.F.plainAttrs_list PySem.F.slot_list_append PySem.F.type_list_append mt_append (pv 3) (pa_cons (pe_bmK (K := K) rfl PySem.F.plainAttrs_list PySem.F.slot_list_pop PySem.F.type_list_pop mt_popAt (pv 2) (pa_cons (pe_call G__law_next (hr.mono (by decide)) (by rfl) T.g__law_next T.F__law_next.kp T.B__law_next .nil pass0 (pa_cons (pv 0) (pa_cons (pe_callB (call_lenK (K := K) rfl) (by rfl) T.b_len (by decide +kernel) (pa_cons (pv 2) pa_nil)) pa_nil))) pa_nil)) pa_nil))))) (pss_one (ps_ret (pv 3))))), ?_⟩
  rintro ρ os r os2 ⟨α, instα, stream_1, rows_2, rfl, rfl, x, s0, h, rfl, rfl⟩
  show Ly.Run K _ [.at 0, .fz (E (rows_2 : (List α))), .un, .un, .un] [.has (E (stream_1 : (LH3 (List Int) Int Int)))] _
  unfold m_law_shuffled at h
  refine run_seq (run_asgN (i := 2) (d := E (rows_2 : (List α))) (en_list (ea_cons (ev_var rfl) ea_nil) (.inl rfl)) ?_) 
  refine run_seq (run_asgN (i := 3) (d := E (([] : (List α)) : (List α))) (en_new (ds := []) ea_nil (by show 0 ≤ sizeLine; decide)) ?_) 
  have h0 := obind_some h
  clear h
  obtain ⟨rg_3, h_4, h⟩ := h0
  have h0 := obind_some h
  clear h
  obtain ⟨⟨w_17, w_18, w_19⟩, h_20, h⟩ := h0
  dsimp only at h
  show Ly.Run _ _ [.at 0, .fz (E (rows_2 : (List α))), .at 1, .at 2, .un] [.has (E (stream_1 : (LH3 (List Int) Int Int))), .has (E (rows_2 : (List α))), .has (E (([] : (List α)) : (List α)))] _
  refine run_seq (run_forN (fun (⟨s_5, s_6, s_7⟩ : (LH3 (List Int) Int Int) × (List α) × (List α)) => [.at 0, .fz (E (rows_2 : (List α))), .at 1, .at 2, .un]) (fun (⟨s_5, s_6, s_7⟩ : (LH3 (List Int) Int Int) × (List α) × (List α)) => [.has (E (s_5 : (LH3 (List Int) Int Int))), .has (E (s_6 : (List α))), .has (E (s_7 : (List α)))]) (src_rng1O (ea_cons (ev_lenL (xs := rows_2) (ea_cons (ev_var rfl) ea_nil) rfl) ea_nil) h_4) h_20 (by exact ⟨(.at (by show 0 < 3; decide) (.fz (.at (by show 1 < 3; decide) (.at (by show 2 < 3; decide) (.un .nil))))), (.has (.has (.has .nil)))⟩) (fun _ => rfl) ?_ ?_)
  · rintro turn_8 ⟨s_5, s_6, s_7⟩ c hx h
    dsimp only [m_law_shuffled_l1] at h
    refine ⟨_, _, tgb_name, ?_⟩
    have h0 := obind_some h
    clear h
    obtain ⟨⟨r_9, w_10⟩, h_11, h⟩ := h0
    dsimp only at h
    have h0 := obind_some h
    clear h
    obtain ⟨⟨x_12, left_13⟩, h_14, h⟩ := h0
    dsimp only at h
    have h0 := obind_some h
    clear h
    obtain ⟨found_15, h_16, h⟩ := h0
    refine run_drop (ev_appO (xs := s_7) (x := x_12) (ev_var rfl) ⟨_, rfl⟩ (ev_popO (xs := s_6) (ev_var rfl) ⟨_, rfl⟩ (ev_call1 (Rl := R_law_next) (n := 0) (ea_cons (ev_var rfl) (ea_cons (ev_lenL (xs := s_6) (ea_cons (ev_var rfl) ea_nil) rfl) ea_nil)) rfl ⟨s_5, (s_6.length : Int), rfl, rfl, r_9, w_10, h_11, rfl, rfl⟩) rfl h_14) rfl h_16) ?_
    cases h
    exact ⟨_, rfl, ⟨(.at (by show 0 < 3; decide) (.fz (.at (by show 1 < 3; decide) (.at (by show 2 < 3; decide) (.un .nil))))), (.has (.has (.has .nil)))⟩⟩
  have k0 := Option.some.inj h
  clear h
  have k0p := Prod.mk.inj k0
  clear k0
  obtain ⟨e0, k1⟩ := k0p
  subst e0
  subst k1
  exact run_ret (s := .at 2) (ev_var rfl) ⟨(by show 1 ≤ 2; decide), rfl, (.has .nil)⟩
theorem ok_law_is_row (T : Tx K mg) : FnOk P w K mg base CX0 1 T.a__law_is_row T.fd__law_is_row ["value", "kind", "many"] (spR K R_law_is_row) := by
  refine fn_R (k := 0) T.F__law_is_row sc__law_is_row (fun ρ os r os2 h => by obtain ⟨value_1, kind_2, many_3, rfl, rfl, x, h, rfl, rfl⟩ := h; exact ⟨rfl, rfl⟩) fun cdv A outer s H EX hr => ?_
  have nd := sc__law_is_row.nd
  refine ⟨_, pss_cons (ps_if (PW.pt (pw_and (pt_cmpR op_eq (pv 1) (pe_str) (nomark _)) (pw_and1 (pt_not (pt_val (pe_callB (call_isK (K := K) rfl) (by rfl) T.b_isinstance (by decide +kernel) (pa_cons (pv 0) (pa_cons (pe_bltn (v := .ty "list") (by rfl) T.b_list (by decide +kernel) rfl) pa_nil)))))))) (pss_one (ps_ret (pe_bl))) (pss_nil)) (pss_cons (ps_if (PW.pt (pw_and (pt_cmpR op_eq (pv 1) (pe_str) (nomark _)) (pw_and1 (pt_not (pt_val (pe_callB (call_isK (K := K) rfl) (by rfl) T.b_isinstance (by decide +kernel) (pa_cons (pv 0) (pa_cons (pe_bltn (v := .ty "tuple") (by rfl) T.b_tuple (by decide +kernel) rfl) pa_nil)))))))) (pss_one (ps_ret (pe_bl))) (pss_nil)) (pss_one (ps_ret (pe_or (pe_cmpR op_isN (pv 2) (pe_non) (nomark _)) (pe_one (pe_cmpR op_eq (pe_callB (call_lenA (K := K) rfl) (by rfl) T.b_len (by decide +kernel) (pa_cons (pv 0) pa_nil)) (pv 2) (nomark _))))))), ?_⟩
  rintro ρ os r os2 ⟨value_1, kind_2, many_3, rfl, rfl, x, h, rfl, rfl⟩
  show Ly.Run K _ [.fz (E (value_1 : D)), .fz (E (kind_2 : Str)), .fz (E (many_3 : Int))] [] _
  unfold m_law_is_row at h
  have h0 := obind_some h
  clear h
  obtain ⟨b_6, h_7, h⟩ := h0
  refine run_seq (run_if (et_and (b := b_6) (os2 := []) (et_test (ev_eqS (ev_var rfl) ev_str)) (fun hb_8 => by have h := cond_t hb_8 h_7; have h0 := obind_some h; clear h; obtain ⟨b_4, h_5, h⟩ := h0; have k0 := Option.some.inj h; clear h; subst k0; exact (et_not (et_B (ev_isiD (ea_cons (ev_var rfl) (ea_cons ev_ty ea_nil)) h_5)))) (fun hb_8 => by have h := cond_f hb_8 h_7; have k0 := Option.some.inj h; clear h; subst k0; exact ⟨rfl, rfl⟩)) (fun hb_9 => ?_) (fun hb_9 => ?_))
  · replace h := cond_t hb_9 h
    have k0 := Option.some.inj h
    clear h
    subst k0
    exact run_ret (s := .fz (E (false : Bool))) ev_bl ⟨rfl, .nil⟩
  · replace h := cond_f hb_9 h
    refine run_next ?_
    have h0 := obind_some h
    clear h
    obtain ⟨b_12, h_13, h⟩ := h0
    refine run_seq (run_if (et_and (b := b_12) (os2 := []) (et_test (ev_eqS (ev_var rfl) ev_str)) (fun hb_14 => by have h := cond_t hb_14 h_13; have h0 := obind_some h; clear h; obtain ⟨b_10, h_11, h⟩ := h0; have k0 := Option.some.inj h; clear h; subst k0; exact (et_not (et_B (ev_isiD (ea_cons (ev_var rfl) (ea_cons ev_ty ea_nil)) h_11)))) (fun hb_14 => by have h := cond_f hb_14 h_13; have k0 := Option.some.inj h; clear h; subst k0; exact ⟨rfl, rfl⟩)) (fun hb_15 => ?_) (fun hb_15 => ?_))
    · replace h := cond_t hb_15 h
      have k0 := Option.some.inj h
      clear h
      subst k0
      exact run_ret (s := .fz (E (false : Bool))) ev_bl ⟨rfl, .nil⟩
    · replace h := cond_f hb_15 h
      refine run_next ?_
      have h0 := obind_some h
      clear h
      obtain ⟨b_18, h_19, h⟩ := h0
      have k0 := Option.some.inj h
      clear h
      subst k0
      exact run_ret (s := .fz (E (b_18 : Bool))) (ev_orV (b := b_18) (os2 := []) (ev_isN (ev_var rfl)) (fun hb_20 => by have h := cond_f hb_20 h_19; have h0 := obind_some h; clear h; obtain ⟨n_16, h_17, h⟩ := h0; have k0 := Option.some.inj h; clear h; subst k0; exact (ev_eqI (ev_lenA (ea_cons (ev_var rfl) ea_nil) rfl h_17) (ev_var rfl))) (fun hb_20 => by have h := cond_t hb_20 h_19; have k0 := Option.some.inj h; clear h; subst k0; exact ⟨rfl, rfl⟩)) ⟨rfl, .nil⟩
theorem ok_law_same (T : Tx K mg) : ∀ n, FnOk P w K mg base CX0 (1 + n) T.a__law_same T.fd__law_same ["actual", "due"] (spR K (R_law_same n))
  | 0 => ⟨fun vs H Q E h => (by obtain ⟨_, _, _, _, _, _, _, ⟨actual_1, due_2, _, _, x, h, _, _⟩, _, _⟩ := h; cases h), fun _ _ _ _ _ _ vs _ _ _ _ _ _ h => (by obtain ⟨_, _, _, _, _, _, _, ⟨actual_1, due_2, _, _, x, h, _, _⟩, _, _⟩ := h; cases h)⟩
  | n + 1 => by
    have G__law_is_row := ok_law_is_row (P := P) (w := w) (base := base) T
    have G__law_same := ok_law_same (T : Tx K mg) n
    refine fn_R (k := 1 + n) T.F__law_same sc__law_same (fun ρ os r os2 h => by obtain ⟨actual_1, due_2, rfl, rfl, x, h, rfl, rfl⟩ := h; exact ⟨rfl, rfl⟩) fun cdv A outer s H EX hr => ?_
    have nd := sc__law_same.nd
    refine ⟨_, pss_cons (ps_if (PW.pt (pw_or (pt_val (pe_callB (call_isK (K := K) rfl) (by rfl) T.b_isinstance (by decide +kernel) (pa_cons (pv 1) (pa_cons (pe_bltn (v := .ty "tuple") (by rfl) T.b_tuple (by decide +kernel) rfl) pa_nil)))) (pw_or1 (pt_val (pe_callB (call_isK (K := K) rfl) (by rfl) T.b_isinstance (by decide +kernel) (pa_cons (pv 1) (pa_cons (pe_bltn (v := .ty "list") (by rfl) T.b_list (by decide +kernel) rfl) pa_nil))))))) (pss_cons (ps_if (pt_not (pt_val (pe_call G__law_is_row (hr.mono (by omega)) (by rfl) T.g__law_is_row T.F__law_is_row.kp T.B__law_is_row .nil pass0 (pa_cons (pv 0) (pa_cons (pe_ifExp (pt_val (pe_callB (call_isK (K := K) rfl) (by rfl) T.b_isinstance (by decide +kernel) (pa_cons (pv 1) (pa_cons (pe_bltn (v := .ty "tuple") (by rfl) T.b_tuple (by decide +kernel) rfl) pa_nil)))) (pe_str) (pe_str)) (pa_cons (pe_callB (call_lenA (K := K) rfl) (by rfl) T.b_len (by decide +kernel) (pa_cons (pv 1) pa_nil)) pa_nil)))))) (pss_one (ps_ret (pe_bl))) (pss_nil)) (pss_cons (ps_for PassesOwn.never rfl (pi_range1 (by rfl) T.b_range (pa_cons (pe_callB (call_lenA (K := K) rfl) (by rfl) T.b_len (by decide +kernel) (pa_cons (pv 1) pa_nil)) pa_nil)) (pg_name (i := 2) nd rfl (Or.inl rfl)) (pss_one (ps_if (pt_not (pt_val (pe_call G__law_same hr (by rfl) T.g__law_same T.F__law_same.kp T.B__law_same .nil pass0 (pa_cons (pe_ix (ix_seqK (K := K) rfl) (pv 0) (pv 2) (fun _ _ => rfl)) (pa_cons (pe_ix (ix_seqK (K := K) rfl) (pv 1) (pv 2) (fun _ _ => rfl)) pa_nil))))) (pss_one (ps_ret (pe_bl))) (pss_nil)))) (pss_one (ps_ret (pe_bl))))) (pss_nil)) (pss_cons (ps_if (pt_val (pe_callB (call_isK (K := K) rfl) (by rfl) T.b_isinstance (by decide +kernel) (pa_cons (pv 1) (pa_cons (pe_bltn (v := .ty "dict") (by rfl) T.b_dict (by decide +kernel) rfl) pa_nil)))) (pss_cons (ps_if (PW.pt (pw_or (pt_not (pt_val (pe_callB (call_isK (K := K) rfl) (by rfl) T.b_isinstance (by decide +kernel) (pa_cons (pv 0) (pa_cons (pe_bltn (v := .ty "dict") (by rfl) T.b_dict (by decide +kernel) rfl) pa_nil))))) (pw_or1 (pt_cmpR op_ne (pe_callB (call_lenA (K := K) rfl) (by rfl) T.b_len (by decide +kernel) (pa_cons (pv 0) pa_nil)) (pe_callB (call_lenA (K := K) rfl) (by rfl) T.b_len (by decide +kernel) (pa_cons (pv 1) pa_nil)) (nomark _))))) (pss_one (ps_ret (pe_bl))) (pss_nil)) (pss_cons (ps_keys (ps_for PassesOwn.never rfl (pi_keys (pv 1)) (pg_name (i := 3) nd rfl (Or.inl rfl)) (pss_one (ps_if (PW.pt (pw_or (pt_cmp (pc_dnotin (hu_of hr) (pv 3) (pv 0))) (pw_or1 (pt_not (pt_val (pe_call G__law_same hr (by rfl) T.g__law_same T.F__law_same.kp T.B__law_same .nil pass0 (pa_cons (pe_dget (hu_of hr) (pv 0) (pv 3) (fun _ _ => rfl)) (pa_cons (pe_dget (hu_of hr) (pv 1) (pv 3) (fun _ _ => rfl)) pa_nil)))))))) (pss_one (ps_ret (pe_bl))) (pss_nil))))) (pss_one (ps_ret (pe_bl))))) (pss_nil)) (pss_cons (ps_if (pt_val (pe_callB (call_isK (K := K) rfl) (by rfl) T.b_isinstance (by decide +kernel) (pa_cons (pv 1) (pa_cons (pe_bltn (v := .ty "bool") (by rfl) T.b_bool (by decide +kernel) rfl) pa_nil)))) (pss_one (ps_ret (pe_and (pe_callB (call_isK (K := K) rfl) (by rfl) T.b_isinstance (by decide +kernel) (pa_cons (pv 0) (pa_cons (pe_bltn (v := .ty "bool") (by rfl) T.b_bool (by decide +kernel) rfl) pa_nil))) (pe_one (pe_cmpR op_eq (pv 0) (pv 1) (nomark _)))))) (pss_nil)) (pss_cons (ps_if (pt_val (pe_callB (call_isK (K := K) rfl) (by rfl) T.b_isinstance (by decide +kernel) (pa_cons (pv 1) (pa_cons (pe_bltn (v := .ty "str") (by rfl) T.b_str (by decide +kernel) rfl) pa_nil)))) (pss_one (ps_ret (pe_and (pe_callB (call_isK (K := K) rfl) (by rfl) T.b_isinstance (by decide +kernel) (pa_cons (pv 0) (pa_cons (pe_bltn (v := .ty "str") (by rfl) T.b_str (by decide +kernel) rfl) pa_nil))) (pe_one (pe_cmpR op_eq (pv 0) (pv 1) (nomark _)))))) (pss_nil)) (pss_cons (ps_if (pt_val (pe_callB (call_isK (K := K) rfl) (by rfl) T.b_isinstance (by decide +kernel) (pa_cons (pv 1) (pa_cons (pe_bltn (v := .ty "int") (by rfl) T.b_int (by decide +kernel) rfl) pa_nil)))) (pss_one (ps_ret (pe_and (pe_callB (call_isK (K := K) rfl) (by rfl) T.b_isinstance (by decide +kernel) (pa_cons (pv 0) (pa_cons (pe_bltn (v := .ty "int") (by rfl) T.b_int (by decide +kernel) rfl) pa_nil))) (pe_and (pe_not (pe_callB (call_isK (K := K) rfl) (by rfl) T.b_isinstance (by decide +kernel) (pa_cons (pv 0) (pa_cons (pe_bltn (v := .ty "bool") (by rfl) T.b_bool (by decide +kernel) rfl) pa_nil)))) (pe_one (pe_cmpR op_eq (pv 0) (pv 1) (nomark _))))))) (pss_nil)) (pss_one (ps_ret (pe_cmpR op_isN (pv 0) (pe_non) (nomark _)))))))), ?_⟩
    rintro ρ os r os2 ⟨actual_1, due_2, rfl, rfl, x, h, rfl, rfl⟩
    show Ly.Run K _ [.fz (E (actual_1 : D)), .fz (E (due_2 : D)), .un, .un] [] _
    dsimp only [m_law_same] at h
    have h0 := obind_some h
    clear h
    obtain ⟨b_3, h_4, h⟩ := h0
    have h0 := obind_some h
    clear h
    obtain ⟨b_7, h_8, h⟩ := h0
    refine run_seq (run_if (et_or (b := b_7) (os2 := []) (et_B (ev_isiD (ea_cons (ev_var rfl) (ea_cons ev_ty ea_nil)) h_4)) (fun hb_9 => by have h := cond_f hb_9 h_8; have h0 := obind_some h; clear h; obtain ⟨b_5, h_6, h⟩ := h0; have k0 := Option.some.inj h; clear h; subst k0; exact (et_B (ev_isiD (ea_cons (ev_var rfl) (ea_cons ev_ty ea_nil)) h_6))) (fun hb_9 => by have h := cond_t hb_9 h_8; have k0 := Option.some.inj h; clear h; subst k0; exact ⟨rfl, rfl⟩)) (fun hb_10 => ?_) (fun hb_10 => ?_))
    · replace h := cond_t hb_10 h
      have h0 := obind_some h
      clear h
      obtain ⟨b_11, h_12, h⟩ := h0
      have h0 := obind_some h
      clear h
      obtain ⟨n_13, h_14, h⟩ := h0
      have h0 := obind_some h
      clear h
      obtain ⟨r_15, h_16, h⟩ := h0
      refine run_seq (run_if (et_not (et_B (ev_call (Rl := R_law_is_row) (ds := [E (actual_1 : D), E ((cond b_11 ("T" : Str) ("L" : Str)) : Str), E (n_13 : Int)]) (ea_cons (ev_var rfl) (ea_cons (ev_ifP (α := Str) (et_B (ev_isiD (ea_cons (ev_var rfl) (ea_cons ev_ty ea_nil)) h_12)) ev_str ev_str) (ea_cons (ev_lenA (ea_cons (ev_var rfl) ea_nil) rfl h_14) ea_nil))) ⟨actual_1, (cond b_11 ("T" : Str) ("L" : Str)), n_13, rfl, rfl, r_15, h_16, rfl, rfl⟩))) (fun hb_17 => ?_) (fun hb_17 => ?_))
      · replace h := cond_t hb_17 h
        have k0 := Option.some.inj h
        clear h
        subst k0
        exact run_ret (s := .fz (E (false : Bool))) ev_bl ⟨rfl, .nil⟩
      · replace h := cond_f hb_17 h
        refine run_next ?_
        have h0 := obind_some h
        clear h
        obtain ⟨n_18, h_19, h⟩ := h0
        have h0 := obind_some h
        clear h
        obtain ⟨rg_20, h_21, h⟩ := h0
        have h0 := obind_some h
        clear h
        obtain ⟨c_31, h_32, h⟩ := h0
        show Ly.Run _ _ [.fz (E (actual_1 : D)), .fz (E (due_2 : D)), .un, .un] [] _
        refine run_seq (run_for (fun (_ : Unit) => [.fz (E (actual_1 : D)), .fz (E (due_2 : D)), .un, .un]) (fun (_ : Unit) => []) (fun (x : Bool) sl os2 => RetP 0 [] (.fz (E (x : Bool))) sl os2) (src_rng1O (ea_cons (ev_lenA (ea_cons (ev_var rfl) ea_nil) rfl h_19) ea_nil) h_21) h_32 (by exact ⟨(.fz (.fz (.un (.un .nil)))), .nil⟩) (fun _ => rfl) ?_ ?_ ?_)
        · rintro at_22 _u c hx h
          dsimp only [m_law_same_l1] at h
          refine ⟨_, _, tgb_name, ?_⟩
          have h0 := obind_some h
          clear h
          obtain ⟨t_23, h_24, h⟩ := h0
          have h0 := obind_some h
          clear h
          obtain ⟨t_25, h_26, h⟩ := h0
          have h0 := obind_some h
          clear h
          obtain ⟨r_27, h_28, h⟩ := h0
          refine run_if (et_not (et_B (ev_call (Rl := (R_law_same n)) (ds := [E (t_23 : D), E (t_25 : D)]) (ea_cons (ev_ixD (ev_var rfl) (ev_var rfl) rfl h_24) (ea_cons (ev_ixD (ev_var rfl) (ev_var rfl) rfl h_26) ea_nil)) ⟨t_23, t_25, rfl, rfl, r_27, h_28, rfl, rfl⟩))) (fun hb_29 => ?_) (fun hb_29 => ?_)
          · replace h := cond_t hb_29 h
            cases h
            exact run_ret (s := .fz (E (false : Bool))) ev_bl ⟨_, rfl, ⟨rfl, .nil⟩⟩
          · replace h := cond_f hb_29 h
            refine run_next ?_
            cases h
            exact ⟨_, rfl, ⟨(.fz (.fz (.un (.un .nil)))), .nil⟩⟩
        · rintro u_30 hc
          subst hc
          dsimp only [ctl] at h
          have k0 := Option.some.inj h
          clear h
          subst k0
          exact run_ret (s := .fz (E (true : Bool))) ev_bl ⟨rfl, .nil⟩
        · rintro r_33 hc sl os2 hR
          subst hc
          dsimp only [ctl] at h
          have k0 := Option.some.inj h
          clear h
          subst k0
          exact hR
    · replace h := cond_f hb_10 h
      refine run_next ?_
      have h0 := obind_some h
      clear h
      obtain ⟨b_34, h_35, h⟩ := h0
      refine run_seq (run_if (et_B (ev_isiD (ea_cons (ev_var rfl) (ea_cons ev_ty ea_nil)) h_35)) (fun hb_36 => ?_) (fun hb_36 => ?_))
      · replace h := cond_t hb_36 h
        have h0 := obind_some h
        clear h
        obtain ⟨b_37, h_38, h⟩ := h0
        have h0 := obind_some h
        clear h
        obtain ⟨b_43, h_44, h⟩ := h0
        refine run_seq (run_if (et_or (b := b_43) (os2 := []) (et_not (et_B (ev_isiD (ea_cons (ev_var rfl) (ea_cons ev_ty ea_nil)) h_38))) (fun hb_45 => by have h := cond_f hb_45 h_44; have h0 := obind_some h; clear h; obtain ⟨n_39, h_40, h⟩ := h0; have h0 := obind_some h; clear h; obtain ⟨n_41, h_42, h⟩ := h0; have k0 := Option.some.inj h; clear h; subst k0; exact (et_test (ev_neI (ev_lenA (ea_cons (ev_var rfl) ea_nil) rfl h_40) (ev_lenA (ea_cons (ev_var rfl) ea_nil) rfl h_42)))) (fun hb_45 => by have h := cond_t hb_45 h_44; have k0 := Option.some.inj h; clear h; subst k0; exact ⟨rfl, rfl⟩)) (fun hb_46 => ?_) (fun hb_46 => ?_))
        · replace h := cond_t hb_46 h
          have k0 := Option.some.inj h
          clear h
          subst k0
          exact run_ret (s := .fz (E (false : Bool))) ev_bl ⟨rfl, .nil⟩
        · replace h := cond_f hb_46 h
          refine run_next ?_
          have h0 := obind_some h
          clear h
          obtain ⟨ds_47, h_48, h⟩ := h0
          have h0 := obind_some h
          clear h
          obtain ⟨c_67, h_68, h⟩ := h0
          show Ly.Run _ _ [.fz (E (actual_1 : D)), .fz (E (due_2 : D)), .un, .un] [] _
          refine run_seq (run_forKd (fun (_ : Unit) => [.fz (E (actual_1 : D)), .fz (E (due_2 : D)), .un, .un]) (fun (_ : Unit) => []) (fun (x : Bool) sl os2 => RetP 0 [] (.fz (E (x : Bool))) sl os2) ⟨rfl, h_48⟩ h_68 (by exact ⟨(.fz (.fz (.un (.un .nil)))), .nil⟩) (fun _ => rfl) ?_ ?_ ?_)
          · rintro key_49 _u c hx h
            dsimp only [m_law_same_l2] at h
            refine ⟨_, _, tgb_name, ?_⟩
            have h0 := obind_some h
            clear h
            obtain ⟨ds_50, h_51, h⟩ := h0
            have h0 := obind_some h
            clear h
            obtain ⟨b_62, h_63, h⟩ := h0
            refine run_if (et_or (b := b_62) (os2 := []) (et_B (ev_dniKD (k := key_49) (ev_var rfl) (ev_var rfl) (dDct_eq h_51))) (fun hb_64 => by have h := cond_f hb_64 h_63; have h0 := obind_some h; clear h; obtain ⟨ds_52, h_53, h⟩ := h0; have h0 := obind_some h; clear h; obtain ⟨t_54, h_55, h⟩ := h0; have h0 := obind_some h; clear h; obtain ⟨ds_56, h_57, h⟩ := h0; have h0 := obind_some h; clear h; obtain ⟨t_58, h_59, h⟩ := h0; have h0 := obind_some h; clear h; obtain ⟨r_60, h_61, h⟩ := h0; have k0 := Option.some.inj h; clear h; subst k0; exact (et_not (et_B (ev_call (Rl := (R_law_same n)) (ds := [E (t_54 : D), E (t_58 : D)]) (ea_cons (ev_dgetKD (k := key_49) (ev_var rfl) (ev_var rfl) (dDct_eq h_53) h_55) (ea_cons (ev_dgetKD (k := key_49) (ev_var rfl) (ev_var rfl) (dDct_eq h_57) h_59) ea_nil)) ⟨t_54, t_58, rfl, rfl, r_60, h_61, rfl, rfl⟩)))) (fun hb_64 => by have h := cond_t hb_64 h_63; have k0 := Option.some.inj h; clear h; subst k0; exact ⟨rfl, rfl⟩)) (fun hb_65 => ?_) (fun hb_65 => ?_)
            · replace h := cond_t hb_65 h
              cases h
              exact run_ret (s := .fz (E (false : Bool))) ev_bl ⟨_, rfl, ⟨rfl, .nil⟩⟩
            · replace h := cond_f hb_65 h
              refine run_next ?_
              cases h
              exact ⟨_, rfl, ⟨(.fz (.fz (.un (.un .nil)))), .nil⟩⟩
          · rintro u_66 hc
            subst hc
            dsimp only [ctl] at h
            have k0 := Option.some.inj h
            clear h
            subst k0
            exact run_ret (s := .fz (E (true : Bool))) ev_bl ⟨rfl, .nil⟩
          · rintro r_69 hc sl os2 hR
            subst hc
            dsimp only [ctl] at h
            have k0 := Option.some.inj h
            clear h
            subst k0
            exact hR
      · replace h := cond_f hb_36 h
        refine run_next ?_
        have h0 := obind_some h
        clear h
        obtain ⟨b_70, h_71, h⟩ := h0
        refine run_seq (run_if (et_B (ev_isiD (ea_cons (ev_var rfl) (ea_cons ev_ty ea_nil)) h_71)) (fun hb_72 => ?_) (fun hb_72 => ?_))
        · replace h := cond_t hb_72 h
          have h0 := obind_some h
          clear h
          obtain ⟨b_73, h_74, h⟩ := h0
          have h0 := obind_some h
          clear h
          obtain ⟨b_77, h_78, h⟩ := h0
          have k0 := Option.some.inj h
          clear h
          subst k0
          exact run_ret (s := .fz (E (b_77 : Bool))) (ev_andV (b := b_77) (os2 := []) (ev_isiD (ea_cons (ev_var rfl) (ea_cons ev_ty ea_nil)) h_74) (fun hb_79 => by have h := cond_t hb_79 h_78; have h0 := obind_some h; clear h; obtain ⟨b_75, h_76, h⟩ := h0; have k0 := Option.some.inj h; clear h; subst k0; exact (ev_eqD (ev_var rfl) (ev_var rfl) h_76)) (fun hb_79 => by have h := cond_f hb_79 h_78; have k0 := Option.some.inj h; clear h; subst k0; exact ⟨rfl, rfl⟩)) ⟨rfl, .nil⟩
        · replace h := cond_f hb_72 h
          refine run_next ?_
          have h0 := obind_some h
          clear h
          obtain ⟨b_80, h_81, h⟩ := h0
          refine run_seq (run_if (et_B (ev_isiD (ea_cons (ev_var rfl) (ea_cons ev_ty ea_nil)) h_81)) (fun hb_82 => ?_) (fun hb_82 => ?_))
          · replace h := cond_t hb_82 h
            have h0 := obind_some h
            clear h
            obtain ⟨b_83, h_84, h⟩ := h0
            have h0 := obind_some h
            clear h
            obtain ⟨b_87, h_88, h⟩ := h0
            have k0 := Option.some.inj h
            clear h
            subst k0
            exact run_ret (s := .fz (E (b_87 : Bool))) (ev_andV (b := b_87) (os2 := []) (ev_isiD (ea_cons (ev_var rfl) (ea_cons ev_ty ea_nil)) h_84) (fun hb_89 => by have h := cond_t hb_89 h_88; have h0 := obind_some h; clear h; obtain ⟨b_85, h_86, h⟩ := h0; have k0 := Option.some.inj h; clear h; subst k0; exact (ev_eqD (ev_var rfl) (ev_var rfl) h_86)) (fun hb_89 => by have h := cond_f hb_89 h_88; have k0 := Option.some.inj h; clear h; subst k0; exact ⟨rfl, rfl⟩)) ⟨rfl, .nil⟩
          · replace h := cond_f hb_82 h
            refine run_next ?_
            have h0 := obind_some h
            clear h
            obtain ⟨b_90, h_91, h⟩ := h0
            refine run_seq (run_if (et_B (ev_isiD (ea_cons (ev_var rfl) (ea_cons ev_ty ea_nil)) h_91)) (fun hb_92 => ?_) (fun hb_92 => ?_))
            · replace h := cond_t hb_92 h
              have h0 := obind_some h
              clear h
              obtain ⟨b_93, h_94, h⟩ := h0
              have h0 := obind_some h
              clear h
              obtain ⟨b_102, h_103, h⟩ := h0
              have k0 := Option.some.inj h
              clear h
              subst k0
              exact run_ret (s := .fz (E (b_102 : Bool))) (ev_andV (b := b_102) (os2 := []) (ev_isiD (ea_cons (ev_var rfl) (ea_cons ev_ty ea_nil)) h_94) (fun hb_104 => by have h := cond_t hb_104 h_103; have h0 := obind_some h; clear h; obtain ⟨b_95, h_96, h⟩ := h0; have h0 := obind_some h; clear h; obtain ⟨b_99, h_100, h⟩ := h0; have k0 := Option.some.inj h; clear h; subst k0; exact (ev_andV (b := b_99) (os2 := []) (ev_notV (ev_isiD (ea_cons (ev_var rfl) (ea_cons ev_ty ea_nil)) h_96)) (fun hb_101 => by have h := cond_t hb_101 h_100; have h0 := obind_some h; clear h; obtain ⟨b_97, h_98, h⟩ := h0; have k0 := Option.some.inj h; clear h; subst k0; exact (ev_eqD (ev_var rfl) (ev_var rfl) h_98)) (fun hb_101 => by have h := cond_f hb_101 h_100; have k0 := Option.some.inj h; clear h; subst k0; exact ⟨rfl, rfl⟩))) (fun hb_104 => by have h := cond_f hb_104 h_103; have k0 := Option.some.inj h; clear h; subst k0; exact ⟨rfl, rfl⟩)) ⟨rfl, .nil⟩
            · replace h := cond_f hb_92 h
              refine run_next ?_
              have k0 := Option.some.inj h
              clear h
              subst k0
              exact run_ret (s := .fz (E ((isNon (E (actual_1 : D))) : Bool))) (ev_isN (ev_var rfl)) ⟨rfl, .nil⟩
theorem ok_law_named (T : Tx K mg) : FnP P w K mg base 1 T.a__law_named T.fd__law_named ["error"] (fun p => spR K (R_law_named T.cl p.1 p.2.cls p.2.dict)) := by
  refine fn_PR (k := 0) T.F__law_named sc__law_named (fun a cls d ρ os r os2 h => by obtain ⟨error_1, dd, hz, rfl, rfl, rfl, rfl, x, h, rfl, rfl⟩ := h; exact ⟨rfl, rfl, _, _, rfl, rfl⟩) fun cdv A outer s H EX p C dd hot hr ho => ?_
  have nd := sc__law_named.nd
  rintro ρ os r os2 ⟨error_1, dd2, hz, hcls, hdd, rfl, rfl, x, h, rfl, rfl⟩
  cases hcls
  cases hdd
  refine ⟨_, pss_cons (ps_set (i := 1) nd rfl (Or.inl rfl) (pe_str)) (pss_cons (ps_set (i := 2) nd rfl (Or.inl rfl) (pe_lst (pa_cons (pe_callB (call_isP (K := K) rfl (T.xp _ hz) ho (List.mem_cons_self ..)) (by rfl) T.b_isinstance (by decide +kernel) (pa_cons (pv 0) (pa_cons (pe_glob (v := .ref (T.cl .BadEdit)) (by rfl) T.g_BadEdit rfl) pa_nil))) (pa_cons (pe_callB (call_isP (K := K) rfl (T.xp _ hz) ho (List.mem_cons_self ..)) (by rfl) T.b_isinstance (by decide +kernel) (pa_cons (pv 0) (pa_cons (pe_glob (v := .ref (T.cl .BadHistory)) (by rfl) T.g_BadHistory rfl) pa_nil))) (pa_cons (pe_callB (call_isP (K := K) rfl (T.xp _ hz) ho (List.mem_cons_self ..)) (by rfl) T.b_isinstance (by decide +kernel) (pa_cons (pv 0) (pa_cons (pe_glob (v := .ref (T.cl .BadText)) (by rfl) T.g_BadText rfl) pa_nil))) (pa_cons (pe_callB (call_isP (K := K) rfl (T.xp _ hz) ho (List.mem_cons_self ..)) (by rfl) T.b_isinstance (by decide +kernel) (pa_cons (pv 0) (pa_cons (pe_glob (v := .ref (T.cl .BadValue)) (by rfl) T.g_BadValue rfl) pa_nil))) pa_nil)))))) (pss_cons (ps_set (i := 2) nd rfl (Or.inl rfl) (pe_op (op_catLK (K := K) rfl) (pv 2) (pe_lst (pa_cons (pe_callB (call_isP (K := K) rfl (T.xp _ hz) ho (List.mem_cons_self ..)) (by rfl) T.b_isinstance (by decide +kernel) (pa_cons (pv 0) (pa_cons (pe_glob (v := .ref (T.cl .NotShown)) (by rfl) T.g_NotShown rfl) pa_nil))) (pa_cons (pe_callB (call_isP (K := K) rfl (T.xp _ hz) ho (List.mem_cons_self ..)) (by rfl) T.b_isinstance (by decide +kernel) (pa_cons (pv 0) (pa_cons (pe_glob (v := .ref (T.cl .Ring)) (by rfl) T.g_Ring rfl) pa_nil))) (pa_cons (pe_callB (call_isP (K := K) rfl (T.xp _ hz) ho (List.mem_cons_self ..)) (by rfl) T.b_isinstance (by decide +kernel) (pa_cons (pv 0) (pa_cons (pe_glob (v := .ref (T.cl .Sealed)) (by rfl) T.g_Sealed rfl) pa_nil))) (pa_cons (pe_callB (call_isP (K := K) rfl (T.xp _ hz) ho (List.mem_cons_self ..)) (by rfl) T.b_isinstance (by decide +kernel) (pa_cons (pv 0) (pa_cons (pe_glob (v := .ref (T.cl .TooOld)) (by rfl) T.g_TooOld rfl) pa_nil))) pa_nil))))))) (pss_cons (ps_set (i := 2) nd rfl (Or.inl rfl) (pe_op (op_catLK (K := K) rfl) (pv 2) (pe_lst (pa_cons (pe_callB (call_isP (K := K) rfl (T.xp _ hz) ho (List.mem_cons_self ..)) (by rfl) T.b_isinstance (by decide +kernel) (pa_cons (pv 0) (pa_cons (pe_glob (v := .ref (T.cl .NothingToUndo)) (by rfl) T.g_NothingToUndo rfl) pa_nil))) (pa_cons (pe_callB (call_isP (K := K) rfl (T.xp _ hz) ho (List.mem_cons_self ..)) (by rfl) T.b_isinstance (by decide +kernel) (pa_cons (pv 0) (pa_cons (pe_glob (v := .ref (T.cl .NothingToRedo)) (by rfl) T.g_NothingToRedo rfl) pa_nil))) pa_nil))))) (pss_cons (ps_set (i := 2) nd rfl (Or.inl rfl) (pe_op (op_catLK (K := K) rfl) (pv 2) (pe_lst (pa_cons (pe_callB (call_isP (K := K) rfl (T.xp _ hz) ho (List.mem_cons_self ..)) (by rfl) T.b_isinstance (by decide +kernel) (pa_cons (pv 0) (pa_cons (pe_glob (v := .ref (T.cl .BadVersion)) (by rfl) T.g_BadVersion rfl) pa_nil))) (pa_cons (pe_callB (call_isP (K := K) rfl (T.xp _ hz) ho (List.mem_cons_self ..)) (by rfl) T.b_isinstance (by decide +kernel) (pa_cons (pv 0) (pa_cons (pe_glob (v := .ref (T.cl .TwoFaces)) (by rfl) T.g_TwoFaces rfl) pa_nil))) pa_nil))))) (pss_cons (ps_if (PW.pt (pw_or (pt_cmpR op_ne (pe_bmK (K := K) rfl PySem.F.plainAttrs_list PySem.F.slot_list_count PySem.F.type_list_count (mt_countBK (K := K) rfl hr.units) (pv 2) (pa_cons (pe_bl) pa_nil)) (pe_int) (nomark _)) (pw_or (pt_not (pt_val (pe_callB (call_isP (K := K) rfl (T.xp _ hz) ho (List.mem_cons_self ..)) (by rfl) T.b_isinstance (by decide +kernel) (pa_cons (pv 0) (pa_cons (pe_glob (v := .ref (T.cl .ApartError)) (by rfl) T.g_ApartError rfl) pa_nil))))) (pw_or1 (pt_not (pt_val (pe_callB (call_isP (K := K) rfl (T.xp _ hz) ho (List.mem_cons_self ..)) (by rfl) T.b_isinstance (by decide +kernel) (pa_cons (pv 0) (pa_cons (pe_bltn (v := .ty "ValueError") (by rfl) T.b_ValueError (by decide +kernel) rfl) pa_nil))))))))) (pss_one (ps_ret (pe_str))) (pss_nil)) (pss_one (ps_ret (pe_ix (ix_listK (K := K) rfl) (pe_splitAny (pv 1) (pe_str)) (pe_bmK (K := K) rfl PySem.F.plainAttrs_list PySem.F.slot_list_index PySem.F.type_list_index (mt_indexK (K := K) rfl) (pv 2) (pa_cons (pe_bl) pa_nil)) (fun _ _ => rfl))))))))), ?_⟩
  show Ly.Run K _ [.fz (excD p.1 dd error_1), .un, .un] [] _
  unfold m_law_named at h
  refine run_seq (run_asg (i := 1) (s := .fz (E (("BadEdit BadHistory BadText BadValue NotShown Ring Sealed TooOld NothingToUndo NothingToRedo BadVersion TwoFaces" : Str) : Str))) ev_str ?_) 
  refine run_seq (run_asg (i := 2) (s := .fz (E ([(isC error_1.c .BadEdit), (isC error_1.c .BadHistory), (isC error_1.c .BadText), (isC error_1.c .BadValue)] : (List Bool)))) (ev_frz (en_new (ds := [E ((isC error_1.c .BadEdit) : Bool), E ((isC error_1.c .BadHistory) : Bool), E ((isC error_1.c .BadText) : Bool), E ((isC error_1.c .BadValue) : Bool)]) (ea_cons (ev_isE (b := isC error_1.c .BadEdit) (ea_cons (ev_var rfl) (ea_cons ev_adr ea_nil)) rfl (T.kit _ hz .BadEdit)) (ea_cons (ev_isE (b := isC error_1.c .BadHistory) (ea_cons (ev_var rfl) (ea_cons ev_adr ea_nil)) rfl (T.kit _ hz .BadHistory)) (ea_cons (ev_isE (b := isC error_1.c .BadText) (ea_cons (ev_var rfl) (ea_cons ev_adr ea_nil)) rfl (T.kit _ hz .BadText)) (ea_cons (ev_isE (b := isC error_1.c .BadValue) (ea_cons (ev_var rfl) (ea_cons ev_adr ea_nil)) rfl (T.kit _ hz .BadValue)) ea_nil)))) (by show 4 ≤ sizeLine; decide))) ?_) 
  have h0 := obind_some h
  clear h
  obtain ⟨ys_2, h_3, h⟩ := h0
  refine run_seq (run_asg (i := 2) (s := .fz (E (ys_2 : (List Bool)))) (ev_frz (en_cat (a := [(isC error_1.c .BadEdit), (isC error_1.c .BadHistory), (isC error_1.c .BadText), (isC error_1.c .BadValue)]) (b := [(isC error_1.c .NotShown), (isC error_1.c .Ring), (isC error_1.c .Sealed), (isC error_1.c .TooOld)]) (ev_var rfl) (ev_frz (en_new (ds := [E ((isC error_1.c .NotShown) : Bool), E ((isC error_1.c .Ring) : Bool), E ((isC error_1.c .Sealed) : Bool), E ((isC error_1.c .TooOld) : Bool)]) (ea_cons (ev_isE (b := isC error_1.c .NotShown) (ea_cons (ev_var rfl) (ea_cons ev_adr ea_nil)) rfl (T.kit _ hz .NotShown)) (ea_cons (ev_isE (b := isC error_1.c .Ring) (ea_cons (ev_var rfl) (ea_cons ev_adr ea_nil)) rfl (T.kit _ hz .Ring)) (ea_cons (ev_isE (b := isC error_1.c .Sealed) (ea_cons (ev_var rfl) (ea_cons ev_adr ea_nil)) rfl (T.kit _ hz .Sealed)) (ea_cons (ev_isE (b := isC error_1.c .TooOld) (ea_cons (ev_var rfl) (ea_cons ev_adr ea_nil)) rfl (T.kit _ hz .TooOld)) ea_nil)))) (by show 4 ≤ sizeLine; decide))) h_3)) ?_) 
  have h0 := obind_some h
  clear h
  obtain ⟨ys_4, h_5, h⟩ := h0
  refine run_seq (run_asg (i := 2) (s := .fz (E (ys_4 : (List Bool)))) (ev_frz (en_cat (a := ys_2) (b := [(isC error_1.c .NothingToUndo), (isC error_1.c .NothingToRedo)]) (ev_var rfl) (ev_frz (en_new (ds := [E ((isC error_1.c .NothingToUndo) : Bool), E ((isC error_1.c .NothingToRedo) : Bool)]) (ea_cons (ev_isE (b := isC error_1.c .NothingToUndo) (ea_cons (ev_var rfl) (ea_cons ev_adr ea_nil)) rfl (T.kit _ hz .NothingToUndo)) (ea_cons (ev_isE (b := isC error_1.c .NothingToRedo) (ea_cons (ev_var rfl) (ea_cons ev_adr ea_nil)) rfl (T.kit _ hz .NothingToRedo)) ea_nil)) (by show 2 ≤ sizeLine; decide))) h_5)) ?_) 
  have h0 := obind_some h
  clear h
  obtain ⟨ys_6, h_7, h⟩ := h0
  refine run_seq (run_asg (i := 2) (s := .fz (E (ys_6 : (List Bool)))) (ev_frz (en_cat (a := ys_4) (b := [(isC error_1.c .BadVersion), (isC error_1.c .TwoFaces)]) (ev_var rfl) (ev_frz (en_new (ds := [E ((isC error_1.c .BadVersion) : Bool), E ((isC error_1.c .TwoFaces) : Bool)]) (ea_cons (ev_isE (b := isC error_1.c .BadVersion) (ea_cons (ev_var rfl) (ea_cons ev_adr ea_nil)) rfl (T.kit _ hz .BadVersion)) (ea_cons (ev_isE (b := isC error_1.c .TwoFaces) (ea_cons (ev_var rfl) (ea_cons ev_adr ea_nil)) rfl (T.kit _ hz .TwoFaces)) ea_nil)) (by show 2 ≤ sizeLine; decide))) h_7)) ?_) 
  refine run_seq (run_if (et_orP (et_test (ev_neI (ev_cntB (bs := ys_6) (b := true) (ev_var rfl) ⟨_, rfl⟩ ev_bl rfl) ev_int)) (et_orP (et_not (et_B (ev_isE (b := isC error_1.c .ApartError) (ea_cons (ev_var rfl) (ea_cons ev_adr ea_nil)) rfl (T.kit _ hz .ApartError)))) (et_not (et_B (ev_isE (b := true) (ea_cons (ev_var rfl) (ea_cons ev_ty ea_nil)) rfl (T.kitV _ hz)))))) (fun hb_8 => ?_) (fun hb_8 => ?_))
  · replace h := cond_t hb_8 h
    have k0 := Option.some.inj h
    clear h
    subst k0
    exact run_ret (s := .fz (E (("other" : Str) : Str))) ev_str ⟨rfl, .nil⟩
  · replace h := cond_f hb_8 h
    refine run_next ?_
    have h0 := obind_some h
    clear h
    obtain ⟨n_9, h_10, h⟩ := h0
    have h0 := obind_some h
    clear h
    obtain ⟨t_11, h_12, h⟩ := h0
    have k0 := Option.some.inj h
    clear h
    subst k0
    exact run_ret (s := .fz (E (t_11 : Str))) (ev_ix (xs := (Txt.split ("BadEdit BadHistory BadText BadValue NotShown Ring Sealed TooOld NothingToUndo NothingToRedo BadVersion TwoFaces" : Str) (" " : Str))) (ev_frz (en_split (ev_var rfl) ev_str (by decide +kernel) (by decide +kernel))) (ev_idxFl (xs := ys_6) (x := true) (ev_var rfl) ⟨_, rfl⟩ ev_bl rfl h_10) rfl h_12) ⟨rfl, .nil⟩
theorem ok_law_attributes (T : Tx K mg) : FnP P w K mg base 1 T.a__law_attributes T.fd__law_attributes ["e", "name"] (fun p => spR K (R_law_attributes T.cl p.1 p.2.cls p.2.dict)) := by
  refine fn_PR (k := 0) T.F__law_attributes sc__law_attributes (fun a cls d ρ os r os2 h => by obtain ⟨e_1, dd, name_2, hz, rfl, rfl, rfl, rfl, x, h, rfl, rfl⟩ := h; exact ⟨rfl, rfl, _, _, rfl, rfl⟩) fun cdv A outer s H EX p C dd hot hr ho => ?_
  have nd := sc__law_attributes.nd
  rintro ρ os r os2 ⟨e_1, dd2, name_2, hz, hcls, hdd, rfl, rfl, x, h, rfl, rfl⟩
  cases hcls
  cases hdd
  refine ⟨_, pss_cons (ps_if (pt_cmpR op_eq (pv 1) (pe_str) (nomark _)) (pss_one (ps_ret (pe_tup (pa_cons (pe_xfP (T.xp _ hz) (T.hd _ hz) (T.no_word _ hz) ho (List.mem_cons_self ..) (pv 0)) pa_nil)))) (pss_nil)) (pss_cons (ps_if (pt_cmpR op_eq (pv 1) (pe_str) (nomark _)) (pss_one (ps_ret (pe_tup (pa_cons (pe_xfP (T.xp _ hz) (T.hd _ hz) (T.no_index _ hz) ho (List.mem_cons_self ..) (pv 0)) (pa_cons (pe_xfP (T.xp _ hz) (T.hd _ hz) (T.no_word _ hz) ho (List.mem_cons_self ..) (pv 0)) pa_nil))))) (pss_nil)) (pss_cons (ps_if (pt_cmpR op_eq (pv 1) (pe_str) (nomark _)) (pss_one (ps_ret (pe_tup (pa_cons (pe_xfP (T.xp _ hz) (T.hd _ hz) (T.no_line _ hz) ho (List.mem_cons_self ..) (pv 0)) (pa_cons (pe_xfP (T.xp _ hz) (T.hd _ hz) (T.no_column _ hz) ho (List.mem_cons_self ..) (pv 0)) pa_nil))))) (pss_nil)) (pss_cons (ps_if (pt_cmpR op_eq (pv 1) (pe_str) (nomark _)) (pss_one (ps_ret (pe_tup (pa_cons (pe_xfP (T.xp _ hz) (T.hd _ hz) (T.no_name _ hz) ho (List.mem_cons_self ..) (pv 0)) pa_nil)))) (pss_nil)) (pss_cons (ps_if (pt_cmpR op_eq (pv 1) (pe_str) (nomark _)) (pss_one (ps_ret (pe_tup (pa_cons (pe_xfP (T.xp _ hz) (T.hd _ hz) (T.no_slot _ hz) ho (List.mem_cons_self ..) (pv 0)) pa_nil)))) (pss_nil)) (pss_cons (ps_if (pt_cmpR op_eq (pv 1) (pe_str) (nomark _)) (pss_one (ps_ret (pe_tup (pa_cons (pe_xfP (T.xp _ hz) (T.hd _ hz) (T.no_nodes _ hz) ho (List.mem_cons_self ..) (pv 0)) pa_nil)))) (pss_nil)) (pss_cons (ps_if (pt_cmpR (op_inK (K := K) rfl) (pv 1) (pe_tup (pa_cons (pe_str) (pa_cons (pe_str) pa_nil))) (by rfl)) (pss_one (ps_ret (pe_tup (pa_cons (pe_xfP (T.xp _ hz) (T.hd _ hz) (T.no_id _ hz) ho (List.mem_cons_self ..) (pv 0)) pa_nil)))) (pss_nil)) (pss_cons (ps_if (pt_cmpR op_eq (pv 1) (pe_str) (nomark _)) (pss_one (ps_ret (pe_tup (pa_cons (pe_xfP (T.xp _ hz) (T.hd _ hz) (T.no_version _ hz) ho (List.mem_cons_self ..) (pv 0)) pa_nil)))) (pss_nil)) (pss_cons (ps_if (pt_cmpR op_eq (pv 1) (pe_str) (nomark _)) (pss_one (ps_ret (pe_tup (pa_cons (pe_xfP (T.xp _ hz) (T.hd _ hz) (T.no_hand _ hz) ho (List.mem_cons_self ..) (pv 0)) pa_nil)))) (pss_nil)) (pss_one (ps_ret (pe_tup pa_nil))))))))))), ?_⟩
  show Ly.Run K _ [.fz (excD p.1 dd e_1), .fz (E (name_2 : Str))] [] _
  unfold m_law_attributes at h
  refine run_seq (run_if (et_test (ev_eqS (ev_var rfl) ev_str)) (fun hb_3 => ?_) (fun hb_3 => ?_))
  · replace h := cond_t hb_3 h
    have h0 := obind_some h
    clear h
    obtain ⟨t_4, h_5, h⟩ := h0
    have k0 := Option.some.inj h
    clear h
    subst k0
    exact run_ret (s := .fz (E ((⟨[t_4]⟩ : Tup D) : (Tup D)))) (ev_tup (ds := [E (t_4 : D)]) (ea_cons (ev_fldE (ev_var rfl) h_5) ea_nil) (by show 1 ≤ sizeLine; decide)) ⟨rfl, .nil⟩
  · replace h := cond_f hb_3 h
    refine run_next ?_
    refine run_seq (run_if (et_test (ev_eqS (ev_var rfl) ev_str)) (fun hb_6 => ?_) (fun hb_6 => ?_))
    · replace h := cond_t hb_6 h
      have h0 := obind_some h
      clear h
      obtain ⟨t_7, h_8, h⟩ := h0
      have h0 := obind_some h
      clear h
      obtain ⟨t_9, h_10, h⟩ := h0
      have k0 := Option.some.inj h
      clear h
      subst k0
      exact run_ret (s := .fz (E ((⟨[t_7, t_9]⟩ : Tup D) : (Tup D)))) (ev_tup (ds := [E (t_7 : D), E (t_9 : D)]) (ea_cons (ev_fldE (ev_var rfl) h_8) (ea_cons (ev_fldE (ev_var rfl) h_10) ea_nil)) (by show 2 ≤ sizeLine; decide)) ⟨rfl, .nil⟩
    · replace h := cond_f hb_6 h
      refine run_next ?_
      refine run_seq (run_if (et_test (ev_eqS (ev_var rfl) ev_str)) (fun hb_11 => ?_) (fun hb_11 => ?_))
      · replace h := cond_t hb_11 h
        have h0 := obind_some h
        clear h
        obtain ⟨t_12, h_13, h⟩ := h0
        have h0 := obind_some h
        clear h
        obtain ⟨t_14, h_15, h⟩ := h0
        have k0 := Option.some.inj h
        clear h
        subst k0
        exact run_ret (s := .fz (E ((⟨[t_12, t_14]⟩ : Tup D) : (Tup D)))) (ev_tup (ds := [E (t_12 : D), E (t_14 : D)]) (ea_cons (ev_fldE (ev_var rfl) h_13) (ea_cons (ev_fldE (ev_var rfl) h_15) ea_nil)) (by show 2 ≤ sizeLine; decide)) ⟨rfl, .nil⟩
      · replace h := cond_f hb_11 h
        refine run_next ?_
        refine run_seq (run_if (et_test (ev_eqS (ev_var rfl) ev_str)) (fun hb_16 => ?_) (fun hb_16 => ?_))
        · replace h := cond_t hb_16 h
          have h0 := obind_some h
          clear h
          obtain ⟨t_17, h_18, h⟩ := h0
          have k0 := Option.some.inj h
          clear h
          subst k0
          exact run_ret (s := .fz (E ((⟨[t_17]⟩ : Tup D) : (Tup D)))) (ev_tup (ds := [E (t_17 : D)]) (ea_cons (ev_fldE (ev_var rfl) h_18) ea_nil) (by show 1 ≤ sizeLine; decide)) ⟨rfl, .nil⟩
        · replace h := cond_f hb_16 h
          refine run_next ?_
          refine run_seq (run_if (et_test (ev_eqS (ev_var rfl) ev_str)) (fun hb_19 => ?_) (fun hb_19 => ?_))
          · replace h := cond_t hb_19 h
            have h0 := obind_some h
            clear h
            obtain ⟨t_20, h_21, h⟩ := h0
            have k0 := Option.some.inj h
            clear h
            subst k0
            exact run_ret (s := .fz (E ((⟨[t_20]⟩ : Tup D) : (Tup D)))) (ev_tup (ds := [E (t_20 : D)]) (ea_cons (ev_fldE (ev_var rfl) h_21) ea_nil) (by show 1 ≤ sizeLine; decide)) ⟨rfl, .nil⟩
          · replace h := cond_f hb_19 h
            refine run_next ?_
            refine run_seq (run_if (et_test (ev_eqS (ev_var rfl) ev_str)) (fun hb_22 => ?_) (fun hb_22 => ?_))
            · replace h := cond_t hb_22 h
              have h0 := obind_some h
              clear h
              obtain ⟨t_23, h_24, h⟩ := h0
              have k0 := Option.some.inj h
              clear h
              subst k0
              exact run_ret (s := .fz (E ((⟨[t_23]⟩ : Tup D) : (Tup D)))) (ev_tup (ds := [E (t_23 : D)]) (ea_cons (ev_fldE (ev_var rfl) h_24) ea_nil) (by show 1 ≤ sizeLine; decide)) ⟨rfl, .nil⟩
            · replace h := cond_f hb_22 h
              refine run_next ?_
              refine run_seq (run_if (et_test (ev_inFl (x := name_2) (xs := [("Sealed" : Str), ("TwoFaces" : Str)]) (neg := false) (ev_var rfl) (ev_tup (ds := [E (("Sealed" : Str) : Str), E (("TwoFaces" : Str) : Str)]) (ea_cons ev_str (ea_cons ev_str ea_nil)) (by show 2 ≤ sizeLine; decide)) (.inr rfl))) (fun hb_25 => ?_) (fun hb_25 => ?_))
              · replace h := cond_t hb_25 h
                have h0 := obind_some h
                clear h
                obtain ⟨t_26, h_27, h⟩ := h0
                have k0 := Option.some.inj h
                clear h
                subst k0
                exact run_ret (s := .fz (E ((⟨[t_26]⟩ : Tup D) : (Tup D)))) (ev_tup (ds := [E (t_26 : D)]) (ea_cons (ev_fldE (ev_var rfl) h_27) ea_nil) (by show 1 ≤ sizeLine; decide)) ⟨rfl, .nil⟩
              · replace h := cond_f hb_25 h
                refine run_next ?_
                refine run_seq (run_if (et_test (ev_eqS (ev_var rfl) ev_str)) (fun hb_28 => ?_) (fun hb_28 => ?_))
                · replace h := cond_t hb_28 h
                  have h0 := obind_some h
                  clear h
                  obtain ⟨t_29, h_30, h⟩ := h0
                  have k0 := Option.some.inj h
                  clear h
                  subst k0
                  exact run_ret (s := .fz (E ((⟨[t_29]⟩ : Tup D) : (Tup D)))) (ev_tup (ds := [E (t_29 : D)]) (ea_cons (ev_fldE (ev_var rfl) h_30) ea_nil) (by show 1 ≤ sizeLine; decide)) ⟨rfl, .nil⟩
                · replace h := cond_f hb_28 h
                  refine run_next ?_
                  refine run_seq (run_if (et_test (ev_eqS (ev_var rfl) ev_str)) (fun hb_31 => ?_) (fun hb_31 => ?_))
                  · replace h := cond_t hb_31 h
                    have h0 := obind_some h
                    clear h
                    obtain ⟨t_32, h_33, h⟩ := h0
                    have k0 := Option.some.inj h
                    clear h
                    subst k0
                    exact run_ret (s := .fz (E ((⟨[t_32]⟩ : Tup D) : (Tup D)))) (ev_tup (ds := [E (t_32 : D)]) (ea_cons (ev_fldE (ev_var rfl) h_33) ea_nil) (by show 1 ≤ sizeLine; decide)) ⟨rfl, .nil⟩
                  · replace h := cond_f hb_31 h
                    refine run_next ?_
                    have k0 := Option.some.inj h
                    clear h
                    subst k0
                    exact run_ret (s := .fz (E ((⟨[]⟩ : Tup D) : (Tup D)))) (ev_tup (ds := []) ea_nil (by show 0 ≤ sizeLine; decide)) ⟨rfl, .nil⟩
theorem ok_law_error (T : Tx K mg) : FnP P w K mg base 2 T.a__law_error T.fd__law_error ["error"] (fun p => spR K (R_law_error T.cl p.1 p.2.cls p.2.dict)) := by
  have G__law_named := ok_law_named (P := P) (w := w) (base := base) T
  have G__law_attributes := ok_law_attributes (P := P) (w := w) (base := base) T
  refine fn_PR (k := 1) T.F__law_error sc__law_error (fun a cls d ρ os r os2 h => by obtain ⟨error_1, dd, hz, rfl, rfl, rfl, rfl, x, h, rfl, rfl⟩ := h; exact ⟨rfl, rfl, _, _, rfl, rfl⟩) fun cdv A outer s H EX p C dd hot hr ho => ?_
  have nd := sc__law_error.nd
  rintro ρ os r os2 ⟨error_1, dd2, hz, hcls, hdd, rfl, rfl, x, h, rfl, rfl⟩
  cases hcls
  cases hdd
  refine ⟨_, pss_cons (ps_set (i := 1) nd rfl (Or.inl rfl) (pe_callQ (K := K) (Rl := R_law_named T.cl) G__law_named (hr.mono (by decide)) hot (List.mem_cons_self ..) ho.1 (by rfl) T.g__law_named T.F__law_named.kp T.B__law_named (pa_cons (pv 0) pa_nil))) (pss_one (ps_ret (pe_lst (pa_cons (pe_str) (pa_cons (pv 1) (pa_cons (pe_callQ (K := K) (Rl := R_law_attributes T.cl) G__law_attributes (hr.mono (by decide)) hot (List.mem_cons_self ..) ho.1 (by rfl) T.g__law_attributes T.F__law_attributes.kp T.B__law_attributes (pa_cons (pv 0) (pa_cons (pv 1) pa_nil))) pa_nil)))))), ?_⟩
  show Ly.Run K _ [.fz (excD p.1 dd error_1), .un] [] _
  unfold m_law_error at h
  have h0 := obind_some h
  clear h
  obtain ⟨r_2, h_3, h⟩ := h0
  refine run_seq (run_asg (i := 1) (s := .fz (E (r_2 : Str))) (ev_call (Rl := (R_law_named T.cl p.1 (.ref (T.cl error_1.c)) (some dd))) (ds := [excD p.1 dd error_1]) (ea_cons (ev_var rfl) ea_nil) ⟨error_1, dd, hz, rfl, rfl, rfl, rfl, r_2, h_3, rfl, rfl⟩) ?_) 
  have h0 := obind_some h
  clear h
  obtain ⟨r_4, h_5, h⟩ := h0
  have k0 := Option.some.inj h
  clear h
  subst k0
  exact run_retN (en_new (ds := [E (("raised" : Str) : Str), E (r_2 : Str), E (r_4 : (Tup D))]) (ea_cons ev_str (ea_cons (ev_var rfl) (ea_cons (ev_call (Rl := (R_law_attributes T.cl p.1 (.ref (T.cl error_1.c)) (some dd))) (ds := [excD p.1 dd error_1, E (r_2 : Str)]) (ea_cons (ev_var rfl) (ea_cons (ev_var rfl) ea_nil)) ⟨error_1, dd, r_2, hz, rfl, rfl, rfl, rfl, r_4, h_5, rfl, rfl⟩) ea_nil))) (by show 3 ≤ sizeLine; decide)) ⟨(by show 0 ≤ 0; decide), rfl, .nil⟩
theorem ok_law_rising (T : Tx K mg) : FnOk P w K mg base CX0 1 T.a__law_rising T.fd__law_rising ["numbers"] (spR K R_law_rising) := by
  refine fn_R (k := 0) T.F__law_rising sc__law_rising (fun ρ os r os2 h => by obtain ⟨numbers_1, rfl, rfl, x, h, rfl, rfl⟩ := h; exact ⟨rfl, rfl⟩) fun cdv A outer s H EX hr => ?_
  have nd := sc__law_rising.nd
  refine ⟨_, pss_cons (ps_set (i := 1) nd rfl (Or.inl rfl) (pe_op op_rep (pe_lst (pa_cons (pe_int) pa_nil)) (pe_callB (call_lenK (K := K) rfl) (by rfl) T.b_len (by decide +kernel) (pa_cons (pv 0) pa_nil)))) (pss_cons (ps_for PassesOwn.never rfl (pi_range1 (by rfl) T.b_range (pa_cons (pe_callB (call_lenK (K := K) rfl) (by rfl) T.b_len (by decide +kernel) (pa_cons (pv 0) pa_nil)) pa_nil)) (pg_name (i := 2) nd rfl (Or.inl rfl)) (pss_cons (ps_set (i := 5) nd rfl (Or.inl rfl) (pe_op op_sub (pe_op op_sub (pe_callB (call_lenK (K := K) rfl) (by rfl) T.b_len (by decide +kernel) (pa_cons (pv 0) pa_nil)) (pe_int)) (pv 2))) (pss_one (ps_for PassesOwn.never rfl (pi_range2 (by rfl) T.b_range (pa_cons (pe_op op_add (pv 5) (pe_int)) (pa_cons (pe_callB (call_lenK (K := K) rfl) (by rfl) T.b_len (by decide +kernel) (pa_cons (pv 0) pa_nil)) pa_nil))) (pg_name (i := 6) nd rfl (Or.inl rfl)) (pss_one (ps_if (pt_cmpR op_gt (pe_ix (ix_listK (K := K) rfl) (pv 0) (pv 6) (fun _ _ => rfl)) (pe_ix (ix_listK (K := K) rfl) (pv 0) (pv 5) (fun _ _ => rfl)) (nomark _)) (pss_one (ps_asg (pe_callB (call_max2 rfl) (by rfl) T.b_max (by decide +kernel) (pa_cons (pe_ix (ix_listK (K := K) rfl) (pv 1) (pv 5) (fun _ _ => rfl)) (pa_cons (pe_op op_add (pe_ix (ix_listK (K := K) rfl) (pv 1) (pv 6) (fun _ _ => rfl)) (pe_int)) pa_nil))) (pg_sub (pv 1) (pv 5) set_list))) (pss_nil))))))) (pss_cons (ps_set (i := 3) nd rfl (Or.inl rfl) (pe_lst pa_nil)) (pss_cons (ps_set (i := 4) nd rfl (Or.inl rfl) (pe_ifExp (pt_cmpR op_gt (pe_callB (call_lenK (K := K) rfl) (by rfl) T.b_len (by decide +kernel) (pa_cons (pv 1) pa_nil)) (pe_int) (nomark _)) (pe_callB (call_maxI rfl (K := K) rfl hr.units) (by rfl) T.b_max (by decide +kernel) (pa_cons (pv 1) pa_nil)) (pe_int))) (pss_cons (ps_for PassesOwn.never rfl (pi_range1 (by rfl) T.b_range (pa_cons (pe_callB (call_lenK (K := K) rfl) (by rfl) T.b_len (by decide +kernel) (pa_cons (pv 0) pa_nil)) pa_nil)) (pg_name (i := 5) nd rfl (Or.inl rfl)) (pss_one (ps_if (PW.pt (pw_and (pt_cmpR op_gt (pv 4) (pe_int) (nomark _)) (pw_and (pt_cmpR op_eq (pe_ix (ix_listK (K := K) rfl) (pv 1) (pv 5) (fun _ _ => rfl)) (pv 4) (nomark _)) (pw_and1 (PW.pt (pw_or (pt_cmpR op_eq (pe_callB (call_lenK (K := K) rfl) (by rfl) T.b_len (by decide +kernel) (pa_cons (pv 3) pa_nil)) (pe_int) (nomark _)) (pw_or1 (pt_cmpR op_gt (pe_ix (ix_listK (K := K) rfl) (pv 0) (pv 5) (fun _ _ => rfl)) (pe_ix (ix_listK (K := K) rfl) (pv 0) (pe_ix (ix_listK (K := K) rfl) (pv 3) (pe_un un_neg pe_int) (fun _ _ => rfl)) (fun _ _ => rfl)) (nomark _))))))))) (pss_cons (ps_expr (pe_bmK (K := K) rfl PySem.F.plainAttrs_list PySem.F.slot_list_append PySem.F.type_list_append mt_append (pv 3) (pa_cons (pv 5) pa_nil))) (pss_one (ps_set (i := 4) nd rfl (Or.inl rfl) (pe_op op_sub (pv 4) (pe_int))))) (pss_nil)))) (pss_one (ps_ret (pv 3))))))), ?_⟩
  rintro ρ os r os2 ⟨numbers_1, rfl, rfl, x, h, rfl, rfl⟩
  show Ly.Run K _ [.fz (E (numbers_1 : (List Int))), .un, .un, .un, .un, .un, .un] [] _
  unfold m_law_rising at h
  have h0 := obind_some h
  clear h
  obtain ⟨ys_2, h_3, h⟩ := h0
  refine run_seq (run_asgN (i := 1) (d := E (ys_2 : (List Int))) (en_rep (a := [(1 : Int)]) (en_new (ds := [E ((1 : Int) : Int)]) (ea_cons ev_int ea_nil) (by show 1 ≤ sizeLine; decide)) (ev_lenL (xs := numbers_1) (ea_cons (ev_var rfl) ea_nil) rfl) h_3) ?_) 
  have h0 := obind_some h
  clear h
  obtain ⟨rg_4, h_5, h⟩ := h0
  have h0 := obind_some h
  clear h
  obtain ⟨w_25, h_26, h⟩ := h0
  show Ly.Run _ _ [.fz (E (numbers_1 : (List Int))), .at 0, .un, .un, .un, .un, .un] [.has (E (ys_2 : (List Int)))] _
  refine run_seq (run_forN (fun (s_6 : (List Int)) => [.fz (E (numbers_1 : (List Int))), .at 0, .un, .un, .un, .un, .un]) (fun (s_6 : (List Int)) => [.has (E (s_6 : (List Int)))]) (src_rng1O (ea_cons (ev_lenL (xs := numbers_1) (ea_cons (ev_var rfl) ea_nil) rfl) ea_nil) h_5) h_26 (by exact ⟨(.fz (.at (by show 0 < 1; decide) (.un (.un (.un (.un (.un .nil))))))), (.has .nil)⟩) (fun _ => rfl) ?_ ?_)
  · rintro turn_7 s_6 c hx h
    dsimp only [m_law_rising_l2] at h
    refine ⟨_, _, tgb_name, ?_⟩
    refine run_seq (run_asg (i := 5) (s := .fz (E ((((numbers_1.length : Int) - (1 : Int)) - turn_7) : Int))) (ev_sub (ev_sub (ev_lenL (xs := numbers_1) (ea_cons (ev_var rfl) ea_nil) rfl) ev_int) (ev_var rfl)) ?_) 
    have h0 := obind_some h
    clear h
    obtain ⟨rg_8, h_9, h⟩ := h0
    have h0 := obind_some h
    clear h
    obtain ⟨w_23, h_24, h⟩ := h0
    show Ly.Run _ _ [.fz (E (numbers_1 : (List Int))), .at 0, .fz (E (turn_7 : Int)), .un, .un, .fz (E ((((numbers_1.length : Int) - (1 : Int)) - turn_7) : Int)), .un] [.has (E (s_6 : (List Int)))] _
    refine run_forN (fun (s_10 : (List Int)) => [.fz (E (numbers_1 : (List Int))), .at 0, .fz (E (turn_7 : Int)), .un, .un, .fz (E ((((numbers_1.length : Int) - (1 : Int)) - turn_7) : Int)), .un]) (fun (s_10 : (List Int)) => [.has (E (s_10 : (List Int)))]) (src_rng2O (ea_cons (ev_add (ev_var rfl) ev_int) (ea_cons (ev_lenL (xs := numbers_1) (ea_cons (ev_var rfl) ea_nil) rfl) ea_nil)) h_9) h_24 (by exact ⟨(.fz (.at (by show 0 < 1; decide) (.fz (.un (.un (.fz (.un .nil))))))), (.has .nil)⟩) (fun _ => rfl) ?_ ?_
    · rintro later_11 s_10 c hx h
      dsimp only [m_law_rising_l1] at h
      refine ⟨_, _, tgb_name, ?_⟩
      have h0 := obind_some h
      clear h
      obtain ⟨t_12, h_13, h⟩ := h0
      have h0 := obind_some h
      clear h
      obtain ⟨t_14, h_15, h⟩ := h0
      refine run_if (et_test (ev_gt (ev_ix (xs := numbers_1) (ev_var rfl) (ev_var rfl) rfl h_13) (ev_ix (xs := numbers_1) (ev_var rfl) (ev_var rfl) rfl h_15))) (fun hb_16 => ?_) (fun hb_16 => ?_)
      · replace h := cond_t hb_16 h
        have h0 := obind_some h
        clear h
        obtain ⟨t_17, h_18, h⟩ := h0
        have h0 := obind_some h
        clear h
        obtain ⟨t_19, h_20, h⟩ := h0
        have h0 := obind_some h
        clear h
        obtain ⟨longest_21, h_22, h⟩ := h0
        refine run_setO (xs := s_10) (x := (max2 t_17 (t_19 + (1 : Int)))) (ev_max2 (ea_cons (ev_ix (xs := s_10) (ev_var rfl) (ev_var rfl) rfl h_18) (ea_cons (ev_add (ev_ix (xs := s_10) (ev_var rfl) (ev_var rfl) rfl h_20) ev_int) ea_nil))) (ev_var rfl) (ev_var rfl) rfl h_22 ?_
        cases h
        exact ⟨_, rfl, ⟨(.fz (.at (by show 0 < 1; decide) (.fz (.un (.un (.fz (.un .nil))))))), (.has .nil)⟩⟩
      · replace h := cond_f hb_16 h
        refine run_next ?_
        cases h
        exact ⟨_, rfl, ⟨(.fz (.at (by show 0 < 1; decide) (.fz (.un (.un (.fz (.un .nil))))))), (.has .nil)⟩⟩
    cases h
    exact ⟨_, rfl, ⟨(.fz (.at (by show 0 < 1; decide) (.un (.un (.un (.un (.un .nil))))))), (.has .nil)⟩⟩
  refine run_seq (run_asgN (i := 3) (d := E (([] : (List Int)) : (List Int))) (en_new (ds := []) ea_nil (by show 0 ≤ sizeLine; decide)) ?_) 
  have h0 := obind_some h
  clear h
  obtain ⟨v_29, h_30, h⟩ := h0
  refine run_seq (run_asg (i := 4) (s := .fz (E (v_29 : Int))) (ev_if (s := .fz (E (v_29 : Int))) (os2 := [.has (E (w_25 : (List Int))), .has (E (([] : (List Int)) : (List Int)))]) (et_test (ev_gt (ev_lenL (xs := w_25) (ea_cons (ev_var rfl) ea_nil) rfl) ev_int)) (fun hb_31 => by have h := cond_t hb_31 h_30; have h0 := obind_some h; clear h; obtain ⟨m_27, h_28, h⟩ := h0; have k0 := Option.some.inj h; clear h; subst k0; exact (ev_extL (is := w_25) (ea_cons (ev_var rfl) ea_nil) rfl h_28)) (fun hb_31 => by have h := cond_f hb_31 h_30; have k0 := Option.some.inj h; clear h; subst k0; exact ev_int)) ?_) 
  have h0 := obind_some h
  clear h
  obtain ⟨rg_32, h_33, h⟩ := h0
  have h0 := obind_some h
  clear h
  obtain ⟨⟨left_57, w_58⟩, h_59, h⟩ := h0
  dsimp only at h
  show Ly.Run _ _ [.fz (E (numbers_1 : (List Int))), .at 0, .un, .at 1, .fz (E (v_29 : Int)), .un, .un] [.has (E (w_25 : (List Int))), .has (E (([] : (List Int)) : (List Int)))] _
  refine run_seq (run_forN (fun (⟨left_34, s_35⟩ : Int × (List Int)) => [.fz (E (numbers_1 : (List Int))), .at 0, .un, .at 1, .fz (E (left_34 : Int)), .un, .un]) (fun (⟨left_34, s_35⟩ : Int × (List Int)) => [.has (E (w_25 : (List Int))), .has (E (s_35 : (List Int)))]) (src_rng1O (ea_cons (ev_lenL (xs := numbers_1) (ea_cons (ev_var rfl) ea_nil) rfl) ea_nil) h_33) h_59 (by exact ⟨(.fz (.at (by show 0 < 2; decide) (.un (.at (by show 1 < 2; decide) (.fz (.un (.un .nil))))))), (.has (.has .nil))⟩) (fun _ => rfl) ?_ ?_)
  · rintro at_36 ⟨left_34, s_35⟩ c hx h
    dsimp only [m_law_rising_l3] at h
    refine ⟨_, _, tgb_name, ?_⟩
    have h0 := obind_some h
    clear h
    obtain ⟨b_51, h_52, h⟩ := h0
    refine run_if (et_and (b := b_51) (os2 := [.has (E (w_25 : (List Int))), .has (E (s_35 : (List Int)))]) (et_test (ev_gt (ev_var rfl) ev_int)) (fun hb_53 => by have h := cond_t hb_53 h_52; have h0 := obind_some h; clear h; obtain ⟨t_37, h_38, h⟩ := h0; have h0 := obind_some h; clear h; obtain ⟨b_48, h_49, h⟩ := h0; have k0 := Option.some.inj h; clear h; subst k0; exact (et_and (b := b_48) (os2 := [.has (E (w_25 : (List Int))), .has (E (s_35 : (List Int)))]) (et_test (ev_eqI (ev_ix (xs := w_25) (ev_var rfl) (ev_var rfl) rfl h_38) (ev_var rfl))) (fun hb_50 => by have h := cond_t hb_50 h_49; have h0 := obind_some h; clear h; obtain ⟨b_45, h_46, h⟩ := h0; have k0 := Option.some.inj h; clear h; subst k0; exact (et_or (b := b_45) (os2 := [.has (E (w_25 : (List Int))), .has (E (s_35 : (List Int)))]) (et_test (ev_eqI (ev_lenL (xs := s_35) (ea_cons (ev_var rfl) ea_nil) rfl) ev_int)) (fun hb_47 => by have h := cond_f hb_47 h_46; have h0 := obind_some h; clear h; obtain ⟨t_39, h_40, h⟩ := h0; have h0 := obind_some h; clear h; obtain ⟨t_41, h_42, h⟩ := h0; have h0 := obind_some h; clear h; obtain ⟨t_43, h_44, h⟩ := h0; have k0 := Option.some.inj h; clear h; subst k0; exact (et_test (ev_gt (ev_ix (xs := numbers_1) (ev_var rfl) (ev_var rfl) rfl h_40) (ev_ix (xs := numbers_1) (ev_var rfl) (ev_ix (xs := s_35) (ev_var rfl) (ev_neg ev_int) rfl h_42) rfl h_44)))) (fun hb_47 => by have h := cond_t hb_47 h_46; have k0 := Option.some.inj h; clear h; subst k0; exact ⟨rfl, rfl⟩))) (fun hb_50 => by have h := cond_f hb_50 h_49; have k0 := Option.some.inj h; clear h; subst k0; exact ⟨rfl, rfl⟩))) (fun hb_53 => by have h := cond_f hb_53 h_52; have k0 := Option.some.inj h; clear h; subst k0; exact ⟨rfl, rfl⟩)) (fun hb_54 => ?_) (fun hb_54 => ?_)
    · replace h := cond_t hb_54 h
      have h0 := obind_some h
      clear h
      obtain ⟨found_55, h_56, h⟩ := h0
      refine run_seq (run_drop (ev_appO (xs := s_35) (x := at_36) (ev_var rfl) ⟨_, rfl⟩ (ev_var rfl) rfl h_56) ?_) 
      refine run_asg (i := 4) (s := .fz (E ((left_34 - (1 : Int)) : Int))) (ev_sub (ev_var rfl) ev_int) ?_
      cases h
      exact ⟨_, rfl, ⟨(.fz (.at (by show 0 < 2; decide) (.un (.at (by show 1 < 2; decide) (.fz (.un (.un .nil))))))), (.has (.has .nil))⟩⟩
    · replace h := cond_f hb_54 h
      refine run_next ?_
      cases h
      exact ⟨_, rfl, ⟨(.fz (.at (by show 0 < 2; decide) (.un (.at (by show 1 < 2; decide) (.fz (.un (.un .nil))))))), (.has (.has .nil))⟩⟩
  have k0 := Option.some.inj h
  clear h
  subst k0
  exact run_ret (s := .at 1) (ev_var rfl) ⟨(by show 0 ≤ 1; decide), rfl, .nil⟩
theorem ok_law_all_rising (T : Tx K mg) : FnOk P w K mg base CX0 1 T.a__law_all_rising T.fd__law_all_rising ["numbers"] (spR K R_law_all_rising) := by
  refine fn_R (k := 0) T.F__law_all_rising sc__law_all_rising (fun ρ os r os2 h => by obtain ⟨numbers_1, rfl, rfl, x, h, rfl, rfl⟩ := h; exact ⟨rfl, rfl⟩) fun cdv A outer s H EX hr => ?_
  have nd := sc__law_all_rising.nd
  refine ⟨_, pss_cons (ps_set (i := 1) nd rfl (Or.inl rfl) (pe_lst (pa_cons (pe_lst pa_nil) pa_nil))) (pss_cons (ps_for PassesOwn.never rfl (pi_range1 (by rfl) T.b_range (pa_cons (pe_callB (call_lenK (K := K) rfl) (by rfl) T.b_len (by decide +kernel) (pa_cons (pv 0) pa_nil)) pa_nil)) (pg_name (i := 2) nd rfl (Or.inr rfl)) (pss_one (ps_set (i := 1) nd rfl (Or.inl rfl) (pe_op (op_catLK (K := K) rfl) (pv 1) (pe_lc (own := [("row", 3)]) rfl nd (pi_listK (K := K) rfl (pv 1)) (blkOk_by (own := [("row", 3)]) (N := ["numbers", "rows", "at", "row"]) (sc := defScope s__law_all_rising) (by decide +kernel)) (fun _ _ _ _ _ => pg_name (i := 3) nd rfl (Or.inl rfl)) (fun _ _ _ _ _ => pts_one (PW.pt (pw_or (pt_cmpR op_eq (pe_callB (call_lenK (K := K) rfl) (by rfl) T.b_len (by decide +kernel) (pa_cons (pv 3) pa_nil)) (pe_int) (nomark _)) (pw_or1 (pt_cmpR op_lt (pe_ix (ix_listK (K := K) rfl) (pv 0) (pe_ix (ix_listK (K := K) rfl) (pv 3) (pe_un un_neg pe_int) (fun _ _ => rfl)) (fun _ _ => rfl)) (pe_ix (ix_listK (K := K) rfl) (pv 0) (pv 2) (fun _ _ => rfl)) (nomark _)))))) (fun _ _ _ _ _ => pe_op (op_catLK (K := K) rfl) (pv 3) (pe_lst (pa_cons (pv 2) pa_nil)))))))) (pss_one (ps_ret (pv 1)))), ?_⟩
  rintro ρ os r os2 ⟨numbers_1, rfl, rfl, x, h, rfl, rfl⟩
  show Ly.Run K _ [.fz (E (numbers_1 : (List Int))), .un, .un, .un] [] _
  unfold m_law_all_rising at h
  refine run_seq (run_asg (i := 1) (s := .fz (E (([([] : (List Int))] : (List (List Int))) : (List (List Int))))) (ev_frz (en_new (ds := [E (([] : (List Int)) : (List Int))]) (ea_cons (ev_frz (en_new (ds := []) ea_nil (by show 0 ≤ sizeLine; decide))) ea_nil) (by show 1 ≤ sizeLine; decide))) ?_) 
  have h0 := obind_some h
  clear h
  obtain ⟨rg_2, h_3, h⟩ := h0
  have h0 := obind_some h
  clear h
  obtain ⟨rows_24, h_25, h⟩ := h0
  show Ly.Run _ _ [.fz (E (numbers_1 : (List Int))), .fz (E (([([] : (List Int))] : (List (List Int))) : (List (List Int)))), .un, .un] [] _
  refine run_seq (run_forN (fun (rows_4 : (List (List Int))) => [.fz (E (numbers_1 : (List Int))), .fz (E (rows_4 : (List (List Int)))), .un, .un]) (fun (rows_4 : (List (List Int))) => []) (src_rng1O (ea_cons (ev_lenL (xs := numbers_1) (ea_cons (ev_var rfl) ea_nil) rfl) ea_nil) h_3) h_25 (by exact ⟨(.fz (.fz (.un (.un .nil)))), .nil⟩) (fun _ => rfl) ?_ ?_)
  · rintro at_5 rows_4 c hx h
    dsimp only [m_law_all_rising_l1] at h
    refine ⟨_, _, tgb_name, ?_⟩
    have h0 := obind_some h
    clear h
    obtain ⟨⟨ys_18, u_19⟩, h_20, h⟩ := h0
    dsimp only at h
    have h0 := obind_some h
    clear h
    obtain ⟨ys_22, h_23, h⟩ := h0
    refine run_asg (i := 1) (s := .fz (E (ys_22 : (List (List Int))))) (ev_frz (en_cat (a := rows_4) (b := ys_18) (ev_var rfl) (ev_frz (en_lc (osh := fun (_ : Unit) => []) (src_lst (xs := rows_4) (ev_var rfl)) h_20 rfl (by
      rintro row_6 _u y s2 hx h
      dsimp only [m_law_all_rising_c1] at h
      have h0 := obind_some h
      clear h
      obtain ⟨b_13, h_14, h⟩ := h0
      refine ⟨_, _, tgb_name, by decide, _, _, (et_or (b := b_13) (os2 := []) (et_test (ev_eqI (ev_lenL (xs := row_6) (ea_cons (ev_var rfl) ea_nil) rfl) ev_int)) (fun hb_15 => by have h := cond_f hb_15 h_14; have h0 := obind_some h; clear h; obtain ⟨t_7, h_8, h⟩ := h0; have h0 := obind_some h; clear h; obtain ⟨t_9, h_10, h⟩ := h0; have h0 := obind_some h; clear h; obtain ⟨t_11, h_12, h⟩ := h0; have k0 := Option.some.inj h; clear h; subst k0; exact (et_test (ev_lt (ev_ix (xs := numbers_1) (ev_var rfl) (ev_ix (xs := row_6) (ev_var rfl) (ev_neg ev_int) rfl h_8) rfl h_10) (ev_ix (xs := numbers_1) (ev_var rfl) (ev_var rfl) rfl h_12)))) (fun hb_15 => by have h := cond_t hb_15 h_14; have k0 := Option.some.inj h; clear h; subst k0; exact ⟨rfl, rfl⟩)), fun hb_21 => ?_, fun hb_21 => ?_⟩
      · have h := cond_t hb_21 h; have h0 := obind_some h; clear h; obtain ⟨ys_16, h_17, h⟩ := h0; have k0 := Option.some.inj h; clear h; have k0p := Prod.mk.inj k0; clear k0; obtain ⟨e0, k1⟩ := k0p; subst e0; subst k1; exact ⟨_, rfl, (ev_frz (en_cat (a := row_6) (b := [at_5]) (ev_var rfl) (ev_frz (en_new (ds := [E (at_5 : Int)]) (ea_cons (ev_var rfl) ea_nil) (by show 1 ≤ sizeLine; decide))) h_17))⟩
      · have h := cond_f hb_21 h; cases h; exact ⟨rfl, rfl⟩))) h_23)) ?_
    cases h
    exact ⟨_, rfl, ⟨(.fz (.fz (.un (.un .nil)))), .nil⟩⟩
  have k0 := Option.some.inj h
  clear h
  subst k0
  exact run_ret (s := .fz (E (rows_24 : (List (List Int))))) (ev_var rfl) ⟨rfl, .nil⟩
theorem ok_law_due_row (T : Tx K mg) : FnOk P w K mg base CX0 2 T.a__law_due_row T.fd__law_due_row ["numbers"] (spR K R_law_due_row) := by
  have G__law_rising := ok_law_rising (P := P) (w := w) (base := base) T
  have G__law_all_rising := ok_law_all_rising (P := P) (w := w) (base := base) T
  refine fn_R (k := 1) T.F__law_due_row sc__law_due_row (fun ρ os r os2 h => by obtain ⟨numbers_1, rfl, rfl, x, h, rfl, rfl⟩ := h; exact ⟨rfl, rfl⟩) fun cdv A outer s H EX hr => ?_
  have nd := sc__law_due_row.nd
  refine ⟨_, pss_cons (ps_if (pt_cmpR op_gt (pe_callB (call_lenK (K := K) rfl) (by rfl) T.b_len (by decide +kernel) (pa_cons (pv 0) pa_nil)) (pe_int) (nomark _)) (pss_one (ps_ret (pe_call G__law_rising (hr.mono (by decide)) (by rfl) T.g__law_rising T.F__law_rising.kp T.B__law_rising .nil pass0 (pa_cons (pv 0) pa_nil)))) (pss_nil)) (pss_cons (ps_set (i := 1) nd rfl (Or.inl rfl) (pe_call G__law_all_rising (hr.mono (by decide)) (by rfl) T.g__law_all_rising T.F__law_all_rising.kp T.B__law_all_rising .nil pass0 (pa_cons (pv 0) pa_nil))) (pss_cons (ps_set (i := 2) nd rfl (Or.inr rfl) (pe_callB (call_maxI rfl (K := K) rfl hr.units) (by rfl) T.b_max (by decide +kernel) (pa_cons (pe_lc (own := [("row", 3)]) rfl nd (pi_listK (K := K) rfl (pv 1)) (blkOk_by (own := [("row", 3)]) (N := ["numbers", "rows", "most", "row"]) (sc := defScope s__law_due_row) (by decide +kernel)) (fun _ _ _ _ _ => pg_name (i := 3) nd rfl (Or.inl rfl)) (fun _ _ _ _ _ => pts_nil) (fun _ _ _ _ _ => pe_callB (call_lenK (K := K) rfl) (by rfl) T.b_len (by decide +kernel) (pa_cons (pv 3) pa_nil))) pa_nil))) (pss_one (ps_ret (pe_ix (ix_listK (K := K) rfl) (pe_callB (cr_sortLI (K := K) rfl hr.units) (by rfl) T.b_sorted (by decide +kernel) (pa_cons (pe_lc (own := [("row", 3)]) rfl nd (pi_listK (K := K) rfl (pv 1)) (blkOk_by (own := [("row", 3)]) (N := ["numbers", "rows", "most", "row"]) (sc := defScope s__law_due_row) (by decide +kernel)) (fun _ _ _ _ _ => pg_name (i := 3) nd rfl (Or.inl rfl)) (fun _ _ _ _ _ => pts_one (pt_cmpR op_eq (pe_callB (call_lenK (K := K) rfl) (by rfl) T.b_len (by decide +kernel) (pa_cons (pv 3) pa_nil)) (pv 2) (nomark _))) (fun _ _ _ _ _ => pv 3)) pa_nil)) (pe_int) (fun _ _ => rfl)))))), ?_⟩
  rintro ρ os r os2 ⟨numbers_1, rfl, rfl, x, h, rfl, rfl⟩
  show Ly.Run K _ [.fz (E (numbers_1 : (List Int))), .un, .un, .un] [] _
  unfold m_law_due_row at h
  refine run_seq (run_if (et_test (ev_gt (ev_lenL (xs := numbers_1) (ea_cons (ev_var rfl) ea_nil) rfl) ev_int)) (fun hb_2 => ?_) (fun hb_2 => ?_))
  · replace h := cond_t hb_2 h
    have h0 := obind_some h
    clear h
    obtain ⟨r_3, h_4, h⟩ := h0
    have k0 := Option.some.inj h
    clear h
    subst k0
    exact run_ret (s := .fz (E (r_3 : (List Int)))) (ev_frz (en_call (Rl := R_law_rising) (ds := [E (numbers_1 : (List Int))]) (ea_cons (ev_var rfl) ea_nil) ⟨numbers_1, rfl, rfl, r_3, h_4, rfl, rfl⟩)) ⟨rfl, .nil⟩
  · replace h := cond_f hb_2 h
    refine run_next ?_
    have h0 := obind_some h
    clear h
    obtain ⟨r_5, h_6, h⟩ := h0
    refine run_seq (run_asg (i := 1) (s := .fz (E (r_5 : (List (List Int))))) (ev_call (Rl := R_law_all_rising) (ds := [E (numbers_1 : (List Int))]) (ea_cons (ev_var rfl) ea_nil) ⟨numbers_1, rfl, rfl, r_5, h_6, rfl, rfl⟩) ?_) 
    have h0 := obind_some h
    clear h
    obtain ⟨ys_8, h_9, h⟩ := h0
    have h0 := obind_some h
    clear h
    obtain ⟨m_10, h_11, h⟩ := h0
    refine run_seq (run_asg (i := 2) (s := .fz (E (m_10 : Int))) (ev_extL (is := ys_8) (ea_cons (ev_frz (en_lcM (src_lst (xs := r_5) (ev_var rfl)) h_9 (by rintro row_7 hx; exact ⟨_, _, tgb_name, by decide, (ev_lenL (xs := row_7) (ea_cons (ev_var rfl) ea_nil) rfl)⟩))) ea_nil) rfl h_11) ?_) 
    have h0 := obind_some h
    clear h
    obtain ⟨ys_13, h_14, h⟩ := h0
    have h0 := obind_some h
    clear h
    obtain ⟨ys_15, h_16, h⟩ := h0
    have h0 := obind_some h
    clear h
    obtain ⟨t_17, h_18, h⟩ := h0
    have k0 := Option.some.inj h
    clear h
    subst k0
    exact run_ret (s := .fz (E (t_17 : (List Int)))) (ev_ix (xs := ys_15) (ev_frz (en_sortLI (bs := ys_13) (ea_cons (ev_frz (en_lcF (src_lst (xs := r_5) (ev_var rfl)) h_14 (by rintro row_12 hx; exact ⟨_, _, tgb_name, by decide, (et_test (ev_eqI (ev_lenL (xs := row_12) (ea_cons (ev_var rfl) ea_nil) rfl) (ev_var rfl))), fun _ => (ev_var rfl)⟩))) ea_nil) rfl h_16)) ev_int rfl h_18) ⟨rfl, .nil⟩
theorem ok_law_mixed (T : Tx K mg) : FnOk P w K mg base CX0 3 T.a__law_mixed T.fd__law_mixed ["stream", "many"] (spR K R_law_mixed) := by
  have G__law_next := ok_law_next (P := P) (w := w) (base := base) T
  have G__law_shuffled := ok_law_shuffled (P := P) (w := w) (base := base) T
  have G__law_from := ok_law_from (P := P) (w := w) (base := base) T
  refine fn_R (k := 2) T.F__law_mixed sc__law_mixed (fun ρ os r os2 h => by obtain ⟨stream_1, many_2, rfl, rfl, x, s0, h, rfl, rfl⟩ := h; exact ⟨rfl, rfl⟩) fun cdv A outer s H EX hr => ?_
  have nd := sc__law_mixed.nd
  refine ⟨_, pss_cons (ps_if (PW.pt (pw_and (pt_cmpR op_lt (pv 1) (pe_int) (nomark _)) (pw_and1 (pt_cmpR op_eq (pe_call G__law_next (hr.mono (by decide)) (by rfl) T.g__law_next T.F__law_next.kp T.B__law_next .nil pass0 (pa_cons (pv 0) (pa_cons (pe_int) pa_nil))) (pe_int) (nomark _))))) (pss_one (ps_ret (pe_call G__law_shuffled (hr.mono (by decide)) (by rfl) T.g__law_shuffled T.F__law_shuffled.kp T.B__law_shuffled .nil pass0 (pa_cons (pv 0) (pa_cons (pe_listRg rfl (by rfl) T.b_list (prg_1 (by rfl) T.b_range (pv 1))) pa_nil))))) (pss_nil)) (pss_cons (ps_set (i := 2) nd rfl (Or.inl rfl) (pe_lst pa_nil)) (pss_cons (ps_set (i := 3) nd rfl (Or.inl rfl) (pe_int)) (pss_cons (ps_for PassesOwn.never rfl (pi_range1 (by rfl) T.b_range (pa_cons (pv 1) pa_nil)) (pg_name (i := 4) nd rfl (Or.inl rfl)) (pss_one (ps_if (pt_cmpR op_lt (pv 3) (pv 1) (nomark _)) (pss_cons (ps_set (i := 7) nd rfl (Or.inr rfl) (pe_callB (call_min2 rfl) (by rfl) T.b_min (by decide +kernel) (pa_cons (pe_op op_sub (pv 1) (pv 3)) (pa_cons (pe_call G__law_from (hr.mono (by decide)) (by rfl) T.g__law_from T.F__law_from.kp T.B__law_from .nil pass0 (pa_cons (pv 0) (pa_cons (pe_int) (pa_cons (pe_ifExp (pt_cmpR op_lt (pv 1) (pe_int) (nomark _)) (pe_int) (pe_int)) pa_nil)))) pa_nil)))) (pss_cons (ps_set (i := 6) nd rfl (Or.inr rfl) (pe_listRg rfl (by rfl) T.b_list (prg_2 (by rfl) T.b_range (pv 3) (pe_op op_add (pv 3) (pv 7))))) (pss_cons (ps_expr (pe_bmK (K := K) rfl PySem.F.plainAttrs_list PySem.F.slot_list_append PySem.F.type_list_append mt_append (pv 2) (pa_cons (pe_ifExp (pt_cmpR op_gt (pe_call G__law_next (hr.mono (by decide)) (by rfl) T.g__law_next T.F__law_next.kp T.B__law_next .nil pass0 (pa_cons (pv 0) (pa_cons (pe_int) pa_nil))) (pe_int) (nomark _)) (pv 6) (pe_lc (own := [("k", 8)]) rfl nd (pi_range1 (by rfl) T.b_range (pa_cons (pv 7) pa_nil)) (blkOk_by (own := [("k", 8)]) (N := ["stream", "many", "parts", "at", "turn", "found", "part", "size", "k"]) (sc := defScope s__law_mixed) (by decide +kernel)) (fun _ _ _ _ _ => pg_name (i := 8) nd rfl (Or.inl rfl)) (fun _ _ _ _ _ => pts_nil) (fun _ _ _ _ _ => pe_ix (ix_listK (K := K) rfl) (pv 6) (pe_op op_sub (pe_op op_sub (pv 7) (pe_int)) (pv 8)) (fun _ _ => rfl)))) pa_nil))) (pss_one (ps_set (i := 3) nd rfl (Or.inl rfl) (pe_op op_add (pv 3) (pv 7))))))) (pss_nil)))) (pss_cons (ps_set (i := 5) nd rfl (Or.inl rfl) (pe_lst pa_nil)) (pss_cons (ps_for PassesOwn.never rfl (pi_listK (K := K) rfl (pe_call G__law_shuffled (hr.mono (by decide)) (by rfl) T.g__law_shuffled T.F__law_shuffled.kp T.B__law_shuffled .nil pass0 (pa_cons (pv 0) (pa_cons (pv 2) pa_nil)))) (pg_name (i := 6) nd rfl (Or.inr rfl)) (pss_one (ps_set (i := 5) nd rfl (Or.inl rfl) (pe_op (op_catLK (K := K) rfl) (pv 5) (pv 6))))) (pss_one (ps_ret (pv 5)))))))), ?_⟩
  rintro ρ os r os2 ⟨stream_1, many_2, rfl, rfl, x, s0, h, rfl, rfl⟩
  show Ly.Run K _ [.at 0, .fz (E (many_2 : Int)), .un, .un, .un, .un, .un, .un, .un] [.has (E (stream_1 : (LH3 (List Int) Int Int)))] _
  unfold m_law_mixed at h
  have h0 := obind_some h
  clear h
  obtain ⟨⟨b_6, w_7⟩, h_8, h⟩ := h0
  dsimp only at h
  refine run_seq (run_if (et_and (b := b_6) (os2 := [.has (E (w_7 : (LH3 (List Int) Int Int)))]) (et_test (ev_lt (ev_var rfl) ev_int)) (fun hb_9 => by have h := cond_t hb_9 h_8; have h0 := obind_some h; clear h; obtain ⟨⟨r_3, w_4⟩, h_5, h⟩ := h0; dsimp only at h; have k0 := Option.some.inj h; clear h; have k0p := Prod.mk.inj k0; clear k0; obtain ⟨e0, k1⟩ := k0p; subst e0; subst k1; exact (et_test (ev_eqI (ev_call1 (Rl := R_law_next) (n := 0) (ea_cons (ev_var rfl) (ea_cons ev_int ea_nil)) rfl ⟨stream_1, (2 : Int), rfl, rfl, r_3, w_4, h_5, rfl, rfl⟩) ev_int))) (fun hb_9 => by have h := cond_f hb_9 h_8; have k0 := Option.some.inj h; clear h; have k0p := Prod.mk.inj k0; clear k0; obtain ⟨e0, k1⟩ := k0p; subst e0; subst k1; exact ⟨rfl, rfl⟩)) (fun hb_10 => ?_) (fun hb_10 => ?_))
  · replace h := cond_t hb_10 h
    have h0 := obind_some h
    clear h
    obtain ⟨rg_11, h_12, h⟩ := h0
    have h0 := obind_some h
    clear h
    obtain ⟨⟨r_13, w_14⟩, h_15, h⟩ := h0
    dsimp only at h
    have k0 := Option.some.inj h
    clear h
    have k0p := Prod.mk.inj k0
    clear k0
    obtain ⟨e0, k1⟩ := k0p
    subst e0
    subst k1
    exact run_ret (s := .fz (E (r_13 : (List Int)))) (ev_frz (en_call1 (Rl := R_law_shuffled) (n := 0) (ea_cons (ev_var rfl) (ea_cons (ev_frz (en_listRg1 (ev_var rfl) h_12)) ea_nil)) rfl ⟨Int, inferInstance, w_7, rg_11, rfl, rfl, r_13, w_14, h_15, rfl, rfl⟩)) ⟨rfl, (.has .nil)⟩
  · replace h := cond_f hb_10 h
    refine run_next ?_
    refine run_seq (run_asgN (i := 2) (d := E (([] : (List (List Int))) : (List (List Int)))) (en_new (ds := []) ea_nil (by show 0 ≤ sizeLine; decide)) ?_) 
    refine run_seq (run_asg (i := 3) (s := .fz (E ((0 : Int) : Int))) ev_int ?_) 
    have h0 := obind_some h
    clear h
    obtain ⟨rg_16, h_17, h⟩ := h0
    have h0 := obind_some h
    clear h
    obtain ⟨⟨at_44, w_45, w_46⟩, h_47, h⟩ := h0
    dsimp only at h
    show Ly.Run _ _ [.at 0, .fz (E (many_2 : Int)), .at 1, .fz (E ((0 : Int) : Int)), .un, .un, .un, .un, .un] [.has (E (w_7 : (LH3 (List Int) Int Int))), .has (E (([] : (List (List Int))) : (List (List Int))))] _
    refine run_seq (run_forN (fun (⟨at_18, s_19, s_20⟩ : Int × (LH3 (List Int) Int Int) × (List (List Int))) => [.at 0, .fz (E (many_2 : Int)), .at 1, .fz (E (at_18 : Int)), .un, .un, .un, .un, .un]) (fun (⟨at_18, s_19, s_20⟩ : Int × (LH3 (List Int) Int Int) × (List (List Int))) => [.has (E (s_19 : (LH3 (List Int) Int Int))), .has (E (s_20 : (List (List Int))))]) (src_rng1O (ea_cons (ev_var rfl) ea_nil) h_17) h_47 (by exact ⟨(.at (by show 0 < 2; decide) (.fz (.at (by show 1 < 2; decide) (.fz (.un (.un (.un (.un (.un .nil))))))))), (.has (.has .nil))⟩) (fun _ => rfl) ?_ ?_)
    · rintro turn_21 ⟨at_18, s_19, s_20⟩ c hx h
      dsimp only [m_law_mixed_l1] at h
      refine ⟨_, _, tgb_name, ?_⟩
      refine run_if (et_test (ev_lt (ev_var rfl) (ev_var rfl))) (fun hb_22 => ?_) (fun hb_22 => ?_)
      · replace h := cond_t hb_22 h
        have h0 := obind_some h
        clear h
        obtain ⟨⟨r_23, w_24⟩, h_25, h⟩ := h0
        dsimp only at h
        refine run_seq (run_asg (i := 7) (s := .fz (E ((min2 (many_2 - at_18) r_23) : Int))) (ev_min2 (ea_cons (ev_sub (ev_var rfl) (ev_var rfl)) (ea_cons (ev_call1 (Rl := R_law_from) (n := 0) (ea_cons (ev_var rfl) (ea_cons ev_int (ea_cons (ev_ifP (α := Int) (et_test (ev_lt (ev_var rfl) ev_int)) ev_int ev_int) ea_nil))) rfl ⟨s_19, (1 : Int), (cond (decide (many_2 < (10 : Int))) (4 : Int) (12 : Int)), rfl, rfl, r_23, w_24, h_25, rfl, rfl⟩) ea_nil))) ?_) 
        have h0 := obind_some h
        clear h
        obtain ⟨rg_26, h_27, h⟩ := h0
        refine run_seq (run_asg (i := 6) (s := .fz (E (rg_26 : (List Int)))) (ev_frz (en_listRg2 (ev_var rfl) (ev_add (ev_var rfl) (ev_var rfl)) h_27)) ?_) 
        have h0 := obind_some h
        clear h
        obtain ⟨⟨r_28, w_29⟩, h_30, h⟩ := h0
        dsimp only at h
        have h0 := obind_some h
        clear h
        obtain ⟨v_39, h_40, h⟩ := h0
        have h0 := obind_some h
        clear h
        obtain ⟨parts_42, h_43, h⟩ := h0
        refine run_seq (run_drop (ev_appO (xs := s_20) (x := v_39) (ev_var rfl) ⟨_, rfl⟩ (ev_if (s := .fz (E (v_39 : (List Int)))) (os2 := [.has (E (w_29 : (LH3 (List Int) Int Int))), .has (E (s_20 : (List (List Int))))]) (et_test (ev_gt (ev_call1 (Rl := R_law_next) (n := 0) (ea_cons (ev_var rfl) (ea_cons ev_int ea_nil)) rfl ⟨w_24, (3 : Int), rfl, rfl, r_28, w_29, h_30, rfl, rfl⟩) ev_int)) (fun hb_41 => by have h := cond_t hb_41 h_40; have k0 := Option.some.inj h; clear h; subst k0; exact (ev_var rfl)) (fun hb_41 => by have h := cond_f hb_41 h_40; have h0 := obind_some h; clear h; obtain ⟨rg_31, h_32, h⟩ := h0; have h0 := obind_some h; clear h; obtain ⟨⟨ys_36, u_37⟩, h_38, h⟩ := h0; dsimp only at h; have k0 := Option.some.inj h; clear h; subst k0; exact (ev_frz (en_lc (osh := fun (_ : Unit) => [.has (E (w_29 : (LH3 (List Int) Int Int))), .has (E (s_20 : (List (List Int))))]) (src_rng1O (ea_cons (ev_var rfl) ea_nil) h_32) h_38 rfl (by
      rintro k_33 _u y s2 hx h
      dsimp only [m_law_mixed_c1] at h
      have h0 := obind_some h
      clear h
      obtain ⟨t_34, h_35, h⟩ := h0
      have k0 := Option.some.inj h
      clear h
      have k0p := Prod.mk.inj k0
      clear k0
      obtain ⟨e0, k1⟩ := k0p
      subst e0
      subst k1
      exact ⟨_, _, tgb_name, by decide, true, _, (fun R F ps σ H Q I q => q F H (Ex.refl F) I), fun _ => ⟨_, rfl, (ev_ix (xs := rg_26) (ev_var rfl) (ev_sub (ev_sub (ev_var rfl) ev_int) (ev_var rfl)) rfl h_35)⟩, fun z => nomatch z⟩))))) rfl h_43) ?_) 
        refine run_asg (i := 3) (s := .fz (E ((at_18 + (min2 (many_2 - at_18) r_23)) : Int))) (ev_add (ev_var rfl) (ev_var rfl)) ?_
        cases h
        exact ⟨_, rfl, ⟨(.at (by show 0 < 2; decide) (.fz (.at (by show 1 < 2; decide) (.fz (.un (.un (.un (.un (.un .nil))))))))), (.has (.has .nil))⟩⟩
      · replace h := cond_f hb_22 h
        refine run_next ?_
        cases h
        exact ⟨_, rfl, ⟨(.at (by show 0 < 2; decide) (.fz (.at (by show 1 < 2; decide) (.fz (.un (.un (.un (.un (.un .nil))))))))), (.has (.has .nil))⟩⟩
    refine run_seq (run_asg (i := 5) (s := .fz (E (([] : (List Int)) : (List Int)))) (ev_frz (en_new (ds := []) ea_nil (by show 0 ≤ sizeLine; decide))) ?_) 
    refine run_still (i := 1) (j := 2) (d := E (w_46 : (List (List Int)))) rfl rfl ?_
    have h0 := obind_some h
    clear h
    obtain ⟨⟨r_48, w_49⟩, h_50, h⟩ := h0
    dsimp only at h
    have h0 := obind_some h
    clear h
    obtain ⟨found_55, h_56, h⟩ := h0
    show Ly.Run _ _ [.at 0, .fz (E (many_2 : Int)), .fz (E (w_46 : (List (List Int)))), .fz (E (at_44 : Int)), .un, .fz (E (([] : (List Int)) : (List Int))), .un, .un, .un] [.has (E (w_45 : (LH3 (List Int) Int Int))), .gone] _
    refine run_seq (run_forN (fun (found_51 : (List Int)) => [.at 0, .fz (E (many_2 : Int)), .fz (E (w_46 : (List (List Int)))), .fz (E (at_44 : Int)), .un, .fz (E (found_51 : (List Int))), .un, .un, .un]) (fun (found_51 : (List Int)) => [.has (E (w_49 : (LH3 (List Int) Int Int))), .gone]) (src_lst (xs := r_48) (ev_frz (en_call1 (Rl := R_law_shuffled) (n := 0) (ea_cons (ev_var rfl) (ea_cons (ev_var rfl) ea_nil)) rfl ⟨(List Int), inferInstance, w_45, w_46, rfl, rfl, r_48, w_49, h_50, rfl, rfl⟩))) h_56 (by exact ⟨(.at (by show 0 < 2; decide) (.fz (.fz (.fz (.un (.fz (.un (.un (.un .nil))))))))), (.has (.gone .nil))⟩) (fun _ => rfl) ?_ ?_)
    · rintro part_52 found_51 c hx h
      dsimp only [m_law_mixed_l2] at h
      refine ⟨_, _, tgb_name, ?_⟩
      have h0 := obind_some h
      clear h
      obtain ⟨ys_53, h_54, h⟩ := h0
      refine run_asg (i := 5) (s := .fz (E (ys_53 : (List Int)))) (ev_frz (en_cat (a := found_51) (b := part_52) (ev_var rfl) (ev_var rfl) h_54)) ?_
      cases h
      exact ⟨_, rfl, ⟨(.at (by show 0 < 2; decide) (.fz (.fz (.fz (.un (.fz (.un (.un (.un .nil))))))))), (.has (.gone .nil))⟩⟩
    have k0 := Option.some.inj h
    clear h
    have k0p := Prod.mk.inj k0
    clear k0
    obtain ⟨e0, k1⟩ := k0p
    subst e0
    subst k1
    exact run_ret (s := .fz (E (found_55 : (List Int)))) (ev_var rfl) ⟨rfl, (.has .nil)⟩
theorem ok_law_numbers (T : Tx K mg) : FnOk P w K mg base CX0 4 T.a__law_numbers T.fd__law_numbers ["stream", "many"] (spR K R_law_numbers) := by
  have G__law_pick := ok_law_pick (P := P) (w := w) (base := base) T
  have G__law_next := ok_law_next (P := P) (w := w) (base := base) T
  have G__law_mixed := ok_law_mixed (P := P) (w := w) (base := base) T
  refine fn_R (k := 3) T.F__law_numbers sc__law_numbers (fun ρ os r os2 h => by obtain ⟨stream_1, many_2, rfl, rfl, x, s0, h, rfl, rfl⟩ := h; exact ⟨rfl, rfl⟩) fun cdv A outer s H EX hr => ?_
  have nd := sc__law_numbers.nd
  refine ⟨_, pss_cons (ps_set (i := 2) nd rfl (Or.inr rfl) (pe_call G__law_pick (hr.mono (by decide)) (by rfl) T.g__law_pick T.F__law_pick.kp T.B__law_pick .nil pass0 (pa_cons (pv 0) (pa_cons (pe_tup (pa_cons (pe_int) (pa_cons (pe_int) (pa_cons (pe_int) (pa_cons (pe_un un_neg pe_int) (pa_cons (pe_op op_pow (pe_int) (pe_int)) pa_nil)))))) pa_nil)))) (pss_cons (ps_set (i := 3) nd rfl (Or.inr rfl) (pe_call G__law_next (hr.mono (by decide)) (by rfl) T.g__law_next T.F__law_next.kp T.B__law_next .nil pass0 (pa_cons (pv 0) (pa_cons (pe_int) pa_nil)))) (pss_one (ps_ret (pe_lc (own := [("one", 4)]) rfl nd (pi_listK (K := K) rfl (pe_call G__law_mixed (hr.mono (by decide)) (by rfl) T.g__law_mixed T.F__law_mixed.kp T.B__law_mixed .nil pass0 (pa_cons (pv 0) (pa_cons (pv 1) pa_nil)))) (blkOk_by (own := [("one", 4)]) (N := ["stream", "many", "factor", "shift", "one"]) (sc := defScope s__law_numbers) (by decide +kernel)) (fun _ _ _ _ _ => pg_name (i := 4) nd rfl (Or.inl rfl)) (fun _ _ _ _ _ => pts_nil) (fun _ _ _ _ _ => pe_op op_mulW (pe_op op_sub (pv 4) (pv 3)) (pv 2)))))), ?_⟩
  rintro ρ os r os2 ⟨stream_1, many_2, rfl, rfl, x, s0, h, rfl, rfl⟩
  show Ly.Run K _ [.at 0, .fz (E (many_2 : Int)), .un, .un, .un] [.has (E (stream_1 : (LH3 (List Int) Int Int)))] _
  unfold m_law_numbers at h
  have h0 := obind_some h
  clear h
  obtain ⟨⟨r_3, w_4⟩, h_5, h⟩ := h0
  dsimp only at h
  refine run_seq (run_asg (i := 2) (s := .fz (E (r_3 : Int))) (ev_call1 (Rl := R_law_pick) (n := 0) (ea_cons (ev_var rfl) (ea_cons (ev_tup (ds := [E ((1 : Int) : Int), E ((1 : Int) : Int), E ((3 : Int) : Int), E ((-1 : Int) : Int), E ((10000000000000000000000000000000000000000 : Int) : Int)]) (ea_cons ev_int (ea_cons ev_int (ea_cons ev_int (ea_cons (ev_neg ev_int) (ea_cons (ev_isI (j := 10000000000000000000000000000000000000000) (ev_pow ev_int ev_int (by unfold CPow; decide)) (by decide +kernel)) ea_nil))))) (by show 5 ≤ sizeLine; decide)) ea_nil)) rfl ⟨Int, inferInstance, stream_1, (Sq.t [(⟨(1 : Int), (1 : Int), (3 : Int), (-1 : Int), (10000000000000000000000000000000000000000 : Int)⟩ : (T5 Int Int Int Int Int)).a, (⟨(1 : Int), (1 : Int), (3 : Int), (-1 : Int), (10000000000000000000000000000000000000000 : Int)⟩ : (T5 Int Int Int Int Int)).b, (⟨(1 : Int), (1 : Int), (3 : Int), (-1 : Int), (10000000000000000000000000000000000000000 : Int)⟩ : (T5 Int Int Int Int Int)).c, (⟨(1 : Int), (1 : Int), (3 : Int), (-1 : Int), (10000000000000000000000000000000000000000 : Int)⟩ : (T5 Int Int Int Int Int)).d, (⟨(1 : Int), (1 : Int), (3 : Int), (-1 : Int), (10000000000000000000000000000000000000000 : Int)⟩ : (T5 Int Int Int Int Int)).e]), rfl, rfl, r_3, w_4, h_5, rfl, rfl⟩) ?_) 
  have h0 := obind_some h
  clear h
  obtain ⟨⟨r_6, w_7⟩, h_8, h⟩ := h0
  dsimp only at h
  refine run_seq (run_asg (i := 3) (s := .fz (E (r_6 : Int))) (ev_call1 (Rl := R_law_next) (n := 0) (ea_cons (ev_var rfl) (ea_cons ev_int ea_nil)) rfl ⟨w_4, (12 : Int), rfl, rfl, r_6, w_7, h_8, rfl, rfl⟩) ?_) 
  have h0 := obind_some h
  clear h
  obtain ⟨⟨r_9, w_10⟩, h_11, h⟩ := h0
  dsimp only at h
  have h0 := obind_some h
  clear h
  obtain ⟨⟨ys_16, w_17⟩, h_18, h⟩ := h0
  dsimp only at h
  have k0 := Option.some.inj h
  clear h
  have k0p := Prod.mk.inj k0
  clear k0
  obtain ⟨e0, k1⟩ := k0p
  subst e0
  subst k1
  exact run_retN (en_lc (osh := fun (s_13 : (LH3 (List Int) Int Int)) => [.has (E (s_13 : (LH3 (List Int) Int Int)))]) (src_lst (xs := r_9) (ev_call1 (Rl := R_law_mixed) (n := 0) (ea_cons (ev_var rfl) (ea_cons (ev_var rfl) ea_nil)) rfl ⟨w_7, many_2, rfl, rfl, r_9, w_10, h_11, rfl, rfl⟩)) h_18 rfl (by
      rintro one_12 s_13 y s2 hx h
      dsimp only [m_law_numbers_c1] at h
      have h0 := obind_some h
      clear h
      obtain ⟨q_14, h_15, h⟩ := h0
      have k0 := Option.some.inj h
      clear h
      have k0p := Prod.mk.inj k0
      clear k0
      obtain ⟨e0, k1⟩ := k0p
      subst e0
      subst k1
      exact ⟨_, _, tgb_name, by decide, true, _, (fun R F ps σ H Q I q => q F H (Ex.refl F) I), fun _ => ⟨_, rfl, (ev_mulO (ev_sub (ev_var rfl) (ev_var rfl)) (ev_var rfl) h_15)⟩, fun z => nomatch z⟩)) ⟨(by show 1 ≤ 1; decide), rfl, (.has .nil)⟩
theorem ok_law_ask (T : Tx K mg) : FnOk P w K mg base CX0 5 T.a__law_ask T.fd__law_ask ["numbers"] (spR K R_law_ask) := by
  have G_kept_row := ok_kept_row (P := P) (w := w) (base := base) T
  have G__law_error := ok_law_error (P := P) (w := w) (base := base) T
  refine fn_R (k := 4) T.F__law_ask sc__law_ask (fun ρ os r os2 h => by obtain ⟨numbers_1, rfl, rfl, x, h, rfl, rfl⟩ := h; exact ⟨rfl, rfl⟩) fun cdv A outer s H EX hr => ?_
  have nd := sc__law_ask.nd
  refine ⟨_, pss_one (ps_tryK (i := 1) (K := K) rfl rfl rfl nd rfl rfl ⟨by rfl, by decide, Or.inl T.g_ApartError⟩ takesN0 (fun W pn xe tk po => pss_one (ps_ret (pe_lst (pa_cons (pe_str) (pa_cons (pe_callS G_kept_row (hr.mono (by decide)) (by rfl) T.g_kept_row T.F_kept_row.kp T.B_kept_row (fun σ => L2N.passAt tk σ) (pa_cons (pv 0) pa_nil)) pa_nil))))) (fun a oe cls d pn hz hf => pss_one (ps_ret (pe_callA (K := K) (Rl := R_law_error T.cl) G__law_error (roomH_mark (hr.mono (by decide)) _) (hot_suite hz hf) (List.mem_cons_self ..) hz (by rfl) T.g__law_error T.F__law_error.kp T.B__law_error (pa_cons (pv 1) pa_nil))))), ?_⟩
  rintro ρ os r os2 ⟨numbers_1, rfl, rfl, x, h, rfl, rfl⟩
  show Ly.Run K _ [.fz (E (numbers_1 : D)), .un] [] _
  unfold m_law_ask at h
  have h0 := obind_some h
  clear h
  obtain ⟨o_2, hb_5, hn_6⟩ := h0
  refine run_tryR (cl := T.cl) o_2 (fun (x : (Mk × D)) sl os2 => RetP 0 [] (.dw x.1 x.2) sl os2) (fun _ : Unit => [.fz (E (numbers_1 : D)), .un]) (fun _ : Unit => []) (fun W => ?_) ?_ ?_
  · have h := hb_5
    clear hb_5 hn_6
    have h0 := obind_some h
    clear h
    obtain ⟨o_8, h_10, h⟩ := h0
    rcases o_8 with ⟨r_7, _⟩ | ⟨e_9, _⟩
    rotate_left 1
    · dsimp only [oout] at h
      have k0 := Option.some.inj h
      clear h
      subst k0
      exact run_retX (er_lst (er_tl ev_str (er_hd (er_call (Rl := (R_kept_row T.cl)) (ds := [E (numbers_1 : D)]) (ea_cons (ev_var rfl) ea_nil) ⟨numbers_1, rfl, rfl, .ex e_9 (), h_10, rfl, rfl⟩)))) rfl ⟨_, _, rfl, rfl, rfl, rfl, rfl⟩
    dsimp only [oout] at h
    have k0 := Option.some.inj h
    clear h
    subst k0
    exact run_retD (m := ((.each (List.replicate 1 .fz ++ [.all .fz]), .lst ([E (("told" : Str) : Str)] ++ [E (r_7 : (List Int))])) : Mk × D).1) (d := ((.each (List.replicate 1 .fz ++ [.all .fz]), .lst ([E (("told" : Str) : Str)] ++ [E (r_7 : (List Int))])) : Mk × D).2) (ed_lst (ds := [E (("told" : Str) : Str)]) (eda_cons ev_str (eda_last (ed_ofN (en_ofS fun EE => en_call (Rl := (R_kept_row T.cl)) (ds := [E (numbers_1 : D)]) (ea_cons (ev_var rfl) ea_nil) ⟨numbers_1, rfl, rfl, .ok r_7 (), h_10, rfl, rfl⟩)))) (by show 1 < 1000; decide)) ⟨_, _, rfl, ⟨(by show 0 ≤ 0; decide), rfl, .nil⟩⟩
  · rintro rr_3 _ rfl sl os2 hR
    have h := hn_6
    dsimp only [oout] at h
    have k0 := Option.some.inj h
    clear h
    subst k0
    exact hR
  · rintro e_4 _ rfl
    have h := hn_6
    dsimp only [oout] at h
    have h0 := obind_some h
    clear h
    obtain ⟨_, hg_14, h⟩ := h0
    replace hg_14 := Ly.guard_some hg_14
    have hz_11 := (Bool.and_eq_true_iff.mp hg_14).1
    refine ⟨exn_ne (Bool.and_eq_true_iff.mp hg_14).2, T.exm _ hz_11, fun a dd => ?_⟩
    show Ly.Run K _ [.fz (E (numbers_1 : D)), .fz (excD a dd e_4)] [] _
    have h0 := obind_some h
    clear h
    obtain ⟨r_12, h_13, h⟩ := h0
    have k0 := Option.some.inj h
    clear h
    subst k0
    exact run_retD (m := ((.all .fz, E (r_12 : (List D))) : Mk × D).1) (d := ((.all .fz, E (r_12 : (List D))) : Mk × D).2) (ed_ofN (en_call (Rl := (R_law_error T.cl a (.ref (T.cl e_4.c)) (some dd))) (ds := [excD a dd e_4]) (ea_cons (ev_var rfl) ea_nil) ⟨e_4, dd, hz_11, rfl, rfl, rfl, rfl, r_12, h_13, rfl, rfl⟩)) ⟨(by show 0 ≤ 0; decide), rfl, .nil⟩
theorem ok_law_wrong (T : Tx K mg) : FnOk P w K mg base CX0 3 T.a__law_wrong T.fd__law_wrong ["stream", "numbers"] (spR K R_law_wrong) := by
  have G__law_next := ok_law_next (P := P) (w := w) (base := base) T
  have G__law_pick := ok_law_pick (P := P) (w := w) (base := base) T
  refine fn_R (k := 2) T.F__law_wrong sc__law_wrong (fun ρ os r os2 h => by obtain ⟨stream_1, numbers_2, rfl, rfl, x, s0, h, rfl, rfl⟩ := h; exact ⟨rfl, rfl⟩) fun cdv A outer s H EX hr => ?_
  have nd := sc__law_wrong.nd
  refine ⟨_, pss_cons (ps_set (i := 2) nd rfl (Or.inl rfl) (pe_call G__law_next (hr.mono (by decide)) (by rfl) T.g__law_next T.F__law_next.kp T.B__law_next .nil pass0 (pa_cons (pv 0) (pa_cons (pe_int) pa_nil)))) (pss_cons (ps_set (i := 3) nd rfl (Or.inl rfl) (pe_call G__law_next (hr.mono (by decide)) (by rfl) T.g__law_next T.F__law_next.kp T.B__law_next .nil pass0 (pa_cons (pv 0) (pa_cons (pe_op op_add (pe_callB (call_lenK (K := K) rfl) (by rfl) T.b_len (by decide +kernel) (pa_cons (pv 1) pa_nil)) (pe_int)) pa_nil)))) (pss_cons (ps_if (PW.pt (pw_and (pt_cmpR op_eq (pv 2) (pe_int) (nomark _)) (pw_and1 (pt_cmpR op_gt (pe_callB (call_lenK (K := K) rfl) (by rfl) T.b_len (by decide +kernel) (pa_cons (pv 1) pa_nil)) (pe_int) (nomark _))))) (pss_one (ps_ret (pe_op (op_catLK (K := K) rfl) (pe_op (op_catLK (K := K) rfl) (pe_slice (sl_listK (K := K) rfl) (pv 1) po_none (po_some (pv 3))) (pe_lst (pa_cons (pe_call G__law_pick (hr.mono (by decide)) (by rfl) T.g__law_pick T.F__law_pick.kp T.B__law_pick .nil pass0 (pa_cons (pv 0) (pa_cons (pv 1) pa_nil))) pa_nil))) (pe_slice (sl_listK (K := K) rfl) (pv 1) (po_some (pv 3)) po_none)))) (pss_nil)) (pss_cons (ps_if (pt_cmpR op_eq (pv 2) (pe_int) (nomark _)) (pss_one (ps_ret (pe_callTy (call_tupleK (K := K) rfl) (by rfl) T.b_tuple (by decide +kernel) (pa_cons (pv 1) pa_nil)))) (pss_nil)) (pss_cons (ps_if (pt_cmpR op_lt (pv 2) (pe_int) (nomark _)) (pss_one (ps_ret (pe_op (op_catLK (K := K) rfl) (pe_op (op_catLK (K := K) rfl) (pe_slice (sl_listK (K := K) rfl) (pv 1) po_none (po_some (pv 3))) (pe_lst (pa_cons (pe_call G__law_pick (hr.mono (by decide)) (by rfl) T.g__law_pick T.F__law_pick.kp T.B__law_pick .nil pass0 (pa_cons (pv 0) (pa_cons (pe_tup (pa_cons (pe_bl) (pa_cons (pe_bl) (pa_cons (pe_non) (pa_cons (pe_str) (pa_cons (pe_tup (pa_cons (pe_int) pa_nil)) (pa_cons (pe_lst (pa_cons (pe_int) pa_nil)) pa_nil))))))) pa_nil))) pa_nil))) (pe_slice (sl_listK (K := K) rfl) (pv 1) (po_some (pv 3)) po_none)))) (pss_nil)) (pss_one (ps_ret (pe_call G__law_pick (hr.mono (by decide)) (by rfl) T.g__law_pick T.F__law_pick.kp T.B__law_pick .nil pass0 (pa_cons (pv 0) (pa_cons (pe_tup (pa_cons (pe_non) (pa_cons (pe_str) (pa_cons (pe_dnewK) (pa_cons (pe_int) (pa_cons (pe_bl) pa_nil)))))) pa_nil))))))))), ?_⟩
  rintro ρ os r os2 ⟨stream_1, numbers_2, rfl, rfl, x, s0, h, rfl, rfl⟩
  show Ly.Run K _ [.at 0, .fz (E (numbers_2 : (List Int))), .un, .un] [.has (E (stream_1 : (LH3 (List Int) Int Int)))] _
  unfold m_law_wrong at h
  have h0 := obind_some h
  clear h
  obtain ⟨⟨r_3, w_4⟩, h_5, h⟩ := h0
  dsimp only at h
  refine run_seq (run_asg (i := 2) (s := .fz (E (r_3 : Int))) (ev_call1 (Rl := R_law_next) (n := 0) (ea_cons (ev_var rfl) (ea_cons ev_int ea_nil)) rfl ⟨stream_1, (6 : Int), rfl, rfl, r_3, w_4, h_5, rfl, rfl⟩) ?_) 
  have h0 := obind_some h
  clear h
  obtain ⟨⟨r_6, w_7⟩, h_8, h⟩ := h0
  dsimp only at h
  refine run_seq (run_asg (i := 3) (s := .fz (E (r_6 : Int))) (ev_call1 (Rl := R_law_next) (n := 0) (ea_cons (ev_var rfl) (ea_cons (ev_add (ev_lenL (xs := numbers_2) (ea_cons (ev_var rfl) ea_nil) rfl) ev_int) ea_nil)) rfl ⟨w_4, ((numbers_2.length : Int) + (1 : Int)), rfl, rfl, r_6, w_7, h_8, rfl, rfl⟩) ?_) 
  refine run_seq (run_if (et_andP (et_test (ev_eqI (ev_var rfl) ev_int)) (et_test (ev_gt (ev_lenL (xs := numbers_2) (ea_cons (ev_var rfl) ea_nil) rfl) ev_int))) (fun hb_9 => ?_) (fun hb_9 => ?_))
  · replace h := cond_t hb_9 h
    have h0 := obind_some h
    clear h
    obtain ⟨⟨r_10, w_11⟩, h_12, h⟩ := h0
    dsimp only at h
    have h0 := obind_some h
    clear h
    obtain ⟨ys_13, h_14, h⟩ := h0
    have h0 := obind_some h
    clear h
    obtain ⟨ys_15, h_16, h⟩ := h0
    have k0 := Option.some.inj h
    clear h
    have k0p := Prod.mk.inj k0
    clear k0
    obtain ⟨e0, k1⟩ := k0p
    subst e0
    subst k1
    exact run_ret (s := .fz (E ((E (ys_15 : (List Int))) : D))) (ev_frz (en_cat (a := ys_13) (b := (cutL numbers_2 (some r_6) none)) (ev_frz (en_cat (a := (cutL numbers_2 none (some r_6))) (b := [r_10]) (ev_frz (en_cut (xs := numbers_2) (ev_var rfl) eo_none (eo_some (ev_var rfl)) rfl)) (ev_frz (en_new (ds := [E (r_10 : Int)]) (ea_cons (ev_call1 (Rl := R_law_pick) (n := 0) (ea_cons (ev_var rfl) (ea_cons (ev_var rfl) ea_nil)) rfl ⟨Int, inferInstance, w_7, (Sq.l numbers_2), rfl, rfl, r_10, w_11, h_12, rfl, rfl⟩) ea_nil) (by show 1 ≤ sizeLine; decide))) h_14)) (ev_frz (en_cut (xs := numbers_2) (ev_var rfl) (eo_some (ev_var rfl)) eo_none rfl)) h_16)) ⟨rfl, (.has .nil)⟩
  · replace h := cond_f hb_9 h
    refine run_next ?_
    refine run_seq (run_if (et_test (ev_eqI (ev_var rfl) ev_int)) (fun hb_17 => ?_) (fun hb_17 => ?_))
    · replace h := cond_t hb_17 h
      have k0 := Option.some.inj h
      clear h
      have k0p := Prod.mk.inj k0
      clear k0
      obtain ⟨e0, k1⟩ := k0p
      subst e0
      subst k1
      exact run_ret (s := .fz (E ((E ((⟨numbers_2⟩ : Tup Int) : (Tup Int))) : D))) (ev_tupL (xs := numbers_2) (ea_cons (ev_var rfl) ea_nil) rfl) ⟨rfl, (.has .nil)⟩
    · replace h := cond_f hb_17 h
      refine run_next ?_
      refine run_seq (run_if (et_test (ev_lt (ev_var rfl) ev_int)) (fun hb_18 => ?_) (fun hb_18 => ?_))
      · replace h := cond_t hb_18 h
        have h0 := obind_some h
        clear h
        obtain ⟨⟨r_19, w_20⟩, h_21, h⟩ := h0
        dsimp only at h
        have h0 := obind_some h
        clear h
        obtain ⟨ys_22, h_23, h⟩ := h0
        have h0 := obind_some h
        clear h
        obtain ⟨ys_24, h_25, h⟩ := h0
        have k0 := Option.some.inj h
        clear h
        have k0p := Prod.mk.inj k0
        clear k0
        obtain ⟨e0, k1⟩ := k0p
        subst e0
        subst k1
        exact run_ret (s := .fz (E ((E (ys_24 : (List D))) : D))) (ev_frz (en_cat (a := ys_22) (b := ((cutL numbers_2 (some r_6) none).map (E : Int → D))) (ev_frz (en_cat (a := ((cutL numbers_2 none (some r_6)).map (E : Int → D))) (b := [r_19]) (ev_frz (en_toD (xs := (cutL numbers_2 none (some r_6))) (en_cut (xs := numbers_2) (ev_var rfl) eo_none (eo_some (ev_var rfl)) rfl))) (ev_frz (en_new (ds := [E (r_19 : D)]) (ea_cons (ev_call1 (Rl := R_law_pick) (n := 0) (ea_cons (ev_var rfl) (ea_cons (ev_tup (ds := [E (true : Bool), E (false : Bool), E (() : Unit), E (("1" : Str) : Str), E ((⟨(1 : Int)⟩ : (T1 Int)) : (T1 Int)), E ([(2 : Int)] : (List Int))]) (ea_cons ev_bl (ea_cons ev_bl (ea_cons ev_non (ea_cons ev_str (ea_cons (ev_tup (ds := [E ((1 : Int) : Int)]) (ea_cons ev_int ea_nil) (by show 1 ≤ sizeLine; decide)) (ea_cons (ev_frz (en_new (ds := [E ((2 : Int) : Int)]) (ea_cons ev_int ea_nil) (by show 1 ≤ sizeLine; decide))) ea_nil)))))) (by show 6 ≤ sizeLine; decide)) ea_nil)) rfl ⟨D, inferInstance, w_7, (Sq.t [(E (true : Bool)), (E (false : Bool)), (E (() : Unit)), (E (("1" : Str) : Str)), (E ((⟨(1 : Int)⟩ : (T1 Int)) : (T1 Int))), (E ([(2 : Int)] : (List Int)))]), rfl, rfl, r_19, w_20, h_21, rfl, rfl⟩) ea_nil) (by show 1 ≤ sizeLine; decide))) h_23)) (ev_frz (en_toD (xs := (cutL numbers_2 (some r_6) none)) (en_cut (xs := numbers_2) (ev_var rfl) (eo_some (ev_var rfl)) eo_none rfl))) h_25)) ⟨rfl, (.has .nil)⟩
      · replace h := cond_f hb_18 h
        refine run_next ?_
        have h0 := obind_some h
        clear h
        obtain ⟨⟨r_26, w_27⟩, h_28, h⟩ := h0
        dsimp only at h
        have k0 := Option.some.inj h
        clear h
        have k0p := Prod.mk.inj k0
        clear k0
        obtain ⟨e0, k1⟩ := k0p
        subst e0
        subst k1
        exact run_ret (s := .fz (E (r_26 : D))) (ev_call1 (Rl := R_law_pick) (n := 0) (ea_cons (ev_var rfl) (ea_cons (ev_tup (ds := [E (() : Unit), E (("12" : Str) : Str), E ((⟨[]⟩ : (Dct D)) : (Dct D)), E ((7 : Int) : Int), E (true : Bool)]) (ea_cons ev_non (ea_cons ev_str (ea_cons (ev_frz (en_dnewK (α := D))) (ea_cons ev_int (ea_cons ev_bl ea_nil))))) (by show 5 ≤ sizeLine; decide)) ea_nil)) rfl ⟨D, inferInstance, w_7, (Sq.t [(E (() : Unit)), (E (("12" : Str) : Str)), (E ((⟨[]⟩ : (Dct D)) : (Dct D))), (E ((7 : Int) : Int)), (E (true : Bool))]), rfl, rfl, r_26, w_27, h_28, rfl, rfl⟩) ⟨rfl, (.has .nil)⟩
theorem ok_law (T : Tx K mg) : FnOk P w K mg base CX0 11 T.a_law T.fd_law ["script"] (spR K R_law) := by
  have G__law_stream := ok_law_stream (P := P) (w := w) (base := base) T
  have G__law_next := ok_law_next (P := P) (w := w) (base := base) T
  have G__law_numbers := ok_law_numbers (P := P) (w := w) (base := base) T
  have G__law_from := ok_law_from (P := P) (w := w) (base := base) T
  have G__law_due_row := ok_law_due_row (P := P) (w := w) (base := base) T
  have G__law_ask := ok_law_ask (P := P) (w := w) (base := base) T
  have G__law_same := ok_law_same (P := P) (w := w) (base := base) T 8
  have G__law_wrong := ok_law_wrong (P := P) (w := w) (base := base) T
  refine fn_R (k := 10) T.F_law sc_law (fun ρ os r os2 h => by obtain ⟨script_1, rfl, rfl, x, h, rfl, rfl⟩ := h; exact ⟨rfl, rfl⟩) fun cdv A outer s H EX hr => ?_
  have nd := sc_law.nd
  refine ⟨_, pss_cons (ps_set (i := 1) nd rfl (Or.inl rfl) (pe_call G__law_stream (hr.mono (by decide)) (by rfl) T.g__law_stream T.F__law_stream.kp T.B__law_stream .nil pass0 (pa_cons (pv 0) pa_nil))) (pss_cons (ps_set (i := 2) nd rfl (Or.inl rfl) (pe_cmpR op_eq (pe_call G__law_next (hr.mono (by decide)) (by rfl) T.g__law_next T.F__law_next.kp T.B__law_next .nil pass0 (pa_cons (pv 1) (pa_cons (pe_int) pa_nil))) (pe_int) (nomark _))) (pss_cons (ps_for PassesOwn.never rfl (pi_range1 (by rfl) T.b_range (pa_cons (pe_int) pa_nil)) (pg_name (i := 3) nd rfl (Or.inl rfl)) (pss_cons (ps_set (i := 4) nd rfl (Or.inl rfl) (pe_call G__law_numbers (hr.mono (by decide)) (by rfl) T.g__law_numbers T.F__law_numbers.kp T.B__law_numbers .nil pass0 (pa_cons (pv 1) (pa_cons (pe_ifExp (PW.pt (pw_and (pt_val (pv 2)) (pw_and1 (pt_cmpR op_eq (pv 3) (pe_int) (nomark _))))) (pe_call G__law_from (hr.mono (by decide)) (by rfl) T.g__law_from T.F__law_from.kp T.B__law_from .nil pass0 (pa_cons (pv 1) (pa_cons (pe_int) (pa_cons (pe_int) pa_nil)))) (pe_call G__law_next (hr.mono (by decide)) (by rfl) T.g__law_next T.F__law_next.kp T.B__law_next .nil pass0 (pa_cons (pv 1) (pa_cons (pe_int) pa_nil)))) pa_nil)))) (pss_cons (ps_set (i := 5) nd rfl (Or.inl rfl) (pe_call G__law_due_row (hr.mono (by decide)) (by rfl) T.g__law_due_row T.F__law_due_row.kp T.B__law_due_row .nil pass0 (pa_cons (pv 4) pa_nil))) (pss_cons (ps_set (i := 6) nd rfl (Or.inl rfl) (pe_callTy (call_listK (K := K) rfl) (by rfl) T.b_list (by decide +kernel) (pa_cons (pv 4) pa_nil))) (pss_cons (ps_set (i := 7) nd rfl (Or.inl rfl) (pe_call G__law_ask (hr.mono (by decide)) (by rfl) T.g__law_ask T.F__law_ask.kp T.B__law_ask .nil pass0 (pa_cons (pv 6) pa_nil))) (pss_cons (ps_if (PW.pt (pw_or (pt_not (pt_val (pe_call G__law_same (hr.mono (by decide)) (by rfl) T.g__law_same T.F__law_same.kp T.B__law_same .nil pass0 (pa_cons (pv 7) (pa_cons (pe_lst (pa_cons (pe_str) (pa_cons (pv 5) pa_nil))) pa_nil))))) (pw_or1 (pt_not (pt_val (pe_call G__law_same (hr.mono (by decide)) (by rfl) T.g__law_same T.F__law_same.kp T.B__law_same .nil pass0 (pa_cons (pv 6) (pa_cons (pv 4) pa_nil)))))))) (pss_one (ps_ret (pe_bl))) (pss_nil)) (pss_cons (ps_expr (pe_bmK (K := K) rfl PySem.F.plainAttrs_list PySem.F.slot_list_append PySem.F.type_list_append mt_append (pe_ix (ix_listK (K := K) rfl) (pv 7) (pe_int) (fun _ _ => rfl)) (pa_cons (pe_int) pa_nil))) (pss_cons (ps_if (pt_not (pt_val (pe_call G__law_same (hr.mono (by decide)) (by rfl) T.g__law_same T.F__law_same.kp T.B__law_same .nil pass0 (pa_cons (pe_call G__law_ask (hr.mono (by decide)) (by rfl) T.g__law_ask T.F__law_ask.kp T.B__law_ask .nil pass0 (pa_cons (pv 6) pa_nil)) (pa_cons (pe_lst (pa_cons (pe_str) (pa_cons (pv 5) pa_nil))) pa_nil))))) (pss_one (ps_ret (pe_bl))) (pss_nil)) (pss_cons (ps_set (i := 8) nd rfl (Or.inl rfl) (pe_call G__law_wrong (hr.mono (by decide)) (by rfl) T.g__law_wrong T.F__law_wrong.kp T.B__law_wrong .nil pass0 (pa_cons (pv 1) (pa_cons (pe_slice (sl_listK (K := K) rfl) (pv 4) po_none (po_some (pe_int))) pa_nil)))) (pss_one (ps_if (pt_not (pt_val (pe_call G__law_same (hr.mono (by decide)) (by rfl) T.g__law_same T.F__law_same.kp T.B__law_same .nil pass0 (pa_cons (pe_call G__law_ask (hr.mono (by decide)) (by rfl) T.g__law_ask T.F__law_ask.kp T.B__law_ask .nil pass0 (pa_cons (pv 8) pa_nil)) (pa_cons (pe_lst (pa_cons (pe_str) (pa_cons (pe_str) (pa_cons (pe_tup (pa_cons (pe_str) pa_nil)) pa_nil)))) pa_nil))))) (pss_one (ps_ret (pe_bl))) (pss_nil)))))))))))) (pss_one (ps_ret (pe_bl))))), ?_⟩
  rintro ρ os r os2 ⟨script_1, rfl, rfl, x, h, rfl, rfl⟩
  show Ly.Run K _ [.fz (E (script_1 : (List Int))), .un, .un, .un, .un, .un, .un, .un, .un] [] _
  unfold m_law at h
  have h0 := obind_some h
  clear h
  obtain ⟨r_2, h_3, h⟩ := h0
  refine run_seq (run_asgN (i := 1) (d := E (r_2 : (LH3 (List Int) Int Int))) (en_call (Rl := R_law_stream) (ds := [E (script_1 : (List Int))]) (ea_cons (ev_var rfl) ea_nil) ⟨script_1, rfl, rfl, r_2, h_3, rfl, rfl⟩) ?_) 
  have h0 := obind_some h
  clear h
  obtain ⟨⟨r_4, w_5⟩, h_6, h⟩ := h0
  dsimp only at h
  refine run_seq (run_asg (i := 2) (s := .fz (E ((decide (r_4 = (0 : Int))) : Bool))) (ev_eqI (ev_call1 (Rl := R_law_next) (n := 0) (ea_cons (ev_var rfl) (ea_cons ev_int ea_nil)) rfl ⟨r_2, (30 : Int), rfl, rfl, r_4, w_5, h_6, rfl, rfl⟩) ev_int) ?_) 
  have h0 := obind_some h
  clear h
  obtain ⟨rg_7, h_8, h⟩ := h0
  have h0 := obind_some h
  clear h
  obtain ⟨c_52, h_53, h⟩ := h0
  show Ly.Run _ _ [.fz (E (script_1 : (List Int))), .at 0, .fz (E ((decide (r_4 = (0 : Int))) : Bool)), .un, .un, .un, .un, .un, .un] [.has (E (w_5 : (LH3 (List Int) Int Int)))] _
  refine run_seq (run_for (fun (s_9 : (LH3 (List Int) Int Int)) => [.fz (E (script_1 : (List Int))), .at 0, .fz (E ((decide (r_4 = (0 : Int))) : Bool)), .un, .un, .un, .un, .un, .un]) (fun (s_9 : (LH3 (List Int) Int Int)) => [.has (E (s_9 : (LH3 (List Int) Int Int)))]) (fun (x : Bool) sl os2 => RetP 0 [] (.fz (E (x : Bool))) sl os2) (src_rng1O (ea_cons ev_int ea_nil) h_8) h_53 (by exact ⟨(.fz (.at (by show 0 < 1; decide) (.fz (.un (.un (.un (.un (.un (.un .nil))))))))), (.has .nil)⟩) (fun _ => rfl) ?_ ?_ ?_)
  · rintro turn_10 s_9 c hx h
    dsimp only [m_law_l1] at h
    refine ⟨_, _, tgb_name, ?_⟩
    have h0 := obind_some h
    clear h
    obtain ⟨⟨v_17, w_18⟩, h_19, h⟩ := h0
    dsimp only at h
    have h0 := obind_some h
    clear h
    obtain ⟨⟨r_21, w_22⟩, h_23, h⟩ := h0
    dsimp only at h
    refine run_seq (run_asg (i := 4) (s := .fz (E (r_21 : (List Int)))) (ev_frz (en_call1 (Rl := R_law_numbers) (n := 0) (ea_cons (ev_var rfl) (ea_cons (ev_if (s := .fz (E (v_17 : Int))) (os2 := [.has (E (w_18 : (LH3 (List Int) Int Int)))]) (et_andP (et_B (ev_var rfl)) (et_test (ev_eqI (ev_var rfl) ev_int))) (fun hb_20 => by have h := cond_t hb_20 h_19; have h0 := obind_some h; clear h; obtain ⟨⟨r_11, w_12⟩, h_13, h⟩ := h0; dsimp only at h; have k0 := Option.some.inj h; clear h; have k0p := Prod.mk.inj k0; clear k0; obtain ⟨e0, k1⟩ := k0p; subst e0; subst k1; exact (ev_call1 (Rl := R_law_from) (n := 0) (ea_cons (ev_var rfl) (ea_cons ev_int (ea_cons ev_int ea_nil))) rfl ⟨s_9, (280 : Int), (320 : Int), rfl, rfl, r_11, w_12, h_13, rfl, rfl⟩)) (fun hb_20 => by have h := cond_f hb_20 h_19; have h0 := obind_some h; clear h; obtain ⟨⟨r_14, w_15⟩, h_16, h⟩ := h0; dsimp only at h; have k0 := Option.some.inj h; clear h; have k0p := Prod.mk.inj k0; clear k0; obtain ⟨e0, k1⟩ := k0p; subst e0; subst k1; exact (ev_call1 (Rl := R_law_next) (n := 0) (ea_cons (ev_var rfl) (ea_cons ev_int ea_nil)) rfl ⟨s_9, (10 : Int), rfl, rfl, r_14, w_15, h_16, rfl, rfl⟩))) ea_nil)) rfl ⟨w_18, v_17, rfl, rfl, r_21, w_22, h_23, rfl, rfl⟩)) ?_) 
    have h0 := obind_some h
    clear h
    obtain ⟨r_24, h_25, h⟩ := h0
    refine run_seq (run_asg (i := 5) (s := .fz (E (r_24 : (List Int)))) (ev_call (Rl := R_law_due_row) (ds := [E (r_21 : (List Int))]) (ea_cons (ev_var rfl) ea_nil) ⟨r_21, rfl, rfl, r_24, h_25, rfl, rfl⟩) ?_) 
    refine run_seq (run_asg (i := 6) (s := .fz (E (r_21 : (List Int)))) (ev_frz (en_list (ea_cons (ev_var rfl) ea_nil) (.inl rfl))) ?_) 
    have h0 := obind_some h
    clear h
    obtain ⟨r_26, h_27, h⟩ := h0
    refine run_seq (run_asgD (i := 7) (m := r_26.1) (d := r_26.2) (ed_call (Rl := R_law_ask) (ds := [E ((E (r_21 : (List Int))) : D)]) (ea_cons (ev_var rfl) ea_nil) ⟨(E (r_21 : (List Int))), rfl, rfl, r_26, h_27, rfl, rfl⟩) ?_) 
    have h0 := obind_some h
    clear h
    obtain ⟨r_28, h_29, h⟩ := h0
    have h0 := obind_some h
    clear h
    obtain ⟨b_32, h_33, h⟩ := h0
    refine run_seq (run_if (et_or (b := b_32) (os2 := [.has (E (w_22 : (LH3 (List Int) Int Int))), .deep r_26.1 r_26.2]) (et_not (et_B (ev_callW (Rl := (R_law_same 8)) (ea_cons (ev_var rfl) (ea_cons (ev_frz (en_new (ds := [E (("told" : Str) : Str), E (r_24 : (List Int))]) (ea_cons ev_str (ea_cons (ev_var rfl) ea_nil)) (by show 2 ≤ sizeLine; decide))) ea_nil)) (.cons ⟨_, rfl, rfl⟩ (.cons rfl .nil)) ⟨r_26.2, (E ([(E (("told" : Str) : Str)), (E (r_24 : (List Int)))] : (List D))), rfl, rfl, r_28, h_29, rfl, rfl⟩ rfl))) (fun hb_34 => by have h := cond_f hb_34 h_33; have h0 := obind_some h; clear h; obtain ⟨r_30, h_31, h⟩ := h0; have k0 := Option.some.inj h; clear h; subst k0; exact (et_not (et_B (ev_call (Rl := (R_law_same 8)) (ds := [E ((E (r_21 : (List Int))) : D), E ((E (r_21 : (List Int))) : D)]) (ea_cons (ev_var rfl) (ea_cons (ev_var rfl) ea_nil)) ⟨(E (r_21 : (List Int))), (E (r_21 : (List Int))), rfl, rfl, r_30, h_31, rfl, rfl⟩)))) (fun hb_34 => by have h := cond_t hb_34 h_33; have k0 := Option.some.inj h; clear h; subst k0; exact ⟨rfl, rfl⟩)) (fun hb_35 => ?_) (fun hb_35 => ?_))
    · replace h := cond_t hb_35 h
      cases h
      exact run_ret (s := .fz (E (false : Bool))) ev_bl ⟨_, rfl, ⟨rfl, .nil⟩⟩
    · replace h := cond_f hb_35 h
      refine run_next ?_
      have h0 := obind_some h
      clear h
      obtain ⟨d_36, h_37, h⟩ := h0
      refine run_seq (run_drop (ev_appC (v := 7) (i := 1) rfl rfl ev_int ev_int h_37) ?_) 
      have h0 := obind_some h
      clear h
      obtain ⟨r_38, h_39, h⟩ := h0
      have h0 := obind_some h
      clear h
      obtain ⟨r_40, h_41, h⟩ := h0
      refine run_seq (run_if (et_not (et_B (ev_call (Rl := (R_law_same 8)) (ds := [E (r_38.2 : D), E ((E ([(E (("told" : Str) : Str)), (E (r_24 : (List Int)))] : (List D))) : D)]) (ea_cons (ev_frzD (ed_call (Rl := R_law_ask) (ds := [E ((E (r_21 : (List Int))) : D)]) (ea_cons (ev_var rfl) ea_nil) ⟨(E (r_21 : (List Int))), rfl, rfl, r_38, h_39, rfl, rfl⟩)) (ea_cons (ev_frz (en_new (ds := [E (("told" : Str) : Str), E (r_24 : (List Int))]) (ea_cons ev_str (ea_cons (ev_var rfl) ea_nil)) (by show 2 ≤ sizeLine; decide))) ea_nil)) ⟨r_38.2, (E ([(E (("told" : Str) : Str)), (E (r_24 : (List Int)))] : (List D))), rfl, rfl, r_40, h_41, rfl, rfl⟩))) (fun hb_42 => ?_) (fun hb_42 => ?_))
      · replace h := cond_t hb_42 h
        cases h
        exact run_ret (s := .fz (E (false : Bool))) ev_bl ⟨_, rfl, ⟨rfl, .nil⟩⟩
      · replace h := cond_f hb_42 h
        refine run_next ?_
        have h0 := obind_some h
        clear h
        obtain ⟨⟨r_43, w_44⟩, h_45, h⟩ := h0
        dsimp only at h
        refine run_seq (run_asg (i := 8) (s := .fz (E (r_43 : D))) (ev_call1 (Rl := R_law_wrong) (n := 0) (ea_cons (ev_var rfl) (ea_cons (ev_frz (en_cut (xs := r_21) (ev_var rfl) eo_none (eo_some ev_int) rfl)) ea_nil)) rfl ⟨w_22, (cutL r_21 none (some (9 : Int))), rfl, rfl, r_43, w_44, h_45, rfl, rfl⟩) ?_) 
        have h0 := obind_some h
        clear h
        obtain ⟨r_46, h_47, h⟩ := h0
        have h0 := obind_some h
        clear h
        obtain ⟨r_48, h_49, h⟩ := h0
        refine run_if (et_not (et_B (ev_call (Rl := (R_law_same 8)) (ds := [E (r_46.2 : D), E ((E ([(E (("raised" : Str) : Str)), (E (("BadValue" : Str) : Str)), (E ((⟨("numbers" : Str)⟩ : (T1 Str)) : (T1 Str)))] : (List D))) : D)]) (ea_cons (ev_frzD (ed_call (Rl := R_law_ask) (ds := [E (r_43 : D)]) (ea_cons (ev_var rfl) ea_nil) ⟨r_43, rfl, rfl, r_46, h_47, rfl, rfl⟩)) (ea_cons (ev_frz (en_new (ds := [E (("raised" : Str) : Str), E (("BadValue" : Str) : Str), E ((⟨("numbers" : Str)⟩ : (T1 Str)) : (T1 Str))]) (ea_cons ev_str (ea_cons ev_str (ea_cons (ev_tup (ds := [E (("numbers" : Str) : Str)]) (ea_cons ev_str ea_nil) (by show 1 ≤ sizeLine; decide)) ea_nil))) (by show 3 ≤ sizeLine; decide))) ea_nil)) ⟨r_46.2, (E ([(E (("raised" : Str) : Str)), (E (("BadValue" : Str) : Str)), (E ((⟨("numbers" : Str)⟩ : (T1 Str)) : (T1 Str)))] : (List D))), rfl, rfl, r_48, h_49, rfl, rfl⟩))) (fun hb_50 => ?_) (fun hb_50 => ?_)
        · replace h := cond_t hb_50 h
          cases h
          exact run_ret (s := .fz (E (false : Bool))) ev_bl ⟨_, rfl, ⟨rfl, .nil⟩⟩
        · replace h := cond_f hb_50 h
          refine run_next ?_
          cases h
          exact ⟨_, rfl, ⟨(.fz (.at (by show 0 < 1; decide) (.fz (.un (.un (.un (.un (.un (.un .nil))))))))), (.has .nil)⟩⟩
  · rintro w_51 hc
    subst hc
    dsimp only [ctl] at h
    have k0 := Option.some.inj h
    clear h
    subst k0
    exact run_ret (s := .fz (E (true : Bool))) ev_bl ⟨rfl, .nil⟩
  · rintro r_54 hc sl os2 hR
    subst hc
    dsimp only [ctl] at h
    have k0 := Option.some.inj h
    clear h
    subst k0
    exact hR
end
end K65

set_option Elab.async false
set_option linter.all false
set_option autoImplicit false
set_option maxRecDepth 100000
set_option maxHeartbeats 4000000
namespace K65
open PySem PySem.Spec PyProof.Rows L2 L2H Ly
theorem law_fn {P : Program} {w : World} {K : PySem.W.Frag} {mg : Str → Option Value} {base : Heap} (T : Tx K mg) : FnOk P w K mg base CX0 11 T.a_law T.fd_law ["script"] (spLaw K) :=
  (ok_law T).imp (spLaw_R (m := m_law) (fun ns h => law_ok ns h) fun ns h => ⟨ns, rfl, rfl, true, h, rfl, rfl⟩)
theorem all_mk {l : PySem.W.OpenLaw} {w : World} {K : PySem.W.Frag} {h : Heap} {mg : Str → Option Value} {fa : Addr} (X : K.In h) (G : h.Ns mainGlobals mg) (hfa : mg "law" = some (.ref fa))
    {f0 : Addr} {od0 an0 : Option Addr} {sl0 : Array (Option Value)} {oc0 kV0 dc0 pm0 cd0 ct0 : Value}
    (a0 : PySem.W.nsIn K mainGlobals "is_integer" = some (some (.ref f0))) (l0 : K.lookup f0 = some ⟨oc0, od0, .func (PySem.W.fnOf "is_integer" "is_integer" (defArgs s_is_integer) (defBody s_is_integer) (defScope s_is_integer) .none kV0 dc0 pm0 an0 cd0 ct0), sl0⟩) (c0 : PySem.W.codeIn K cd0 "is_integer" = true) (k0 : PySem.W.keepIn K (.ref f0) = true)
    {f1 : Addr} {od1 an1 : Option Addr} {sl1 : Array (Option Value)} {oc1 kV1 dc1 pm1 cd1 ct1 : Value}
    (a1 : PySem.W.nsIn K mainGlobals "first_not_greater" = some (some (.ref f1))) (l1 : K.lookup f1 = some ⟨oc1, od1, .func (PySem.W.fnOf "first_not_greater" "first_not_greater" (defArgs s_first_not_greater) (defBody s_first_not_greater) (defScope s_first_not_greater) .none kV1 dc1 pm1 an1 cd1 ct1), sl1⟩) (c1 : PySem.W.codeIn K cd1 "first_not_greater" = true) (k1 : PySem.W.keepIn K (.ref f1) = true)
    {f2 : Addr} {od2 an2 : Option Addr} {sl2 : Array (Option Value)} {oc2 kV2 dc2 pm2 cd2 ct2 : Value}
    (a2 : PySem.W.nsIn K mainGlobals "lengths_from" = some (some (.ref f2))) (l2 : K.lookup f2 = some ⟨oc2, od2, .func (PySem.W.fnOf "lengths_from" "lengths_from" (defArgs s_lengths_from) (defBody s_lengths_from) (defScope s_lengths_from) .none kV2 dc2 pm2 an2 cd2 ct2), sl2⟩) (c2 : PySem.W.codeIn K cd2 "lengths_from" = true) (k2 : PySem.W.keepIn K (.ref f2) = true)
    {f3 : Addr} {od3 an3 : Option Addr} {sl3 : Array (Option Value)} {oc3 kV3 dc3 pm3 cd3 ct3 : Value}
    (a3 : PySem.W.nsIn K mainGlobals "rising_places" = some (some (.ref f3))) (l3 : K.lookup f3 = some ⟨oc3, od3, .func (PySem.W.fnOf "rising_places" "rising_places" (defArgs s_rising_places) (defBody s_rising_places) (defScope s_rising_places) .none kV3 dc3 pm3 an3 cd3 ct3), sl3⟩) (c3 : PySem.W.codeIn K cd3 "rising_places" = true) (k3 : PySem.W.keepIn K (.ref f3) = true)
    {f4 : Addr} {od4 an4 : Option Addr} {sl4 : Array (Option Value)} {oc4 kV4 dc4 pm4 cd4 ct4 : Value}
    (a4 : PySem.W.nsIn K mainGlobals "kept_row" = some (some (.ref f4))) (l4 : K.lookup f4 = some ⟨oc4, od4, .func (PySem.W.fnOf "kept_row" "kept_row" (defArgs s_kept_row) (defBody s_kept_row) (defScope s_kept_row) .none kV4 dc4 pm4 an4 cd4 ct4), sl4⟩) (c4 : PySem.W.codeIn K cd4 "kept_row" = true) (k4 : PySem.W.keepIn K (.ref f4) = true)
    {f5 : Addr} {od5 an5 : Option Addr} {sl5 : Array (Option Value)} {oc5 kV5 dc5 pm5 cd5 ct5 : Value}
    (a5 : PySem.W.nsIn K mainGlobals "_law_stream" = some (some (.ref f5))) (l5 : K.lookup f5 = some ⟨oc5, od5, .func (PySem.W.fnOf "_law_stream" "_law_stream" (defArgs s__law_stream) (defBody s__law_stream) (defScope s__law_stream) .none kV5 dc5 pm5 an5 cd5 ct5), sl5⟩) (c5 : PySem.W.codeIn K cd5 "_law_stream" = true) (k5 : PySem.W.keepIn K (.ref f5) = true)
    {f6 : Addr} {od6 an6 : Option Addr} {sl6 : Array (Option Value)} {oc6 kV6 dc6 pm6 cd6 ct6 : Value}
    (a6 : PySem.W.nsIn K mainGlobals "_law_next" = some (some (.ref f6))) (l6 : K.lookup f6 = some ⟨oc6, od6, .func (PySem.W.fnOf "_law_next" "_law_next" (defArgs s__law_next) (defBody s__law_next) (defScope s__law_next) .none kV6 dc6 pm6 an6 cd6 ct6), sl6⟩) (c6 : PySem.W.codeIn K cd6 "_law_next" = true) (k6 : PySem.W.keepIn K (.ref f6) = true)
    {f7 : Addr} {od7 an7 : Option Addr} {sl7 : Array (Option Value)} {oc7 kV7 dc7 pm7 cd7 ct7 : Value}
    (a7 : PySem.W.nsIn K mainGlobals "_law_pick" = some (some (.ref f7))) (l7 : K.lookup f7 = some ⟨oc7, od7, .func (PySem.W.fnOf "_law_pick" "_law_pick" (defArgs s__law_pick) (defBody s__law_pick) (defScope s__law_pick) .none kV7 dc7 pm7 an7 cd7 ct7), sl7⟩) (c7 : PySem.W.codeIn K cd7 "_law_pick" = true) (k7 : PySem.W.keepIn K (.ref f7) = true)
    {f8 : Addr} {od8 an8 : Option Addr} {sl8 : Array (Option Value)} {oc8 kV8 dc8 pm8 cd8 ct8 : Value}
    (a8 : PySem.W.nsIn K mainGlobals "_law_from" = some (some (.ref f8))) (l8 : K.lookup f8 = some ⟨oc8, od8, .func (PySem.W.fnOf "_law_from" "_law_from" (defArgs s__law_from) (defBody s__law_from) (defScope s__law_from) .none kV8 dc8 pm8 an8 cd8 ct8), sl8⟩) (c8 : PySem.W.codeIn K cd8 "_law_from" = true) (k8 : PySem.W.keepIn K (.ref f8) = true)
    {f9 : Addr} {od9 an9 : Option Addr} {sl9 : Array (Option Value)} {oc9 kV9 dc9 pm9 cd9 ct9 : Value}
    (a9 : PySem.W.nsIn K mainGlobals "_law_shuffled" = some (some (.ref f9))) (l9 : K.lookup f9 = some ⟨oc9, od9, .func (PySem.W.fnOf "_law_shuffled" "_law_shuffled" (defArgs s__law_shuffled) (defBody s__law_shuffled) (defScope s__law_shuffled) .none kV9 dc9 pm9 an9 cd9 ct9), sl9⟩) (c9 : PySem.W.codeIn K cd9 "_law_shuffled" = true) (k9 : PySem.W.keepIn K (.ref f9) = true)
    {f10 : Addr} {od10 an10 : Option Addr} {sl10 : Array (Option Value)} {oc10 kV10 dc10 pm10 cd10 ct10 : Value}
    (a10 : PySem.W.nsIn K mainGlobals "_law_is_row" = some (some (.ref f10))) (l10 : K.lookup f10 = some ⟨oc10, od10, .func (PySem.W.fnOf "_law_is_row" "_law_is_row" (defArgs s__law_is_row) (defBody s__law_is_row) (defScope s__law_is_row) .none kV10 dc10 pm10 an10 cd10 ct10), sl10⟩) (c10 : PySem.W.codeIn K cd10 "_law_is_row" = true) (k10 : PySem.W.keepIn K (.ref f10) = true)
    {f11 : Addr} {od11 an11 : Option Addr} {sl11 : Array (Option Value)} {oc11 kV11 dc11 pm11 cd11 ct11 : Value}
    (a11 : PySem.W.nsIn K mainGlobals "_law_same" = some (some (.ref f11))) (l11 : K.lookup f11 = some ⟨oc11, od11, .func (PySem.W.fnOf "_law_same" "_law_same" (defArgs s__law_same) (defBody s__law_same) (defScope s__law_same) .none kV11 dc11 pm11 an11 cd11 ct11), sl11⟩) (c11 : PySem.W.codeIn K cd11 "_law_same" = true) (k11 : PySem.W.keepIn K (.ref f11) = true)
    {f12 : Addr} {od12 an12 : Option Addr} {sl12 : Array (Option Value)} {oc12 kV12 dc12 pm12 cd12 ct12 : Value}
    (a12 : PySem.W.nsIn K mainGlobals "_law_named" = some (some (.ref f12))) (l12 : K.lookup f12 = some ⟨oc12, od12, .func (PySem.W.fnOf "_law_named" "_law_named" (defArgs s__law_named) (defBody s__law_named) (defScope s__law_named) .none kV12 dc12 pm12 an12 cd12 ct12), sl12⟩) (c12 : PySem.W.codeIn K cd12 "_law_named" = true) (k12 : PySem.W.keepIn K (.ref f12) = true)
    {f13 : Addr} {od13 an13 : Option Addr} {sl13 : Array (Option Value)} {oc13 kV13 dc13 pm13 cd13 ct13 : Value}
    (a13 : PySem.W.nsIn K mainGlobals "_law_attributes" = some (some (.ref f13))) (l13 : K.lookup f13 = some ⟨oc13, od13, .func (PySem.W.fnOf "_law_attributes" "_law_attributes" (defArgs s__law_attributes) (defBody s__law_attributes) (defScope s__law_attributes) .none kV13 dc13 pm13 an13 cd13 ct13), sl13⟩) (c13 : PySem.W.codeIn K cd13 "_law_attributes" = true) (k13 : PySem.W.keepIn K (.ref f13) = true)
    {f14 : Addr} {od14 an14 : Option Addr} {sl14 : Array (Option Value)} {oc14 kV14 dc14 pm14 cd14 ct14 : Value}
    (a14 : PySem.W.nsIn K mainGlobals "_law_error" = some (some (.ref f14))) (l14 : K.lookup f14 = some ⟨oc14, od14, .func (PySem.W.fnOf "_law_error" "_law_error" (defArgs s__law_error) (defBody s__law_error) (defScope s__law_error) .none kV14 dc14 pm14 an14 cd14 ct14), sl14⟩) (c14 : PySem.W.codeIn K cd14 "_law_error" = true) (k14 : PySem.W.keepIn K (.ref f14) = true)
    {f15 : Addr} {od15 an15 : Option Addr} {sl15 : Array (Option Value)} {oc15 kV15 dc15 pm15 cd15 ct15 : Value}
    (a15 : PySem.W.nsIn K mainGlobals "_law_rising" = some (some (.ref f15))) (l15 : K.lookup f15 = some ⟨oc15, od15, .func (PySem.W.fnOf "_law_rising" "_law_rising" (defArgs s__law_rising) (defBody s__law_rising) (defScope s__law_rising) .none kV15 dc15 pm15 an15 cd15 ct15), sl15⟩) (c15 : PySem.W.codeIn K cd15 "_law_rising" = true) (k15 : PySem.W.keepIn K (.ref f15) = true)
    {f16 : Addr} {od16 an16 : Option Addr} {sl16 : Array (Option Value)} {oc16 kV16 dc16 pm16 cd16 ct16 : Value}
    (a16 : PySem.W.nsIn K mainGlobals "_law_all_rising" = some (some (.ref f16))) (l16 : K.lookup f16 = some ⟨oc16, od16, .func (PySem.W.fnOf "_law_all_rising" "_law_all_rising" (defArgs s__law_all_rising) (defBody s__law_all_rising) (defScope s__law_all_rising) .none kV16 dc16 pm16 an16 cd16 ct16), sl16⟩) (c16 : PySem.W.codeIn K cd16 "_law_all_rising" = true) (k16 : PySem.W.keepIn K (.ref f16) = true)
    {f17 : Addr} {od17 an17 : Option Addr} {sl17 : Array (Option Value)} {oc17 kV17 dc17 pm17 cd17 ct17 : Value}
    (a17 : PySem.W.nsIn K mainGlobals "_law_due_row" = some (some (.ref f17))) (l17 : K.lookup f17 = some ⟨oc17, od17, .func (PySem.W.fnOf "_law_due_row" "_law_due_row" (defArgs s__law_due_row) (defBody s__law_due_row) (defScope s__law_due_row) .none kV17 dc17 pm17 an17 cd17 ct17), sl17⟩) (c17 : PySem.W.codeIn K cd17 "_law_due_row" = true) (k17 : PySem.W.keepIn K (.ref f17) = true)
    {f18 : Addr} {od18 an18 : Option Addr} {sl18 : Array (Option Value)} {oc18 kV18 dc18 pm18 cd18 ct18 : Value}
    (a18 : PySem.W.nsIn K mainGlobals "_law_mixed" = some (some (.ref f18))) (l18 : K.lookup f18 = some ⟨oc18, od18, .func (PySem.W.fnOf "_law_mixed" "_law_mixed" (defArgs s__law_mixed) (defBody s__law_mixed) (defScope s__law_mixed) .none kV18 dc18 pm18 an18 cd18 ct18), sl18⟩) (c18 : PySem.W.codeIn K cd18 "_law_mixed" = true) (k18 : PySem.W.keepIn K (.ref f18) = true)
    {f19 : Addr} {od19 an19 : Option Addr} {sl19 : Array (Option Value)} {oc19 kV19 dc19 pm19 cd19 ct19 : Value}
    (a19 : PySem.W.nsIn K mainGlobals "_law_numbers" = some (some (.ref f19))) (l19 : K.lookup f19 = some ⟨oc19, od19, .func (PySem.W.fnOf "_law_numbers" "_law_numbers" (defArgs s__law_numbers) (defBody s__law_numbers) (defScope s__law_numbers) .none kV19 dc19 pm19 an19 cd19 ct19), sl19⟩) (c19 : PySem.W.codeIn K cd19 "_law_numbers" = true) (k19 : PySem.W.keepIn K (.ref f19) = true)
    {f20 : Addr} {od20 an20 : Option Addr} {sl20 : Array (Option Value)} {oc20 kV20 dc20 pm20 cd20 ct20 : Value}
    (a20 : PySem.W.nsIn K mainGlobals "_law_ask" = some (some (.ref f20))) (l20 : K.lookup f20 = some ⟨oc20, od20, .func (PySem.W.fnOf "_law_ask" "_law_ask" (defArgs s__law_ask) (defBody s__law_ask) (defScope s__law_ask) .none kV20 dc20 pm20 an20 cd20 ct20), sl20⟩) (c20 : PySem.W.codeIn K cd20 "_law_ask" = true) (k20 : PySem.W.keepIn K (.ref f20) = true)
    {f21 : Addr} {od21 an21 : Option Addr} {sl21 : Array (Option Value)} {oc21 kV21 dc21 pm21 cd21 ct21 : Value}
    (a21 : PySem.W.nsIn K mainGlobals "_law_wrong" = some (some (.ref f21))) (l21 : K.lookup f21 = some ⟨oc21, od21, .func (PySem.W.fnOf "_law_wrong" "_law_wrong" (defArgs s__law_wrong) (defBody s__law_wrong) (defScope s__law_wrong) .none kV21 dc21 pm21 an21 cd21 ct21), sl21⟩) (c21 : PySem.W.codeIn K cd21 "_law_wrong" = true) (k21 : PySem.W.keepIn K (.ref f21) = true)
    {f22 : Addr} {od22 an22 : Option Addr} {sl22 : Array (Option Value)} {oc22 kV22 dc22 pm22 cd22 ct22 : Value}
    (a22 : PySem.W.nsIn K mainGlobals "law" = some (some (.ref f22))) (l22 : K.lookup f22 = some ⟨oc22, od22, .func (PySem.W.fnOf "law" "law" (defArgs s_law) (defBody s_law) (defScope s_law) .none kV22 dc22 pm22 an22 cd22 ct22), sl22⟩) (c22 : PySem.W.codeIn K cd22 "law" = true) (k22 : PySem.W.keepIn K (.ref f22) = true)
    (z_ValueError : PySem.W.nsIn K mainGlobals "ValueError" = some none)
    (z_abs : PySem.W.nsIn K mainGlobals "abs" = some none)
    (z_all : PySem.W.nsIn K mainGlobals "all" = some none)
    (z_bool : PySem.W.nsIn K mainGlobals "bool" = some none)
    (z_dict : PySem.W.nsIn K mainGlobals "dict" = some none)
    (z_enumerate : PySem.W.nsIn K mainGlobals "enumerate" = some none)
    (z_int : PySem.W.nsIn K mainGlobals "int" = some none)
    (z_isinstance : PySem.W.nsIn K mainGlobals "isinstance" = some none)
    (z_len : PySem.W.nsIn K mainGlobals "len" = some none)
    (z_list : PySem.W.nsIn K mainGlobals "list" = some none)
    (z_max : PySem.W.nsIn K mainGlobals "max" = some none)
    (z_min : PySem.W.nsIn K mainGlobals "min" = some none)
    (z_range : PySem.W.nsIn K mainGlobals "range" = some none)
    (z_sorted : PySem.W.nsIn K mainGlobals "sorted" = some none)
    (z_str : PySem.W.nsIn K mainGlobals "str" = some none)
    (z_tuple : PySem.W.nsIn K mainGlobals "tuple" = some none)
    {C_BadEdit : Addr} (ca_BadEdit : PySem.W.nsIn K mainGlobals "BadEdit" = some (some (.ref C_BadEdit))) (ci_BadEdit : PySem.W.isClsIn K C_BadEdit = true) (ct_BadEdit : PySem.W.typeIn K (.ref C_BadEdit) = some (.type "type"))
    {C_BadHistory : Addr} (ca_BadHistory : PySem.W.nsIn K mainGlobals "BadHistory" = some (some (.ref C_BadHistory))) (ci_BadHistory : PySem.W.isClsIn K C_BadHistory = true) (ct_BadHistory : PySem.W.typeIn K (.ref C_BadHistory) = some (.type "type"))
    {C_BadText : Addr} (ca_BadText : PySem.W.nsIn K mainGlobals "BadText" = some (some (.ref C_BadText))) (ci_BadText : PySem.W.isClsIn K C_BadText = true) (ct_BadText : PySem.W.typeIn K (.ref C_BadText) = some (.type "type"))
    {C_BadValue : Addr} (ca_BadValue : PySem.W.nsIn K mainGlobals "BadValue" = some (some (.ref C_BadValue))) (ci_BadValue : PySem.W.isClsIn K C_BadValue = true) (ct_BadValue : PySem.W.typeIn K (.ref C_BadValue) = some (.type "type"))
    {C_NotShown : Addr} (ca_NotShown : PySem.W.nsIn K mainGlobals "NotShown" = some (some (.ref C_NotShown))) (ci_NotShown : PySem.W.isClsIn K C_NotShown = true) (ct_NotShown : PySem.W.typeIn K (.ref C_NotShown) = some (.type "type"))
    {C_Ring : Addr} (ca_Ring : PySem.W.nsIn K mainGlobals "Ring" = some (some (.ref C_Ring))) (ci_Ring : PySem.W.isClsIn K C_Ring = true) (ct_Ring : PySem.W.typeIn K (.ref C_Ring) = some (.type "type"))
    {C_Sealed : Addr} (ca_Sealed : PySem.W.nsIn K mainGlobals "Sealed" = some (some (.ref C_Sealed))) (ci_Sealed : PySem.W.isClsIn K C_Sealed = true) (ct_Sealed : PySem.W.typeIn K (.ref C_Sealed) = some (.type "type"))
    {C_TooOld : Addr} (ca_TooOld : PySem.W.nsIn K mainGlobals "TooOld" = some (some (.ref C_TooOld))) (ci_TooOld : PySem.W.isClsIn K C_TooOld = true) (ct_TooOld : PySem.W.typeIn K (.ref C_TooOld) = some (.type "type"))
    {C_NothingToUndo : Addr} (ca_NothingToUndo : PySem.W.nsIn K mainGlobals "NothingToUndo" = some (some (.ref C_NothingToUndo))) (ci_NothingToUndo : PySem.W.isClsIn K C_NothingToUndo = true) (ct_NothingToUndo : PySem.W.typeIn K (.ref C_NothingToUndo) = some (.type "type"))
    {C_NothingToRedo : Addr} (ca_NothingToRedo : PySem.W.nsIn K mainGlobals "NothingToRedo" = some (some (.ref C_NothingToRedo))) (ci_NothingToRedo : PySem.W.isClsIn K C_NothingToRedo = true) (ct_NothingToRedo : PySem.W.typeIn K (.ref C_NothingToRedo) = some (.type "type"))
    {C_BadVersion : Addr} (ca_BadVersion : PySem.W.nsIn K mainGlobals "BadVersion" = some (some (.ref C_BadVersion))) (ci_BadVersion : PySem.W.isClsIn K C_BadVersion = true) (ct_BadVersion : PySem.W.typeIn K (.ref C_BadVersion) = some (.type "type"))
    {C_TwoFaces : Addr} (ca_TwoFaces : PySem.W.nsIn K mainGlobals "TwoFaces" = some (some (.ref C_TwoFaces))) (ci_TwoFaces : PySem.W.isClsIn K C_TwoFaces = true) (ct_TwoFaces : PySem.W.typeIn K (.ref C_TwoFaces) = some (.type "type"))
    {C_ApartError : Addr} (ca_ApartError : PySem.W.nsIn K mainGlobals "ApartError" = some (some (.ref C_ApartError))) (ci_ApartError : PySem.W.isClsIn K C_ApartError = true) (ct_ApartError : PySem.W.typeIn K (.ref C_ApartError) = some (.type "type"))
    (cb : PySem.W.subIn K (.ref C_ApartError) (.type "BaseException") = some true)
    {xn_BadValue xq_BadValue : Str} {xN_BadValue : Addr} {xb_BadValue xm_BadValue : List Value} {xs_BadValue : List Str} {xu_BadValue : List Value} {xa_BadValue : Bool} {xc_BadValue : Option Bool} {xd_BadValue : Option Addr} {y0_BadValue y1_BadValue y2_BadValue y3_BadValue y5_BadValue : Option Value}
    (xl_BadValue : K.lookup C_BadValue = some (PySem.excClassObj xn_BadValue xq_BadValue C_BadValue xN_BadValue xb_BadValue xm_BadValue true xs_BadValue xu_BadValue xa_BadValue xc_BadValue xd_BadValue y0_BadValue y1_BadValue y2_BadValue y3_BadValue y5_BadValue "ValueError.__new__")) (xr_BadValue : PySem.HandSPX.refsVE xm_BadValue = true)
    (sa_BadValue : PySem.W.findIn K (.ref C_BadValue) "__setattr__" = some (some (.builtin "object.__setattr__"))) (eb_BadValue : PySem.W.subIn K (.ref C_BadValue) (.type "BaseException") = some true) (kp_BadValue : PySem.W.keepIn K (.ref C_BadValue) = true)
    {i_BadValue : Addr} (in_BadValue : PySem.W.findIn K (.ref C_BadValue) "__init__" = some (some (.ref i_BadValue))) (it_BadValue : PySem.W.typeIn K (.ref i_BadValue) = some (.type "function"))
    {od_BadValue an_BadValue : Option Addr} {sl_BadValue : Array (Option Value)} {oc_BadValue kV_BadValue dc_BadValue pm_BadValue cd_BadValue ct2_BadValue : Value}
    (il_BadValue : K.lookup i_BadValue = some ⟨oc_BadValue, od_BadValue, .func (PySem.W.fnOf "__init__" "BadValue.__init__" (defArgs s_BadValue_init) (defBody s_BadValue_init) (defScope s_BadValue_init) .none kV_BadValue dc_BadValue pm_BadValue an_BadValue cd_BadValue ct2_BadValue), sl_BadValue⟩) (ic_BadValue : PySem.W.codeIn K cd_BadValue "BadValue.__init__" = true) (ik_BadValue : PySem.W.keepIn K (.ref i_BadValue) = true)
    (ga_BadValue : PySem.W.findIn K (.ref C_BadValue) "__getattribute__" = some (some (.builtin "BaseException.__getattribute__"))) (gt_BadValue : PySem.W.findIn K (.ref C_BadValue) "__getattr__" = some none) (kc_BadValue : PySem.W.findIn K (.ref C_BadValue) "__class__" = some (some (.builtin "object.__class__")))
    (mo_BadValue : PySem.W.mroIn K C_BadValue (.type "object") = some true) (hd_BadValue : PySem.W.hasDictIn K C_BadValue = true)
    (no_BadValue_word : PySem.W.findIn K (.ref C_BadValue) "word" = some none)
    (no_BadValue_index : PySem.W.findIn K (.ref C_BadValue) "index" = some none)
    (no_BadValue_line : PySem.W.findIn K (.ref C_BadValue) "line" = some none)
    (no_BadValue_column : PySem.W.findIn K (.ref C_BadValue) "column" = some none)
    (no_BadValue_name : PySem.W.findIn K (.ref C_BadValue) "name" = some none)
    (no_BadValue_slot : PySem.W.findIn K (.ref C_BadValue) "slot" = some none)
    (no_BadValue_nodes : PySem.W.findIn K (.ref C_BadValue) "nodes" = some none)
    (no_BadValue_id : PySem.W.findIn K (.ref C_BadValue) "id" = some none)
    (no_BadValue_version : PySem.W.findIn K (.ref C_BadValue) "version" = some none)
    (no_BadValue_hand : PySem.W.findIn K (.ref C_BadValue) "hand" = some none)
    (sb_BadValue_BadEdit : PySem.W.subIn K (.ref C_BadValue) (.ref C_BadEdit) = some false)
    (sb_BadValue_BadHistory : PySem.W.subIn K (.ref C_BadValue) (.ref C_BadHistory) = some false)
    (sb_BadValue_BadText : PySem.W.subIn K (.ref C_BadValue) (.ref C_BadText) = some false)
    (sb_BadValue_BadValue : PySem.W.subIn K (.ref C_BadValue) (.ref C_BadValue) = some true)
    (sb_BadValue_NotShown : PySem.W.subIn K (.ref C_BadValue) (.ref C_NotShown) = some false)
    (sb_BadValue_Ring : PySem.W.subIn K (.ref C_BadValue) (.ref C_Ring) = some false)
    (sb_BadValue_Sealed : PySem.W.subIn K (.ref C_BadValue) (.ref C_Sealed) = some false)
    (sb_BadValue_TooOld : PySem.W.subIn K (.ref C_BadValue) (.ref C_TooOld) = some false)
    (sb_BadValue_NothingToUndo : PySem.W.subIn K (.ref C_BadValue) (.ref C_NothingToUndo) = some false)
    (sb_BadValue_NothingToRedo : PySem.W.subIn K (.ref C_BadValue) (.ref C_NothingToRedo) = some false)
    (sb_BadValue_BadVersion : PySem.W.subIn K (.ref C_BadValue) (.ref C_BadVersion) = some false)
    (sb_BadValue_TwoFaces : PySem.W.subIn K (.ref C_BadValue) (.ref C_TwoFaces) = some false)
    (sb_BadValue_ApartError : PySem.W.subIn K (.ref C_BadValue) (.ref C_ApartError) = some true)
    (sv_BadValue : PySem.W.subIn K (.ref C_BadValue) (.type "ValueError") = some true)
    (kg : PySem.W.specialIn K (.builtin "object.__class__") "__get__" = some (some (.builtin "getset_descriptor.__get__"))) (kt : PySem.W.takesIn K (.builtin "object.__class__") = some true)
    : ∃ fd : FuncData, (∀ (s : Shared) (v : Value), BindsTo s fd ⟨[v], []⟩ [("script", v)]) ∧ ∀ base : Heap, K.In base → base.Ns mainGlobals mg → FnOk l.prog w K mg base CX0 11 fa fd ["script"] (spLaw K) := by
  have e := hfa.symm.trans (PySem.W.mg_of X G a22)
  cases e
  have FI_BadValue := fun_mk (st := s_BadValue_init) il_BadValue ic_BadValue ik_BadValue
  have BI_BadValue := FI_BadValue.binds (ps := ["self", "name"]) fun _ _ _ _ _ _ us hl => match us, hl with | [_, _], _ => rfl
  have F0 := fun_mk (st := s_is_integer) l0 c0 k0
  have b0 := F0.binds (ps := ["value"]) fun _ _ _ _ _ _ us hl => match us, hl with | [_], _ => rfl
  have F1 := fun_mk (st := s_first_not_greater) l1 c1 k1
  have b1 := F1.binds (ps := ["tails", "number"]) fun _ _ _ _ _ _ us hl => match us, hl with | [_, _], _ => rfl
  have F2 := fun_mk (st := s_lengths_from) l2 c2 k2
  have b2 := F2.binds (ps := ["numbers"]) fun _ _ _ _ _ _ us hl => match us, hl with | [_], _ => rfl
  have F3 := fun_mk (st := s_rising_places) l3 c3 k3
  have b3 := F3.binds (ps := ["numbers"]) fun _ _ _ _ _ _ us hl => match us, hl with | [_], _ => rfl
  have F4 := fun_mk (st := s_kept_row) l4 c4 k4
  have b4 := F4.binds (ps := ["numbers"]) fun _ _ _ _ _ _ us hl => match us, hl with | [_], _ => rfl
  have F5 := fun_mk (st := s__law_stream) l5 c5 k5
  have b5 := F5.binds (ps := ["script"]) fun _ _ _ _ _ _ us hl => match us, hl with | [_], _ => rfl
  have F6 := fun_mk (st := s__law_next) l6 c6 k6
  have b6 := F6.binds (ps := ["stream", "many"]) fun _ _ _ _ _ _ us hl => match us, hl with | [_, _], _ => rfl
  have F7 := fun_mk (st := s__law_pick) l7 c7 k7
  have b7 := F7.binds (ps := ["stream", "rows"]) fun _ _ _ _ _ _ us hl => match us, hl with | [_, _], _ => rfl
  have F8 := fun_mk (st := s__law_from) l8 c8 k8
  have b8 := F8.binds (ps := ["stream", "low", "high"]) fun _ _ _ _ _ _ us hl => match us, hl with | [_, _, _], _ => rfl
  have F9 := fun_mk (st := s__law_shuffled) l9 c9 k9
  have b9 := F9.binds (ps := ["stream", "rows"]) fun _ _ _ _ _ _ us hl => match us, hl with | [_, _], _ => rfl
  have F10 := fun_mk (st := s__law_is_row) l10 c10 k10
  have b10 := F10.binds (ps := ["value", "kind", "many"]) fun _ _ _ _ _ _ us hl => match us, hl with | [_, _, _], _ => rfl
  have F11 := fun_mk (st := s__law_same) l11 c11 k11
  have b11 := F11.binds (ps := ["actual", "due"]) fun _ _ _ _ _ _ us hl => match us, hl with | [_, _], _ => rfl
  have F12 := fun_mk (st := s__law_named) l12 c12 k12
  have b12 := F12.binds (ps := ["error"]) fun _ _ _ _ _ _ us hl => match us, hl with | [_], _ => rfl
  have F13 := fun_mk (st := s__law_attributes) l13 c13 k13
  have b13 := F13.binds (ps := ["e", "name"]) fun _ _ _ _ _ _ us hl => match us, hl with | [_, _], _ => rfl
  have F14 := fun_mk (st := s__law_error) l14 c14 k14
  have b14 := F14.binds (ps := ["error"]) fun _ _ _ _ _ _ us hl => match us, hl with | [_], _ => rfl
  have F15 := fun_mk (st := s__law_rising) l15 c15 k15
  have b15 := F15.binds (ps := ["numbers"]) fun _ _ _ _ _ _ us hl => match us, hl with | [_], _ => rfl
  have F16 := fun_mk (st := s__law_all_rising) l16 c16 k16
  have b16 := F16.binds (ps := ["numbers"]) fun _ _ _ _ _ _ us hl => match us, hl with | [_], _ => rfl
  have F17 := fun_mk (st := s__law_due_row) l17 c17 k17
  have b17 := F17.binds (ps := ["numbers"]) fun _ _ _ _ _ _ us hl => match us, hl with | [_], _ => rfl
  have F18 := fun_mk (st := s__law_mixed) l18 c18 k18
  have b18 := F18.binds (ps := ["stream", "many"]) fun _ _ _ _ _ _ us hl => match us, hl with | [_, _], _ => rfl
  have F19 := fun_mk (st := s__law_numbers) l19 c19 k19
  have b19 := F19.binds (ps := ["stream", "many"]) fun _ _ _ _ _ _ us hl => match us, hl with | [_, _], _ => rfl
  have F20 := fun_mk (st := s__law_ask) l20 c20 k20
  have b20 := F20.binds (ps := ["numbers"]) fun _ _ _ _ _ _ us hl => match us, hl with | [_], _ => rfl
  have F21 := fun_mk (st := s__law_wrong) l21 c21 k21
  have b21 := F21.binds (ps := ["stream", "numbers"]) fun _ _ _ _ _ _ us hl => match us, hl with | [_, _], _ => rfl
  have F22 := fun_mk (st := s_law) l22 c22 k22
  have b22 := F22.binds (ps := ["script"]) fun _ _ _ _ _ _ us hl => match us, hl with | [_], _ => rfl
  exact ⟨_, fun s v => .of_eq rfl, fun base _ _ => law_fn (⟨(fun c => match c with | .BadEdit => C_BadEdit | .BadHistory => C_BadHistory | .BadText => C_BadText | .BadValue => C_BadValue | .NotShown => C_NotShown | .Ring => C_Ring | .Sealed => C_Sealed | .TooOld => C_TooOld | .NothingToUndo => C_NothingToUndo | .NothingToRedo => C_NothingToRedo | .BadVersion => C_BadVersion | .TwoFaces => C_TwoFaces | .ApartError => C_ApartError), PySem.W.mg_of X G ca_BadEdit, PySem.W.mg_of X G ca_BadHistory, PySem.W.mg_of X G ca_BadText, PySem.W.mg_of X G ca_BadValue, PySem.W.mg_of X G ca_NotShown, PySem.W.mg_of X G ca_Ring, PySem.W.mg_of X G ca_Sealed, PySem.W.mg_of X G ca_TooOld, PySem.W.mg_of X G ca_NothingToUndo, PySem.W.mg_of X G ca_NothingToRedo, PySem.W.mg_of X G ca_BadVersion, PySem.W.mg_of X G ca_TwoFaces, PySem.W.mg_of X G ca_ApartError, ⟨⟨_, _, _, _, _, _, _, _, _, _, _, _, _, _, _, xl_BadValue, xr_BadValue⟩, sa_BadValue, eb_BadValue, ct_BadValue, kp_BadValue⟩, i_BadValue, _, in_BadValue, it_BadValue, FI_BadValue, BI_BadValue, ⟨ci_BadValue, ga_BadValue, gt_BadValue, eb_BadValue, kc_BadValue, kg, kt, mo_BadValue⟩, hd_BadValue, no_BadValue_word, no_BadValue_index, no_BadValue_line, no_BadValue_column, no_BadValue_name, no_BadValue_slot, no_BadValue_nodes, no_BadValue_id, no_BadValue_version, no_BadValue_hand, kit_of ci_BadEdit ct_BadEdit sb_BadValue_BadValue sb_BadValue_BadEdit, kit_of ci_BadHistory ct_BadHistory sb_BadValue_BadValue sb_BadValue_BadHistory, kit_of ci_BadText ct_BadText sb_BadValue_BadValue sb_BadValue_BadText, kit_of ci_BadValue ct_BadValue sb_BadValue_BadValue sb_BadValue_BadValue, kit_of ci_NotShown ct_NotShown sb_BadValue_BadValue sb_BadValue_NotShown, kit_of ci_Ring ct_Ring sb_BadValue_BadValue sb_BadValue_Ring, kit_of ci_Sealed ct_Sealed sb_BadValue_BadValue sb_BadValue_Sealed, kit_of ci_TooOld ct_TooOld sb_BadValue_BadValue sb_BadValue_TooOld, kit_of ci_NothingToUndo ct_NothingToUndo sb_BadValue_BadValue sb_BadValue_NothingToUndo, kit_of ci_NothingToRedo ct_NothingToRedo sb_BadValue_BadValue sb_BadValue_NothingToRedo, kit_of ci_BadVersion ct_BadVersion sb_BadValue_BadValue sb_BadValue_BadVersion, kit_of ci_TwoFaces ct_TwoFaces sb_BadValue_BadValue sb_BadValue_TwoFaces, kit_of ci_ApartError ct_ApartError sb_BadValue_BadValue sb_BadValue_ApartError, kit_ofT (by decide +kernel) sv_BadValue, exm_of cb ci_ApartError ct_ApartError sb_BadValue_ApartError, _, _, F0, PySem.W.mg_of X G a0, b0, _, _, F1, PySem.W.mg_of X G a1, b1, _, _, F2, PySem.W.mg_of X G a2, b2, _, _, F3, PySem.W.mg_of X G a3, b3, _, _, F4, PySem.W.mg_of X G a4, b4, _, _, F5, PySem.W.mg_of X G a5, b5, _, _, F6, PySem.W.mg_of X G a6, b6, _, _, F7, PySem.W.mg_of X G a7, b7, _, _, F8, PySem.W.mg_of X G a8, b8, _, _, F9, PySem.W.mg_of X G a9, b9, _, _, F10, PySem.W.mg_of X G a10, b10, _, _, F11, PySem.W.mg_of X G a11, b11, _, _, F12, PySem.W.mg_of X G a12, b12, _, _, F13, PySem.W.mg_of X G a13, b13, _, _, F14, PySem.W.mg_of X G a14, b14, _, _, F15, PySem.W.mg_of X G a15, b15, _, _, F16, PySem.W.mg_of X G a16, b16, _, _, F17, PySem.W.mg_of X G a17, b17, _, _, F18, PySem.W.mg_of X G a18, b18, _, _, F19, PySem.W.mg_of X G a19, b19, _, _, F20, PySem.W.mg_of X G a20, b20, _, _, F21, PySem.W.mg_of X G a21, b21, _, _, F22, PySem.W.mg_of X G a22, b22, PySem.W.mg_none_of X G z_ValueError, PySem.W.mg_none_of X G z_abs, PySem.W.mg_none_of X G z_all, PySem.W.mg_none_of X G z_bool, PySem.W.mg_none_of X G z_dict, PySem.W.mg_none_of X G z_enumerate, PySem.W.mg_none_of X G z_int, PySem.W.mg_none_of X G z_isinstance, PySem.W.mg_none_of X G z_len, PySem.W.mg_none_of X G z_list, PySem.W.mg_none_of X G z_max, PySem.W.mg_none_of X G z_min, PySem.W.mg_none_of X G z_range, PySem.W.mg_none_of X G z_sorted, PySem.W.mg_none_of X G z_str, PySem.W.mg_none_of X G z_tuple⟩ : Tx K mg)⟩
end K65
open PySem PySem.W PyProof.Rows
set_option maxHeartbeats 0 in
theorem PySem.Challenge.cw_togetherapart_k65_the_kept_row_holds : PySem.Challenge.rw_togetherapart_k65_the_kept_row.Holds := by
  w_on; o_law; k_head; (case hw => w_witness2)
  k_fill
  refine L2.walk_of (l := PySem.Challenge.rw_togetherapart_k65_the_kept_row) (n := 63) (k := 11) (x := "script") (CX := fun _ => L2.CX0) (sp := fun w => Ly.spLaw _) rfl (by decide) rfl ⟨rfl, by decide, by decide⟩ (fun w h Y => PySem.W.kIn_of Y) ?F (fun _ _ a ns hl _ hS => ⟨a, ns, rfl, hS, hl, fun _ => rfl⟩) (fun _ _ _ _ _ h => h)
  case F =>
    intro w mg fa h KX G hmg
    refine' K65.all_mk KX G hmg ?a0 ?l0 ?c0 ?k0 ?a1 ?l1 ?c1 ?k1 ?a2 ?l2 ?c2 ?k2 ?a3 ?l3 ?c3 ?k3 ?a4 ?l4 ?c4 ?k4 ?a5 ?l5 ?c5 ?k5 ?a6 ?l6 ?c6 ?k6 ?a7 ?l7 ?c7 ?k7 ?a8 ?l8 ?c8 ?k8 ?a9 ?l9 ?c9 ?k9 ?a10 ?l10 ?c10 ?k10 ?a11 ?l11 ?c11 ?k11 ?a12 ?l12 ?c12 ?k12 ?a13 ?l13 ?c13 ?k13 ?a14 ?l14 ?c14 ?k14 ?a15 ?l15 ?c15 ?k15 ?a16 ?l16 ?c16 ?k16 ?a17 ?l17 ?c17 ?k17 ?a18 ?l18 ?c18 ?k18 ?a19 ?l19 ?c19 ?k19 ?a20 ?l20 ?c20 ?k20 ?a21 ?l21 ?c21 ?k21 ?a22 ?l22 ?c22 ?k22 ?z_ValueError ?z_abs ?z_all ?z_bool ?z_dict ?z_enumerate ?z_int ?z_isinstance ?z_len ?z_list ?z_max ?z_min ?z_range ?z_sorted ?z_str ?z_tuple ?ca_BadEdit ?ci_BadEdit ?ct_BadEdit ?ca_BadHistory ?ci_BadHistory ?ct_BadHistory ?ca_BadText ?ci_BadText ?ct_BadText ?ca_BadValue ?ci_BadValue ?ct_BadValue ?ca_NotShown ?ci_NotShown ?ct_NotShown ?ca_Ring ?ci_Ring ?ct_Ring ?ca_Sealed ?ci_Sealed ?ct_Sealed ?ca_TooOld ?ci_TooOld ?ct_TooOld ?ca_NothingToUndo ?ci_NothingToUndo ?ct_NothingToUndo ?ca_NothingToRedo ?ci_NothingToRedo ?ct_NothingToRedo ?ca_BadVersion ?ci_BadVersion ?ct_BadVersion ?ca_TwoFaces ?ci_TwoFaces ?ct_TwoFaces ?ca_ApartError ?ci_ApartError ?ct_ApartError ?cb ?xl_BadValue ?xr_BadValue ?sa_BadValue ?eb_BadValue ?kp_BadValue ?in_BadValue ?it_BadValue ?il_BadValue ?ic_BadValue ?ik_BadValue ?ga_BadValue ?gt_BadValue ?kc_BadValue ?mo_BadValue ?hd_BadValue ?no_BadValue_word ?no_BadValue_index ?no_BadValue_line ?no_BadValue_column ?no_BadValue_name ?no_BadValue_slot ?no_BadValue_nodes ?no_BadValue_id ?no_BadValue_version ?no_BadValue_hand ?sb_BadValue_BadEdit ?sb_BadValue_BadHistory ?sb_BadValue_BadText ?sb_BadValue_BadValue ?sb_BadValue_NotShown ?sb_BadValue_Ring ?sb_BadValue_Sealed ?sb_BadValue_TooOld ?sb_BadValue_NothingToUndo ?sb_BadValue_NothingToRedo ?sb_BadValue_BadVersion ?sb_BadValue_TwoFaces ?sb_BadValue_ApartError ?sv_BadValue ?kg ?kt
    (case a0 => k_is)
    (case l0 => k_is)
    (case c0 => k_is)
    (case k0 => k_is)
    (case a1 => k_is)
    (case l1 => k_is)
    (case c1 => k_is)
    (case k1 => k_is)
    (case a2 => k_is)
    (case l2 => k_is)
    (case c2 => k_is)
    (case k2 => k_is)
    (case a3 => k_is)
    (case l3 => k_is)
    (case c3 => k_is)
    (case k3 => k_is)
    (case a4 => k_is)
    (case l4 => k_is)
    (case c4 => k_is)
    (case k4 => k_is)
    (case a5 => k_is)
    (case l5 => k_is)
    (case c5 => k_is)
    (case k5 => k_is)
    (case a6 => k_is)
    (case l6 => k_is)
    (case c6 => k_is)
    (case k6 => k_is)
    (case a7 => k_is)
    (case l7 => k_is)
    (case c7 => k_is)
    (case k7 => k_is)
    (case a8 => k_is)
    (case l8 => k_is)
    (case c8 => k_is)
    (case k8 => k_is)
    (case a9 => k_is)
    (case l9 => k_is)
    (case c9 => k_is)
    (case k9 => k_is)
    (case a10 => k_is)
    (case l10 => k_is)
    (case c10 => k_is)
    (case k10 => k_is)
    (case a11 => k_is)
    (case l11 => k_is)
    (case c11 => k_is)
    (case k11 => k_is)
    (case a12 => k_is)
    (case l12 => k_is)
    (case c12 => k_is)
    (case k12 => k_is)
    (case a13 => k_is)
    (case l13 => k_is)
    (case c13 => k_is)
    (case k13 => k_is)
    (case a14 => k_is)
    (case l14 => k_is)
    (case c14 => k_is)
    (case k14 => k_is)
    (case a15 => k_is)
    (case l15 => k_is)
    (case c15 => k_is)
    (case k15 => k_is)
    (case a16 => k_is)
    (case l16 => k_is)
    (case c16 => k_is)
    (case k16 => k_is)
    (case a17 => k_is)
    (case l17 => k_is)
    (case c17 => k_is)
    (case k17 => k_is)
    (case a18 => k_is)
    (case l18 => k_is)
    (case c18 => k_is)
    (case k18 => k_is)
    (case a19 => k_is)
    (case l19 => k_is)
    (case c19 => k_is)
    (case k19 => k_is)
    (case a20 => k_is)
    (case l20 => k_is)
    (case c20 => k_is)
    (case k20 => k_is)
    (case a21 => k_is)
    (case l21 => k_is)
    (case c21 => k_is)
    (case k21 => k_is)
    (case a22 => k_is)
    (case l22 => k_is)
    (case c22 => k_is)
    (case k22 => k_is)
    (case z_ValueError => k_is)
    (case z_abs => k_is)
    (case z_all => k_is)
    (case z_bool => k_is)
    (case z_dict => k_is)
    (case z_enumerate => k_is)
    (case z_int => k_is)
    (case z_isinstance => k_is)
    (case z_len => k_is)
    (case z_list => k_is)
    (case z_max => k_is)
    (case z_min => k_is)
    (case z_range => k_is)
    (case z_sorted => k_is)
    (case z_str => k_is)
    (case z_tuple => k_is)
    (case ca_BadEdit => k_is)
    (case ci_BadEdit => k_is)
    (case ct_BadEdit => k_is)
    (case ca_BadHistory => k_is)
    (case ci_BadHistory => k_is)
    (case ct_BadHistory => k_is)
    (case ca_BadText => k_is)
    (case ci_BadText => k_is)
    (case ct_BadText => k_is)
    (case ca_BadValue => k_is)
    (case ci_BadValue => k_is)
    (case ct_BadValue => k_is)
    (case ca_NotShown => k_is)
    (case ci_NotShown => k_is)
    (case ct_NotShown => k_is)
    (case ca_Ring => k_is)
    (case ci_Ring => k_is)
    (case ct_Ring => k_is)
    (case ca_Sealed => k_is)
    (case ci_Sealed => k_is)
    (case ct_Sealed => k_is)
    (case ca_TooOld => k_is)
    (case ci_TooOld => k_is)
    (case ct_TooOld => k_is)
    (case ca_NothingToUndo => k_is)
    (case ci_NothingToUndo => k_is)
    (case ct_NothingToUndo => k_is)
    (case ca_NothingToRedo => k_is)
    (case ci_NothingToRedo => k_is)
    (case ct_NothingToRedo => k_is)
    (case ca_BadVersion => k_is)
    (case ci_BadVersion => k_is)
    (case ct_BadVersion => k_is)
    (case ca_TwoFaces => k_is)
    (case ci_TwoFaces => k_is)
    (case ct_TwoFaces => k_is)
    (case ca_ApartError => k_is)
    (case ci_ApartError => k_is)
    (case ct_ApartError => k_is)
    (case cb => k_is)
    (case xl_BadValue => k_is)
    (case xr_BadValue => first | rfl | decide +kernel)
    (case sa_BadValue => k_is)
    (case eb_BadValue => k_is)
    (case kp_BadValue => k_is)
    (case in_BadValue => k_is)
    (case it_BadValue => k_is)
    (case il_BadValue => k_is)
    (case ic_BadValue => k_is)
    (case ik_BadValue => k_is)
    (case ga_BadValue => k_is)
    (case gt_BadValue => k_is)
    (case kc_BadValue => k_is)
    (case mo_BadValue => k_is)
    (case hd_BadValue => k_is)
    (case no_BadValue_word => k_is)
    (case no_BadValue_index => k_is)
    (case no_BadValue_line => k_is)
    (case no_BadValue_column => k_is)
    (case no_BadValue_name => k_is)
    (case no_BadValue_slot => k_is)
    (case no_BadValue_nodes => k_is)
    (case no_BadValue_id => k_is)
    (case no_BadValue_version => k_is)
    (case no_BadValue_hand => k_is)
    (case sb_BadValue_BadEdit => k_is)
    (case sb_BadValue_BadHistory => k_is)
    (case sb_BadValue_BadText => k_is)
    (case sb_BadValue_BadValue => k_is)
    (case sb_BadValue_NotShown => k_is)
    (case sb_BadValue_Ring => k_is)
    (case sb_BadValue_Sealed => k_is)
    (case sb_BadValue_TooOld => k_is)
    (case sb_BadValue_NothingToUndo => k_is)
    (case sb_BadValue_NothingToRedo => k_is)
    (case sb_BadValue_BadVersion => k_is)
    (case sb_BadValue_TwoFaces => k_is)
    (case sb_BadValue_ApartError => k_is)
    (case sv_BadValue => k_is)
    (case kg => k_is)
    (case kt => k_is)
