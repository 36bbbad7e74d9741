import PyProof.Rows.All
import Wide.All
import OpenK.AllK
import Wide.FinOn
import HandS.ForMost
import HandS.ForExc
import HandS.Walk
import HandS.Zip
import HandS.Rev
import HandS.TupAny
import HandS.TupMul
import HandS.IsInst
import HandS.Deep
import HandS.Flow
import HandS.Conv
import HandS.CallSlots
import HandS.TryMany
import HandS.SortInts
import HandS.Strs
import HandS.TupSets
import HandS.Wide
import KE.DataEq
import KE.KStateDown
import KE.GoesNew
import KE.KDictZip
import HandS.Defaults
import HandS.Head0
import HandS.Head1
import HandS.Head2
import HandS.HeadEnd
import HandS.HeadHook1
import HandS.HeadHook2
import HandS.SetFor
import KE.SortData
import HandS.ExcIs
import KE.DataFind
import HandS.SortKw
import HandS.Text
import HandS.FStr
import KE.KIndexOf
import HandS.Iter
import HandS.ExcInit
import HandS.ExcField
import HandS.ClsMeth
import KE.KExcIs
import PySem.Challenge.RW_polytables_k14_text
set_option Elab.async false
set_option linter.all false
set_option maxRecDepth 100000
set_option maxHeartbeats 4000000
namespace PT
open PySem PySem.Spec PyProof.Rows L2

/-! ## data, environments, results -/
abbrev Dt := PyData
/-- a slot: a list that this slot alone holds, or any data -/
inductive SV where
  | own (xs : List Dt)
  | sh (d : Dt)
abbrev En := List (Option SV)
inductive Rs where
  | val (d : Dt)
  | exc (n : Str) (pl : Option Dt)
abbrev EF := Bool → En → Option Rs
def bnd (x : Option Rs) (k : Dt → Option Rs) : Option Rs :=
  match x with
  | some (.val d) => k d
  | y => y
/-- what is owned: by a slot (f), and by those around (x) -/
structure Ow where
  f : Nat → Option Addr
  x : Addr → Prop
def OI (ow : Ow) (a : Addr) : Prop := ∃ i, ow.f i = some a
def OA (ow : Ow) (a : Addr) : Prop := OI ow a ∨ ow.x a

/-! ## what a value stands for -/
/-- the script, as data: no list of the program's own -/
def scr (ns : List Int) : Dt := .dict (ns.map fun i => (.int i, .none))
/-- the script: locked, or of the written part -/
def ScrAt (K : PySem.W.Frag) (H : Hp) (a : Addr) (ns : List Int) : Prop := (∃ o, H a = some (.frz o (.lst (ns.map V.int)))) ∨
  ∃ (o : Obj) (its : Array Value) (n : Nat), K.lookup a = some o ∧ o.cls = .type "list" ∧ o.dict = none ∧ o.data = .seq its n ∧ its.size ≤ sizeLine ∧ Vals (ns.map V.int) its.toList
theorem ScrAt.sq {K : PySem.W.Frag} {H : Hp} {a : Addr} {ns : List Int} (h : ScrAt K H a ns) : SqL K H a (ns.map V.int) := by
  rcases h with ⟨o, h⟩ | h
  · exact .inl (.inr ⟨o, h⟩)
  · exact .inr h
theorem ScrAt.imp {K : PySem.W.Frag} {H H' : Hp} {a : Addr} {ns : List Int} (e : ∀ o u, H a = some (.frz o u) → H' a = some (.frz o u)) (h : ScrAt K H a ns) : ScrAt K H' a ns := by
  rcases h with ⟨o, h⟩ | h
  · exact .inl ⟨o, e _ _ h⟩
  · exact .inr h
/-- a tuple made by the program: known to the object, which has no dict -/
def FT (H : Hp) (a : Addr) (xs : List V) : Prop := ∃ o : Obj, H a = some (.frz o (.tup xs)) ∧ o.dict = none
theorem FT.sq {K : PySem.W.Frag} {H : Hp} {a : Addr} {xs : List V} (h : FT H a xs) : SqT K H a xs := let ⟨o, h, _⟩ := h; .inl (.inr ⟨o, h⟩)
mutual
inductive Rp (K : PySem.W.Frag) (O : Addr → Prop) (H : Hp) : V → Dt → Prop
  | non : Rp K O H .non .none
  | bl (b : Bool) : Rp K O H (.bl b) (.bool b)
  | int (i : Int) : Rp K O H (.int i) (.int i)
  | str (x : Str) : Rp K O H (.str x) (.str x)
  | lst {a : Addr} {xs : List V} {ds : List Dt} : H a = some (.lst xs) → ¬ O a → RpAll K O H xs ds → Rp K O H (.ref a) (.list ds)
  | tup {a : Addr} {xs : List V} {ds : List Dt} : FT H a xs → RpAll K O H xs ds → Rp K O H (.ref a) (.tuple ds)
  | scr {a : Addr} {ns : List Int} : ScrAt K H a ns → Rp K O H (.ref a) (.dict (ns.map fun i => (.int i, .none)))
inductive RpAll (K : PySem.W.Frag) (O : Addr → Prop) (H : Hp) : List V → List Dt → Prop
  | nil : RpAll K O H [] []
  | cons {v : V} {vs : List V} {d : Dt} {ds : List Dt} : Rp K O H v d → RpAll K O H vs ds → RpAll K O H (v :: vs) (d :: ds)
end
abbrev NoO : Addr → Prop := fun _ => False
/-- every owned address bears a list -/
structure OkO (ow : Ow) (H : Hp) : Prop where
  lst : ∀ i a, ow.f i = some a → ∃ ys, H a = some (.lst ys)
  ext : ∀ a, ow.x a → H a ≠ none
/-- what stood and is not owned by a slot stands -/
structure Kp (ow : Ow) (H H' : Hp) : Prop where
  keep : ∀ a o, H a = some o → ¬ OI ow a → H' a = some o
  dom : ∀ a, H a ≠ none → H' a ≠ none
structure Stp (ow : Ow) (H : Hp) (ow' : Ow) (H' : Hp) : Prop where
  kp : Kp ow H H'
  new : ∀ a, OI ow' a → OI ow a ∨ H a = none
  ext : ow'.x = ow.x
theorem Same.dom {H H' : Hp} (e : Same H H') (a : Addr) (h : H a ≠ none) : H' a ≠ none := by
  cases q : H a with
  | none => exact absurd q h
  | some o => rw [e a o q]; exact fun z => nomatch z
theorem Same.kp {ow : Ow} {H H' : Hp} (e : Same H H') : Kp ow H H' := ⟨fun a o h _ => e a o h, Same.dom e⟩
theorem Same.stp {ow : Ow} {H H' : Hp} (e : Same H H') : Stp ow H ow H' := ⟨Same.kp e, fun _ h => .inl h, rfl⟩
theorem Stp.refl (ow : Ow) (H : Hp) : Stp ow H ow H := Same.stp (Same.refl H)
theorem Stp.kp2 {ow ow1 : Ow} {H H1 H2 : Hp} (a : Stp ow H ow1 H1) (b : Kp ow1 H1 H2) : Kp ow H H2 :=
  ⟨fun x o h n => b.keep x o (a.kp.keep x o h n) fun q => (a.new x q).elim n (fun z => by rw [z] at h; cases h), fun x h => b.dom x (a.kp.dom x h)⟩
theorem Stp.trans {ow ow1 ow2 : Ow} {H H1 H2 : Hp} (a : Stp ow H ow1 H1) (b : Stp ow1 H1 ow2 H2) : Stp ow H ow2 H2 :=
  ⟨a.kp2 b.kp, fun x q => (b.new x q).elim (fun z => a.new x z) fun z => by
    cases e : H x with
    | none => exact .inr rfl
    | some o => exact absurd z (a.kp.dom x (by rw [e]; exact fun z => nomatch z)), b.ext.trans a.ext⟩
theorem Same.upd {H : Hp} {p : Addr} {o : HO} (h : H p = none) : Same H (upd H p o) := fun a u e => by
  rw [upd_ne (ne_of_none e h)]
  exact e
theorem OkO.not {ow : Ow} {H : Hp} {a : Addr} {o : HO} (ok : OkO ow H) (e : H a = some o) (n : ∀ ys, o ≠ .lst ys) : ¬ OI ow a := fun ⟨i, hi⟩ => by
  obtain ⟨ys, hy⟩ := ok.lst i a hi
  rw [e] at hy
  exact n ys (Option.some.inj hy)
theorem OkO.new {ow : Ow} {H : Hp} {a : Addr} (ok : OkO ow H) (e : H a = none) : ¬ OA ow a := fun q => by
  rcases q with ⟨i, hi⟩ | q
  · obtain ⟨ys, hy⟩ := ok.lst i a hi
    rw [e] at hy; cases hy
  · exact ok.ext a q e
mutual
theorem Rp.stp {K : PySem.W.Frag} {ow ow' : Ow} {H H' : Hp} (ok : OkO ow H) (s : Stp ow H ow' H') : ∀ {v : V} {d : Dt}, Rp K (OA ow) H v d → Rp K (OA ow') H' v d
  | _, _, .non => .non
  | _, _, .bl b => .bl b
  | _, _, .int i => .int i
  | _, _, .str x => .str x
  | _, _, .lst h n r => .lst (s.kp.keep _ _ h fun z => n (.inl z)) (fun q => q.elim (fun q => (s.new _ q).elim (fun z => n (.inl z)) fun z => by rw [z] at h; cases h) fun q => n (.inr (by rw [← s.ext]; exact q))) (RpAll.stp ok s r)
  | _, _, .tup ⟨o, h, hd⟩ r => .tup ⟨o, s.kp.keep _ _ h (ok.not h fun _ z => by cases z), hd⟩ (RpAll.stp ok s r)
  | _, _, .scr h => .scr (h.imp fun _ _ h => s.kp.keep _ _ h (ok.not h fun _ z => by cases z))
theorem RpAll.stp {K : PySem.W.Frag} {ow ow' : Ow} {H H' : Hp} (ok : OkO ow H) (s : Stp ow H ow' H') : ∀ {vs : List V} {ds : List Dt}, RpAll K (OA ow) H vs ds → RpAll K (OA ow') H' vs ds
  | _, _, .nil => .nil
  | _, _, .cons a r => .cons (Rp.stp ok s a) (RpAll.stp ok s r)
end
mutual
theorem Rp.fresh {K : PySem.W.Frag} {O O' : Addr → Prop} {H : Hp} (n : ∀ a o, H a = some o → ¬ O a → ¬ O' a) : ∀ {v : V} {d : Dt}, Rp K O H v d → Rp K O' H v d
  | _, _, .non => .non
  | _, _, .bl b => .bl b
  | _, _, .int i => .int i
  | _, _, .str x => .str x
  | _, _, .lst h q r => .lst h (n _ _ h q) (RpAll.fresh n r)
  | _, _, .tup h r => .tup h (RpAll.fresh n r)
  | _, _, .scr h => .scr h
theorem RpAll.fresh {K : PySem.W.Frag} {O O' : Addr → Prop} {H : Hp} (n : ∀ a o, H a = some o → ¬ O a → ¬ O' a) : ∀ {vs : List V} {ds : List Dt}, RpAll K O H vs ds → RpAll K O' H vs ds
  | _, _, .nil => .nil
  | _, _, .cons a r => .cons (Rp.fresh n a) (RpAll.fresh n r)
end
theorem Rp.noO {K : PySem.W.Frag} {O : Addr → Prop} {H : Hp} {v : V} {d : Dt} (h : Rp K O H v d) : Rp K NoO H v d := Rp.fresh (fun _ _ _ _ z => z) h
theorem RpAll.noO {K : PySem.W.Frag} {O : Addr → Prop} {H : Hp} {v : List V} {d : List Dt} (h : RpAll K O H v d) : RpAll K NoO H v d := RpAll.fresh (fun _ _ _ _ z => z) h
mutual
theorem Rp.same {K : PySem.W.Frag} {O : Addr → Prop} {H H' : Hp} (e : Same H H') : ∀ {v : V} {d : Dt}, Rp K O H v d → Rp K O H' v d
  | _, _, .non => .non
  | _, _, .bl b => .bl b
  | _, _, .int i => .int i
  | _, _, .str x => .str x
  | _, _, .lst h q r => .lst (e _ _ h) q (RpAll.same e r)
  | _, _, .tup ⟨o, h, hd⟩ r => .tup ⟨o, e _ _ h, hd⟩ (RpAll.same e r)
  | _, _, .scr h => .scr (h.imp fun _ _ h => e _ _ h)
theorem RpAll.same {K : PySem.W.Frag} {O : Addr → Prop} {H H' : Hp} (e : Same H H') : ∀ {vs : List V} {ds : List Dt}, RpAll K O H vs ds → RpAll K O H' vs ds
  | _, _, .nil => .nil
  | _, _, .cons a r => .cons (Rp.same e a) (RpAll.same e r)
end
/-! no script within: PyData.plain -/
mutual
theorem Rp.dp {K : PySem.W.Frag} {O : Addr → Prop} {H : Hp} : ∀ {v : V} {d : Dt}, Rp K O H v d → PyData.plain d = true → Dp K H v d
  | _, _, .non, _ => .non
  | _, _, .bl b, _ => .bl b
  | _, _, .int i, _ => .int i
  | _, _, .str x, _ => .str x
  | _, _, .lst h _ r, q => .lst (SqL.of h) (RpAll.dp r q)
  | _, _, .tup h r, q => .tup h.sq (RpAll.dp r q)
  | _, _, .scr h, q => by cases q
theorem RpAll.dp {K : PySem.W.Frag} {O : Addr → Prop} {H : Hp} : ∀ {vs : List V} {ds : List Dt}, RpAll K O H vs ds → PyData.plainAll ds = true → DpAll K H vs ds
  | _, _, .nil, _ => .nil
  | _, _, .cons a r, q => by
    unfold PyData.plainAll at q
    rw [Bool.and_eq_true] at q
    exact .cons (Rp.dp a q.1) (RpAll.dp r q.2)
end
theorem RpAll.length {K : PySem.W.Frag} {O : Addr → Prop} {H : Hp} : ∀ {vs : List V} {ds : List Dt}, RpAll K O H vs ds → vs.length = ds.length
  | _, _, .nil => rfl
  | _, _, .cons _ r => by simp [RpAll.length r]
theorem RpAll.get {K : PySem.W.Frag} {O : Addr → Prop} {H : Hp} : ∀ {vs : List V} {ds : List Dt} {i : Nat} {d : Dt}, RpAll K O H vs ds → ds[i]? = some d → ∃ v, vs[i]? = some v ∧ Rp K O H v d
  | _, _, _, _, .nil, e => by simp at e
  | _, _, 0, _, .cons a _, e => by simp at e; subst e; exact ⟨_, rfl, a⟩
  | _, _, i + 1, d, .cons _ r, e => by
    obtain ⟨v, h1, h2⟩ := RpAll.get (i := i) (d := d) r (by simpa using e)
    exact ⟨v, by simpa using h1, h2⟩
theorem RpAll.append {K : PySem.W.Frag} {O : Addr → Prop} {H : Hp} : ∀ {vs vs' : List V} {ds ds' : List Dt}, RpAll K O H vs ds → RpAll K O H vs' ds' → RpAll K O H (vs ++ vs') (ds ++ ds')
  | _, _, _, _, .nil, s => s
  | _, _, _, _, .cons a r, s => .cons a (RpAll.append r s)
theorem RpAll.take {K : PySem.W.Frag} {O : Addr → Prop} {H : Hp} : ∀ {vs : List V} {ds : List Dt} (n : Nat), RpAll K O H vs ds → RpAll K O H (vs.take n) (ds.take n)
  | _, _, 0, _ => .nil
  | _, _, _ + 1, .nil => .nil
  | _, _, n + 1, .cons a r => .cons a (RpAll.take n r)
theorem RpAll.drop {K : PySem.W.Frag} {O : Addr → Prop} {H : Hp} : ∀ {vs : List V} {ds : List Dt} (n : Nat), RpAll K O H vs ds → RpAll K O H (vs.drop n) (ds.drop n)
  | _, _, 0, r => r
  | _, _, _ + 1, .nil => .nil
  | _, _, n + 1, .cons _ r => RpAll.drop n r
theorem RpAll.set {K : PySem.W.Frag} {O : Addr → Prop} {H : Hp} {v : V} {d : Dt} (q : Rp K O H v d) : ∀ {vs : List V} {ds : List Dt} (i : Nat), RpAll K O H vs ds → RpAll K O H (vs.set i v) (ds.set i d)
  | _, _, _, .nil => .nil
  | _, _, 0, .cons _ r => .cons q r
  | _, _, i + 1, .cons a r => .cons a (RpAll.set q i r)

/-! ## the environment and the slots -/
def SlotOk (K : PySem.W.Frag) (ow : Ow) (i : Nat) (H : Hp) (v : V) : SV → Prop
  | .sh d => Rp K (OA ow) H v d
  | .own xs => ∃ a vs, v = .ref a ∧ ow.f i = some a ∧ H a = some (.lst vs) ∧ RpAll K (OA ow) H vs xs
structure Good (K : PySem.W.Frag) (ow : Ow) (ρ : En) (σ : L2.St) (H : Hp) : Prop where
  len : ρ.length = σ.length
  inj : ∀ i j a, ow.f i = some a → ow.f j = some a → i = j
  ok : OkO ow H
  disj : ∀ i a, ow.f i = some a → ¬ ow.x a
  slot : ∀ i s, ρ[i]? = some (some s) → ∃ v, σ[i]? = some (some v) ∧ SlotOk K ow i H v s
  has : ∀ i a, ow.f i = some a → ∃ xs, ρ[i]? = some (some (.own xs))
theorem OkO.same {ow : Ow} {H H' : Hp} (h : OkO ow H) (e : Same H H') : OkO ow H' := ⟨fun i a q => let ⟨ys, z⟩ := h.lst i a q; ⟨ys, e _ _ z⟩, fun a q => Same.dom e a (h.ext a q)⟩
theorem Good.same {K : PySem.W.Frag} {ow : Ow} {ρ : En} {σ : L2.St} {H H' : Hp} (g : Good K ow ρ σ H) (e : Same H H') : Good K ow ρ σ H' := by
  refine ⟨g.len, g.inj, g.ok.same e, g.disj, fun i s h => ?_, g.has⟩
  obtain ⟨v, hv, q⟩ := g.slot i s h
  refine ⟨v, hv, ?_⟩
  cases s with
  | sh d => exact Rp.same e q
  | own xs =>
    obtain ⟨a, vs, h1, h2, h3, h4⟩ := q
    exact ⟨a, vs, h1, h2, e _ _ h3, RpAll.same e h4⟩
/-- as a borrowed thing: data, or a list whose own address may be owned -/
def RpB (b : Bool) (K : PySem.W.Frag) (ow : Ow) (H : Hp) (v : V) (d : Dt) : Prop :=
  Rp K (OA ow) H v d ∨ (b = true ∧ ∃ a vs ds, v = .ref a ∧ d = .list ds ∧ H a = some (.lst vs) ∧ ¬ ow.x a ∧ RpAll K (OA ow) H vs ds)
theorem RpB.same {b : Bool} {K : PySem.W.Frag} {ow : Ow} {H H' : Hp} {v : V} {d : Dt} (e : Same H H') (h : RpB b K ow H v d) : RpB b K ow H' v d := by
  rcases h with h | ⟨hb, a, vs, ds, h1, h2, h3, h4, h5⟩
  · exact .inl (Rp.same e h)
  · exact .inr ⟨hb, a, vs, ds, h1, h2, e _ _ h3, h4, RpAll.same e h5⟩
theorem RpB.of {b : Bool} {K : PySem.W.Frag} {ow : Ow} {H : Hp} {v : V} {d : Dt} (h : Rp K (OA ow) H v d) : RpB b K ow H v d := .inl h
theorem RpB.rp {K : PySem.W.Frag} {ow : Ow} {H : Hp} {v : V} {d : Dt} (h : RpB false K ow H v d) : Rp K (OA ow) H v d := by
  rcases h with h | ⟨hb, _⟩
  · exact h
  · cases hb
theorem RpB.dp {b : Bool} {K : PySem.W.Frag} {ow : Ow} {H : Hp} {v : V} {d : Dt} (h : RpB b K ow H v d) (q : PyData.plain d = true) : Dp K H v d := by
  rcases h with h | ⟨hb, a, vs, ds, rfl, rfl, h3, h5, h4⟩
  · exact h.dp q
  · exact .lst (SqL.of h3) (h4.dp q)
/-- what is handed out -/
theorem RpB.out {b : Bool} {K : PySem.W.Frag} {ow : Ow} {H : Hp} {v : V} {d : Dt} (h : RpB b K ow H v d) : Rp K ow.x H v d := by
  rcases h with h | ⟨hb, a, vs, ds, rfl, rfl, h3, h5, h4⟩
  · exact Rp.fresh (fun _ _ _ n z => n (.inr z)) h
  · exact .lst h3 h5 (RpAll.fresh (fun _ _ _ n z => n (.inr z)) h4)
/-! what a borrowed list, a tuple, is -/
theorem RpB.list {b : Bool} {K : PySem.W.Frag} {ow : Ow} {H : Hp} {v : V} {ds : List Dt} (h : RpB b K ow H v (.list ds)) : ∃ a vs, v = .ref a ∧ H a = some (.lst vs) ∧ RpAll K (OA ow) H vs ds := by
  rcases h with h | ⟨hb, a, vs, ds', rfl, e, h3, h5, h4⟩
  · cases h with
    | lst h _ r => exact ⟨_, _, rfl, h, r⟩
  · cases e; exact ⟨a, vs, rfl, h3, h4⟩
theorem RpB.tuple {b : Bool} {K : PySem.W.Frag} {ow : Ow} {H : Hp} {v : V} {ds : List Dt} (h : RpB b K ow H v (.tuple ds)) : ∃ a vs, v = .ref a ∧ FT H a vs ∧ RpAll K (OA ow) H vs ds := by
  rcases h with h | ⟨hb, a, vs, ds', rfl, e, h3, h5, h4⟩
  · cases h with
    | tup h r => exact ⟨_, _, rfl, h, r⟩
  · cases e
theorem RpB.int {b : Bool} {K : PySem.W.Frag} {ow : Ow} {H : Hp} {v : V} {i : Int} (h : RpB b K ow H v (.int i)) : v = .int i := by
  rcases h with h | ⟨hb, a, vs, ds', rfl, e, h3, h5, h4⟩
  · cases h; rfl
  · cases e
theorem RpB.bool {b : Bool} {K : PySem.W.Frag} {ow : Ow} {H : Hp} {v : V} {i : Bool} (h : RpB b K ow H v (.bool i)) : v = .bl i := by
  rcases h with h | ⟨hb, a, vs, ds', rfl, e, h3, h5, h4⟩
  · cases h; rfl
  · cases e
theorem RpB.str {b : Bool} {K : PySem.W.Frag} {ow : Ow} {H : Hp} {v : V} {i : Str} (h : RpB b K ow H v (.str i)) : v = .str i := by
  rcases h with h | ⟨hb, a, vs, ds', rfl, e, h3, h5, h4⟩
  · cases h; rfl
  · cases e
theorem RpB.none {b : Bool} {K : PySem.W.Frag} {ow : Ow} {H : Hp} {v : V} (h : RpB b K ow H v .none) : v = .non := by
  rcases h with h | ⟨hb, a, vs, ds', rfl, e, h3, h5, h4⟩
  · cases h; rfl
  · cases e
theorem RpB.script {b : Bool} {K : PySem.W.Frag} {ow : Ow} {H : Hp} {v : V} {kv : List (PyData × PyData)} (h : RpB b K ow H v (.dict kv)) :
    ∃ (a : Addr) (ns : List Int), v = .ref a ∧ kv = ns.map (fun i => ((.int i : PyData), (.none : PyData))) ∧ ScrAt K H a ns := by
  rcases h with h | ⟨hb, a, vs, ds', rfl, e, h3, h5, h4⟩
  · generalize hd : (PyData.dict kv) = d at h
    cases h with
    | scr h => injection hd with hd; exact ⟨_, _, rfl, hd, h⟩
    | _ => cases hd
  · cases e

/-! ## the context of a piece of code -/
structure Gc where
  P : Program
  w : World
  K : PySem.W.Frag
  mg : Str → Option Value
  base : Heap
structure Ctx (G : Gc) (N : List Str) (sc : Scope) (fn : Str → Bool) (k : Nat) (X : Cx) : Prop where
  hP : X.prog = G.P
  hw : X.w = G.w
  hK : X.K = G.K
  hmg : X.mg = G.mg
  hb : X.base = G.base
  hN : X.N = N
  nd : N.Nodup
  hsc : X.env.scope = sc
  hfn : X.fn = fn
  calm : X.calm = true
  room : Room k X.A
def PayOk (K : PySem.W.Frag) (H : Hp) (d : Option Addr) : Option Dt → Prop
  | .none => d = .none
  | some x => ∃ a v, d = some a ∧ H a = some (.xd [((Str.ofString "line"), v)]) ∧ Rp K NoO H v x
/-- what is wished of an exception -/
def ExP (K : PySem.W.Frag) (mg : Str → Option Value) (W : WX) (σ : L2.St) (H : Hp) (n : Str) (pl : Option Dt) : Prop :=
  ∀ cls d H', mg n = some cls → Same H H' → PayOk K H' d pl → W cls d σ H'
theorem ExP.same {K : PySem.W.Frag} {mg : Str → Option Value} {W : WX} {σ : L2.St} {H H' : Hp} {n : Str} {pl : Option Dt} (h : ExP K mg W σ H n pl) (e : Same H H') : ExP K mg W σ H' n pl :=
  fun cls d H2 h1 h2 h3 => h cls d H2 h1 (e.trans h2) h3
/-- the reading of an expression by data -/
def tE (K : PySem.W.Frag) (mg : Str → Option Value) (W : WX) (b : Bool) (f : EF) : TE := fun σ H Q =>
  ∃ ρ ow r, f b ρ = some r ∧ Good K ow ρ σ H ∧ match r with
    | .val d => ∀ v H', Same H H' → RpB b K ow H' v d → Q v H'
    | .exc n pl => ExP K mg W σ H n pl
def SE (G : Gc) (N : List Str) (sc : Scope) (fn : Str → Bool) (k : Nat) (e : Expr) (f : EF) : Prop :=
  ∀ X, Ctx G N sc fn k X → ∀ W, Takes X W → ∀ b, PE X e (tE X.K X.mg W b f)
theorem PE.imp {X : Cx} {e : Expr} {t t' : TE} (h : PE X e t) (i : ∀ σ H Q, t' σ H Q → t σ H Q) : PE X e t' := ⟨fun pins s σ H Q I q => h.run pins s σ H Q I (i σ H Q q)⟩
theorem PT.imp {X : Cx} {e : Expr} {t t' : TT} (h : PT X e t) (i : ∀ σ H Q, t' σ H Q → t σ H Q) : PT X e t' := ⟨fun pins s σ H Q I q => h.run pins s σ H Q I (i σ H Q q)⟩
theorem PA.imp {X : Cx} {e : List Expr} {t t' : TA} (h : PA X e t) (i : ∀ σ H Q, t' σ H Q → t σ H Q) : PA X e t' := ⟨fun pos pins s σ H Q I q => h.run pos pins s σ H Q I (i σ H Q q)⟩
theorem PSs.imp {X : Cx} {e : List Stmt} {t t' : TS} (h : PSs X e t) (i : ∀ D σ H, t' D σ H → t D σ H) : PSs X e t' := ⟨fun pins s σ H D I q => h.run pins s σ H D I (i D σ H q)⟩
theorem PS.imp {X : Cx} {e : Stmt} {t t' : TS} (h : PS X e t) (i : ∀ D σ H, t' D σ H → t D σ H) : PS X e t' := ⟨fun pins s σ H D I q => h.run pins s σ H D I (i D σ H q)⟩
/-- one part evaluated, then the rest: the shape of most proofs below -/
theorem tE.go {K : PySem.W.Frag} {mg : Str → Option Value} {W : WX} {b : Bool} {f : EF} {ρ : En} {ow : Ow} {σ : L2.St} {H : Hp} {Q : VK} {k : Dt → Option Rs} {r : Rs} (g : Good K ow ρ σ H)
    (e : bnd (f b ρ) k = some r)
    (hx : ∀ n pl, r = .exc n pl → ExP K mg W σ H n pl)
    (hv : ∀ d, k d = some r → ∀ v H', Same H H' → RpB b K ow H' v d → Q v H') : tE K mg W b f σ H Q := by
  cases h : f b ρ with
  | none => rw [h] at e; cases e
  | some q =>
    rw [h] at e
    cases q with
    | val d => exact ⟨ρ, ow, .val d, h, g, fun v H' s q => hv d e v H' s q⟩
    | exc n pl => exact ⟨ρ, ow, .exc n pl, h, g, hx n pl (Option.some.inj e).symm⟩
end PT

namespace PT
open PySem PySem.Spec PyProof.Rows L2

/-! ## operators by data -/
def RD (K : PySem.W.Frag) (r : R2) (op : Dt → Dt → Option Dt) : Prop :=
  ∀ (x y : V) (H : Hp) (Q : VK) (ow : Ow) (dx dy dz : Dt), OkO ow H → RpB true K ow H x dx → RpB true K ow H y dy → op dx dy = some dz →
    (∀ v H', Same H H' → Rp K (OA ow) H' v dz → Q v H') → r x y H Q
def eBin (op : Dt → Dt → Option Dt) (f g : EF) : EF := fun _ ρ => bnd (f true ρ) fun x => bnd (g true ρ) fun y => (op x y).map .val
theorem Same.exp {K : PySem.W.Frag} {mg : Str → Option Value} {W : WX} {σ : L2.St} {H H' : Hp} {n : Str} {pl : Option Dt} (e : Same H H') (h : ExP K mg W σ H n pl) : ExP K mg W σ H' n pl := h.same e
/-- two parts, then an operation by data -/
theorem tOp_of {K : PySem.W.Frag} {mg : Str → Option Value} {W : WX} {b : Bool} {op : Dt → Dt → Option Dt} {f g : EF} {r : R2} {σ : L2.St} {H : Hp} {Q : VK} (hd : RD K r op)
    (h : tE K mg W b (eBin op f g) σ H Q) : tOp r (tE K mg W true f) (tE K mg W true g) σ H Q := by
  obtain ⟨ρ, ow, rs, he, gd, post⟩ := h
  refine tE.go gd he (fun n pl e => by subst e; exact post) fun d hd1 v H1 s1 r1 => ?_
  refine tE.go (gd.same s1) hd1 (fun n pl e => by subst e; exact post.same s1) fun d2 hd2 v2 H2 s2 r2 => ?_
  cases hz : op d d2 with
  | none => rw [hz] at hd2; cases hd2
  | some dz =>
    rw [hz] at hd2
    cases hd2
    exact hd v v2 H2 Q ow d d2 dz (gd.ok.same (s1.trans s2)) (r1.same s2) r2 hz fun v' H' s' q => post v' H' ((s1.trans s2).trans s') (.inl q)
theorem Takes.use {X : Cx} {W : WX} (t : Takes X W) : Takes X W := t

section
variable {G : Gc} {N : List Str} {sc : Scope} {fn : Str → Bool} {k : Nat} {pos : Pos}

/-! ### names, constants -/
def eVar (i : Nat) : EF := fun b ρ => match ρ[i]? with
  | some (some (.sh d)) => some (.val d)
  | some (some (.own xs)) => if b then some (.val (.list xs)) else none
  | _ => none
def eC (d : Dt) : EF := fun _ _ => some (.val d)
theorem se_var (i : Nat) {x : Str} (hN : N[i]? = some x := by rfl) (hv : Vis sc x := by first | exact Or.inl rfl | exact Or.inr (Or.inl rfl) | exact Or.inr (Or.inr rfl))
    (hd : (x == ("__debug__" : Str)) = false := by decide) (hcd : (x == ("__classdict__" : Str)) = false := by decide) : SE G N sc fn k (.Name x pos) (eVar i) := fun X C W tk b => by
  refine PE.imp (pe_var (by rw [C.hN]; exact hN) (by rw [C.hsc]; exact hv) hd hcd) fun σ H Q h => ?_
  obtain ⟨ρ, ow, r, he, gd, post⟩ := h
  unfold eVar at he
  split at he
  · rename_i d hi
    cases he
    obtain ⟨v, hv, q⟩ := gd.slot i _ hi
    exact ⟨v, hv, post v H (Same.refl H) (.inl q)⟩
  · rename_i xs hi
    cases b with
    | false => cases he
    | true =>
      cases he
      obtain ⟨v, hv, a, vs, rfl, h2, h3, h4⟩ := gd.slot i _ hi
      exact ⟨_, hv, post _ H (Same.refl H) (.inr ⟨rfl, a, vs, xs, rfl, rfl, h3, gd.disj _ _ h2, h4⟩)⟩
  · cases he
theorem tC_of {K : PySem.W.Frag} {mg : Str → Option Value} {W : WX} {b : Bool} {d : Dt} {v : V} {σ : L2.St} {H : Hp} {Q : VK} (hr : ∀ O, Rp K O H v d) (h : tE K mg W b (eC d) σ H Q) : tC v σ H Q := by
  obtain ⟨ρ, ow, r, he, gd, post⟩ := h
  cases he
  exact post v H (Same.refl H) (.inl (hr _))
theorem se_int {i : Int} {j : Nat} : SE G N sc fn k (.Constant (.int i) j pos) (eC (.int i)) := fun X C W tk b => PE.imp pe_int fun σ H Q h => tC_of (fun _ => .int i) h
theorem se_bl {i : Bool} {j : Nat} : SE G N sc fn k (.Constant (.bool i) j pos) (eC (.bool i)) := fun X C W tk b => PE.imp pe_bl fun σ H Q h => tC_of (fun _ => .bl i) h
theorem se_non {j : Nat} : SE G N sc fn k (.Constant .none j pos) (eC .none) := fun X C W tk b => PE.imp pe_non fun σ H Q h => tC_of (fun _ => .non) h
theorem se_str {i : Str} {j : Nat} : SE G N sc fn k (.Constant (.str i) j pos) (eC (.str i)) := fun X C W tk b => PE.imp pe_str fun σ H Q h => tC_of (fun _ => .str i) h
/-- a module's constant that is an int -/
theorem se_gint {x : Str} {i : Int} (hm : ∃ t, G.mg x = some (.int i t)) (hg : sc.names.lookup x = some .globalImplicit := by rfl) (hd : (x == ("__debug__" : Str)) = false := by decide) : SE G N sc fn k (.Name x pos) (eC (.int i)) := fun X C W tk b => by
  obtain ⟨t, hm⟩ := hm
  exact PE.imp (pe_glob (v := .int i) (by show X.env.scope.names.lookup x = _; rw [C.hsc]; exact hg) (by rw [C.hmg]; exact hm) ⟨t, rfl⟩ hd) fun σ H Q h => tC_of (fun _ => .int i) h
theorem se_gstr {x : Str} {i : Str} (hm : ∃ t, G.mg x = some (.str i t)) (hg : sc.names.lookup x = some .globalImplicit := by rfl) (hd : (x == ("__debug__" : Str)) = false := by decide) : SE G N sc fn k (.Name x pos) (eC (.str i)) := fun X C W tk b => by
  obtain ⟨t, hm⟩ := hm
  exact PE.imp (pe_glob (v := .str i) (by show X.env.scope.names.lookup x = _; rw [C.hsc]; exact hg) (by rw [C.hmg]; exact hm) ⟨t, rfl⟩ hd) fun σ H Q h => tC_of (fun _ => .str i) h

/-! ### new tuples -/
def nT (its : Array Value) : Obj := { cls := .type "tuple", data := .seq its }
theorem layT {X : Cx} {pins : List (Addr × Obj)} {σ : L2.St} {H : Hp} {s : Shared} {xs : List V} {its : List Value} (I : Inv X pins σ H s) (r : Vals xs its) (hz : xs.length ≤ sizeLine) (t : Nat) :
    Inv X pins σ (upd H s.heap.objs.size (.frz (nT its.toArray) (.tup xs))) { s with heap := s.heap.push (nT its.toArray), toks := t } :=
  I.laid (t' := t) (fun b ob q => Heap.get?_push_of_some _ q) (Nat.le_refl _) (show ObjOk X.prog X.w _ _ _ (.frz (nT its.toArray) (.tup xs)) from ⟨Heap.get?_push_size _ rfl, hz, its, r, IsTup.new _ _⟩)
def rCatF (K : PySem.W.Frag) : R2 := fun x y H Q => ∃ a b xs ys, x = .ref a ∧ y = .ref b ∧ SqT K H a xs ∧ SqT K H b ys ∧ xs.length + ys.length ≤ sizeLine ∧
  (xs = [] → Q (.ref b) H) ∧ (xs ≠ [] → ys = [] → Q (.ref a) H) ∧ (xs ≠ [] → ys ≠ [] → ∀ p o, H p = none → o.dict = none → Q (.ref p) (upd H p (.frz o (.tup (xs ++ ys)))))
theorem op_catF {X : Cx} : OpR X (binaryOp .Add) (rCatF X.K) := by
  intro pins s σ H x y v u Q I rx ry h
  obtain ⟨a, b, xs, ys, rfl, rfl, ha, hb, hz, q0, q1, q2⟩ := h
  by_cases hx : xs = []
  · subst hx
    cases rx
    cases ry
    obtain ⟨its, r1, p1, _⟩ := I.tuple ha
    obtain ⟨its2, r2, p2, _⟩ := I.tuple hb
    cases r1
    exact cat_tup0 p1 p2 ⟨.ref b, H, I, rfl, q0 rfl⟩
  · cases rx
    cases ry
    obtain ⟨its, r1, p1, _⟩ := I.tuple ha
    obtain ⟨its2, r2, p2, _⟩ := I.tuple hb
    refine HT.cat_tup p1 p2 (fun z => hx (r1.nil_iff.mp z)) (fun z => ⟨.ref a, H, I, rfl, q1 hx (r2.nil_iff.mp z)⟩) (fun z => ?_) (by rw [← r1.length, ← r2.length]; exact hz)
    exact ⟨.ref s.heap.objs.size, _, layT I (r1.append r2) (by rw [List.length_append]; exact hz) s.toks, rfl, q2 hx (fun w => z (r2.nil_iff.mpr w)) _ _ (I.hok.fresh (Nat.le_refl _)) rfl⟩
def rRepF (K : PySem.W.Frag) : R2 := fun x y H Q => ∃ l k xs, x = .ref l ∧ y = .int k ∧ SqT K H l xs ∧ xs ≠ [] ∧ 2 ≤ k ∧ k ≤ 1000 ∧ xs.length ≤ 1000 ∧ ∀ p o, H p = none → o.dict = none → Q (.ref p) (upd H p (.frz o (.tup (List.replicate k.toNat xs).flatten)))
theorem op_repF {X : Cx} : OpR X (binaryOp .Mult) (rRepF X.K) := by
  intro pins s σ H x y v u Q I rx ry h
  obtain ⟨l, k, xs, rfl, rfl, hT, hne, h1, h2, hz, q⟩ := h
  cases rx
  obtain ⟨t, rfl⟩ := ry
  obtain ⟨its, r, ⟨⟨cls, dd, data, sl⟩, ho, hc, n, hd⟩, hs⟩ := I.tuple hT
  simp only at hc hd
  subst hc hd
  have hle : its.length = xs.length := r.length.symm
  have hn : its ≠ [] := fun e => hne (by
    rw [e] at hle
    exact List.eq_nil_of_length_eq_zero hle.symm)
  have hi : its.toArray.isEmpty = false := by
    cases its with
    | nil => exact absurd rfl hn
    | cons a b => rfl
  have hsz0 : its.toArray.size = xs.length := by rw [List.size_toArray, hle]
  have hm : ((its.toArray.size : Nat) : Int) * k ≤ 1000000 := by
    rw [hsz0]
    have a1 : ((xs.length : Nat) : Int) * k ≤ 1000 * k := Int.mul_le_mul_of_nonneg_right (by omega) (by omega)
    omega
  have flen : (List.replicate k.toNat its).flatten.length ≤ sizeLine := by
    rw [PyProof.Rows.lm_len_rep_flat, hle, sizeLine_eq]
    have a1 : k.toNat * xs.length ≤ 1000 * 1000 := Nat.mul_le_mul (by omega) hz
    omega
  have c0 : (decide (k < -(2 ^ 63)) || decide (k ≥ 2 ^ 63)) = false := by
    rw [decide_eq_false (by omega), decide_eq_false (by omega)] <;> rfl
  have c1 : (its.toArray.isEmpty || k == 1) = false := by
    rw [hi, Bool.false_or]
    exact beq_eq_false_iff_ne.mpr (by omega)
  have c2 : (decide (k ≤ 0) || its.toArray.isEmpty) = false := by
    rw [hi, Bool.or_false]
    exact decide_eq_false (by omega)
  have c4 : Builtin.Tuple.tupleTooMany (((its.toArray.size : Nat) : Int) * k) = false := by
    unfold Builtin.Tuple.tupleTooMany
    rw [sizeLine_eq]
    exact decide_eq_false (by omega)
  refine wpAny_binaryOp_repeat_ref (T := "tuple") (U := "int") (by decide) ⟨_, ho, rfl⟩ (fun s' => typeIs_int s' k t) noFill_tuple_mul F.fills_int_mul F.slot_int_rmul repeat_tuple F.slot_int_index.lookup
    (call_meets F.slot_int_rmul (typeIs_int s k t) F.entry_int_rmul (F.args_int_rmul_2 _ _) (int_rmul_tuple k t l its.toArray n dd sl)
      ⟨ho, rfl, ⟨_, ho, rfl⟩, call_meets F.slot_tuple_mul ⟨_, ho, rfl⟩ F.entry_tuple_mul (F.args_tuple_mul_2 _ _) (tuple_mulW l its.toArray n dd sl k t c0 c1 c2 (by omega) c4 (by rw [size_rep, List.size_toArray]; exact flen)) ⟨ho, ?_⟩⟩)
  rw [size_rep]
  exact ⟨.ref s.heap.objs.size, _, layT I (r.rep k.toNat) (by rw [PyProof.Rows.lm_len_rep_flat, sizeLine_eq]; have a1 : k.toNat * xs.length ≤ 1000 * 1000 := Nat.mul_le_mul (by omega) hz; omega) s.toks, rfl, q _ _ (I.hok.fresh (Nat.le_refl _)) rfl⟩
/-! ### arithmetic -/
variable {a b c : Expr} {f g h : EF}
theorem se_bin {op : Operator} {r : PySem.W.Frag → R2} {dop : Dt → Dt → Option Dt} (ho : ∀ X : Cx, OpR X (binaryOp op) (r X.K)) (hd : ∀ K, RD K (r K) dop) (ha : SE G N sc fn k a f) (hb : SE G N sc fn k b g) :
    SE G N sc fn k (.BinOp a op b pos) (eBin dop f g) := fun X C W tk b' => PE.imp (pe_op (ho X) (ha X C W tk true) (hb X C W tk true)) fun σ H Q h => tOp_of (hd X.K) h
def lim : Nat := 1000000
theorem lim_le {n : Nat} (h : n ≤ lim) : n ≤ sizeLine := Nat.le_trans h (by decide)
def dAdd : Dt → Dt → Option Dt
  | .int i, .int j => some (.int (i + j))
  | .tuple xs, .tuple ys => if xs.length + ys.length ≤ lim then some (.tuple (xs ++ ys)) else none
  | .list xs, .list ys => if xs.length + ys.length ≤ lim then some (.list (xs ++ ys)) else none
  | .str x, .str y => if x.length + y.length ≤ lim then some (.str (x ++ y)) else none
  | _, _ => none
def rAddD (K : PySem.W.Frag) : R2 := fun x y H Q => rI0 (fun i j => .int (i + j)) x y H Q ∨ (rCatF K x y H Q ∨ (rCat x y H Q ∨ (∃ i j, x = .str i ∧ y = .str j ∧ i.length + j.length ≤ sizeLine ∧ Q (.str (i ++ j)) H)))
theorem rd_add (K : PySem.W.Frag) : RD K (rAddD K) dAdd := by
  intro x y H Q ow dx dy dz ok rx ry e post
  unfold dAdd at e
  split at e
  · cases e
    obtain rfl := rx.int
    obtain rfl := ry.int
    exact .inl ⟨_, _, rfl, rfl, post _ H (Same.refl H) (.int _)⟩
  · rename_i xs ys
    split at e
    · rename_i hz
      cases e
      obtain ⟨a, vs, rfl, h1, r1⟩ := rx.tuple
      obtain ⟨b, ws, rfl, h2, r2⟩ := ry.tuple
      refine .inr (.inl ⟨a, b, vs, ws, rfl, rfl, h1.sq, h2.sq, by rw [r1.length, r2.length]; exact lim_le hz, fun e => ?_, fun e1 e2 => ?_, fun e1 e2 p o hp ho => ?_⟩)
      · subst e
        cases r1
        exact post _ H (Same.refl H) (.tup h2 r2)
      · subst e2
        cases r2
        rw [List.append_nil] at post
        exact post _ H (Same.refl H) (.tup h1 r1)
      · exact post _ _ (Same.upd hp) (.tup ⟨o, upd_same, ho⟩ (RpAll.same (Same.upd hp) (r1.append r2)))
    · cases e
  · rename_i xs ys
    split at e
    · rename_i hz
      cases e
      obtain ⟨a, vs, rfl, h1, r1⟩ := rx.list
      obtain ⟨b, ws, rfl, h2, r2⟩ := ry.list
      exact .inr (.inr (.inl ⟨a, b, vs, ws, rfl, rfl, h1, h2, by rw [r1.length, r2.length]; exact lim_le hz, fun p hp =>
        post _ _ (Same.upd hp) (.lst upd_same (ok.new hp) (RpAll.same (Same.upd hp) (r1.append r2)))⟩))
    · cases e
  · rename_i x' y'
    split at e
    · rename_i hz
      cases e
      obtain rfl := rx.str
      obtain rfl := ry.str
      exact .inr (.inr (.inr ⟨_, _, rfl, rfl, lim_le hz, post _ H (Same.refl H) (.str _)⟩))
    · cases e
  · cases e
theorem se_add (ha : SE G N sc fn k a f) (hb : SE G N sc fn k b g) : SE G N sc fn k (.BinOp a .Add b pos) (eBin dAdd f g) :=
  se_bin (r := rAddD) (fun X => op_add.or (op_catF.or (op_cat.or op_add_str))) rd_add ha hb
/-- ints alone -/
def dI (C : Int → Int → Bool) (o : Int → Int → Int) : Dt → Dt → Option Dt
  | .int i, .int j => if C i j then some (.int (o i j)) else none
  | _, _ => none
theorem rd_I {K : PySem.W.Frag} {C : Int → Int → Bool} {C' : Int → Int → Prop} {o : Int → Int → Int} (hc : ∀ i j, C i j = true → C' i j) : RD K (rI C' fun i j => .int (o i j)) (dI C o) := by
  intro x y H Q ow dx dy dz ok rx ry e post
  unfold dI at e
  split at e
  · split at e
    · rename_i i j hcc
      cases e
      obtain rfl := rx.int
      obtain rfl := ry.int
      exact ⟨_, _, rfl, rfl, hc _ _ hcc, post _ H (Same.refl H) (.int _)⟩
    · cases e
  · cases e
def dSub : Dt → Dt → Option Dt
  | .int i, .int j => some (.int (i - j))
  | _, _ => none
theorem rd_sub (K : PySem.W.Frag) : RD K (rI0 fun i j => .int (i - j)) dSub := by
  intro x y H Q ow dx dy dz ok rx ry e post
  unfold dSub at e
  split at e
  · cases e
    obtain rfl := rx.int
    obtain rfl := ry.int
    exact ⟨_, _, rfl, rfl, post _ H (Same.refl H) (.int _)⟩
  · cases e
theorem se_sub (ha : SE G N sc fn k a f) (hb : SE G N sc fn k b g) : SE G N sc fn k (.BinOp a .Sub b pos) (eBin dSub f g) :=
  se_bin (r := fun _ => rI0 fun i j => .int (i - j)) (fun X => op_sub) rd_sub ha hb
/-! guards that a kernel does not unroll -/
def sml : Int → Bool
  | .ofNat n => Nat.blt n 18446744073709551616
  | .negSucc n => Nat.blt n 18446744073709551615
theorem sml_iff {i : Int} : sml i = true ↔ -(2 ^ 64) < i ∧ i < 2 ^ 64 := by
  cases i with
  | ofNat n =>
    show Nat.blt n 18446744073709551616 = true ↔ _
    rw [Nat.blt_eq]
    show n < 18446744073709551616 ↔ -(2 ^ 64) < (n : Int) ∧ (n : Int) < 2 ^ 64
    omega
  | negSucc n =>
    show Nat.blt n 18446744073709551615 = true ↔ _
    rw [Nat.blt_eq]
    have : Int.negSucc n = -((n : Int) + 1) := rfl
    rw [this]
    omega
def okI : Int → Bool
  | .ofNat n => Nat.ble n 1000000
  | .negSucc n => Nat.ble n 999999
theorem okI_iff {i : Int} : okI i = true ↔ i ≤ 1000000 ∧ -1000000 ≤ i := by
  cases i with
  | ofNat n =>
    show Nat.ble n 1000000 = true ↔ _
    rw [Nat.ble_eq]
    show n ≤ 1000000 ↔ (n : Int) ≤ 1000000 ∧ -1000000 ≤ (n : Int)
    omega
  | negSucc n =>
    show Nat.ble n 999999 = true ↔ _
    rw [Nat.ble_eq]
    have : Int.negSucc n = -((n : Int) + 1) := rfl
    rw [this]
    omega
def okM : Int → Bool
  | .ofNat n => Nat.ble 2 n && Nat.ble n 1000
  | .negSucc _ => false
theorem okM_iff {i : Int} : okM i = true ↔ 2 ≤ i ∧ i ≤ 1000 := by
  cases i with
  | ofNat n =>
    show (Nat.ble 2 n && Nat.ble n 1000) = true ↔ _
    rw [Bool.and_eq_true, Nat.ble_eq, Nat.ble_eq]
    show 2 ≤ n ∧ n ≤ 1000 ↔ 2 ≤ (n : Int) ∧ (n : Int) ≤ 1000
    omega
  | negSucc n =>
    have : Int.negSucc n = -((n : Int) + 1) := rfl
    show false = true ↔ _
    rw [this]
    simp
    omega
def dMul : Dt → Dt → Option Dt
  | .int i, .int j => if sml i || sml j then some (.int (i * j)) else none
  | .list xs, .int j => if xs.length * j.toNat ≤ lim ∧ okI j = true then some (.list (List.replicate j.toNat xs).flatten) else none
  | .tuple xs, .int j => if xs ≠ [] ∧ okM j = true ∧ xs.length ≤ 1000 then some (.tuple (List.replicate j.toNat xs).flatten) else none
  | _, _ => none
theorem RpAll.rep {K : PySem.W.Frag} {O : Addr → Prop} {H : Hp} {vs : List V} {ds : List Dt} (r : RpAll K O H vs ds) : ∀ n : Nat, RpAll K O H (List.replicate n vs).flatten (List.replicate n ds).flatten
  | 0 => .nil
  | n + 1 => by
    rw [List.replicate_succ, List.replicate_succ, List.flatten_cons, List.flatten_cons]
    exact r.append (RpAll.rep r n)
def rMulD (K : PySem.W.Frag) : R2 := fun x y H Q => rI CMul (fun i j => .int (i * j)) x y H Q ∨ (rRep x y H Q ∨ rRepF K x y H Q)
theorem rd_mul (K : PySem.W.Frag) : RD K (rMulD K) dMul := by
  intro x y H Q ow dx dy dz ok rx ry e post
  unfold dMul at e
  split at e
  · split at e
    · rename_i i j hz
      cases e
      obtain rfl := rx.int
      obtain rfl := ry.int
      refine .inl ⟨_, _, rfl, rfl, ?_, post _ H (Same.refl H) (.int _)⟩
      rw [Bool.or_eq_true, sml_iff, sml_iff] at hz
      exact hz
    · cases e
  · split at e
    · rename_i xs j hz
      cases e
      obtain ⟨a, vs, rfl, h1, r1⟩ := rx.list
      obtain rfl := ry.int
      have hz2 := okI_iff.mp hz.2
      exact .inr (.inl ⟨a, j, vs, rfl, rfl, h1, by omega, by omega, by rw [r1.length]; exact lim_le hz.1, fun p hp =>
        post _ _ (Same.upd hp) (.lst upd_same (ok.new hp) (RpAll.same (Same.upd hp) (r1.rep _)))⟩)
    · cases e
  · split at e
    · rename_i xs j hz
      cases e
      obtain ⟨a, vs, rfl, h1, r1⟩ := rx.tuple
      obtain rfl := ry.int
      refine .inr (.inr ⟨a, j, vs, rfl, rfl, h1.sq, fun z => ?_, (okM_iff.mp hz.2.1).1, (okM_iff.mp hz.2.1).2, by rw [r1.length]; exact hz.2.2, fun p o hp ho =>
        post _ _ (Same.upd hp) (.tup ⟨o, upd_same, ho⟩ (RpAll.same (Same.upd hp) (r1.rep _)))⟩)
      subst z
      cases r1
      exact hz.1 rfl
    · cases e
  · cases e
theorem se_mul (ha : SE G N sc fn k a f) (hb : SE G N sc fn k b g) : SE G N sc fn k (.BinOp a .Mult b pos) (eBin dMul f g) :=
  se_bin (r := rMulD) (fun X => op_mul.or (op_rep.or op_repF)) rd_mul ha hb
def dDiv : Dt → Dt → Option Dt := dI (fun _ j => decide (j ≠ 0) && decide (j.natAbs < 1073741824)) fun i j => i.fdiv j
theorem se_div (ha : SE G N sc fn k a f) (hb : SE G N sc fn k b g) : SE G N sc fn k (.BinOp a .FloorDiv b pos) (eBin dDiv f g) :=
  se_bin (r := fun _ => rI CDivN fun i j => .int (i.fdiv j)) (fun X => op_fdivN) (fun K => rd_I fun i j h => by simpa [CDivN] using h) ha hb
def dMod : Dt → Dt → Option Dt := dI (fun _ j => decide (j ≠ 0)) fun i j => i.fmod j
theorem se_mod (ha : SE G N sc fn k a f) (hb : SE G N sc fn k b g) : SE G N sc fn k (.BinOp a .Mod b pos) (eBin dMod f g) :=
  se_bin (r := fun _ => rI (fun _ j => j ≠ 0) fun i j => .int (i.fmod j)) (fun X => op_modN) (fun K => rd_I fun i j h => by simpa using h) ha hb
def dPow : Dt → Dt → Option Dt := dI (fun i j => decide (0 ≤ j) && okI j && decide (i.natAbs < 2 ^ 64)) fun i j => i ^ j.toNat
theorem se_pow (ha : SE G N sc fn k a f) (hb : SE G N sc fn k b g) : SE G N sc fn k (.BinOp a .Pow b pos) (eBin dPow f g) :=
  se_bin (r := fun _ => rI CPow fun i j => .int (i ^ j.toNat)) (fun X => op_pow) (fun K => rd_I fun i j h => by
    rw [Bool.and_eq_true, Bool.and_eq_true, decide_eq_true_eq, decide_eq_true_eq, okI_iff] at h
    unfold CPow
    exact ⟨h.1.1, h.1.2.1, h.2⟩) ha hb
def eUn (op : Dt → Option Dt) (f : EF) : EF := fun _ ρ => bnd (f true ρ) fun x => (op x).map .val
def dNeg : Dt → Option Dt
  | .int i => some (.int (-i))
  | _ => none
theorem se_neg (ha : SE G N sc fn k a f) : SE G N sc fn k (.UnaryOp .USub a pos) (eUn dNeg f) := fun X C W tk b => PE.imp (pe_un un_neg (ha X C W tk true)) fun σ H Q h => by
  obtain ⟨ρ, ow, rs, he, gd, post⟩ := h
  refine tE.go gd he (fun n pl e => by subst e; exact post) fun d hd1 v H1 s1 r1 => ?_
  unfold dNeg at hd1
  split at hd1
  · cases hd1
    obtain rfl := r1.int
    exact ⟨_, rfl, post _ H1 s1 (.inl (.int _))⟩
  · cases hd1
end
end PT

namespace PT
open PySem PySem.Spec PyProof.Rows L2

/-! ## comparisons -/
def dep (d : Dt) : Bool := decide (d.depth ≤ 60)
def dEq (x y : Dt) : Option Dt := if x.plain && y.plain && (dep x || dep y) then some (.bool (PyData.eqv x y)) else none
def dNe (x y : Dt) : Option Dt := if x.plain && y.plain && (dep x || dep y) then some (.bool (!PyData.eqv x y)) else none
def rEqP (K : PySem.W.Frag) : R2 := fun x y H Q => ∃ d e, Dp K H x d ∧ Dp K H y e ∧ d.plain = true ∧ e.plain = true ∧ (d.depth ≤ 60 ∨ e.depth ≤ 60) ∧ Q (.bl (PyData.eqv d e)) H
def rNeP (K : PySem.W.Frag) : R2 := fun x y H Q => ∃ d e, Dp K H x d ∧ Dp K H y e ∧ d.plain = true ∧ e.plain = true ∧ (d.depth ≤ 60 ∨ e.depth ≤ 60) ∧ Q (.bl (!PyData.eqv d e)) H
theorem op_eqP {X : Cx} (hu : X.A.units + 64 < cLine) : OpR X (compareOp .Eq) (rEqP X.K) := by
  intro pins s σ H x y v u Q I rx ry h
  obtain ⟨d, e, hd, he, sd, se, hm, q⟩ := h
  obtain ⟨as, r1⟩ := Dp.reads I d x v hd rx
  obtain ⟨bs, r2⟩ := Dp.reads I e y u he ry
  exact SeqAt.eq_plain r1 r2 sd se (by omega) ⟨.bl _, H, I, rfl, q⟩
theorem op_neP {X : Cx} (hu : X.A.units + 64 < cLine) : OpR X (compareOp .NotEq) (rNeP X.K) := by
  intro pins s σ H x y v u Q I rx ry h
  obtain ⟨d, e, hd, he, sd, se, hm, q⟩ := h
  obtain ⟨as, r1⟩ := Dp.reads I d x v hd rx
  obtain ⟨bs, r2⟩ := Dp.reads I e y u he ry
  exact SeqAt.ne_plain r1 r2 sd se (by omega) ⟨.bl _, H, I, rfl, q⟩
theorem rd_eq (K : PySem.W.Frag) : RD K (rEqP K) dEq := by
  intro x y H Q ow dx dy dz ok rx ry e post
  unfold dEq at e
  split at e
  · rename_i hc
    cases e
    simp only [Bool.and_eq_true, Bool.or_eq_true, dep, decide_eq_true_eq] at hc
    exact ⟨dx, dy, rx.dp hc.1.1, ry.dp hc.1.2, hc.1.1, hc.1.2, hc.2, post _ H (Same.refl H) (.bl _)⟩
  · cases e
theorem rd_ne (K : PySem.W.Frag) : RD K (rNeP K) dNe := by
  intro x y H Q ow dx dy dz ok rx ry e post
  unfold dNe at e
  split at e
  · rename_i hc
    cases e
    simp only [Bool.and_eq_true, Bool.or_eq_true, dep, decide_eq_true_eq] at hc
    exact ⟨dx, dy, rx.dp hc.1.1, ry.dp hc.1.2, hc.1.1, hc.1.2, hc.2, post _ H (Same.refl H) (.bl _)⟩
  · cases e
def dCmp (p : Int → Int → Bool) : Dt → Dt → Option Dt
  | .int i, .int j => some (.bool (p i j))
  | _, _ => none
theorem rd_cmp {K : PySem.W.Frag} {p : Int → Int → Bool} : RD K (rI0 fun i j => .bl (p i j)) (dCmp p) := by
  intro x y H Q ow dx dy dz ok rx ry e post
  unfold dCmp at e
  split at e
  · cases e
    obtain rfl := rx.int
    obtain rfl := ry.int
    exact ⟨_, _, rfl, rfl, post _ H (Same.refl H) (.bl _)⟩
  · cases e
abbrev dLt := dCmp fun i j => decide (i < j)
abbrev dLe := dCmp fun i j => decide (i ≤ j)
abbrev dGt := dCmp fun i j => decide (j < i)
abbrev dGe := dCmp fun i j => decide (j ≤ i)
def isN : Dt → Bool
  | .none => true
  | _ => false
def dIsN : Dt → Dt → Option Dt
  | x, .none => some (.bool (isN x))
  | _, _ => none
def dNotN : Dt → Dt → Option Dt
  | x, .none => some (.bool (!isN x))
  | _, _ => none
theorem RpB.isN {b : Bool} {K : PySem.W.Frag} {ow : Ow} {H : Hp} {v : V} {d : Dt} (h : RpB b K ow H v d) : decide (v = .non) = isN d := by
  cases d with
  | none => rw [h.none]; rfl
  | bool b => rw [h.bool]; rfl
  | int b => rw [h.int]; rfl
  | str b => rw [h.str]; rfl
  | list b => obtain ⟨a, vs, rfl, _⟩ := h.list; rfl
  | tuple b => obtain ⟨a, vs, rfl, _⟩ := h.tuple; rfl
  | dict b => obtain ⟨a, ns, rfl, _⟩ := h.script; rfl
theorem rd_isN (K : PySem.W.Frag) : RD K (fun x y H Q => y = .non ∧ Q (.bl (decide (x = .non))) H) dIsN := by
  intro x y H Q ow dx dy dz ok rx ry e post
  unfold dIsN at e
  split at e
  · cases e
    refine ⟨ry.none, ?_⟩
    rw [rx.isN]
    exact post _ H (Same.refl H) (.bl _)
  · cases e
theorem rd_notN (K : PySem.W.Frag) : RD K (fun x y H Q => y = .non ∧ Q (.bl (!decide (x = .non))) H) dNotN := by
  intro x y H Q ow dx dy dz ok rx ry e post
  unfold dNotN at e
  split at e
  · cases e
    refine ⟨ry.none, ?_⟩
    rw [rx.isN]
    exact post _ H (Same.refl H) (.bl _)
  · cases e
/-! ### in, not in -/
def dIn : Dt → Dt → Option Dt
  | x, .list ys => if x.plain && PyData.plainAll ys && dep x then some (.bool (ys.any fun y => PyData.eqv y x)) else none
  | x, .tuple ys => if x.plain && PyData.plainAll ys && dep x then some (.bool (ys.any fun y => PyData.eqv y x)) else none
  | .str i, .str j => some (.bool (!(Builtin.Str.occurrences j i 0 j.length 1).isEmpty))
  | _, _ => none
def dNotIn : Dt → Dt → Option Dt
  | x, .list ys => if x.plain && PyData.plainAll ys && dep x then some (.bool (!ys.any fun y => PyData.eqv y x)) else none
  | x, .tuple ys => if x.plain && PyData.plainAll ys && dep x then some (.bool (!ys.any fun y => PyData.eqv y x)) else none
  | .str i, .str j => some (.bool (!(!(Builtin.Str.occurrences j i 0 j.length 1).isEmpty)))
  | _, _ => none
def rInD (K : PySem.W.Frag) (neg : Bool) : R2 := fun x y H Q => ∃ d ds, Dp K H x d ∧ (Dp K H y (.list ds) ∨ Dp K H y (.tuple ds)) ∧ d.plain = true ∧ PyData.plainAll ds = true ∧ d.depth ≤ 60 ∧
  Q (.bl (if neg then !ds.any fun y => PyData.eqv y d else ds.any fun y => PyData.eqv y d)) H
theorem op_inD {X : Cx} (hu : X.A.units + 64 < cLine) : OpR X (compareOp .In) (rInD X.K false) := by
  intro pins s σ H x y v u Q I rx ry h
  obtain ⟨d, ds, hd, he, sd, se, hm, q⟩ := h
  obtain ⟨as, r1⟩ := Dp.reads I d x v hd rx
  rcases he with he | he
  · obtain ⟨bs, r2⟩ := Dp.reads I _ y u he ry
    exact SeqAt.in_list_data r2 r1 se sd (by omega) ⟨.bl _, H, I, rfl, q⟩
  · obtain ⟨bs, r2⟩ := Dp.reads I _ y u he ry
    exact SeqAt.in_tuple_data r2 r1 se sd (by omega) ⟨.bl _, H, I, rfl, q⟩
theorem op_notInD {X : Cx} (hu : X.A.units + 64 < cLine) : OpR X (compareOp .NotIn) (rInD X.K true) := by
  intro pins s σ H x y v u Q I rx ry h
  obtain ⟨d, ds, hd, he, sd, se, hm, q⟩ := h
  obtain ⟨as, r1⟩ := Dp.reads I d x v hd rx
  rcases he with he | he
  · obtain ⟨bs, r2⟩ := Dp.reads I _ y u he ry
    exact SeqAt.notIn_list_data r2 r1 se sd (by omega) ⟨.bl _, H, I, rfl, q⟩
  · obtain ⟨bs, r2⟩ := Dp.reads I _ y u he ry
    exact SeqAt.notIn_tuple_data r2 r1 se sd (by omega) ⟨.bl _, H, I, rfl, q⟩
def rInA (K : PySem.W.Frag) : R2 := fun x y H Q => rInD K false x y H Q ∨ (∃ i j, x = .str i ∧ y = .str j ∧ Q (.bl (!(Builtin.Str.occurrences j i 0 j.length 1).isEmpty)) H)
def rNotInA (K : PySem.W.Frag) : R2 := fun x y H Q => rInD K true x y H Q ∨ (∃ i j, x = .str i ∧ y = .str j ∧ Q (.bl (!(!(Builtin.Str.occurrences j i 0 j.length 1).isEmpty))) H)
theorem rd_in (K : PySem.W.Frag) : RD K (rInA K) dIn := by
  intro x y H Q ow dx dy dz ok rx ry e post
  unfold dIn at e
  split at e
  · split at e
    · rename_i hc
      cases e
      simp only [Bool.and_eq_true, dep, decide_eq_true_eq] at hc
      exact .inl ⟨_, _, rx.dp hc.1.1, .inl (ry.dp hc.1.2), hc.1.1, hc.1.2, hc.2, post _ H (Same.refl H) (.bl _)⟩
    · cases e
  · split at e
    · rename_i hc
      cases e
      simp only [Bool.and_eq_true, dep, decide_eq_true_eq] at hc
      exact .inl ⟨_, _, rx.dp hc.1.1, .inr (ry.dp hc.1.2), hc.1.1, hc.1.2, hc.2, post _ H (Same.refl H) (.bl _)⟩
    · cases e
  · cases e
    exact .inr ⟨_, _, rx.str, ry.str, post _ H (Same.refl H) (.bl _)⟩
  · cases e
theorem rd_notIn (K : PySem.W.Frag) : RD K (rNotInA K) dNotIn := by
  intro x y H Q ow dx dy dz ok rx ry e post
  unfold dNotIn at e
  split at e
  · split at e
    · rename_i hc
      cases e
      simp only [Bool.and_eq_true, dep, decide_eq_true_eq] at hc
      exact .inl ⟨_, _, rx.dp hc.1.1, .inl (ry.dp hc.1.2), hc.1.1, hc.1.2, hc.2, post _ H (Same.refl H) (.bl _)⟩
    · cases e
  · split at e
    · rename_i hc
      cases e
      simp only [Bool.and_eq_true, dep, decide_eq_true_eq] at hc
      exact .inl ⟨_, _, rx.dp hc.1.1, .inr (ry.dp hc.1.2), hc.1.1, hc.1.2, hc.2, post _ H (Same.refl H) (.bl _)⟩
    · cases e
  · cases e
    exact .inr ⟨_, _, rx.str, ry.str, post _ H (Same.refl H) (.bl _)⟩
  · cases e

/-! ## tests -/
def tru : Dt → Option Bool
  | .none => some false
  | .bool b => some b
  | .int i => some (i != 0)
  | .str s => if s.length ≤ lim then some ((s.length : Int) != 0) else none
  | .list xs => some (!xs.isEmpty)
  | .tuple xs => some (!xs.isEmpty)
  | .dict _ => none
def tT (K : PySem.W.Frag) (mg : Str → Option Value) (W : WX) (f : EF) : TT := fun σ H Q =>
  ∃ ρ ow r, f true ρ = some r ∧ Good K ow ρ σ H ∧ match r with
    | .val d => ∃ c, tru d = some c ∧ ∀ H', Same H H' → Q c H'
    | .exc n pl => ExP K mg W σ H n pl
def ST (G : Gc) (N : List Str) (sc : Scope) (fn : Str → Bool) (k : Nat) (e : Expr) (f : EF) : Prop :=
  ∀ X, Ctx G N sc fn k X → ∀ W, Takes X W → PT X e (tT X.K X.mg W f)
theorem isEmptyA {K : PySem.W.Frag} {O : Addr → Prop} {H : Hp} {vs : List V} {ds : List Dt} (r : RpAll K O H vs ds) : (!vs.isEmpty) = !ds.isEmpty := by
  cases r <;> rfl
theorem RpB.tru {b : Bool} {K : PySem.W.Frag} {ow : Ow} {H : Hp} {v : V} {d : Dt} {c : Bool} (h : RpB b K ow H v d) (e : tru d = some c) : TruV K v H c := by
  cases d with
  | none => rw [h.none]; cases e; rfl
  | bool b => rw [h.bool]; cases e; rfl
  | int b => rw [h.int]; cases e; rfl
  | str b =>
    rw [h.str]
    simp only [PT.tru] at e
    split at e
    · rename_i hz; cases e; exact ⟨lim_le hz, rfl⟩
    · cases e
  | list b => obtain ⟨a, vs, rfl, h1, r⟩ := h.list; cases e; exact .inl ⟨vs, SqL.of h1, (isEmptyA r).symm⟩
  | tuple b => obtain ⟨a, vs, rfl, h1, r⟩ := h.tuple; cases e; exact .inr (.inl ⟨vs, h1.sq, (isEmptyA r).symm⟩)
  | dict b => cases e
theorem tT.go {K : PySem.W.Frag} {mg : Str → Option Value} {W : WX} {f : EF} {ρ : En} {ow : Ow} {σ : L2.St} {H : Hp} {Q : Bool → Hp → Prop} {k : Dt → Option Rs} {r : Rs} (g : Good K ow ρ σ H)
    (e : bnd (f true ρ) k = some r)
    (hx : ∀ n pl, r = .exc n pl → ExP K mg W σ H n pl)
    (hv : ∀ d, k d = some r → ∃ c, tru d = some c ∧ ∀ H', Same H H' → Q c H') : tT K mg W f σ H Q := by
  cases h : f true ρ with
  | none => rw [h] at e; cases e
  | some q =>
    rw [h] at e
    cases q with
    | val d => exact ⟨ρ, ow, .val d, h, g, hv d e⟩
    | exc n pl => exact ⟨ρ, ow, .exc n pl, h, g, hx n pl (Option.some.inj e).symm⟩

section
variable {G : Gc} {N : List Str} {sc : Scope} {fn : Str → Bool} {k : Nat} {pos : Pos} {a b c : Expr} {f g h : EF}
/-- any expression whose test is its value's truth -/
theorem st_val (ha : SE G N sc fn k a f) (he : ∀ env whole, isTrue a env whole = (do let v ← whole; standAt a.pos; holding [v] (truthy v)) := by intros; rfl) : ST G N sc fn k a f := fun X C W tk =>
  PT.imp (pt_truth (ha X C W tk true) (he X.env)) fun σ H Q h => by
    obtain ⟨ρ, ow, r, he, gd, post⟩ := h
    refine ⟨ρ, ow, r, he, gd, ?_⟩
    cases r with
    | exc n pl => exact post
    | val d =>
      obtain ⟨c, hc, q⟩ := post
      exact fun v H' s' r' => ⟨c, r'.tru hc, q H' s'⟩
theorem tB_of {K : PySem.W.Frag} {mg : Str → Option Value} {W : WX} {op : Dt → Dt → Option Dt} {f g : EF} {r : R2} {σ : L2.St} {H : Hp} {Q : Bool → Hp → Prop} (hd : RD K r op) (hbl : ∀ x y z, op x y = some z → ∃ c, z = .bool c)
    (h : tT K mg W (eBin op f g) σ H Q) : tTest (tOp r (tE K mg W true f) (tE K mg W true g)) σ H Q := by
  obtain ⟨ρ, ow, rs, he, gd, post⟩ := h
  refine tOp_of (b := true) hd ⟨ρ, ow, rs, he, gd, ?_⟩
  cases rs with
  | exc n pl => exact post
  | val d =>
    obtain ⟨c, hc, q⟩ := post
    obtain ⟨c', rfl⟩ : ∃ c, d = .bool c := by
      unfold eBin at he
      cases h1 : f true ρ with
      | none => rw [h1] at he; cases he
      | some r1 =>
        cases r1 with
        | exc n pl => rw [h1] at he; cases he
        | val x =>
          cases h2 : g true ρ with
          | none => rw [h1, h2] at he; cases he
          | some r2 =>
            cases r2 with
            | exc n pl => rw [h1, h2] at he; cases he
            | val y =>
              rw [h1, h2] at he
              cases hz : op x y with
              | none => simp [bnd, hz] at he
              | some z =>
                simp [bnd, hz] at he
                subst he
                exact hbl x y z hz
    cases hc
    exact fun v H' s' r' => ⟨_, r'.bool, q H' s'⟩
/-- a comparison as a value, as a test -/
theorem se_cmp {op : CmpOp} {r : PySem.W.Frag → R2} {dop : Dt → Dt → Option Dt} (ho : ∀ X : Cx, X.A.units + 64 < cLine → OpR X (compareOp op) (r X.K)) (hd : ∀ K, RD K (r K) dop) (ha : SE G N sc fn k a f) (hb : SE G N sc fn k b g)
    (hm : behindInMarks op b = false) : SE G N sc fn k (.Compare a [op] [b] pos) (eBin dop f g) := fun X C W tk b' => PE.imp (pe_cmpR (ho X C.room.units) (ha X C W tk true) (hb X C W tk true) hm) fun σ H Q h => tOp_of (hd X.K) h
theorem st_cmp {op : CmpOp} {r : PySem.W.Frag → R2} {dop : Dt → Dt → Option Dt} (ho : ∀ X : Cx, X.A.units + 64 < cLine → OpR X (compareOp op) (r X.K)) (hd : ∀ K, RD K (r K) dop) (hbl : ∀ x y z, dop x y = some z → ∃ c, z = .bool c) (ha : SE G N sc fn k a f) (hb : SE G N sc fn k b g)
    (hm : behindInMarks op b = false) : ST G N sc fn k (.Compare a [op] [b] pos) (eBin dop f g) := fun X C W tk => PT.imp (pt_cmpR (ho X C.room.units) (ha X C W tk true) (hb X C W tk true) hm) fun σ H Q h => tB_of (hd X.K) hbl h
theorem bl_cmp {p : Int → Int → Bool} : ∀ x y z, dCmp p x y = some z → ∃ c, z = .bool c := fun x y z e => by
  unfold dCmp at e
  split at e
  · cases e; exact ⟨_, rfl⟩
  · cases e
theorem bl_eq : ∀ x y z, dEq x y = some z → ∃ c, z = .bool c := fun x y z e => by
  unfold dEq at e
  split at e
  · cases e; exact ⟨_, rfl⟩
  · cases e
theorem bl_ne : ∀ x y z, dNe x y = some z → ∃ c, z = .bool c := fun x y z e => by
  unfold dNe at e
  split at e
  · cases e; exact ⟨_, rfl⟩
  · cases e
theorem bl_isN : ∀ x y z, dIsN x y = some z → ∃ c, z = .bool c := fun x y z e => by
  unfold dIsN at e
  split at e
  · cases e; exact ⟨_, rfl⟩
  · cases e
theorem bl_notN : ∀ x y z, dNotN x y = some z → ∃ c, z = .bool c := fun x y z e => by
  unfold dNotN at e
  split at e
  · cases e; exact ⟨_, rfl⟩
  · cases e
theorem bl_in : ∀ x y z, dIn x y = some z → ∃ c, z = .bool c := fun x y z e => by
  unfold dIn at e
  split at e
  · split at e
    · cases e; exact ⟨_, rfl⟩
    · cases e
  · split at e
    · cases e; exact ⟨_, rfl⟩
    · cases e
  · cases e; exact ⟨_, rfl⟩
  · cases e
theorem bl_notIn : ∀ x y z, dNotIn x y = some z → ∃ c, z = .bool c := fun x y z e => by
  unfold dNotIn at e
  split at e
  · split at e
    · cases e; exact ⟨_, rfl⟩
    · cases e
  · split at e
    · cases e; exact ⟨_, rfl⟩
    · cases e
  · cases e; exact ⟨_, rfl⟩
  · cases e
theorem se_eq (ha : SE G N sc fn k a f) (hb : SE G N sc fn k b g) : SE G N sc fn k (.Compare a [.Eq] [b] pos) (eBin dEq f g) := se_cmp (r := rEqP) (fun _ hu => op_eqP hu) rd_eq ha hb (nomark _)
theorem st_eq (ha : SE G N sc fn k a f) (hb : SE G N sc fn k b g) : ST G N sc fn k (.Compare a [.Eq] [b] pos) (eBin dEq f g) := st_cmp (r := rEqP) (fun _ hu => op_eqP hu) rd_eq bl_eq ha hb (nomark _)
theorem se_ne (ha : SE G N sc fn k a f) (hb : SE G N sc fn k b g) : SE G N sc fn k (.Compare a [.NotEq] [b] pos) (eBin dNe f g) := se_cmp (r := rNeP) (fun _ hu => op_neP hu) rd_ne ha hb (nomark _)
theorem st_ne (ha : SE G N sc fn k a f) (hb : SE G N sc fn k b g) : ST G N sc fn k (.Compare a [.NotEq] [b] pos) (eBin dNe f g) := st_cmp (r := rNeP) (fun _ hu => op_neP hu) rd_ne bl_ne ha hb (nomark _)
theorem se_lt (ha : SE G N sc fn k a f) (hb : SE G N sc fn k b g) : SE G N sc fn k (.Compare a [.Lt] [b] pos) (eBin dLt f g) := se_cmp (r := fun _ => _) (fun _ hu => op_lt) (fun _ => rd_cmp) ha hb (nomark _)
theorem st_lt (ha : SE G N sc fn k a f) (hb : SE G N sc fn k b g) : ST G N sc fn k (.Compare a [.Lt] [b] pos) (eBin dLt f g) := st_cmp (r := fun _ => _) (fun _ hu => op_lt) (fun _ => rd_cmp) bl_cmp ha hb (nomark _)
theorem se_le (ha : SE G N sc fn k a f) (hb : SE G N sc fn k b g) : SE G N sc fn k (.Compare a [.LtE] [b] pos) (eBin dLe f g) := se_cmp (r := fun _ => _) (fun _ hu => op_le) (fun _ => rd_cmp) ha hb (nomark _)
theorem st_le (ha : SE G N sc fn k a f) (hb : SE G N sc fn k b g) : ST G N sc fn k (.Compare a [.LtE] [b] pos) (eBin dLe f g) := st_cmp (r := fun _ => _) (fun _ hu => op_le) (fun _ => rd_cmp) bl_cmp ha hb (nomark _)
theorem se_gt (ha : SE G N sc fn k a f) (hb : SE G N sc fn k b g) : SE G N sc fn k (.Compare a [.Gt] [b] pos) (eBin dGt f g) := se_cmp (r := fun _ => _) (fun _ hu => op_gt) (fun _ => rd_cmp) ha hb (nomark _)
theorem st_gt (ha : SE G N sc fn k a f) (hb : SE G N sc fn k b g) : ST G N sc fn k (.Compare a [.Gt] [b] pos) (eBin dGt f g) := st_cmp (r := fun _ => _) (fun _ hu => op_gt) (fun _ => rd_cmp) bl_cmp ha hb (nomark _)
theorem se_ge (ha : SE G N sc fn k a f) (hb : SE G N sc fn k b g) : SE G N sc fn k (.Compare a [.GtE] [b] pos) (eBin dGe f g) := se_cmp (r := fun _ => _) (fun _ hu => op_ge) (fun _ => rd_cmp) ha hb (nomark _)
theorem st_ge (ha : SE G N sc fn k a f) (hb : SE G N sc fn k b g) : ST G N sc fn k (.Compare a [.GtE] [b] pos) (eBin dGe f g) := st_cmp (r := fun _ => _) (fun _ hu => op_ge) (fun _ => rd_cmp) bl_cmp ha hb (nomark _)
theorem se_isN (ha : SE G N sc fn k a f) (hb : SE G N sc fn k b g) : SE G N sc fn k (.Compare a [.Is] [b] pos) (eBin dIsN f g) := se_cmp (r := fun _ => _) (fun _ hu => op_isN) rd_isN ha hb (nomark _)
theorem st_isN (ha : SE G N sc fn k a f) (hb : SE G N sc fn k b g) : ST G N sc fn k (.Compare a [.Is] [b] pos) (eBin dIsN f g) := st_cmp (r := fun _ => _) (fun _ hu => op_isN) rd_isN bl_isN ha hb (nomark _)
theorem se_notN (ha : SE G N sc fn k a f) (hb : SE G N sc fn k b g) : SE G N sc fn k (.Compare a [.IsNot] [b] pos) (eBin dNotN f g) := se_cmp (r := fun _ => _) (fun _ hu => op_notN) rd_notN ha hb (nomark _)
theorem st_notN (ha : SE G N sc fn k a f) (hb : SE G N sc fn k b g) : ST G N sc fn k (.Compare a [.IsNot] [b] pos) (eBin dNotN f g) := st_cmp (r := fun _ => _) (fun _ hu => op_notN) rd_notN bl_notN ha hb (nomark _)
theorem se_in (ha : SE G N sc fn k a f) (hb : SE G N sc fn k b g) (hm : behindInMarks .In b = false := by rfl) : SE G N sc fn k (.Compare a [.In] [b] pos) (eBin dIn f g) := se_cmp (r := rInA) (fun _ hu => (op_inD hu).or op_in_str) rd_in ha hb hm
theorem st_in (ha : SE G N sc fn k a f) (hb : SE G N sc fn k b g) (hm : behindInMarks .In b = false := by rfl) : ST G N sc fn k (.Compare a [.In] [b] pos) (eBin dIn f g) := st_cmp (r := rInA) (fun _ hu => (op_inD hu).or op_in_str) rd_in bl_in ha hb hm
theorem se_notIn (ha : SE G N sc fn k a f) (hb : SE G N sc fn k b g) (hm : behindInMarks .NotIn b = false := by rfl) : SE G N sc fn k (.Compare a [.NotIn] [b] pos) (eBin dNotIn f g) := se_cmp (r := rNotInA) (fun _ hu => (op_notInD hu).or op_notin_str) rd_notIn ha hb hm
theorem st_notIn (ha : SE G N sc fn k a f) (hb : SE G N sc fn k b g) (hm : behindInMarks .NotIn b = false := by rfl) : ST G N sc fn k (.Compare a [.NotIn] [b] pos) (eBin dNotIn f g) := st_cmp (r := rNotInA) (fun _ hu => (op_notInD hu).or op_notin_str) rd_notIn bl_notIn ha hb hm
/-! ### a <= b <= c (ints) -/
def eChain (f g h : EF) : EF := fun _ ρ => bnd (f true ρ) fun x => bnd (g true ρ) fun y => match x, y with
  | .int i, .int j => if i ≤ j then bnd (h true ρ) fun z => (match z with | .int l => some (.val (.bool (decide (j ≤ l)))) | _ => none) else some (.val (.bool false))
  | _, _ => none
theorem tChain_of {K : PySem.W.Frag} {mg : Str → Option Value} {W : WX} {b : Bool} {f g h : EF} {σ : L2.St} {H : Hp} {Q : VK} (hh : tE K mg W b (eChain f g h) σ H Q) :
    tChain (rI0 fun i j => .bl (decide (i ≤ j))) (rI0 fun i j => .bl (decide (i ≤ j))) (tE K mg W true f) (tE K mg W true g) (tE K mg W true h) σ H Q := by
  obtain ⟨ρ, ow, rs, he, gd, post⟩ := hh
  refine tE.go gd he (fun n pl e => by subst e; exact post) fun d hd1 v H1 s1 r1 => ?_
  refine tE.go (gd.same s1) hd1 (fun n pl e => by subst e; exact post.same s1) fun d2 hd2 v2 H2 s2 r2 => ?_
  split at hd2
  · rename_i i j
    obtain rfl := r1.int
    obtain rfl := r2.int
    refine ⟨i, j, rfl, rfl, decide (i ≤ j), rfl, ?_⟩
    by_cases hij : i ≤ j
    · rw [if_pos (decide_eq_true hij)]
      rw [if_pos hij] at hd2
      refine tE.go (gd.same (s1.trans s2)) hd2 (fun n pl e => by subst e; exact post.same (s1.trans s2)) fun d3 hd3 v3 H3 s3 r3 => ?_
      split at hd3
      · cases hd3
        obtain rfl := r3.int
        exact ⟨j, _, rfl, rfl, post _ H3 ((s1.trans s2).trans s3) (.inl (.bl _))⟩
      · cases hd3
    · rw [if_neg (by rw [decide_eq_false hij]; decide)]
      rw [if_neg hij] at hd2
      cases hd2
      exact post _ H2 (s1.trans s2) (.inl (.bl _))
  · cases hd2
theorem chain_bl {f g h : EF} {b : Bool} {ρ : En} {d : Dt} (he : eChain f g h b ρ = some (.val d)) : ∃ c, d = .bool c := by
  unfold eChain at he
  cases h1 : f true ρ with
  | none => rw [h1] at he; cases he
  | some r1 =>
    cases r1 with
    | exc n pl => rw [h1] at he; cases he
    | val x =>
      rw [h1] at he
      cases h2 : g true ρ with
      | none => rw [h2] at he; cases he
      | some r2 =>
        cases r2 with
        | exc n pl => rw [h2] at he; cases he
        | val y =>
          rw [h2] at he
          simp only [bnd] at he
          split at he
          · split at he
            · cases h3 : h true ρ with
              | none => rw [h3] at he; cases he
              | some r3 =>
                cases r3 with
                | exc n pl => rw [h3] at he; cases he
                | val z =>
                  rw [h3] at he
                  simp only at he
                  split at he
                  · cases he; exact ⟨_, rfl⟩
                  · cases he
            · cases he; exact ⟨_, rfl⟩
          · cases he
theorem se_chain (ha : SE G N sc fn k a f) (hb : SE G N sc fn k b g) (hc : SE G N sc fn k c h) (hm : lastMarks [.LtE, .LtE] [b, c] = false := by with_unfolding_all rfl) : SE G N sc fn k (.Compare a [.LtE, .LtE] [b, c] pos) (eChain f g h) := fun X C W tk b' =>
  PE.imp (pe_chain op_le op_le (ha X C W tk true) (hb X C W tk true) (hc X C W tk true) hm) fun σ H Q h => tChain_of h
theorem st_chain (ha : SE G N sc fn k a f) (hb : SE G N sc fn k b g) (hc : SE G N sc fn k c h) (hm : lastMarks [.LtE, .LtE] [b, c] = false := by with_unfolding_all rfl) : ST G N sc fn k (.Compare a [.LtE, .LtE] [b, c] pos) (eChain f g h) := fun X C W tk =>
  PT.imp (pt_chain op_le op_le (ha X C W tk true) (hb X C W tk true) (hc X C W tk true) hm) fun σ H Q hh => by
    obtain ⟨ρ, ow, rs, he, gd, post⟩ := hh
    refine tChain_of (b := true) ⟨ρ, ow, rs, he, gd, ?_⟩
    cases rs with
    | exc n pl => exact post
    | val d =>
      obtain ⟨c, hc, q⟩ := post
      obtain ⟨c', rfl⟩ := chain_bl he
      cases hc
      exact fun v H' s' r' => ⟨_, r'.bool, q H' s'⟩
/-! ### and, or, not, if-else -/
def eAnd (f g : EF) : EF := fun b ρ => bnd (f true ρ) fun x => match x with
  | .bool true => g b ρ
  | .bool false => some (.val (.bool false))
  | _ => none
def eOr (f g : EF) : EF := fun b ρ => bnd (f true ρ) fun x => match x with
  | .bool true => some (.val (.bool true))
  | .bool false => g b ρ
  | _ => none
def eAndT (f g : EF) : EF := fun b ρ => bnd (f true ρ) fun x => match tru x with
  | some true => g b ρ
  | some false => some (.val (.bool false))
  | none => none
def eOrT (f g : EF) : EF := fun b ρ => bnd (f true ρ) fun x => match tru x with
  | some true => some (.val (.bool true))
  | some false => g b ρ
  | none => none
def eNot (f : EF) : EF := fun _ ρ => bnd (f true ρ) fun x => (tru x).map fun c => .val (.bool (!c))
def eIf (c f g : EF) : EF := fun b ρ => bnd (c true ρ) fun x => match tru x with
  | some true => f b ρ
  | some false => g b ρ
  | none => none
variable {rest : List Expr}
theorem se_one {op : BoolOp} (ha : SE G N sc fn k a f) : SE G N sc fn k (.BoolOp op [a] pos) f := fun X C W tk b' => pe_one (ha X C W tk b')
theorem se_and (ha : SE G N sc fn k a f) (hb : SE G N sc fn k (.BoolOp .And (b :: rest) pos) g) : SE G N sc fn k (.BoolOp .And (a :: b :: rest) pos) (eAnd f g) := fun X C W tk b' =>
  PE.imp (pe_and (ha X C W tk true) (hb X C W tk b')) fun σ H Q h => by
    obtain ⟨ρ, ow, rs, he, gd, post⟩ := h
    refine tE.go gd he (fun n pl e => by subst e; exact post) fun d hd1 v H1 s1 r1 => ?_
    split at hd1
    · obtain rfl := r1.bool
      refine ⟨true, rfl, ?_⟩
      rw [if_pos rfl]
      refine ⟨ρ, ow, rs, hd1, gd.same s1, ?_⟩
      cases rs with
      | val d => exact fun v' H' s' r' => post v' H' (s1.trans s') r'
      | exc n pl => exact post.same s1
    · obtain rfl := r1.bool
      cases hd1
      refine ⟨false, rfl, ?_⟩
      rw [if_neg Bool.false_ne_true]
      exact post _ H1 s1 (.inl (.bl _))
    · cases hd1
theorem se_or (ha : SE G N sc fn k a f) (hb : SE G N sc fn k (.BoolOp .Or (b :: rest) pos) g) : SE G N sc fn k (.BoolOp .Or (a :: b :: rest) pos) (eOr f g) := fun X C W tk b' =>
  PE.imp (pe_or (ha X C W tk true) (hb X C W tk b')) fun σ H Q h => by
    obtain ⟨ρ, ow, rs, he, gd, post⟩ := h
    refine tE.go gd he (fun n pl e => by subst e; exact post) fun d hd1 v H1 s1 r1 => ?_
    split at hd1
    · obtain rfl := r1.bool
      cases hd1
      refine ⟨true, rfl, ?_⟩
      rw [if_pos rfl]
      exact post _ H1 s1 (.inl (.bl _))
    · obtain rfl := r1.bool
      refine ⟨false, rfl, ?_⟩
      rw [if_neg Bool.false_ne_true]
      refine ⟨ρ, ow, rs, hd1, gd.same s1, ?_⟩
      cases rs with
      | val d => exact fun v' H' s' r' => post v' H' (s1.trans s') r'
      | exc n pl => exact post.same s1
    · cases hd1
theorem se_not (ha : SE G N sc fn k a f) : SE G N sc fn k (.UnaryOp .Not a pos) (eNot f) := fun X C W tk b' =>
  PE.imp (pe_notT (ha X C W tk true)) fun σ H Q h => by
    obtain ⟨ρ, ow, rs, he, gd, post⟩ := h
    refine tE.go gd he (fun n pl e => by subst e; exact post) fun d hd1 v H1 s1 r1 => ?_
    cases hc : tru d with
    | none => rw [hc] at hd1; cases hd1
    | some c =>
      rw [hc] at hd1
      cases hd1
      exact ⟨c, r1.tru hc, post _ H1 s1 (.inl (.bl _))⟩
theorem se_if (hc : ST G N sc fn k c h) (ha : SE G N sc fn k a f) (hb : SE G N sc fn k b g) : SE G N sc fn k (.IfExp c a b pos) (eIf h f g) := fun X C W tk b' =>
  PE.imp (pe_ifExp (hc X C W tk) (ha X C W tk b') (hb X C W tk b')) fun σ H Q h => by
    obtain ⟨ρ, ow, rs, he, gd, post⟩ := h
    refine tT.go gd he (fun n pl e => by subst e; exact post) fun d hd1 => ?_
    split at hd1
    · rename_i hc
      refine ⟨true, hc, fun H1 s1 => ?_⟩
      rw [if_pos rfl]
      refine ⟨ρ, ow, rs, hd1, gd.same s1, ?_⟩
      cases rs with
      | val d => exact fun v' H' s' r' => post v' H' (s1.trans s') r'
      | exc n pl => exact post.same s1
    · rename_i hc
      refine ⟨false, hc, fun H1 s1 => ?_⟩
      rw [if_neg Bool.false_ne_true]
      refine ⟨ρ, ow, rs, hd1, gd.same s1, ?_⟩
      cases rs with
      | val d => exact fun v' H' s' r' => post v' H' (s1.trans s') r'
      | exc n pl => exact post.same s1
    · cases hd1
/-! as tests -/
def SW (G : Gc) (N : List Str) (sc : Scope) (fn : Str → Bool) (k : Nat) (e : Expr) (f : EF) : Prop :=
  ∀ X, Ctx G N sc fn k X → ∀ W, Takes X W → PW X e (tT X.K X.mg W f)
theorem PW.imp {X : Cx} {e : Expr} {t t' : TT} (h : PW X e t) (i : ∀ σ H Q, t' σ H Q → t σ H Q) : PW X e t' := ⟨fun wh pins s σ H Q I q => h.run wh pins s σ H Q I (i σ H Q q)⟩
theorem st_w {e : Expr} (h : SW G N sc fn k e f) : ST G N sc fn k e f := fun X C W tk => (h X C W tk).pt
theorem sw_and1 (ha : ST G N sc fn k a f) : SW G N sc fn k (.BoolOp .And [a] pos) f := fun X C W tk => pw_and1 (ha X C W tk)
theorem sw_or1 (ha : ST G N sc fn k a f) : SW G N sc fn k (.BoolOp .Or [a] pos) f := fun X C W tk => pw_or1 (ha X C W tk)
theorem sw_and (ha : ST G N sc fn k a f) (hb : SW G N sc fn k (.BoolOp .And (b :: rest) pos) g) : SW G N sc fn k (.BoolOp .And (a :: b :: rest) pos) (eAndT f g) := fun X C W tk =>
  PW.imp (pw_and (ha X C W tk) (hb X C W tk)) fun σ H Q h => by
    obtain ⟨ρ, ow, rs, he, gd, post⟩ := h
    refine tT.go gd he (fun n pl e => by subst e; exact post) fun d hd1 => ?_
    split at hd1
    · rename_i hc
      refine ⟨true, hc, fun H1 s1 => ?_⟩
      rw [if_pos rfl]
      refine ⟨ρ, ow, rs, hd1, gd.same s1, ?_⟩
      cases rs with
      | val d => obtain ⟨c, hc, q⟩ := post; exact ⟨c, hc, fun H' s' => q H' (s1.trans s')⟩
      | exc n pl => exact post.same s1
    · rename_i hc
      cases hd1
      obtain ⟨c, hc', q⟩ := post
      cases hc'
      exact ⟨false, hc, fun H1 s1 => by rw [if_neg Bool.false_ne_true]; exact q H1 s1⟩
    · cases hd1
theorem sw_or (ha : ST G N sc fn k a f) (hb : SW G N sc fn k (.BoolOp .Or (b :: rest) pos) g) : SW G N sc fn k (.BoolOp .Or (a :: b :: rest) pos) (eOrT f g) := fun X C W tk =>
  PW.imp (pw_or (ha X C W tk) (hb X C W tk)) fun σ H Q h => by
    obtain ⟨ρ, ow, rs, he, gd, post⟩ := h
    refine tT.go gd he (fun n pl e => by subst e; exact post) fun d hd1 => ?_
    split at hd1
    · rename_i hc
      cases hd1
      obtain ⟨c, hc', q⟩ := post
      cases hc'
      exact ⟨true, hc, fun H1 s1 => by rw [if_pos rfl]; exact q H1 s1⟩
    · rename_i hc
      refine ⟨false, hc, fun H1 s1 => ?_⟩
      rw [if_neg Bool.false_ne_true]
      refine ⟨ρ, ow, rs, hd1, gd.same s1, ?_⟩
      cases rs with
      | val d => obtain ⟨c, hc, q⟩ := post; exact ⟨c, hc, fun H' s' => q H' (s1.trans s')⟩
      | exc n pl => exact post.same s1
    · cases hd1
theorem st_not (ha : ST G N sc fn k a f) : ST G N sc fn k (.UnaryOp .Not a pos) (eNot f) := fun X C W tk =>
  PT.imp (pt_not (ha X C W tk)) fun σ H Q h => by
    obtain ⟨ρ, ow, rs, he, gd, post⟩ := h
    refine tT.go gd he (fun n pl e => by subst e; exact post) fun d hd1 => ?_
    cases hc : tru d with
    | none => rw [hc] at hd1; cases hd1
    | some c =>
      rw [hc] at hd1
      cases hd1
      obtain ⟨c', hc', q⟩ := post
      cases hc'
      exact ⟨c, rfl, fun H1 s1 => q H1 s1⟩
end
end PT

namespace PT
open PySem PySem.Spec PyProof.Rows L2

/-! ## argument lists, displays -/
inductive Rss where
  | vals (ds : List Dt)
  | exc (n : Str) (pl : Option Dt)
abbrev AF := En → Option Rss
def bndA (x : Option Rss) (k : List Dt → Option Rs) : Option Rs :=
  match x with
  | some (.vals d) => k d
  | some (.exc n pl) => some (.exc n pl)
  | none => none
def aNil : AF := fun _ => some (.vals [])
def aCons (f : EF) (g : AF) : AF := fun ρ => match f false ρ with
  | some (.val d) => (match g ρ with
    | some (.vals ds) => some (.vals (d :: ds))
    | y => y)
  | some (.exc n pl) => some (.exc n pl)
  | none => none
def tA (K : PySem.W.Frag) (mg : Str → Option Value) (W : WX) (f : AF) : TA := fun σ H Q =>
  ∃ ρ ow r, f ρ = some r ∧ Good K ow ρ σ H ∧ match r with
    | .vals ds => ∀ vs H', Same H H' → RpAll K (OA ow) H' vs ds → Q vs H'
    | .exc n pl => ExP K mg W σ H n pl
def SA (G : Gc) (N : List Str) (sc : Scope) (fn : Str → Bool) (k : Nat) (es : List Expr) (f : AF) : Prop :=
  ∀ X, Ctx G N sc fn k X → ∀ W, Takes X W → PA X es (tA X.K X.mg W f)
theorem tA.go {K : PySem.W.Frag} {mg : Str → Option Value} {W : WX} {f : AF} {ρ : En} {ow : Ow} {σ : L2.St} {H : Hp} {Q : List V → Hp → Prop} {k : List Dt → Option Rs} {r : Rs} (g : Good K ow ρ σ H)
    (e : bndA (f ρ) k = some r)
    (hx : ∀ n pl, r = .exc n pl → ExP K mg W σ H n pl)
    (hv : ∀ ds, k ds = some r → ∀ vs H', Same H H' → RpAll K (OA ow) H' vs ds → Q vs H') : tA K mg W f σ H Q := by
  cases h : f ρ with
  | none => rw [h] at e; cases e
  | some q =>
    rw [h] at e
    cases q with
    | vals d => exact ⟨ρ, ow, .vals d, h, g, fun v H' s q => hv d e v H' s q⟩
    | exc n pl => exact ⟨ρ, ow, .exc n pl, h, g, hx n pl (Option.some.inj e).symm⟩
abbrev GL (sc : Scope) (x : Str) : Prop := sc.names.lookup x = some .globalImplicit
abbrev NS (e : Expr) : Prop := ∀ (es : List Expr) (env : PySem.Env), starEach (e :: es) env = (false, eval e env) :: starEach es env
theorem noStar : ∀ (es : List Expr) (env : PySem.Env) (pos : Pos), (∀ e ∈ es, NS e) → (backTo pos (starEach es env)).any (·.1) = false
  | [], env, pos, _ => rfl
  | e :: es, env, pos, h => by
    rw [h e List.mem_cons_self es env]
    have ih := noStar es env pos fun x hx => h x (List.mem_cons_of_mem _ hx)
    simpa [backTo] using ih
structure SAs (G : Gc) (N : List Str) (sc : Scope) (fn : Str → Bool) (k : Nat) (es : List Expr) (f : AF) : Prop where
  pa : SA G N sc fn k es f
  ns : ∀ e ∈ es, NS e
section
variable {G : Gc} {N : List Str} {sc : Scope} {fn : Str → Bool} {k : Nat} {pos p p2 : Pos} {a b c : Expr} {f g h : EF} {es : List Expr} {ar : AF}
theorem sa_nil : SAs G N sc fn k [] aNil := ⟨fun X C W tk => PA.imp pa_nil fun σ H Q h => by
  obtain ⟨ρ, ow, rs, he, gd, post⟩ := h
  cases he
  exact post [] H (Same.refl H) .nil, fun _ z => nomatch z⟩
theorem sa_cons (ha : SE G N sc fn k a f) (hr : SAs G N sc fn k es ar) (ns : NS a := by intro _ _; rfl) : SAs G N sc fn k (a :: es) (aCons f ar) := ⟨fun X C W tk => PA.imp (pa_cons (ha X C W tk false) (hr.pa X C W tk) (ns es X.env)) fun σ H Q h => by
  obtain ⟨ρ, ow, rs, he, gd, post⟩ := h
  unfold aCons at he
  cases h1 : f false ρ with
  | none => rw [h1] at he; cases he
  | some r1 =>
    cases r1 with
    | exc n pl => rw [h1] at he; cases he; exact ⟨ρ, ow, _, h1, gd, post⟩
    | val d =>
      rw [h1] at he
      refine ⟨ρ, ow, _, h1, gd, fun v H1 s1 q1 => ?_⟩
      cases h2 : ar ρ with
      | none => rw [h2] at he; cases he
      | some r2 =>
        rw [h2] at he
        cases r2 with
        | exc n pl => cases he; exact ⟨ρ, ow, _, h2, gd.same s1, ExP.same post s1⟩
        | vals ds =>
          cases he
          exact ⟨ρ, ow, _, h2, gd.same s1, fun vs H2 s2 q2 => post _ H2 (s1.trans s2) (.cons (Rp.same s2 q1.rp) q2)⟩,
  fun e he => (List.mem_cons.mp he).elim (fun z => by rw [z]; exact ns) (hr.ns e)⟩
/-- one borrowed argument -/
def a1 (f : EF) : AF := fun ρ => match f true ρ with
  | some (.val d) => some (.vals [d])
  | some (.exc n pl) => some (.exc n pl)
  | none => none
def eTup (g : AF) : EF := fun _ ρ => bndA (g ρ) fun ds => if ds.length ≤ lim then some (.val (.tuple ds)) else none
def eLst (g : AF) : EF := fun _ ρ => bndA (g ρ) fun ds => if ds.length ≤ lim then some (.val (.list ds)) else none
def tTupF (t : TA) : TE := fun σ H Q => t σ H fun xs H1 => xs.length ≤ sizeLine ∧ ∀ p o, H1 p = none → o.dict = none → Q (.ref p) (upd H1 p (.frz o (.tup xs)))
theorem pe_tupF {X : Cx} {t : TA} {x1} (h : PA X es t) : PE X (.Tuple es x1 pos) (tTupF t) := by
  refine ⟨fun pins s σ H Q I hq => ?_⟩
  refine wpAny_Tuple_spliced (thn (h.run pos pins s σ H _ I hq) fun us s1 ⟨xs, H1, I1, r, z, q⟩ => ⟨by rw [← r.length]; exact z, ?_⟩)
  have hf : H1 s1.heap.objs.size = none := I1.hok.fresh (Nat.le_refl _)
  exact ⟨.ref s1.heap.objs.size, _, layT I1 r z s1.toks, rfl, q _ _ hf rfl⟩
theorem se_tup {x1 : Nat} (h : SAs G N sc fn k es ar) : SE G N sc fn k (.Tuple es x1 pos) (eTup ar) := fun X C W tk b' => PE.imp (pe_tupF (h.pa X C W tk)) fun σ H Q h => by
  obtain ⟨ρ, ow, rs, he, gd, post⟩ := h
  refine tA.go gd he (fun n pl e => by subst e; exact post) fun ds hd vs H1 s1 r1 => ?_
  split at hd
  · rename_i hz
    cases hd
    exact ⟨by rw [r1.length]; exact lim_le hz, fun p o hp ho => post _ _ (s1.trans (Same.upd hp)) (.inl (.tup ⟨o, upd_same, ho⟩ (RpAll.same (Same.upd hp) r1)))⟩
  · cases hd
theorem se_lst (h : SAs G N sc fn k es ar) : SE G N sc fn k (.List es pos) (eLst ar) := fun X C W tk b' => PE.imp (pe_lst (h.pa X C W tk)) fun σ H Q h => by
  obtain ⟨ρ, ow, rs, he, gd, post⟩ := h
  refine tA.go gd he (fun n pl e => by subst e; exact post) fun ds hd vs H1 s1 r1 => ?_
  split at hd
  · rename_i hz
    cases hd
    exact ⟨by rw [r1.length]; exact lim_le hz, fun p hp => post _ _ (s1.trans (Same.upd hp)) (.inl (.lst upd_same ((gd.ok.same s1).new hp) (RpAll.same (Same.upd hp) r1)))⟩
  · cases hd

/-! ## subscripts and slices -/
def dIx : Dt → Dt → Option Dt
  | .list xs, .int i => atI xs i
  | .tuple xs, .int i => atI xs i
  | .dict kv, .int i => (atI kv i).map (·.1)
  | _, _ => none
theorem atI_some {α : Type} {xs : List α} {i : Int} {d : α} (h : atI xs i = some d) : ∃ j, ixN xs.length i = some j ∧ xs[j]? = some d := by
  unfold atI at h
  cases e : ixN xs.length i with
  | none => rw [e] at h; cases h
  | some j => rw [e] at h; exact ⟨j, rfl, h⟩
theorem atI_of {α : Type} {xs : List α} {i : Int} {j : Nat} {d : α} (h : ixN xs.length i = some j) (h2 : xs[j]? = some d) : atI xs i = some d := by
  unfold atI
  rw [h]
  exact h2
def rIxA (K : PySem.W.Frag) : R2 := fun x y H Q => rIxL K x y H Q ∨ rIxT K x y H Q
theorem rd_ix (K : PySem.W.Frag) : RD K (rIxA K) dIx := by
  intro x y H Q ow dx dy dz ok rx ry e post
  unfold dIx at e
  split at e
  · obtain ⟨a, vs, rfl, h1, r1⟩ := rx.list
    obtain rfl := ry.int
    obtain ⟨j, hj, hd⟩ := atI_some e
    obtain ⟨v, hv, rv⟩ := r1.get hd
    exact .inl ⟨a, vs, _, v, rfl, rfl, SqL.of h1, atI_of (by rw [r1.length]; exact hj) hv, post v H (Same.refl H) rv⟩
  · obtain ⟨a, vs, rfl, h1, r1⟩ := rx.tuple
    obtain rfl := ry.int
    obtain ⟨j, hj, hd⟩ := atI_some e
    obtain ⟨v, hv, rv⟩ := r1.get hd
    exact .inr ⟨a, vs, _, v, rfl, rfl, h1.sq, atI_of (by rw [r1.length]; exact hj) hv, post v H (Same.refl H) rv⟩
  · obtain ⟨a, ns, rfl, rfl, h1⟩ := rx.script
    obtain rfl := ry.int
    cases e1 : atI (ns.map fun i => ((.int i : PyData), (.none : PyData))) _ with
    | none => rw [e1] at e; cases e
    | some q =>
      rw [e1] at e
      cases e
      obtain ⟨j, hj, hd⟩ := atI_some e1
      rw [List.getElem?_map] at hd
      rw [List.length_map] at hj
      cases e2 : ns[j]? with
      | none => rw [e2] at hd; cases hd
      | some n =>
        rw [e2] at hd
        cases hd
        exact .inl ⟨a, ns.map V.int, _, .int n, rfl, rfl, h1.sq, atI_of (by rw [List.length_map]; exact hj) (by rw [List.getElem?_map, e2]; rfl), post _ H (Same.refl H) (.int n)⟩
  · cases e
theorem se_ix (ha : SE G N sc fn k a f) (hb : SE G N sc fn k b g) (hs : PlainIx b := by intro _ _; rfl) : SE G N sc fn k (.Subscript a b pos) (eBin dIx f g) := fun X C W tk b' =>
  PE.imp (pe_ix (ix_list.or ix_tup) (ha X C W tk true) (hb X C W tk true) hs) fun σ H Q h => tOp_of (rd_ix X.K) h
/-- a part of a slice -/
abbrev OF := En → Option (Option Int × Option Rs)
def oNo : En → Option (Option Int) := fun _ => some none
def oSo (f : EF) : En → Option (Option Int) := fun ρ => match f true ρ with
  | some (.val (.int i)) => some (some i)
  | _ => none
def tO (K : PySem.W.Frag) (f : En → Option (Option Int)) : TO := fun σ H Q => ∃ ρ ow o, f ρ = some o ∧ Good K ow ρ σ H ∧ ∀ H', Same H H' → Q o H'
def SO (G : Gc) (N : List Str) (sc : Scope) (fn : Str → Bool) (k : Nat) (e : Option Expr) (f : En → Option (Option Int)) : Prop :=
  ∀ X, Ctx G N sc fn k X → ∀ W, Takes X W → PO X e (tO X.K f)
theorem PO.imp {X : Cx} {e : Option Expr} {t t' : TO} (h : PO X e t) (i : ∀ σ H Q, t' σ H Q → t σ H Q) : PO X e t' := ⟨fun pins s σ H Q I q => h.run pins s σ H Q I (i σ H Q q)⟩
theorem so_none : SO G N sc fn k none oNo := fun X C W tk => PO.imp po_none fun σ H Q h => by
  obtain ⟨ρ, ow, o, he, gd, post⟩ := h
  cases he
  exact post H (Same.refl H)
theorem so_some (ha : SE G N sc fn k a f) : SO G N sc fn k (some a) (oSo f) := fun X C W tk => PO.imp (po_some (ha X C W tk true)) fun σ H Q h => by
  obtain ⟨ρ, ow, o, he, gd, post⟩ := h
  unfold oSo at he
  split at he
  · rename_i i hi
    cases he
    exact ⟨ρ, ow, _, hi, gd, fun v H' s' r' => ⟨i, r'.int, post H' s'⟩⟩
  · cases he
def cut {α : Type} (xs : List α) (lo hi : Option Int) : List α := (xs.drop (HT.sIx xs.length 0 lo)).take (HT.sIx xs.length xs.length hi - HT.sIx xs.length 0 lo)
def dSl : Dt → Option Int → Option Int → Option Dt
  | .list xs, lo, hi => some (.list (cut xs lo hi))
  | .tuple xs, lo, hi => some (.tuple (cut xs lo hi))
  | .str z, lo, hi => if z.length ≤ lim then some (.str (cutS z lo hi)) else none
  | _, _, _ => none
def eSl (f : EF) (lo hi : En → Option (Option Int)) : EF := fun _ ρ => bnd (f true ρ) fun x => match lo ρ, hi ρ with
  | some l, some u => (dSl x l u).map .val
  | _, _ => none
def rSlF (K : PySem.W.Frag) : V → Option Int → Option Int → Hp → VK → Prop := fun x lo hi H Q => ∃ a xs, x = .ref a ∧ SqT K H a xs ∧
  (HT.sIx xs.length 0 lo = 0 ∧ HT.sIx xs.length xs.length hi = xs.length → Q (.ref a) H) ∧ (¬ (HT.sIx xs.length 0 lo = 0 ∧ HT.sIx xs.length xs.length hi = xs.length) → ∀ p o, H p = none → o.dict = none → Q (.ref p) (upd H p (.frz o (.tup (cutV xs lo hi)))))
theorem sl_tupF {X : Cx} : SlR X (rSlF X.K) := by
  intro pins s σ H x v vl vu lo hi sl Q I rx hs pl pu h
  obtain ⟨a, xs, rfl, hx, q1, q2⟩ := h
  cases rx
  obtain ⟨its, r, ht, hz⟩ := I.tuple hx
  have hlen : its.toArray.size = xs.length := by rw [List.size_toArray]; exact r.length.symm
  refine ⟨"tuple", _, PyProof.Rows.slot_tuple_getitem.lookup, ht.typeIs, ?_⟩
  by_cases hw : HT.sIx xs.length 0 lo = 0 ∧ HT.sIx xs.length xs.length hi = xs.length
  · exact getItem_tuple_whole ht hs pl pu (by rw [hlen]; exact hw) ⟨.ref a, H, I, rfl, q1 hw⟩
  · refine HT.getItem_tuple_cut ht hs pl pu (by rw [hlen]; exact hw) ?_ (by rw [hlen]; exact hz)
    rw [hlen]
    exact ⟨.ref s.heap.objs.size, _, layT I ((r.drop (HT.sIx xs.length 0 lo)).take (HT.sIx xs.length xs.length hi - HT.sIx xs.length 0 lo)) (Nat.le_trans (cutV_length xs lo hi) hz) s.toks, rfl, q2 hw _ _ (I.hok.fresh (Nat.le_refl _)) rfl⟩
def rSlD (K : PySem.W.Frag) : V → Option Int → Option Int → Hp → VK → Prop := fun x lo hi H Q => rSlL K x lo hi H Q ∨ (rSlF K x lo hi H Q ∨ rSlS x lo hi H Q)
theorem RpAll.cut {K : PySem.W.Frag} {O : Addr → Prop} {H : Hp} {vs : List V} {ds : List Dt} (r : RpAll K O H vs ds) (lo hi : Option Int) : RpAll K O H (cutV vs lo hi) (PT.cut ds lo hi) := by
  unfold cutV PT.cut
  rw [r.length]
  exact (r.drop _).take _
theorem cut_all {α : Type} {xs : List α} {lo hi : Option Int} (h : HT.sIx xs.length 0 lo = 0 ∧ HT.sIx xs.length xs.length hi = xs.length) : cut xs lo hi = xs := by
  unfold cut
  rw [h.1, h.2]
  simp
theorem se_sl {lo hi : Option Expr} {ol oh : En → Option (Option Int)} (ha : SE G N sc fn k a f) (hl : SO G N sc fn k lo ol) (hh : SO G N sc fn k hi oh) : SE G N sc fn k (.Subscript a (.Slice lo hi none p2) pos) (eSl f ol oh) := fun X C W tk b' =>
  PE.imp (pe_slice (sl_list.or (sl_tupF.or sl_str)) (ha X C W tk true) (hl X C W tk) (hh X C W tk)) fun σ H Q h => by
    obtain ⟨ρ, ow, rs, he, gd, post⟩ := h
    refine tE.go gd he (fun n pl e => by subst e; exact post) fun d hd1 v H1 s1 r1 => ?_
    split at hd1
    · rename_i l u hl hu
      refine ⟨ρ, ow, l, hl, gd.same s1, fun H2 s2 => ⟨ρ, ow, u, hu, gd.same (s1.trans s2), fun H3 s3 => ?_⟩⟩
      have r3 := r1.same (s2.trans s3)
      have s13 := (s1.trans s2).trans s3
      have ok3 := gd.ok.same s13
      cases d with
      | list xs =>
        cases hd1
        obtain ⟨a, vs, rfl, h1, r⟩ := r3.list
        exact .inl ⟨a, vs, rfl, SqL.of h1, fun p hp => post _ _ (s13.trans (Same.upd hp)) (.inl (.lst upd_same (ok3.new hp) (RpAll.same (Same.upd hp) (r.cut l u))))⟩
      | tuple xs =>
        cases hd1
        obtain ⟨a, vs, rfl, h1, r⟩ := r3.tuple
        refine .inr (.inl ⟨a, vs, rfl, h1.sq, fun hw => ?_, fun hw p o hp ho => post _ _ (s13.trans (Same.upd hp)) (.inl (.tup ⟨o, upd_same, ho⟩ (RpAll.same (Same.upd hp) (r.cut l u))))⟩)
        rw [cut_all (by rw [← r.length]; exact hw)] at post
        exact post _ _ s13 (.inl (.tup h1 r))
      | str z =>
        simp only [dSl] at hd1
        split at hd1
        · rename_i hz
          cases hd1
          obtain rfl := r3.str
          exact .inr (.inr ⟨z, rfl, lim_le hz, post _ _ s13 (.inl (.str _))⟩)
        · cases hd1
      | none => cases hd1
      | bool _ => cases hd1
      | int _ => cases hd1
      | dict _ => cases hd1
    · cases hd1

/-! ## calls of built-ins -/
structure Bi (G : Gc) : Prop where
  len : G.mg "len" = none
  range : G.mg "range" = none
  isinstance : G.mg "isinstance" = none
  int : G.mg "int" = none
  bool : G.mg "bool" = none
  tuple : G.mg "tuple" = none
  list : G.mg "list" = none
  str : G.mg "str" = none
  set : G.mg "set" = none
  sorted : G.mg "sorted" = none
  max : G.mg "max" = none
  min : G.mg "min" = none
  zip : G.mg "zip" = none
  enumerate : G.mg "enumerate" = none
  reversed : G.mg "reversed" = none
/-- a call's rule on one borrowed value -/
def CD1 (K : PySem.W.Frag) (r : List V → Hp → VK → Prop) (op : Dt → Option Dt) : Prop :=
  ∀ (x : V) (H : Hp) (Q : VK) (ow : Ow) (dx dz : Dt), OkO ow H → RpB true K ow H x dx → op dx = some dz → (∀ v H', Same H H' → Rp K (OA ow) H' v dz → Q v H') → r [x] H Q
theorem tCB_of {K : PySem.W.Frag} {mg : Str → Option Value} {W : WX} {b : Bool} {op : Dt → Option Dt} {f : EF} {r : List V → Hp → VK → Prop} {σ : L2.St} {H : Hp} {Q : VK} (hd : CD1 K r op)
    (h : tE K mg W b (eUn op f) σ H Q) : tCB r (tCons (tE K mg W true f) tNil) σ H Q := by
  obtain ⟨ρ, ow, rs, he, gd, post⟩ := h
  refine tE.go gd he (fun n pl e => by subst e; exact post) fun d hd1 v H1 s1 r1 => ?_
  cases hz : op d with
  | none => rw [hz] at hd1; cases hd1
  | some dz =>
    rw [hz] at hd1
    cases hd1
    exact hd v H1 Q ow d dz (gd.ok.same s1) r1 hz fun v' H' s' q => post v' H' (s1.trans s') (.inl q)
theorem Ctx.gl {X : Cx} (C : Ctx G N sc fn k X) {x : Str} (h : GL sc x) : Gl X x := by
  show X.env.scope.names.lookup x = _
  rw [C.hsc]; exact h
theorem se_b1 {x : Str} {id : String} {r : PySem.W.Frag → List V → Hp → VK → Prop} {op : Dt → Option Dt} (hc : ∀ X : Cx, X.calm = true → CallR X (.builtin id) (r X.K)) (hd : ∀ K, CD1 K (r K) op) (hm : G.mg x = none) (hv : bootBuiltins x = some (.builtin id)) (ha : SE G N sc fn k a f)
    (hg : GL sc x) (hn : x ≠ "__name__") (hdb : (x == ("__debug__" : Str)) = false) (ns : NS a) : SE G N sc fn k (.Call (.Name x p) [a] [] pos) (eUn op f) := fun X C W tk b' =>
  PE.imp (pe_callB (hc X C.calm) (C.gl hg) (by rw [C.hmg]; exact hm) hv (pa_cons (ha X C W tk true) pa_nil (ns [] X.env)) hn hdb (ns [] X.env) rfl) fun σ H Q h => tCB_of (hd X.K) h
theorem se_t1 {x : Str} {id : String} {r : PySem.W.Frag → List V → Hp → VK → Prop} {op : Dt → Option Dt} (hc : ∀ X : Cx, X.calm = true → CallR X (.type id) (r X.K)) (hd : ∀ K, CD1 K (r K) op) (hm : G.mg x = none) (hv : bootBuiltins x = some (.type id)) (ha : SE G N sc fn k a f)
    (hg : GL sc x) (hn : x ≠ "__name__") (hdb : (x == ("__debug__" : Str)) = false) (ns : NS a) : SE G N sc fn k (.Call (.Name x p) [a] [] pos) (eUn op f) := fun X C W tk b' =>
  PE.imp (pe_callTy (hc X C.calm) (C.gl hg) (by rw [C.hmg]; exact hm) hv (pa_cons (ha X C W tk true) pa_nil (ns [] X.env)) hn hdb (ns [] X.env) rfl) fun σ H Q h => tCB_of (hd X.K) h
def dLen : Dt → Option Dt
  | .list xs => some (.int xs.length)
  | .tuple xs => some (.int xs.length)
  | .dict kv => some (.int kv.length)
  | .str z => if z.length ≤ lim then some (.int z.length) else none
  | _ => none
theorem cd_len (K : PySem.W.Frag) : CD1 K (fun xs H Q => ∃ x n, xs = [x] ∧ LenV K x H n ∧ Q (.int n) H) dLen := by
  intro x H Q ow dx dz ok rx e post
  unfold dLen at e
  split at e
  · cases e
    obtain ⟨a, vs, rfl, h1, r⟩ := rx.list
    refine ⟨_, vs.length, rfl, .inl ⟨vs, SqL.of h1, rfl⟩, ?_⟩
    rw [r.length]
    exact post _ H (Same.refl H) (.int _)
  · cases e
    obtain ⟨a, vs, rfl, h1, r⟩ := rx.tuple
    refine ⟨_, vs.length, rfl, .inr ⟨vs, h1.sq, rfl⟩, ?_⟩
    rw [r.length]
    exact post _ H (Same.refl H) (.int _)
  · cases e
    obtain ⟨a, ns, rfl, rfl, h1⟩ := rx.script
    refine ⟨_, ns.length, rfl, .inl ⟨ns.map V.int, h1.sq, by rw [List.length_map]⟩, ?_⟩
    rw [List.length_map] at post
    exact post _ H (Same.refl H) (.int _)
  · split at e
    · rename_i hz
      cases e
      obtain rfl := rx.str
      exact ⟨_, _, rfl, ⟨lim_le hz, rfl⟩, post _ H (Same.refl H) (.int _)⟩
    · cases e
  · cases e
theorem se_len (B : Bi G) (ha : SE G N sc fn k a f) (hg : GL sc "len" := by rfl) (ns : NS a := by intro _ _; rfl) : SE G N sc fn k (.Call (.Name "len" p) [a] [] pos) (eUn dLen f) :=
  se_b1 (r := fun K xs H Q => ∃ x n, xs = [x] ∧ LenV K x H n ∧ Q (.int n) H) (fun X _ => call_len) cd_len B.len PySem.boot_len ha hg (by decide) (by decide) ns
def dTuple : Dt → Option Dt
  | .list xs => some (.tuple xs)
  | .tuple xs => some (.tuple xs)
  | _ => none
theorem call_tuple_F {X : Cx} : CallR X (.type "tuple") (fun xs H Q => ∃ p ys, xs = [.ref p] ∧ ((SqL X.K H p ys ∧ ∀ l o, H l = none → o.dict = none → Q (.ref l) (upd H l (.frz o (.tup ys)))) ∨ (SqT X.K H p ys ∧ Q (.ref p) H))) := by
  intro pins s σ H xs us Q I r h
  obtain ⟨p, ys, rfl, h⟩ := h
  obtain ⟨u, rfl, rx⟩ := vals1 r
  cases rx
  rcases h with ⟨hq, q⟩ | ⟨hq, q⟩
  · obtain ⟨its, r', pl, hz⟩ := I.list hq
    have hlen := r'.length
    refine call_tuple_list pl.isList (fun h' kp => ?_) (by simp only [List.size_toArray] <;> omega)
    have I1 : Inv X pins σ H { s with heap := h' } := I.kept (t' := s.toks) kp
    exact ⟨.ref h'.objs.size, _, layT I1 r' hz s.toks, rfl, q _ _ (I1.hok.fresh (Nat.le_refl _)) rfl⟩
  · obtain ⟨its, r', pl, hz⟩ := I.tuple hq
    exact call_tuple_same pl ⟨.ref p, H, I, rfl, q⟩
theorem cd_tuple (K : PySem.W.Frag) : CD1 K (fun xs H Q => ∃ p ys, xs = [.ref p] ∧ ((SqL K H p ys ∧ ∀ l o, H l = none → o.dict = none → Q (.ref l) (upd H l (.frz o (.tup ys)))) ∨ (SqT K H p ys ∧ Q (.ref p) H))) dTuple := by
  intro x H Q ow dx dz ok rx e post
  unfold dTuple at e
  split at e
  · cases e
    obtain ⟨a, vs, rfl, h1, r⟩ := rx.list
    exact ⟨a, vs, rfl, .inl ⟨SqL.of h1, fun l o hl ho => post _ _ (Same.upd hl) (.tup ⟨o, upd_same, ho⟩ (RpAll.same (Same.upd hl) r))⟩⟩
  · cases e
    obtain ⟨a, vs, rfl, h1, r⟩ := rx.tuple
    exact ⟨a, vs, rfl, .inr ⟨h1.sq, post _ H (Same.refl H) (.tup h1 r)⟩⟩
  · cases e
theorem se_tuple (B : Bi G) (ha : SE G N sc fn k a f) (hg : GL sc "tuple" := by rfl) (ns : NS a := by intro _ _; rfl) : SE G N sc fn k (.Call (.Name "tuple" p) [a] [] pos) (eUn dTuple f) :=
  se_t1 (r := fun K xs H Q => ∃ p ys, xs = [.ref p] ∧ ((SqL K H p ys ∧ ∀ l o, H l = none → o.dict = none → Q (.ref l) (upd H l (.frz o (.tup ys)))) ∨ (SqT K H p ys ∧ Q (.ref p) H))) (fun X _ => call_tuple_F) cd_tuple B.tuple PyProof.Rows.boot_tuple ha hg (by decide) (by decide) ns
def dList : Dt → Option Dt
  | .list xs => some (.list xs)
  | .tuple xs => some (.list xs)
  | _ => none
theorem cd_list (K : PySem.W.Frag) : CD1 K (fun xs H Q => ∃ p ys, xs = [.ref p] ∧ (SqL K H p ys ∨ SqT K H p ys) ∧ ∀ l, H l = none → Q (.ref l) (upd H l (.lst ys))) dList := by
  intro x H Q ow dx dz ok rx e post
  unfold dList at e
  split at e
  · cases e
    obtain ⟨a, vs, rfl, h1, r⟩ := rx.list
    exact ⟨a, vs, rfl, .inl (SqL.of h1), fun l hl => post _ _ (Same.upd hl) (.lst upd_same (ok.new hl) (RpAll.same (Same.upd hl) r))⟩
  · cases e
    obtain ⟨a, vs, rfl, h1, r⟩ := rx.tuple
    exact ⟨a, vs, rfl, .inr (h1.sq), fun l hl => post _ _ (Same.upd hl) (.lst upd_same (ok.new hl) (RpAll.same (Same.upd hl) r))⟩
  · cases e
theorem se_list (B : Bi G) (ha : SE G N sc fn k a f) (hg : GL sc "list" := by rfl) (ns : NS a := by intro _ _; rfl) : SE G N sc fn k (.Call (.Name "list" p) [a] [] pos) (eUn dList f) :=
  se_t1 (r := fun K xs H Q => ∃ p ys, xs = [.ref p] ∧ (SqL K H p ys ∨ SqT K H p ys) ∧ ∀ l, H l = none → Q (.ref l) (upd H l (.lst ys))) (fun X _ => call_list_of) cd_list B.list PyProof.Rows.boot_list ha hg (by decide) (by decide) ns
/-! tuple(range(n)), list(range(n)) -/
def rgD (n : Int) : List Dt := (List.range n.toNat).map fun i => .int (i : Nat)
def dTupRg : Dt → Option Dt
  | .int n => if okI n = true then some (.tuple (rgD n)) else none
  | _ => none
def dLstRg : Dt → Option Dt
  | .int n => if okI n = true then some (.list (rgD n)) else none
  | _ => none
theorem rp_map {K : PySem.W.Frag} {O : Addr → Prop} {H : Hp} {α : Type} (v : α → V) (d : α → Dt) : ∀ l : List α, (∀ x ∈ l, Rp K O H (v x) (d x)) → RpAll K O H (l.map v) (l.map d)
  | [], _ => .nil
  | x :: l, h => .cons (h x List.mem_cons_self) (rp_map v d l fun y hy => h y (List.mem_cons_of_mem _ hy))
theorem rp_rg {K : PySem.W.Frag} {O : Addr → Prop} {H : Hp} (n : Int) : RpAll K O H (rgV 0 n) (rgD n) := by
  unfold rgV rgD
  rw [Int.sub_zero]
  refine rp_map _ _ _ fun i _ => ?_
  rw [Int.zero_add]
  exact .int _
def tTupRgF (te : L2.St → Hp → (Int → Int → Hp → Prop) → Prop) : TE := fun σ H Q => te σ H fun a b H1 => RgOk a b ∧ ∀ q o, H1 q = none → o.dict = none → Q (.ref q) (upd H1 q (.frz o (.tup (rgV a b))))
theorem pe_tupRgF {X : Cx} {e : Expr} {te : L2.St → Hp → (Int → Int → Hp → Prop) → Prop} {p pos : Pos} (hc : X.calm = true) (hg : Gl X "tuple") (hm : X.mg "tuple" = none) (he : PRg X e te) (na : starEach [e] X.env = (false, eval e X.env) :: starEach [] X.env := by rfl) : PE X (.Call (.Name "tuple" p) [e] [] pos) (tTupRgF te) := by
  refine ⟨fun pins s σ H Q I h => ?_⟩
  refine Call_ (ld_blt I hg hm boot_tuple (PyProof.Rows.callWith_type1 (args_cons (thn (he pins s σ H _ I h) fun x s1 ⟨r, a, b, t, u, v, H1, ex, hr, I1, ok, q⟩ => args_nil ?_) na) na))
  subst ex
  obtain ⟨b1, b2, b3, b4, b5⟩ := ok
  refine call_tuple_range (n := (b - a).toNat) (I1.ok.hd hc) hr (small_one b1 b2 b3 b4) (rangeSize_nat a b) b5 fun h' tk acc hk hi => ?_
  have I2 : Inv X pins σ H1 { s1 with heap := h', toks := tk } := I1.kept hk
  have hl := layT I2 (vals_rg hi) (by rw [rgV_length, sizeLine_eq]; omega) tk
  rw [Array.toArray_toList] at hl
  exact ⟨.ref h'.objs.size, _, hl, rfl, q _ _ (I2.hok.fresh (Nat.le_refl _)) rfl⟩
theorem se_tupRg (B : Bi G) (ha : SE G N sc fn k a f) (hg : GL sc "tuple" := by rfl) (hg2 : GL sc "range" := by rfl) (ns : NS a := by intro _ _; rfl) : SE G N sc fn k (.Call (.Name "tuple" p) [.Call (.Name "range" p2) [a] [] pos] [] pos) (eUn dTupRg f) := fun X C W tk b' =>
  PE.imp (pe_tupRgF C.calm (C.gl hg) (by rw [C.hmg]; exact B.tuple) (prg_1 (C.gl hg2) (by rw [C.hmg]; exact B.range) (ha X C W tk true) (ns [] X.env))) fun σ H Q h => by
    obtain ⟨ρ, ow, rs, he, gd, post⟩ := h
    refine tE.go gd he (fun n pl e => by subst e; exact post) fun d hd1 v H1 s1 r1 => ?_
    unfold dTupRg at hd1
    split at hd1
    · split at hd1
      · rename_i n hn
        rw [okI_iff] at hn
        cases hd1
        exact ⟨n, r1.int, ⟨by omega, by omega, by omega, by omega, by omega⟩, fun q o hq ho => post _ _ (s1.trans (Same.upd hq)) (.inl (.tup ⟨o, upd_same, ho⟩ (rp_rg n)))⟩
      · cases hd1
    · cases hd1
theorem se_lstRg (B : Bi G) (ha : SE G N sc fn k a f) (hg : GL sc "list" := by rfl) (hg2 : GL sc "range" := by rfl) (ns : NS a := by intro _ _; rfl) {q1 : Pos} : SE G N sc fn k (.Call (.Name "list" p) [.Call (.Name "range" p2) [a] [] q1] [] pos) (eUn dLstRg f) := fun X C W tk b' =>
  PE.imp (pe_listRg C.calm (C.gl hg) (by rw [C.hmg]; exact B.list) (prg_1 (C.gl hg2) (by rw [C.hmg]; exact B.range) (ha X C W tk true) (ns [] X.env))) fun σ H Q h => by
    obtain ⟨ρ, ow, rs, he, gd, post⟩ := h
    refine tE.go gd he (fun n pl e => by subst e; exact post) fun d hd1 v H1 s1 r1 => ?_
    unfold dLstRg at hd1
    split at hd1
    · split at hd1
      · rename_i n hn
        rw [okI_iff] at hn
        cases hd1
        exact ⟨n, r1.int, ⟨by omega, by omega, by omega, by omega, by omega⟩, fun q hq => post _ _ (s1.trans (Same.upd hq)) (.inl (.lst upd_same ((gd.ok.same s1).new hq) (rp_rg n)))⟩
      · cases hd1
    · cases hd1
/-! isinstance(x, T) -/
def tyN : Dt → String
  | .none => "NoneType"
  | .bool _ => "bool"
  | .int _ => "int"
  | .str _ => "str"
  | .list _ => "list"
  | .tuple _ => "tuple"
  | .dict _ => "list"
def dIsi (T : String) (d : Dt) : Bool := tyN d == T || (T == "int" && tyN d == "bool")
def eIsi (T : String) (f : EF) : EF := fun _ ρ => bnd (f true ρ) fun x => some (.val (.bool (dIsi T x)))
theorem RpB.ty {b : Bool} {K : PySem.W.Frag} {ow : Ow} {H : Hp} {v : V} {d : Dt} (h : RpB b K ow H v d) : TyX K H v (.type (tyN d)) := by
  cases d with
  | none => rw [h.none]; exact .base .non
  | bool b => rw [h.bool]; exact .base (.bl b)
  | int b => rw [h.int]; exact .base (.int b)
  | str b => rw [h.str]; exact .base (.str b)
  | list b => obtain ⟨a, vs, rfl, h1, _⟩ := h.list; exact .base (.lst h1)
  | tuple b => obtain ⟨a, vs, rfl, ⟨o, h1, _⟩, _⟩ := h.tuple; exact .fTuple h1
  | dict b =>
    obtain ⟨a, ns, rfl, _, h1⟩ := h.script
    rcases h1 with ⟨o, h1⟩ | ⟨o, its, n, h1, h2, _⟩
    · exact .base (.frz h1)
    · exact .kList h1 h2
def KitOk (T : String) : Prop := ∀ (K : PySem.W.Frag) (d : Dt), PySem.W.kitOne K (.type (tyN d)) (.type T) = some (dIsi T d)
theorem se_isi {T : String} {x : Str} (B : Bi G) (hk : KitOk T) (ha : SE G N sc fn k a f) (hm : G.mg x = none) (hv : bootBuiltins x = some (.type T)) (hg : GL sc "isinstance" := by rfl) (hg2 : GL sc x := by rfl)
    (hn : x ≠ "__name__" := by decide) (hdb : (x == ("__debug__" : Str)) = false := by decide) (ns : NS a := by intro _ _; rfl) : SE G N sc fn k (.Call (.Name "isinstance" p) [a, .Name x p2] [] pos) (eIsi T f) := fun X C W tk b' =>
  PE.imp (pe_callB call_isi (C.gl hg) (by rw [C.hmg]; exact B.isinstance) boot_isinstance (pa_cons (ha X C W tk true) (pa_cons (pe_bltn (v := .ty T) (C.gl hg2) (by rw [C.hmg]; exact hm) hv rfl hn hdb) pa_nil) (ns _ X.env)) (by decide) (by decide) (ns _ X.env) rfl) fun σ H Q h => by
    obtain ⟨ρ, ow, rs, he, gd, post⟩ := h
    refine tE.go gd he (fun n pl e => by subst e; exact post) fun d hd1 v H1 s1 r1 => ?_
    cases hd1
    exact ⟨v, .ty T, _, _, _, rfl, .ty T, r1.ty, hk X.K d, post _ H1 s1 (.inl (.bl _))⟩
/-! int(flag), int(n), str(n), max(m, n) -/
def dInt : Dt → Option Dt
  | .int i => some (.int i)
  | .bool b => some (.int (if b then 1 else 0))
  | _ => none
theorem cd_int (K : PySem.W.Frag) : CD1 K (fun xs H Q => (∃ i, xs = [.int i] ∧ Q (.int i) H) ∨ ∃ k, xs = [.bl k] ∧ Q (.int (if k then 1 else 0)) H) dInt := by
  intro x H Q ow dx dz ok rx e post
  unfold dInt at e
  split at e
  · cases e
    obtain rfl := rx.int
    exact .inl ⟨_, rfl, post _ H (Same.refl H) (.int _)⟩
  · cases e
    obtain rfl := rx.bool
    exact .inr ⟨_, rfl, post _ H (Same.refl H) (.int _)⟩
  · cases e
theorem se_intC (B : Bi G) (ha : SE G N sc fn k a f) (hg : GL sc "int" := by rfl) (ns : NS a := by intro _ _; rfl) : SE G N sc fn k (.Call (.Name "int" p) [a] [] pos) (eUn dInt f) :=
  se_t1 (r := fun K xs H Q => (∃ i, xs = [.int i] ∧ Q (.int i) H) ∨ ∃ k, xs = [.bl k] ∧ Q (.int (if k then 1 else 0)) H) (fun X _ => call_int1) cd_int B.int PyProof.Rows.boot_int ha hg (by decide) (by decide) ns
def dStr : Dt → Option Dt
  | .int i => if i.natAbs.log2 < 1920 then some (.str (toString i)) else none
  | _ => none
theorem cd_str (K : PySem.W.Frag) : CD1 K (fun xs H Q => ∃ i, xs = [.int i] ∧ i.natAbs.log2 < 1920 ∧ Q (.str (toString i)) H) dStr := by
  intro x H Q ow dx dz ok rx e post
  unfold dStr at e
  split at e
  · split at e
    · rename_i hz
      cases e
      obtain rfl := rx.int
      exact ⟨_, rfl, hz, post _ H (Same.refl H) (.str _)⟩
    · cases e
  · cases e
theorem se_strC (B : Bi G) (ha : SE G N sc fn k a f) (hg : GL sc "str" := by rfl) (ns : NS a := by intro _ _; rfl) : SE G N sc fn k (.Call (.Name "str" p) [a] [] pos) (eUn dStr f) :=
  se_t1 (r := fun K xs H Q => ∃ i, xs = [.int i] ∧ i.natAbs.log2 < 1920 ∧ Q (.str (toString i)) H) (fun X _ => call_str_int) cd_str B.str PyProof.Rows.boot_str ha hg (by decide) (by decide) ns
def dMax2 : Dt → Dt → Option Dt
  | .int i, .int j => some (.int (if j > i then j else i))
  | _, _ => none
theorem se_max2 (B : Bi G) (ha : SE G N sc fn k a f) (hb : SE G N sc fn k b g) (hg : GL sc "max" := by rfl) (ns : NS a := by intro _ _; rfl) (ns2 : NS b := by intro _ _; rfl) : SE G N sc fn k (.Call (.Name "max" p) [a, b] [] pos) (eBin dMax2 f g) := fun X C W tk b' =>
  PE.imp (pe_callB (call_max2 C.calm) (C.gl hg) (by rw [C.hmg]; exact B.max) boot_max (pa_cons (ha X C W tk true) (pa_cons (hb X C W tk true) pa_nil (ns2 _ X.env)) (ns _ X.env)) (by decide) (by decide) (ns _ X.env) (noStar _ _ _ fun e he => by rw [List.mem_singleton.mp he]; exact ns2)) fun σ H Q h => by
    obtain ⟨ρ, ow, rs, he, gd, post⟩ := h
    refine tE.go gd he (fun n pl e => by subst e; exact post) fun d hd1 v H1 s1 r1 => ?_
    refine tE.go (gd.same s1) hd1 (fun n pl e => by subst e; exact post.same s1) fun d2 hd2 v2 H2 s2 r2 => ?_
    unfold dMax2 at hd2
    split at hd2
    · cases hd2
      obtain rfl := r1.int
      obtain rfl := r2.int
      exact ⟨_, _, rfl, post _ H2 (s1.trans s2) (.inl (.int _))⟩
    · cases hd2

/-! ## calls of own defs -/
def spF (K : PySem.W.Frag) (mg : Str → Option Value) (n : Nat) (F : List Dt → Option Rs) : Sp := fun vs H Q E =>
  vs.length = n ∧ ∃ (O : Addr → Prop) (ds : List Dt) (r : Rs), (∀ a, O a → H a ≠ none) ∧ RpAll K O H vs ds ∧ F ds = some r ∧ match r with
    | .val d => ∀ v H', Same H H' → Rp K O H' v d → Q v H'
    | .exc n pl => ∀ cls d H', mg n = some cls → Same H H' → PayOk K H' d pl → E cls d H'
/-- the def of that name computes F, at level j -/
def FnIs (G : Gc) (x : Str) (j n : Nat) (F : List Dt → Option Rs) : Prop :=
  ∃ f fd ps, G.mg x = some (.ref f) ∧ PySem.W.keepIn G.K (.ref f) = true ∧ Binds G.K fd ps [] ∧ ps.length = n ∧ FnOk G.P G.w G.K G.mg G.base (L2.CX G.P G.w) j f fd ps (spF G.K G.mg n F)
def eFn (n : Nat) (F : List Dt → Option Rs) (g : AF) : EF := fun _ ρ => bndA (g ρ) fun ds => if ds.length = n then F ds else none
theorem se_fn {x : Str} {j n : Nat} {F : List Dt → Option Rs} (hF : FnIs G x j n F) (hr : SAs G N sc fn k (a :: es) ar) (hj : j ≤ k := by decide) (hg : GL sc x := by rfl) (hdb : (x == ("__debug__" : Str)) = false := by decide) :
    SE G N sc fn k (.Call (.Name x p) (a :: es) [] pos) (eFn n F ar) := fun X C W tk b' => by
  obtain ⟨f, fd, ps, hm, hkp, hb, hl, hok⟩ := hF
  rw [← C.hP, ← C.hw, ← C.hK, ← C.hmg, ← C.hb] at hok
  rw [← C.hK] at hkp hb
  rw [← C.hmg] at hm
  have na := hr.ns a List.mem_cons_self
  refine PE.imp (pe_callS (E := WE W) hok (C.room.mono hj) (C.gl hg) hm hkp hb (fun σ => passAt tk σ) (hr.pa X C W tk) hdb (na es X.env) (noStar _ _ _ fun e he => hr.ns e (List.mem_cons_of_mem _ he))) fun σ H Q h => ?_
  obtain ⟨ρ, ow, rs, he, gd, post⟩ := h
  refine tA.go gd he (fun n pl e => by subst e; exact post) fun ds hd vs H1 s1 r1 => ?_
  split at hd
  · rename_i hn
    refine ⟨by rw [r1.length]; exact hn, OA ow, ds, rs, fun q hq => ?_, r1, hd, ?_⟩
    · have ok := gd.ok.same s1
      rcases hq with ⟨i, hi⟩ | hq
      · obtain ⟨ys, hy⟩ := ok.lst i q hi
        rw [hy]; exact fun z => nomatch z
      · exact ok.ext q hq
    · cases rs with
      | val d => exact fun v H' s' r' => post v H' (s1.trans s') (.inl r')
      | exc n pl => exact fun cls d H' hc s' pk => post cls d H' hc (s1.trans s') pk
  · cases hd
end
end PT

namespace PT
open PySem PySem.Spec PyProof.Rows L2

/-! ## slots cleared, slots set -/
def clr (ρ : En) : List Nat → En
  | [] => ρ
  | v :: vs => (clr ρ vs).set v none
theorem clr_length (ρ : En) : ∀ vs : List Nat, (clr ρ vs).length = ρ.length
  | [] => rfl
  | v :: vs => by unfold clr; rw [List.length_set, clr_length ρ vs]
theorem clr_some {ρ : En} {i : Nat} {x : SV} : ∀ {vs : List Nat}, (clr ρ vs)[i]? = some (some x) → ρ[i]? = some (some x) ∧ i ∉ vs
  | [], h => ⟨h, by simp⟩
  | v :: vs, h => by
    unfold clr at h
    by_cases hi : v = i
    · subst hi
      by_cases hv : v < (clr ρ vs).length
      · rw [List.getElem?_set_self hv] at h; cases h
      · rw [List.getElem?_eq_none (by simpa using hv)] at h; cases h
    · rw [List.getElem?_set_ne hi] at h
      obtain ⟨h1, h2⟩ := clr_some h
      exact ⟨h1, by simp only [List.mem_cons, not_or]; exact ⟨fun e => hi e.symm, h2⟩⟩
theorem clr_ne {ρ : En} {i : Nat} : ∀ {vs : List Nat}, i ∉ vs → (clr ρ vs)[i]? = ρ[i]?
  | [], _ => rfl
  | v :: vs, h => by
    simp only [List.mem_cons, not_or] at h
    unfold clr
    rw [List.getElem?_set_ne (fun e => h.1 e.symm)]
    exact clr_ne h.2
theorem wipe_ne {σ : L2.St} {i : Nat} : ∀ {vs : List Nat}, i ∉ vs → (wipe σ vs)[i]? = σ[i]?
  | [], _ => rfl
  | v :: vs, h => by
    simp only [List.mem_cons, not_or] at h
    unfold wipe
    rw [List.getElem?_set_ne (fun e => h.1 e.symm)]
    exact wipe_ne h.2
theorem wipe_at {σ : L2.St} {i : Nat} : ∀ {vs : List Nat}, i ∈ vs → i < σ.length → (wipe σ vs)[i]? = some none
  | v :: vs, h, hl => by
    unfold wipe
    by_cases e : v = i
    · subst e
      exact List.getElem?_set_self (by rw [wipe_length]; exact hl)
    · rw [List.getElem?_set_ne e]
      exact wipe_at ((List.mem_cons.mp h).elim (fun z => absurd z.symm e) id) hl
theorem wipe_eq {σ σ' : L2.St} {vs : List Nat} (hl : σ'.length = σ.length) (h : ∀ j, j ∉ vs → σ'[j]? = σ[j]?) : wipe σ' vs = wipe σ vs := by
  apply List.ext_getElem?
  intro i
  by_cases hi : i ∈ vs
  · by_cases hlt : i < σ.length
    · rw [wipe_at hi hlt, wipe_at hi (by omega)]
    · rw [List.getElem?_eq_none (by rw [wipe_length]; omega), List.getElem?_eq_none (by rw [wipe_length]; omega)]
  · rw [wipe_ne hi, wipe_ne hi, h i hi]
def Ow.clr (ow : Ow) (sl : List Nat) : Ow := { ow with f := fun i => if i ∈ sl then none else ow.f i }
theorem Ow.clr_some {ow : Ow} {sl : List Nat} {i : Nat} {a : Addr} (h : (ow.clr sl).f i = some a) : ow.f i = some a ∧ i ∉ sl := by
  have h : (if i ∈ sl then none else ow.f i) = some a := h
  split at h
  · cases h
  · rename_i hn; exact ⟨h, hn⟩
theorem Ow.clr_stp (ow : Ow) (sl : List Nat) (H : Hp) : Stp ow H (ow.clr sl) H := ⟨(Stp.refl ow H).kp, fun a ⟨i, hi⟩ => .inl ⟨i, (Ow.clr_some hi).1⟩, rfl⟩
theorem Ow.clr_none {ow : Ow} {sl : List Nat} : ∀ j ∈ sl, (ow.clr sl).f j = none := fun j hj => by
  show (if j ∈ sl then none else ow.f j) = none
  rw [if_pos hj]
section
variable {K : PySem.W.Frag} {ow : Ow} {ρ : En} {σ : L2.St} {H : Hp}
theorem SlotOk.stp {ow' : Ow} {H' : Hp} {i : Nat} {v : V} {s : SV} (ok : OkO ow H) (st : Stp ow H ow' H') (he : ∀ xs, s = .own xs → ow'.f i = ow.f i) (hk : ∀ a, ow.f i = some a → ∀ o, H a = some o → H' a = some o) (h : SlotOk K ow i H v s) : SlotOk K ow' i H' v s := by
  cases s with
  | sh d => exact Rp.stp ok st h
  | own xs =>
    obtain ⟨a, vs, h1, h2, h3, h4⟩ := h
    exact ⟨a, vs, h1, by rw [he xs rfl]; exact h2, hk a h2 _ h3, RpAll.stp ok st h4⟩
theorem Good.clr (g : Good K ow ρ σ H) (sl : List Nat) : Good K (ow.clr sl) (PT.clr ρ sl) σ H := by
  refine ⟨by rw [clr_length]; exact g.len, fun i j a h1 h2 => g.inj i j a (Ow.clr_some h1).1 (Ow.clr_some h2).1, ⟨fun i a h => g.ok.lst i a (Ow.clr_some h).1, g.ok.ext⟩, fun i a h => g.disj i a (Ow.clr_some h).1, fun i s h => ?_, fun i a h => ?_⟩
  · obtain ⟨h1, h2⟩ := clr_some h
    obtain ⟨v, hv, q⟩ := g.slot i s h1
    exact ⟨v, hv, q.stp g.ok (Ow.clr_stp ow sl H) (fun _ _ => by show (if i ∈ sl then none else ow.f i) = _; rw [if_neg h2]) fun _ _ _ e => e⟩
  · obtain ⟨h1, h2⟩ := Ow.clr_some h
    rw [clr_ne h2]
    exact g.has i a h1
/-- within a comprehension's block -/
theorem Good.blk {vs : List Nat} (g : Good K ow ρ σ H) (hn : ∀ j ∈ vs, ow.f j = none) : Good K ow (PT.clr ρ vs) (wipe σ vs) H := by
  refine ⟨by rw [clr_length, wipe_length]; exact g.len, g.inj, g.ok, g.disj, fun i s h => ?_, fun i a h => ?_⟩
  · obtain ⟨h1, h2⟩ := clr_some h
    obtain ⟨v, hv, q⟩ := g.slot i s h1
    exact ⟨v, by rw [wipe_ne h2]; exact hv, q⟩
  · have h2 : i ∉ vs := fun z => by rw [hn i z] at h; cases h
    rw [clr_ne h2]
    exact g.has i a h
def noOwn (ρ : En) (sl : List Nat) : Bool := sl.all fun i => match ρ[i]? with
  | some (some (.own _)) => false
  | _ => true
theorem noOwn_of {sl : List Nat} (g : Good K ow ρ σ H) (h : noOwn ρ sl = true) : ∀ j ∈ sl, ow.f j = none := fun j hj => by
  cases e : ow.f j with
  | none => rfl
  | some a =>
    obtain ⟨xs, hx⟩ := g.has j a e
    have := List.all_eq_true.mp h j hj
    rw [hx] at this
    cases this
theorem Good.set {i : Nat} {v : V} {d : Dt} (g : Good K ow ρ σ H) (hn : ow.f i = none) (r : Rp K (OA ow) H v d) : Good K ow (ρ.set i (some (.sh d))) (σ.set i (some v)) H := by
  refine ⟨by rw [List.length_set, List.length_set]; exact g.len, g.inj, g.ok, g.disj, fun j s h => ?_, fun j a h => ?_⟩
  · by_cases hj : i = j
    · subst hj
      by_cases hi : i < ρ.length
      · rw [List.getElem?_set_self hi] at h
        cases h
        exact ⟨v, List.getElem?_set_self (by rw [← g.len]; exact hi), r⟩
      · rw [List.getElem?_eq_none (by simpa using hi)] at h; cases h
    · rw [List.getElem?_set_ne hj] at h
      rw [List.getElem?_set_ne hj]
      exact g.slot j s h
  · by_cases hj : i = j
    · subst hj; rw [hn] at h; cases h
    · rw [List.getElem?_set_ne hj]; exact g.has j a h
end

/-! ## targets -/
abbrev GF := Dt → En → Option En
/-- what an iterable hands out: data, or a pair made for the turn alone -/
inductive Shp where
  | d
  | p (s t : Shp)
def RpS (K : PySem.W.Frag) (O : Addr → Prop) (H : Hp) : Shp → V → Dt → Prop
  | .d, v, d => Rp K O H v d
  | .p s t, v, d => ∃ a x y dx dy, v = .ref a ∧ H a = some (.tup [x, y]) ∧ d = .tuple [dx, dy] ∧ RpS K O H s x dx ∧ RpS K O H t y dy
theorem RpS.stp {K : PySem.W.Frag} {ow ow' : Ow} {H H' : Hp} (ok : OkO ow H) (s : Stp ow H ow' H') : ∀ {sh : Shp} {v : V} {d : Dt}, RpS K (OA ow) H sh v d → RpS K (OA ow') H' sh v d
  | .d, _, _, h => Rp.stp ok s h
  | .p _ _, _, _, ⟨a, x, y, dx, dy, e1, h, e2, r1, r2⟩ => ⟨a, x, y, dx, dy, e1, s.kp.keep _ _ h (ok.not h fun _ z => by cases z), e2, RpS.stp ok s r1, RpS.stp ok s r2⟩
def tG (sh : Shp) (K : PySem.W.Frag) (sl : List Nat) (f : GF) : TG := fun v σ H Q => ∃ ρ ow d ρ', (∀ j ∈ sl, ow.f j = none) ∧ f d ρ = some ρ' ∧ Good K ow ρ σ H ∧ RpS K (OA ow) H sh v d ∧
  ∀ σ', Good K ow ρ' σ' H → σ'.length = σ.length → (∀ j, j ∉ sl → σ'[j]? = σ[j]?) → Q σ' H
theorem PG.imp {X : Cx} {e : Expr} {t t' : TG} (h : PG X e t) (i : ∀ v σ H Q, t' v σ H Q → t v σ H Q) : PG X e t' := ⟨fun pins s σ H v u Q I r q => h.run pins s σ H v u Q I r (i v σ H Q q)⟩
def SG (G : Gc) (N : List Str) (sc : Scope) (fn : Str → Bool) (k : Nat) (sh : Shp) (e : Expr) (sl : List Nat) (f : GF) : Prop := ∀ X, Ctx G N sc fn k X → PG X e (tG sh X.K sl f)
def gNm (i : Nat) : GF := fun d ρ => some (ρ.set i (some (.sh d)))
def gPr (f g : GF) : GF := fun d ρ => match d with
  | .tuple [x, y] => (f x ρ).bind (g y)
  | _ => none
section
variable {G : Gc} {N : List Str} {sc : Scope} {fn : Str → Bool} {k : Nat} {pos p p2 : Pos}
theorem sg_nm (i : Nat) {x : Str} (hi : N[i]? = some x := by rfl) (hx : Loc sc x := by first | exact Or.inl rfl | exact Or.inr rfl) (hf : fn x = true ∨ sc.names.lookup x = some .local := by first | exact .inl rfl | exact .inr rfl) : SG G N sc fn k .d (.Name x pos) [i] (gNm i) := fun X C =>
  PG.imp (pg_name (by rw [C.hN]; exact C.nd) (by rw [C.hN]; exact hi) (by rw [C.hsc]; exact hx) (by rw [C.hfn, C.hsc]; exact hf)) fun v σ H Q h => by
    obtain ⟨ρ, ow, d, ρ', hn, he, gd, r, post⟩ := h
    cases he
    refine post _ (gd.set (hn i List.mem_cons_self) r) (List.length_set ..) fun j hj => ?_
    exact List.getElem?_set_ne fun e => hj (by rw [e]; exact List.mem_cons_self)
theorem sg_pr {e1 e2 : Expr} {kk : Nat} {sl1 sl2 : List Nat} {f g : GF} (h1 : SG G N sc fn k .d e1 sl1 f) (h2 : SG G N sc fn k .d e2 sl2 g)
    (hn : ∀ env, (assignEach [e1, e2] env).length = 2 := by intro _; rfl) (hst : ∀ env, (assignEach [e1, e2] env).findIdx? (·.1) = none := by intro _; rfl)
    (hs : ∀ env, (assignEach (e1 :: [e2]) env).map (·.2) = assign e1 env :: (assignEach [e2] env).map (·.2) := by intro _; rfl) (hs2 : ∀ env, (assignEach (e2 :: []) env).map (·.2) = assign e2 env :: (assignEach [] env).map (·.2) := by intro _; rfl) :
    SG G N sc fn k .d (.Tuple [e1, e2] kk pos) (sl1 ++ sl2) (gPr f g) := fun X C =>
  PG.imp (pg_tup (n := 2) C.calm (pgs_cons (h1 X C) (pgs_cons (h2 X C) pgs_nil (hs2 X.env)) (hs X.env)) (hn X.env) (hst X.env)) fun v σ H Q h => by
    obtain ⟨ρ, ow, d, ρ', hn, he, gd, r, post⟩ := h
    unfold gPr at he
    split at he
    · rename_i x y
      have r : Rp X.K (OA ow) H v (.tuple [x, y]) := r
      cases r with
      | tup ha ra =>
        cases ra with
        | cons rx rr =>
          cases rr with
          | cons ry rn =>
            cases rn
            rename_i a vx vy
            cases h1 : f x ρ with
            | none => rw [h1] at he; cases he
            | some ρ1 =>
              rw [h1] at he
              refine ⟨a, [vx, vy], rfl, ha.sq, rfl, vx, [vy], rfl, ρ, ow, x, ρ1, fun j hj => hn j (List.mem_append_left _ hj), h1, gd, rx, fun σ1 g1 l1 a1 => ?_⟩
              refine ⟨vy, [], rfl, ρ1, ow, y, ρ', fun j hj => hn j (List.mem_append_right _ hj), he, g1, ry, fun σ2 g2 l2 a2 => ⟨rfl, ?_⟩⟩
              refine post σ2 g2 (l2.trans l1) fun j hj => ?_
              rw [List.mem_append, not_or] at hj
              rw [a2 j hj.2, a1 j hj.1]
    · cases he
end

section
variable {G : Gc} {N : List Str} {sc : Scope} {fn : Str → Bool} {k : Nat} {pos p p2 : Pos}
theorem sg_prR {e1 e2 : Expr} {kk : Nat} {sl1 sl2 : List Nat} {f g : GF} {s1 s2 : Shp} (h1 : SG G N sc fn k s1 e1 sl1 f) (h2 : SG G N sc fn k s2 e2 sl2 g)
    (hn : ∀ env, (assignEach [e1, e2] env).length = 2 := by intro _; rfl) (hst : ∀ env, (assignEach [e1, e2] env).findIdx? (·.1) = none := by intro _; rfl)
    (hs : ∀ env, (assignEach (e1 :: [e2]) env).map (·.2) = assign e1 env :: (assignEach [e2] env).map (·.2) := by intro _; rfl) (hs2 : ∀ env, (assignEach (e2 :: []) env).map (·.2) = assign e2 env :: (assignEach [] env).map (·.2) := by intro _; rfl) :
    SG G N sc fn k (.p s1 s2) (.Tuple [e1, e2] kk pos) (sl1 ++ sl2) (gPr f g) := fun X C =>
  PG.imp (pg_tup (n := 2) C.calm (pgs_cons (h1 X C) (pgs_cons (h2 X C) pgs_nil (hs2 X.env)) (hs X.env)) (hn X.env) (hst X.env)) fun v σ H Q h => by
    obtain ⟨ρ, ow, d, ρ', hn, he, gd, r, post⟩ := h
    obtain ⟨a, vx, vy, x, y, rfl, ha, rfl, rx, ry⟩ := r
    have he : (f x ρ).bind (g y) = some ρ' := he
    cases h1 : f x ρ with
    | none => rw [h1] at he; cases he
    | some ρ1 =>
      rw [h1] at he
      refine ⟨a, [vx, vy], rfl, SqT.of ha, rfl, vx, [vy], rfl, ρ, ow, x, ρ1, fun j hj => hn j (List.mem_append_left _ hj), h1, gd, rx, fun σ1 g1 l1 a1 => ?_⟩
      refine ⟨vy, [], rfl, ρ1, ow, y, ρ', fun j hj => hn j (List.mem_append_right _ hj), he, g1, ry, fun σ2 g2 l2 a2 => ⟨rfl, ?_⟩⟩
      refine post σ2 g2 (l2.trans l1) fun j hj => ?_
      rw [List.mem_append, not_or] at hj
      rw [a2 j hj.2, a1 j hj.1]
end

/-! ## what is walked -/
inductive Irs where
  | it (xs : List Dt)
  | exc (n : Str) (pl : Option Dt)
abbrev IF := Bool → En → Option Irs
/-- a new address is owned by those around -/
def Ow.addx (ow : Ow) (D : Addr) : Ow := { ow with x := fun a => ow.x a ∨ a = D }
def RelT (ow : Ow) (H : Hp) (ow1 : Ow) (H1 : Hp) : Prop := ow1.f = ow.f ∧ (∀ a, ow1.x a → ow.x a ∨ H a = none) ∧ Same H H1
def Rel (b : Bool) (ow : Ow) (H : Hp) (ow1 : Ow) (H1 : Hp) : Prop := if b = true then RelT ow H ow1 H1 else Stp ow H ow1 H1
theorem RelT.notOA {ow ow1 : Ow} {H H1 : Hp} (r : RelT ow H ow1 H1) : ∀ a o, H a = some o → ¬ OA ow a → ¬ OA ow1 a := fun a o h n q => by
  rcases q with ⟨i, hi⟩ | q
  · exact n (.inl ⟨i, by rw [← r.1]; exact hi⟩)
  · exact (r.2.1 a q).elim (fun z => n (.inr z)) fun z => by rw [z] at h; cases h
theorem Rel.rp {b : Bool} {K : PySem.W.Frag} {ow ow1 : Ow} {H H1 : Hp} {v : V} {d : Dt} (ok : OkO ow H) (h : Rel b ow H ow1 H1) (r : Rp K (OA ow) H v d) : Rp K (OA ow1) H1 v d := by
  cases b with
  | true => have h : RelT ow H ow1 H1 := h; exact Rp.same h.2.2 (Rp.fresh h.notOA r)
  | false => exact Rp.stp ok h r
/-- what does not reach D, without D -/
def dropH (H : Hp) (D : Addr) : Hp := fun b => if b = D then none else H b
theorem dropH_ne {H : Hp} {D b : Addr} (h : b ≠ D) : dropH H D b = H b := by unfold dropH; rw [if_neg h]
mutual
theorem Rp.drp {K : PySem.W.Frag} {O : Addr → Prop} {H : Hp} {D : Addr} {xs : List V} (hD : H D = some (.lst xs)) (hO : O D) : ∀ {v : V} {d : Dt}, Rp K O H v d → Rp K O (dropH H D) v d
  | _, _, .non => .non
  | _, _, .bl b => .bl b
  | _, _, .int i => .int i
  | _, _, .str x => .str x
  | _, _, .lst h q r => .lst (by rw [dropH_ne (fun e => q (by rw [e]; exact hO))]; exact h) q (RpAll.drp hD hO r)
  | _, _, .tup ⟨o, h, hd⟩ r => .tup ⟨o, by rw [dropH_ne (ne_of h hD (by intro z; cases z))]; exact h, hd⟩ (RpAll.drp hD hO r)
  | _, _, .scr h => .scr (h.imp fun _ _ h => by rw [dropH_ne (ne_of h hD (by intro z; cases z))]; exact h)
theorem RpAll.drp {K : PySem.W.Frag} {O : Addr → Prop} {H : Hp} {D : Addr} {xs : List V} (hD : H D = some (.lst xs)) (hO : O D) : ∀ {vs : List V} {ds : List Dt}, RpAll K O H vs ds → RpAll K O (dropH H D) vs ds
  | _, _, .nil => .nil
  | _, _, .cons a r => .cons (Rp.drp hD hO a) (RpAll.drp hD hO r)
end
theorem OA.addx {ow : Ow} {D a : Addr} (h : OA ow a) : OA (ow.addx D) a := h.elim (fun z => .inl z) fun z => .inr (.inl z)
theorem notOA_addx {ow : Ow} {D a : Addr} (h : ¬ OA ow a) (hn : a ≠ D) : ¬ OA (ow.addx D) a := fun q => by
  rcases q with q | q | q
  · exact h (.inl q)
  · exact h (.inr q)
  · exact hn q
theorem Good.addx {K : PySem.W.Frag} {ow : Ow} {ρ : En} {σ : L2.St} {H1 H : Hp} {D : Addr} {o : HO} (g : Good K ow ρ σ H1) (hD : H1 D = none) (s : Same H1 H) (hH : H D = some o) : Good K (ow.addx D) ρ σ H := by
  have nn : ∀ a u, H1 a = some u → ¬ OA ow a → ¬ OA (ow.addx D) a := fun a u h n => notOA_addx n (ne_of_none h hD)
  refine ⟨g.len, g.inj, ⟨(g.ok.same s).lst, fun a q => ?_⟩, fun i a h q => ?_, fun i sv h => ?_, g.has⟩
  · rcases q with q | q
    · exact (g.ok.same s).ext a q
    · rw [q, hH]; exact fun z => nomatch z
  · rcases q with q | q
    · exact g.disj i a h q
    · obtain ⟨ys, hy⟩ := g.ok.lst i a h
      exact ne_of_none hy hD q
  · obtain ⟨v, hv, q⟩ := g.slot i sv h
    refine ⟨v, hv, ?_⟩
    cases sv with
    | sh d => exact Rp.same s (Rp.fresh nn q)
    | own xs =>
      obtain ⟨a, vs, h1, h2, h3, h4⟩ := q
      exact ⟨a, vs, h1, h2, s _ _ h3, RpAll.same s (RpAll.fresh nn h4)⟩
structure WD1 (sh : Shp) (K : PySem.W.Frag) (ow1 : Ow) (H1 : Hp) (J : It) (xs : List Dt) : Prop where
  go : ∀ i, i < xs.length → J.go i H1
  stop : J.stop xs.length H1
  yld : ∀ i x H2, i < xs.length → J.yld i H1 x H2 → Same H1 H2 ∧ ∃ d, xs[i]? = some d ∧ RpS K (OA ow1) H2 sh x d
def WD (sh : Shp) (b : Bool) (K : PySem.W.Frag) (ow : Ow) (H : Hp) (J : It) (xs : List Dt) : Prop := ∀ ow1 H1, Rel b ow H ow1 H1 → OkO ow1 H1 → WD1 sh K ow1 H1 J xs
def tI (sh : Shp) (K : PySem.W.Frag) (mg : Str → Option Value) (W : WX) (b : Bool) (f : IF) : TI := fun σ H R => ∃ ρ ow r, f b ρ = some r ∧ Good K ow ρ σ H ∧ match r with
  | .it xs => ∀ J H', Same H H' → WD sh b K ow H' J xs → R J H'
  | .exc n pl => ExP K mg W σ H n pl
def SI (G : Gc) (N : List Str) (sc : Scope) (fn : Str → Bool) (k : Nat) (sh : Shp) (tg e : Expr) (f : IF) : Prop :=
  ∀ X, Ctx G N sc fn k X → ∀ W, Takes X W → ∀ b, PI X tg e (tI sh X.K X.mg W b f)
theorem PI.imp {X : Cx} {tg e : Expr} {t t' : TI} (h : PI X tg e t) (i : ∀ σ H R, t' σ H R → t σ H R) : PI X tg e t' := ⟨fun pins s σ H R I q => h.run pins s σ H R I (i σ H R q)⟩
def bndI (x : Option Rs) (k : Dt → Option Irs) : Option Irs :=
  match x with
  | some (.val d) => k d
  | some (.exc n pl) => some (.exc n pl)
  | none => none
theorem tE.goI {K : PySem.W.Frag} {mg : Str → Option Value} {W : WX} {b : Bool} {f : EF} {ρ : En} {ow : Ow} {σ : L2.St} {H : Hp} {Q : VK} {k : Dt → Option Irs} {r : Irs} (g : Good K ow ρ σ H)
    (e : bndI (f b ρ) k = some r)
    (hx : ∀ n pl, r = .exc n pl → ExP K mg W σ H n pl)
    (hv : ∀ d, k d = some r → ∀ v H', Same H H' → RpB b K ow H' v d → Q v H') : tE K mg W b f σ H Q := by
  cases h : f b ρ with
  | none => rw [h] at e; cases e
  | some q =>
    rw [h] at e
    cases q with
    | val d => exact ⟨ρ, ow, .val d, h, g, fun v H' s q => hv d e v H' s q⟩
    | exc n pl => exact ⟨ρ, ow, .exc n pl, h, g, hx n pl (Option.some.inj e).symm⟩
/-- a list that is read: it stands as long as nothing that is owned changes it -/
theorem RpB.list_stp {b : Bool} {K : PySem.W.Frag} {ow ow1 : Ow} {H H1 : Hp} {v : V} {ds : List Dt} (ok : OkO ow H) (h : RpB b K ow H v (.list ds)) (r : Rel b ow H ow1 H1) : RpB b K ow1 H1 v (.list ds) := by
  rcases h with h | ⟨hb, a, vs, ds', rfl, e, h3, h5, h4⟩
  · exact .inl (r.rp ok h)
  · subst hb
    have r : RelT ow H ow1 H1 := r
    exact .inr ⟨rfl, a, vs, ds', rfl, e, r.2.2 _ _ h3, fun q => (r.2.1 a q).elim h5 (fun z => by rw [z] at h3; cases h3), RpAll.same r.2.2 (RpAll.fresh r.notOA h4)⟩
theorem RpB.tup_stp {b : Bool} {K : PySem.W.Frag} {ow ow1 : Ow} {H H1 : Hp} {v : V} {ds : List Dt} (ok : OkO ow H) (h : RpB b K ow H v (.tuple ds)) (r : Rel b ow H ow1 H1) : RpB b K ow1 H1 v (.tuple ds) := by
  rcases h with h | ⟨hb, a, vs, ds', rfl, e, h3, h5, h4⟩
  · exact .inl (r.rp ok h)
  · cases e
theorem wd_list {b : Bool} {K : PySem.W.Frag} {ow : Ow} {H : Hp} {a : Addr} {xs : List Dt} (ok : OkO ow H) (h : RpB b K ow H (.ref a) (.list xs)) : WD .d b K ow H (Itl K a) xs := fun ow1 H1 r ok1 => by
  obtain ⟨a', vs, e, h1, r1⟩ := (h.list_stp ok r).list
  cases e
  refine ⟨fun i hi => ⟨vs, vs[i]'(by rw [r1.length]; exact hi), SqL.of h1, by simp [show i < vs.length by rw [r1.length]; exact hi]⟩, ⟨vs, SqL.of h1, by rw [r1.length]; exact Nat.le_refl _⟩, fun i x H2 hi y => ?_⟩
  obtain ⟨rfl, y⟩ := y
  refine ⟨Same.refl _, xs[i], by simp [hi], ?_⟩
  obtain ⟨v, hv, q⟩ := r1.get (i := i) (d := xs[i]) (by simp [hi])
  rw [y vs (SqL.of h1)] at hv
  cases hv
  exact q
theorem wd_tup {b : Bool} {K : PySem.W.Frag} {ow : Ow} {H : Hp} {a : Addr} {xs : List Dt} (ok : OkO ow H) (h : RpB b K ow H (.ref a) (.tuple xs)) : WD .d b K ow H (Itt K a) xs := fun ow1 H1 r ok1 => by
  obtain ⟨a', vs, e, h1, r1⟩ := (h.tup_stp ok r).tuple
  cases e
  refine ⟨fun i hi => ⟨vs, vs[i]'(by rw [r1.length]; exact hi), h1.sq, by simp [show i < vs.length by rw [r1.length]; exact hi]⟩, ⟨vs, h1.sq, by rw [r1.length]; exact Nat.le_refl _⟩, fun i x H2 hi y => ?_⟩
  obtain ⟨rfl, y⟩ := y
  refine ⟨Same.refl _, xs[i], by simp [hi], ?_⟩
  obtain ⟨v, hv, q⟩ := r1.get (i := i) (d := xs[i]) (by simp [hi])
  rw [y vs (h1.sq)] at hv
  cases hv
  exact q
def rgL (lo : Int) (n : Nat) : List Dt := (List.range n).map fun i => .int (lo + (i : Nat))
theorem rgL_length (lo : Int) (n : Nat) : (rgL lo n).length = n := by unfold rgL; rw [List.length_map, List.length_range]
theorem rgL_get {lo : Int} {n i : Nat} (h : i < n) : (rgL lo n)[i]? = some (.int (lo + (i : Nat))) := by
  unfold rgL
  rw [List.getElem?_map, List.getElem?_range h]
  rfl
theorem wd_rg {b : Bool} {K : PySem.W.Frag} {ow : Ow} {H : Hp} {lo : Int} {n : Nat} : WD .d b K ow H (Itr lo n) (rgL lo n) := fun ow1 H1 r ok1 => by
  refine ⟨fun i hi => by rw [rgL_length] at hi; exact hi, by rw [rgL_length]; exact Nat.le_refl _, fun i x H2 hi y => ?_⟩
  obtain ⟨rfl, rfl⟩ := y
  rw [rgL_length] at hi
  exact ⟨Same.refl _, _, rgL_get hi, .int _⟩
section
variable {G : Gc} {N : List Str} {sc : Scope} {fn : Str → Bool} {k : Nat} {pos p p2 : Pos} {tg a b c : Expr} {f g h : EF}
def iSeq (f : EF) : IF := fun b ρ => bndI (f b ρ) fun x => match x with
  | .list xs => some (.it xs)
  | .tuple xs => some (.it xs)
  | _ => none
theorem si_seq (ha : SE G N sc fn k a f) : SI G N sc fn k .d tg a (iSeq f) := fun X C W tk b => ⟨fun pins s σ H R I h => by
  obtain ⟨ρ, ow, r, he, gd, post⟩ := h
  cases h1 : f b ρ with
  | none => simp [iSeq, h1, bndI] at he
  | some r1 =>
    cases r1 with
    | exc n pl =>
      have e1 := he
      simp [iSeq, h1, bndI] at e1
      subst e1
      exact (pi_list (ha X C W tk b)).run pins s σ H R I ⟨ρ, ow, _, h1, gd, post⟩
    | val d =>
      have e1 := he
      simp only [iSeq, h1, bndI] at e1
      split at e1
      · cases e1
        refine (pi_list (ha X C W tk b)).run pins s σ H R I ⟨ρ, ow, _, h1, gd, fun v H' s' r' => ?_⟩
        obtain ⟨a', vs, rfl, q1, q2⟩ := r'.list
        exact ⟨a', rfl, ⟨vs, SqL.of q1⟩, post _ H' s' (wd_list (gd.ok.same s') r')⟩
      · cases e1
        refine (pi_tup (ha X C W tk b)).run pins s σ H R I ⟨ρ, ow, _, h1, gd, fun v H' s' r' => ?_⟩
        obtain ⟨a', vs, rfl, q1, q2⟩ := r'.tuple
        exact ⟨a', rfl, ⟨vs, q1.sq⟩, post _ H' s' (wd_tup (gd.ok.same s') r')⟩
      · cases e1⟩
def iRg1 (f : EF) : IF := fun _ ρ => bndI (f true ρ) fun x => match x with
  | .int n => if okI n = true then some (.it (rgL 0 n.toNat)) else none
  | _ => none
theorem si_rg1 (B : Bi G) (ha : SE G N sc fn k a f) (hg : GL sc "range" := by rfl) (ns : NS a := by intro _ _; rfl) : SI G N sc fn k .d tg (.Call (.Name "range" p) [a] [] pos) (iRg1 f) := fun X C W tk b =>
  PI.imp (pi_range1 (C.gl hg) (by rw [C.hmg]; exact B.range) (pa_cons (ha X C W tk true) pa_nil (ns [] X.env)) (by rw [ns [] X.env]; rfl)) fun σ H R h => by
    obtain ⟨ρ, ow, r, he, gd, post⟩ := h
    refine tE.goI gd he (fun n pl e => by subst e; exact post) fun d hd v H' s' r' => ?_
    split at hd
    · split at hd
      · rename_i n hn
        rw [okI_iff] at hn
        cases hd
        obtain rfl := r'.int
        exact ⟨n, rfl, by omega, by omega, post _ H' s' wd_rg⟩
      · cases hd
    · cases hd
def iRg2 (f g : EF) : IF := fun _ ρ => bndI (f true ρ) fun x => bndI (g true ρ) fun y => match x, y with
  | .int i, .int j => if okI i = true ∧ okI j = true then some (.it (rgL i (j - i).toNat)) else none
  | _, _ => none
theorem si_rg2 (B : Bi G) (ha : SE G N sc fn k a f) (hb : SE G N sc fn k b g) (hg : GL sc "range" := by rfl) (ns : NS a := by intro _ _; rfl) (ns2 : NS b := by intro _ _; rfl) : SI G N sc fn k .d tg (.Call (.Name "range" p) [a, b] [] pos) (iRg2 f g) := fun X C W tk b' =>
  PI.imp (pi_range2 (C.gl hg) (by rw [C.hmg]; exact B.range) (pa_cons (ha X C W tk true) (pa_cons (hb X C W tk true) pa_nil (ns2 [] X.env)) (ns [b] X.env)) (by rw [ns [b] X.env, ns2 [] X.env]; rfl) (by rw [ns2 [] X.env]; rfl)) fun σ H R h => by
    obtain ⟨ρ, ow, r, he, gd, post⟩ := h
    refine tE.goI gd he (fun n pl e => by subst e; exact post) fun d hd v H1 s1 r1 => ?_
    refine tE.goI (gd.same s1) hd (fun n pl e => by subst e; exact ExP.same post s1) fun d2 hd2 v2 H2 s2 r2 => ?_
    split at hd2
    · split at hd2
      · rename_i i j hn
        rw [okI_iff, okI_iff] at hn
        cases hd2
        obtain rfl := r1.int
        obtain rfl := r2.int
        exact ⟨i, j, rfl, ⟨by omega, by omega, by omega, by omega⟩, post _ H2 (s1.trans s2) wd_rg⟩
      · cases hd2
    · cases hd2

/-! ## comprehensions -/
def lcL (c e : EF) (tg : GF) (ρ : En) : List Dt → Option (List Dt)
  | [] => some []
  | x :: xs => match tg x ρ with
    | none => none
    | some ρ1 => match c true ρ1 with
      | some (.val d) => (match tru d with
        | some true => (match e false ρ1 with
          | some (.val y) => (lcL c e tg ρ xs).map (y :: ·)
          | _ => none)
        | some false => lcL c e tg ρ xs
        | none => none)
      | _ => none
def eLc (sl : List Nat) (tg : GF) (it : IF) (c e : EF) : EF := fun _ ρ => match it true ρ with
  | some (.it xs) => if noOwn ρ sl && decide (xs.length ≤ lim) then (lcL c e tg (clr ρ sl) xs).map fun ys => .val (.list ys) else none
  | some (.exc n pl) => some (.exc n pl)
  | none => none
/-- the tests of a clause -/
def STs (G : Gc) (N : List Str) (sc : Scope) (fn : Str → Bool) (k : Nat) (es : List Expr) (f : EF) : Prop :=
  ∀ X, Ctx G N sc fn k X → ∀ W, Takes X W → PTs X es (tT X.K X.mg W f)
theorem PTs.imp {X : Cx} {e : List Expr} {t t' : TT} (h : PTs X e t) (i : ∀ σ H Q, t' σ H Q → t σ H Q) : PTs X e t' := ⟨fun pins s σ H Q I q => h.run pins s σ H Q I (i σ H Q q)⟩
theorem sts_nil : STs G N sc fn k [] (eC (.bool true)) := fun X C W tk => PTs.imp pts_nil fun σ H Q h => by
  obtain ⟨ρ, ow, r, he, gd, post⟩ := h
  cases he
  obtain ⟨c, hc, q⟩ := post
  cases hc
  exact q H (Same.refl H)
theorem sts_one (ha : ST G N sc fn k a f) : STs G N sc fn k [a] f := fun X C W tk => pts_one (ha X C W tk)
theorem Ctx.blk {X : Cx} (C : Ctx G N sc fn k X) (s : Shared) (H : Hp) (scope : Scope) (C' : Addr) (cl : List (Str × Addr)) (fp : List Addr) :
    Ctx G N (relS scope sc) (fun x => scope.names.lookup x == some .cell) k (X.blk s H scope (compEnvC scope cl C' X.env) fp) :=
  ⟨C.hP, C.hw, C.hK, C.hmg, C.hb, C.hN, C.nd, by show relS scope X.env.scope = _; rw [C.hsc], rfl, C.calm, C.room⟩
/-- what the comprehension's new list is: for expressions whose value is a new list -/
def tL (K : PySem.W.Frag) (mg : Str → Option Value) (W : WX) (f : EF) : TE := fun σ H Q =>
  ∃ ρ ow r, f true ρ = some r ∧ Good K ow ρ σ H ∧ match r with
    | .val d => ∃ ds, d = .list ds ∧ ∀ p vs H1, Same H H1 → H1 p = none → RpAll K (OA ow) H1 vs ds → Q (.ref p) (upd H1 p (.lst vs))
    | .exc n pl => ExP K mg W σ H n pl
theorem RpAll.snoc {K : PySem.W.Frag} {O : Addr → Prop} {H : Hp} {vs : List V} {ds : List Dt} {v : V} {d : Dt} (r : RpAll K O H vs ds) (q : Rp K O H v d) : RpAll K O H (vs ++ [v]) (ds ++ [d]) := r.append (.cons q .nil)
/-- the list at D so far, everything else as it was -/
structure Cw (K : PySem.W.Frag) (ow : Ow) (H1 : Hp) (D : Addr) (ys : List Dt) (H : Hp) : Prop where
  ex : ∃ vs H2, H = upd H2 D (.lst vs) ∧ Same H1 H2 ∧ H2 D = none ∧ RpAll K (OA ow) H2 vs ys
theorem lc_sound {sh : Shp} {K : PySem.W.Frag} {W0 : WX} {mg : Str → Option Value} {sl : List Nat} {tg : GF} {c e : EF} {ρ : En} {ow : Ow} {σ : L2.St} {H1 : Hp} {J : It} {xs ys : List Dt} {Q : VK} (gd : Good K ow ρ σ H1) (hn : ∀ j ∈ sl, ow.f j = none)
    (wd : WD sh true K ow H1 J xs) (hl : lcL c e tg (clr ρ sl) xs = some ys) (hz : xs.length ≤ lim)
    (post : ∀ p vs H2, Same H1 H2 → H2 p = none → RpAll K (OA ow) H2 vs ys → Q (.ref p) (upd H2 p (.lst vs))) :
    ∀ D, H1 D = none → ∃ Wv : Nat → Nat → Hp → Prop, (∃ m, Wv 0 m (upd H1 D (.lst []))) ∧ ∀ i m H, Wv i m H →
      (J.stop i H ∧ Q (.ref D) H) ∨ (J.go i H ∧ ∃ Nx : Hp → Prop, (∀ H', Nx H' → ∃ m', m' < m ∧ Wv (i + 1) m' H') ∧ ∀ x H', J.yld i H x H' → tG sh K sl tg x (wipe σ sl) H' fun σ2 H2 => wipe σ2 sl = wipe σ sl ∧ tT K mg W0 c σ2 H2 fun b H3 =>
        if b = true then tE K mg W0 false e σ2 H3 fun y H4 => ∃ acc, H4 D = some (.lst acc) ∧ acc.length < sizeLine ∧ Nx (upd H4 D (.lst (acc ++ [y]))) else Nx H3) := by
  intro D hD
  -- what is made of the first i items, and the rest
  let Wv : Nat → Nat → Hp → Prop := fun i m H => m = xs.length - i ∧ i ≤ xs.length ∧ ∃ zs ws, ys = zs ++ ws ∧ zs.length ≤ i ∧ lcL c e tg (clr ρ sl) (xs.drop i) = some ws ∧ Cw K ow H1 D zs H
  refine ⟨Wv, ⟨xs.length, by simp, Nat.zero_le _, [], ys, rfl, Nat.le_refl _, by simpa using hl, ⟨[], H1, rfl, Same.refl H1, hD, .nil⟩⟩, ?_⟩
  rintro i m H ⟨rfl, hi, zs, ws, hys, hzl, hws, ⟨vs, H2, rfl, s2, hD2, rv⟩⟩
  have sD : Same H1 (upd H2 D (.lst vs)) := s2.trans (Same.upd hD2)
  have gD : ∀ {H : Hp}, Same (upd H2 D (.lst vs)) H → Good K (ow.addx D) ρ σ H := fun {H} s => gd.addx hD (sD.trans s) (s D _ upd_same)
  have wd1 := wd (ow.addx D) _ (show Rel true ow H1 (ow.addx D) (upd H2 D (.lst vs)) from ⟨rfl, fun a q => q.elim .inl fun e => .inr (by rw [e]; exact hD), sD⟩) (gD (Same.refl _)).ok
  have hOD : OA (ow.addx D) D := .inr (.inr rfl)
  by_cases hlt : i < xs.length
  · right
    rw [List.drop_eq_getElem_cons hlt] at hws
    refine ⟨wd1.go i hlt, fun H => Wv (i + 1) (xs.length - (i + 1)) H, fun H' h => ⟨_, by omega, h⟩, fun x H' y => ?_⟩
    obtain ⟨sH', d, hd, rx⟩ := wd1.yld i x H' hlt y
    have hd' : xs[i] = d := by rw [List.getElem?_eq_getElem hlt] at hd; exact Option.some.inj hd
    rw [hd'] at hws
    unfold lcL at hws
    cases ht : tg d (clr ρ sl) with
    | none => rw [ht] at hws; cases hws
    | some ρ1 =>
      rw [ht] at hws
      simp only at hws
      refine ⟨clr ρ sl, ow.addx D, d, ρ1, hn, ht, (gD sH').blk hn, rx, fun σ2 g2 l2 a2 => ⟨?_, ?_⟩⟩
      · rw [wipe_eq (σ := wipe σ sl) l2 a2]
        exact wipe_eq (wipe_length _ _) fun j hj => wipe_ne hj
      · cases hc : c true ρ1 with
        | none => rw [hc] at hws; cases hws
        | some rc =>
          rw [hc] at hws
          cases rc with
          | exc n pl => cases hws
          | val dc =>
            simp only at hws
            cases htr : tru dc with
            | none => rw [htr] at hws; cases hws
            | some bb =>
              rw [htr] at hws
              refine ⟨ρ1, ow.addx D, _, hc, g2, bb, htr, fun H3 s3 => ?_⟩
              -- the list at D stands in H3
              have hH3 : H3 D = some (.lst vs) := (sH'.trans s3) D _ upd_same
              have s13 : Same H1 H3 := (sD.trans sH').trans s3
              have sd : ∀ {H4 : Hp}, Same H3 H4 → Same H1 (dropH H4 D) ∧ Same H2 (dropH H4 D) ∧ H4 D = some (.lst vs) := fun {H4} s4 => by
                refine ⟨fun b o hb => ?_, fun b o hb => ?_, s4 D _ hH3⟩
                · rw [dropH_ne (ne_of_none hb hD)]; exact s4 b o (s13 b o hb)
                · rw [dropH_ne (ne_of_none hb hD2)]; exact s4 b o ((sH'.trans s3) b o (by rw [upd_ne (ne_of_none hb hD2)]; exact hb))
              have hdrop : ∀ {H4 : Hp} {o : HO}, upd (dropH H4 D) D o = upd H4 D o := fun {H4 o} => by
                funext b
                by_cases hb : b = D
                · subst hb; rw [upd_same, upd_same]
                · rw [upd_ne hb, upd_ne hb, dropH_ne hb]
              have hself : ∀ {H4 : Hp}, H4 D = some (.lst vs) → upd (dropH H4 D) D (.lst vs) = H4 := fun {H4} h4 => by
                funext b
                by_cases hb : b = D
                · subst hb; rw [upd_same, h4]
                · rw [upd_ne hb, dropH_ne hb]
              have dN : ∀ {H4 : Hp}, dropH H4 D D = none := fun {H4} => by unfold dropH; rw [if_pos rfl]
              cases bb with
              | false =>
                show Wv (i + 1) (xs.length - (i + 1)) H3
                obtain ⟨q1, q2, q3⟩ := sd (Same.refl H3)
                exact ⟨rfl, hlt, zs, ws, hys, by omega, hws, ⟨vs, dropH H3 D, (hself q3).symm, q1, dN, RpAll.same q2 rv⟩⟩
              | true =>
                show tE K mg W0 false e σ2 H3 _
                cases hev : e false ρ1 with
                | none => rw [hev] at hws; cases hws
                | some re =>
                  rw [hev] at hws
                  cases re with
                  | exc n pl => cases hws
                  | val dy =>
                    simp only at hws
                    cases hrec : lcL c e tg (clr ρ sl) (xs.drop (i + 1)) with
                    | none => rw [hrec] at hws; cases hws
                    | some ws' =>
                      rw [hrec] at hws
                      have hws' : ws = dy :: ws' := (Option.some.inj hws).symm
                      subst hws'
                      refine ⟨ρ1, ow.addx D, _, hev, g2.same s3, fun y H4 s4 ry => ?_⟩
                      obtain ⟨q1, q2, q3⟩ := sd s4
                      refine ⟨vs, q3, by rw [rv.length]; exact Nat.lt_of_le_of_lt (Nat.le_trans hzl (Nat.le_trans (Nat.le_of_lt hlt) hz)) (by decide), rfl, hlt, zs ++ [dy], ws', by rw [hys]; simp, by simp; omega, hrec, ⟨vs ++ [y], dropH H4 D, hdrop.symm, q1, dN, ?_⟩⟩
                      exact RpAll.snoc (RpAll.same q2 rv) (Rp.fresh (fun _ _ _ n z => n (OA.addx z)) (Rp.drp q3 hOD ry.rp))
  · left
    have e : i = xs.length := by omega
    subst e
    rw [List.drop_length] at hws
    cases hws
    rw [List.append_nil] at hys
    subst hys
    exact ⟨wd1.stop, post D vs H2 s2 hD2 rv⟩
/-- [e for target in iter if c], as a value -/
theorem se_lc {sh : Shp} {elt iter : Expr} {ifs : List Expr} {scope : Scope} {own : List (Str × Nat)} {it : IF} {gf : GF} {c e : EF} (hi : SI G N sc fn k sh tg iter it) (ok : blkC N sc scope own = true) (hg : SG G N (relS scope sc) (fun x => scope.names.lookup x == some .cell) k sh tg (own.map (·.2)) gf)
    (ht : STs G N (relS scope sc) (fun x => scope.names.lookup x == some .cell) k ifs c) (he : SE G N (relS scope sc) (fun x => scope.names.lookup x == some .cell) k elt e) (hs : ∀ env x, foldedSetIterable iter env x = pure x := by intro _ _; rfl) :
    SE G N sc fn k (.ListComp elt [⟨tg, iter, ifs, 0⟩] scope pos) (eLc (own.map (·.2)) gf it c e) := fun X C W tk b => by
  have ok' := blkOk_by ok
  refine PE.imp (pe_lc (own := own) (g := tG sh X.K (own.map (·.2)) gf) (tt := tT X.K X.mg (fun _ _ _ _ => False) c) (te := tE X.K X.mg (fun _ _ _ _ => False) false e) C.calm (by rw [C.hN]; exact C.nd) (hi X C W tk true) (by rw [C.hN, C.hsc]; exact ok') (fun s H C' cl fp => hg _ (C.blk s H scope C' cl fp)) (fun s H C' cl fp => ht _ (C.blk s H scope C' cl fp) (fun _ _ _ _ => False) takes0)
    (fun s H C' cl fp => he _ (C.blk s H scope C' cl fp) (fun _ _ _ _ => False) takes0 false) (hs X.env)) fun σ H Q h => ?_
  obtain ⟨ρ, ow, r, he', gd, post⟩ := h
  unfold eLc at he'
  cases h1 : it true ρ with
  | none => rw [h1] at he'; cases he'
  | some ir =>
    rw [h1] at he'
    cases ir with
    | exc n pl => cases he'; exact ⟨ρ, ow, _, h1, gd, post⟩
    | it xs =>
      simp only at he'
      split at he'
      · rename_i hc
        rw [Bool.and_eq_true, decide_eq_true_eq] at hc
        cases h2 : lcL c e gf (clr ρ (own.map (·.2))) xs with
        | none => rw [h2] at he'; cases he'
        | some ys =>
          rw [h2] at he'
          cases he'
          refine ⟨ρ, ow, _, h1, gd, fun J H' s' wd => ?_⟩
          exact lc_sound (gd.same s') (noOwn_of gd hc.1) wd h2 hc.2 fun p vs H2 s2 hp rv => post _ _ ((s'.trans s2).trans (Same.upd hp)) (.inl (.lst upd_same ((gd.ok.same (s'.trans s2)).new hp) (RpAll.same (Same.upd hp) rv)))
      · cases he'
end
end PT

namespace PT
open PySem PySem.Spec PyProof.Rows L2

/-! ## statements -/
inductive Out where
  | nx (ρ : En)
  | rt (d : Dt)
  | ex (n : Str) (pl : Option Dt)
abbrev SF := En → Option Out
def PostS (K : PySem.W.Frag) (mg : Str → Option Value) (W : WX) (D : Ends) (ow : Ow) (H : Hp) : Out → Prop
  | .nx ρ' => ∀ ow' σ' H', Stp ow H ow' H' → Good K ow' ρ' σ' H' → D.nx σ' H'
  | .rt d => ∀ v H', Kp ow H H' → Rp K ow.x H' v d → D.rt v H'
  | .ex n pl => ∀ cls d σ' H', mg n = some cls → Kp ow H H' → PayOk K H' d pl → W cls d σ' H'
def tS (K : PySem.W.Frag) (mg : Str → Option Value) (W : WX) (g : SF) : TS := fun D σ H => ∃ ρ ow o, g ρ = some o ∧ Good K ow ρ σ H ∧ PostS K mg W D ow H o
theorem PostS.stp {K : PySem.W.Frag} {mg : Str → Option Value} {W : WX} {D : Ends} {ow ow' : Ow} {H H' : Hp} {o : Out} (h : PostS K mg W D ow H o) (s : Stp ow H ow' H') : PostS K mg W D ow' H' o := by
  cases o with
  | nx ρ' => exact fun ow2 σ2 H2 s2 g2 => h ow2 σ2 H2 (s.trans s2) g2
  | rt d => exact fun v H2 k2 r2 => h v H2 (s.kp2 k2) (by rw [← s.ext]; exact r2)
  | ex n pl => exact fun cls d σ2 H2 hc k2 p2 => h cls d σ2 H2 hc (s.kp2 k2) p2
theorem PostS.exp {K : PySem.W.Frag} {mg : Str → Option Value} {W : WX} {D : Ends} {ow : Ow} {H : Hp} {σ : L2.St} {n : Str} {pl : Option Dt} (h : PostS K mg W D ow H (.ex n pl)) : ExP K mg W σ H n pl :=
  fun cls d H' hc s p => h cls d σ H' hc (Same.kp s) p
/-- X is a def's own body (no comprehension's block) -/
structure TopX (X : Cx) : Prop where
  stk : X.stack = X.env :: X.outer
  fr : X.env.frame = some X.env.locals
def SB (G : Gc) (N : List Str) (sc : Scope) (fn : Str → Bool) (k : Nat) (st : List Stmt) (g : SF) : Prop :=
  ∀ X, Ctx G N sc fn k X → TopX X → ∀ W, Takes X W → PassesOwn (model X.prog X.w) X.A X.env X.xe → PSs X st (tS X.K X.mg W g)
def SS (G : Gc) (N : List Str) (sc : Scope) (fn : Str → Bool) (k : Nat) (st : Stmt) (g : SF) : Prop :=
  ∀ X, Ctx G N sc fn k X → TopX X → ∀ W, Takes X W → PassesOwn (model X.prog X.w) X.A X.env X.xe → PS X st (tS X.K X.mg W g)
def sNop : SF := fun ρ => some (.nx ρ)
def sSeq (g h : SF) : SF := fun ρ => match g ρ with
  | some (.nx ρ') => h ρ'
  | y => y
/-- from a value to a statement's end -/
def bndS (x : Option Rs) (k : Dt → Option Out) : Option Out :=
  match x with
  | some (.val d) => k d
  | some (.exc n pl) => some (.ex n pl)
  | none => none
theorem tE.goS {K : PySem.W.Frag} {mg : Str → Option Value} {W : WX} {b : Bool} {f : EF} {ρ : En} {ow : Ow} {σ : L2.St} {H : Hp} {Q : VK} {k : Dt → Option Out} {o : Out} {D : Ends} (g : Good K ow ρ σ H)
    (e : bndS (f b ρ) k = some o) (post : PostS K mg W D ow H o)
    (hv : ∀ d, k d = some o → ∀ v H', Same H H' → RpB b K ow H' v d → Q v H') : tE K mg W b f σ H Q := by
  cases h : f b ρ with
  | none => rw [h] at e; cases e
  | some q =>
    rw [h] at e
    cases q with
    | val d => exact ⟨ρ, ow, .val d, h, g, fun v H' s q => hv d e v H' s q⟩
    | exc n pl =>
      cases e
      exact ⟨ρ, ow, .exc n pl, h, g, post.exp⟩
theorem tT.goS {K : PySem.W.Frag} {mg : Str → Option Value} {W : WX} {f : EF} {ρ : En} {ow : Ow} {σ : L2.St} {H : Hp} {Q : Bool → Hp → Prop} {k : Dt → Option Out} {o : Out} {D : Ends} (g : Good K ow ρ σ H)
    (e : bndS (f true ρ) k = some o) (post : PostS K mg W D ow H o)
    (hv : ∀ d, k d = some o → ∃ c, tru d = some c ∧ ∀ H', Same H H' → Q c H') : tT K mg W f σ H Q := by
  cases h : f true ρ with
  | none => rw [h] at e; cases e
  | some q =>
    rw [h] at e
    cases q with
    | val d => exact ⟨ρ, ow, .val d, h, g, hv d e⟩
    | exc n pl =>
      cases e
      exact ⟨ρ, ow, .exc n pl, h, g, post.exp⟩

/-! ### slots that own -/
def Ow.put (ow : Ow) (i : Nat) (p : Addr) : Ow := { ow with f := fun j => if j = i then some p else ow.f j }
theorem Ow.put_self (ow : Ow) (i : Nat) (p : Addr) : (ow.put i p).f i = some p := by show (if i = i then some p else ow.f i) = _; rw [if_pos rfl]
theorem Ow.put_ne {ow : Ow} {i j : Nat} {p : Addr} (h : j ≠ i) : (ow.put i p).f j = ow.f j := by show (if j = i then some p else ow.f j) = _; rw [if_neg h]
section
variable {K : PySem.W.Frag} {ow : Ow} {ρ : En} {σ : L2.St} {H : Hp}
theorem Ow.put_stp {i : Nat} {p : Addr} {o : HO} (hp : H p = none) : Stp ow H (ow.put i p) (upd H p o) := by
  refine ⟨Same.kp (Same.upd hp), fun a ⟨j, hj⟩ => ?_, rfl⟩
  by_cases e : j = i
  · subst e; rw [Ow.put_self] at hj; cases hj; exact .inr hp
  · rw [Ow.put_ne e] at hj; exact .inl ⟨j, hj⟩
theorem Good.setO {i : Nat} {p : Addr} {vs : List V} {ds : List Dt} (g : Good K ow ρ σ H) (hi : i < ρ.length) (hp : H p = none) (r : RpAll K (OA ow) H vs ds) : Good K (ow.put i p) (ρ.set i (some (.own ds))) (σ.set i (some (.ref p))) (upd H p (.lst vs)) := by
  have st : Stp ow H (ow.put i p) (upd H p (.lst vs)) := Ow.put_stp hp
  have tr : ∀ j a, ow.f j = some a → a ≠ p := fun j a h => by
    obtain ⟨ys, hy⟩ := g.ok.lst j a h
    exact ne_of_none hy hp
  refine ⟨by rw [List.length_set, List.length_set]; exact g.len, fun j l a h1 h2 => ?_, ⟨fun j a h => ?_, fun a h => Same.dom (Same.upd hp) a (g.ok.ext a h)⟩, fun j a h q => ?_, fun j s h => ?_, fun j a h => ?_⟩
  · by_cases e1 : j = i <;> by_cases e2 : l = i
    · rw [e1, e2]
    · subst e1; rw [Ow.put_self] at h1; cases h1; rw [Ow.put_ne e2] at h2; exact absurd rfl (tr l _ h2)
    · subst e2; rw [Ow.put_self] at h2; cases h2; rw [Ow.put_ne e1] at h1; exact absurd rfl (tr j _ h1)
    · rw [Ow.put_ne e1] at h1; rw [Ow.put_ne e2] at h2; exact g.inj j l a h1 h2
  · by_cases e1 : j = i
    · subst e1; rw [Ow.put_self] at h; cases h; exact ⟨vs, upd_same⟩
    · rw [Ow.put_ne e1] at h
      obtain ⟨ys, hy⟩ := g.ok.lst j a h
      exact ⟨ys, by rw [upd_ne (tr j a h)]; exact hy⟩
  · by_cases e1 : j = i
    · subst e1; rw [Ow.put_self] at h; cases h; exact g.ok.ext _ q hp
    · rw [Ow.put_ne e1] at h; exact g.disj j a h q
  · by_cases e1 : i = j
    · subst e1
      rw [List.getElem?_set_self hi] at h
      cases h
      exact ⟨.ref p, List.getElem?_set_self (by rw [← g.len]; exact hi), p, vs, rfl, Ow.put_self .., upd_same, RpAll.stp g.ok st r⟩
    · rw [List.getElem?_set_ne e1] at h
      rw [List.getElem?_set_ne e1]
      obtain ⟨v, hv, q⟩ := g.slot j s h
      exact ⟨v, hv, q.stp g.ok st (fun _ _ => Ow.put_ne fun e => e1 e.symm) fun a ha o e => by rw [upd_ne (tr j a ha)]; exact e⟩
  · by_cases e1 : i = j
    · subst e1; exact ⟨ds, List.getElem?_set_self hi⟩
    · rw [Ow.put_ne fun e => e1 e.symm] at h
      rw [List.getElem?_set_ne e1]
      exact g.has j a h
/-- an owned list changes -/
theorem Ow.mut_stp {i : Nat} {a : Addr} {o : HO} (hi : ow.f i = some a) : Stp ow H ow (upd H a o) := by
  refine ⟨⟨fun b u h n => ?_, fun b h => ?_⟩, fun b h => .inl h, rfl⟩
  · rw [upd_ne fun e => n ⟨i, by rw [e]; exact hi⟩]; exact h
  · by_cases e : b = a
    · rw [e, upd_same]; exact fun z => nomatch z
    · rw [upd_ne e]; exact h
theorem Good.mut {i : Nat} {a : Addr} {vs : List V} {ds : List Dt} (g : Good K ow ρ σ H) (ha : ow.f i = some a) (r : RpAll K (OA ow) H vs ds) : Good K ow (ρ.set i (some (.own ds))) σ (upd H a (.lst vs)) := by
  have st : Stp ow H ow (upd H a (.lst vs)) := Ow.mut_stp ha
  have hi : i < ρ.length := by
    obtain ⟨xs, hx⟩ := g.has i a ha
    exact (List.getElem?_eq_some_iff.mp hx).1
  refine ⟨by rw [List.length_set]; exact g.len, g.inj, ⟨fun j b h => ?_, fun b h => st.kp.dom b (g.ok.ext b h)⟩, g.disj, fun j s h => ?_, fun j b h => ?_⟩
  · by_cases e : b = a
    · subst e; exact ⟨vs, upd_same⟩
    · obtain ⟨ys, hy⟩ := g.ok.lst j b h
      exact ⟨ys, by rw [upd_ne e]; exact hy⟩
  · by_cases e1 : i = j
    · subst e1
      rw [List.getElem?_set_self hi] at h
      cases h
      obtain ⟨xs, hx⟩ := g.has i a ha
      obtain ⟨v, hv, a', vs', rfl, h2, h3, h4⟩ := g.slot i _ hx
      rw [ha] at h2
      cases h2
      exact ⟨_, hv, a, vs, rfl, ha, upd_same, RpAll.stp g.ok st r⟩
    · rw [List.getElem?_set_ne e1] at h
      obtain ⟨v, hv, q⟩ := g.slot j s h
      refine ⟨v, hv, q.stp g.ok st (fun _ _ => rfl) fun b hb o e => ?_⟩
      rw [upd_ne fun z => e1 (g.inj i j a ha (by rw [← z]; exact hb))]
      exact e
  · by_cases e1 : i = j
    · subst e1; exact ⟨ds, List.getElem?_set_self hi⟩
    · rw [List.getElem?_set_ne e1]; exact g.has j b h
/-- a slot gives up what it owns -/
def unown (i : Nat) (ρ : En) : En := match ρ[i]? with
  | some (some (.own xs)) => ρ.set i (some (.sh (.list xs)))
  | _ => ρ
theorem Good.unown (g : Good K ow ρ σ H) (i : Nat) : Good K (ow.clr [i]) (PT.unown i ρ) σ H := by
  have st := Ow.clr_stp ow [i] H
  unfold PT.unown
  split
  · rename_i xs hx
    have hi : i < ρ.length := (List.getElem?_eq_some_iff.mp hx).1
    refine ⟨by rw [List.length_set]; exact g.len, fun j l a h1 h2 => g.inj j l a (Ow.clr_some h1).1 (Ow.clr_some h2).1, ⟨fun j a h => g.ok.lst j a (Ow.clr_some h).1, g.ok.ext⟩, fun j a h => g.disj j a (Ow.clr_some h).1, fun j s h => ?_, fun j a h => ?_⟩
    · by_cases e1 : i = j
      · subst e1
        rw [List.getElem?_set_self hi] at h
        cases h
        obtain ⟨v, hv, a, vs, rfl, h2, h3, h4⟩ := g.slot i _ hx
        refine ⟨_, hv, .lst h3 (fun q => ?_) (RpAll.stp g.ok st h4)⟩
        rcases q with ⟨j, hj⟩ | q
        · obtain ⟨h5, h6⟩ := Ow.clr_some hj
          exact h6 (by rw [g.inj j i a h5 h2]; exact List.mem_cons_self)
        · exact g.disj i a h2 q
      · rw [List.getElem?_set_ne e1] at h
        obtain ⟨v, hv, q⟩ := g.slot j s h
        exact ⟨v, hv, q.stp g.ok st (fun _ _ => by show (if j ∈ [i] then none else ow.f j) = _; rw [if_neg (by simp; exact fun e => e1 e.symm)]) fun _ _ _ e => e⟩
    · obtain ⟨h1, h2⟩ := Ow.clr_some h
      have : i ≠ j := fun e => h2 (by rw [e]; exact List.mem_cons_self)
      rw [List.getElem?_set_ne this]
      exact g.has j a h1
  · rename_i hn
    have hf : ow.f i = none := by
      cases e : ow.f i with
      | none => rfl
      | some a => obtain ⟨xs, hx⟩ := g.has i a e; exact absurd hx (hn xs)
    refine ⟨g.len, fun j l a h1 h2 => g.inj j l a (Ow.clr_some h1).1 (Ow.clr_some h2).1, ⟨fun j a h => g.ok.lst j a (Ow.clr_some h).1, g.ok.ext⟩, fun j a h => g.disj j a (Ow.clr_some h).1, fun j s h => ?_, fun j a h => g.has j a (Ow.clr_some h).1⟩
    obtain ⟨v, hv, q⟩ := g.slot j s h
    refine ⟨v, hv, q.stp g.ok st (fun xs e => ?_) fun _ _ _ e => e⟩
    have : j ≠ i := fun z => by subst z; subst e; exact hn xs h
    show (if j ∈ [i] then none else ow.f j) = _
    rw [if_neg (by simpa using this)]
/-- a slot is given data -/
theorem Good.setA {i : Nat} {v : V} {d : Dt} (g : Good K ow ρ σ H) (r : Rp K (OA ow) H v d) : Good K (ow.clr [i]) (ρ.set i (some (.sh d))) (σ.set i (some v)) H := by
  have g1 := g.clr [i]
  have r1 : Rp K (OA (ow.clr [i])) H v d := Rp.stp g.ok (Ow.clr_stp ow [i] H) r
  have g2 := g1.set (i := i) (Ow.clr_none i List.mem_cons_self) r1
  have e : (PT.clr ρ [i]).set i (some (.sh d)) = ρ.set i (some (.sh d)) := by
    show (ρ.set i none).set i (some (SV.sh d)) = _
    rw [List.set_set]
  rw [e] at g2
  exact g2
end

section
variable {G : Gc} {N : List Str} {sc : Scope} {fn : Str → Bool} {k : Nat} {pos p p2 : Pos} {st : Stmt} {rest : List Stmt} {a b c : Expr} {f g h : EF} {s1 s2 : SF}
theorem sb_nil : SB G N sc fn k [] sNop := fun X C T W tk hp => PSs.imp pss_nil fun D σ H h => by
  obtain ⟨ρ, ow, o, he, gd, post⟩ := h
  cases he
  exact post ow σ H (Stp.refl ow H) gd
theorem sb_cons (h1 : SS G N sc fn k st s1) (h2 : SB G N sc fn k rest s2) : SB G N sc fn k (st :: rest) (sSeq s1 s2) := fun X C T W tk hp => PSs.imp (pss_cons (h1 X C T W tk hp) (h2 X C T W tk hp)) fun D σ H h => by
  obtain ⟨ρ, ow, o, he, gd, post⟩ := h
  unfold sSeq at he
  cases h1 : s1 ρ with
  | none => rw [h1] at he; cases he
  | some o1 =>
    rw [h1] at he
    refine ⟨ρ, ow, o1, h1, gd, ?_⟩
    cases o1 with
    | nx ρ1 => exact fun ow' σ' H' st' g' => ⟨ρ1, ow', o, he, g', post.stp st'⟩
    | rt d => cases he; exact post
    | ex n pl => cases he; exact post
theorem sb_one (h1 : SS G N sc fn k st s1) : SB G N sc fn k [st] s1 := fun X C T W tk hp => pss_one (h1 X C T W tk hp)
theorem ss_pass : SS G N sc fn k (.Pass pos) sNop := fun X C T W tk hp => PS.imp ps_pass fun D σ H h => by
  obtain ⟨ρ, ow, o, he, gd, post⟩ := h
  cases he
  exact post ow σ H (Stp.refl ow H) gd
theorem ss_unown (i : Nat) (h : SS G N sc fn k st s1) : SS G N sc fn k st (fun ρ => s1 (unown i ρ)) := fun X C T W tk hp => PS.imp (h X C T W tk hp) fun D σ H h => by
  obtain ⟨ρ, ow, o, he, gd, post⟩ := h
  exact ⟨_, _, o, he, gd.unown i, post.stp (Ow.clr_stp ow [i] H)⟩
/-! ### x = e -/
def SAg (G : Gc) (N : List Str) (sc : Scope) (fn : Str → Bool) (k : Nat) (y : Str) (i : Nat) (e : Expr) (f : EF) : Prop :=
  ∀ X, Ctx G N sc fn k X → ∀ W, Takes X W → ∀ py spos, PS X (.Assign [.Name y py] e spos) (tAsg (tE X.K X.mg W false f) (gName i))
def SAgL (G : Gc) (N : List Str) (sc : Scope) (fn : Str → Bool) (k : Nat) (y : Str) (i : Nat) (e : Expr) (f : EF) : Prop :=
  ∀ X, Ctx G N sc fn k X → ∀ W, Takes X W → ∀ py spos, PS X (.Assign [.Name y py] e spos) (tAsg (tL X.K X.mg W f) (gName i))
def SL (G : Gc) (N : List Str) (sc : Scope) (fn : Str → Bool) (k : Nat) (e : Expr) (f : EF) : Prop :=
  ∀ X, Ctx G N sc fn k X → ∀ W, Takes X W → PE X e (tL X.K X.mg W f)
theorem ag_of (i : Nat) {y : Str} (he : SE G N sc fn k a f) (hi : N[i]? = some y := by rfl) (hx : Loc sc y := by first | exact Or.inl rfl | exact Or.inr rfl) (hf : fn y = true ∨ sc.names.lookup y = some .local := by first | exact .inl rfl | exact .inr rfl)
    (hs : ∀ (py : Pos) (l : Nat) (env : PySem.Env), swapsWith a (some (.Name y py)) l env = pure false := by intro _ _ _; rfl) : SAg G N sc fn k y i a f := fun X C W tk py spos =>
  ps_set (by rw [C.hN]; exact C.nd) (by rw [C.hN]; exact hi) (by rw [C.hsc]; exact hx) (he X C W tk false) (hs py spos.line X.env) (by rw [C.hfn, C.hsc]; exact hf)
theorem agL_of (i : Nat) {y : Str} (he : SL G N sc fn k a f) (hi : N[i]? = some y := by rfl) (hx : Loc sc y := by first | exact Or.inl rfl | exact Or.inr rfl) (hf : fn y = true ∨ sc.names.lookup y = some .local := by first | exact .inl rfl | exact .inr rfl)
    (hs : ∀ (py : Pos) (l : Nat) (env : PySem.Env), swapsWith a (some (.Name y py)) l env = pure false := by intro _ _ _; rfl) : SAgL G N sc fn k y i a f := fun X C W tk py spos =>
  ps_set (by rw [C.hN]; exact C.nd) (by rw [C.hN]; exact hi) (by rw [C.hsc]; exact hx) (he X C W tk) (hs py spos.line X.env) (by rw [C.hfn, C.hsc]; exact hf)
def sSet (i : Nat) (f : EF) : SF := fun ρ => bndS (f false ρ) fun d => some (.nx (ρ.set i (some (.sh d))))
def sSetO (i : Nat) (f : EF) : SF := fun ρ => bndS (f true ρ) fun d => match d with
  | .list ds => if i < ρ.length then some (.nx (ρ.set i (some (.own ds)))) else none
  | _ => none
theorem ss_set {i : Nat} {y : Str} (h : SAg G N sc fn k y i a f) : SS G N sc fn k (.Assign [.Name y p] a pos) (sSet i f) := fun X C T W tk hp => PS.imp (h X C W tk p pos) fun D σ H h => by
  obtain ⟨ρ, ow, o, he, gd, post⟩ := h
  refine tE.goS gd he post fun d hd v H1 s1 r1 => ?_
  cases hd
  exact post (ow.clr [i]) _ H1 ((Same.stp s1).trans (Ow.clr_stp ow [i] H1)) ((gd.same s1).setA r1.rp)
theorem ss_setO {i : Nat} {y : Str} (h : SAgL G N sc fn k y i a f) : SS G N sc fn k (.Assign [.Name y p] a pos) (sSetO i f) := fun X C T W tk hp => PS.imp (h X C W tk p pos) fun D σ H h => by
  obtain ⟨ρ, ow, o, he, gd, post⟩ := h
  unfold sSetO at he
  cases h1 : f true ρ with
  | none => rw [h1] at he; cases he
  | some r1 =>
    rw [h1] at he
    cases r1 with
    | exc n pl => cases he; exact ⟨ρ, ow, _, h1, gd, post.exp⟩
    | val d =>
      simp only [bndS] at he
      split at he
      · rename_i ds
        split at he
        · rename_i hi
          cases he
          exact ⟨ρ, ow, _, h1, gd, ds, rfl, fun q vs H1 s1 hq r1 => post _ _ _ ((Same.stp s1).trans (Ow.put_stp hq)) ((gd.same s1).setO hi hq r1)⟩
        · cases he
      · cases he
/-! fresh lists -/
theorem sl_lst {es : List Expr} {ar : AF} (h : SAs G N sc fn k es ar) : SL G N sc fn k (.List es pos) (eLst ar) := fun X C W tk => PE.imp (pe_lst (h.pa X C W tk)) fun σ H Q h => by
  obtain ⟨ρ, ow, rs, he, gd, post⟩ := h
  refine tA.go gd he (fun n pl e => by subst e; exact post) fun ds hd vs H1 s1 r1 => ?_
  split at hd
  · rename_i hz
    cases hd
    obtain ⟨ds', e, post⟩ := post
    cases e
    exact ⟨by rw [r1.length]; exact lim_le hz, fun p hp => post p vs H1 s1 hp r1⟩
  · cases hd
theorem sl_list (B : Bi G) (ha : SE G N sc fn k a f) (hg : GL sc "list" := by rfl) (ns : NS a := by intro _ _; rfl) : SL G N sc fn k (.Call (.Name "list" p) [a] [] pos) (eUn dList f) := fun X C W tk =>
  PE.imp (pe_callTy call_list_of (C.gl hg) (by rw [C.hmg]; exact B.list) PyProof.Rows.boot_list (pa_cons (ha X C W tk true) pa_nil (ns [] X.env)) (by decide) (by decide) (ns [] X.env) rfl) fun σ H Q h => by
    obtain ⟨ρ, ow, rs, he, gd, post⟩ := h
    refine tE.go gd he (fun n pl e => by subst e; exact post) fun d hd1 v H1 s1 r1 => ?_
    unfold dList at hd1
    split at hd1
    · cases hd1
      obtain ⟨ds', e, post⟩ := post
      cases e
      obtain ⟨q, vs, rfl, h1, r⟩ := r1.list
      exact ⟨q, vs, rfl, .inl (SqL.of h1), fun l hl => post l vs H1 s1 hl r⟩
    · cases hd1
      obtain ⟨ds', e, post⟩ := post
      cases e
      obtain ⟨q, vs, rfl, h1, r⟩ := r1.tuple
      exact ⟨q, vs, rfl, .inr (h1.sq), fun l hl => post l vs H1 s1 hl r⟩
    · cases hd1
theorem tL_op {K : PySem.W.Frag} {mg : Str → Option Value} {W : WX} {op : Dt → Dt → Option Dt} {r : R2} {σ : L2.St} {H : Hp} {Q : VK} (h : tL K mg W (eBin op f g) σ H Q)
    (hr : ∀ x y H1 ow dx dy ds, RpB true K ow H1 x dx → RpB true K ow H1 y dy → op dx dy = some (.list ds) → (∀ p vs, H1 p = none → RpAll K (OA ow) H1 vs ds → Q (.ref p) (upd H1 p (.lst vs))) → r x y H1 Q) : tOp r (tE K mg W true f) (tE K mg W true g) σ H Q := by
  obtain ⟨ρ, ow, rs, he, gd, post⟩ := h
  refine tE.go gd he (fun n pl e => by subst e; exact post) fun d hd1 v H1 s1 r1 => ?_
  refine tE.go (gd.same s1) hd1 (fun n pl e => by subst e; exact ExP.same post s1) fun d2 hd2 v2 H2 s2 r2 => ?_
  cases hz : op d d2 with
  | none => rw [hz] at hd2; cases hd2
  | some dz =>
    rw [hz] at hd2
    cases hd2
    obtain ⟨ds, rfl, post⟩ := post
    exact hr v v2 H2 ow d d2 ds (r1.same s2) r2 hz fun p vs hp rv => post p vs H2 (s1.trans s2) hp rv
theorem sl_add (ha : SE G N sc fn k a f) (hb : SE G N sc fn k b g) : SL G N sc fn k (.BinOp a .Add b pos) (eBin dAdd f g) := fun X C W tk => PE.imp (pe_op op_cat (ha X C W tk true) (hb X C W tk true)) fun σ H Q h => tL_op h fun x y H1 ow dx dy ds rx ry e post => by
  unfold dAdd at e
  split at e
  · cases e
  · split at e <;> cases e
  · split at e
    · rename_i hz
      cases e
      obtain ⟨a, vs, rfl, h1, r1⟩ := rx.list
      obtain ⟨b, ws, rfl, h2, r2⟩ := ry.list
      exact ⟨a, b, vs, ws, rfl, rfl, h1, h2, by rw [r1.length, r2.length]; exact lim_le hz, fun p hp => post p _ hp (r1.append r2)⟩
    · cases e
  · split at e <;> cases e
  · cases e
theorem sl_mul (ha : SE G N sc fn k a f) (hb : SE G N sc fn k b g) : SL G N sc fn k (.BinOp a .Mult b pos) (eBin dMul f g) := fun X C W tk => PE.imp (pe_op op_rep (ha X C W tk true) (hb X C W tk true)) fun σ H Q h => tL_op h fun x y H1 ow dx dy ds rx ry e post => by
  unfold dMul at e
  split at e
  · split at e <;> cases e
  · split at e
    · rename_i xs j hz
      cases e
      obtain ⟨a, vs, rfl, h1, r1⟩ := rx.list
      obtain rfl := ry.int
      have hz2 := okI_iff.mp hz.2
      exact ⟨a, j, vs, rfl, rfl, h1, by omega, by omega, by rw [r1.length]; exact lim_le hz.1, fun p hp => post p _ hp (r1.rep _)⟩
    · cases e
  · split at e <;> cases e
  · cases e
theorem sl_sl {lo hi : Option Expr} {ol oh : En → Option (Option Int)} (ha : SE G N sc fn k a f) (hl : SO G N sc fn k lo ol) (hh : SO G N sc fn k hi oh) : SL G N sc fn k (.Subscript a (.Slice lo hi none p2) pos) (eSl f ol oh) := fun X C W tk =>
  PE.imp (pe_slice L2.sl_list (ha X C W tk true) (hl X C W tk) (hh X C W tk)) fun σ H Q h => by
    obtain ⟨ρ, ow, rs, he, gd, post⟩ := h
    refine tE.go gd he (fun n pl e => by subst e; exact post) fun d hd1 v H1 s1 r1 => ?_
    split at hd1
    · rename_i l u hl hu
      refine ⟨ρ, ow, l, hl, gd.same s1, fun H2 s2 => ⟨ρ, ow, u, hu, gd.same (s1.trans s2), fun H3 s3 => ?_⟩⟩
      have r3 := r1.same (s2.trans s3)
      cases d with
      | list xs =>
        cases hd1
        obtain ⟨ds, e, post⟩ := post
        cases e
        obtain ⟨a, vs, rfl, h1, r⟩ := r3.list
        exact ⟨a, vs, rfl, SqL.of h1, fun p hp => post p _ H3 ((s1.trans s2).trans s3) hp (r.cut l u)⟩
      | tuple xs => cases hd1; obtain ⟨ds, e, post⟩ := post; cases e
      | str z =>
        simp only [dSl] at hd1
        split at hd1
        · cases hd1; obtain ⟨ds, e, post⟩ := post; cases e
        · cases hd1
      | none => cases hd1
      | bool _ => cases hd1
      | int _ => cases hd1
      | dict _ => cases hd1
    · cases hd1
/-! a comprehension given to a name -/
section
variable {elt iter tg : Expr} {ifs : List Expr} {scope : Scope} {own : List (Str × Nat)} {it : IF} {gf : GF} {cf ef : EF} {y : Str} {py spos : Pos}
theorem tLc_val {X : Cx} {W : WX} {σ : L2.St} {H : Hp} {Q : VK} {ρ : En} {ow : Ow} {r : Rs} (he' : eLc (own.map (·.2)) gf it cf ef false ρ = some r) (gd : Good X.K ow ρ σ H)
    (hx : ∀ n pl, r = .exc n pl → ExP X.K X.mg W σ H n pl)
    (hv : ∀ ys, r = .val (.list ys) → ∀ p vs H2, Same H H2 → H2 p = none → RpAll X.K (OA ow) H2 vs ys → Q (.ref p) (upd H2 p (.lst vs))) :
    tLc (tI sh X.K X.mg W true it) (tG sh X.K (own.map (·.2)) gf) (tT X.K X.mg (fun _ _ _ _ => False) cf) (tE X.K X.mg (fun _ _ _ _ => False) false ef) (own.map (·.2)) σ H Q := by
  unfold eLc at he'
  cases h1 : it true ρ with
  | none => rw [h1] at he'; cases he'
  | some ir =>
    rw [h1] at he'
    cases ir with
    | exc n pl => cases he'; exact ⟨ρ, ow, _, h1, gd, hx n pl rfl⟩
    | it xs =>
      simp only at he'
      split at he'
      · rename_i hc
        rw [Bool.and_eq_true, decide_eq_true_eq] at hc
        cases h2 : lcL cf ef gf (clr ρ (own.map (·.2))) xs with
        | none => rw [h2] at he'; cases he'
        | some ys =>
          rw [h2] at he'
          cases he'
          refine ⟨ρ, ow, _, h1, gd, fun J H' s' wd => ?_⟩
          exact lc_sound (gd.same s') (noOwn_of gd hc.1) wd h2 hc.2 fun p vs H2 s2 hp rv => hv ys rfl p vs H2 (s'.trans s2) hp rv
      · cases he'
theorem eLc_val {sl : List Nat} {b : Bool} {ρ : En} {d : Dt} (h : eLc sl gf it cf ef b ρ = some (.val d)) : ∃ ys, d = .list ys := by
  unfold eLc at h
  split at h
  · split at h
    · cases e : lcL cf ef gf (clr ρ sl) _ with
      | none => rw [e] at h; cases h
      | some ys => rw [e] at h; cases h; exact ⟨ys, rfl⟩
    · cases h
  · cases h
  · cases h
theorem ag_lc (i : Nat) (hi : SI G N sc fn k sh tg iter it) (ok : blkC N sc scope own = true) (hg : SG G N (relS scope sc) (fun x => scope.names.lookup x == some .cell) k sh tg (own.map (·.2)) gf)
    (ht : STs G N (relS scope sc) (fun x => scope.names.lookup x == some .cell) k ifs cf) (he : SE G N (relS scope sc) (fun x => scope.names.lookup x == some .cell) k elt ef)
    (hy : N[i]? = some y := by rfl) (hyl : sc.names.lookup y = some .local := by rfl) (hk : sc.kind = .function := by rfl) (ha : (scope.names.any fun (n, k) => n == y && (k == .local || k == .cell)) = false := by decide +kernel) (hln : (p.line == pos.line) = true := by rfl) (hs : ∀ env x, foldedSetIterable iter env x = pure x := by intro _ _; rfl) :
    SS G N sc fn k (.Assign [.Name y p] (.ListComp elt [⟨tg, iter, ifs, 0⟩] scope pos) spos) (sSet i (eLc (own.map (·.2)) gf it cf ef)) := fun X C T W tk hp => by
  have ok' := blkOk_by ok
  refine PS.imp (ps_setLc (i := i) (own := own) (g := tG sh X.K (own.map (·.2)) gf) (tt := tT X.K X.mg (fun _ _ _ _ => False) cf) (te := tE X.K X.mg (fun _ _ _ _ => False) false ef) C.calm (by rw [C.hN]; exact C.nd) (by rw [C.hN]; exact hy) (by rw [C.hsc]; exact hyl)
    (sw_true (by rw [C.hsc]; exact hk) (by rw [C.hsc]; exact hyl) hln ha) (hi X C W tk true) (by rw [C.hN, C.hsc]; exact ok') (fun s H C' cl fp => hg _ (C.blk s H scope C' cl fp)) (fun s H C' cl fp => ht _ (C.blk s H scope C' cl fp) (fun _ _ _ _ => False) takes0)
    (fun s H C' cl fp => he _ (C.blk s H scope C' cl fp) (fun _ _ _ _ => False) takes0 false) (hs X.env)) fun D σ H h => ?_
  obtain ⟨ρ, ow, o, he', gd, post⟩ := h
  unfold sSet at he'
  cases h1 : eLc (own.map (·.2)) gf it cf ef false ρ with
  | none => rw [h1] at he'; cases he'
  | some r =>
    rw [h1] at he'
    refine tLc_val (W := W) h1 gd (fun n pl e => ?_) fun ys e p vs H2 s2 hp rv => ?_
    · subst e; cases he'; exact post.exp
    · subst e
      cases he'
      have s3 : Same H (upd H2 p (.lst vs)) := s2.trans (Same.upd hp)
      exact post (ow.clr [i]) _ _ ((Same.stp s3).trans (Ow.clr_stp ow [i] _)) ((gd.same s3).setA (.lst upd_same ((gd.ok.same s2).new hp) (RpAll.same (Same.upd hp) rv)))
theorem ag_lcO (i : Nat) (hi : SI G N sc fn k sh tg iter it) (ok : blkC N sc scope own = true) (hg : SG G N (relS scope sc) (fun x => scope.names.lookup x == some .cell) k sh tg (own.map (·.2)) gf)
    (ht : STs G N (relS scope sc) (fun x => scope.names.lookup x == some .cell) k ifs cf) (he : SE G N (relS scope sc) (fun x => scope.names.lookup x == some .cell) k elt ef)
    (hy : N[i]? = some y := by rfl) (hyl : sc.names.lookup y = some .local := by rfl) (hk : sc.kind = .function := by rfl) (ha : (scope.names.any fun (n, k) => n == y && (k == .local || k == .cell)) = false := by decide +kernel) (hln : (p.line == pos.line) = true := by rfl) (hs : ∀ env x, foldedSetIterable iter env x = pure x := by intro _ _; rfl) :
    SS G N sc fn k (.Assign [.Name y p] (.ListComp elt [⟨tg, iter, ifs, 0⟩] scope pos) spos) (sSetO i (eLc (own.map (·.2)) gf it cf ef)) := fun X C T W tk hp => by
  have ok' := blkOk_by ok
  refine PS.imp (ps_setLc (i := i) (own := own) (g := tG sh X.K (own.map (·.2)) gf) (tt := tT X.K X.mg (fun _ _ _ _ => False) cf) (te := tE X.K X.mg (fun _ _ _ _ => False) false ef) C.calm (by rw [C.hN]; exact C.nd) (by rw [C.hN]; exact hy) (by rw [C.hsc]; exact hyl)
    (sw_true (by rw [C.hsc]; exact hk) (by rw [C.hsc]; exact hyl) hln ha) (hi X C W tk true) (by rw [C.hN, C.hsc]; exact ok') (fun s H C' cl fp => hg _ (C.blk s H scope C' cl fp)) (fun s H C' cl fp => ht _ (C.blk s H scope C' cl fp) (fun _ _ _ _ => False) takes0)
    (fun s H C' cl fp => he _ (C.blk s H scope C' cl fp) (fun _ _ _ _ => False) takes0 false) (hs X.env)) fun D σ H h => ?_
  obtain ⟨ρ, ow, o, he', gd, post⟩ := h
  unfold sSetO at he'
  cases h1 : eLc (own.map (·.2)) gf it cf ef true ρ with
  | none => rw [h1] at he'; cases he'
  | some r =>
    rw [h1] at he'
    refine tLc_val (W := W) h1 gd (fun n pl e => ?_) fun ys e p vs H2 s2 hp rv => ?_
    · subst e; cases he'; exact post.exp
    · subst e
      simp only [bndS] at he'
      split at he'
      · rename_i hi
        cases he'
        exact post _ _ _ ((Same.stp s2).trans (Ow.put_stp hp)) ((gd.same s2).setO hi hp rv)
      · cases he'
end
end
end PT

namespace PT
open PySem PySem.Spec PyProof.Rows L2
section
variable {G : Gc} {N : List Str} {sc : Scope} {fn : Str → Bool} {k : Nat} {pos p p2 q1 q2 q3 : Pos} {st : Stmt} {rest : List Stmt} {a b c : Expr} {f g h : EF} {s1 s2 : SF}
/-! ### unpacking a tuple -/
def sUnp (sl : List Nat) (gf : GF) (f : EF) : SF := fun ρ => bndS (f false ρ) fun d => (gf d (clr ρ sl)).map .nx
theorem ss_unp {tg : Expr} {sl : List Nat} {gf : GF} (he : SE G N sc fn k a f) (hg : SG G N sc fn k .d tg sl gf)
    (hs : ∀ (l : Nat) (env : PySem.Env), swapsWithSole [tg] a l env = pure false := by intro _ _; rfl) (hw : ∀ env : PySem.Env, swappedStores [tg] a env = pure none := by intro _; rfl)
    (h1 : ∀ env : PySem.Env, (assignEach [tg] env).map (·.2) = [assign tg env] := by intro _; rfl) : SS G N sc fn k (.Assign [tg] a pos) (sUnp sl gf f) := fun X C T W tk hp =>
  PS.imp (ps_asg (he X C W tk false) (hg X C) (hs _ X.env) (hw X.env) (h1 X.env)) fun D σ H h => by
    obtain ⟨ρ, ow, o, he, gd, post⟩ := h
    refine tE.goS gd he post fun d hd v H1 s1 r1 => ?_
    cases hz : gf d (clr ρ sl) with
    | none => rw [hz] at hd; cases hd
    | some ρ1 =>
      rw [hz] at hd
      cases hd
      have g1 := (gd.same s1).clr sl
      exact ⟨clr ρ sl, ow.clr sl, d, ρ1, Ow.clr_none, hz, g1, Rp.stp (gd.ok.same s1) (Ow.clr_stp ow sl H1) r1.rp, fun σ' g' _ _ => post _ σ' H1 ((Same.stp s1).trans (Ow.clr_stp ow sl H1)) g'⟩
theorem sw_const {x y : Str} {px py : Pos} {kt k2 j1 j2 : Nat} {pt pt2 : Pos} {c1 c2 : Const} (env : PySem.Env) :
    swappedStores [.Tuple [.Name x px, .Name y py] kt pt] (.Tuple [.Constant c1 j1 q1, .Constant c2 j2 q2] k2 pt2) env = pure none := by
  unfold swappedStores
  simp [foldedForSure]
/-! ### a, b = e1, e2 -/
def sPar (i j : Nat) (f g : EF) : SF := fun ρ => bndS (f false ρ) fun x => bndS (g false ρ) fun y => if i < ρ.length then some (.nx ((ρ.set i (some (.sh x))).set j (some (.sh y)))) else none
theorem sw_par {x y : Str} {px py : Pos} {kt k2 : Nat} {pt pt2 : Pos} {env : PySem.Env} (hk : env.scope.kind = .function) (hx : env.scope.names.lookup x = some .local) (hy : env.scope.names.lookup y = some .local) (hl : (px.line == py.line) = true) (hxy : (x == y) = false)
    (hst : ([a, b].any fun | .Starred .. => true | _ => false) = false) (hc : [a, b].all (constantsAlone 8) = false) (hf : [a, b].all (foldedForSure 8) = false) :
    swappedStores [.Tuple [.Name x px, .Name y py] kt pt] (.Tuple [a, b] k2 pt2) env = pure (some [x, y]) := by
  have hb : env.blockKind = .function := by unfold Env.blockKind; rw [hk]; rfl
  have kx : env.kindOf x = some .local := hx
  have ky : env.kindOf y = some .local := hy
  have e1 : px.line = py.line := by simpa using hl
  have hne : x ≠ y := by simpa using hxy
  have hne2 : (y == x) = false := by simp; exact fun e => hne e.symm
  unfold swappedStores
  simp only [hc, hf, hb, kx, ky, e1]
  simp [List.eraseDups_cons, hxy, hne2, kx, ky, e1, Expr.pos]
  intro hq
  simp only [List.any_cons, List.any_nil, Bool.or_false, Bool.or_eq_false_iff] at hst
  rcases hq with hq | hq
  · exact absurd ((hst.1.symm.trans hq : false = true)) (by decide)
  · exact absurd ((hst.2.symm.trans hq : false = true)) (by decide)
theorem tPar_of {K : PySem.W.Frag} {mg : Str → Option Value} {W : WX} {i j : Nat} {D : Ends} {σ : L2.St} {H : Hp} (h : tS K mg W (sPar i j f g) D σ H) : tPar i j (tCons (tE K mg W false f) (tCons (tE K mg W false g) tNil)) D σ H := by
  obtain ⟨ρ, ow, o, he, gd, post⟩ := h
  refine tE.goS gd he post fun d hd v H1 s1 r1 => ?_
  refine tE.goS (gd.same s1) hd (post.stp (Same.stp s1)) fun d2 hd2 v2 H2 s2 r2 => ?_
  split at hd2
  · cases hd2
    refine ⟨v, v2, rfl, ?_⟩
    have g1 := ((gd.same (s1.trans s2)).setA (i := i) (Rp.same s2 r1.rp))
    have g2 := g1.setA (i := j) (Rp.stp (gd.ok.same (s1.trans s2)) (Ow.clr_stp ow [i] H2) r2.rp)
    exact post _ _ H2 (((Same.stp (s1.trans s2)).trans (Ow.clr_stp ow [i] H2)).trans (Ow.clr_stp (ow.clr [i]) [j] H2)) g2
  · cases hd2
theorem ss_par (i j : Nat) {x y : Str} {px py : Pos} {kt k2 : Nat} {pt pt2 : Pos} (ha : SE G N sc fn k a f) (hb : SE G N sc fn k b g) (hi : N[i]? = some x := by rfl) (hj : N[j]? = some y := by rfl) (hij : i ≠ j := by decide)
    (hk : sc.kind = .function := by rfl) (hx : sc.names.lookup x = some .local := by rfl) (hy : sc.names.lookup y = some .local := by rfl) (hl : (px.line == py.line) = true := by rfl) (hxy : (x == y) = false := by decide)
    (hst : ([a, b].any fun | .Starred .. => true | _ => false) = false := by rfl) (hc : [a, b].all (constantsAlone 8) = false := by rfl) (hf : [a, b].all (foldedForSure 8) = false := by rfl)
    (hs : ∀ (l : Nat) (env : PySem.Env), swapsWithSole [.Tuple [.Name x px, .Name y py] kt pt] (.Tuple [a, b] k2 pt2) l env = pure false := by intro _ _; rfl) (ns : NS a := by intro _ _; rfl) (ns2 : NS b := by intro _ _; rfl) :
    SS G N sc fn k (.Assign [.Tuple [.Name x px, .Name y py] kt pt] (.Tuple [a, b] k2 pt2) pos) (sPar i j f g) := fun X C T W tk hp =>
  PS.imp (ps_par C.calm (by rw [C.hN]; exact C.nd) (by rw [C.hN]; exact hi) (by rw [C.hN]; exact hj) hij (by rw [C.hsc]; exact hx) (by rw [C.hsc]; exact hy) (pa_cons (ha X C W tk false) (pa_cons (hb X C W tk false) pa_nil (ns2 _ X.env)) (ns _ X.env))
    (sw_par (by rw [C.hsc]; exact hk) (by rw [C.hsc]; exact hx) (by rw [C.hsc]; exact hy) hl hxy hst hc hf) (hs _ X.env)) fun D σ H h => tPar_of h
/-- a, b = [..], e: a new list, and data -/
def sParO (i j : Nat) (f g : EF) : SF := fun ρ => bndS (f true ρ) fun x => bndS (g false ρ) fun y => match x with
  | .list ds => if i < ρ.length then some (.nx ((ρ.set i (some (.own ds))).set j (some (.sh y)))) else none
  | _ => none
theorem List_set_two {α : Type} (l : List α) {i j : Nat} (h : i ≠ j) (x y : α) : (l.set i x).set j y = (l.set j y).set i x := List.set_comm _ _ h
/-! ### x op= e (ints) -/
def sAug (i : Nat) (op : Dt → Dt → Option Dt) (f : EF) : SF := fun ρ => match ρ[i]? with
  | some (some (.sh x)) => bndS (f true ρ) fun y => (op x y).map fun z => .nx (ρ.set i (some (.sh z)))
  | _ => none
theorem ss_aug (i : Nat) {y : Str} {op : Operator} {r : R2} {dop : Dt → Dt → Option Dt} (ho : ∀ X : Cx, OpR X (inplaceOp op) r) (hd : ∀ K, RD K r dop) (ha : SE G N sc fn k a f) (hi : N[i]? = some y) (hx : Loc sc y) (hf : fn y = true ∨ sc.names.lookup y = some .local) :
    SS G N sc fn k (.AugAssign (.Name y p) op a pos) (sAug i dop f) := fun X C T W tk hp =>
  PS.imp (ps_aug (ti := r) (by rw [C.hN]; exact C.nd) (by rw [C.hN]; exact hi) (by rw [C.hsc]; exact hx) (ha X C W tk true) (fun pins s σ H x y v u Q I rx ry q => ho X pins s σ H x y v u Q I rx ry q) (by rw [C.hfn, C.hsc]; exact hf)) fun D σ H h => by
    obtain ⟨ρ, ow, o, he, gd, post⟩ := h
    unfold sAug at he
    split at he
    · rename_i x hx
      obtain ⟨v, hv, rv⟩ := gd.slot i _ hx
      refine ⟨v, hv, tE.goS gd he post fun d hd1 v1 H1 s1 r1 => ?_⟩
      cases hz : dop x d with
      | none => rw [hz] at hd1; cases hd1
      | some z =>
        rw [hz] at hd1
        cases hd1
        exact hd X.K v v1 H1 _ ow x d z (gd.ok.same s1) (.inl (Rp.same s1 rv)) r1 hz fun v' H' s' q => post _ _ H' ((Same.stp (s1.trans s')).trans (Ow.clr_stp ow [i] H')) ((gd.same (s1.trans s')).setA q)
    · cases he
def dAddI : Dt → Dt → Option Dt
  | .int i, .int j => some (.int (i + j))
  | _, _ => none
theorem rd_addI (K : PySem.W.Frag) : RD K (rI0 fun i j => .int (i + j)) dAddI := by
  intro x y H Q ow dx dy dz ok rx ry e post
  unfold dAddI at e
  split at e
  · cases e
    obtain rfl := rx.int
    obtain rfl := ry.int
    exact ⟨_, _, rfl, rfl, post _ H (Same.refl H) (.int _)⟩
  · cases e
def dMulI : Dt → Dt → Option Dt := dI (fun i j => sml i || sml j) fun i j => i * j
def dDivI : Dt → Dt → Option Dt := dI (fun _ j => decide (0 < j) && decide (j < 1073741824)) fun i j => i / j
theorem ss_augAdd (i : Nat) {y : Str} (ha : SE G N sc fn k a f) (hi : N[i]? = some y := by rfl) (hx : Loc sc y := by first | exact Or.inl rfl | exact Or.inr rfl) (hf : fn y = true ∨ sc.names.lookup y = some .local := by first | exact .inl rfl | exact .inr rfl) : SS G N sc fn k (.AugAssign (.Name y p) .Add a pos) (sAug i dAddI f) :=
  ss_aug i (fun X => iop_add) rd_addI ha hi hx hf
theorem ss_augMul (i : Nat) {y : Str} (ha : SE G N sc fn k a f) (hi : N[i]? = some y := by rfl) (hx : Loc sc y := by first | exact Or.inl rfl | exact Or.inr rfl) (hf : fn y = true ∨ sc.names.lookup y = some .local := by first | exact .inl rfl | exact .inr rfl) : SS G N sc fn k (.AugAssign (.Name y p) .Mult a pos) (sAug i dMulI f) :=
  ss_aug i (fun X => iop_mul) (fun K => rd_I fun i j h => by rw [Bool.or_eq_true, sml_iff, sml_iff] at h; exact h) ha hi hx hf
theorem ss_augDiv (i : Nat) {y : Str} (ha : SE G N sc fn k a f) (hi : N[i]? = some y := by rfl) (hx : Loc sc y := by first | exact Or.inl rfl | exact Or.inr rfl) (hf : fn y = true ∨ sc.names.lookup y = some .local := by first | exact .inl rfl | exact .inr rfl) : SS G N sc fn k (.AugAssign (.Name y p) .FloorDiv a pos) (sAug i dDivI f) :=
  ss_aug i (fun X => iop_fdiv) (fun K => rd_I fun i j h => by simpa [CDiv] using h) ha hi hx hf
/-! ### lists that a slot owns: append, extend, xs[i] = e -/
def sApp (i : Nat) (f : EF) : SF := fun ρ => match ρ[i]? with
  | some (some (.own xs)) => bndS (f false ρ) fun d => if xs.length < lim then some (.nx (ρ.set i (some (.own (xs ++ [d]))))) else none
  | _ => none
theorem own_at {K : PySem.W.Frag} {ow : Ow} {ρ : En} {σ : L2.St} {H : Hp} {i : Nat} {xs : List Dt} (gd : Good K ow ρ σ H) (h : ρ[i]? = some (some (.own xs))) : ∃ a vs, σ[i]? = some (some (.ref a)) ∧ ow.f i = some a ∧ H a = some (.lst vs) ∧ RpAll K (OA ow) H vs xs := by
  obtain ⟨v, hv, a, vs, rfl, h2, h3, h4⟩ := gd.slot i _ h
  exact ⟨a, vs, hv, h2, h3, h4⟩
theorem pe_vr {X : Cx} (C : Ctx G N sc fn k X) (i : Nat) {x : Str} {q : Pos} (hN : N[i]? = some x) (hv : Vis sc x) (hd : (x == ("__debug__" : Str)) = false) (hcd : (x == ("__classdict__" : Str)) = false) : PE X (.Name x q) (tVar i) :=
  pe_var (by rw [C.hN]; exact hN) (by rw [C.hsc]; exact hv) hd hcd
theorem ss_app (i : Nat) {x : Str} (ha : SE G N sc fn k a f) (hN : N[i]? = some x := by rfl) (hv : Vis sc x := by first | exact Or.inl rfl | exact Or.inr (Or.inl rfl) | exact Or.inr (Or.inr rfl)) (hd : (x == ("__debug__" : Str)) = false := by decide) (hcd : (x == ("__classdict__" : Str)) = false := by decide)
    (ns : NS a := by intro _ _; rfl) (hb : ∀ env : PySem.Env, attributeBase (.Name x q1) "append" env (eval (.Name x q1) env) = eval (.Name x q1) env := by intro _; rfl) (hln : (q2.endLine == q3.line) = true := by rfl) :
    SS G N sc fn k (.Expr (.Call (.Attribute (.Name x q1) "append" q2) [a] [] q3) pos) (sApp i f) := fun X C T W tk hp =>
  PS.imp (ps_expr (pe_bm PySem.F.plainAttrs_list PySem.F.slot_list_append PySem.F.type_list_append mt_append (pe_vr C i hN hv hd hcd) (pa_cons (ha X C W tk false) pa_nil (ns _ X.env)) (hb X.env) (by rw [ns [] X.env]; rfl) hln (ns _ X.env) rfl)) fun D σ H h => by
    obtain ⟨ρ, ow, o, he, gd, post⟩ := h
    unfold sApp at he
    split at he
    · rename_i xs hx
      obtain ⟨a', vs, hs, ho, hH, rv⟩ := own_at gd hx
      refine ⟨_, hs, .inl ⟨rfl, vs, SqL.of hH⟩, tE.goS gd he post fun d hd1 v1 H1 s1 r1 => ?_⟩
      split at hd1
      · rename_i hz
        cases hd1
        refine ⟨a', vs, v1, rfl, rfl, s1 _ _ hH, by rw [rv.length]; exact Nat.lt_of_lt_of_le hz (by decide), ?_⟩
        exact post ow σ _ ((Same.stp s1).trans (Ow.mut_stp ho)) ((gd.same s1).mut ho (RpAll.snoc (RpAll.same s1 rv) r1.rp))
      · cases hd1
    · cases he
def sExt (i : Nat) (f : EF) : SF := fun ρ => match ρ[i]? with
  | some (some (.own xs)) => bndS (f true ρ) fun d => (match d with
    | .list ys => if xs.length + ys.length ≤ lim then some (.nx (ρ.set i (some (.own (xs ++ ys))))) else none
    | _ => none)
  | _ => none
theorem ss_ext (i : Nat) {x : Str} (ha : SE G N sc fn k a f) (hN : N[i]? = some x := by rfl) (hv : Vis sc x := by first | exact Or.inl rfl | exact Or.inr (Or.inl rfl) | exact Or.inr (Or.inr rfl)) (hd : (x == ("__debug__" : Str)) = false := by decide) (hcd : (x == ("__classdict__" : Str)) = false := by decide)
    (ns : NS a := by intro _ _; rfl) (hb : ∀ env : PySem.Env, attributeBase (.Name x q1) "extend" env (eval (.Name x q1) env) = eval (.Name x q1) env := by intro _; rfl) (hln : (q2.endLine == q3.line) = true := by rfl) :
    SS G N sc fn k (.Expr (.Call (.Attribute (.Name x q1) "extend" q2) [a] [] q3) pos) (sExt i f) := fun X C T W tk hp =>
  PS.imp (ps_expr (pe_bm PySem.F.plainAttrs_list PySem.F.slot_list_extend PySem.F.type_list_extend mt_extend (pe_vr C i hN hv hd hcd) (pa_cons (ha X C W tk true) pa_nil (ns _ X.env)) (hb X.env) (by rw [ns [] X.env]; rfl) hln (ns _ X.env) rfl)) fun D σ H h => by
    obtain ⟨ρ, ow, o, he, gd, post⟩ := h
    unfold sExt at he
    split at he
    · rename_i xs hx
      obtain ⟨a', vs, hs, ho, hH, rv⟩ := own_at gd hx
      refine ⟨_, hs, .inl ⟨rfl, vs, SqL.of hH⟩, tE.goS gd he post fun d hd1 v1 H1 s1 r1 => ?_⟩
      split at hd1
      · split at hd1
        · rename_i ys hz
          cases hd1
          obtain ⟨b', ws, rfl, hb, rw'⟩ := r1.list
          refine ⟨a', b', vs, ws, rfl, rfl, s1 _ _ hH, hb, by rw [rv.length, rw'.length]; exact lim_le hz, ?_⟩
          exact post ow σ _ ((Same.stp s1).trans (Ow.mut_stp ho)) ((gd.same s1).mut ho ((RpAll.same s1 rv).append rw'))
        · cases hd1
      · cases hd1
    · cases he
/-- x[e1] = e2, x owned; e2 first, then e1 -/
def sPut (i : Nat) (f g : EF) : SF := fun ρ => match ρ[i]? with
  | some (some (.own xs)) => bndS (g false ρ) fun d => bndS (f true ρ) fun j => (match j with
    | .int m => (match ixN xs.length m with
      | some n => some (.nx (ρ.set i (some (.own (xs.set n d)))))
      | none => none)
    | _ => none)
  | _ => none
theorem ss_put (i : Nat) {x : Str} (ha : SE G N sc fn k a f) (hb : SE G N sc fn k b g) (hN : N[i]? = some x := by rfl) (hv : Vis sc x := by first | exact Or.inl rfl | exact Or.inr (Or.inl rfl) | exact Or.inr (Or.inr rfl)) (hd : (x == ("__debug__" : Str)) = false := by decide) (hcd : (x == ("__classdict__" : Str)) = false := by decide)
    (hsa : ∀ (env : PySem.Env) v, assign (.Subscript (.Name x q1) a q2) env v = (do
      let ov ← holding [v] (eval (.Name x q1) env)
      let iv ← holding [v, ov] (eval a env)
      standAt q2
      holding [v, ov, iv] (setItem ov iv v)
      release [v, ov, iv] []) := by intro _ _; rfl)
    (hs : ∀ (l : Nat) (env : PySem.Env), swapsWithSole [.Subscript (.Name x q1) a q2] b l env = pure false := by intro _ _; rfl) (hw : ∀ env : PySem.Env, swappedStores [.Subscript (.Name x q1) a q2] b env = pure none := by intro _; rfl)
    (h1 : ∀ env : PySem.Env, (assignEach [.Subscript (.Name x q1) a q2] env).map (·.2) = [assign (.Subscript (.Name x q1) a q2) env] := by intro _; rfl) :
    SS G N sc fn k (.Assign [.Subscript (.Name x q1) a q2] b pos) (sPut i f g) := fun X C T W tk hp =>
  PS.imp (ps_asg (hb X C W tk false) (pg_sub (pe_vr C i hN hv hd hcd) (ha X C W tk true) set_list (hsa X.env)) (hs _ X.env) (hw X.env) (h1 X.env)) fun D σ H h => by
    obtain ⟨ρ, ow, o, he, gd, post⟩ := h
    unfold sPut at he
    split at he
    · rename_i xs hx
      obtain ⟨a', vs, hs, ho, hH, rv⟩ := own_at gd hx
      refine tE.goS gd he post fun d hd1 v1 H1 s1 r1 => ⟨_, hs, tE.goS (gd.same s1) hd1 (post.stp (Same.stp s1)) fun d2 hd2 v2 H2 s2 r2 => ?_⟩
      split at hd2
      · split at hd2
        · rename_i m _ n hn
          cases hd2
          obtain rfl := r2.int
          refine ⟨a', vs, m, n, rfl, rfl, s2 _ _ (s1 _ _ hH), by rw [rv.length]; exact hn, ?_⟩
          exact post ow σ _ ((Same.stp (s1.trans s2)).trans (Ow.mut_stp ho)) ((gd.same (s1.trans s2)).mut ho (RpAll.set (Rp.same s2 r1.rp) n (RpAll.same (s1.trans s2) rv)))
        · cases hd2
      · cases hd2
    · cases he
/-! ### e; return e; raise; if -/
def sDo (f : EF) : SF := fun ρ => bndS (f true ρ) fun _ => some (.nx ρ)
theorem ss_do (ha : SE G N sc fn k a f) (hs : ∀ (l : Nat) (env : PySem.Env), swapsWith a none l env = pure false := by intro _ _; rfl) : SS G N sc fn k (.Expr a pos) (sDo f) := fun X C T W tk hp =>
  PS.imp (ps_expr (ha X C W tk true) (hs _ X.env)) fun D σ H h => by
    obtain ⟨ρ, ow, o, he, gd, post⟩ := h
    refine tE.goS gd he post fun d hd v H1 s1 r1 => ?_
    cases hd
    exact post ow σ H1 (Same.stp s1) (gd.same s1)
def sRet (f : EF) : SF := fun ρ => bndS (f true ρ) fun d => some (.rt d)
theorem ss_ret (ha : SE G N sc fn k a f) : SS G N sc fn k (.Return (some a) pos) (sRet f) := fun X C T W tk hp =>
  PS.imp (ps_ret (ha X C W tk true)) fun D σ H h => by
    obtain ⟨ρ, ow, o, he, gd, post⟩ := h
    refine tE.goS gd he post fun d hd v H1 s1 r1 => ?_
    cases hd
    exact post v H1 (Same.kp s1) r1.out
/-- an own exception class without an own __init__ -/
def ExcC (G : Gc) (x : Str) : Prop := ∃ C, G.mg x = some (.ref C) ∧ PySem.W.excIn G.K C [.type "ValueError", .type "Exception", .type "BaseException", .type "object"] "ValueError.__new__" = true ∧ PySem.W.keepIn G.K (.ref C) = true ∧ PySem.W.subIn G.K (.ref C) (.type "BaseException") = some true ∧ PySem.W.typeIn G.K (.ref C) = some (.type "type")
def sRaise (x : Str) : SF := fun _ => some (.ex x none)
theorem ss_raise {x m : Str} {j : Nat} {q : Pos} (E : ExcC G x) (hg : GL sc x := by rfl) (hdb : (x == ("__debug__" : Str)) = false := by decide) : SS G N sc fn k (.Raise (some (.Call (.Name x p) [.Constant (.str m) j p2] [] q)) none pos) (sRaise x) := fun X C T W tk hp => by
  obtain ⟨A, h1, h2, h3, h4, h5⟩ := E
  refine PS.imp (ps_raise C.calm tk (pmk_own PySem.F.excBase_ValueError (by rw [C.hK]; exact h2) (by rw [C.hmg]; exact h1) (by rw [C.hK]; exact h3) (raises_own (by rw [C.hK]; exact h4) (by rw [C.hK]; exact h5)) (C.gl hg) hdb)) fun D σ H h => ?_
  obtain ⟨ρ, ow, o, he, gd, post⟩ := h
  cases he
  exact post _ _ σ H (by rw [C.hmg]; exact h1) (Same.kp (Same.refl H)) rfl
def sIf (c : EF) (g h : SF) : SF := fun ρ => bndS (c true ρ) fun x => match tru x with
  | some true => g ρ
  | some false => h ρ
  | none => none
theorem ss_if {as bs : List Stmt} (hc : ST G N sc fn k c f) (ha : SB G N sc fn k as s1) (hb : SB G N sc fn k bs s2) : SS G N sc fn k (.If c as bs pos) (sIf f s1 s2) := fun X C T W tk hp =>
  PS.imp (ps_if (hc X C W tk) (ha X C T W tk hp) (hb X C T W tk hp)) fun D σ H h => by
    obtain ⟨ρ, ow, o, he, gd, post⟩ := h
    refine tT.goS gd he post fun d hd => ?_
    split at hd
    · rename_i hc
      exact ⟨true, hc, fun H1 s1 => by rw [if_pos rfl]; exact ⟨ρ, ow, o, hd, gd.same s1, post.stp (Same.stp s1)⟩⟩
    · rename_i hc
      exact ⟨false, hc, fun H1 s1 => by rw [if_neg Bool.false_ne_true]; exact ⟨ρ, ow, o, hd, gd.same s1, post.stp (Same.stp s1)⟩⟩
    · cases hd
/-! ### for -/
def forL (sl : List Nat) (tg : GF) (body : SF) : List Dt → En → Option Out
  | [], ρ => some (.nx ρ)
  | x :: xs, ρ => match tg x (clr ρ sl) with
    | none => none
    | some ρ1 => match body ρ1 with
      | some (.nx ρ2) => forL sl tg body xs ρ2
      | y => y
def sFor (sl : List Nat) (tg : GF) (it : IF) (body : SF) : SF := fun ρ => match it false ρ with
  | some (.it xs) => forL sl tg body xs ρ
  | some (.exc n pl) => some (.ex n pl)
  | none => none
theorem ss_for {sh : Shp} {tg iter : Expr} {body : List Stmt} {sl : List Nat} {gf : GF} {it : IF} (hi : SI G N sc fn k sh tg iter it) (hg : SG G N sc fn k sh tg sl gf) (hb : SB G N sc fn k body s1) (hs : ∀ (env : PySem.Env) x, foldedSetIterable iter env x = pure x := by intro _ _; rfl) :
    SS G N sc fn k (.For tg iter body [] pos) (sFor sl gf it s1) := fun X C T W tk hp =>
  PS.imp (ps_for hp C.calm (hi X C W tk false) (hg X C) (hb X C T W tk hp) (hs X.env)) fun D σ H h => by
    obtain ⟨ρ, ow, o, he, gd, post⟩ := h
    unfold sFor at he
    cases h1 : it false ρ with
    | none => rw [h1] at he; cases he
    | some ir =>
      rw [h1] at he
      cases ir with
      | exc n pl => cases he; exact ⟨ρ, ow, _, h1, gd, post.exp⟩
      | it xs =>
        simp only at he
        refine ⟨ρ, ow, _, h1, gd, fun J H1 sH1 wd => ?_⟩
        have post1 := post.stp (Same.stp sH1)
        let Wv : Nat → Nat → L2.St → Hp → Prop := fun i m σ' H' => m = xs.length - i ∧ i ≤ xs.length ∧ ∃ ρ' ow', forL sl gf s1 (xs.drop i) ρ' = some o ∧ Stp ow H1 ow' H' ∧ Good X.K ow' ρ' σ' H'
        refine ⟨Wv, ⟨xs.length, by simp, Nat.zero_le _, ρ, ow, by simpa using he, Stp.refl ow H1, gd.same sH1⟩, ?_⟩
        rintro i m σ' H' ⟨rfl, hi, ρ', ow', hf, st', g'⟩
        have wd1 := wd ow' H' st' g'.ok
        by_cases hlt : i < xs.length
        · right
          rw [List.drop_eq_getElem_cons hlt] at hf
          refine ⟨wd1.go i hlt, fun σ2 H2 => Wv (i + 1) (xs.length - (i + 1)) σ2 H2, fun σ2 H2 h => ⟨_, by omega, h⟩, fun x H2 y => ?_⟩
          obtain ⟨s2, d, hd, rx⟩ := wd1.yld i x H2 hlt y
          have hd' : xs[i] = d := by rw [List.getElem?_eq_getElem hlt] at hd; exact Option.some.inj hd
          rw [hd'] at hf
          unfold forL at hf
          have g2 := g'.same s2
          cases ht : gf d (clr ρ' sl) with
          | none => rw [ht] at hf; cases hf
          | some ρ1 =>
            rw [ht] at hf
            simp only at hf
            refine ⟨clr ρ' sl, ow'.clr sl, d, ρ1, Ow.clr_none, ht, g2.clr sl, RpS.stp g2.ok (Ow.clr_stp ow' sl H2) rx, fun σ3 g3 _ _ => ?_⟩
            cases hbd : s1 ρ1 with
            | none => rw [hbd] at hf; cases hf
            | some o1 =>
              rw [hbd] at hf
              have st3 : Stp ow H1 (ow'.clr sl) H2 := (st'.trans (Same.stp s2)).trans (Ow.clr_stp ow' sl H2)
              refine ⟨ρ1, ow'.clr sl, o1, hbd, g3, ?_⟩
              cases o1 with
              | nx ρ2 => exact fun ow4 σ4 H4 st4 g4 => ⟨rfl, hlt, ρ2, ow4, hf, st3.trans st4, g4⟩
              | rt dd => cases hf; exact post1.stp st3
              | ex n pl => cases hf; exact post1.stp st3
        · left
          have e : i = xs.length := by omega
          subst e
          rw [List.drop_length] at hf
          cases hf
          exact ⟨wd1.stop, post1 ow' σ' H' st' g'⟩
/-! ### while -/
def whl (c : EF) (body : SF) : Nat → En → Option Out
  | 0, _ => none
  | n + 1, ρ => bndS (c true ρ) fun x => match tru x with
    | some true => (match body ρ with
      | some (.nx ρ') => whl c body n ρ'
      | y => y)
    | some false => some (.nx ρ)
    | none => none
def sWhile (m : Nat) (c : EF) (body : SF) : SF := whl c body m
theorem ss_while (m : Nat) {body : List Stmt} (hc : ST G N sc fn k c f) (hb : SB G N sc fn k body s1) : SS G N sc fn k (.While c body [] pos) (sWhile m f s1) := fun X C T W tk hp =>
  PS.imp (ps_while hp (hc X C W tk) (hb X C T W tk hp)) fun D σ H h => by
    obtain ⟨ρ, ow, o, he, gd, post⟩ := h
    refine ⟨fun n σ' H' => ∃ ρ' ow', whl f s1 n ρ' = some o ∧ Stp ow H ow' H' ∧ Good X.K ow' ρ' σ' H', ⟨m, ρ, ow, he, Stp.refl ow H, gd⟩, ?_⟩
    rintro n σ' H' ⟨ρ', ow', hw, st', g'⟩
    cases n with
    | zero => cases hw
    | succ n =>
      unfold whl at hw
      refine tT.goS g' hw (post.stp st') fun d hd => ?_
      split at hd
      · rename_i hc
        refine ⟨true, hc, fun H1 s1' => ?_⟩
        rw [if_pos rfl]
        refine ⟨fun σ2 H2 => ∃ ρ' ow', whl f s1 n ρ' = some o ∧ Stp ow H ow' H2 ∧ Good X.K ow' ρ' σ2 H2, fun σ2 H2 h => ⟨n, Nat.lt_succ_self n, h⟩, ?_⟩
        cases hbd : s1 ρ' with
        | none => rw [hbd] at hd; cases hd
        | some o1 =>
          rw [hbd] at hd
          have st1 := st'.trans (Same.stp s1')
          refine ⟨ρ', ow', o1, hbd, g'.same s1', ?_⟩
          cases o1 with
          | nx ρ2 => exact fun ow4 σ4 H4 st4 g4 => ⟨ρ2, ow4, hd, st1.trans st4, g4⟩
          | rt dd => cases hd; exact post.stp st1
          | ex n pl => cases hd; exact post.stp st1
      · rename_i hc
        cases hd
        refine ⟨false, hc, fun H1 s1' => ?_⟩
        rw [if_neg Bool.false_ne_true]
        exact post ow' σ' H1 (st'.trans (Same.stp s1')) (g'.same s1')
      · cases hd
end

/-! ## a def -/
def start0 (n : Nat) (ds : List Dt) : En := ds.map (fun d => some (.sh d)) ++ List.replicate (n - ds.length) none
def runB (n : Nat) (g : SF) (ds : List Dt) : Option Rs := match g (start0 n ds) with
  | some (.rt d) => some (.val d)
  | some (.nx _) => some (.val .none)
  | some (.ex n pl) => some (.exc n pl)
  | none => none
theorem RpAll.start {K : PySem.W.Frag} {O : Addr → Prop} {H : Hp} {ow : Ow} (hO : OA ow = O) : ∀ {vs : List V} {ds : List Dt}, RpAll K O H vs ds → ∀ (i : Nat) (s : SV), (ds.map (fun d => some (SV.sh d)))[i]? = some (some s) → ∃ v, (vs.map some)[i]? = some (some v) ∧ SlotOk K ow i H v s := by
  intro vs ds r i s h
  rw [List.getElem?_map] at h
  cases e : ds[i]? with
  | none => rw [e] at h; cases h
  | some d =>
    rw [e] at h
    cases h
    obtain ⟨v, hv, q⟩ := r.get e
    exact ⟨v, by rw [List.getElem?_map, hv]; rfl, by show Rp K (OA ow) H v d; rw [hO]; exact q⟩
theorem good0 {K : PySem.W.Frag} {O : Addr → Prop} {H : Hp} {vs : List V} {ds : List Dt} {N : List Str} (hO : ∀ a, O a → H a ≠ none) (r : RpAll K O H vs ds) : Good K ⟨fun _ => none, O⟩ (start0 N.length ds) (L2.start N vs) H := by
  have hOA : OA ⟨fun _ => none, O⟩ = O := by
    funext a
    apply propext
    constructor
    · rintro (⟨i, hi⟩ | h)
      · cases hi
      · exact h
    · exact fun h => .inr h
  refine ⟨?_, fun i j a h => (nomatch h), ⟨fun i a h => (nomatch h), hO⟩, fun i a h => (nomatch h), fun i s h => ?_, fun i a h => (nomatch h)⟩
  · unfold start0 L2.start
    rw [List.length_append, List.length_append, List.length_map, List.length_map, List.length_replicate, List.length_replicate, r.length]
  · unfold start0 at h
    unfold L2.start
    by_cases hi : i < ds.length
    · rw [List.getElem?_append_left (by rw [List.length_map]; exact hi)] at h
      obtain ⟨v, hv, q⟩ := r.start hOA i s h
      exact ⟨v, by rw [List.getElem?_append_left (by rw [List.length_map, r.length]; exact hi)]; exact hv, q⟩
    · rw [List.getElem?_append_right (by rw [List.length_map]; omega)] at h
      rw [List.getElem?_replicate] at h
      split at h
      · cases h
      · cases h
theorem fn_okD {G : Gc} {x qual : Str} {params : Arguments} {body : List Stmt} {scope : Scope} {f : Addr} {fd : FuncData} {N ps : List Str} {k : Nat} {g : SF} {F : List Dt → Option Rs} (Fu : FunD G.K x qual params body scope [] [] f fd) (S : FnScope N ps scope)
    (hB : SB G N scope (fun x => true) k body g) (hF : ∀ ds r, ds.length = ps.length → F ds = some r → runB N.length g ds = some r) : FnOk G.P G.w G.K G.mg G.base (L2.CX G.P G.w) (k + 1) f fd ps (spF G.K G.mg ps.length F) := by
  refine Fu.ok S (fun vs H Q E h => h.1) fun cdv A outer s H vs Q E hr h => ?_
  obtain ⟨hl, O, ds, r, hO, rv, hFd, post⟩ := h
  refine ⟨_, hB _ ⟨rfl, rfl, rfl, rfl, rfl, rfl, S.nd, rfl, rfl, rfl, hr⟩ ⟨rfl, rfl⟩ _ (takes_of (E := E) rfl rfl rfl rfl) (passes_of rfl), ?_⟩
  have hrun := hF ds r (by rw [← rv.length]; exact hl) hFd
  unfold runB at hrun
  cases hg : g (start0 N.length ds) with
  | none => rw [hg] at hrun; cases hrun
  | some o =>
    rw [hg] at hrun
    refine ⟨start0 N.length ds, ⟨fun _ => none, O⟩, o, hg, good0 hO rv, ?_⟩
    have hk : ∀ {H' : Hp}, Kp ⟨fun _ => none, O⟩ H H' → Same H H' := fun kp a o h => kp.keep a o h fun ⟨i, hi⟩ => by cases hi
    cases o with
    | nx ρ' => cases hrun; exact fun ow' σ' H' st' g' => post .non H' (hk st'.kp) .non
    | rt d => cases hrun; exact fun v H' kp r' => post v H' (hk kp) r'
    | ex n pl => cases hrun; exact fun cls d σ' H' hc kp pk => post cls d H' hc (hk kp) pk
theorem fn_is {G : Gc} {x qual : Str} {params : Arguments} {body : List Stmt} {scope : Scope} {f : Addr} {fd : FuncData} {N ps : List Str} {k : Nat} {g : SF} {F : List Dt → Option Rs} (hm : G.mg x = some (.ref f)) (Fu : FunD G.K x qual params body scope [] [] f fd) (S : FnScope N ps scope) (hb : Binds G.K fd ps [])
    (hB : SB G N scope (fun x => true) k body g) (hF : ∀ ds r, ds.length = ps.length → F ds = some r → runB N.length g ds = some r) : FnIs G x (k + 1) ps.length F :=
  ⟨f, fd, ps, hm, Fu.kp, hb, rfl, fn_okD Fu S hB hF⟩
/-! ## the law's promise -/
theorem law_sp {K : PySem.W.Frag} {mg : Str → Option Value} {F : List Dt → Option Rs} (hF : ∀ ns : List Int, ns.length ≤ 63 → F [scr ns] = some (.val (.bool true))) (H : Hp) (a : Addr) (ns : List Int) (hl : ns.length ≤ 63) (hO : Only H) (hS : SqL K H a (ns.map V.int)) :
    spF K mg 1 F [.ref a] H (fun v _ => v = .bl true) fun _ _ _ => False := by
  have hs : ScrAt K H a ns := by
    rcases hS with (h | ⟨o, h⟩) | h
    · rcases hO a with z | ⟨o, xs, z⟩
      · rw [z] at h; cases h
      · rw [z] at h; cases h
    · exact .inl ⟨o, h⟩
    · exact .inr h
  refine ⟨rfl, NoO, [scr ns], _, fun _ z => z.elim, .cons (.scr hs) .nil, hF ns hl, fun v H' s' r' => ?_⟩
  cases r'
  rfl
end PT

namespace PT
open PySem PySem.Spec PyProof.Rows L2

/-! ## zip and enumerate over lists and tuples, in any mix -/
def SIt (k : Bool) (h : Heap) (it a : Addr) (i : Nat) : Prop := match k with
  | true => h.IsListIter it a i
  | false => h.IsTupleIter it a i
def SHp (k : Bool) (h : Heap) (a : Addr) (its : Array Value) : Prop := match k with
  | true => h.IsList a its
  | false => h.IsTuple a its
def SAt (k : Bool) (K : PySem.W.Frag) (H : Hp) (a : Addr) (xs : List V) : Prop := match k with
  | true => SqL K H a xs
  | false => SqT K H a xs
def sOb (k : Bool) (a : Addr) : Obj := match k with
  | true => { cls := .type "list_iterator", data := .fields #[.ref a, .int 0 0] }
  | false => { cls := .type "tuple_iterator", data := .fields #[.ref a, .int 0 0] }
theorem draws {prog : Program} {w : World} {A : Around} (hh : A.handled = none) (k : Bool) (it a : Addr) (hne : a ≠ it) (items : Array Value) :
    Draws prog w A it [it, a] items.size (fun i v => items[i]? = some v) (fun i h => SIt k h it a i ∧ SHp k h a items) := by
  cases k
  · exact Draws.tuple hh it a hne items
  · exact Draws.list hh it a hne items
theorem begins (k : Bool) (a : Addr) (items : Array Value) : Begins (.ref a) (sOb k a) fun h => SHp k h a items := by
  cases k
  · exact begins_tuple a items
  · exact begins_list a items
theorem SIt.at {k : Bool} {h h' : Heap} {it a : Addr} {i : Nat} (s : SIt k h it a i) (e : ∀ o, h.get? it = some o → h'.get? it = some o) : SIt k h' it a i := by
  cases k
  · have s : h.IsTupleIter it a i := s
    exact s.at e
  · have s : h.IsListIter it a i := s
    exact s.at e
theorem SIt.new {k : Bool} {h : Heap} {it a : Addr} (e : h.get? it = some (sOb k a)) : SIt k h it a 0 := by
  cases k
  · exact ⟨_, e, rfl, rfl⟩
  · exact ⟨_, e, rfl, rfl⟩
theorem SIt.obj {k : Bool} {h : Heap} {it a : Addr} {i : Nat} (s : SIt k h it a i) : ∃ o, h.get? it = some o ∧ ∀ v, o.data ≠ .cell v := by
  cases k
  · obtain ⟨o, e, _, d⟩ := (show h.IsTupleIter it a i from s); exact ⟨o, e, fun v z => by rw [d] at z; cases z⟩
  · obtain ⟨o, e, _, d⟩ := (show h.IsListIter it a i from s); exact ⟨o, e, fun v z => by rw [d] at z; cases z⟩
theorem SHp.lt {k : Bool} {h : Heap} {a : Addr} {its : Array Value} (s : SHp k h a its) : a < h.objs.size := by
  cases k
  · obtain ⟨o, e, _⟩ := (show h.IsTuple a its from s); exact Heap.lt_size e
  · obtain ⟨o, e, _⟩ := (show h.IsList a its from s); exact Heap.lt_size e
section
variable {X : Cx} {pins : List (Addr × Obj)} {σ : L2.St} {H : Hp} {s : Shared} {a : Addr} {xs ys : List V}
theorem src_at (I : Inv X pins σ H s) {k : Bool} (h : SAt k X.K H a xs) : ∃ its : List Value, Vals xs its ∧ SHp k s.heap a its.toArray ∧ xs.length ≤ sizeLine := by
  cases k
  · obtain ⟨its, r, p, z⟩ := I.tuple h; exact ⟨its, r, p, z⟩
  · obtain ⟨its, r, p, z⟩ := I.list h; exact ⟨its, r, p.isList, z⟩
theorem src_inj (I : Inv X pins σ H s) {k : Bool} (h : SAt k X.K H a xs) (h' : SAt k X.K H a ys) : xs = ys := by
  cases k
  · exact I.tuple_inj h h'
  · exact I.list_inj h h'
end
/-- zip -/
def Izm (k1 k2 : Bool) (K : PySem.W.Frag) (a b : Addr) : It :=
  ⟨fun i H => ∃ (xs ys : List V) (x y : V), SAt k1 K H a xs ∧ SAt k2 K H b ys ∧ xs[i]? = some x ∧ ys[i]? = some y,
    fun i H v H' => ∃ T x y, v = .ref T ∧ H T = none ∧ H' = upd H T (.tup [x, y]) ∧ (∀ xs, SAt k1 K H a xs → xs[i]? = some x) ∧ ∀ ys, SAt k2 K H b ys → ys[i]? = some y,
    fun i H => ∃ xs ys : List V, SAt k1 K H a xs ∧ SAt k2 K H b ys ∧ i = min xs.length ys.length⟩
theorem turn_zm {P : Program} {w : World} {K : PySem.W.Frag} {elts : List Expr} {kk : Nat} {tpos : Pos} (k1 k2 : Bool) {a b z TI TO i1 i2 : Addr} (S : ZipSep2 z TI TO i1 i2 [i1, a] [i2, b]) (ne1 : a ≠ i1) (ne2 : b ≠ i2) :
    Turn P w K (.Tuple elts kk tpos) (Izm k1 k2 K a b) [z, TI, TO, i1, i2] z (fun i h => IsZip h z TI TO .none ∧ IsTupOf2 h TI (.ref i1) (.ref i2) ∧ (∃ x y, IsTupOf2 h TO x y) ∧ SIt k1 h i1 a i ∧ SIt k2 h i2 b i) where
  mem := by simp
  obj := fun i h st c hc => by
    obtain ⟨hz, hTI, ⟨x, y, hTO⟩, h1, h2⟩ := st
    have e' : c = z ∨ c = TI ∨ c = TO ∨ c = i1 ∨ c = i2 := by simpa using hc
    rcases e' with q | q | q | q | q
    · rw [q]; exact ⟨_, hz, fun v q => nomatch q⟩
    · rw [q]; exact ⟨_, hTI, fun v q => nomatch q⟩
    · rw [q]; exact ⟨_, hTO, fun v q => nomatch q⟩
    · rw [q]; exact h1.obj
    · rw [q]; exact h2.obj
  keep := fun i h h' st k => by
    obtain ⟨hz, hTI, ⟨x, y, hTO⟩, h1, h2⟩ := st
    exact ⟨k z (by simp) _ hz, k TI (by simp) _ hTI, ⟨x, y, k TO (by simp) _ hTO⟩, h1.at fun o q => k i1 (by simp) o q, h2.at fun o q => k i2 (by simp) o q⟩
  item := by
    intro X hP hw hK hc i pins s σ H E I hf st hg
    subst hP hw hK
    obtain ⟨hz, hTI, hTO, h1, h2⟩ := st
    obtain ⟨xs, ys, x, y, hqx, hqy, hx, hy⟩ := hg
    obtain ⟨its, rv, p, _⟩ := src_at I hqx
    obtain ⟨its2, rv2, p2, _⟩ := src_at I hqy
    obtain ⟨u, hu, ru⟩ := rv.get hx
    obtain ⟨u2, hu2, ru2⟩ := rv2.get hy
    have hh : X.A.in1.handled = none := I.ok.hd hc
    have W := GoesN.zip2 (elts := elts) (x1 := kk) (pos := tpos) S (draws (prog := X.prog) (w := X.w) hh k1 i1 a ne1 its.toArray) (draws hh k2 i2 b ne2 its2.toArray)
    have hi1 : i < its.length := (List.getElem?_eq_some_iff.mp hu).1
    have hi2 : i < its2.length := (List.getElem?_eq_some_iff.mp hu2).1
    refine W.goes i s _ _ (by simp; omega) ⟨hz, hTI, hTO, ⟨h1, p⟩, ⟨h2, p2⟩⟩ fun v h' tk hY st' hk htk => ?_
    obtain ⟨T, ux, uy, rfl, hT, hux, huy, hTT⟩ := hY
    obtain ⟨hz', hTI', hTO', ⟨h1', _⟩, ⟨h2', _⟩⟩ := st'
    have ex : ux = u := by
      have q : its[i]? = some ux := by simpa using hux
      rw [hu] at q; exact (Option.some.inj q).symm
    have ey : uy = u2 := by
      have q : its2[i]? = some uy := by simpa using huy
      rw [hu2] at q; exact (Option.some.inj q).symm
    subst ex ey
    have new : ObjOk X.prog X.w (upd H T (.tup [x, y])) h' T (.tup [x, y]) :=
      ⟨by show 2 ≤ sizeLine; decide, [ux, uy], .cons ru (.cons ru2 .nil), hTT⟩
    have I1 : Inv X pins σ (upd H T (.tup [x, y])) { s with heap := h', toks := tk } :=
      I.turnedNew (t' := tk) (ch := [z, TI, TO, i1, i2]) (fun c o hb q => hk c o (fun q' => hb (by
        have e' : c = z ∨ c = TO ∨ c = i1 ∨ c = i2 := by simpa using q'
        rcases e' with q | q | q | q <;> simp [q])) q) hf hT new
    refine ⟨.ref T, _, I1, rfl, ⟨T, x, y, rfl, I.hok.fresh hT, rfl, fun l hl => by rw [src_inj I hl hqx]; exact hx, fun l hl => by rw [src_inj I hl hqy]; exact hy⟩, ⟨hz', hTI', hTO', h1', h2'⟩, fun c hcm => ?_⟩
    have hlt : c < s.heap.objs.size := by
      have e' : c = z ∨ c = TI ∨ c = TO ∨ c = i1 ∨ c = i2 := by simpa using hcm
      rcases e' with q | q | q | q | q
      · rw [q]; exact Heap.lt_size hz
      · rw [q]; exact Heap.lt_size hTI
      · obtain ⟨_, _, hTO⟩ := hTO; rw [q]; exact Heap.lt_size hTO
      · obtain ⟨_, e1, _⟩ := h1.obj; rw [q]; exact Heap.lt_size e1
      · obtain ⟨_, e1, _⟩ := h2.obj; rw [q]; exact Heap.lt_size e1
    rw [upd_ne (Nat.ne_of_lt (Nat.lt_of_lt_of_le hlt hT))]
    exact (hf c hcm).1
  done := by
    intro X hP hw hK hc i pins s σ H E I hf st hg
    subst hP hw hK
    obtain ⟨hz, hTI, hTO, h1, h2⟩ := st
    obtain ⟨xs, ys, hqx, hqy, hend⟩ := hg
    obtain ⟨its, rv, p, _⟩ := src_at I hqx
    obtain ⟨its2, rv2, p2, _⟩ := src_at I hqy
    have hh : X.A.in1.handled = none := I.ok.hd hc
    have W := GoesN.zip2 (elts := elts) (x1 := kk) (pos := tpos) S (draws (prog := X.prog) (w := X.w) hh k1 i1 a ne1 its.toArray) (draws hh k2 i2 b ne2 its2.toArray)
    have hn : i = min its.toArray.size its2.toArray.size := by simp [hend, rv.length, rv2.length]
    subst hn
    refine W.stops s (fun s1 => Inv X pins σ H s1) E ⟨hz, hTI, hTO, ⟨h1, p⟩, ⟨h2, p2⟩⟩ fun h' tk hk htk => ?_
    exact I.turnedL (t' := tk) (ch := [z, TI, TO, i1, i2]) (fun c o hb q => hk c o (fun q' => hb (by
        have e' : c = z ∨ c = TO ∨ c = i1 ∨ c = i2 := by simpa using q'
        rcases e' with q | q | q | q <;> simp [q])) q) hf
  self := fun A i s Q E st h => wpAny_pyIter_zip st.1 h
theorem ne_off {n k m : Nat} (h : m < n) : m ≠ n + k := by omega
theorem sep_of {n a b : Nat} (ha : a < n) (hb : b < n) : ZipSep2 (n + 4) (n + 2) (n + 3) n (n + 1) [n, a] [n + 1, b] :=
  zip_sep2 (fp1 := [a]) (fp2 := [b]) (fun c hc => by rw [List.mem_singleton.mp hc]; exact ha) fun c hc => by rw [List.mem_singleton.mp hc]; exact hb
def iZm (K : PySem.W.Frag) (ta : TA) : TI := fun σ H R => ta σ H fun vs H1 => ∃ a b k1 k2 xs ys, vs = [.ref a, .ref b] ∧ SAt k1 K H1 a xs ∧ SAt k2 K H1 b ys ∧ R (Izm k1 k2 K a b) H1
theorem pi_zm {X : Cx} {e e2 : Expr} {ta : TA} {p pos tpos : Pos} {elts : List Expr} {kk : Nat} (hg : Gl X "zip") (hm : X.mg "zip" = none) (ha : PA X [e, e2] ta)
    (hs : starEach [e, e2] X.env = (false, eval e X.env) :: starEach [e2] X.env) (hpl : (backTo pos (starEach [e2] X.env)).any (·.1) = false) :
    PI X (.Tuple elts kk tpos) (.Call (.Name "zip" p) [e, e2] [] pos) (iZm X.K ta) := by
  refine ⟨fun pins s σ H R I h => ?_⟩
  refine Call_ (ld_blt I hg hm PyProof.Rows.boot_zip (PyProof.Rows.callWith_type1 (thn (ha.run pos pins s σ H _ I h) fun us s1 ⟨vs, H1, I1, r1, q1⟩ => ?_) hs hpl))
  obtain ⟨a, b, k1, k2, xs, ys, ex, hqx, hqy, q⟩ := q1
  subst ex
  cases r1 with
  | cons r rr =>
    cases rr with
    | cons r' rr =>
      cases rr
      cases r
      cases r'
      obtain ⟨its, rv, p1, _⟩ := src_at I1 hqx
      obtain ⟨its2, rv2, p2, _⟩ := src_at I1 hqy
      have la : a < s1.heap.objs.size := p1.lt
      have lb : b < s1.heap.objs.size := p2.lt
      refine zip_begins2 (begins k1 a its.toArray) (begins k2 b its2.toArray) p1 p2 fun h' hz hTI hTO g1 g2 hsz hk => wpAny_pyIter_zip hz ?_
      have I2 : Inv X pins σ H1 { s1 with heap := h' } := I1.kept (t' := s1.toks) hk
      refine ⟨s1.heap.objs.size + 4, [s1.heap.objs.size + 4, s1.heap.objs.size + 2, s1.heap.objs.size + 3, s1.heap.objs.size, s1.heap.objs.size + 1], _, _, H1, rfl, I2, turn_zm k1 k2 (sep_of la lb) (Nat.ne_of_lt la) (ne_off lb), ⟨hz, hTI, ⟨_, _, hTO⟩, SIt.new g1, SIt.new g2⟩, fun c hcm => ?_, q⟩
      have e' : c = s1.heap.objs.size + 4 ∨ c = s1.heap.objs.size + 2 ∨ c = s1.heap.objs.size + 3 ∨ c = s1.heap.objs.size ∨ c = s1.heap.objs.size + 1 := by simpa using hcm
      have hle : s1.heap.objs.size ≤ c := by
        rcases e' with z | z | z | z | z
        · rw [z]; exact Nat.le_add_right _ _
        · rw [z]; exact Nat.le_add_right _ _
        · rw [z]; exact Nat.le_add_right _ _
        · rw [z]; exact Nat.le_refl _
        · rw [z]; exact Nat.le_add_right _ _
      exact I1.fpOk hle (I1.hok.fresh hle)
/-- enumerate -/
def Iem (k : Bool) (K : PySem.W.Frag) (a : Addr) : It :=
  ⟨fun i H => ∃ (xs : List V) (x : V), SAt k K H a xs ∧ xs[i]? = some x,
    fun i H v H' => ∃ T x, v = .ref T ∧ H T = none ∧ H' = upd H T (.tup [.int (i : Nat), x]) ∧ (∀ xs, SAt k K H a xs → xs[i]? = some x),
    fun i H => ∃ xs : List V, SAt k K H a xs ∧ i = xs.length⟩
theorem turn_em {P : Program} {w : World} {K : PySem.W.Frag} {elts : List Expr} {kk : Nat} {tpos : Pos} (k : Bool) {a e it : Addr} (nei : e ≠ it) (nea : e ≠ a) (nai : a ≠ it) :
    Turn P w K (.Tuple elts kk tpos) (Iem k K a) [e, it] e (fun i h => (∃ old, IsEnum h e it (i : Int) old) ∧ SIt k h it a i) where
  mem := by simp
  obj := fun i h st c hc => by
    obtain ⟨⟨old, he⟩, h1⟩ := st
    have e' : c = e ∨ c = it := by simpa using hc
    rcases e' with q | q
    · rw [q]; exact ⟨_, he, fun v q => nomatch q⟩
    · rw [q]; exact h1.obj
  keep := fun i h h' st k => by
    obtain ⟨⟨old, he⟩, h1⟩ := st
    exact ⟨⟨old, k e (by simp) _ he⟩, h1.at fun o q => k it (by simp) o q⟩
  item := by
    intro X hP hw hK hc i pins s σ H E I hf st hg
    subst hP hw hK
    obtain ⟨⟨old, he⟩, h1⟩ := st
    obtain ⟨xs, x, hqx, hx⟩ := hg
    obtain ⟨its, rv, p, _⟩ := src_at I hqx
    obtain ⟨u, hu, ru⟩ := rv.get hx
    have hh : X.A.in1.handled = none := I.ok.hd hc
    have W := GoesN.enumFrom (elts := elts) (x1 := kk) (pos := tpos) 0 (draws (prog := X.prog) (w := X.w) hh k it a nai its.toArray) e nei (by simp; exact ⟨nei, nea⟩) (by simp)
    have hi1 : i < its.length := (List.getElem?_eq_some_iff.mp hu).1
    refine W.goes i s _ _ (by simp; omega) ⟨⟨old, by rw [Int.zero_add]; exact he⟩, ⟨h1, p⟩⟩ fun v h' tk hY st' hk htk => ?_
    obtain ⟨T, t, ux, rfl, hT, hux, hTT⟩ := hY
    obtain ⟨⟨old', he'⟩, ⟨h1', _⟩⟩ := st'
    rw [Int.zero_add] at he' hTT
    have ex : ux = u := by
      have q : its[i]? = some ux := by simpa using hux
      rw [hu] at q; exact (Option.some.inj q).symm
    subst ex
    have new : ObjOk X.prog X.w (upd H T (.tup [.int (i : Nat), x])) h' T (.tup [.int (i : Nat), x]) :=
      ⟨by show 2 ≤ sizeLine; decide, [.int (i : Nat) t, ux], .cons ⟨t, rfl⟩ (.cons ru .nil), hTT⟩
    have I1 : Inv X pins σ (upd H T (.tup [.int (i : Nat), x])) { s with heap := h', toks := tk } :=
      I.turnedNew (t' := tk) (ch := [e, it]) (fun c o hb q => hk c o hb q) hf hT new
    refine ⟨.ref T, _, I1, rfl, ⟨T, x, rfl, I.hok.fresh hT, rfl, fun l hl => by rw [src_inj I hl hqx]; exact hx⟩, ⟨⟨old', he'⟩, h1'⟩, fun c hcm => ?_⟩
    have hlt : c < s.heap.objs.size := by
      have e' : c = e ∨ c = it := by simpa using hcm
      rcases e' with q | q
      · rw [q]; exact Heap.lt_size he
      · obtain ⟨_, e1, _⟩ := h1.obj; rw [q]; exact Heap.lt_size e1
    rw [upd_ne (Nat.ne_of_lt (Nat.lt_of_lt_of_le hlt hT))]
    exact (hf c hcm).1
  done := by
    intro X hP hw hK hc i pins s σ H E I hf st hg
    subst hP hw hK
    obtain ⟨⟨old, he⟩, h1⟩ := st
    obtain ⟨xs, hqx, hend⟩ := hg
    obtain ⟨its, rv, p, _⟩ := src_at I hqx
    have hh : X.A.in1.handled = none := I.ok.hd hc
    have W := GoesN.enumFrom (elts := elts) (x1 := kk) (pos := tpos) 0 (draws (prog := X.prog) (w := X.w) hh k it a nai its.toArray) e nei (by simp; exact ⟨nei, nea⟩) (by simp)
    have hn : i = its.toArray.size := by simp [hend, rv.length]
    subst hn
    refine W.stops s (fun s1 => Inv X pins σ H s1) E ⟨⟨old, by rw [Int.zero_add]; exact he⟩, ⟨h1, p⟩⟩ fun h' tk hk htk => ?_
    exact I.turnedL (t' := tk) (ch := [e, it]) (fun c o hb q => hk c o hb q) hf
  self := fun A i s Q E st h => by
    obtain ⟨⟨old, he⟩, _⟩ := st
    exact wpAny_pyIter_enum he h
set_option maxHeartbeats 1000000 in
theorem meets_enum1 {v : Value} {o : Obj} {H : Heap → Prop} (B : Begins v o H) :
    Meets (Builtin.«enumerate.__new__» ⟨[.type "enumerate", v], []⟩) (fun _ R s => H s.heap ∧
      R (.ok (.ret (.ref (s.heap.push o).objs.size))) { s with heap := (s.heap.push o).push { cls := .type "enumerate", data := .fields #[.none, .bool false, .ref s.heap.objs.size, rawInt 0, .none, .none] } }) :=
  .of_wp fun prog w A R s h => by
    obtain ⟨hp, g, d, tk, os⟩ := s; obtain ⟨h1, h⟩ := h
    have hsub := sub_enumerate
    have q1 : ∀ {A' : Around} {E : Value → Shared → Prop} {Q : Value → Shared → Prop}, Q (.ref hp.objs.size) ⟨hp.push o, g, d, tk, os⟩ → wpAny (model prog w) A' (pyIter v) Q E ⟨hp, g, d, tk, os⟩ :=
      fun q => B.iter prog w _ _ ⟨hp, g, d, tk, os⟩ _ h1 q
    wp_walk using q1
    refine wpAny_stack_any fun st => wpAny_pure ?_
    split
    · rename_i c _ _ _ _ _
      cases (c == Value.type "enumerate")
      · wp_walk using q1
        exact ⟨_, rfl, h⟩
      · wp_walk using q1
        exact ⟨_, rfl, h⟩
    · wp_walk using q1
      exact ⟨_, rfl, h⟩
theorem enum_begins1 {prog : Program} {w : World} {A : Around} {E : Value → Shared → Prop} {s : Shared} {v : Value} {o : Obj} {H : Heap → Prop} {Q : Value → Shared → Prop} (B : Begins v o H) (h1 : H s.heap)
    (h : ∀ h', IsEnum h' (s.heap.objs.size + 1) s.heap.objs.size 0 .none → h'.get? s.heap.objs.size = some o → h'.objs.size = s.heap.objs.size + 2 →
      (∀ b o, s.heap.get? b = some o → h'.get? b = some o) → Q (.ref (s.heap.objs.size + 1)) { s with heap := h' }) :
    wpAny (model prog w) A (call (.type "enumerate") [v]) Q E s := by
  refine callType_new F.called_enumerate (by decide) (F.typeCall_enumerate_1 _) (F.newCall_enumerate_1 _) (fun obj => F.args_object_init_2 obj _) F.entry_enumerate_new
    (meets_enum1 B) ⟨h1, ?_⟩
  have hz : (s.heap.push o).objs.size = s.heap.objs.size + 1 := Heap.size_push ..
  show _ ∧ _
  rw [hz]
  have he : IsEnum ((s.heap.push o).push { cls := .type "enumerate", data := .fields #[.none, .bool false, .ref s.heap.objs.size, rawInt 0, .none, .none] }) (s.heap.objs.size + 1) s.heap.objs.size 0 .none := by
    have := Heap.get?_push_size (s.heap.push o) (o := { cls := .type "enumerate", data := .fields #[.none, .bool false, .ref s.heap.objs.size, rawInt 0, .none, .none] }) rfl
    rw [hz] at this; exact this
  exact ⟨⟨_, he, rfl⟩, h _ he (Heap.get?_push_of_some _ (Heap.get?_push_size _ B.free)) (by rw [Heap.size_push, hz]) fun b o x => Heap.get?_push_of_some _ (Heap.get?_push_of_some _ x)⟩
def iEm (K : PySem.W.Frag) (te : TE) : TI := fun σ H R => te σ H fun v H1 => ∃ a k xs, v = .ref a ∧ SAt k K H1 a xs ∧ R (Iem k K a) H1
theorem pi_em {X : Cx} {e : Expr} {te : TE} {p pos tpos : Pos} {elts : List Expr} {kk : Nat} (hg : Gl X "enumerate") (hm : X.mg "enumerate" = none) (ha : PE X e te) (hs : starEach [e] X.env = (false, eval e X.env) :: starEach [] X.env) :
    PI X (.Tuple elts kk tpos) (.Call (.Name "enumerate" p) [e] [] pos) (iEm X.K te) := by
  refine ⟨fun pins s σ H R I h => ?_⟩
  have hA : PA X [e] (tCons te tNil) := pa_cons ha pa_nil hs
  refine Call_ (ld_blt I hg hm boot_enumerate (PyProof.Rows.callWith_type1 (thn (hA.run pos pins s σ H (fun vs H1 => ∃ v, vs = [v] ∧ ∃ a k xs, v = .ref a ∧ SAt k X.K H1 a xs ∧ R (Iem k X.K a) H1) I ?_) fun us s1 ⟨vs, H1, I1, r1, q1⟩ => ?_) hs rfl))
  · have h : te σ H fun v H1 => ∃ a k xs, v = .ref a ∧ SAt k X.K H1 a xs ∧ R (Iem k X.K a) H1 := h
    have e : (fun v H1 => ∃ a k xs, v = .ref a ∧ SAt k X.K H1 a xs ∧ R (Iem k X.K a) H1) = fun (v : V) (H1 : Hp) => tNil σ H1 fun xs H2 => ∃ w, v :: xs = [w] ∧ ∃ a k xs, w = .ref a ∧ SAt k X.K H2 a xs ∧ R (Iem k X.K a) H2 := by
      funext v H1
      apply propext
      constructor
      · exact fun q => ⟨v, rfl, q⟩
      · rintro ⟨w, e, q⟩; cases e; exact q
    show te σ H _
    rw [← e]
    exact h
  · obtain ⟨v, rfl, a, k, xs, rfl, hqx, q⟩ := q1
    cases r1 with
    | cons r rr =>
      cases rr
      cases r
      obtain ⟨its, rv, p1, _⟩ := src_at I1 hqx
      have la : a < s1.heap.objs.size := p1.lt
      refine enum_begins1 (begins k a its.toArray) p1 fun h' he g1 hsz hk => wpAny_pyIter_enum he ?_
      have I2 : Inv X pins σ H1 { s1 with heap := h' } := I1.kept (t' := s1.toks) hk
      refine ⟨s1.heap.objs.size + 1, [s1.heap.objs.size + 1, s1.heap.objs.size], _, _, H1, rfl, I2, turn_em k (Nat.succ_ne_self _) (Ne.symm (ne_off la)) (Nat.ne_of_lt la), ⟨⟨_, he⟩, SIt.new g1⟩, fun c hcm => ?_, q⟩
      have e' : c = s1.heap.objs.size + 1 ∨ c = s1.heap.objs.size := by simpa using hcm
      have hle : s1.heap.objs.size ≤ c := by
        rcases e' with z | z
        · rw [z]; exact Nat.le_add_right _ _
        · rw [z]; exact Nat.le_refl _
      exact I1.fpOk hle (I1.hok.fresh hle)
/-! ### by data -/
def seqOf : Dt → Option (Bool × List Dt)
  | .list xs => some (true, xs)
  | .tuple xs => some (false, xs)
  | _ => none
theorem RpB.src {b : Bool} {K : PySem.W.Frag} {ow : Ow} {H : Hp} {v : V} {d : Dt} {k : Bool} {xs : List Dt} (h : RpB b K ow H v d) (e : seqOf d = some (k, xs)) : ∃ a vs, v = .ref a ∧ SAt k K H a vs ∧ RpAll K (OA ow) H vs xs := by
  unfold seqOf at e
  split at e
  · cases e; obtain ⟨a, vs, rfl, h1, r⟩ := h.list; exact ⟨a, vs, rfl, SqL.of h1, r⟩
  · cases e; obtain ⟨a, vs, rfl, h1, r⟩ := h.tuple; exact ⟨a, vs, rfl, h1.sq, r⟩
  · cases e
theorem RpB.seq_stp {b : Bool} {K : PySem.W.Frag} {ow ow1 : Ow} {H H1 : Hp} {v : V} {d : Dt} {k : Bool} {xs : List Dt} (e : seqOf d = some (k, xs)) (ok : OkO ow H) (h : RpB b K ow H v d) (r : Rel b ow H ow1 H1) : RpB b K ow1 H1 v d := by
  unfold seqOf at e
  split at e
  · exact h.list_stp ok r
  · exact h.tup_stp ok r
  · cases e
/-- the list that is read there is one -/
theorem src_one {b : Bool} {K : PySem.W.Frag} {ow : Ow} {H : Hp} {a : Addr} {d : Dt} {k : Bool} {xs : List Dt} (h : RpB b K ow H (.ref a) d) (e : seqOf d = some (k, xs)) : ∃ vs, SAt k K H a vs ∧ RpAll K (OA ow) H vs xs := by
  obtain ⟨a', vs, e', h1, r⟩ := h.src e
  cases e'
  exact ⟨vs, h1, r⟩
def zipD (xs ys : List Dt) : List Dt := List.zipWith (fun x y => .tuple [x, y]) xs ys
theorem wd_zm {b : Bool} {K : PySem.W.Frag} {ow : Ow} {H : Hp} {a a2 : Addr} {d d2 : Dt} {k k2 : Bool} {xs ys : List Dt} (ok : OkO ow H) (h : RpB b K ow H (.ref a) d) (e : seqOf d = some (k, xs)) (h2 : RpB b K ow H (.ref a2) d2) (e2 : seqOf d2 = some (k2, ys)) :
    WD (.p .d .d) b K ow H (Izm k k2 K a a2) (zipD xs ys) := fun ow1 H1 r ok1 => by
  obtain ⟨vs, s1, r1⟩ := src_one (h.seq_stp e ok r) e
  obtain ⟨ws, s2, r2⟩ := src_one (h2.seq_stp e2 ok r) e2
  have hl : (zipD xs ys).length = min xs.length ys.length := by unfold zipD; rw [List.length_zipWith]
  refine ⟨fun i hi => ?_, ⟨vs, ws, s1, s2, by rw [hl, r1.length, r2.length]⟩, fun i x H2 hi y => ?_⟩
  · rw [hl] at hi
    have i1 : i < vs.length := by rw [r1.length]; omega
    have i2 : i < ws.length := by rw [r2.length]; omega
    exact ⟨vs, ws, vs[i], ws[i], s1, s2, by simp [i1], by simp [i2]⟩
  · rw [hl] at hi
    obtain ⟨T, x, y, rfl, hT, rfl, hx, hy⟩ := y
    have i1 : i < xs.length := by omega
    have i2 : i < ys.length := by omega
    obtain ⟨v1, hv1, q1⟩ := r1.get (i := i) (d := xs[i]) (by simp [i1])
    obtain ⟨v2, hv2, q2⟩ := r2.get (i := i) (d := ys[i]) (by simp [i2])
    rw [hx vs s1] at hv1
    rw [hy ws s2] at hv2
    cases hv1
    cases hv2
    refine ⟨Same.upd hT, .tuple [xs[i], ys[i]], ?_, T, _, _, _, _, rfl, upd_same, rfl, Rp.same (Same.upd hT) q1, Rp.same (Same.upd hT) q2⟩
    unfold zipD
    rw [List.getElem?_zipWith]
    simp [i1, i2]
def enumD (xs : List Dt) : List Dt := List.zipWith (fun x y => .tuple [x, y]) (rgL 0 xs.length) xs
theorem wd_em {b : Bool} {K : PySem.W.Frag} {ow : Ow} {H : Hp} {a : Addr} {d : Dt} {k : Bool} {xs : List Dt} (ok : OkO ow H) (h : RpB b K ow H (.ref a) d) (e : seqOf d = some (k, xs)) : WD (.p .d .d) b K ow H (Iem k K a) (enumD xs) := fun ow1 H1 r ok1 => by
  obtain ⟨vs, s1, r1⟩ := src_one (h.seq_stp e ok r) e
  have hl : (enumD xs).length = xs.length := by unfold enumD; rw [List.length_zipWith, rgL_length]; omega
  refine ⟨fun i hi => ?_, ⟨vs, s1, by rw [hl, r1.length]⟩, fun i x H2 hi y => ?_⟩
  · rw [hl] at hi
    have i1 : i < vs.length := by rw [r1.length]; omega
    exact ⟨vs, vs[i], s1, by simp [i1]⟩
  · rw [hl] at hi
    obtain ⟨T, x, rfl, hT, rfl, hx⟩ := y
    obtain ⟨v1, hv1, q1⟩ := r1.get (i := i) (d := xs[i]) (by simp [hi])
    rw [hx vs s1] at hv1
    cases hv1
    refine ⟨Same.upd hT, .tuple [.int (i : Nat), xs[i]], ?_, T, _, _, _, _, rfl, upd_same, rfl, .int _, Rp.same (Same.upd hT) q1⟩
    unfold enumD
    rw [List.getElem?_zipWith, rgL_get hi]
    simp [hi]
section
variable {G : Gc} {N : List Str} {sc : Scope} {fn : Str → Bool} {k : Nat} {pos p p2 tpos : Pos} {a b c : Expr} {f g h : EF} {elts : List Expr} {kk : Nat}
def iZip (f g : EF) : IF := fun bb ρ => bndI (f bb ρ) fun x => bndI (g bb ρ) fun y => match seqOf x, seqOf y with
  | some (_, xs), some (_, ys) => some (.it (zipD xs ys))
  | _, _ => none
theorem si_zip (B : Bi G) (ha : SE G N sc fn k a f) (hb : SE G N sc fn k b g) (hg : GL sc "zip" := by rfl) (ns : NS a := by intro _ _; rfl) (ns2 : NS b := by intro _ _; rfl) : SI G N sc fn k (.p .d .d) (.Tuple elts kk tpos) (.Call (.Name "zip" p) [a, b] [] pos) (iZip f g) := fun X C W tk b' =>
  PI.imp (pi_zm (C.gl hg) (by rw [C.hmg]; exact B.zip) (pa_cons (ha X C W tk b') (pa_cons (hb X C W tk b') pa_nil (ns2 [] X.env)) (ns [b] X.env)) (ns [b] X.env) (noStar _ _ _ fun e he => by rw [List.mem_singleton.mp he]; exact ns2)) fun σ H R h => by
    obtain ⟨ρ, ow, r, he, gd, post⟩ := h
    refine tE.goI gd he (fun n pl e => by subst e; exact post) fun d hd v H1 s1 r1 => ?_
    refine tE.goI (gd.same s1) hd (fun n pl e => by subst e; exact ExP.same post s1) fun d2 hd2 v2 H2 s2 r2 => ?_
    split at hd2
    · rename_i k1 xs k2 ys e1 e2
      cases hd2
      have r1' := r1.same s2
      obtain ⟨a1, vs, rfl, q1, w1⟩ := r1'.src e1
      obtain ⟨a2, ws, rfl, q2, w2⟩ := r2.src e2
      exact ⟨a1, a2, k1, k2, vs, ws, rfl, q1, q2, post _ H2 (s1.trans s2) (wd_zm (gd.ok.same (s1.trans s2)) r1' e1 r2 e2)⟩
    · cases hd2
def iEnum (f : EF) : IF := fun bb ρ => bndI (f bb ρ) fun x => match seqOf x with
  | some (_, xs) => some (.it (enumD xs))
  | _ => none
theorem si_enum (B : Bi G) (ha : SE G N sc fn k a f) (hg : GL sc "enumerate" := by rfl) (ns : NS a := by intro _ _; rfl) : SI G N sc fn k (.p .d .d) (.Tuple elts kk tpos) (.Call (.Name "enumerate" p) [a] [] pos) (iEnum f) := fun X C W tk b' =>
  PI.imp (pi_em (C.gl hg) (by rw [C.hmg]; exact B.enumerate) (ha X C W tk b') (ns [] X.env)) fun σ H R h => by
    obtain ⟨ρ, ow, r, he, gd, post⟩ := h
    refine tE.goI gd he (fun n pl e => by subst e; exact post) fun d hd v H1 s1 r1 => ?_
    split at hd
    · rename_i k1 xs e1
      cases hd
      obtain ⟨a1, vs, rfl, q1, w1⟩ := r1.src e1
      exact ⟨a1, k1, vs, rfl, q1, post _ H1 s1 (wd_em (gd.ok.same s1) r1 e1)⟩
    · cases hd
def iRev (f : EF) : IF := fun bb ρ => bndI (f bb ρ) fun x => match seqOf x with
  | some (_, xs) => some (.it xs.reverse)
  | _ => none
theorem si_rev {tg : Expr} (B : Bi G) (ha : SE G N sc fn k a f) (hg : GL sc "reversed" := by rfl) (ns : NS a := by intro _ _; rfl) : SI G N sc fn k .d tg (.Call (.Name "reversed" p) [a] [] pos) (iRev f) := fun X C W tk b' =>
  PI.imp (RT.pi_revA (C.gl hg) (by rw [C.hmg]; exact B.reversed) (ha X C W tk b') (ns [] X.env)) fun σ H R h => by
    obtain ⟨ρ, ow, r, he, gd, post⟩ := h
    refine tE.goI gd he (fun n pl e => by subst e; exact post) fun d hd v H1 s1 r1 => ?_
    cases d with
    | list xs =>
      cases hd
      obtain ⟨a1, vs, rfl, q1, w1⟩ := r1.list
      refine ⟨a1, vs, rfl, .inl ⟨SqL.of q1, post _ H1 s1 fun ow1 H2 r ok1 => ?_⟩⟩
      obtain ⟨us, t1, w2⟩ := src_one (k := true) (r1.list_stp (gd.ok.same s1) r) rfl
      have hn : us.length = vs.length := by rw [w2.length, w1.length]
      have hx : xs.length = vs.length := w1.length.symm
      refine ⟨fun i hi => ?_, by rw [List.length_reverse, hx]; exact Nat.le_refl _, fun i x H3 hi y => ?_⟩
      · rw [List.length_reverse, hx] at hi
        exact ⟨hi, us, us[vs.length - 1 - i]'(by omega), t1, by simp [show vs.length - 1 - i < us.length by omega]⟩
      · rw [List.length_reverse, hx] at hi
        obtain ⟨rfl, y⟩ := y
        refine ⟨Same.refl _, xs[vs.length - 1 - i]'(by omega), ?_, ?_⟩
        · rw [List.getElem?_reverse (by omega), List.getElem?_eq_getElem (by omega)]
          simp [hx]
        · obtain ⟨v, hv, q⟩ := w2.get (i := vs.length - 1 - i) (d := xs[vs.length - 1 - i]'(by omega)) (by simp [show vs.length - 1 - i < xs.length by omega])
          rw [y us t1] at hv
          cases hv
          exact q
    | tuple xs =>
      cases hd
      obtain ⟨a1, vs, rfl, q1, w1⟩ := r1.tuple
      refine ⟨a1, vs, rfl, .inr ⟨q1.sq, post _ H1 s1 fun ow1 H2 r ok1 => ?_⟩⟩
      obtain ⟨us, t1, w2⟩ := src_one (k := false) (r1.tup_stp (gd.ok.same s1) r) rfl
      have hn : us.length = vs.length := by rw [w2.length, w1.length]
      have hx : xs.length = vs.length := w1.length.symm
      refine ⟨fun i hi => ?_, by rw [List.length_reverse, hx]; exact Nat.le_refl _, fun i x H3 hi y => ?_⟩
      · rw [List.length_reverse, hx] at hi
        exact ⟨hi, us, us[vs.length - 1 - i]'(by omega), t1, by simp [show vs.length - 1 - i < us.length by omega]⟩
      · rw [List.length_reverse, hx] at hi
        obtain ⟨rfl, y⟩ := y
        refine ⟨Same.refl _, xs[vs.length - 1 - i]'(by omega), ?_, ?_⟩
        · rw [List.getElem?_reverse (by omega), List.getElem?_eq_getElem (by omega)]
          simp [hx]
        · obtain ⟨v, hv, q⟩ := w2.get (i := vs.length - 1 - i) (d := xs[vs.length - 1 - i]'(by omega)) (by simp [show vs.length - 1 - i < xs.length by omega])
          rw [y us t1] at hv
          cases hv
          exact q
    | none => cases hd
    | bool _ => cases hd
    | int _ => cases hd
    | str _ => cases hd
    | dict _ => cases hd
end
end PT

namespace PT
open PySem PySem.Spec PyProof.Rows L2

/-! ## sorted: insertion, by a plain order -/
mutual
def dlt : Dt → Dt → Bool
  | .int a, .int b => decide (a < b)
  | .tuple xs, .tuple ys => dltAll xs ys
  | _, _ => false
def dltAll : List Dt → List Dt → Bool
  | x :: xs, y :: ys => if PyData.eqv x y then dltAll xs ys else dlt x y
  | [], _ :: _ => true
  | _, _ => false
end
def dle (a b : Dt) : Bool := !dlt b a
def ins (x : Dt) : List Dt → List Dt
  | [] => [x]
  | y :: ys => if dle x y then x :: y :: ys else y :: ins x ys
def isort : List Dt → List Dt
  | [] => []
  | x :: xs => ins x (isort xs)
def isI : Dt → Bool
  | .int _ => true
  | _ => false
def isTI : Dt → Bool
  | .tuple (x :: r) => isI x && r.all isI
  | _ => false
def okS (ds : List Dt) : Bool := ds.all isI || ds.all isTI
theorem isI_out {d : Dt} (h : isI d = true) : ∃ i, d = .int i := by
  cases d with
  | int i => exact ⟨i, rfl⟩
  | _ => cases h
theorem allI_out : ∀ {ds : List Dt}, ds.all isI = true → ∃ ns : List Int, ds = ns.map .int
  | [], _ => ⟨[], rfl⟩
  | d :: ds, h => by
    simp only [List.all_cons, Bool.and_eq_true] at h
    obtain ⟨i, rfl⟩ := isI_out h.1
    obtain ⟨ns, rfl⟩ := allI_out h.2
    exact ⟨i :: ns, rfl⟩
theorem isTI_out {d : Dt} (h : isTI d = true) : ∃ (i : Int) (ns : List Int), d = .tuple (.int i :: ns.map .int) := by
  cases d with
  | tuple xs =>
    cases xs with
    | nil => cases h
    | cons x r =>
      simp only [isTI, Bool.and_eq_true] at h
      obtain ⟨i, rfl⟩ := isI_out h.1
      obtain ⟨ns, rfl⟩ := allI_out h.2
      exact ⟨i, ns, rfl⟩
  | _ => cases h
theorem eqv_int (a b : Int) : PyData.eqv (.int a) (.int b) = decide (a = b) := by simp [PyData.eqv]; rfl
theorem toksI (x : Int) (r : List Dt) : PySem.W.keyToksAll (.int x :: r) = .inl 1 :: (.inl x :: PySem.W.keyToksAll r) := by
  unfold PySem.W.keyToksAll
  rw [PySem.W.keyToks]
  cases r <;> rfl
theorem dlt_ints : ∀ xs ys : List Int, dltAll (xs.map .int) (ys.map .int) = lexLt itemOrd (PySem.W.keyToksAll (xs.map .int)) (PySem.W.keyToksAll (ys.map .int))
  | [], [] => by
    show false = _
    exact (lex_irrefl (O := itemOrd) _).symm
  | [], y :: ys => by
    simp only [List.map_nil, List.map_cons, dltAll]
    rw [toksI]
    show true = lexLt itemOrd [.inl 0] _
    rw [PySem.W.lex_atom (by simp), PySem.W.lex_one]
    rfl
  | x :: xs, [] => by
    simp only [List.map_nil, List.map_cons, dltAll]
    rw [toksI]
    show false = lexLt itemOrd _ [.inl 0]
    rw [PySem.W.lex_atom (by simp), PySem.W.lex_one]
    rfl
  | x :: xs, y :: ys => by
    simp only [List.map_cons, dltAll]
    cases e : PyData.eqv (.int x) (.int y) with
    | true => rw [if_pos rfl, PySem.W.dataLt_all_yes (by simp [PySem.W.alike]) e, dlt_ints]
    | false =>
      rw [if_neg Bool.false_ne_true, PySem.W.dataLt_all_no (by simp [PySem.W.alike]) e, PySem.W.dataLt_int]
      rfl
theorem dlt_ok {ds : List Dt} (h : okS ds = true) : ∀ a ∈ ds, ∀ b ∈ ds, dle a b = PySem.W.dataLe false (fun d : Dt => d) a b := by
  intro a ha b hb
  show (!dlt b a) = (!PySem.W.dataLt b a)
  unfold okS at h
  rw [Bool.or_eq_true] at h
  rcases h with h | h
  · obtain ⟨i, rfl⟩ := isI_out (List.all_eq_true.mp h a ha)
    obtain ⟨j, rfl⟩ := isI_out (List.all_eq_true.mp h b hb)
    rw [PySem.W.dataLt_int]; rfl
  · obtain ⟨i, ns, rfl⟩ := isTI_out (List.all_eq_true.mp h a ha)
    obtain ⟨j, ms, rfl⟩ := isTI_out (List.all_eq_true.mp h b hb)
    rw [PySem.W.dataLt_tuple]
    exact congrArg _ (dlt_ints (j :: ms) (i :: ns))
theorem ins_perm (x : Dt) : ∀ l, (ins x l).Perm (x :: l)
  | [] => .refl _
  | y :: ys => by
    unfold ins
    split
    · exact .refl _
    · exact ((ins_perm x ys).cons y).trans (.swap x y ys)
theorem isort_perm : ∀ l, (isort l).Perm l
  | [] => .refl _
  | x :: xs => (ins_perm x _).trans ((isort_perm xs).cons x)
section
variable {le : Dt → Dt → Bool} (T : PySem.W.TotalLe le)
include T
theorem ins_sorted {x : Dt} : ∀ {l : List Dt}, (∀ a ∈ x :: l, ∀ b ∈ x :: l, dle a b = le a b) → l.Pairwise (fun a b => le a b = true) → (ins x l).Pairwise (fun a b => le a b = true)
  | [], _, _ => List.pairwise_singleton _ _
  | y :: ys, hq, h => by
    have hxy := hq x List.mem_cons_self y (List.mem_cons_of_mem _ List.mem_cons_self)
    unfold ins
    split
    · rename_i hc
      rw [hxy] at hc
      refine List.pairwise_cons.mpr ⟨fun z hz => ?_, h⟩
      rcases List.mem_cons.mp hz with e | hz
      · rw [e]; exact hc
      · exact T.trans _ _ _ hc ((List.pairwise_cons.mp h).1 z hz)
    · rename_i hc
      rw [hxy] at hc
      have hyx : le y x = true := (T.total x y).resolve_left hc
      refine List.pairwise_cons.mpr ⟨fun z hz => ?_, ins_sorted (fun a ha b hb => hq a ?_ b ?_) (List.pairwise_cons.mp h).2⟩
      · rcases List.mem_cons.mp ((ins_perm x ys).mem_iff.mp hz) with e | hz
        · rw [e]; exact hyx
        · exact (List.pairwise_cons.mp h).1 z hz
      · rcases List.mem_cons.mp ha with e | e
        · rw [e]; exact List.mem_cons_self
        · exact List.mem_cons_of_mem _ (List.mem_cons_of_mem _ e)
      · rcases List.mem_cons.mp hb with e | e
        · rw [e]; exact List.mem_cons_self
        · exact List.mem_cons_of_mem _ (List.mem_cons_of_mem _ e)
theorem ins_stable {x : Dt} (c : Dt) : ∀ {l : List Dt}, (∀ a ∈ x :: l, ∀ b ∈ x :: l, dle a b = le a b) → (ins x l).filter (PySem.W.sameRank le c) = (x :: l).filter (PySem.W.sameRank le c)
  | [], _ => rfl
  | y :: ys, hq => by
    have hxy := hq x List.mem_cons_self y (List.mem_cons_of_mem _ List.mem_cons_self)
    unfold ins
    split
    · rfl
    · rename_i hc
      rw [hxy] at hc
      have ih := ins_stable c (x := x) (l := ys) (fun a ha b hb => hq a (by
        rcases List.mem_cons.mp ha with e | e
        · rw [e]; exact List.mem_cons_self
        · exact List.mem_cons_of_mem _ (List.mem_cons_of_mem _ e)) b (by
        rcases List.mem_cons.mp hb with e | e
        · rw [e]; exact List.mem_cons_self
        · exact List.mem_cons_of_mem _ (List.mem_cons_of_mem _ e)))
      rw [List.filter_cons, ih]
      simp only [List.filter_cons]
      cases e1 : PySem.W.sameRank le c y with
      | false => rw [if_neg Bool.false_ne_true, if_neg Bool.false_ne_true]
      | true =>
        cases e2 : PySem.W.sameRank le c x with
        | false => rw [if_neg Bool.false_ne_true, if_neg Bool.false_ne_true]
        | true =>
          exfalso
          apply hc
          simp only [PySem.W.sameRank, Bool.and_eq_true] at e1 e2
          exact T.trans _ _ _ e2.2 e1.1
theorem isort_sorted : ∀ {l : List Dt}, (∀ a ∈ l, ∀ b ∈ l, dle a b = le a b) → (isort l).Pairwise (fun a b => le a b = true)
  | [], _ => List.Pairwise.nil
  | x :: xs, h => ins_sorted T (fun a ha b hb => h a (((isort_perm xs).cons x).mem_iff.mp ha) b (((isort_perm xs).cons x).mem_iff.mp hb)) (isort_sorted fun a ha b hb => h a (List.mem_cons_of_mem _ ha) b (List.mem_cons_of_mem _ hb))
theorem isort_stable (c : Dt) : ∀ {l : List Dt}, (∀ a ∈ l, ∀ b ∈ l, dle a b = le a b) → (isort l).filter (PySem.W.sameRank le c) = l.filter (PySem.W.sameRank le c)
  | [], _ => rfl
  | x :: xs, h => by
    show (ins x (isort xs)).filter _ = _
    rw [ins_stable T c (fun a ha b hb => h a (((isort_perm xs).cons x).mem_iff.mp ha) b (((isort_perm xs).cons x).mem_iff.mp hb)), List.filter_cons, isort_stable c (fun a ha b hb => h a (List.mem_cons_of_mem _ ha) b (List.mem_cons_of_mem _ hb)), ← List.filter_cons]
theorem isort_merge {l : List Dt} (h : ∀ a ∈ l, ∀ b ∈ l, dle a b = le a b) : isort l = l.mergeSort le := PySem.W.sort_unique T (isort_sorted T h) fun c => isort_stable T c h
end
theorem isort_data {ds : List Dt} (h : okS ds = true) : ds.mergeSort (PySem.W.dataLe false fun d : Dt => d) = isort ds := (isort_merge (PySem.W.sortLe_total _ _ _) (dlt_ok h)).symm
theorem okS_alike {ds : List Dt} (h : okS ds = true) : PySem.W.AllAlike (ds.map fun d => d) := by
  intro a ha b hb
  rw [List.map_id'] at ha hb
  unfold okS at h
  rw [Bool.or_eq_true] at h
  rcases h with h | h
  · obtain ⟨i, rfl⟩ := isI_out (List.all_eq_true.mp h a ha)
    obtain ⟨j, rfl⟩ := isI_out (List.all_eq_true.mp h b hb)
    simp [PySem.W.alike]
  · obtain ⟨i, ns, rfl⟩ := isTI_out (List.all_eq_true.mp h a ha)
    obtain ⟨j, ms, rfl⟩ := isTI_out (List.all_eq_true.mp h b hb)
    rw [PySem.W.alike]
    exact PySem.W.alike_ints (i :: ns) (j :: ms)
theorem okS_sortable {ds : List Dt} (h : okS ds = true) : PySem.W.Sortable (ds.map fun d => d) := by
  rw [List.map_id']
  unfold okS at h
  rw [Bool.or_eq_true] at h
  rcases h with h | h
  · refine .inr fun d hd => ?_
    obtain ⟨i, rfl⟩ := isI_out (List.all_eq_true.mp h d hd)
    refine ⟨fun z => ?_, fun _ z => ?_⟩ <;> cases z
  · refine .inl fun d hd => ?_
    obtain ⟨i, ns, rfl⟩ := isTI_out (List.all_eq_true.mp h d hd)
    exact ⟨_, _, rfl⟩
theorem okS_depth {ds : List Dt} (h : okS ds = true) : ∀ d ∈ ds, d.depth ≤ 1 := by
  intro d hd
  unfold okS at h
  rw [Bool.or_eq_true] at h
  rcases h with h | h
  · obtain ⟨i, rfl⟩ := isI_out (List.all_eq_true.mp h d hd)
    simp [PyData.depth]
  · obtain ⟨i, ns, rfl⟩ := isTI_out (List.all_eq_true.mp h d hd)
    rw [PyData.depth]
    have := PySem.W.depth_ints (i :: ns)
    rw [List.map_cons] at this
    rw [this]
    decide
theorem plainI : ∀ ns : List Int, PyData.plainAll (ns.map .int) = true
  | [] => by simp [PyData.plainAll]
  | x :: xs => by
    rw [List.map_cons, PyData.plainAll, plainI xs]
    simp [PyData.plain]
theorem okS_plain {ds : List Dt} (h : okS ds = true) : ∀ d ∈ ds, d.plain = true := by
  intro d hd
  unfold okS at h
  rw [Bool.or_eq_true] at h
  rcases h with h | h
  · obtain ⟨i, rfl⟩ := isI_out (List.all_eq_true.mp h d hd)
    simp [PyData.plain]
  · obtain ⟨i, ns, rfl⟩ := isTI_out (List.all_eq_true.mp h d hd)
    rw [PyData.plain]
    exact plainI (i :: ns)
def PE2 (R : V → Dt → Prop) : List V → List Dt → Prop := PySem.W.EachIs R
def rSortedD (K : PySem.W.Frag) : List V → Hp → VK → Prop := fun vs H Q => ∃ (a : Addr) (xs : List V) (ds : List Dt) (R : V → Dt → Prop), vs = [.ref a] ∧ SqL K H a xs ∧ okS ds = true ∧ PySem.W.EachIs (fun v d => R v d ∧ Dp K H v d) xs ds ∧
  ∀ ys p, PySem.W.EachIs R ys (isort ds) → H p = none → Q (.ref p) (upd H p (.lst ys))
theorem each_vals {R : V → Dt → Prop} : ∀ {xs : List V} {us : List Value} {ds : List Dt}, Vals xs us → PySem.W.EachIs R xs ds → PySem.W.EachIs (fun u d => ∃ v, RelV v u ∧ R v d) us ds
  | _, _, _, .nil, .nil => .nil
  | _, _, _, .cons r t, .cons h hs => .cons ⟨_, r, h⟩ (each_vals t hs)
theorem vals_each {R : V → Dt → Prop} : ∀ {us : List Value} {ds : List Dt}, PySem.W.EachIs (fun u d => ∃ v, RelV v u ∧ R v d) us ds → ∃ xs, Vals xs us ∧ PySem.W.EachIs R xs ds
  | _, _, .nil => ⟨[], .nil, .nil⟩
  | _, _, .cons ⟨v, r, h⟩ t => let ⟨xs, h1, h2⟩ := vals_each t; ⟨v :: xs, .cons r h1, .cons h h2⟩
theorem cr_sortedD {X : Cx} (hu : X.A.units + 64 < cLine) : CallR X (.builtin "sorted") (rSortedD X.K) := by
  intro pins s σ H vs us Q I r h
  obtain ⟨a, xs, ds, R, rfl, hs, hok, he, q⟩ := h
  obtain ⟨its, rv, hl, hz⟩ := I.list hs
  rw [Vals.ref1 r]
  have e2 := each_vals rv he
  refine PySem.W.sorted_data (enc := fun d : Dt => d) (R := fun u d => ∃ v, RelV v u ∧ R v d) hl.isList (e2.mono fun u d ⟨v, h1, h2, _⟩ => ⟨v, h1, h2⟩) (e2.mono fun u d ⟨v, h1, _, h2⟩ => Dp.reads I d v u h2 h1) (okS_alike hok) (okS_sortable hok) (by rw [← e2.length, ← rv.length]; exact hz) (fun b hb => by have := okS_depth hok b hb; omega) fun out h1 h2 => ?_
  rw [isort_data hok] at h2
  obtain ⟨ys, hv, hy⟩ := vals_each h2
  obtain ⟨ep, he'⟩ := PyProof.Rows.sortedAll_at s.heap its out.toArray
  have hlen : ys.length ≤ sizeLine := by
    rw [hv.length, h1, ← e2.length, ← rv.length]
    exact hz
  exact ⟨.ref _, upd H (s.heap.objs.size + 1) (.lst ys), I.laid (t' := s.toks) (fun _ _ => PyProof.Rows.sortedAll_old) (Nat.le_succ _) ⟨hlen, out, ep, hv, he'⟩, rfl, q _ _ hy (I.hok.fresh (Nat.le_succ _))⟩
theorem RpAll.each {K : PySem.W.Frag} {O : Addr → Prop} {H : Hp} : ∀ {vs : List V} {ds : List Dt}, RpAll K O H vs ds → (∀ d ∈ ds, d.plain = true) → PySem.W.EachIs (fun v d => Rp K O H v d ∧ Dp K H v d) vs ds
  | _, _, .nil, _ => .nil
  | _, _, .cons h t, hp => .cons ⟨h, h.dp (hp _ List.mem_cons_self)⟩ (RpAll.each t fun d hd => hp d (List.mem_cons_of_mem _ hd))
theorem each_rp {K : PySem.W.Frag} {O : Addr → Prop} {H : Hp} : ∀ {vs : List V} {ds : List Dt}, PySem.W.EachIs (fun v d => Rp K O H v d) vs ds → RpAll K O H vs ds
  | _, _, .nil => .nil
  | _, _, .cons h t => .cons h (each_rp t)
def dSorted : Dt → Option Dt
  | .list ds => if okS ds then some (.list (isort ds)) else none
  | _ => none
theorem cd_sorted (K : PySem.W.Frag) : CD1 K (rSortedD K) dSorted := by
  intro x H Q ow dx dz ok rx e post
  unfold dSorted at e
  split at e
  · split at e
    · rename_i hok
      cases e
      obtain ⟨a, vs, rfl, h1, r⟩ := rx.list
      exact ⟨a, vs, _, _, rfl, SqL.of h1, hok, r.each (okS_plain hok), fun ys p hy hp => post _ _ (Same.upd hp) (.lst upd_same (ok.new hp) (RpAll.same (Same.upd hp) (each_rp hy)))⟩
    · cases e
  · cases e
/-! ### set(t) of a tuple of ints, under sorted and len -/
def ddup : List Int → List Int
  | [] => []
  | x :: xs => if xs.contains x then ddup xs else x :: ddup xs
theorem ddup_mem : ∀ {l : List Int} {k : Int}, k ∈ ddup l ↔ k ∈ l
  | [], _ => Iff.rfl
  | x :: xs, k => by
    unfold ddup
    split
    · rename_i h
      rw [ddup_mem, List.mem_cons]
      exact ⟨.inr, fun z => z.elim (fun e => by rw [e]; simpa using h) id⟩
    · rw [List.mem_cons, List.mem_cons, ddup_mem]
theorem ddup_nodup : ∀ l : List Int, (ddup l).Nodup
  | [] => List.nodup_nil
  | x :: xs => by
    unfold ddup
    split
    · exact ddup_nodup xs
    · rename_i h
      exact List.nodup_cons.mpr ⟨fun z => h (by simpa using ddup_mem.mp z), ddup_nodup xs⟩
theorem nodup_len : ∀ {a b : List Int}, a.Nodup → (∀ k, k ∈ a → k ∈ b) → a.length ≤ b.length := by
  intro a
  induction a with
  | nil => exact fun _ _ => Nat.zero_le _
  | cons x xs ih =>
    intro b hn h
    have hx : x ∈ b := h x List.mem_cons_self
    have hl := List.length_erase_of_mem hx
    have hp := List.length_pos_of_mem hx
    have := ih (b := b.erase x) (List.nodup_cons.mp hn).2 fun k hk => (List.mem_erase_of_ne (fun (e : k = x) => (List.nodup_cons.mp hn).1 (by rw [← e]; exact hk))).mpr (h k (List.mem_cons_of_mem _ hk))
    simp only [List.length_cons]
    omega
theorem setR_len {w : World} {h : Heap} {a : Addr} {ns : List Int} {c : Nat} (R : SetR w h a (fun j => decide (j ∈ ns)) c) : c = (ddup ns).length := by
  obtain ⟨o, es, ep, t, ho, hx, hd, hg, hn, hm, hb, hf, hc, _⟩ := R
  have e1 : (es.toList.map keyOf).length = c := by rw [List.length_map, Array.length_toList]; exact hc
  have hq : ∀ k, k ∈ es.toList.map keyOf ↔ k ∈ ddup ns := fun k => by rw [← hm k, ddup_mem, decide_eq_true_eq]
  have a1 := nodup_len hn fun k hk => (hq k).mp hk
  have a2 := nodup_len (ddup_nodup ns) fun k hk => (hq k).mpr hk
  omega
def rSetT (K : PySem.W.Frag) (w : World) : List V → Hp → VK → Prop := fun vs H Q => ∃ (p : Addr) (ns : List Int), vs = [.ref p] ∧ SqT K H p (ns.map V.int) ∧ ns.length ≤ 1000 ∧ ∀ l, H l = none → Q (.ref l) (upd H l (SetO w l (fun j => decide (j ∈ ns)) (ddup ns).length))
theorem cr_setT {X : Cx} (hc : X.calm = true) : CallR X (.type "set") (rSetT X.K X.w) := by
  intro pins s σ H vs us Q I r h
  obtain ⟨p, ns, rfl, hq, hl, q⟩ := h
  obtain ⟨its, rv, pt, hz⟩ := I.tuple hq
  rw [Vals.ref1 r]
  refine call_set_tupI ns (I.ok.hd hc) pt (by simpa using rv.ints) (by unfold scanBound; omega) fun h' tk c R hcn kk => ?_
  have e := setR_len R
  subst e
  exact ⟨.ref _, _, I.laid (t' := tk) kk (Nat.le_refl _) (setO_new R), rfl, q _ (I.hok.fresh (Nat.le_refl _))⟩
def rLenSetO (w : World) : List V → Hp → VK → Prop := fun vs H Q => ∃ (a : Addr) (S : Int → Bool) (n : Nat), vs = [V.ref a] ∧ H a = some (SetO w a S n) ∧ Q (.int n) H
theorem cr_lenSetO {X : Cx} : CallR X (.builtin "len") (rLenSetO X.w) := by
  intro pins s σ H vs us Q I r h
  obtain ⟨a, S, n, rfl, ha, q⟩ := h
  obtain ⟨o, es, ep, t, ho, hx, hd, hg, hn, hm, hb, hf, hc, _⟩ := setO_get I ha
  rw [Vals.ref1 r]
  exact call_len_set ho hx hd hf (by unfold scanBound at hb; omega) ⟨.int n, H, I.tok _, ⟨_, by rw [hc]⟩, q⟩
def unI : List Dt → Option (List Int)
  | [] => some []
  | .int i :: r => (unI r).map (i :: ·)
  | _ :: _ => none
theorem unI_eq : ∀ {ds : List Dt} {ns : List Int}, unI ds = some ns → ds = ns.map .int
  | [], _, h => by cases h; rfl
  | d :: ds, ns, h => by
    cases d with
    | int i =>
      simp only [unI] at h
      cases e : unI ds with
      | none => rw [e] at h; cases h
      | some m => rw [e] at h; cases h; rw [unI_eq e]; rfl
    | _ => cases h
theorem unI_map (ns : List Int) : unI (ns.map .int) = some ns := by
  induction ns with
  | nil => rfl
  | cons n ns ih => simp [unI, ih]
theorem RpAll.ints {K : PySem.W.Frag} {O : Addr → Prop} {H : Hp} : ∀ {ns : List Int} {vs : List V}, RpAll K O H vs (ns.map .int) → vs = ns.map V.int
  | [], _, .nil => rfl
  | n :: ns, _, .cons h t => by
    rw [RpAll.ints t]
    cases h
    rfl
theorem rp_ints {K : PySem.W.Frag} {O : Addr → Prop} {H : Hp} (ns : List Int) : RpAll K O H (ns.map V.int) (ns.map .int) := rp_map _ _ ns fun x _ => .int x
/-- the members in order -/
def sset (ns : List Int) : List Dt := isort ((ddup ns).map .int)
def dSortSet : Dt → Option Dt
  | .tuple ds => match unI ds with
    | some ns => if ns.length < 64 then some (.list (sset ns)) else none
    | none => none
  | _ => none
def dLenSet : Dt → Option Dt
  | .tuple ds => match unI ds with
    | some ns => if ns.length < 64 then some (.int (ddup ns).length) else none
    | none => none
  | _ => none
theorem dlt_int (a b : Int) : dlt (.int a) (.int b) = decide (a < b) := by rw [dlt]
theorem ins_int (x : Int) : ∀ l : List Int, ∃ m : List Int, ins (.int x) (l.map .int) = m.map .int
  | [] => ⟨[x], rfl⟩
  | y :: ys => by
    simp only [List.map_cons, ins]
    split
    · exact ⟨x :: y :: ys, rfl⟩
    · obtain ⟨m, hm⟩ := ins_int x ys
      exact ⟨y :: m, by rw [hm]; rfl⟩
theorem isort_int : ∀ l : List Int, ∃ m : List Int, isort (l.map .int) = m.map .int
  | [] => ⟨[], rfl⟩
  | x :: xs => by
    obtain ⟨m, hm⟩ := isort_int xs
    show ∃ m, ins (.int x) (isort (xs.map .int)) = _
    rw [hm]
    exact ins_int x m
theorem lt_unique : ∀ {a b : List Int}, a.Pairwise (· < ·) → b.Pairwise (· < ·) → (∀ k, k ∈ a ↔ k ∈ b) → a = b
  | [], [], _, _, _ => rfl
  | [], y :: ys, _, _, h => absurd ((h y).mpr List.mem_cons_self) (by simp)
  | x :: xs, [], _, _, h => absurd ((h x).mp List.mem_cons_self) (by simp)
  | x :: xs, y :: ys, ha, hb, h => by
    have pa := List.pairwise_cons.mp ha
    have pb := List.pairwise_cons.mp hb
    have e : x = y := by
      rcases List.mem_cons.mp ((h x).mp List.mem_cons_self) with e | e
      · exact e
      · rcases List.mem_cons.mp ((h y).mpr List.mem_cons_self) with e2 | e2
        · exact e2.symm
        · have := pb.1 x e
          have := pa.1 y e2
          omega
    subst e
    rw [lt_unique pa.2 pb.2 fun k => ?_]
    constructor
    · intro hk
      rcases List.mem_cons.mp ((h k).mp (List.mem_cons_of_mem _ hk)) with e | e
      · have := pa.1 k hk; omega
      · exact e
    · intro hk
      rcases List.mem_cons.mp ((h k).mpr (List.mem_cons_of_mem _ hk)) with e | e
      · have := pb.1 k hk; omega
      · exact e
theorem map_int_inj {a b : List Int} (h : a.map PyData.int = b.map PyData.int) : a = b := by
  have := congrArg unI h
  rw [unI_map, unI_map] at this
  exact Option.some.inj this
def toI : Dt → Option Int
  | .int i => some i
  | _ => none
theorem sset_eq (ns ms : List Int) (h1 : ms.Pairwise (· < ·)) (h2 : ∀ k, k ∈ ms ↔ k ∈ ns) : sset ns = ms.map .int := by
  obtain ⟨m, hm⟩ := isort_int (ddup ns)
  unfold sset
  rw [hm]
  have hok : okS ((ddup ns).map .int) = true := by
    unfold okS
    rw [Bool.or_eq_true]
    left
    rw [List.all_eq_true]
    intro d hd
    obtain ⟨i, _, rfl⟩ := List.mem_map.mp hd
    rfl
  have hs := isort_sorted (PySem.W.sortLe_total _ _ _) (dlt_ok hok)
  have hp := isort_perm ((ddup ns).map .int)
  rw [hm] at hs hp
  have hs2 : m.Pairwise (· ≤ ·) := by
    refine (List.pairwise_map.mp hs).imp fun {x y} h => ?_
    have h' : (!PySem.W.dataLt (.int y) (.int x)) = true := h
    rw [PySem.W.dataLt_int] at h'
    simpa using h'
  have hp2 : m.Perm (ddup ns) := by
    have e := hp.filterMap toI
    rw [List.filterMap_map, List.filterMap_map] at e
    have f : toI ∘ PyData.int = (some : Int → Option Int) := rfl
    rw [f, List.filterMap_some, List.filterMap_some] at e
    exact e
  have hn : m.Nodup := hp2.nodup_iff.mpr (ddup_nodup ns)
  rw [lt_unique (lt_of_le_nodup m hs2 hn) h1 fun k => by rw [hp2.mem_iff, ddup_mem, h2]]
section
variable {G : Gc} {N : List Str} {sc : Scope} {fn : Str → Bool} {k : Nat} {pos p p2 q1 q2 : Pos} {a b c : Expr} {f g h : EF}
theorem se_sorted (B : Bi G) (ha : SE G N sc fn k a f) (hg : GL sc "sorted" := by rfl) (ns : NS a := by intro _ _; rfl) : SE G N sc fn k (.Call (.Name "sorted" p) [a] [] pos) (eUn dSorted f) := fun X C W tk b' =>
  PE.imp (pe_callB (cr_sortedD C.room.units) (C.gl hg) (by rw [C.hmg]; exact B.sorted) PyProof.Rows.boot_sorted (pa_cons (ha X C W tk true) pa_nil (ns [] X.env)) (by decide) (by decide) (ns [] X.env) rfl) fun σ H Q h => tCB_of (cd_sorted X.K) h
theorem se_sortSet (B : Bi G) (ha : SE G N sc fn k a f) (hg : GL sc "sorted" := by rfl) (hg2 : GL sc "set" := by rfl) (ns : NS a := by intro _ _; rfl) : SE G N sc fn k (.Call (.Name "sorted" p) [.Call (.Name "set" p2) [a] [] q1] [] pos) (eUn dSortSet f) := fun X C W tk b' =>
  PE.imp (pe_callB (cr_sortedSet C.calm) (C.gl hg) (by rw [C.hmg]; exact B.sorted) PyProof.Rows.boot_sorted (pa_cons (pe_callTy (cr_setT C.calm) (C.gl hg2) (by rw [C.hmg]; exact B.set) PyProof.Rows.boot_set (pa_cons (ha X C W tk true) pa_nil (ns [] X.env)) (by decide) (by decide) (ns [] X.env) rfl) pa_nil rfl) (by decide) (by decide) rfl rfl) fun σ H Q h => by
    obtain ⟨ρ, ow, rs, he, gd, post⟩ := h
    refine tE.go gd he (fun n pl e => by subst e; exact post) fun d hd1 v H1 s1 r1 => ?_
    cases d with
    | tuple ds =>
      simp only [dSortSet] at hd1
      split at hd1
      · rename_i ns hns
        split at hd1
        · rename_i hl
          cases hd1
          obtain ⟨t, vs, rfl, hT, rr⟩ := r1.tuple
          obtain rfl := unI_eq hns
          obtain rfl := RpAll.ints rr
          refine ⟨t, ns, rfl, hT.sq, by omega, fun l hl0 => ⟨l, _, _, rfl, upd_same, ?_, fun ms p' h1 h2 _ hp' => ?_⟩⟩
          · have := nodup_len (ddup_nodup ns) (b := ns) fun k hk => ddup_mem.mp hk
            omega
          · have e := sset_eq ns ms h1 fun k => by rw [h2 k, decide_eq_true_eq]
            have s3 := (s1.trans (Same.upd hl0)).trans (Same.upd (o := .lst (ms.map V.int)) hp')
            refine post _ _ s3 (.inl ?_)
            rw [e]
            exact .lst upd_same ((gd.ok.same (s1.trans (Same.upd hl0))).new hp') (rp_ints ms)
        · cases hd1
      · cases hd1
    | _ => cases hd1
theorem se_lenSet (B : Bi G) (ha : SE G N sc fn k a f) (hg : GL sc "len" := by rfl) (hg2 : GL sc "set" := by rfl) (ns : NS a := by intro _ _; rfl) : SE G N sc fn k (.Call (.Name "len" p) [.Call (.Name "set" p2) [a] [] q1] [] pos) (eUn dLenSet f) := fun X C W tk b' =>
  PE.imp (pe_callB cr_lenSetO (C.gl hg) (by rw [C.hmg]; exact B.len) PySem.boot_len (pa_cons (pe_callTy (cr_setT C.calm) (C.gl hg2) (by rw [C.hmg]; exact B.set) PyProof.Rows.boot_set (pa_cons (ha X C W tk true) pa_nil (ns [] X.env)) (by decide) (by decide) (ns [] X.env) rfl) pa_nil rfl) (by decide) (by decide) rfl rfl) fun σ H Q h => by
    obtain ⟨ρ, ow, rs, he, gd, post⟩ := h
    refine tE.go gd he (fun n pl e => by subst e; exact post) fun d hd1 v H1 s1 r1 => ?_
    cases d with
    | tuple ds =>
      simp only [dLenSet] at hd1
      split at hd1
      · rename_i ns hns
        split at hd1
        · rename_i hl
          cases hd1
          obtain ⟨t, vs, rfl, hT, rr⟩ := r1.tuple
          obtain rfl := unI_eq hns
          obtain rfl := RpAll.ints rr
          refine ⟨t, ns, rfl, hT.sq, by omega, fun l hl0 => ⟨l, _, _, rfl, upd_same, ?_⟩⟩
          exact post _ _ (s1.trans (Same.upd hl0)) (.inl (.int _))
        · cases hd1
      · cases hd1
    | _ => cases hd1
end
end PT

namespace PT
open PySem PySem.Spec PyProof.Rows L2
theorem kit_int : KitOk "int" := by intro K d; cases d <;> kernel_rfl
theorem kit_bool : KitOk "bool" := by intro K d; cases d <;> kernel_rfl
theorem kit_tuple : KitOk "tuple" := by intro K d; cases d <;> kernel_rfl
theorem kit_str : KitOk "str" := by intro K d; cases d <;> kernel_rfl
theorem kit_list : KitOk "list" := by intro K d; cases d <;> kernel_rfl
section
variable {G : Gc} {N : List Str} {sc : Scope} {fn : Str → Bool} {k : Nat} {pos p p2 q1 q2 : Pos} {st : Stmt} {rest : List Stmt} {a b c : Expr} {f g h : EF} {s1 s2 : SF}
def sUn (i : Nat) (s : SF) : SF := fun ρ => s (unown i ρ)
theorem ss_un (i : Nat) (h : SS G N sc fn k st s1) : SS G N sc fn k st (sUn i s1) := ss_unown i h
/-! a comprehension given to a name that a comprehension holds on to -/
theorem sw_cell {elt : Expr} {gs : List Comprehension} {scope : Scope} {y : Str} {py : Pos} {l : Nat} {env : PySem.Env} (hy : env.scope.names.lookup y = some .cell) : swapsWith (.ListComp elt gs scope pos) (some (.Name y py)) l env = pure false := by
  have ky : env.kindOf y = some .cell := hy
  unfold swapsWith
  simp only [ky]
  have : (some NameKind.cell == some NameKind.local) = false := by decide
  rw [this]
  simp
theorem ag_ofC (i : Nat) {y : Str} {elt : Expr} {gs : List Comprehension} {scope : Scope} (he : SE G N sc fn k (.ListComp elt gs scope pos) f) (hi : N[i]? = some y := by rfl) (hx : sc.names.lookup y = some .cell := by rfl) (hf : fn y = true := by rfl) : SAg G N sc fn k y i (.ListComp elt gs scope pos) f := fun X C W tk py spos =>
  ps_set (by rw [C.hN]; exact C.nd) (by rw [C.hN]; exact hi) (by rw [C.hsc]; exact .inr hx) (he X C W tk false) (sw_cell (by rw [C.hsc]; exact hx)) (by rw [C.hfn, C.hsc]; exact .inl hf)
theorem agL_ofC (i : Nat) {y : Str} {elt : Expr} {gs : List Comprehension} {scope : Scope} (he : SL G N sc fn k (.ListComp elt gs scope pos) f) (hi : N[i]? = some y := by rfl) (hx : sc.names.lookup y = some .cell := by rfl) (hf : fn y = true := by rfl) : SAgL G N sc fn k y i (.ListComp elt gs scope pos) f := fun X C W tk py spos =>
  ps_set (by rw [C.hN]; exact C.nd) (by rw [C.hN]; exact hi) (by rw [C.hsc]; exact .inr hx) (he X C W tk) (sw_cell (by rw [C.hsc]; exact hx)) (by rw [C.hfn, C.hsc]; exact .inl hf)
end
/-! ## the end: the law's promise, exceptions by world -/
theorem walk_pt {l : PySem.W.OpenLaw} {n k : Nat} {q : Program} {loose : List Str} {XP : (Str → Option Value) → Heap → Prop} {YP : World → Heap → Prop} {d : DefRec} {CX : World → CXT} {x : Str} (hn : l.most = some n) (hn2 : n ≤ sizeLine) (hdf : d.params.defaults = []) (hr : Room k callerA)
    (F : ∀ (w : World) (mg : Str → Option Value) (f : Addr) (h : Heap), YP w h → h.Ns mainGlobals mg → mg d.name = some (.ref f) →
      ∃ (K : PySem.W.Frag) (fd : FuncData) (sp : Sp), K.In h ∧ (∀ (s : Shared) (u : Value), BindsTo s fd ⟨[u], []⟩ [(x, u)]) ∧
        (∀ (H : Hp) (a : Addr) (ns : List Int), ns.length ≤ n → Only H → SqL K H a (ns.map V.int) → sp [.ref a] H (fun v _ => v = .bl true) fun _ _ _ => False) ∧
        ∀ base : Heap, K.In base → base.Ns mainGlobals mg → FnOk l.prog w K mg base (CX w) k f fd [x] sp)
    (hX : ∀ (w : World) (H : Hp) (s : Shared) (e : Value) (s2 : Shared), CX w [] H s (fun _ _ _ => False) e s2 → False) : PySem.W.WalkO q loose XP YP l.row.toRowW d [] (fun f vs => PySem.call f vs) := by
  refine Att.attach_call hn hdf fun w s0 s1 mg mb f o pm cd doc a us ns G Y ho hd hcd hm hob hin hle hg => ?_
  obtain ⟨K, fd, sp, kx, hb, hq, hF⟩ := F w mg f _ Y G.T.g hm
  exact law_call kx G.T.g G.T.b G.T.builtins G.T.nolimit hg hob hin (Nat.le_trans hle hn2) hr hF hb (fun H hO hS => hq H a ns hle hO hS) fun H e s2 => hX w H s1 e s2
end PT

namespace PT
open PySem PySem.Spec PyProof.Rows L2
/-! ## plain working-out of the combinators -/
section
variable {b : Bool} {ρ : En} {f g h : EF} {d : Dt} {i : Nat}
@[simp] theorem w_bnd (d : Dt) (k : Dt → Option Rs) : bnd (some (.val d)) k = k d := Eq.trans rfl rfl
@[simp] theorem w_bndX (n : Str) (pl : Option Dt) (k : Dt → Option Rs) : bnd (some (.exc n pl)) k = some (.exc n pl) := Eq.trans rfl rfl
@[simp] theorem w_bndN (k : Dt → Option Rs) : bnd none k = none := Eq.trans rfl rfl
@[simp] theorem w_bndS (d : Dt) (k : Dt → Option Out) : bndS (some (.val d)) k = k d := Eq.trans rfl rfl
@[simp] theorem w_bndSX (n : Str) (pl : Option Dt) (k : Dt → Option Out) : bndS (some (.exc n pl)) k = some (.ex n pl) := Eq.trans rfl rfl
@[simp] theorem w_bndSN (k : Dt → Option Out) : bndS none k = none := Eq.trans rfl rfl
@[simp] theorem w_bndI (d : Dt) (k : Dt → Option Irs) : bndI (some (.val d)) k = k d := Eq.trans rfl rfl
@[simp] theorem w_bndA (d : List Dt) (k : List Dt → Option Rs) : bndA (some (.vals d)) k = k d := Eq.trans rfl rfl
@[simp] theorem w_c : eC d b ρ = some (.val d) := Eq.trans rfl rfl
@[simp] theorem w_bin (op : Dt → Dt → Option Dt) : eBin op f g b ρ = bnd (f true ρ) fun x => bnd (g true ρ) fun y => (op x y).map .val := Eq.trans rfl rfl
@[simp] theorem w_un (op : Dt → Option Dt) : eUn op f b ρ = bnd (f true ρ) fun x => (op x).map .val := Eq.trans rfl rfl
@[simp] theorem w_nil : aNil ρ = some (.vals []) := Eq.trans rfl rfl
@[simp] theorem w_cons (f : EF) (g : AF) : aCons f g ρ = (match f false ρ with
  | some (.val d) => (match g ρ with
    | some (.vals ds) => some (.vals (d :: ds))
    | y => y)
  | some (.exc n pl) => some (.exc n pl)
  | none => none) := Eq.trans rfl rfl
@[simp] theorem w_fn (n : Nat) (F : List Dt → Option Rs) (g : AF) : eFn n F g b ρ = bndA (g ρ) fun ds => if ds.length = n then F ds else none := Eq.trans rfl rfl
@[simp] theorem w_seq (s1 s2 : SF) : sSeq s1 s2 ρ = (match s1 ρ with
  | some (.nx ρ') => s2 ρ'
  | y => y) := Eq.trans rfl rfl
@[simp] theorem w_nop : sNop ρ = some (.nx ρ) := Eq.trans rfl rfl
@[simp] theorem w_set : sSet i f ρ = bndS (f false ρ) fun d => some (.nx (ρ.set i (some (.sh d)))) := Eq.trans rfl rfl
@[simp] theorem w_setO : sSetO i f ρ = bndS (f true ρ) fun d => match d with
  | .list ds => if i < ρ.length then some (.nx (ρ.set i (some (.own ds)))) else none
  | _ => none := Eq.trans rfl rfl
@[simp] theorem w_ret : sRet f ρ = bndS (f true ρ) fun d => some (.rt d) := Eq.trans rfl rfl
@[simp] theorem w_do : sDo f ρ = bndS (f true ρ) fun _ => some (.nx ρ) := Eq.trans rfl rfl
@[simp] theorem w_if (s1 s2 : SF) : sIf f s1 s2 ρ = bndS (f true ρ) fun x => match tru x with
  | some true => s1 ρ
  | some false => s2 ρ
  | none => none := Eq.trans rfl rfl
end
section
variable {b : Bool} {ρ : En} {f g h : EF} {d : Dt} {i n : Nat} {x y : Int}
@[simp] theorem w_v0 : eVar 0 b (some (.sh d) :: ρ) = some (.val d) := Eq.trans rfl rfl
@[simp] theorem w_o0 (xs : List Dt) : eVar 0 true (some (.own xs) :: ρ) = some (.val (.list xs)) := Eq.trans rfl rfl
@[simp] theorem w_o0f (xs : List Dt) : eVar 0 false (some (.own xs) :: ρ) = none := Eq.trans rfl rfl
@[simp] theorem w_vs (s : Option SV) : eVar (n + 1) b (s :: ρ) = eVar n b ρ := Eq.trans rfl rfl
@[simp] theorem w_clr0 : clr ρ [] = ρ := Eq.trans rfl rfl
@[simp] theorem w_clrs (v : Nat) (vs : List Nat) : clr ρ (v :: vs) = (clr ρ vs).set v none := Eq.trans rfl rfl
@[simp] theorem w_nm : gNm i d ρ = some (ρ.set i (some (.sh d))) := Eq.trans rfl rfl
@[simp] theorem w_pr (g1 g2 : GF) (p q : Dt) : gPr g1 g2 (.tuple [p, q]) ρ = (g1 p ρ).bind (g2 q) := Eq.trans rfl rfl
@[simp] theorem w_add : dAdd (.int x) (.int y) = some (.int (x + y)) := Eq.trans rfl rfl
@[simp] theorem w_sub : dSub (.int x) (.int y) = some (.int (x - y)) := Eq.trans rfl rfl
@[simp] theorem w_mul : dMul (.int x) (.int y) = if sml x || sml y then some (.int (x * y)) else none := Eq.trans rfl rfl
theorem w_mulI : dMulI (.int x) (.int y) = if sml x || sml y then some (.int (x * y)) else none := Eq.trans rfl rfl
@[simp] theorem w_addI : dAddI (.int x) (.int y) = some (.int (x + y)) := Eq.trans rfl rfl
theorem w_mod (h : 0 < y) : dMod (.int x) (.int y) = some (.int (x % y)) := by
  have e : (decide (y ≠ 0)) = true := decide_eq_true (by omega)
  show (if (decide (y ≠ 0)) = true then some (PyData.int (x.fmod y)) else none) = _
  rw [if_pos e, Int.fmod_eq_emod_of_nonneg x (by omega)]
theorem w_div (h : 0 < y) (h2 : y < 1073741824) : dDiv (.int x) (.int y) = some (.int (x / y)) := by
  have e : (decide (y ≠ 0) && decide (y.natAbs < 1073741824)) = true := by
    rw [Bool.and_eq_true]
    exact ⟨decide_eq_true (by omega), decide_eq_true (by omega)⟩
  show (if (decide (y ≠ 0) && decide (y.natAbs < 1073741824)) = true then some (PyData.int (x.fdiv y)) else none) = _
  rw [if_pos e, Int.fdiv_eq_ediv_of_nonneg x (by omega)]
@[simp] theorem w_lt : dLt (.int x) (.int y) = some (.bool (decide (x < y))) := Eq.trans rfl rfl
@[simp] theorem w_le : dLe (.int x) (.int y) = some (.bool (decide (x ≤ y))) := Eq.trans rfl rfl
@[simp] theorem w_gt : dGt (.int x) (.int y) = some (.bool (decide (y < x))) := Eq.trans rfl rfl
@[simp] theorem w_ge : dGe (.int x) (.int y) = some (.bool (decide (y ≤ x))) := Eq.trans rfl rfl
@[simp] theorem w_truB (c : Bool) : tru (.bool c) = some c := Eq.trans rfl rfl
@[simp] theorem w_truI : tru (.int x) = some (x != 0) := Eq.trans rfl rfl
@[simp] theorem w_truL (xs : List Dt) : tru (.list xs) = some (!xs.isEmpty) := Eq.trans rfl rfl
@[simp] theorem w_truT (xs : List Dt) : tru (.tuple xs) = some (!xs.isEmpty) := Eq.trans rfl rfl
@[simp] theorem w_truN : tru .none = some false := Eq.trans rfl rfl
@[simp] theorem w_lenL (xs : List Dt) : dLen (.list xs) = some (.int xs.length) := Eq.trans rfl rfl
@[simp] theorem w_lenT (xs : List Dt) : dLen (.tuple xs) = some (.int xs.length) := Eq.trans rfl rfl
@[simp] theorem w_tupL (xs : List Dt) : dTuple (.list xs) = some (.tuple xs) := Eq.trans rfl rfl
@[simp] theorem w_listT (xs : List Dt) : dList (.tuple xs) = some (.list xs) := Eq.trans rfl rfl
@[simp] theorem w_listL (xs : List Dt) : dList (.list xs) = some (.list xs) := Eq.trans rfl rfl
@[simp] theorem w_app0 (xs : List Dt) : sApp 0 f (some (.own xs) :: ρ) = bndS (f false (some (.own xs) :: ρ)) fun d => if xs.length < lim then some (.nx (some (.own (xs ++ [d])) :: ρ)) else none := Eq.trans rfl rfl
theorem w_app : sApp i f ρ = match ρ[i]? with
  | some (some (.own xs)) => bndS (f false ρ) fun d => if xs.length < lim then some (.nx (ρ.set i (some (.own (xs ++ [d]))))) else none
  | _ => none := Eq.trans rfl rfl
theorem w_aug (op : Dt → Dt → Option Dt) : sAug i op f ρ = match ρ[i]? with
  | some (some (.sh x)) => bndS (f true ρ) fun y => (op x y).map fun z => .nx (ρ.set i (some (.sh z)))
  | _ => none := Eq.trans rfl rfl
theorem w_for (sl : List Nat) (tg : GF) (it : IF) (body : SF) : sFor sl tg it body ρ = match it false ρ with
  | some (.it xs) => forL sl tg body xs ρ
  | some (.exc n pl) => some (.ex n pl)
  | none => none := Eq.trans rfl rfl
end
theorem ixN_nat {n k : Nat} (h : k < n) : ixN n (k : Int) = some k := by
  unfold ixN
  rw [if_pos (Int.natCast_nonneg k), if_pos (by omega)]
  simp
/-- one turn of a loop -/
def turn (sl : List Nat) (tg : GF) (body : SF) (x : Dt) (ρ : En) : Option Out := (tg x (clr ρ sl)).bind body
theorem forL_cons {sl : List Nat} {tg : GF} {body : SF} {x : Dt} {xs : List Dt} {ρ ρ2 : En} (h : turn sl tg body x ρ = some (.nx ρ2)) : forL sl tg body (x :: xs) ρ = forL sl tg body xs ρ2 := by
  unfold turn at h
  rw [forL]
  cases h1 : tg x (clr ρ sl) with
  | none => rw [h1] at h; cases h
  | some ρ1 =>
    rw [h1] at h
    have h' : body ρ1 = some (.nx ρ2) := h
    simp only [h']
theorem forL_stop {sl : List Nat} {tg : GF} {body : SF} {x : Dt} {xs : List Dt} {ρ : En} {d : Dt} (h : turn sl tg body x ρ = some (.rt d)) : forL sl tg body (x :: xs) ρ = some (.rt d) := by
  unfold turn at h
  rw [forL]
  cases h1 : tg x (clr ρ sl) with
  | none => rw [h1] at h; cases h
  | some ρ1 =>
    rw [h1] at h
    have h' : body ρ1 = some (.rt d) := h
    simp only [h']
theorem forL_inv {sl : List Nat} {tg : GF} {body : SF} (P : Nat → En → Prop) : ∀ (xs : List Dt) (i : Nat) (ρ : En), P i ρ → (∀ j x ρ, xs[j]? = some x → P (i + j) ρ → ∃ ρ2, turn sl tg body x ρ = some (.nx ρ2) ∧ P (i + j + 1) ρ2) →
    ∃ ρ', forL sl tg body xs ρ = some (.nx ρ') ∧ P (i + xs.length) ρ'
  | [], i, ρ, h0, _ => ⟨ρ, rfl, h0⟩
  | x :: xs, i, ρ, h0, hs => by
    obtain ⟨ρ2, h1, h3⟩ := hs 0 x ρ rfl h0
    obtain ⟨ρ', h4, h5⟩ := forL_inv P xs (i + 1) ρ2 h3 fun j y ρ hy hp => by
      have e : i + 1 + j = i + (j + 1) := by omega
      rw [e] at hp ⊢
      exact hs (j + 1) y ρ (by simpa using hy) hp
    refine ⟨ρ', ?_, ?_⟩
    · rw [forL_cons h1]
      exact h4
    · have e : i + (x :: xs).length = i + 1 + xs.length := by simp; omega
      rw [e]; exact h5

theorem lcL_filter {c e : EF} {tg : GF} {ρ : En} (p : Dt → Bool) (h : Dt → Dt) : ∀ (xs : List Dt), (∀ x ∈ xs, ∃ ρ1 d, tg x ρ = some ρ1 ∧ c true ρ1 = some (.val d) ∧ tru d = some (p x) ∧ (p x = true → e false ρ1 = some (.val (h x)))) → lcL c e tg ρ xs = some ((xs.filter p).map h)
  | [], _ => rfl
  | x :: xs, H => by
    obtain ⟨ρ1, d, h1, h2, h3, h4⟩ := H x List.mem_cons_self
    have ih := lcL_filter p h xs fun y hy => H y (List.mem_cons_of_mem _ hy)
    unfold lcL
    simp only [h1, h2, h3]
    cases hp : p x with
    | true => simp only [h4 hp, ih, List.filter_cons, hp, if_true, Option.map_some, List.map_cons]
    | false => simp [ih, List.filter_cons, hp]
theorem lcL_map {e : EF} {tg : GF} {ρ : En} (h : Dt → Dt) (xs : List Dt) (H : ∀ x ∈ xs, ∃ ρ1, tg x ρ = some ρ1 ∧ e false ρ1 = some (.val (h x))) : lcL (eC (.bool true)) e tg ρ xs = some (xs.map h) := by
  have := lcL_filter (c := eC (.bool true)) (e := e) (tg := tg) (ρ := ρ) (fun _ => true) h xs fun x hx => by
    obtain ⟨ρ1, h1, h2⟩ := H x hx
    exact ⟨ρ1, _, h1, rfl, rfl, fun _ => h2⟩
  rw [this, List.filter_eq_self.mpr fun _ _ => rfl]
theorem sml_of {x : Int} (h1 : -1000000 ≤ x) (h2 : x ≤ 1000000) : sml x = true := by
  rw [sml_iff]
  omega
theorem w_rg1 {f : EF} {b : Bool} {ρ : En} {n : Nat} (h : f true ρ = some (.val (.int (n : Int)))) (hn : n ≤ 1000000) : iRg1 f b ρ = some (.it (rgL 0 n)) := by
  unfold iRg1
  rw [h]
  show (if okI (n : Int) = true then some (Irs.it (rgL 0 (n : Int).toNat)) else none) = _
  rw [if_pos (okI_iff.mpr (by omega))]
  rfl
theorem w_rg2 {f g : EF} {b : Bool} {ρ : En} {lo hi : Int} (h : f true ρ = some (.val (.int lo))) (h' : g true ρ = some (.val (.int hi))) (h1 : -1000000 ≤ lo) (h2 : lo ≤ 1000000) (h3 : -1000000 ≤ hi) (h4 : hi ≤ 1000000) : iRg2 f g b ρ = some (.it (rgL lo (hi - lo).toNat)) := by
  unfold iRg2
  rw [h, h']
  show (if okI lo = true ∧ okI hi = true then some (Irs.it (rgL lo (hi - lo).toNat)) else none) = _
  rw [if_pos ⟨okI_iff.mpr (by omega), okI_iff.mpr (by omega)⟩]
theorem rgL_mem {lo : Int} {n : Nat} {x : Dt} (h : x ∈ rgL lo n) : ∃ i : Nat, i < n ∧ x = .int (lo + i) := by
  unfold rgL at h
  obtain ⟨i, hi, e⟩ := List.mem_map.mp h
  exact ⟨i, List.mem_range.mp hi, e.symm⟩
theorem rgL_at {lo : Int} {n j : Nat} {x : Dt} (h : (rgL lo n)[j]? = some x) : j < n ∧ x = .int (lo + j) := by
  have hj : j < n := by
    have := (List.getElem?_eq_some_iff.mp h).1
    rw [rgL_length] at this
    exact this
  rw [rgL_get hj] at h
  exact ⟨hj, (Option.some.inj h).symm⟩
theorem w_ixL {xs : List Dt} {i : Nat} {d : Dt} (h : xs[i]? = some d) : dIx (.list xs) (.int (i : Int)) = some d := atI_of (ixN_nat (List.getElem?_eq_some_iff.mp h).1) h
theorem w_ixT {xs : List Dt} {i : Nat} {d : Dt} (h : xs[i]? = some d) : dIx (.tuple xs) (.int (i : Int)) = some d := atI_of (ixN_nat (List.getElem?_eq_some_iff.mp h).1) h
theorem get_map_int {l : List Int} {i : Nat} (h : i < l.length) : (l.map PyData.int)[i]? = some (.int (l.getD i 0)) := by
  rw [List.getElem?_map, List.getElem?_eq_getElem h, List.getD_eq_getElem?_getD, List.getElem?_eq_getElem h]; rfl
theorem w_lc {sl : List Nat} {tg : GF} {it : IF} {c e : EF} {b : Bool} {ρ : En} {xs ys : List Dt} (h1 : it true ρ = some (.it xs)) (h2 : noOwn ρ sl = true) (h3 : xs.length ≤ lim) (h4 : lcL c e tg (clr ρ sl) xs = some ys) : eLc sl tg it c e b ρ = some (.val (.list ys)) := by
  unfold eLc
  rw [h1]
  simp only [h2, decide_eq_true h3, h4]
  rfl
theorem w_seqL {f : EF} {b : Bool} {ρ : En} {xs : List Dt} (h : f b ρ = some (.val (.list xs))) : iSeq f b ρ = some (.it xs) := by
  unfold iSeq
  rw [h]
  rfl
theorem w_seqT {f : EF} {b : Bool} {ρ : En} {xs : List Dt} (h : f b ρ = some (.val (.tuple xs))) : iSeq f b ρ = some (.it xs) := by
  unfold iSeq
  rw [h]
  rfl
theorem w_addL {xs ys : List Dt} (h : xs.length + ys.length ≤ lim) : dAdd (.list xs) (.list ys) = some (.list (xs ++ ys)) := by
  show (if xs.length + ys.length ≤ lim then some (PyData.list (xs ++ ys)) else none) = _
  rw [if_pos h]
theorem w_addT {xs ys : List Dt} (h : xs.length + ys.length ≤ lim) : dAdd (.tuple xs) (.tuple ys) = some (.tuple (xs ++ ys)) := by
  show (if xs.length + ys.length ≤ lim then some (PyData.tuple (xs ++ ys)) else none) = _
  rw [if_pos h]
theorem w_eqI (x y : Int) : dEq (.int x) (.int y) = some (.bool (decide (x = y))) := by
  have e1 : dEq (.int x) (.int y) = some (.bool (PyData.eqv (.int x) (.int y))) := Eq.trans rfl rfl
  rw [e1, eqv_int]
theorem w_neI (x y : Int) : dNe (.int x) (.int y) = some (.bool (!decide (x = y))) := by
  have e1 : dNe (.int x) (.int y) = some (.bool (!PyData.eqv (.int x) (.int y))) := Eq.trans rfl rfl
  rw [e1, eqv_int]
theorem sset_len (ns : List Int) : (sset ns).length = (ddup ns).length := by
  unfold sset
  rw [(isort_perm _).length_eq, List.length_map]
/-- a tuple of whole numbers -/
abbrev tI' (l : List Int) : Dt := .tuple (l.map .int)
end PT

namespace PT
open PySem PySem.Spec PyProof.Rows L2

/-! ## enumerate(zip(list, list)): the zip's last tuple may be held or gone -/
abbrev ZS (h : Heap) (z TI TO : Addr) (f0 : Value) (f : Bool) : Prop :=
  h.get? z = some { cls := .type "zip", dict := none, data := .fields #[f0, .bool f, .bool false, .ref TI, .ref TO], slots := #[] }
def Z0 (v : Value) : Prop := v = .none ∨ ∃ T : Nat, v = rawInt (T : Int)
section
variable {prog : Program} {w : World} {A : Around} {E : Value → Shared → Prop} {s : Shared}
theorem z_free {z TI TO : Addr} {f0 : Value} {f : Bool} {Q : Bool → Shared → Prop} (hz : ZS s.heap z TI TO f0 f) (h0 : f0 = .none ∨ ∃ T : Nat, f0 = rawInt (T : Int) ∧ s.heap.get? T = none) (h : Q true s) : wpAny (model prog w) A (Builtin.SmallTypes.ownedTupleIsFree (.ref z)) Q E s := by
  unfold Builtin.SmallTypes.ownedTupleIsFree
  rcases h0 with rfl | ⟨T, rfl, hT⟩
  · exact wpAny_bind (wpAny_field hz rfl (x := .none) rfl (wpAny_pure h))
  · refine wpAny_bind (wpAny_field hz rfl (x := rawInt T) rfl ?_)
    show wpAny _ _ (loadIfAlive ((T : Int).toNat) >>= _) _ _ _
    rw [Int.toNat_natCast]
    have q : wpAny (model prog w) A (loadIfAlive T) (fun o s' => o = none ∧ s' = s) E s := fun _ _ _ => ⟨hT, rfl⟩
    refine wpAny_bind (wpAny_mono q (fun o s' h' => ?_) fun _ _ e => e)
    obtain ⟨rfl, rfl⟩ := h'
    exact wpAny_pure h
theorem z_item {z TI TO i1 i2 l1 l2 : Addr} {k1 k2 : Nat} {f0 : Value} {f : Bool} {xs ys : Array Value} {x y a b : Value} {Q : Value → Shared → Prop} (D : ZipApart z TI TO i1 i2 l1 l2)
    (hz : ZS s.heap z TI TO f0 f) (h0 : Z0 f0) (hTI : IsPair s.heap TI (.ref i1) (.ref i2)) (hTO : IsPair s.heap TO a b) (h1 : s.heap.IsListIter i1 l1 k1) (h2 : s.heap.IsListIter i2 l2 k2) (hl1 : s.heap.IsList l1 xs) (hl2 : s.heap.IsList l2 ys) (hx : xs[k1]? = some x) (hy : ys[k2]? = some y)
    (hQ : ∀ h' f0' f' a' b', ZS h' z TI TO f0' f' → Z0 f0' → IsPair h' TO a' b' → h'.IsListIter i1 l1 (k1 + 1) → h'.IsListIter i2 l2 (k2 + 1) → IsPair h' s.heap.objs.size x y → h'.objs.size = s.heap.objs.size + 1 →
      (∀ c o, c ≠ z → c ≠ TO → c ≠ i1 → c ≠ i2 → s.heap.get? c = some o → h'.get? c = some o) → Q (.ref s.heap.objs.size) { s with heap := h' }) :
    wpAny (model prog w) A (Builtin.«zip.__next__» ⟨[.ref z], []⟩) (fun fin s' => ∃ v, fin = .done (.ret v) ∧ Q v s') E s := by
  have free : (f0 = .none ∨ ∃ T : Nat, f0 = rawInt (T : Int) ∧ s.heap.get? T = none) → wpAny (model prog w) A (Builtin.«zip.__next__» ⟨[.ref z], []⟩) (fun fin s' => ∃ v, fin = .done (.ret v) ∧ Q v s') E s := fun hfr => by
    show wpAny _ _ (field (.ref z) 2 >>= _) _ _ _
    refine wpAny_bind (wpAny_field hz rfl (x := .bool false) rfl ?_)
    show wpAny _ _ (field (.ref z) 3 >>= _) _ _ _
    refine wpAny_bind (wpAny_field hz rfl (x := .ref TI) rfl ?_)
    refine wpAny_bind (wpAny_seqItems hTI rfl ?_)
    show wpAny _ _ (Builtin.SmallTypes.ownedTupleIsFree (.ref z) >>= _) _ _ _
    refine wpAny_bind (z_free hz hfr ?_)
    simp only [if_true]
    refine wpAny_bind (wpAny_rule ?_)
    refine wpAny_bind (wpAny_field hz rfl (x := .ref TO) rfl ?_)
    refine wpAny_bind (wpAny_setField_rec hz (by simp) fun ha za sa => ?_)
    replace za : ZS ha z TI TO .ellipsis f := za
    refine wpAny_bind ?_
    simp only [List.zipIdx_cons, List.zipIdx_nil, List.forIn_cons, List.forIn_nil]
    refine wpAny_bind (wpAny_bind (wpAny_onRaise ?_))
    show wpAny _ _ (Builtin.SmallTypes.nextOf (.ref i1) >>= _) _ _ _
    refine wpAny_bind (wpAny_nextOf_list_item (h1.extBut sa.extBut D.i1z) (hl1.extBut sa.extBut D.l1z) hx fun hb h1b sb => wpAny_pure ?_)
    have tb : IsPair hb TO a b := sb.extBut _ _ D.TOi1 (sa.extBut _ _ D.TOz hTO)
    refine wpAny_bind (wpAny_seqItems tb rfl ?_)
    refine wpAny_bind (wpAny_updateSeq_pair tb fun hc tc sc => ?_)
    replace tc : IsPair hc TO x b := tc
    refine wpAny_bind (wpAny_letGo (wpAny_pure ?_))
    refine wpAny_bind (wpAny_bind (wpAny_onRaise ?_))
    show wpAny _ _ (Builtin.SmallTypes.nextOf (.ref i2) >>= _) _ _ _
    refine wpAny_bind (wpAny_nextOf_list_item (((h2.extBut sa.extBut D.i2z).extBut sb.extBut D.i12.symm).extBut sc.extBut D.TOi2.symm) (((hl2.extBut sa.extBut D.l2z).extBut sb.extBut D.l2i1).extBut sc.extBut D.l2TO) hy fun hd h2d sd => wpAny_pure ?_)
    have td : IsPair hd TO x b := sd.extBut _ _ D.TOi2 tc
    refine wpAny_bind (wpAny_seqItems td rfl ?_)
    refine wpAny_bind (wpAny_updateSeq_pair td fun he te se => ?_)
    replace te : IsPair he TO x y := te
    refine wpAny_bind (wpAny_letGo (wpAny_pure (wpAny_pure ?_)))
    refine wpAny_bind (wpAny_seqItems te rfl ?_)
    refine wpAny_bind (wpAny_newTuple ?_)
    have hsz : he.objs.size = s.heap.objs.size := by rw [se.1, sd.1, sc.1, sb.1, sa.1]
    have ze : ZS he z TI TO .ellipsis f := se.extBut _ _ D.TOz.symm (sd.extBut _ _ D.i2z.symm (sc.extBut _ _ D.TOz.symm (sb.extBut _ _ D.i1z.symm za)))
    have kk : ∀ c o, c ≠ z → c ≠ TO → c ≠ i1 → c ≠ i2 → s.heap.get? c = some o → he.get? c = some o := fun c o c1 c2 c3 c4 e => se.extBut _ _ c2 (sd.extBut _ _ c4 (sc.extBut _ _ c2 (sb.extBut _ _ c3 (sa.extBut _ _ c1 e))))
    have h1e : he.IsListIter i1 l1 (k1 + 1) := ((h1b.extBut sc.extBut D.TOi1.symm).extBut sd.extBut D.i12).extBut se.extBut D.TOi1.symm
    have h2e : he.IsListIter i2 l2 (k2 + 1) := h2d.extBut se.extBut D.TOi2.symm
    have zl : z < he.objs.size := Heap.lt_size ze
    show wpAny _ _ (Builtin.SmallTypes.ownedTupleHandOut (.ref z) (.ref he.objs.size) >>= _) _ _ _
    refine wpAny_bind ?_
    unfold Builtin.SmallTypes.ownedTupleHandOut
    have zf : ZS (he.push { cls := .type "tuple", data := .seq #[x, y] }) z TI TO .ellipsis f := Heap.get?_push_of_some _ ze
    refine wpAny_bind (wpAny_setField_rec zf (by simp) fun hg zg sg => ?_)
    replace zg : ZS hg z TI TO (rawInt he.objs.size) f := zg
    refine wpAny_setField_rec zg (by simp) fun hi zi si => ?_
    replace zi : ZS hi z TI TO (rawInt he.objs.size) false := zi
    have up : ∀ c o, c ≠ z → he.get? c = some o → hi.get? c = some o := fun c o c1 e => si.extBut _ _ c1 (sg.extBut _ _ c1 (Heap.get?_push_of_some _ e))
    have ti : IsPair hi he.objs.size x y := si.extBut _ _ (Nat.ne_of_gt zl) (sg.extBut _ _ (Nat.ne_of_gt zl) (Heap.get?_push_size _ rfl))
    have zz : hi.objs.size = he.objs.size + 1 := by rw [si.1, sg.1, Heap.size_push]
    rw [hsz] at zi ti zz
    refine wpAny_pure ⟨_, rfl, ?_⟩
    show Q (.ref he.objs.size) _
    rw [hsz]
    exact hQ hi _ _ _ _ zi (.inr ⟨_, rfl⟩) (up _ _ D.TOz te) (h1e.at fun o e => up _ o D.i1z e) (h2e.at fun o e => up _ o D.i2z e) ti zz fun c o c1 c2 c3 c4 e => up c o c1 (kk c o c1 c2 c3 c4 e)
  rcases h0 with e0 | ⟨T, e0⟩
  · exact free (.inl e0)
  · cases hT : s.heap.get? T with
    | none => exact free (.inr ⟨T, e0, hT⟩)
    | some oT =>
      subst e0
      refine zip_next_item_held D hz hT hTI h1 h2 hl1 hl2 hx hy fun h' z' a1 a2 p' sz kp => ?_
      exact hQ h' _ _ _ _ z' (.inr ⟨T, rfl⟩) (kp _ _ D.TOz D.TOi1 D.TOi2 hTO) a1 a2 p' sz fun c o c1 _ c3 c4 e => kp c o c1 c3 c4 e
theorem z_end {z TI TO i1 i2 l1 l2 : Addr} {k1 k2 : Nat} {f0 : Value} {f : Bool} {xs ys : Array Value} {a b : Value} {Q : Fin → Shared → Prop} (hh : A.handled = none) (D : ZipApart z TI TO i1 i2 l1 l2)
    (hz : ZS s.heap z TI TO f0 f) (h0 : Z0 f0) (hTI : IsPair s.heap TI (.ref i1) (.ref i2)) (hTO : IsPair s.heap TO a b) (h1 : s.heap.IsListIter i1 l1 k1) (h2 : s.heap.IsListIter i2 l2 k2) (hl1 : s.heap.IsList l1 xs) (hl2 : s.heap.IsList l2 ys) (hend : xs[k1]? = none ∨ ys[k2]? = none)
    (hE : ∀ h' e, (∀ c o, c ≠ z → c ≠ TO → c ≠ i1 → c ≠ i2 → s.heap.get? c = some o → h'.get? c = some o) → (∃ o, h'.get? e = some o ∧ o.cls = .type "StopIteration") → E (.ref e) { s with heap := h' }) :
    wpAny (model prog w) A (Builtin.«zip.__next__» ⟨[.ref z], []⟩) Q E s := by
  have free : (f0 = .none ∨ ∃ T : Nat, f0 = rawInt (T : Int) ∧ s.heap.get? T = none) → wpAny (model prog w) A (Builtin.«zip.__next__» ⟨[.ref z], []⟩) Q E s := fun hfr => by
    show wpAny _ _ (field (.ref z) 2 >>= _) _ _ _
    refine wpAny_bind (wpAny_field hz rfl (x := .bool false) rfl ?_)
    show wpAny _ _ (field (.ref z) 3 >>= _) _ _ _
    refine wpAny_bind (wpAny_field hz rfl (x := .ref TI) rfl ?_)
    refine wpAny_bind (wpAny_seqItems hTI rfl ?_)
    show wpAny _ _ (Builtin.SmallTypes.ownedTupleIsFree (.ref z) >>= _) _ _ _
    refine wpAny_bind (z_free hz hfr ?_)
    simp only [if_true]
    refine wpAny_bind (wpAny_rule ?_)
    refine wpAny_bind (wpAny_field hz rfl (x := .ref TO) rfl ?_)
    refine wpAny_bind (wpAny_setField_rec hz (by simp) fun ha za sa => ?_)
    replace za : ZS ha z TI TO .ellipsis f := za
    refine wpAny_bind ?_
    simp only [List.zipIdx_cons, List.zipIdx_nil, List.forIn_cons, List.forIn_nil]
    refine wpAny_bind (wpAny_bind (wpAny_onRaise ?_))
    show wpAny _ _ (Builtin.SmallTypes.nextOf (.ref i1) >>= _) _ _ _
    cases hx : xs[k1]? with
    | none =>
      refine wpAny_bind (wpAny_nextOf_list_end hh (h1.extBut sa.extBut D.i1z) (hl1.extBut sa.extBut D.l1z) hx fun hb e sb he => ?_)
      obtain ⟨oe, hoe, hce⟩ := he
      have zb : ZS hb z TI TO .ellipsis f := sb _ _ D.i1z.symm za
      have ne : e ≠ z := fun q => by subst q; rw [zb] at hoe; cases hoe; simp at hce
      refine wpAny_setField_rec zb (by simp) fun hc _ sc => hE hc e (fun c o c1 _ c3 _ q => sc.extBut _ _ c1 (sb _ _ c3 (sa.extBut _ _ c1 q))) ⟨oe, sc.extBut _ _ ne hoe, hce⟩
    | some x =>
      have hy : ys[k2]? = none := hend.resolve_left (by rw [hx]; exact fun q => nomatch q)
      refine wpAny_bind (wpAny_nextOf_list_item (h1.extBut sa.extBut D.i1z) (hl1.extBut sa.extBut D.l1z) hx fun hb h1b sb => wpAny_pure ?_)
      have tb : IsPair hb TO a b := sb.extBut _ _ D.TOi1 (sa.extBut _ _ D.TOz hTO)
      refine wpAny_bind (wpAny_seqItems tb rfl ?_)
      refine wpAny_bind (wpAny_updateSeq_pair tb fun hc tc sc => ?_)
      refine wpAny_bind (wpAny_letGo (wpAny_pure ?_))
      refine wpAny_bind (wpAny_bind (wpAny_onRaise ?_))
      show wpAny _ _ (Builtin.SmallTypes.nextOf (.ref i2) >>= _) _ _ _
      refine wpAny_bind (wpAny_nextOf_list_end hh (((h2.extBut sa.extBut D.i2z).extBut sb.extBut D.i12.symm).extBut sc.extBut D.TOi2.symm) (((hl2.extBut sa.extBut D.l2z).extBut sb.extBut D.l2i1).extBut sc.extBut D.l2TO) hy fun hd e sd he => ?_)
      obtain ⟨oe, hoe, hce⟩ := he
      have zd : ZS hd z TI TO .ellipsis f := sd _ _ D.i2z.symm (sc.extBut _ _ D.TOz.symm (sb.extBut _ _ D.i1z.symm za))
      have ne : e ≠ z := fun q => by subst q; rw [zd] at hoe; cases hoe; simp at hce
      refine wpAny_setField_rec zd (by simp) fun hg _ sg => hE hg e (fun c o c1 c2 c3 c4 q => sg.extBut _ _ c1 (sd _ _ c4 (sc.extBut _ _ c2 (sb.extBut _ _ c3 (sa.extBut _ _ c1 q))))) ⟨oe, sg.extBut _ _ ne hoe, hce⟩
  rcases h0 with e0 | ⟨T, e0⟩
  · exact free (.inl e0)
  · cases hT : s.heap.get? T with
    | none => exact free (.inr ⟨T, e0, hT⟩)
    | some oT =>
      subst e0
      exact zip_next_end_held hh D hz hT hTI h1 h2 hl1 hl2 hend fun h' e kp he => hE h' e (fun c o c1 _ c3 c4 q => kp c o c1 c3 c4 q) he
theorem z_next {z TI TO i1 i2 l1 l2 : Addr} {k1 k2 : Nat} {f0 : Value} {f : Bool} {xs ys : Array Value} {x y a b : Value} {Q : Value → Shared → Prop} (D : ZipApart z TI TO i1 i2 l1 l2)
    (hz : ZS s.heap z TI TO f0 f) (h0 : Z0 f0) (hTI : IsPair s.heap TI (.ref i1) (.ref i2)) (hTO : IsPair s.heap TO a b) (h1 : s.heap.IsListIter i1 l1 k1) (h2 : s.heap.IsListIter i2 l2 k2) (hl1 : s.heap.IsList l1 xs) (hl2 : s.heap.IsList l2 ys) (hx : xs[k1]? = some x) (hy : ys[k2]? = some y)
    (hQ : ∀ h' f0' f' a' b', ZS h' z TI TO f0' f' → Z0 f0' → IsPair h' TO a' b' → h'.IsListIter i1 l1 (k1 + 1) → h'.IsListIter i2 l2 (k2 + 1) → IsPair h' s.heap.objs.size x y → h'.objs.size = s.heap.objs.size + 1 →
      (∀ c o, c ≠ z → c ≠ TO → c ≠ i1 → c ≠ i2 → s.heap.get? c = some o → h'.get? c = some o) → Q (.ref s.heap.objs.size) { s with heap := h' }) :
    wpAny (model prog w) A (Builtin.SmallTypes.nextOf (.ref z)) Q E s := by
  have ty : s.TypeIs (.ref z) "zip" := ⟨_, hz, rfl⟩
  unfold Builtin.SmallTypes.nextOf
  exact wpAny_bind (wpAny_callSpecial?_slot (name := Str.ofString "__next__") ty F.slot_zip_next (wpAny_call_entry F.slot_zip_next ty F.entry_zip_next
    (z_item D hz h0 hTI hTO h1 h2 hl1 hl2 hx hy fun h' f0' f' a' b' q1 q2 q3 q4 q5 q6 q7 q8 => wpAny_pure (hQ h' f0' f' a' b' q1 q2 q3 q4 q5 q6 q7 q8)) (F.args_zip_next_1 _)))
theorem z_stop {z TI TO i1 i2 l1 l2 : Addr} {k1 k2 : Nat} {f0 : Value} {f : Bool} {xs ys : Array Value} {a b : Value} {Q : Value → Shared → Prop} (hh : A.handled = none) (D : ZipApart z TI TO i1 i2 l1 l2)
    (hz : ZS s.heap z TI TO f0 f) (h0 : Z0 f0) (hTI : IsPair s.heap TI (.ref i1) (.ref i2)) (hTO : IsPair s.heap TO a b) (h1 : s.heap.IsListIter i1 l1 k1) (h2 : s.heap.IsListIter i2 l2 k2) (hl1 : s.heap.IsList l1 xs) (hl2 : s.heap.IsList l2 ys) (hend : xs[k1]? = none ∨ ys[k2]? = none)
    (hE : ∀ h' e, (∀ c o, c ≠ z → c ≠ TO → c ≠ i1 → c ≠ i2 → s.heap.get? c = some o → h'.get? c = some o) → (∃ o, h'.get? e = some o ∧ o.cls = .type "StopIteration") → E (.ref e) { s with heap := h' }) :
    wpAny (model prog w) A (Builtin.SmallTypes.nextOf (.ref z)) Q E s := by
  have ty : s.TypeIs (.ref z) "zip" := ⟨_, hz, rfl⟩
  unfold Builtin.SmallTypes.nextOf
  exact wpAny_bind (wpAny_callSpecial?_slot (name := Str.ofString "__next__") ty F.slot_zip_next (wpAny_call_entry F.slot_zip_next ty F.entry_zip_next (z_end hh D hz h0 hTI hTO h1 h2 hl1 hl2 hend hE) (F.args_zip_next_1 _)))
/-- the rest of a turn of enumerate, the item being at hand -/
theorem en_rest {e it : Addr} {c : Int} {old x : Value} {Q : Value → Shared → Prop} (he : IsEnum s.heap e it c old)
    (hx : wpAny (model prog w) A (Builtin.SmallTypes.nextOf (.ref it)) (fun v s1 => v = x ∧ ∃ h1, s1 = { s with heap := h1 } ∧ IsEnum h1 e it c old ∧
      ∀ h' tk, IsEnumOut h' e it (c + 1) x h1.objs.size → h'.get? h1.objs.size = some { cls := .type "tuple", data := .seq #[.int c tk, x] } → h'.objs.size = h1.objs.size + 1 → (∀ b o, b ≠ e → h1.get? b = some o → h'.get? b = some o) → Q (.ref h1.objs.size) { s with heap := h', toks := tk + 1 }) E s) :
    wpAny (model prog w) A (Builtin.«enumerate.__next__» ⟨[.ref e], []⟩) (fun fin s' => ∃ v, fin = .done (.ret v) ∧ Q v s') E s := by
  obtain ⟨hp, g, d, tk0, os⟩ := s
  show wpAny _ _ (field (.ref e) 2 >>= _) _ _ _
  refine wpAny_bind (wpAny_field he rfl (x := .ref it) rfl ?_)
  refine wpAny_bind (wpAny_mono hx (fun v s1 h => ?_) fun _ _ q => q)
  obtain ⟨rfl, h1, rfl, e1, hQ⟩ := h
  show wpAny _ _ (field (.ref e) 3 >>= _) _ _ ⟨h1, g, d, tk0, os⟩
  refine wpAny_bind (wpAny_field e1 rfl (x := rawInt c) rfl ?_)
  show wpAny _ _ (field (.ref e) 4 >>= _) _ _ ⟨h1, g, d, tk0, os⟩
  refine wpAny_bind (wpAny_field e1 rfl (x := .none) rfl ?_)
  show wpAny _ _ (mkInt c >>= _) _ _ ⟨h1, g, d, tk0, os⟩
  refine wpAny_bind (wpAny_mkInt ?_)
  show wpAny _ _ (setField (.ref e) 3 (rawInt (c + 1)) >>= _) _ _ ⟨h1, g, d, tk0 + 1, os⟩
  refine wpAny_bind (wpAny_setField_rec e1 (by simp) fun h2 e2 s2 => ?_)
  replace s2 : Heap.SameBut e h1 h2 := s2
  replace e2 : IsEnum h2 e it (c + 1) old := e2
  show wpAny _ _ (setField (.ref e) 4 .none >>= _) _ _ ⟨h2, g, d, tk0 + 1, os⟩
  refine wpAny_bind (wpAny_setField_rec e2 (by simp) fun h3 e3 s3 => ?_)
  replace s3 : Heap.SameBut e h2 h3 := s3
  replace e3 : IsEnum h3 e it (c + 1) old := e3
  show wpAny _ _ (newTuple [.int c tk0, v] >>= _) _ _ ⟨h3, g, d, tk0 + 1, os⟩
  refine wpAny_bind (wpAny_newTuple ?_)
  have e4 : IsEnum (h3.push { cls := .type "tuple", data := .seq #[.int c tk0, v] }) e it (c + 1) old := Heap.get?_push_of_some _ e3
  generalize q4 : h3.push { cls := .type "tuple", data := .seq #[.int c tk0, v] } = h4 at e4
  have hsz : h3.objs.size = h1.objs.size := by rw [s3.1, s2.1]
  have el : e < h1.objs.size := Heap.lt_size e1
  have t4 : h4.get? h1.objs.size = some { cls := .type "tuple", data := .seq #[.int c tk0, v] } := by rw [← q4, ← hsz]; exact Heap.get?_push_size _ rfl
  have z4 : h4.objs.size = h1.objs.size + 1 := by rw [← q4, Heap.size_push, hsz]
  have k4 : ∀ b o, b ≠ e → h1.get? b = some o → h4.get? b = some o := fun b o be hb => by
    rw [← q4]; exact Heap.get?_push_of_some _ (s3.extBut b o be (s2.extBut b o be hb))
  show wpAny _ _ (Builtin.SmallTypes.ownedTupleIsFree (.ref e) >>= _) _ _ ⟨h4, g, d, tk0 + 1, os⟩
  rw [hsz]
  refine wpAny_bind ?_
  unfold Builtin.SmallTypes.ownedTupleIsFree
  refine wpAny_bind (wpAny_field e4 rfl (x := .none) rfl (wpAny_pure ?_))
  simp only [if_true]
  refine wpAny_bind (wpAny_rule ?_)
  refine wpAny_bind (wpAny_field e4 rfl (x := old) rfl ?_)
  refine wpAny_bind (wpAny_setField_rec e4 (by simp) fun h5 e5 s5 => ?_)
  replace s5 : Heap.SameBut e h4 h5 := s5
  replace e5 : IsEnum h5 e it (c + 1) v := e5
  show wpAny _ _ (Builtin.SmallTypes.ownedTupleHandOut (.ref e) (.ref h1.objs.size) >>= _) _ _ ⟨h5, g, d, tk0 + 1, os⟩
  refine wpAny_bind ?_
  unfold Builtin.SmallTypes.ownedTupleHandOut
  refine wpAny_bind (wpAny_setField_rec e5 (by simp) fun h6 e6 s6 => ?_)
  replace s6 : Heap.SameBut e h5 h6 := s6
  replace e6 : IsEnumOut h6 e it (c + 1) v h1.objs.size := e6
  refine wpAny_setField_rec e6 (by simp) fun h7 e7 s7 => ?_
  replace s7 : Heap.SameBut e h6 h7 := s7
  replace e7 : IsEnumOut h7 e it (c + 1) v h1.objs.size := e7
  refine wpAny_bind (wpAny_letGo (wpAny_pure ⟨_, rfl, hQ h7 tk0 e7 ?_ ?_ ?_⟩))
  · exact s7.extBut _ _ (Nat.ne_of_gt el) (s6.extBut _ _ (Nat.ne_of_gt el) (s5.extBut _ _ (Nat.ne_of_gt el) t4))
  · rw [s7.1, s6.1, s5.1, z4]
  · exact fun b o be hb => s7.extBut b o be (s6.extBut b o be (s5.extBut b o be (k4 b o be hb)))
end
/-- the turns -/
def Iez (K : PySem.W.Frag) (a b : Addr) : It :=
  ⟨fun i H => ∃ (xs ys : List V) (x y : V), SqL K H a xs ∧ SqL K H b ys ∧ xs[i]? = some x ∧ ys[i]? = some y,
    fun i H v H' => ∃ T U x y, v = .ref U ∧ H T = none ∧ upd H T (.tup [x, y]) U = none ∧ H' = upd (upd H T (.tup [x, y])) U (.tup [.int (i : Nat), .ref T]) ∧ (∀ xs, SqL K H a xs → xs[i]? = some x) ∧ ∀ ys, SqL K H b ys → ys[i]? = some y,
    fun i H => ∃ xs ys : List V, SqL K H a xs ∧ SqL K H b ys ∧ i = min xs.length ys.length⟩
def ezSt (e z TI TO i1 i2 a b : Addr) (i : Nat) (h : Heap) : Prop := (∃ old, IsEnum h e z (i : Int) old) ∧ (∃ f0 f, ZS h z TI TO f0 f ∧ Z0 f0) ∧ IsPair h TI (.ref i1) (.ref i2) ∧ (∃ x y, IsPair h TO x y) ∧ h.IsListIter i1 a i ∧ h.IsListIter i2 b i
theorem mem6 {c e z TI TO i1 i2 : Addr} : c ∈ [e, z, TI, TO, i1, i2] ↔ c = e ∨ c = z ∨ c = TI ∨ c = TO ∨ c = i1 ∨ c = i2 := by simp
theorem turn_ez {P : Program} {w : World} {K : PySem.W.Frag} {elts : List Expr} {kk : Nat} {tpos : Pos} {a b e z TI TO i1 i2 : Addr} (D : ZipApart z TI TO i1 i2 a b) (ne : e ≠ z ∧ e ≠ TI ∧ e ≠ TO ∧ e ≠ i1 ∧ e ≠ i2) :
    Turn P w K (.Tuple elts kk tpos) (Iez K a b) [e, z, TI, TO, i1, i2] e (ezSt e z TI TO i1 i2 a b) where
  mem := by simp
  obj := fun i h st c hc => by
    obtain ⟨⟨old, he⟩, ⟨f0, f, hz, _⟩, hTI, ⟨x, y, hTO⟩, ⟨o1, q1, _, d1⟩, ⟨o2, q2, _, d2⟩⟩ := st
    rcases mem6.mp hc with q | q | q | q | q | q
    · rw [q]; exact ⟨_, he, fun v q => nomatch q⟩
    · rw [q]; exact ⟨_, hz, fun v q => nomatch q⟩
    · rw [q]; exact ⟨_, hTI, fun v q => nomatch q⟩
    · rw [q]; exact ⟨_, hTO, fun v q => nomatch q⟩
    · rw [q]; exact ⟨_, q1, fun v z => by rw [d1] at z; cases z⟩
    · rw [q]; exact ⟨_, q2, fun v z => by rw [d2] at z; cases z⟩
  keep := fun i h h' st k => by
    obtain ⟨⟨old, he⟩, ⟨f0, f, hz, h0⟩, hTI, ⟨x, y, hTO⟩, h1, h2⟩ := st
    exact ⟨⟨old, k e (by simp) _ he⟩, ⟨f0, f, k z (by simp) _ hz, h0⟩, k TI (by simp) _ hTI, ⟨x, y, k TO (by simp) _ hTO⟩, h1.at fun o q => k i1 (by simp) o q, h2.at fun o q => k i2 (by simp) o q⟩
  item := by
    intro X hP hw hK hc i pins s σ H E I hf st hg
    subst hP hw hK
    obtain ⟨⟨old, he⟩, ⟨f0, f, hz, h0⟩, hTI, ⟨ta, tb, hTO⟩, h1, h2⟩ := st
    obtain ⟨xs, ys, x, y, hqx, hqy, hx, hy⟩ := hg
    obtain ⟨its, rv, p, _⟩ := I.list hqx
    obtain ⟨its2, rv2, p2, _⟩ := I.list hqy
    obtain ⟨u, hu, ru⟩ := rv.get hx
    obtain ⟨u2, hu2, ru2⟩ := rv2.get hy
    have ty : s.TypeIs (.ref e) "enumerate" := ⟨_, he, rfl⟩
    have lts : ∀ c ∈ [e, z, TI, TO, i1, i2], c < s.heap.objs.size := fun c hcm => by
      obtain ⟨o1, q1, _⟩ := h1
      obtain ⟨o2, q2, _⟩ := h2
      rcases mem6.mp hcm with q | q | q | q | q | q
      · rw [q]; exact Heap.lt_size he
      · rw [q]; exact Heap.lt_size hz
      · rw [q]; exact Heap.lt_size hTI
      · rw [q]; exact Heap.lt_size hTO
      · rw [q]; exact Heap.lt_size q1
      · rw [q]; exact Heap.lt_size q2
    unfold pyNext
    refine wpAny_bind (wpAny_attempt (wpAny_callSpecial?_slot (name := Str.ofString "__next__") ty F.slot_enumerate_next (wpAny_call_entry F.slot_enumerate_next ty F.entry_enumerate_next
      (en_rest (x := .ref s.heap.objs.size) he (z_next D hz h0 hTI hTO h1 h2 p.isList p2.isList (x := u) (y := u2) (by simpa using hu) (by simpa using hu2) fun h' f0' f' a' b' g1 g2 g3 g4 g5 g6 g7 g8 => ⟨rfl, h', rfl, g8 e _ ne.1 ne.2.2.1 ne.2.2.2.1 ne.2.2.2.2 he, fun h2' tk w1 w2 w3 w4 => wpAny_pure ?_⟩)) (F.args_enumerate_next_1 _))))
    refine ⟨_, rfl, ?_⟩
    have key : ∀ h3 tk', IsEnum h3 e z ((i : Int) + 1) (.ref s.heap.objs.size) → (∀ c o, c ≠ e → h2'.get? c = some o → h3.get? c = some o) →
        ∃ x' H', Inv X pins σ H' { s with heap := h3, toks := tk' } ∧ RelV x' (.ref h'.objs.size) ∧ (Iez X.K a b).yld i H x' H' ∧ ezSt e z TI TO i1 i2 a b (i + 1) h3 ∧ ∀ c ∈ [e, z, TI, TO, i1, i2], H' c = none := fun h3 tk' w5 w6 => by
      have hm : ∀ c o, c ≠ e → h'.get? c = some o → h3.get? c = some o := fun c o ce q => w6 c o ce (w4 c o ce q)
      have le : e < s.heap.objs.size := lts e (by simp)
      have I1 : Inv X pins σ (upd H s.heap.objs.size (.tup [x, y])) { s with heap := s.heap.push { cls := .type "tuple", data := .seq #[u, u2] } } :=
        I.laid (t' := s.toks) (fun _ _ q => Heap.get?_push_of_some _ q) (Nat.le_refl _) ⟨by show 2 ≤ sizeLine; decide, [u, u2], .cons ru (.cons ru2 .nil), ⟨_, Heap.get?_push_size _ rfl, rfl, _, rfl⟩⟩
      have sz1 : (s.heap.push { cls := .type "tuple", data := .seq #[u, u2] }).objs.size = s.heap.objs.size + 1 := Heap.size_push ..
      have hU : upd H s.heap.objs.size (.tup [x, y]) h'.objs.size = none := by
        rw [upd_ne (by rw [g7]; exact Nat.succ_ne_self _)]
        exact I.hok.fresh (by rw [g7]; exact Nat.le_succ _)
      have tup : h3.get? h'.objs.size = some { cls := .type "tuple", data := .seq #[.int (i : Int) tk, .ref s.heap.objs.size] } := w6 _ _ (Nat.ne_of_gt (by rw [g7]; exact Nat.lt_succ_of_lt le)) w2
      have I2 : Inv X pins σ (upd (upd H s.heap.objs.size (.tup [x, y])) h'.objs.size (.tup [.int (i : Nat), .ref s.heap.objs.size])) { s with heap := h3, toks := tk' } := by
        refine I1.turnedNew (t' := tk') (ch := [e, z, TI, TO, i1, i2]) (fun c o hb q => ?_) (fun c hcm => ?_) (by rw [sz1, g7]; exact Nat.le_refl _) ⟨by show 2 ≤ sizeLine; decide, [.int (i : Int) tk, .ref s.heap.objs.size], .cons ⟨tk, rfl⟩ (.cons rfl .nil), ⟨_, tup, rfl, _, rfl⟩⟩
        · have ce : c ≠ e := fun z => hb (by simp [z])
          refine hm c o ce ?_
          by_cases hcs : c = s.heap.objs.size
          · subst hcs
            have q2 : (s.heap.push { cls := .type "tuple", data := .seq #[u, u2] }).get? s.heap.objs.size = some { cls := .type "tuple", data := .seq #[u, u2] } := Heap.get?_push_size _ rfl
            have q' : (s.heap.push { cls := .type "tuple", data := .seq #[u, u2] }).get? s.heap.objs.size = some o := q
            rw [q2] at q'
            cases q'
            exact g6
          · have hlt : c < s.heap.objs.size := by
              have := Heap.lt_size (show (s.heap.push { cls := .type "tuple", data := .seq #[u, u2] }).get? c = some o from q)
              rw [sz1] at this
              exact Nat.lt_of_le_of_ne (Nat.le_of_lt_succ this) hcs
            have q' : s.heap.get? c = some o := by
              have e1 := Heap.get?_push_ne s.heap c { cls := .type "tuple", data := .seq #[u, u2] } hcs
              rw [← e1]; exact q
            exact g8 c o (fun z => hb (by simp [z])) (fun z => hb (by simp [z])) (fun z => hb (by simp [z])) (fun z => hb (by simp [z])) q'
        · have q := hf c hcm
          refine ⟨?_, q.2⟩
          rw [upd_ne (Nat.ne_of_lt (lts c hcm))]
          exact q.1
      refine ⟨.ref h'.objs.size, _, I2, rfl, ⟨s.heap.objs.size, h'.objs.size, x, y, rfl, I.hok.fresh (Nat.le_refl _), hU, rfl, fun l hl => by rw [I.list_inj hl hqx]; exact hx, fun l hl => by rw [I.list_inj hl hqy]; exact hy⟩, ?_, fun c hcm => ?_⟩
      · exact ⟨⟨_, by have := w5; rw [← Int.natCast_succ] at this; exact this⟩, ⟨f0', f', hm _ _ ne.1.symm g1, g2⟩, hm _ _ ne.2.1.symm (g8 _ _ D.TIz D.TITO D.TIi1 D.TIi2 hTI), ⟨a', b', hm _ _ ne.2.2.1.symm g3⟩, g4.at fun o q => hm _ o ne.2.2.2.1.symm q, g5.at fun o q => hm _ o ne.2.2.2.2.symm q⟩
      · have hlt := lts c hcm
        rw [upd_ne (Nat.ne_of_lt (by rw [g7]; exact Nat.lt_succ_of_lt hlt)), upd_ne (Nat.ne_of_lt hlt)]
        exact (hf c hcm).1
    refine wpAny_letOwnedTupleGo_enum w1 fun h3 w5 w6 => ?_
    exact key h3 (tk + 1) w5 fun c o ce q => w6.extBut c o ce q
  done := by
    intro X hP hw hK hc i pins s σ H E I hf st hg
    subst hP hw hK
    obtain ⟨⟨old, he⟩, ⟨f0, f, hz, h0⟩, hTI, ⟨ta, tb, hTO⟩, h1, h2⟩ := st
    obtain ⟨xs, ys, hqx, hqy, hend⟩ := hg
    obtain ⟨its, rv, p, _⟩ := I.list hqx
    obtain ⟨its2, rv2, p2, _⟩ := I.list hqy
    have hh : X.A.in1.handled = none := I.ok.hd hc
    have ty : s.TypeIs (.ref e) "enumerate" := ⟨_, he, rfl⟩
    have hn : its.toArray[i]? = none ∨ its2.toArray[i]? = none := by
      have l1 := rv.length
      have l2 := rv2.length
      by_cases hc : xs.length ≤ ys.length
      · left; simp; omega
      · right; simp; omega
    unfold pyNext
    refine wpAny_bind (wpAny_attempt (wpAny_callSpecial?_slot (name := Str.ofString "__next__") ty F.slot_enumerate_next (wpAny_call_entry F.slot_enumerate_next ty F.entry_enumerate_next ?_ (F.args_enumerate_next_1 _))))
    show wpAny _ _ (field (.ref e) 2 >>= _) _ _ _
    refine wpAny_bind (wpAny_field he rfl (x := .ref z) rfl ?_)
    refine wpAny_bind (z_stop hh D hz h0 hTI hTO h1 h2 p.isList p2.isList hn fun h' ex kp hx => ?_)
    obtain ⟨o, ho, hc'⟩ := hx
    refine wpAny_bind (wpAny_isInstance (T := "StopIteration") (b := true) ⟨o, ho, hc'⟩ isSubtype_stop ?_)
    refine wpAny_pure ⟨rfl, ?_⟩
    exact I.turnedL (t' := s.toks) (ch := [e, z, TI, TO, i1, i2]) (fun c o hb q => kp c o (fun z => hb (by simp [z])) (fun z => hb (by simp [z])) (fun z => hb (by simp [z])) (fun z => hb (by simp [z])) q) hf
  self := fun A i s Q E st h => by
    obtain ⟨⟨old, he⟩, _⟩ := st
    exact wpAny_pyIter_enum he h
set_option maxHeartbeats 1000000 in
theorem meets_ez {z TI TO : Addr} :
    Meets (Builtin.«enumerate.__new__» ⟨[.type "enumerate", .ref z], []⟩) (fun _ R s => IsZip s.heap z TI TO .none ∧
      R (.ok (.ret (.ref s.heap.objs.size))) { s with heap := s.heap.push { cls := .type "enumerate", data := .fields #[.none, .bool false, .ref z, rawInt 0, .none, .none] } }) :=
  .of_wp fun prog w A R s h => by
    obtain ⟨hp, g, d, tk, os⟩ := s; obtain ⟨h1, h⟩ := h
    have hsub := sub_enumerate
    have q1 : ∀ {A' : Around} {E : Value → Shared → Prop} {Q : Value → Shared → Prop}, Q (.ref z) ⟨hp, g, d, tk, os⟩ → wpAny (model prog w) A' (pyIter (.ref z)) Q E ⟨hp, g, d, tk, os⟩ :=
      fun q => wpAny_pyIter_zip (s := ⟨hp, g, d, tk, os⟩) h1 q
    wp_walk using q1
    refine wpAny_stack_any fun st => wpAny_pure ?_
    split
    · rename_i c _ _ _ _ _
      cases (c == Value.type "enumerate")
      · wp_walk using q1
        exact ⟨_, rfl, h⟩
      · wp_walk using q1
        exact ⟨_, rfl, h⟩
    · wp_walk using q1
      exact ⟨_, rfl, h⟩
theorem ez_begins {prog : Program} {w : World} {A : Around} {E : Value → Shared → Prop} {s : Shared} {z TI TO : Addr} {Q : Value → Shared → Prop} (h1 : IsZip s.heap z TI TO .none)
    (h : ∀ h', IsEnum h' s.heap.objs.size z 0 .none → (∀ b o, s.heap.get? b = some o → h'.get? b = some o) → Q (.ref s.heap.objs.size) { s with heap := h' }) : wpAny (model prog w) A (call (.type "enumerate") [.ref z]) Q E s := by
  refine callType_new F.called_enumerate (by decide) (F.typeCall_enumerate_1 _) (F.newCall_enumerate_1 _) (fun obj => F.args_object_init_2 obj _) F.entry_enumerate_new
    meets_ez ⟨h1, ?_⟩
  have he : IsEnum (s.heap.push { cls := .type "enumerate", data := .fields #[.none, .bool false, .ref z, rawInt 0, .none, .none] }) s.heap.objs.size z 0 .none := Heap.get?_push_size _ rfl
  exact ⟨⟨_, he, rfl⟩, h _ he fun b o x => Heap.get?_push_of_some _ x⟩
def iEz (K : PySem.W.Frag) (ta : TA) : TI := fun σ H R => ta σ H fun vs H1 => ∃ a b xs ys, vs = [.ref a, .ref b] ∧ SqL K H1 a xs ∧ SqL K H1 b ys ∧ R (Iez K a b) H1
theorem apart_of {n a b : Nat} (ha : a < n) (hb : b < n) : ZipApart (n + 4) (n + 2) (n + 3) n (n + 1) a b := by
  constructor <;> (intro h; replace h : @Eq Nat _ _ := h; omega)
theorem five_ne {n : Nat} : @Ne Addr (n + 5) (n + 4) ∧ @Ne Addr (n + 5) (n + 2) ∧ @Ne Addr (n + 5) (n + 3) ∧ @Ne Addr (n + 5) n ∧ @Ne Addr (n + 5) (n + 1) := by
  refine ⟨?_, ?_, ?_, ?_, ?_⟩ <;> (intro h; replace h : @Eq Nat _ _ := h; omega)
theorem pi_ez {X : Cx} {e e2 : Expr} {ta : TA} {p p2 q1 pos tpos : Pos} {elts : List Expr} {kk : Nat} (hge : Gl X "enumerate") (hme : X.mg "enumerate" = none) (hg : Gl X "zip") (hm : X.mg "zip" = none) (ha : PA X [e, e2] ta)
    (hs : starEach [e, e2] X.env = (false, eval e X.env) :: starEach [e2] X.env) (hpl : (backTo q1 (starEach [e2] X.env)).any (·.1) = false) :
    PI X (.Tuple elts kk tpos) (.Call (.Name "enumerate" p) [.Call (.Name "zip" p2) [e, e2] [] q1] [] pos) (iEz X.K ta) := by
  refine ⟨fun pins s σ H R I h => ?_⟩
  refine Call_ (ld_blt I hge hme boot_enumerate ?_)
  refine PyProof.Rows.callWith_type1 (PyProof.Rows.args_cons ?_ rfl) rfl rfl
  refine Call_ (ld_blt I hg hm PyProof.Rows.boot_zip (PyProof.Rows.callWith_type1 (thn (ha.run q1 pins s σ H _ I h) fun us s1 ⟨vs, H1, I1, r1, w1⟩ => ?_) hs hpl))
  obtain ⟨a, b, xs, ys, ex, hqx, hqy, q⟩ := w1
  subst ex
  cases r1 with
  | cons r rr =>
    cases rr with
    | cons r' rr =>
      cases rr
      cases r
      cases r'
      obtain ⟨its, rv, p1, _⟩ := I1.list hqx
      obtain ⟨its2, rv2, p2, _⟩ := I1.list hqy
      have la : a < s1.heap.objs.size := by obtain ⟨o, e, _⟩ := p1.isList; exact Heap.lt_size e
      have lb : b < s1.heap.objs.size := by obtain ⟨o, e, _⟩ := p2.isList; exact Heap.lt_size e
      refine zip_begins2 (begins_list a its.toArray) (begins_list b its2.toArray) p1.isList p2.isList fun h' hz hTI hTO g1 g2 hsz hk => PyProof.Rows.args_nil ?_
      refine ez_begins (s := { s1 with heap := h' }) hz fun h2 he hk2 => wpAny_pyIter_enum he ?_
      have I2 : Inv X pins σ H1 { s1 with heap := h2 } := I1.kept (t' := s1.toks) fun c o q => hk2 c o (hk c o q)
      have esz : ({ s1 with heap := h' } : Shared).heap.objs.size = s1.heap.objs.size + 5 := hsz
      rw [esz] at he ⊢
      refine ⟨s1.heap.objs.size + 5, [s1.heap.objs.size + 5, s1.heap.objs.size + 4, s1.heap.objs.size + 2, s1.heap.objs.size + 3, s1.heap.objs.size, s1.heap.objs.size + 1], _, _, H1, rfl, I2, turn_ez (apart_of la lb) five_ne, ⟨⟨_, he⟩, ⟨_, _, hk2 _ _ hz, .inl rfl⟩, hk2 _ _ hTI, ⟨_, _, hk2 _ _ hTO⟩, ⟨_, hk2 _ _ g1, rfl, rfl⟩, ⟨_, hk2 _ _ g2, rfl, rfl⟩⟩, fun c hcm => ?_, q⟩
      have hle : s1.heap.objs.size ≤ c := by
        rcases mem6.mp hcm with z | z | z | z | z | z
        · rw [z]; exact Nat.le_add_right _ _
        · rw [z]; exact Nat.le_add_right _ _
        · rw [z]; exact Nat.le_add_right _ _
        · rw [z]; exact Nat.le_add_right _ _
        · rw [z]; exact Nat.le_refl _
        · rw [z]; exact Nat.le_add_right _ _
      exact I1.fpOk hle (I1.hok.fresh hle)
/-! ### by data -/
def enumZ (xs ys : List Dt) : List Dt := List.zipWith (fun x y => .tuple [x, y]) (rgL 0 (min xs.length ys.length)) (zipD xs ys)
theorem zipD_len (xs ys : List Dt) : (zipD xs ys).length = min xs.length ys.length := by unfold zipD; rw [List.length_zipWith]
theorem enumZ_len (xs ys : List Dt) : (enumZ xs ys).length = min xs.length ys.length := by
  unfold enumZ
  rw [List.length_zipWith, rgL_length, zipD_len]
  omega
theorem enumZ_get {xs ys : List Dt} {i : Nat} (h1 : i < xs.length) (h2 : i < ys.length) : (enumZ xs ys)[i]? = some (.tuple [.int (0 + (i : Nat)), .tuple [xs[i], ys[i]]]) := by
  unfold enumZ
  rw [List.getElem?_zipWith, rgL_get (by omega)]
  unfold zipD
  rw [List.getElem?_zipWith, List.getElem?_eq_getElem h1, List.getElem?_eq_getElem h2]
theorem wd_ez {b : Bool} {K : PySem.W.Frag} {ow : Ow} {H : Hp} {a a2 : Addr} {xs ys : List Dt} (ok : OkO ow H) (h : RpB b K ow H (.ref a) (.list xs)) (h2 : RpB b K ow H (.ref a2) (.list ys)) : WD (.p .d (.p .d .d)) b K ow H (Iez K a a2) (enumZ xs ys) := fun ow1 H1 r ok1 => by
  obtain ⟨vs, s1, r1⟩ := src_one (h.seq_stp (k := true) rfl ok r) rfl
  obtain ⟨ws, s2, r2⟩ := src_one (h2.seq_stp (k := true) rfl ok r) rfl
  refine ⟨fun i hi => ?_, ⟨vs, ws, s1, s2, by rw [enumZ_len, r1.length, r2.length]⟩, fun i x H2 hi y => ?_⟩
  · rw [enumZ_len] at hi
    have i1 : i < vs.length := by rw [r1.length]; omega
    have i2 : i < ws.length := by rw [r2.length]; omega
    exact ⟨vs, ws, vs[i], ws[i], s1, s2, by simp [i1], by simp [i2]⟩
  · rw [enumZ_len] at hi
    obtain ⟨T, U, x, y, rfl, hT, hU, rfl, hx, hy⟩ := y
    have i1 : i < xs.length := by omega
    have i2 : i < ys.length := by omega
    obtain ⟨v1, hv1, q1⟩ := r1.get (i := i) (d := xs[i]) (by simp [i1])
    obtain ⟨v2, hv2, q2⟩ := r2.get (i := i) (d := ys[i]) (by simp [i2])
    rw [hx vs s1] at hv1
    rw [hy ws s2] at hv2
    cases hv1
    cases hv2
    have sm : Same H1 (upd (upd H1 T (.tup [x, y])) U (.tup [.int (i : Nat), .ref T])) := (Same.upd hT).trans (Same.upd hU)
    refine ⟨sm, _, enumZ_get i1 i2, ?_⟩
    rw [Int.zero_add]
    exact ⟨U, _, _, _, _, rfl, upd_same, rfl, .int _, T, _, _, _, _, rfl, Same.upd hU _ _ upd_same, rfl, Rp.same sm q1, Rp.same sm q2⟩
section
variable {G : Gc} {N : List Str} {sc : Scope} {fn : Str → Bool} {k : Nat} {pos p p2 q1 tpos : Pos} {a b : Expr} {f g : EF} {elts : List Expr} {kk : Nat}
def iEnumZip (f g : EF) : IF := fun bb ρ => bndI (f bb ρ) fun x => bndI (g bb ρ) fun y => match x, y with
  | .list xs, .list ys => some (.it (enumZ xs ys))
  | _, _ => none
theorem si_enumZip (B : Bi G) (ha : SE G N sc fn k a f) (hb : SE G N sc fn k b g) (hge : GL sc "enumerate" := by rfl) (hg : GL sc "zip" := by rfl) (ns : NS a := by intro _ _; rfl) (ns2 : NS b := by intro _ _; rfl) : SI G N sc fn k (.p .d (.p .d .d)) (.Tuple elts kk tpos) (.Call (.Name "enumerate" p) [.Call (.Name "zip" p2) [a, b] [] q1] [] pos) (iEnumZip f g) := fun X C W tk b' =>
  PI.imp (pi_ez (C.gl hge) (by rw [C.hmg]; exact B.enumerate) (C.gl hg) (by rw [C.hmg]; exact B.zip) (pa_cons (ha X C W tk b') (pa_cons (hb X C W tk b') pa_nil (ns2 [] X.env)) (ns [b] X.env)) (ns [b] X.env) (noStar _ _ _ fun e he => by rw [List.mem_singleton.mp he]; exact ns2)) fun σ H R h => by
    obtain ⟨ρ, ow, r, he, gd, post⟩ := h
    refine tE.goI gd he (fun n pl e => by subst e; exact post) fun d hd v H1 s1 r1 => ?_
    refine tE.goI (gd.same s1) hd (fun n pl e => by subst e; exact ExP.same post s1) fun d2 hd2 v2 H2 s2 r2 => ?_
    split at hd2
    · cases hd2
      have r1' := r1.same s2
      obtain ⟨a1, vs, rfl, q1, w1⟩ := r1'.list
      obtain ⟨a2, ws, rfl, q2, w2⟩ := r2.list
      exact ⟨a1, a2, vs, ws, rfl, SqL.of q1, SqL.of q2, post _ H2 (s1.trans s2) (wd_ez (gd.ok.same (s1.trans s2)) r1' r2)⟩
    · cases hd2
end
end PT

namespace PT
open PySem PySem.Spec PyProof.Rows L2
section
variable {b : Bool} {ρ : En} {f g h : EF} {d : Dt} {i n : Nat} {x y : Int}
theorem w_lim : lim = 1000000 := Eq.trans rfl rfl
theorem w_tup (g : AF) : eTup g b ρ = bndA (g ρ) fun ds => if ds.length ≤ lim then some (.val (.tuple ds)) else none := Eq.trans rfl rfl
theorem w_lst (g : AF) : eLst g b ρ = bndA (g ρ) fun ds => if ds.length ≤ lim then some (.val (.list ds)) else none := Eq.trans rfl rfl
theorem w_unp (sl : List Nat) (gf : GF) : sUnp sl gf f ρ = bndS (f false ρ) fun d => (gf d (clr ρ sl)).map .nx := Eq.trans rfl rfl
theorem w_and : eAnd f g b ρ = bnd (f true ρ) fun x => match x with
  | .bool true => g b ρ
  | .bool false => some (.val (.bool false))
  | _ => none := Eq.trans rfl rfl
theorem w_or : eOr f g b ρ = bnd (f true ρ) fun x => match x with
  | .bool true => some (.val (.bool true))
  | .bool false => g b ρ
  | _ => none := Eq.trans rfl rfl
theorem w_andT : eAndT f g b ρ = bnd (f true ρ) fun x => match tru x with
  | some true => g b ρ
  | some false => some (.val (.bool false))
  | none => none := Eq.trans rfl rfl
theorem w_orT : eOrT f g b ρ = bnd (f true ρ) fun x => match tru x with
  | some true => some (.val (.bool true))
  | some false => g b ρ
  | none => none := Eq.trans rfl rfl
theorem w_not : eNot f b ρ = bnd (f true ρ) fun x => (tru x).map fun c => .val (.bool (!c)) := Eq.trans rfl rfl
theorem w_ife : eIf h f g b ρ = bnd (h true ρ) fun x => match tru x with
  | some true => f b ρ
  | some false => g b ρ
  | none => none := Eq.trans rfl rfl
theorem w_chain : eChain f g h b ρ = bnd (f true ρ) fun x => bnd (g true ρ) fun y => match x, y with
  | .int i, .int j => if i ≤ j then bnd (h true ρ) fun z => (match z with | .int l => some (.val (.bool (decide (j ≤ l)))) | _ => none) else some (.val (.bool false))
  | _, _ => none := Eq.trans rfl rfl
theorem w_isi (T : String) : eIsi T f b ρ = bnd (f true ρ) fun x => some (.val (.bool (dIsi T x))) := Eq.trans rfl rfl
theorem w_neg : dNeg (.int x) = some (.int (-x)) := Eq.trans rfl rfl
theorem w_isN (d : Dt) : dIsN d .none = some (.bool (isN d)) := Eq.trans rfl rfl
theorem w_notN (d : Dt) : dNotN d .none = some (.bool (!isN d)) := Eq.trans rfl rfl
theorem w_raise (n : Str) : sRaise n ρ = some (.ex n none) := Eq.trans rfl rfl
theorem w_put : sPut i f g ρ = match ρ[i]? with
  | some (some (.own xs)) => bndS (g false ρ) fun d => bndS (f true ρ) fun j => (match j with
    | .int m => (match ixN xs.length m with
      | some n => some (.nx (ρ.set i (some (.own (xs.set n d)))))
      | none => none)
    | _ => none)
  | _ => none := Eq.trans rfl rfl
theorem w_un0 (s : SF) : sUn i s ρ = s (unown i ρ) := Eq.trans rfl rfl
theorem w_max2 : dMax2 (.int x) (.int y) = some (.int (if y > x then y else x)) := Eq.trans rfl rfl
theorem w_intI : dInt (.int x) = some (.int x) := Eq.trans rfl rfl
theorem w_intB (c : Bool) : dInt (.bool c) = some (.int (if c then 1 else 0)) := Eq.trans rfl rfl
theorem w_par (i j : Nat) : sPar i j f g ρ = bndS (f false ρ) fun x => bndS (g false ρ) fun y => if i < ρ.length then some (.nx ((ρ.set i (some (.sh x))).set j (some (.sh y)))) else none := Eq.trans rfl rfl
end
theorem ixN_lt {n : Nat} {m : Int} (h0 : 0 ≤ m) (h1 : m < n) : ixN n m = some m.toNat := by
  unfold ixN
  rw [if_pos h0, if_pos h1]
/-- an index that is a whole number, not below 0 -/
theorem w_ixLi {l : List Int} {i : Int} (h0 : 0 ≤ i) (h1 : i < l.length) : dIx (.list (l.map .int)) (.int i) = some (.int (l.getD i.toNat 0)) := by
  have := w_ixL (xs := l.map .int) (i := i.toNat) (get_map_int (by omega))
  rw [Int.toNat_of_nonneg h0] at this
  exact this
theorem w_ixTi {l : List Int} {i : Int} (h0 : 0 ≤ i) (h1 : i < l.length) : dIx (tI' l) (.int i) = some (.int (l.getD i.toNat 0)) := by
  have := w_ixT (xs := l.map .int) (i := i.toNat) (get_map_int (by omega))
  rw [Int.toNat_of_nonneg h0] at this
  exact this
theorem getD_mem {l : List Int} {i : Nat} (h : i < l.length) : l.getD i 0 ∈ l := by
  rw [List.getD_eq_getElem?_getD, List.getElem?_eq_getElem h]
  exact List.getElem_mem h
theorem w_rg1i {f : EF} {b : Bool} {ρ : En} {n : Int} (h : f true ρ = some (.val (.int n))) (h0 : 0 ≤ n) (hn : n ≤ 1000000) : iRg1 f b ρ = some (.it (rgL 0 n.toNat)) := by
  refine w_rg1 ?_ (by omega)
  rw [h, Int.toNat_of_nonneg h0]
/-- a comprehension over a range, ints out -/
theorem lcL_rg {e : EF} {tg : GF} {ρ : En} (n : Nat) (v : Nat → Int) (H : ∀ i, i < n → ∃ ρ1, tg (.int (i : Int)) ρ = some ρ1 ∧ e false ρ1 = some (.val (.int (v i)))) : lcL (eC (.bool true)) e tg ρ (rgL 0 n) = some (((List.range n).map v).map .int) := by
  have e1 : ((List.range n).map v).map PyData.int = (rgL 0 n).map fun d => match d with
    | .int i => .int (v i.toNat)
    | y => y := by
    unfold rgL
    rw [List.map_map, List.map_map]
    refine List.map_congr_left fun i _ => ?_
    show PyData.int (v i) = PyData.int (v (0 + (i : Int)).toNat)
    congr 2
    omega
  rw [e1]
  refine lcL_map _ _ fun x hx => ?_
  obtain ⟨i, hi, rfl⟩ := rgL_mem hx
  obtain ⟨ρ1, h1, h2⟩ := H i hi
  refine ⟨ρ1, by rw [Int.zero_add]; exact h1, ?_⟩
  rw [h2]
  show _ = some (Rs.val (PyData.int (v (0 + (i : Int)).toNat)))
  congr 3
  rw [Int.zero_add]; rfl
/-- a loop that may end by a return -/
theorem forL_find {sl : List Nat} {tg : GF} {body : SF} (P : En → Prop) (p : Nat → Bool) (r : Nat → Dt) : ∀ (xs : List Dt) (i : Nat) (ρ : En), P ρ → (∀ j x ρ, xs[j]? = some x → P ρ → (p (i + j) = false ∧ ∃ ρ2, turn sl tg body x ρ = some (.nx ρ2) ∧ P ρ2) ∨ (p (i + j) = true ∧ turn sl tg body x ρ = some (.rt (r (i + j))))) →
    match (List.range' i xs.length).find? p with
    | some j => forL sl tg body xs ρ = some (.rt (r j))
    | none => ∃ ρ', forL sl tg body xs ρ = some (.nx ρ') ∧ P ρ'
  | [], i, ρ, h0, _ => ⟨ρ, rfl, h0⟩
  | x :: xs, i, ρ, h0, hs => by
    show match (List.range' i (xs.length + 1)).find? p with
    | some j => forL sl tg body (x :: xs) ρ = some (.rt (r j))
    | none => ∃ ρ', forL sl tg body (x :: xs) ρ = some (.nx ρ') ∧ P ρ'
    rw [List.range'_succ, List.find?_cons]
    rcases hs 0 x ρ rfl h0 with ⟨h1, ρ2, h2, h3⟩ | ⟨h1, h2⟩
    · rw [Nat.add_zero] at h1
      rw [h1]
      have ih := forL_find P p r xs (i + 1) ρ2 h3 fun j y ρ hy hp => by
        have e : i + 1 + j = i + (j + 1) := by omega
        rw [e]
        exact hs (j + 1) y ρ (by simpa using hy) hp
      rw [forL_cons h2]
      exact ih
    · rw [Nat.add_zero] at h1 h2
      rw [h1]
      exact forL_stop h2
theorem whl_step {c : EF} {body : SF} {n : Nat} {ρ ρ2 : En} {d : Dt} (h1 : c true ρ = some (.val d)) (h2 : tru d = some true) (h3 : body ρ = some (.nx ρ2)) : whl c body (n + 1) ρ = whl c body n ρ2 := by
  rw [whl, h1]
  simp only [w_bndS, h2, h3]
theorem whl_end {c : EF} {body : SF} {n : Nat} {ρ : En} {d : Dt} (h1 : c true ρ = some (.val d)) (h2 : tru d = some false) : whl c body (n + 1) ρ = some (.nx ρ) := by
  rw [whl, h1]
  simp only [w_bndS, h2]
theorem seq_nx {s1 s2 : SF} {ρ ρ' : En} (h : s1 ρ = some (.nx ρ')) : sSeq s1 s2 ρ = s2 ρ' := by rw [w_seq, h]
theorem seq_rt {s1 s2 : SF} {ρ : En} {d : Dt} (h : s1 ρ = some (.rt d)) : sSeq s1 s2 ρ = some (.rt d) := by rw [w_seq, h]
theorem seq_ex {s1 s2 : SF} {ρ : En} {n : Str} {pl : Option Dt} (h : s1 ρ = some (.ex n pl)) : sSeq s1 s2 ρ = some (.ex n pl) := by rw [w_seq, h]
theorem run_rt {n : Nat} {g : SF} {ds : List Dt} {d : Dt} (h : g (start0 n ds) = some (.rt d)) : runB n g ds = some (.val d) := by unfold runB; rw [h]
theorem run_nx {n : Nat} {g : SF} {ds : List Dt} {ρ : En} (h : g (start0 n ds) = some (.nx ρ)) : runB n g ds = some (.val .none) := by unfold runB; rw [h]
theorem run_ex {n : Nat} {g : SF} {ds : List Dt} {x : Str} {pl : Option Dt} (h : g (start0 n ds) = some (.ex x pl)) : runB n g ds = some (.exc x pl) := by unfold runB; rw [h]
theorem for_it {sl : List Nat} {tg : GF} {it : IF} {body : SF} {ρ : En} {xs : List Dt} (h : it false ρ = some (.it xs)) : sFor sl tg it body ρ = forL sl tg body xs ρ := by rw [w_for, h]
theorem set_v {i : Nat} {f : EF} {ρ : En} {d : Dt} (h : f false ρ = some (.val d)) : sSet i f ρ = some (.nx (ρ.set i (some (.sh d)))) := by rw [w_set, h, w_bndS]
theorem setO_v {i : Nat} {f : EF} {ρ : En} {ds : List Dt} (h : f true ρ = some (.val (.list ds))) (hi : i < ρ.length) : sSetO i f ρ = some (.nx (ρ.set i (some (.own ds)))) := by
  rw [w_setO, h, w_bndS]
  exact if_pos hi
theorem ret_v {f : EF} {ρ : En} {d : Dt} (h : f true ρ = some (.val d)) : sRet f ρ = some (.rt d) := by rw [w_ret, h, w_bndS]
theorem do_v {f : EF} {ρ : En} {d : Dt} (h : f true ρ = some (.val d)) : sDo f ρ = some (.nx ρ) := by rw [w_do, h, w_bndS]
theorem if_t {f : EF} {s1 s2 : SF} {ρ : En} {d : Dt} (h : f true ρ = some (.val d)) (ht : tru d = some true) : sIf f s1 s2 ρ = s1 ρ := by rw [w_if, h, w_bndS, ht]
theorem if_f {f : EF} {s1 s2 : SF} {ρ : En} {d : Dt} (h : f true ρ = some (.val d)) (ht : tru d = some false) : sIf f s1 s2 ρ = s2 ρ := by rw [w_if, h, w_bndS, ht]
end PT

namespace PT
open PySem PySem.Spec PyProof.Rows L2

/-! ## try, several clauses «except X as e» -/
abbrev Cl := Value × Nat × (Addr → Value → Option Addr → TS)
def endsAs (D : Ends) (i : Nat) : Ends := { nx := fun σ' H' => D.nx (σ'.set i none) H', rt := D.rt, bk := fun σ' H' => D.bk (σ'.set i none) H', ct := fun σ' H' => D.ct (σ'.set i none) H' }
def wAsM (K : PySem.W.Frag) (Wout : WX) (D : Ends) : List Cl → WX
  | [] => Wout
  | (c, i, ts) :: r => fun cls d σ H => ∃ b, PySem.W.exmOne K cls c = some b ∧ (b = true → i < σ.length → ∀ a, H a = none → ts a cls d (endsAs D i) (σ.set i (some (.ref a))) H) ∧ (b = false → wAsM K Wout D r cls d σ H)
inductive HdsAs (X : Cx) : List ExceptHandler → List Cl → Prop
  | nil : HdsAs X [] []
  | cons {x n : Str} {c : Value} {i : Nat} {ts : Addr → Value → Option Addr → TS} {b0 : Stmt} {suite : List Stmt} {np hp : Pos} {hds : List ExceptHandler} {l : List Cl} (hi : X.N[i]? = some n) (hln : X.env.kindOf n = some .local) (hc : Names X x c)
      (hsu : ∀ (a : Addr) (oe : Obj) (cls : Value) (d : Option Addr) (pn : List (Addr × Obj)), Zc cls d oe → (∃ vs, oe.data = .fields vs) → PSs (X.suite a ((a, oe) :: pn)) (b0 :: suite) (ts a cls d)) (r : HdsAs X hds l) :
      HdsAs X (.ExceptHandler (some (.Name x np)) (some n) (b0 :: suite) hp :: hds) ((c, i, ts) :: l)
section
variable {X : Cx} {body : List Stmt} {h0 : ExceptHandler} {hds : List ExceptHandler} {l : List Cl} {pos : Pos} {tb : WX → TS} {Wout : WX}
theorem ps_tryAs (hs : X.stack = X.env :: X.outer) (hf : X.env.frame = some X.env.locals) (hN : X.N.Nodup) (tk : Takes X Wout)
    (hb : ∀ (W : WX) (pn : List (Addr × Obj)) (xe : Value → Shared → Prop), Takes (X.tr pn xe) W → PassesOwn (model X.prog X.w) X.A X.env xe → PSs (X.tr pn xe) body (tb W))
    (hh : HdsAs X (h0 :: hds) l) : PS X (.Try body (h0 :: hds) [] [] pos) (fun D σ H => tb (wAsM X.K Wout D l) D σ H) := by
  refine ⟨fun pins s σ H D I h => ?_⟩
  have ok := I.ok
  have hfr : X.A.frames = some (X.env :: X.outer) := by rw [ok.frames, hs]
  refine wpAny_Try_except ?_
  refine wpAny_mono ((hb (wAsM X.K Wout D l) (X.pn ++ pins) (fun e s1 => wpAny (model X.prog X.w) X.A (noteFrame e X.env) (fun _ s2 => wpAny (model X.prog X.w) X.A (setFlight e none) (fun _ s3 =>
    wpAny (model X.prog X.w) X.A (handleBy e X.env (h0 :: hds)) (SP X pins D) X.xe s3) X.xe s2) X.xe s1) (fun u s' xx => ?_) PassesOwn.looking).run [] s σ H D (I.toTry _) h) (fun f s1 q => ?_) (fun e s1 he => he)
  · obtain ⟨a, B, sI, pins', σ', H', cls, d, rfl, J', nb, up, sky, na, os, ag, w⟩ := xx
    have J : Inv X pins σ' H' sI := J'.ofTry ok
    have sky' : Sky B (X.env :: X.outer) a (Zc cls d) X.env.locals s'.heap := by rw [← hs]; exact sky
    show wpAny (model X.prog X.w) X.A (noteFrame (.ref a) X.env) _ _ _
    refine Sky.land Zc.steady hfr hf sky' fun h3 f3 u3 => ?_
    have J3 : Inv X pins σ' H' { s' with heap := h3 } := J.landed nb f3.1 (up.trans u3) os ag
    obtain ⟨oe3, vs3, he3, hz3, hd3⟩ := f3.there
    have nfr : a ∉ frs (X.env :: X.outer) := fun hm => by
      obtain ⟨_, o', e', hnf⟩ := f3.2.2.1.mem hm
      rw [he3] at e'; cases e'
      exact hnf _ hd3
    have nL : a ≠ X.env.locals := fun z => nfr (List.mem_filterMap.mpr ⟨X.env, List.mem_cons_self, by rw [hf, z]⟩)
    have nF : a ∉ X.fs := fun hm => by
      obtain ⟨e, he, q⟩ := List.mem_filterMap.mp hm
      exact nfr (List.mem_filterMap.mpr ⟨e, List.mem_cons_of_mem _ he, q⟩)
    have S3 := J3.suite he3 hd3 na nL nF
    have go : ∀ {hds' : List ExceptHandler} {l' : List Cl}, HdsAs X hds' l' → wAsM X.K Wout D l' cls d σ' H' → wpAny (model X.prog X.w) X.A (handleBy (.ref a) X.env hds') (SP X pins D) X.xe { s' with heap := h3 } := by
      intro hds' l' hk
      induction hk with
      | nil =>
        intro w
        refine wpAny_handleBy_nil ?_
        obtain ⟨k1, k2, k3, oe, vs, T, oT, ts', he, hz, hd, h1, hr⟩ := id f3
        unfold PySem.passOn
        refine wpAny_bind (wpAny_field he hd h1 ?_)
        rw [if_neg (show ¬ ((Value.ref T == Value.none) = true) from by simp)]
        have fin : wpAny (model X.prog X.w) X.A (setFlight (.ref a) X.env.frame) (fun _ s4 => wpAny (model X.prog X.w) X.A (throw (.ref a) : Sem Flow) (SP X pins D) X.xe s4) X.xe { s' with heap := h3 } := by
          rw [hf]
          refine HandSPX.setFlight_upZ f3 fun h4 k4 u4 => wpAny_throw (tk _ _ ?_)
          exact ⟨a, B, sI, pins, σ', H', cls, d, rfl, J, nb, (up.trans u3).trans u4, .inr (.inr (by rw [hs]; exact k4)), na, os, ag, w⟩
        first
          | exact wpAny_bind (wpAny_pure (wpAny_bind fin))
          | exact wpAny_bind fin
      | @cons x n c i ts b0 suite np hp hds2 l2 hi hln hc hsu r ih =>
        intro w
        obtain ⟨b, hb1, hyes, hno⟩ := w
        refine wpAny_handleBy_cons (codeAny_handlers_test ?_) (by intro q; cases q)
        have LT : PySem.W.Looks (model X.prog X.w) h3 (typeOf (.ref a)) cls := fun A Q E s k q => wpAny_typeOf_ref (k _ _ he3) (by rw [hz3.1]; exact q)
        have LM := PySem.W.exm_one (M := model X.prog X.w) (J3.kIn) LT hb1
        have test : ∀ {Q : Value → Shared → Prop} {E : Value → Shared → Prop}, Q c { s' with heap := h3 } → wpAny (model X.prog X.w) (X.A.mark (some (.ref a))) (eval (.Name x np) X.env) Q E { s' with heap := h3 } := fun {Q E} q => by
          obtain ⟨hg, hdb, hm | ⟨hm, hv, hnn⟩⟩ := hc
          · exact ld_glob (X := X.suite a ((a, oe3) :: (X.pn ++ pins))) S3 hg hm q hdb
          · exact ld_blt (X := X.suite a ((a, oe3) :: (X.pn ++ pins))) S3 hg hm hv q hnn hdb
        refine test (LM.here ?_)
        cases b with
        | true =>
          refine codeAny_handlers_suite_as ?_
          refine HandSPX.lands_againZ f3 fun h4 f4 u4 => ?_
          have J4 : Inv X pins σ' H' { s' with heap := h4 } := J.landed nb f4.1 ((up.trans u3).trans u4) os ag
          obtain ⟨oe4, vs4, he4, hz4, hd4⟩ := f4.there
          have S4 := J4.suite he4 hd4 na nL nF
          refine store_ok (X := X.suite a ((a, oe4) :: (X.pn ++ pins))) (v := .ref a) S4 hN hi (.inl hln) rfl (fun s5 S5 => ?_) (.inr hln)
          refine wpAny_mono ((hsu a oe4 cls d (X.pn ++ pins) hz4 ⟨_, hd4⟩).run [] s5 _ H' _ S5 (hyes rfl (by rw [J.len]; exact (List.getElem?_eq_some_iff.mp hi).1) a na)) (fun f s6 q => ?_) (fun _ _ z => False.elim z)
          have fin : ∀ {σ6 : L2.St} {H6 : Hp} {Q : Shared → Prop}, Inv (X.suite a ((a, oe4) :: (X.pn ++ pins))) [] σ6 H6 s6 → (∀ s7, Inv X pins (σ6.set i none) H6 s7 → Q s7) →
              wpAny (model X.prog X.w) X.A (do bindName X.env n .none; unbindBehindTheSuite X.env n hp) (fun _ s7 => Q s7) X.xe s6 := fun {σ6 H6 Q} S6 hq => gone_ok (S6.unsuite ok) hN hi hln hq
          cases f with
          | next =>
            obtain ⟨σ6, H6, S6, q6⟩ := q
            exact fin S6 fun s7 J7 => ⟨_, _, J7, q6⟩
          | brk =>
            obtain ⟨σ6, H6, S6, q6⟩ := q
            exact fin S6 fun s7 J7 => ⟨_, _, J7, q6⟩
          | cont =>
            obtain ⟨σ6, H6, S6, q6⟩ := q
            exact fin S6 fun s7 J7 => ⟨_, _, J7, q6⟩
          | ret u =>
            obtain ⟨v6, σ6, H6, S6, r6, q6⟩ := q
            exact fin S6 fun s7 J7 => ⟨_, _, _, J7, r6, q6⟩
        | false =>
          show wpAny _ X.A (handleBy (.ref a) X.env hds2) _ _ _
          exact ih (hno rfl)
    exact go hh w
  · cases f with
    | next =>
      obtain ⟨σ', H', J', q⟩ := q
      exact wpAny_execs_nil ⟨σ', H', J'.ofTry ok, q⟩
    | brk =>
      obtain ⟨σ', H', J', q⟩ := q
      exact ⟨σ', H', J'.ofTry ok, q⟩
    | cont =>
      obtain ⟨σ', H', J', q⟩ := q
      exact ⟨σ', H', J'.ofTry ok, q⟩
    | ret u =>
      obtain ⟨v, σ', H', J', r, q⟩ := q
      exact ⟨v, σ', H', J'.ofTry ok, r, q⟩
end
/-! ### by data -/
/-- what is known of two classes of exceptions: the first is under the second, or not -/
def XRel (G : Gc) (x y : Str) (b : Bool) : Prop := ∃ C D, G.mg x = some (.ref C) ∧ G.mg y = some (.ref D) ∧ PySem.W.exmOne G.K (.ref C) (.ref D) = some b ∧ PySem.W.kitOne G.K (.ref C) (.ref D) = some b ∧ L2.ExcC G.K C
abbrev EMT := List (Str × Str × Bool)
def em (E : EMT) (x y : Str) : Option Bool := (E.find? fun t => t.1 == x && t.2.1 == y).map (·.2.2)
def EmOk (G : Gc) (E : EMT) : Prop := ∀ t ∈ E, XRel G t.1 t.2.1 t.2.2
theorem em_rel {G : Gc} {E : EMT} (h : EmOk G E) {x y : Str} {b : Bool} (e : em E x y = some b) : XRel G x y b := by
  unfold em at e
  cases q : E.find? fun t => t.1 == x && t.2.1 == y with
  | none => rw [q] at e; cases e
  | some t =>
    rw [q] at e
    cases e
    have h1 := List.find?_some q
    rw [Bool.and_eq_true] at h1
    have e1 : t.1 = x := by simpa using h1.1
    have e2 : t.2.1 = y := by simpa using h1.2
    rw [← e1, ← e2]
    exact h t (List.mem_of_find?_eq_some q)
/-- a clause's suite, by the exception's name -/
def SHd (G : Gc) (N : List Str) (sc : Scope) (fn : Str → Bool) (k : Nat) (suite : List Stmt) (i : Nat) (rf : Str → Option Dt) : Prop :=
  ∀ X, Ctx G N sc fn k X → ∃ ts : Addr → Value → Option Addr → TS,
    (∀ (a : Addr) (oe : Obj) (cls : Value) (d : Option Addr) (pn : List (Addr × Obj)), Zc cls d oe → (∃ vs, oe.data = .fields vs) → PSs (X.suite a ((a, oe) :: pn)) suite (ts a cls d)) ∧
    ∀ n r cls, rf n = some r → X.mg n = some cls → ∀ a (De : Ends) σ H, σ[i]? = some (some (.ref a)) → (∀ v, (∀ O H', Rp X.K O H' v r) → De.rt v H) → ts a cls none De σ H
/-- a clause: the class's name, the slot, what is returned by the exception's name -/
abbrev Clz := Str × Nat × (Str → Option Dt)
def tryGo (E : EMT) (n : Str) : List Clz → Option Out
  | [] => some (.ex n none)
  | (x, _, rf) :: r => match em E n x with
    | some true => (rf n).map .rt
    | some false => tryGo E n r
    | none => none
def sTry (E : EMT) (g : SF) (hs : List Clz) : SF := fun ρ => match g ρ with
  | some (.ex n none) => tryGo E n hs
  | some (.ex _ (some _)) => none
  | y => y
inductive SHs (G : Gc) (N : List Str) (sc : Scope) (fn : Str → Bool) (k : Nat) : List ExceptHandler → List Clz → Prop
  | nil : SHs G N sc fn k [] []
  | cons {x n : Str} {i : Nat} {rf : Str → Option Dt} {b0 : Stmt} {suite : List Stmt} {np hp : Pos} {hds : List ExceptHandler} {l : List Clz} (hi : N[i]? = some n) (hln : sc.names.lookup n = some .local) (hg : GL sc x) (hdb : (x == ("__debug__" : Str)) = false) (hx : ∃ C, G.mg x = some (.ref C))
      (hs : SHd G N sc fn k (b0 :: suite) i rf) (r : SHs G N sc fn k hds l) : SHs G N sc fn k (.ExceptHandler (some (.Name x np)) (some n) (b0 :: suite) hp :: hds) ((x, i, rf) :: l)
theorem SHs.hds {G : Gc} {N : List Str} {sc : Scope} {fn : Str → Bool} {k : Nat} {E : EMT} (hE : EmOk G E) {X : Cx} (C : Ctx G N sc fn k X) : ∀ {hds : List ExceptHandler} {l : List Clz}, SHs G N sc fn k hds l →
    ∃ cl, HdsAs X hds cl ∧ ∀ (W : WX) (D : Ends) (ow : Ow) (H : Hp) (n : Str) (o : Out), tryGo E n l = some o → PostS X.K X.mg W D ow H o → PostS X.K X.mg (wAsM X.K W D cl) D ow H (.ex n none)
  | _, _, .nil => ⟨[], .nil, fun W D ow H n o e post => by cases e; exact post⟩
  | _, _, @SHs.cons _ _ _ _ _ x n i rf b0 suite np hp hds l hi hln hg hdb hx hs r => by
    obtain ⟨cl, h1, h2⟩ := SHs.hds hE C r
    obtain ⟨ts, t1, t2⟩ := hs X C
    obtain ⟨Cx, hCx⟩ := hx
    refine ⟨(.ref Cx, i, ts) :: cl, .cons (by rw [C.hN]; exact hi) (by show X.env.scope.names.lookup n = _; rw [C.hsc]; exact hln) ⟨C.gl hg, hdb, .inl (by rw [C.hmg]; exact hCx)⟩ t1 h1, fun W D ow H nm o e post => ?_⟩
    intro cls d σ' H' hc kp pk
    have pk' : d = none := pk
    subst pk'
    unfold tryGo at e
    cases he : em E nm x with
    | none => rw [he] at e; cases e
    | some b =>
      rw [he] at e
      obtain ⟨C1, D1, m1, m2, x1, _, _⟩ := em_rel hE he
      rw [C.hmg, m1] at hc
      cases hc
      rw [hCx] at m2
      cases m2
      refine ⟨b, by rw [C.hK]; exact x1, fun hb hlt a na => ?_, fun hb => ?_⟩
      · subst hb
        cases hr : rf nm with
        | none => rw [hr] at e; cases e
        | some dd =>
          rw [hr] at e
          cases e
          refine t2 nm dd _ hr (by rw [C.hmg]; exact m1) a _ _ _ (List.getElem?_set_self hlt) fun v hv => ?_
          exact post v H' kp (hv _ _)
      · subst hb
        exact h2 W D ow H nm o e post _ _ σ' H' (by rw [C.hmg]; exact m1) kp rfl
theorem ss_try {G : Gc} {N : List Str} {sc : Scope} {fn : Str → Bool} {k : Nat} {E : EMT} (hE : EmOk G E) {body : List Stmt} {h0 : ExceptHandler} {hds : List ExceptHandler} {l : List Clz} {g : SF} {pos : Pos} (hb : SB G N sc fn k body g) (hh : SHs G N sc fn k (h0 :: hds) l) : SS G N sc fn k (.Try body (h0 :: hds) [] [] pos) (sTry E g l) := fun X C T W tk hp => by
  obtain ⟨cl, h1, h2⟩ := hh.hds hE C
  refine PS.imp (ps_tryAs (tb := fun W => tS X.K X.mg W g) T.stk T.fr (by rw [C.hN]; exact C.nd) tk (fun W' pn xe tk' hp' => hb (X.tr pn xe) ⟨C.hP, C.hw, C.hK, C.hmg, C.hb, C.hN, C.nd, C.hsc, C.hfn, C.calm, C.room⟩ ⟨T.stk, T.fr⟩ W' tk' hp') h1) fun D σ H h => ?_
  obtain ⟨ρ, ow, o, he, gd, post⟩ := h
  unfold sTry at he
  cases hg : g ρ with
  | none => rw [hg] at he; cases he
  | some o1 =>
    rw [hg] at he
    cases o1 with
    | nx ρ' => cases he; exact ⟨ρ, ow, _, hg, gd, post⟩
    | rt d => cases he; exact ⟨ρ, ow, _, hg, gd, post⟩
    | ex n pl =>
      cases pl with
      | none => exact ⟨ρ, ow, _, hg, gd, h2 W D ow H n o he post⟩
      | some _ => cases he
/-! the suite «return A if isinstance(e, P) and not isinstance(e, Q) else B» -/
def rfIs (E : EMT) (P Q A B : Str) : Str → Option Dt := fun n => match em E n P, em E n Q with
  | some b1, some b2 => some (.str (if b1 && !b2 then A else B))
  | _, _ => none
theorem shd_is {G : Gc} {N : List Str} {sc : Scope} {fn : Str → Bool} {k : Nat} {E : EMT} (hE : EmOk G E) (B : Bi G) (i : Nat) {e P Q A Bs : Str} {p1 p2 p3 p4 p5 p6 p7 p8 p9 p10 p11 p12 p13 p14 : Pos} {j1 j2 : Nat} (hi : N[i]? = some e := by rfl) (hv : Vis sc e := by exact Or.inl rfl) (hd : (e == ("__debug__" : Str)) = false := by decide) (hcd : (e == ("__classdict__" : Str)) = false := by decide)
    (hgi : GL sc "isinstance" := by rfl) (hgP : GL sc P := by rfl) (hgQ : GL sc Q := by rfl) (hdP : (P == ("__debug__" : Str)) = false := by decide) (hdQ : (Q == ("__debug__" : Str)) = false := by decide) :
    SHd G N sc fn k [.Return (some (.IfExp (.BoolOp .And [.Call (.Name "isinstance" p1) [.Name e p2, .Name P p3] [] p4, .UnaryOp .Not (.Call (.Name "isinstance" p5) [.Name e p6, .Name Q p7] [] p8) p9] p10) (.Constant (.str A) j1 p11) (.Constant (.str Bs) j2 p12) p13)) p14] i (rfIs E P Q A Bs) := fun X C => by
  refine ⟨fun a cls d De σ H => ∃ C1 D1 D2 b1 b2, cls = .ref C1 ∧ d = none ∧ L2.ExcC X.K C1 ∧ X.mg P = some (.ref D1) ∧ X.mg Q = some (.ref D2) ∧ PySem.W.kitOne X.K (.ref C1) (.ref D1) = some b1 ∧ PySem.W.kitOne X.K (.ref C1) (.ref D2) = some b2 ∧ σ[i]? = some (some (.ref a)) ∧ De.rt (.str (if b1 && !b2 then A else Bs)) H, ?_, ?_⟩
  · intro a oe cls d pn hz hfl
    refine ⟨fun pins s σ H De I h => ?_⟩
    obtain ⟨C1, D1, D2, b1, b2, rfl, rfl, hC, mP, mQ, k1, k2, hσ, hrt⟩ := h
    have hgl : ∀ {x : Str}, GL sc x → Gl (X.suite a ((a, oe) :: pn)) x := fun {x} h => by
      show X.env.scope.names.lookup x = _
      rw [C.hsc]; exact h
    have hmi : (X.suite a ((a, oe) :: pn)).mg "isinstance" = none := by show X.mg _ = none; rw [C.hmg]; exact B.isinstance
    have pv : ∀ q : Pos, PE (X.suite a ((a, oe) :: pn)) (.Name e q) (tVar i) := fun q => pe_var (by show X.N[i]? = _; rw [C.hN]; exact hi) (by show Vis X.env.scope e; rw [C.hsc]; exact hv) hd hcd
    have pP : ∀ q : Pos, PE (X.suite a ((a, oe) :: pn)) (.Name P q) (tC (.ref D1)) := fun q => pe_glob (hgl hgP) mP rfl hdP
    have pQ : ∀ q : Pos, PE (X.suite a ((a, oe) :: pn)) (.Name Q q) (tC (.ref D2)) := fun q => pe_glob (hgl hgQ) mQ rfl hdQ
    have c1 : PE (X.suite a ((a, oe) :: pn)) (.Call (.Name "isinstance" p1) [.Name e p2, .Name P p3] [] p4) _ := pe_callB (call_isE hC hz hfl) (hgl hgi) hmi boot_isinstance (pa_cons (pv p2) (pa_cons (pP p3) pa_nil))
    have c2 : PE (X.suite a ((a, oe) :: pn)) (.Call (.Name "isinstance" p5) [.Name e p6, .Name Q p7] [] p8) _ := pe_callB (call_isE hC hz hfl) (hgl hgi) hmi boot_isinstance (pa_cons (pv p6) (pa_cons (pQ p7) pa_nil))
    have all := pss_one (ps_ret (pos := p14) (pe_ifExp (pos := p13) (pw_and (pos := p10) (pt_val c1) (pw_and1 (pt_not (pos := p9) (pt_val c2)))).pt (pe_str (x := A) (j := j1) (pos := p11)) (pe_str (x := Bs) (j := j2) (pos := p12))))
    refine all.run pins s σ H De I ?_
    refine ⟨.ref a, hσ, .ref D1, .ref D1, b1, rfl, fun u hu => hu, k1, b1, rfl, ?_⟩
    cases b1 with
    | false => exact hrt
    | true =>
      rw [if_pos rfl]
      refine ⟨.ref a, hσ, .ref D2, .ref D2, b2, rfl, fun u hu => hu, k2, b2, rfl, ?_⟩
      cases b2 <;> exact hrt
  · intro n r cls hr hc a De σ H hσ hrt
    unfold rfIs at hr
    cases e1 : em E n P with
    | none => rw [e1] at hr; cases hr
    | some b1 =>
      cases e2 : em E n Q with
      | none => rw [e1, e2] at hr; cases hr
      | some b2 =>
        rw [e1, e2] at hr
        cases hr
        obtain ⟨C1, D1, m1, m2, _, x1, xc⟩ := em_rel hE e1
        obtain ⟨C2, D2, m3, m4, _, x2, _⟩ := em_rel hE e2
        rw [m1] at m3
        cases m3
        rw [C.hmg, m1] at hc
        cases hc
        exact ⟨C1, D1, D2, b1, b2, rfl, rfl, by rw [C.hK]; exact xc, by rw [C.hmg]; exact m2, by rw [C.hmg]; exact m4, by rw [C.hK]; exact x1, by rw [C.hK]; exact x2, hσ, hrt _ fun O H' => .str _⟩
end PT

namespace PT
open PySem PySem.Spec PyProof.Rows L2
/-! ## a hook with a check of one's own -/
def obsP (fa : List He.Fa) (fn : List He.DefD) (chk : PySem.W.Frag → Bool) (K : PySem.W.Frag) : He.AlD := ((He.obsD fa fn K).1 && chk K, (He.obsD fa fn K).2)
def SaysP (fa : List He.Fa) (fn : List He.DefD) (chk : PySem.W.Frag → Bool) (K : PySem.W.Frag) : Prop := obsP fa fn chk K = He.valD fn
theorem SaysP.says {fa : List He.Fa} {fn : List He.DefD} {chk : PySem.W.Frag → Bool} {K : PySem.W.Frag} (h : SaysP fa fn chk K) : He.SaysD fa fn K ∧ chk K = true := by
  have h1 : ((He.obsD fa fn K).1 && chk K) = true := congrArg (fun z : He.AlD => z.1) h
  have h2 : (He.obsD fa fn K).2 = fn.map He.DefD.val := congrArg (fun z : He.AlD => z.2) h
  rw [Bool.and_eq_true] at h1
  exact ⟨Prod.ext h1.1 h2, h1.2⟩
def obsPG (n : Nat) (fa : List He.Fa) (fn : List He.DefD) (chk : PySem.W.Frag → Bool) (g : Addr → Option Obj) : He.AlD := obsP fa fn chk (He.frG g (He.asD g n))
def hookP (n : Nat) (fa : List He.Fa) (fn : List He.DefD) (chk : PySem.W.Frag → Bool) : PySem.W.Hook where
  α := He.AlD
  obs := fun s => obsPG n fa fn chk s.heap.get?
  val := fun _ => He.valD fn
  says := fun _ h => ∃ K : PySem.W.Frag, K.In h ∧ SaysP fa fn chk K
  of := fun _ _ e => ⟨_, He.frG_in, e⟩
  keeps := fun _ _ _ ⟨K, hK, c⟩ k => ⟨K, PySem.W.Frag.In.keeps hK k, c⟩
theorem obsPG_eq {n : Nat} {fa : List He.Fa} {fn : List He.DefD} {chk : PySem.W.Frag → Bool} {g : Addr → Option Obj} {s : Shared} (h : ∀ a, g a = s.heap.get? a) : obsPG n fa fn chk g = (hookP n fa fn chk).obs s := by
  have e : g = s.heap.get? := funext h
  rw [e]
  rfl
def excB (K : PySem.W.Frag) (C : Addr) : Bool :=
  He.eqO (PySem.W.findIn K (.ref C) "__getattribute__") (some (some (.builtin "BaseException.__getattribute__"))) && (He.eqO (PySem.W.findIn K (.ref C) "__getattr__") (some none) && (decide (PySem.W.subIn K (.ref C) (.type "BaseException") = some true) && (PySem.W.hasDictIn K C &&
    (He.eqO (PySem.W.findIn K (.ref C) "__class__") (some (some (.builtin "object.__class__"))) && (He.eqO (PySem.W.specialIn K (.builtin "object.__class__") "__get__") (some (some (.builtin "getset_descriptor.__get__"))) &&
      (decide (PySem.W.takesIn K (.builtin "object.__class__") = some true) && decide (PySem.W.mroIn K C (.type "object") = some true)))))))
theorem excB_ok {K : PySem.W.Frag} {C : Addr} (h : excB K C = true) : L2.ExcC K C := by
  unfold excB at h
  simp only [Bool.and_eq_true, decide_eq_true_eq] at h
  obtain ⟨h1, h2, h3, h4, h5, h6, h7, h8⟩ := h
  exact ⟨He.eqO_ok h1, He.eqO_ok h2, h3, h4, He.eqO_ok h5, He.eqO_ok h6, h7, h8⟩
def relOk (K : PySem.W.Frag) (t : Str × Str × Bool) : Bool := He.eqO (PySem.W.nsIn K mainGlobals t.1) (some (some (.ref (He.ga K t.1)))) && (He.eqO (PySem.W.nsIn K mainGlobals t.2.1) (some (some (.ref (He.ga K t.2.1)))) &&
  (decide (PySem.W.exmOne K (.ref (He.ga K t.1)) (.ref (He.ga K t.2.1)) = some t.2.2) && (decide (PySem.W.kitOne K (.ref (He.ga K t.1)) (.ref (He.ga K t.2.1)) = some t.2.2) && excB K (He.ga K t.1))))
def chkE (E : EMT) (K : PySem.W.Frag) : Bool := E.all fun t => relOk K t
theorem chkE_ok {P : Program} {w : World} {K : PySem.W.Frag} {h base : Heap} {mg : Str → Option Value} {E : EMT} (X : K.In h) (G : h.Ns mainGlobals mg) (c : chkE E K = true) : EmOk ⟨P, w, K, mg, base⟩ E := fun t ht => by
  have h1 := List.all_eq_true.mp c t ht
  unfold relOk at h1
  simp only [Bool.and_eq_true, decide_eq_true_eq] at h1
  obtain ⟨a1, a2, a3, a4, a5⟩ := h1
  exact ⟨He.ga K t.1, He.ga K t.2.1, PySem.W.mg_of X G (He.eqO_ok a1), PySem.W.mg_of X G (He.eqO_ok a2), a3, a4, excB_ok a5⟩
end PT

namespace PT
open PySem PySem.Spec PyProof.Rows L2
/-! ## range with a step above 0 -/
def rgC (lo c : Int) (n : Nat) : List Dt := (List.range n).map fun i => .int (lo + (i : Nat) * c)
theorem rgC_length (lo c : Int) (n : Nat) : (rgC lo c n).length = n := by unfold rgC; rw [List.length_map, List.length_range]
theorem rgC_get {lo c : Int} {n i : Nat} (h : i < n) : (rgC lo c n)[i]? = some (.int (lo + (i : Nat) * c)) := by
  unfold rgC
  rw [List.getElem?_map, List.getElem?_range h]
  rfl
theorem wd_rgC {b : Bool} {K : PySem.W.Frag} {ow : Ow} {H : Hp} {lo c : Int} {n : Nat} : WD .d b K ow H (Itc lo c n) (rgC lo c n) := fun ow1 H1 r ok1 => by
  refine ⟨fun i hi => ?_, ?_, fun i x H2 hi y => ?_⟩
  · rw [rgC_length] at hi; exact hi
  · rw [rgC_length]; exact Nat.le_refl n
  · rw [rgC_length] at hi
    obtain ⟨rfl, rfl⟩ := y
    exact ⟨Same.refl _, _, rgC_get hi, .int _⟩
def stepN (i j c : Int) : Nat := if i < j then ((j - i - 1) / c + 1).toNat else 0
def okC : Int → Bool
  | .ofNat n => Nat.ble 1 n && Nat.ble n 1000000
  | .negSucc _ => false
theorem okC_iff {i : Int} : okC i = true ↔ 1 ≤ i ∧ i ≤ 1000000 := by
  cases i with
  | ofNat n =>
    show (Nat.ble 1 n && Nat.ble n 1000000) = true ↔ _
    rw [Bool.and_eq_true, Nat.ble_eq, Nat.ble_eq]
    show 1 ≤ n ∧ n ≤ 1000000 ↔ 1 ≤ (n : Int) ∧ (n : Int) ≤ 1000000
    omega
  | negSucc n =>
    have : Int.negSucc n = -((n : Int) + 1) := rfl
    show false = true ↔ _
    rw [this]
    simp
    omega
section
variable {G : Gc} {N : List Str} {sc : Scope} {fn : Str → Bool} {k : Nat} {pos p p2 q1 q2 : Pos} {a b c tg : Expr} {f g h : EF}
def iRg3 (f g h : EF) : IF := fun _ ρ => bndI (f true ρ) fun x => bndI (g true ρ) fun y => bndI (h true ρ) fun z => match x, y, z with
  | .int i, .int j, .int c => if okI i = true ∧ okI j = true ∧ okC c = true then some (.it (rgC i c (stepN i j c))) else none
  | _, _, _ => none
theorem stepC {i j c : Int} (hi : i ≤ 1000000 ∧ -1000000 ≤ i) (hj : j ≤ 1000000 ∧ -1000000 ≤ j) (hc : 1 ≤ c ∧ c ≤ 1000000) : RgC i j c (stepN i j c) := by
  refine ⟨by omega, by omega, ?_, ?_⟩
  · have hq : (j - i - 1) / c * c ≤ j - i - 1 ∨ True := .inr trivial
    have hpos : i < j → 0 ≤ (j - i - 1) / c ∧ (j - i - 1) / c ≤ j - i - 1 := fun h => ⟨Int.ediv_nonneg (by omega) (by omega), Int.ediv_le_self _ (by omega)⟩
    have hm : i < j → (j - i - 1) / c * c ≤ j - i - 1 ∧ 0 ≤ (j - i - 1) / c * c := fun h => ⟨Int.ediv_mul_le _ (by omega), Int.mul_nonneg (hpos h).1 (by omega)⟩
    unfold Builtin.Range.small Builtin.Range.rangeSize
    simp only [Builtin.Range.rangeFitsLong, Bool.and_eq_true, Bool.or_eq_true, decide_eq_true_eq, beq_iff_eq, show c > 0 by omega, if_true]
    split
    · rename_i h
      have h1 := hpos h
      have h2 := hm h
      omega
    · omega
  · unfold Builtin.Range.rangeSize stepN
    rw [if_pos (by omega)]
    split
    · have h0 : 0 ≤ (j - i - 1) / c := Int.ediv_nonneg (by omega) (by omega)
      rw [Int.toNat_of_nonneg (by omega)]
    · rfl
theorem si_rg3 (B : Bi G) (ha : SE G N sc fn k a f) (hb : SE G N sc fn k b g) (hc : SE G N sc fn k c h) (hg : GL sc "range" := by rfl) (ns : NS a := by intro _ _; rfl) (ns2 : NS b := by intro _ _; rfl) (ns3 : NS c := by intro _ _; rfl) : SI G N sc fn k .d tg (.Call (.Name "range" p) [a, b, c] [] pos) (iRg3 f g h) := fun X C W tk b' =>
  PI.imp (pi_range3 (C.gl hg) (by rw [C.hmg]; exact B.range) (pa_cons (ha X C W tk true) (pa_cons (hb X C W tk true) (pa_cons (hc X C W tk true) pa_nil (ns3 [] X.env)) (ns2 [c] X.env)) (ns [b, c] X.env)) (ns [b, c] X.env) (noStar _ _ _ fun e he => by
      rcases List.mem_cons.mp he with rfl | he
      · exact ns2
      · rw [List.mem_singleton.mp he]; exact ns3)) fun σ H R h => by
    obtain ⟨ρ, ow, r, he, gd, post⟩ := h
    refine tE.goI gd he (fun n pl e => by subst e; exact post) fun d hd v H1 s1 r1 => ?_
    refine tE.goI (gd.same s1) hd (fun n pl e => by subst e; exact ExP.same post s1) fun d2 hd2 v2 H2 s2 r2 => ?_
    refine tE.goI (gd.same (s1.trans s2)) hd2 (fun n pl e => by subst e; exact ExP.same post (s1.trans s2)) fun d3 hd3 v3 H3 s3 r3 => ?_
    split at hd3
    · split at hd3
      · rename_i i j cc hn
        rw [okI_iff, okI_iff, okC_iff] at hn
        cases hd3
        obtain rfl := r1.int
        obtain rfl := r2.int
        obtain rfl := r3.int
        exact ⟨i, j, cc, _, rfl, stepC hn.1 hn.2.1 hn.2.2, post _ H3 ((s1.trans s2).trans s3) wd_rgC⟩
      · cases hd3
    · cases hd3
/-! ## max, min of a list of whole numbers -/
def mxL : List Int → Option Int
  | [] => none
  | x :: l => match mxL l with
    | none => some x
    | some y => some (if x < y then y else x)
theorem mxL_ok : ∀ {l : List Int} {m : Int}, mxL l = some m → m ∈ l ∧ ∀ y ∈ l, y ≤ m
  | x :: l, m, h => by
    unfold mxL at h
    cases e : mxL l with
    | none =>
      rw [e] at h
      cases h
      have hl : l = [] := by
        cases l with
        | nil => rfl
        | cons a l => unfold mxL at e; cases q : mxL l <;> rw [q] at e <;> cases e
      subst hl
      exact ⟨List.mem_singleton.mpr rfl, fun y hy => by rw [List.mem_singleton.mp hy]; omega⟩
    | some y =>
      rw [e] at h
      have ih := mxL_ok e
      by_cases hxy : x < y
      · have hm : y = m := by simpa [hxy] using h
        subst hm
        refine ⟨List.mem_cons_of_mem _ ih.1, fun z hz => ?_⟩
        rcases List.mem_cons.mp hz with rfl | hz
        · omega
        · exact ih.2 z hz
      · have hm : x = m := by simpa [hxy] using h
        subst hm
        refine ⟨List.mem_cons_self, fun z hz => ?_⟩
        rcases List.mem_cons.mp hz with rfl | hz
        · omega
        · have := ih.2 z hz; omega
def mnL (l : List Int) : Option Int := (mxL (l.map fun x => -x)).map fun x => -x
theorem mnL_ok {l : List Int} {m : Int} (h : mnL l = some m) : m ∈ l ∧ ∀ y ∈ l, m ≤ y := by
  unfold mnL at h
  cases e : mxL (l.map fun x => -x) with
  | none => rw [e] at h; cases h
  | some y =>
    rw [e] at h
    cases h
    obtain ⟨h1, h2⟩ := mxL_ok e
    obtain ⟨z, hz, rfl⟩ := List.mem_map.mp h1
    refine ⟨by show -(-z) ∈ l; rw [Int.neg_neg]; exact hz, fun w hw => ?_⟩
    have := h2 (-w) (List.mem_map.mpr ⟨w, hw, rfl⟩)
    show -(-z) ≤ w
    omega
def dMaxL : Dt → Option Dt
  | .list ds => match unI ds with
    | some ns => (mxL ns).map .int
    | none => none
  | _ => none
def dMinL : Dt → Option Dt
  | .list ds => match unI ds with
    | some ns => (mnL ns).map .int
    | none => none
  | _ => none
theorem cd_maxL (K : PySem.W.Frag) : CD1 K (rMax K) dMaxL := by
  intro x H Q ow dx dz ok rx e post
  cases dx with
  | list ds =>
    simp only [dMaxL] at e
    cases hu : unI ds with
    | none => rw [hu] at e; cases e
    | some ns =>
      rw [hu] at e
      obtain rfl := unI_eq hu
      obtain ⟨a, vs, rfl, h1, r⟩ := rx.list
      obtain rfl := RpAll.ints r
      cases hm : mxL ns with
      | none => simp only [hm] at e; cases e
      | some m =>
        simp only [hm] at e
        cases e
        have hk := mxL_ok hm
        refine ⟨a, ns, rfl, SqL.of h1, List.length_pos_of_mem hk.1, fun m' h1' h2' => ?_⟩
        have : m' = m := Int.le_antisymm (hk.2 m' h1') (h2' m hk.1)
        subst this
        exact post _ H (Same.refl H) (.int _)
  | _ => cases e
theorem cd_minL (K : PySem.W.Frag) : CD1 K (rMin K) dMinL := by
  intro x H Q ow dx dz ok rx e post
  cases dx with
  | list ds =>
    simp only [dMinL] at e
    cases hu : unI ds with
    | none => rw [hu] at e; cases e
    | some ns =>
      rw [hu] at e
      obtain rfl := unI_eq hu
      obtain ⟨a, vs, rfl, h1, r⟩ := rx.list
      obtain rfl := RpAll.ints r
      cases hm : mnL ns with
      | none => simp only [hm] at e; cases e
      | some m =>
        simp only [hm] at e
        cases e
        have hk := mnL_ok hm
        refine ⟨a, ns, rfl, SqL.of h1, List.length_pos_of_mem hk.1, fun m' h1' h2' => ?_⟩
        have : m' = m := Int.le_antisymm (h2' m hk.1) (hk.2 m' h1')
        subst this
        exact post _ H (Same.refl H) (.int _)
  | _ => cases e
theorem se_maxL (B : Bi G) (ha : SE G N sc fn k a f) (hg : GL sc "max" := by rfl) (ns : NS a := by intro _ _; rfl) : SE G N sc fn k (.Call (.Name "max" p) [a] [] pos) (eUn dMaxL f) :=
  se_b1 (r := rMax) (fun X h => cr_max h) cd_maxL B.max boot_max ha hg (by decide) (by decide) ns
theorem se_minL (B : Bi G) (ha : SE G N sc fn k a f) (hg : GL sc "min" := by rfl) (ns : NS a := by intro _ _; rfl) : SE G N sc fn k (.Call (.Name "min" p) [a] [] pos) (eUn dMinL f) :=
  se_b1 (r := rMin) (fun X h => cr_min h) cd_minL B.min boot_min ha hg (by decide) (by decide) ns
/-! ## three names = a list -/
def gTr (f g h : GF) : GF := fun d ρ => match d with
  | .list [x, y, z] => (f x ρ).bind fun ρ1 => (g y ρ1).bind (h z)
  | _ => none
theorem sg_tr {e1 e2 e3 : Expr} {kk : Nat} {sl1 sl2 sl3 : List Nat} {f g h : GF} (h1 : SG G N sc fn k .d e1 sl1 f) (h2 : SG G N sc fn k .d e2 sl2 g) (h3 : SG G N sc fn k .d e3 sl3 h)
    (hn : ∀ env, (assignEach [e1, e2, e3] env).length = 3 := by intro _; rfl) (hst : ∀ env, (assignEach [e1, e2, e3] env).findIdx? (·.1) = none := by intro _; rfl)
    (hs : ∀ env, (assignEach [e1, e2, e3] env).map (·.2) = assign e1 env :: (assignEach [e2, e3] env).map (·.2) := by intro _; rfl) (hs2 : ∀ env, (assignEach [e2, e3] env).map (·.2) = assign e2 env :: (assignEach [e3] env).map (·.2) := by intro _; rfl) (hs3 : ∀ env, (assignEach [e3] env).map (·.2) = assign e3 env :: (assignEach [] env).map (·.2) := by intro _; rfl) :
    SG G N sc fn k .d (.Tuple [e1, e2, e3] kk pos) (sl1 ++ (sl2 ++ sl3)) (gTr f g h) := fun X C =>
  PG.imp (pg_lst (n := 3) C.calm (pgs_cons (h1 X C) (pgs_cons (h2 X C) (pgs_cons (h3 X C) pgs_nil (hs3 X.env)) (hs2 X.env)) (hs X.env)) (hn X.env) (hst X.env)) fun v σ H Q hh => by
    obtain ⟨ρ, ow, d, ρ', hn, he, gd, r, post⟩ := hh
    unfold gTr at he
    split at he
    · rename_i x y z
      have r : Rp X.K (OA ow) H v (.list [x, y, z]) := r
      cases r with
      | lst ha hno ra =>
        cases ra with
        | cons rx rr =>
          cases rr with
          | cons ry rr =>
            cases rr with
            | cons rz rn =>
              cases rn
              rename_i a vx vy vz
              cases q1 : f x ρ with
              | none => rw [q1] at he; cases he
              | some ρ1 =>
                rw [q1] at he
                simp only [Option.bind_some] at he
                cases q2 : g y ρ1 with
                | none => rw [q2] at he; cases he
                | some ρ2 =>
                  rw [q2] at he
                  refine ⟨a, [vx, vy, vz], rfl, SqL.of ha, rfl, vx, [vy, vz], rfl, ρ, ow, x, ρ1, fun j hj => hn j (List.mem_append_left _ hj), q1, gd, rx, fun σ1 g1 l1 a1 => ?_⟩
                  refine ⟨vy, [vz], rfl, ρ1, ow, y, ρ2, fun j hj => hn j (List.mem_append_right _ (List.mem_append_left _ hj)), q2, g1, ry, fun σ2 g2 l2 a2 => ?_⟩
                  refine ⟨vz, [], rfl, ρ2, ow, z, ρ', fun j hj => hn j (List.mem_append_right _ (List.mem_append_right _ hj)), he, g2, rz, fun σ3 g3 l3 a3 => ⟨rfl, ?_⟩⟩
                  refine post σ3 g3 (l3.trans (l2.trans l1)) fun j hj => ?_
                  rw [List.mem_append, List.mem_append, not_or, not_or] at hj
                  rw [a3 j hj.2.2, a2 j hj.2.1, a1 j hj.1]
    · cases he
end
end PT

namespace PT
open PySem PySem.Spec PyProof.Rows L2
/-! ## a tuple times 1, or more -/
theorem tuple_mulW1 (l : Addr) (items : Array Value) (n : Nat) (dd : Option Addr) (sl : Array (Option Value)) (u : Tok) :
    Meets (Builtin.«tuple.__mul__» ⟨[.ref l, .int 1 u], []⟩) (fun _ R s => s.heap.get? l = some { cls := .type "tuple", dict := dd, data := .seq items n, slots := sl } ∧ R (.ok (.ret (Value.ref l))) s) :=
  .of_wp fun prog w A R s h => by
    obtain ⟨hp, g, d, tk, os⟩ := s
    obtain ⟨hl, h⟩ := h
    have f1 := AutoSeq1.idx_int
    have c1 : (items.isEmpty || (1 : Int) == 1) = true := by simp
    wp_walk using wpAny_loadPart' hl
    exact ⟨_, rfl, h⟩
def rRepT1 (K : PySem.W.Frag) : R2 := fun x y H Q => ∃ l xs, x = .ref l ∧ y = .int 1 ∧ SqT K H l xs ∧ Q (.ref l) H
theorem op_repT1 {X : Cx} : OpR X (binaryOp .Mult) (rRepT1 X.K) := by
  intro pins s σ H x y v u Q I rx ry h
  obtain ⟨l, xs, rfl, rfl, hT, q⟩ := h
  cases rx
  obtain ⟨t, rfl⟩ := ry
  obtain ⟨its, r, ⟨⟨cls, dd, data, sl⟩, ho, hc, n, hd⟩, hs⟩ := I.tuple hT
  simp only at hc hd
  subst hc hd
  exact wpAny_binaryOp_repeat_ref (T := "tuple") (U := "int") (by decide) ⟨_, ho, rfl⟩ (fun s' => typeIs_int s' 1 t) noFill_tuple_mul F.fills_int_mul F.slot_int_rmul repeat_tuple F.slot_int_index.lookup
    (call_meets F.slot_int_rmul (typeIs_int s 1 t) F.entry_int_rmul (F.args_int_rmul_2 _ _) (int_rmul_tuple 1 t l its.toArray n dd sl)
      ⟨ho, rfl, ⟨_, ho, rfl⟩, call_meets F.slot_tuple_mul ⟨_, ho, rfl⟩ F.entry_tuple_mul (F.args_tuple_mul_2 _ _) (tuple_mulW1 l its.toArray n dd sl t) ⟨ho, ⟨.ref l, H, I, rfl, q⟩⟩⟩)
def dMulT : Dt → Dt → Option Dt
  | .tuple xs, .int j => if xs ≠ [] ∧ okM j = true ∧ xs.length ≤ 1000 then some (.tuple (List.replicate j.toNat xs).flatten) else if j = 1 then some (.tuple xs) else none
  | _, _ => none
def rMulT (K : PySem.W.Frag) : R2 := fun x y H Q => rRepF K x y H Q ∨ rRepT1 K x y H Q
theorem rd_mulT (K : PySem.W.Frag) : RD K (rMulT K) dMulT := by
  intro x y H Q ow dx dy dz ok rx ry e post
  unfold dMulT at e
  split at e
  · rename_i xs j
    split at e
    · rename_i hz
      cases e
      obtain ⟨a, vs, rfl, h1, r1⟩ := rx.tuple
      obtain rfl := ry.int
      refine .inl ⟨a, j, vs, rfl, rfl, h1.sq, fun z => ?_, (okM_iff.mp hz.2.1).1, (okM_iff.mp hz.2.1).2, by rw [r1.length]; exact hz.2.2, fun p o hp ho =>
        post _ _ (Same.upd hp) (.tup ⟨o, upd_same, ho⟩ (RpAll.same (Same.upd hp) (r1.rep _)))⟩
      subst z
      cases r1
      exact hz.1 rfl
    · split at e
      · rename_i hj
        subst hj
        cases e
        obtain ⟨a, vs, rfl, h1, r1⟩ := rx.tuple
        obtain rfl := ry.int
        exact .inr ⟨a, vs, rfl, rfl, h1.sq, post _ H (Same.refl H) (.tup h1 r1)⟩
      · cases e
  · cases e
section
variable {G : Gc} {N : List Str} {sc : Scope} {fn : Str → Bool} {k : Nat} {pos apos cpos p : Pos} {a b c : Expr} {f g h : EF}
theorem se_mulT (ha : SE G N sc fn k a f) (hb : SE G N sc fn k b g) : SE G N sc fn k (.BinOp a .Mult b pos) (eBin dMulT f g) :=
  se_bin (r := rMulT) (fun X => op_repF.or op_repT1) rd_mulT ha hb
/-! ## what is never reached -/
def eNo : EF := fun _ _ => none
theorem se_no {e : Expr} : SE G N sc fn k e eNo := fun X C W tk b => ⟨fun pins s σ H Q I h => by
  obtain ⟨ρ, ow, r, he, _⟩ := h
  cases he⟩
/-! ## list.count -/
def dCnt : Dt → Dt → Option Dt
  | .list xs, .int j => match unI xs with
    | some ns => some (.int (ns.count j : Nat))
    | none => none
  | _, _ => none
def isL : Dt → Bool
  | .list _ => true
  | _ => false
/-- a method of one argument, by data -/
def eMeth (T : Dt → Bool) (op : Dt → Dt → Option Dt) (f g : EF) : EF := fun _ ρ => bnd (f true ρ) fun x => if T x = true then bnd (g true ρ) fun y => (op x y).map .val else none
theorem se_cnt (ha : SE G N sc fn k a f) (hb : SE G N sc fn k b g) (hbase : ∀ env : PySem.Env, attributeBase a "count" env (eval a env) = eval a env := by intro _; rfl) (hline : (apos.endLine == cpos.line) = true := by rfl) (ns : NS b := by intro _ _; rfl) : SE G N sc fn k (.Call (.Attribute a "count" apos) [b] [] cpos) (eMeth isL dCnt f g) := fun X C W tk b' =>
  PE.imp (pe_bm PySem.F.plainAttrs_list PySem.F.slot_list_count PySem.F.type_list_count mt_lcount (ha X C W tk true) (pa_cons (hb X C W tk true) pa_nil (ns _ X.env)) (hbase X.env) (by
    rw [ns [] X.env]; rfl) hline (ns _ X.env) rfl) fun σ H Q h => by
    obtain ⟨ρ, ow, rs, he, gd, post⟩ := h
    refine tE.go gd he (fun n pl e => by subst e; exact post) fun d hd1 v H1 s1 r1 => ?_
    cases d with
    | list xs =>
      rw [if_pos (show isL (.list xs) = true from rfl)] at hd1
      obtain ⟨l, vs, rfl, h1, rv⟩ := r1.list
      refine ⟨.inl ⟨rfl, vs, SqL.of h1⟩, ?_⟩
      refine tE.go (gd.same s1) hd1 (fun n pl e => by subst e; exact post.same s1) fun d2 hd2 v2 H2 s2 r2 => ?_
      unfold dCnt at hd2
      split at hd2
      · rename_i e1
        split at hd2
        · rename_i ns hns
          cases e1
          cases hd2
          obtain rfl := r2.int
          rw [unI_eq hns] at rv
          have e2 := rv.ints
          subst e2
          exact ⟨l, ns, _, rfl, rfl, SqL.of (s2 _ _ h1), post _ H2 (s1.trans s2) (.inl (.int _))⟩
        · cases hd2
      · cases hd2
    | _ => cases hd1
end
end PT

namespace PT
open PySem PySem.Spec PyProof.Rows L2
/-! ## loops that end at the first find; loops that keep the first find -/
theorem forL_first {sl : List Nat} {tg : GF} {body : SF} (P : En → Prop) (q : Dt → Option Dt) : ∀ (xs : List Dt) (ρ : En), P ρ →
    (∀ x ∈ xs, ∀ ρ, P ρ → (q x = none ∧ ∃ ρ2, turn sl tg body x ρ = some (.nx ρ2) ∧ P ρ2) ∨ ∃ d, q x = some d ∧ turn sl tg body x ρ = some (.rt d)) →
    (xs.findSome? q = none ∧ ∃ ρ', forL sl tg body xs ρ = some (.nx ρ') ∧ P ρ') ∨ ∃ d, xs.findSome? q = some d ∧ forL sl tg body xs ρ = some (.rt d)
  | [], ρ, h0, _ => .inl ⟨rfl, ρ, rfl, h0⟩
  | x :: xs, ρ, h0, hs => by
    rcases hs x List.mem_cons_self ρ h0 with ⟨e, ρ2, h1, h2⟩ | ⟨d, e, h1⟩
    · rcases forL_first P q xs ρ2 h2 fun y hy => hs y (List.mem_cons_of_mem _ hy) with ⟨e2, ρ', h3, h4⟩ | ⟨d, e2, h3⟩
      · exact .inl ⟨by rw [List.findSome?_cons, e]; exact e2, ρ', by rw [forL_cons h1]; exact h3, h4⟩
      · exact .inr ⟨d, by rw [List.findSome?_cons, e]; exact e2, by rw [forL_cons h1]; exact h3⟩
    · exact .inr ⟨d, by rw [List.findSome?_cons, e], forL_stop h1⟩
theorem forL_or {sl : List Nat} {tg : GF} {body : SF} (P : Option Dt → En → Prop) (q : Dt → Option Dt) : ∀ (xs : List Dt) (acc : Option Dt) (ρ : En), P acc ρ →
    (∀ x ∈ xs, ∀ acc ρ, P acc ρ → ∃ ρ2, turn sl tg body x ρ = some (.nx ρ2) ∧ P (acc.or (q x)) ρ2) →
    ∃ ρ', forL sl tg body xs ρ = some (.nx ρ') ∧ P (acc.or (xs.findSome? q)) ρ'
  | [], acc, ρ, h0, _ => ⟨ρ, rfl, by rw [List.findSome?_nil, Option.or_none]; exact h0⟩
  | x :: xs, acc, ρ, h0, hs => by
    obtain ⟨ρ2, h1, h2⟩ := hs x List.mem_cons_self acc ρ h0
    obtain ⟨ρ', h3, h4⟩ := forL_or P q xs (acc.or (q x)) ρ2 h2 fun y hy => hs y (List.mem_cons_of_mem _ hy)
    refine ⟨ρ', by rw [forL_cons h1]; exact h3, ?_⟩
    have e : acc.or ((x :: xs).findSome? q) = (acc.or (q x)).or (xs.findSome? q) := by
      rw [List.findSome?_cons, Option.or_assoc]
      cases q x <;> rfl
    rw [e]
    exact h4
theorem findSome_flat {α β γ : Type} (f : α → List β) (g : β → Option γ) : ∀ xs : List α, (xs.flatMap f).findSome? g = xs.findSome? fun x => (f x).findSome? g
  | [] => rfl
  | x :: xs => by
    rw [List.flatMap_cons, List.findSome?_append, List.findSome?_cons, findSome_flat f g xs]
    cases (f x).findSome? g <;> rfl
theorem findSome_filter {β γ : Type} (p : β → Bool) (g : β → Option γ) : ∀ xs : List β, (xs.filter p).findSome? g = xs.findSome? fun x => if p x = true then g x else none
  | [] => rfl
  | x :: xs => by
    rw [List.filter_cons, List.findSome?_cons, ← findSome_filter p g xs]
    cases p x with
    | true => simp only [if_true, List.findSome?_cons]
    | false => simp
end PT

namespace PT
open PySem PySem.Spec PyProof.Rows L2
section
variable {G : Gc} {N : List Str} {sc : Scope} {fn : Str → Bool} {k : Nat} {pos p p2 q1 q2 : Pos} {a b c : Expr} {f g h : EF}
/-! ## a, b = [..], None -/
theorem ss_parO (i j : Nat) {x y : Str} {px py : Pos} {kt k2 j1 : Nat} {pt pt2 : Pos} (ha : SL G N sc fn k a f) (hi : N[i]? = some x := by rfl) (hj : N[j]? = some y := by rfl) (hij : i ≠ j := by decide)
    (hk : sc.kind = .function := by rfl) (hx : sc.names.lookup x = some .local := by rfl) (hy : sc.names.lookup y = some .local := by rfl) (hl : (px.line == py.line) = true := by rfl) (hxy : (x == y) = false := by decide)
    (hst : ([a, .Constant .none j1 q1].any fun | .Starred .. => true | _ => false) = false := by rfl) (hc : [a, .Constant .none j1 q1].all (constantsAlone 8) = false := by rfl) (hf : [a, .Constant .none j1 q1].all (foldedForSure 8) = false := by rfl)
    (hs : ∀ (l : Nat) (env : PySem.Env), swapsWithSole [.Tuple [.Name x px, .Name y py] kt pt] (.Tuple [a, .Constant .none j1 q1] k2 pt2) l env = pure false := by intro _ _; rfl) (ns : NS a := by intro _ _; rfl) :
    SS G N sc fn k (.Assign [.Tuple [.Name x px, .Name y py] kt pt] (.Tuple [a, .Constant .none j1 q1] k2 pt2) pos) (sParO i j f (eC .none)) := fun X C T W tk hp =>
  PS.imp (ps_par C.calm (by rw [C.hN]; exact C.nd) (by rw [C.hN]; exact hi) (by rw [C.hN]; exact hj) hij (by rw [C.hsc]; exact hx) (by rw [C.hsc]; exact hy) (pa_cons (ha X C W tk) (pa_cons pe_non pa_nil rfl) (ns _ X.env))
    (sw_par (by rw [C.hsc]; exact hk) (by rw [C.hsc]; exact hx) (by rw [C.hsc]; exact hy) hl hxy hst hc hf) (hs _ X.env)) fun D σ H h => by
    obtain ⟨ρ, ow, o, he, gd, post⟩ := h
    unfold sParO at he
    cases h1 : f true ρ with
    | none => rw [h1] at he; cases he
    | some r1 =>
      rw [h1] at he
      cases r1 with
      | exc n pl => cases he; exact ⟨ρ, ow, _, h1, gd, post.exp⟩
      | val d =>
        simp only [bndS, eC] at he
        split at he
        · rename_i ds
          split at he
          · rename_i hi
            cases he
            refine ⟨ρ, ow, _, h1, gd, ds, rfl, fun q vs H1 s1 hq r1 => ?_⟩
            refine ⟨.ref q, .non, rfl, ?_⟩
            have g1 := (gd.same s1).setO hi hq r1
            have g2 := g1.setA (i := j) (v := .non) (d := .none) .non
            exact post _ _ _ (((Same.stp s1).trans (Ow.put_stp hq)).trans (Ow.clr_stp (ow.put i q) [j] _)) g2
          · cases he
        · cases he
end
section
variable {ρ : En} {f g : EF}
theorem w_parO (i j : Nat) : sParO i j f g ρ = bndS (f true ρ) fun x => bndS (g false ρ) fun y => match x with
  | .list ds => if i < ρ.length then some (.nx ((ρ.set i (some (.own ds))).set j (some (.sh y)))) else none
  | _ => none := Eq.trans rfl rfl
theorem w_meth (T : Dt → Bool) (op : Dt → Dt → Option Dt) (b : Bool) : eMeth T op f g b ρ = bnd (f true ρ) fun x => if T x = true then bnd (g true ρ) fun y => (op x y).map .val else none := Eq.trans rfl rfl
theorem w_isL (xs : List Dt) : isL (.list xs) = true := Eq.trans rfl rfl
theorem w_cnt (ns : List Int) (x : Int) : dCnt (.list (ns.map .int)) (.int x) = some (.int (ns.count x : Nat)) := by
  show (match unI (ns.map PyData.int) with | some ns => some (PyData.int (ns.count x : Nat)) | none => none) = _
  rw [unI_map]
end
end PT

namespace PT
open PySem PySem.Spec PyProof.Rows L2
/-! ## sorted(set(xs)), xs a list of whole numbers -/
abbrev ob0 (w : World) : Obj := { cls := .type "set", dict := none, data := .set #[] 0 (.fresh 0 0 (!w.params.followText "set-order")) }
theorem set_of_list {P : Program} {w : World} {A : Around} {E : Value → Shared → Prop} {s : Shared} {l : Addr} {its : Array Value} (ns : List Int) {Q : Value → Shared → Prop} (hd0 : A.handled = none) (hl : s.heap.IsList l its) (hit : IntsAre its.toList ns) (hb : ns.length + 1 < scanBound)
    (h : ∀ (h' : Heap) (tk c : Nat), SetR w h' s.heap.objs.size (fun j => decide (j ∈ ns)) c → c ≤ ns.length → (∀ b o, s.heap.get? b = some o → h'.get? b = some o) → Q (.ref s.heap.objs.size) { s with heap := h', toks := tk }) :
    wpAny (model P w) A (call (.type "set") [.ref l]) Q E s := by
  have zz : its.size = ns.length := by have q := IntsAre.length hit; rw [Array.length_toList] at q; exact q
  obtain ⟨c, tl, f0⟩ := F.called_set.mro
  have f1 := F.called_set.made
  have f2 := F.called_set.sub
  refine wpAny_call (codeAny_of_tree (?_ : wpAny _ _ (callAny (.type "set") _) _ _ _))
  refine wpAny_pure ⟨Code.quiet_builtin _ (by decide +kernel), codeAny_builtin F.entry_type_call ?_⟩
  rw [Around.under_plain (weight_type_call_type "set" [.ref l] []) rfl]
  have f3 := F.called_set.notType
  have f4 := F.called_set.canCreate
  have f5 := F.typeCall_set_1 (.ref l)
  repeat (any_goals (first | assumption | wp_step))
  refine codeAny_mono (code_set_led1 (.ref l) (E := E) (Q₁ := fun ob t => ob = .ref s.heap.objs.size ∧ t = { s with heap := s.heap.push (ob0 w) }) ⟨rfl, rfl⟩) fun r t hr => ?_
  cases r with
  | error e => exact hr
  | ok fl =>
    cases fl with
    | ret ob =>
      obtain ⟨rfl, rfl⟩ := hr
      have g0 : (s.heap.push (ob0 w)).get? s.heap.objs.size = some (ob0 w) := Heap.get?_push_size _ rfl
      have g1 : Shared.TypeIs { s with heap := s.heap.push (ob0 w) } (.ref s.heap.objs.size) "set" := ⟨_, g0, rfl⟩
      have g2 := F.called_set.init.lookup
      have g3 := F.called_set.init.bind (.ref s.heap.objs.size)
      repeat (any_goals (first | assumption | wp_step))
      refine codeAny_mono (codeAny_call_builtin (R := wants (fun r t => r = .none ∧ ∃ h' tk c, t = { s with heap := h', toks := tk } ∧ SetR w h' s.heap.objs.size (fun j => decide (j ∈ ns)) c ∧ c ≤ ns.length ∧ (∀ b o, s.heap.get? b = some o → h'.get? b = some o)) E) F.called_set.init.plain F.entry_set_init (check_set_init_1 g1 ?_)) fun r2 t2 hr2 => ?_
      · obtain ⟨⟨ocl, odi, oda, osl⟩, o0, o1, nl, o2⟩ := hl
        simp only at o1 o2
        subst o1; subst o2
        have o3 : (s.heap.push (ob0 w)).get? l = some { cls := .type "list", dict := odi, data := .seq its nl, slots := osl } := Heap.get?_push_of_some _ o0
        have k1 := F.sub_list_set
        have k2 := F.sub_list_frozenset
        have k3 : (Value.type "list" == Value.type "dict") = false := by decide
        have k4 : (s.heap.push (ob0 w)).IsList l its := ⟨_, o3, rfl, nl, rfl⟩
        unfold Builtin.«set.__init__» noKeywords Builtin.Frozenset.updateFrom
        generalize hPI : pyIter = PI
        wp_walk
        subst hPI
        refine wpAny_pyIter_list k4 (wpAny_bind (wpAny_runValue ?_))
        have k5 : l < s.heap.objs.size := Heap.lt_size o0
        have k6 : A.in1.in1.in1.handled = none := by simp [hd0]
        have k7 : l ≠ (s.heap.push (ob0 w)).objs.size := by rw [Heap.size_push]; exact Nat.ne_of_lt (Nat.lt_succ_of_lt k5)
        have k8 : s.heap.objs.size ∉ [(s.heap.push (ob0 w)).objs.size, l] := by
          rw [Heap.size_push]
          simp only [List.mem_cons, List.not_mem_nil, or_false, not_or]
          exact ⟨Nat.ne_of_lt (Nat.lt_succ_self _), Nat.ne_of_gt k5⟩
        have k9 : ∀ (i : Nat) (v : Value), its[i]? = some v → ∃ k t, ns[i]? = some k ∧ v = .int k t := fun i v hv => by
          have hi : i < ns.length := by rw [← zz]; exact (Array.getElem?_eq_some_iff.mp hv).1
          obtain ⟨t, e⟩ := PyProof.Rows.IntsAre.int_at hit i v (by rw [Array.getElem?_toList]; exact hv)
          exact ⟨ns[i], t, List.getElem?_eq_getElem hi, by rw [e, List.getD_eq_getElem?_getD, List.getElem?_eq_getElem hi]; rfl⟩
        refine set_update_ints ((Walks.list k6 _ l k7 its).toS) s.heap.objs.size k8 ns zz hb k9 (its.size - 0) 0 _ (by omega) (Nat.zero_le _) ⟨⟨_, Heap.get?_push_size _ rfl, rfl, rfl⟩, (k4.push _)⟩ ?hS0 ?hR
        case hS0 =>
          exact ⟨0, Nat.le_refl 0, setR_new_at (Heap.get?_push_of_some _ g0)⟩
        case hR =>
          intro t' c' hm hc' hS'
          obtain ⟨h', g', d', tk', os'⟩ := t'
          obtain rfl : g' = s.gens := hm.gens
          obtain rfl : d' = s.drawn := hm.drawn
          obtain rfl : os' = s.os := hm.os
          refine (wpAny_pure ?_ : wpAny _ _ _ _ _ _)
          show wpAny _ _ (ret Value.none) _ _ _
          rw [zz] at hc'
          refine wpAny_pure ⟨rfl, h', tk', c', rfl, hS', hc', fun b o e => ?_⟩
          have b0 : b < s.heap.objs.size := Heap.lt_size e
          have b1 : b ≠ (s.heap.push (ob0 w)).objs.size := by rw [Heap.size_push]; exact Nat.ne_of_lt (Nat.lt_succ_of_lt b0)
          refine hm.heap b o ?_ (Heap.get?_push_of_some _ (Heap.get?_push_of_some _ e))
          simp only [List.mem_cons, List.not_mem_nil, or_false, not_or]
          exact ⟨Nat.ne_of_lt b0, b1⟩
      · cases r2 with
        | error e => exact hr2
        | ok fl2 =>
          cases fl2 with
          | ret r =>
            obtain ⟨rfl, h', tk, c', rfl, hS', hc', hk'⟩ := hr2
            repeat (any_goals (first | assumption | wp_step))
            exact h _ _ _ hS' hc' hk'
          | _ => exact hr2.elim
    | _ => exact hr.elim
def rSetLs (K : PySem.W.Frag) (w : World) : List V → Hp → VK → Prop := fun vs H Q => ∃ (p : Addr) (ns : List Int), vs = [.ref p] ∧ SqL K H p (ns.map V.int) ∧ ns.length ≤ 1000 ∧ ∀ l, H l = none → Q (.ref l) (upd H l (SetO w l (fun j => decide (j ∈ ns)) (ddup ns).length))
theorem cr_setLs {X : Cx} (hc : X.calm = true) : CallR X (.type "set") (rSetLs X.K X.w) := by
  intro pins s σ H vs us Q I r h
  obtain ⟨p, ns, rfl, hq, hl, q⟩ := h
  obtain ⟨its, rv, pt, hz⟩ := I.list hq
  rw [Vals.ref1 r]
  refine set_of_list ns (I.ok.hd hc) pt.isList (by simpa using rv.ints) (by unfold scanBound; omega) fun h' tk c R hcn kk => ?_
  have e := setR_len R
  subst e
  exact ⟨.ref _, _, I.laid (t' := tk) kk (Nat.le_refl _) (setO_new R), rfl, q _ (I.hok.fresh (Nat.le_refl _))⟩
def dSortSetL : Dt → Option Dt
  | .list ds => match unI ds with
    | some ns => if ns.length ≤ 1000 ∧ (ddup ns).length < 64 then some (.list (sset ns)) else none
    | none => none
  | _ => none
section
variable {G : Gc} {N : List Str} {sc : Scope} {fn : Str → Bool} {k : Nat} {pos p p2 q1 q2 : Pos} {a b c : Expr} {f g h : EF}
theorem se_sortSetL (B : Bi G) (ha : SE G N sc fn k a f) (hg : GL sc "sorted" := by rfl) (hg2 : GL sc "set" := by rfl) (ns : NS a := by intro _ _; rfl) : SE G N sc fn k (.Call (.Name "sorted" p) [.Call (.Name "set" p2) [a] [] q1] [] pos) (eUn dSortSetL f) := fun X C W tk b' =>
  PE.imp (pe_callB (cr_sortedSet C.calm) (C.gl hg) (by rw [C.hmg]; exact B.sorted) PyProof.Rows.boot_sorted (pa_cons (pe_callTy (cr_setLs C.calm) (C.gl hg2) (by rw [C.hmg]; exact B.set) PyProof.Rows.boot_set (pa_cons (ha X C W tk true) pa_nil (ns [] X.env)) (by decide) (by decide) (ns [] X.env) rfl) pa_nil rfl) (by decide) (by decide) rfl rfl) fun σ H Q h => by
    obtain ⟨ρ, ow, rs, he, gd, post⟩ := h
    refine tE.go gd he (fun n pl e => by subst e; exact post) fun d hd1 v H1 s1 r1 => ?_
    cases d with
    | list ds =>
      simp only [dSortSetL] at hd1
      split at hd1
      · rename_i ns hns
        split at hd1
        · rename_i hl
          cases hd1
          obtain ⟨t, vs, rfl, hT, rr⟩ := r1.list
          obtain rfl := unI_eq hns
          obtain rfl := RpAll.ints rr
          refine ⟨t, ns, rfl, SqL.of hT, hl.1, fun l hl0 => ⟨l, _, _, rfl, upd_same, hl.2, fun ms p' h1 h2 _ hp' => ?_⟩⟩
          have e := sset_eq ns ms h1 fun k => by rw [h2 k, decide_eq_true_eq]
          have s3 := (s1.trans (Same.upd hl0)).trans (Same.upd (o := .lst (ms.map V.int)) hp')
          refine post _ _ s3 (.inl ?_)
          rw [e]
          exact .lst upd_same ((gd.ok.same (s1.trans (Same.upd hl0))).new hp') (rp_ints ms)
        · cases hd1
      · cases hd1
    | _ => cases hd1
end
theorem w_ssetL {hs : List Int} (h : hs.length ≤ 1000) (h2 : (ddup hs).length < 64) : dSortSetL (.list (hs.map .int)) = some (.list (sset hs)) := by
  show (match unI (hs.map PyData.int) with | some ns => if ns.length ≤ 1000 ∧ (ddup ns).length < 64 then some (PyData.list (sset ns)) else none | none => none) = _
  rw [unI_map]
  show (if hs.length ≤ 1000 ∧ (ddup hs).length < 64 then some (PyData.list (sset hs)) else none) = _
  rw [if_pos ⟨h, h2⟩]
theorem ddup_small {l : List Int} {m : Nat} (h : ∀ x ∈ l, 0 ≤ x ∧ x < (m : Int)) : (ddup l).length ≤ m := by
  have := nodup_len (ddup_nodup l) (b := (List.range m).map fun i => ((i : Nat) : Int)) fun k hk => by
    have hb := h k (ddup_mem.mp hk)
    exact List.mem_map.mpr ⟨k.toNat, List.mem_range.mpr (by omega), by omega⟩
  simpa using this
end PT

namespace PT
open PySem PySem.Spec PyProof.Rows L2
/-! ## max(xs, default=d) -/
theorem args_maxd (a d : Value) : argsOk "max" ⟨[a], [("default", d)]⟩ := by unfold argsOk; kernel_rfl
section
variable {P : Program} {w : World} {A : Around} {R : Result → Shared → Prop} {I : Addr} {fp wr : List Addr} {n : Nat} {Pv : Nat → Value → Prop} {St : Nat → Heap → Prop}
abbrev lstO (vs : Array Value) (c : Nat) : Obj := { cls := .type "list", dict := none, data := .seq vs c, slots := #[] }
abbrev mxN : String := "max.loop"
theorem mx_name : (toString "max" ++ toString ".loop" : String) = mxN := by decide
theorem mx_loop (W : Walks P w A.in1 I fp wr n Pv St) (bt : Nat → Nat → Bool) (hc : CmpOf P w A.in1 .Gt Pv bt) (S : Addr) (hS0 : S ∉ fp) (d : Value) :
    ∀ (k j : Nat) (s : Shared) (vb : Value) (c : Nat), n - (j + 1) = k → j + 1 ≤ n → St (j + 1) s.heap → Pv (argBest bt j) vb → s.heap.get? S = some (lstO #[vb, vb] c) →
    (∀ v h' tk, Pv (argBest bt (n - 1)) v → (∀ b o, b ∉ wr → b ≠ S → s.heap.get? b = some o → h'.get? b = some o) → R (.ok (.ret v)) { s with heap := h', toks := tk }) →
    codeAny (model P w) A (.builtin mxN ⟨[.ref I, .none, .ref S], [("default", d)]⟩) R s := by
  have sw : S ∉ wr := fun h => hS0 (W.sub _ h)
  intro k
  induction k with
  | zero =>
    intro j s vb c hk hj hst pb gS hR
    have e0 : j + 1 = n := by omega
    refine codeAny_builtin F.entry_max_loop ?_
    rw [Around.under_plainId F.plain_max_loop _]
    refine (wpAny_bind (wpAny_seqItems gS rfl ?_) : wpAny _ A.in1 (seqItems? (.ref S) >>= _) _ _ s)
    refine (wpAny_bind (wpAny_tryCatch (W.done s _ _ (e0 ▸ hst) fun h' tk kk => ?_)) : wpAny _ A.in1 (tryCatch (pyNext (.ref I)) _ >>= _) _ _ s)
    have gS' := kk S _ sw gS
    refine (wpAny_bind ?_ : wpAny _ A.in1 (updateSeq S (fun _ => #[]) >>= _) _ _ _)
    refine wpAny_updateSeq gS' rfl (wpAny_bind (wpAny_letGo (wpAny_pure ?_)))
    exact hR vb _ tk (by rw [← e0]; exact pb) fun b o hb hbS e => (Heap.get?_update_other _ _ (Ne.symm hbS)).trans (kk b o hb e)
  | succ k ih =>
    intro j s vb c hk hj hst pb gS hR
    have e0 : j + 1 < n := by omega
    refine codeAny_builtin F.entry_max_loop ?_
    rw [Around.under_plainId F.plain_max_loop _]
    refine (wpAny_bind (wpAny_seqItems gS rfl ?_) : wpAny _ A.in1 (seqItems? (.ref S) >>= _) _ _ s)
    refine (wpAny_bind (wpAny_tryCatch (W.item (j + 1) s _ _ e0 hst fun v h' tk pv st' kk => ?_)) : wpAny _ A.in1 (tryCatch (pyNext (.ref I)) _ >>= _) _ _ s)
    have gS' := kk S _ sw gS
    refine (wpAny_bind (wpAny_tryCatch (wpAny_holding (wpAny_bind (hc (j + 1) (argBest bt j) v vb _ _ _ pv pb ?_)))) : wpAny _ A.in1 (tryCatch (holding [v, v] (richCompare .Gt v vb >>= _)) _ >>= _) _ _ _)
    refine wpAny_bind (wpAny_holding (wpAny_truthy_bool (wpAny_bind (wpAny_letGo (wpAny_pure ?_)))))
    cases hb : bt (j + 1) (argBest bt j) with
    | true =>
      simp only [if_true]
      refine wpAny_bind (wpAny_updateSeq gS' rfl (wpAny_bind (wpAny_letGo ?_)))
      rw [mx_name]
      refine wpAny_pure ⟨plainId_quiet F.plain_max_loop _, ih (j + 1) _ v _ (by omega) e0 (W.frame _ _ _ st' fun b hbf o e => ?_) (by simp only [argBest, hb, if_true]; exact pv) (Heap.get?_update_self _ gS' rfl) fun v' h2 t2 p2 k2 => ?_⟩
      · exact (Heap.get?_update_other _ _ (fun h : S = b => hS0 (h ▸ hbf))).trans e
      · exact hR v' h2 t2 p2 fun b o hbw hbS e => k2 b o hbw hbS ((Heap.get?_update_other _ _ (Ne.symm hbS)).trans (kk b o hbw e))
    | false =>
      simp only [Bool.false_eq_true, if_false]
      refine wpAny_bind (wpAny_letGo ?_)
      rw [mx_name]
      refine wpAny_pure ⟨plainId_quiet F.plain_max_loop _, ih (j + 1) _ vb c (by omega) e0 st' (by simp only [argBest, hb, Bool.false_eq_true, if_false]; exact pb) gS' fun v' h2 t2 p2 k2 => ?_⟩
      exact hR v' h2 t2 p2 fun b o hbw hbS e => k2 b o hbw hbS (kk b o hbw e)
theorem mx_first (W : Walks P w A.in1 I fp wr n Pv St) (bt : Nat → Nat → Bool) (hc : CmpOf P w A.in1 .Gt Pv bt) (S : Addr) (hS0 : S ∉ fp) (d : Value) {s : Shared} {c : Nat} (hst : St 0 s.heap) (gS : s.heap.get? S = some (lstO #[] c))
    (hR : 0 < n → ∀ v h' tk, Pv (argBest bt (n - 1)) v → (∀ b o, b ∉ wr → b ≠ S → s.heap.get? b = some o → h'.get? b = some o) → R (.ok (.ret v)) { s with heap := h', toks := tk })
    (hD : n = 0 → ∀ h' tk, (∀ b o, b ∉ wr → s.heap.get? b = some o → h'.get? b = some o) → R (.ok (.ret d)) { s with heap := h', toks := tk }) :
    codeAny (model P w) A (.builtin mxN ⟨[.ref I, .none, .ref S], [("default", d)]⟩) R s := by
  have sw : S ∉ wr := fun h => hS0 (W.sub _ h)
  refine codeAny_builtin F.entry_max_loop ?_
  rw [Around.under_plainId F.plain_max_loop _]
  refine (wpAny_bind (wpAny_seqItems gS rfl ?_) : wpAny _ A.in1 (seqItems? (.ref S) >>= _) _ _ s)
  by_cases hn : 0 < n
  · refine (wpAny_bind (wpAny_tryCatch (W.item 0 s _ _ hn hst fun v h' tk pv st' kk => ?_)) : wpAny _ A.in1 (tryCatch (pyNext (.ref I)) _ >>= _) _ _ s)
    have gS' := kk S _ sw gS
    refine (wpAny_bind ?_ : wpAny _ A.in1 (updateSeq S (fun _ => #[v, v]) >>= _) _ _ _)
    refine wpAny_updateSeq gS' rfl ?_
    rw [mx_name]
    refine wpAny_pure ⟨plainId_quiet F.plain_max_loop _, mx_loop W bt hc S hS0 d _ 0 _ v _ rfl hn (W.frame _ _ _ st' fun b hbf o e => ?_) pv (Heap.get?_update_self _ gS' rfl) fun v' h2 t2 p2 k2 => ?_⟩
    · exact (Heap.get?_update_other _ _ (fun h : S = b => hS0 (h ▸ hbf))).trans e
    · exact hR hn v' h2 t2 p2 fun b o hbw hbS e => k2 b o hbw hbS ((Heap.get?_update_other _ _ (Ne.symm hbS)).trans (kk b o hbw e))
  · have e0 : n = 0 := by omega
    refine (wpAny_bind (wpAny_tryCatch (W.done s _ _ (by rw [e0]; exact hst) fun h' tk kk => ?_)) : wpAny _ A.in1 (tryCatch (pyNext (.ref I)) _ >>= _) _ _ s)
    exact wpAny_bind (wpAny_rule (wpAny_pure (hD e0 h' tk kk)))
end
section
variable {P : Program} {w : World} {A : Around} {E : Value → Shared → Prop} {s : Shared}
theorem mxd_raw {l : Addr} {its : List Value} {ns : List Int} {d : Value} {Q : Value → Shared → Prop} (hh : A.handled = none) (hl : s.heap.IsList l its.toArray) (hi : IntsAre its ns)
    (h : 0 < ns.length → ∀ h' tk M t', (∀ b o, s.heap.get? b = some o → h'.get? b = some o) → M ∈ ns → (∀ a, a ∈ ns → a ≤ M) → Q (.int M t') { s with heap := h', toks := tk })
    (h0 : ns.length = 0 → ∀ h' tk, (∀ b o, s.heap.get? b = some o → h'.get? b = some o) → Q d { s with heap := h', toks := tk }) :
    wpAny (model P w) A (call (.builtin "max") [.ref l] [("default", d)]) Q E s := by
  obtain ⟨xs, e⟩ := hi.allInts.items
  have hn : numsOf (intItems xs).toList = ns := by rw [← e]; exact hi.numsOf
  rw [nums_intItems] at hn
  subst hn
  rw [e] at hl
  have zl : (xs.toList.map (·.1)).length = xs.size := by rw [List.length_map, Array.length_toList]
  refine wpAny_call (codeAny_call_builtin F.plain_max F.entry_max ?_)
  simp only [checkBuiltinCall, F.kind_max]
  have hbody : wpAny (model P w) A.in1 (Builtin.«max» ⟨[.ref l], [("default", d)]⟩) (fun fin s' => match fin with
      | .done f => (match (Except.ok f : Result) with | .ok (.ret v) => Q v s' | .ok _ => False | .error e => E e s')
      | .again c' => c'.quiet = true ∧ codeAny (model P w) A c' (fun r s' => match r with | .ok (.ret v) => Q v s' | .ok _ => False | .error e => E e s') s') E s := by
    refine (wpAny_bind (wpAny_of_eq (show Builtin.Builtins.bindParams "max" ["key", "default"] 0 ⟨[], [("default", d)]⟩ = pure [none, some d] from rfl) ?_) : wpAny _ A.in1 (Builtin.Builtins.bindParams "max" ["key", "default"] 0 ⟨[], [("default", d)]⟩ >>= _) _ _ s)
    refine wpAny_bind (wpAny_pure ?_)
    refine wpAny_bind (iter_intList hl fun s2 e2 st hfp hlI => ?_)
    subst e2
    refine wpAny_bind (wpAny_newObj_type ?_)
    rw [mx_name]
    have W := Walks.list (prog := P) (w := w) (A := A.in1) hh _ l hlI (intItems xs)
    refine wpAny_pure ⟨plainId_quiet F.plain_max_loop _, mx_first W _ (CmpOf.ints_gt (numAt xs) fun _ _ => intItems_at) _ (fun hm => Nat.lt_irrefl _ (hfp _ hm)) d (W.frame _ _ _ st fun b _ o e => Heap.get?_push_of_some _ e) (Heap.get?_push_size _ rfl) (fun hn v h' tk pv kk => ?_) (fun hn h' tk kk => ?_)⟩
    · have hsz : 0 < xs.size := by simpa [intItems] using hn
      have pv' : (intItems xs)[argBest (fun i j => decide (numAt xs i > numAt xs j)) (xs.size - 1)]? = some v := by simpa [intItems] using pv
      obtain ⟨t, rfl⟩ := intItems_at pv'
      obtain ⟨g1, g2⟩ := argBest_gt (numAt xs) (xs.size - 1)
      refine h (by rw [zl]; exact hsz) h' tk _ t (old_kept fun b o hb e => kk b o hb (Nat.ne_of_lt (Heap.lt_size e)) (Heap.get?_push_of_some _ e)) ?_ fun a ha => ?_
      · rw [numAt_eq]
        exact PySem.getD_mem (by rw [zl]; omega)
      · obtain ⟨j, hj, rfl⟩ := mem_getD ha
        rw [zl] at hj
        rw [← numAt_eq]
        exact g2 j (by omega)
    · have hsz : xs.size = 0 := by simpa [intItems] using hn
      exact h0 (by rw [zl]; exact hsz) h' tk (old_kept fun b o hb e => kk b o hb (Heap.get?_push_of_some _ e))
  cases hsig : Manifest.signature? "max" with
  | none => exact wpAny_pure hbody
  | some sig =>
    have ha' : Bind.checkArgs "max" sig ⟨[.ref l], [("default", d)]⟩ = pure () := by
      have := args_maxd (.ref l) d
      simpa only [argsOk, hsig] using this
    simp only [ha']
    exact wpAny_pure hbody
end
def rMaxd (K : PySem.W.Frag) : List V → List V → Hp → VK → Prop := fun vs zs H Q => ∃ (a : Addr) (ns : List Int) (d : V), vs = [V.ref a] ∧ zs = [d] ∧ SqL K H a (ns.map V.int) ∧ (0 < ns.length → ∀ m, m ∈ ns → (∀ y, y ∈ ns → y ≤ m) → Q (.int m) H) ∧ (ns.length = 0 → Q d H)
theorem cr_maxd {X : Cx} (hc : X.calm = true) : CallRK X (.builtin "max") ["default"] (rMaxd X.K) := by
  intro pins s σ H vs zs us ws Q I r rz h
  obtain ⟨a, ns, d, rfl, rfl, hs, q1, q2⟩ := h
  obtain ⟨its, rv, hl, _⟩ := I.list hs
  rw [Vals.ref1 r]
  cases rz with
  | cons r1 r2 =>
    cases r2
    exact mxd_raw (I.ok.hd hc) hl.isList rv.ints (fun hn h' tk m t' hk h1 h2 => ⟨.int _, H, I.kept hk, ⟨_, rfl⟩, q1 hn m h1 h2⟩) (fun hn h' tk hk => ⟨_, H, I.kept hk, r1, q2 hn⟩)
def dMaxD : Dt → Dt → Option Dt
  | .list ds, .int d => match unI ds with
    | some ns => some (.int ((mxL ns).getD d))
    | none => none
  | _, _ => none
section
variable {G : Gc} {N : List Str} {sc : Scope} {fn : Str → Bool} {k : Nat} {pos p kpos q1 q2 : Pos} {a b c : Expr} {f g h : EF}
theorem se_maxD (B : Bi G) (ha : SE G N sc fn k a f) (hb : SE G N sc fn k b g) (hg : GL sc "max" := by rfl) (ns : NS a := by intro _ _; rfl) : SE G N sc fn k (.Call (.Name "max" p) [a] [⟨some "default", b, kpos⟩] pos) (eBin dMaxD f g) := fun X C W tk b' =>
  PE.imp (pe_callBK (cr_maxd C.calm) (C.gl hg) (by rw [C.hmg]; exact B.max) boot_max (pa_cons (ha X C W tk true) pa_nil (ns [] X.env)) (pk_cons (hb X C W tk true) pk_nil) (by decide) (by decide) (by rw [ns [] X.env]; rfl) (by rw [ns [] X.env]; rfl)) fun σ H Q h => by
    obtain ⟨ρ, ow, rs, he, gd, post⟩ := h
    refine tE.go gd he (fun n pl e => by subst e; exact post) fun d hd1 v H1 s1 r1 => ?_
    refine tE.go (gd.same s1) hd1 (fun n pl e => by subst e; exact post.same s1) fun d2 hd2 v2 H2 s2 r2 => ?_
    unfold dMaxD at hd2
    split at hd2
    · split at hd2
      · rename_i ds dd _ ns hns
        cases hd2
        obtain ⟨l, vs, rfl, h1, rv⟩ := r1.list
        obtain rfl := r2.int
        obtain rfl := unI_eq hns
        obtain rfl := RpAll.ints rv
        refine ⟨l, ns, .int dd, rfl, rfl, SqL.of (s2 _ _ h1), fun hn m hm hy => ?_, fun hn => ?_⟩
        · cases e : mxL ns with
          | none =>
            cases ns with
            | nil => simp at hn
            | cons x l => unfold mxL at e; cases q : mxL l <;> rw [q] at e <;> cases e
          | some M =>
            rw [e] at post
            have hM := mxL_ok e
            have : m = M := by
              have a1 := hM.2 m hm
              have a2 := hy M hM.1
              omega
            rw [this]
            exact post _ H2 (s1.trans s2) (.inl (.int _))
        · have : ns = [] := List.eq_nil_of_length_eq_zero hn
          subst this
          exact post _ H2 (s1.trans s2) (.inl (.int _))
      · cases hd2
    · cases hd2
end
theorem w_maxD (ns : List Int) (d : Int) : dMaxD (.list (ns.map .int)) (.int d) = some (.int ((mxL ns).getD d)) := by
  show (match unI (ns.map PyData.int) with | some ns => some (PyData.int ((mxL ns).getD d)) | none => none) = _
  rw [unI_map]
end PT

namespace PT
open PySem PySem.Spec PyProof.Rows L2
/-! ## sep.join(texts), f-strings of a text and an int -/
def unS : List Dt → Option (List Str)
  | [] => some []
  | .str s :: r => (unS r).map (s :: ·)
  | _ :: _ => none
theorem unS_eq : ∀ {xs : List Dt} {ys : List Str}, unS xs = some ys → xs = ys.map PyData.str
  | [], ys, h => by cases h; rfl
  | .str s :: r, ys, h => by
    unfold unS at h
    cases hr : unS r with
    | none => rw [hr] at h; cases h
    | some zs =>
      rw [hr] at h
      cases h
      rw [unS_eq hr]
      rfl
  | .int _ :: _, _, h => by cases h
  | .bool _ :: _, _, h => by cases h
  | .none :: _, _, h => by cases h
  | .list _ :: _, _, h => by cases h
  | .tuple _ :: _, _, h => by cases h
theorem RpAll.strs {K : PySem.W.Frag} {O : Addr → Prop} {H : Hp} : ∀ {vs : List V} {ys : List Str}, RpAll K O H vs (ys.map PyData.str) → vs = ys.map V.str
  | _, [], h => by cases h; rfl
  | _, _ :: _, h => by
    cases h with
    | cons h1 h2 =>
      cases h1
      rw [RpAll.strs h2]
      rfl
def isStr : Dt → Bool
  | .str _ => true
  | _ => false
def dJoin : Dt → Dt → Option Dt
  | .str a, .list xs => match unS xs with
    | some ys => if (ys.map (·.length)).sum + ys.length * a.length ≤ 16777216 then some (.str (Txt.join a ys)) else none
    | none => none
  | _, _ => none
section
variable {G : Gc} {N : List Str} {sc : Scope} {fn : Str → Bool} {k : Nat} {pos apos cpos p : Pos} {a b c : Expr} {f g h : EF}
theorem se_join (ha : SE G N sc fn k a f) (hb : SE G N sc fn k b g) (hbase : ∀ env : PySem.Env, attributeBase a "join" env (eval a env) = eval a env := by intro _; rfl) (hline : (apos.endLine == cpos.line) = true := by rfl) (ns : NS b := by intro _ _; rfl) : SE G N sc fn k (.Call (.Attribute a "join" apos) [b] [] cpos) (eMeth isStr dJoin f g) := fun X C W tk b' =>
  PE.imp (pe_join (ha X C W tk true) (hb X C W tk true) (ns _ X.env) (hbase X.env) hline) fun σ H Q h => by
    obtain ⟨ρ, ow, rs, he, gd, post⟩ := h
    refine tE.go gd he (fun n pl e => by subst e; exact post) fun d hd1 v H1 s1 r1 => ?_
    cases d with
    | str t =>
      rw [if_pos (show isStr (.str t) = true from rfl)] at hd1
      obtain rfl := r1.str
      refine ⟨⟨t, rfl⟩, ?_⟩
      refine tE.go (gd.same s1) hd1 (fun n pl e => by subst e; exact post.same s1) fun d2 hd2 v2 H2 s2 r2 => ?_
      unfold dJoin at hd2
      split at hd2
      · rename_i e1
        split at hd2
        · rename_i ys hys
          split at hd2
          · rename_i hz
            cases e1
            cases hd2
            obtain ⟨l, vs, rfl, h1, rv⟩ := r2.list
            rw [unS_eq hys] at rv
            have e2 := rv.strs
            subst e2
            exact ⟨t, l, ys, rfl, rfl, .inl (SqL.of h1), hz, post _ H2 (s1.trans s2) (.inl (.str _))⟩
          · cases hd2
        · cases hd2
      · cases hd2
    | _ => cases hd1
/-- f"text{int}" -/
def eFs (t : Str) (f : EF) : EF := fun _ ρ => bnd (f true ρ) fun x => match x with
  | .int i => if i.natAbs.log2 < 1920 ∧ (Str.empty ++ t ++ (toString i : String)).length ≤ 16777216 then some (.val (.str (Str.empty ++ t ++ (toString i : String)))) else none
  | _ => none
theorem se_fs {t : Str} {j : Nat} {p1 p2 : Pos} (ha : SE G N sc fn k a f) (ht : (Str.empty ++ t).length ≤ sizeLine := by decide) : SE G N sc fn k (.JoinedStr [.Constant (.str t) j p1, .FormattedValue a (-1) none p2] pos) (eFs t f) := fun X C W tk b' =>
  PE.imp (pe_joined (.cons pe_str (.cons (pe_fmt (ha X C W tk true)) .nil))) fun σ H Q h => by
    obtain ⟨ρ, ow, rs, he, gd, post⟩ := h
    refine ⟨t, rfl, ht, ?_⟩
    refine tE.go gd he (fun n pl e => by subst e; exact post) fun d hd1 v H1 s1 r1 => ?_
    cases d with
    | int i =>
      simp only at hd1
      split at hd1
      · rename_i hz
        cases hd1
        obtain rfl := r1.int
        exact .inr ⟨i, rfl, hz.1, _, rfl, hz.2, post _ H1 s1 (.inl (.str _))⟩
      · cases hd1
    | _ => cases hd1
end
end PT

namespace PT
open PySem PySem.Spec PyProof.Rows L2
/-! ## methods of a tuple: index, count -/
def tBF (r : V → List V → Hp → VK → Prop) (to : TE) (t : TA) : TE := fun σ H Q => to σ H fun x H1 => (∃ a xs, x = .ref a ∧ FT H1 a xs) ∧ t σ H1 fun vs H2 => r x vs H2 Q
theorem pe_bmF {X : Cx} {id : String} {name : Str} {r : V → List V → Hp → VK → Prop} {o e : Expr} {es : List Expr} {to : TE} {t : TA} {apos cpos : Pos} (slot : Slot "tuple" name id) (hty : typeOf (.builtin id) = pure (.type "method_descriptor")) (hm : MtR X id r) (ho : PE X o to) (ha : PA X (e :: es) t)
    (hbase : attributeBase o name X.env (eval o X.env) = eval o X.env := by rfl)
    (hfew : ((backTo cpos (starEach (e :: es) X.env)).all (fun x => !x.1) && (backToKw cpos (keywordEach [] X.env)).all (fun x => x.1.isSome)
      && decide ((e :: es).length + ([] : List Keyword).length + (if ([] : List Keyword).isEmpty then 0 else 1) < 30)) = true := by rfl)
    (hline : (apos.endLine == cpos.line) = true := by rfl) (hs : starEach (e :: es) X.env = (false, eval e X.env) :: starEach es X.env := by rfl) (hplain : (backTo cpos (starEach es X.env)).any (·.1) = false := by rfl) :
    PE X (.Call (.Attribute o name apos) (e :: es) [] cpos) (tBF r to t) := by
  refine ⟨fun pins s σ H Q I h => ?_⟩
  refine wpAny_Call_method_late hbase hfew hline rfl (thn (ho.run pins s σ H _ I h) fun v s1 ⟨x, H1, I1, r1, ty, q1⟩ => ?_)
  obtain ⟨a, xs, rfl, ob, hob, hdn⟩ := ty
  have r1' := r1
  cases r1
  have hk := I1.hok a _ hob
  obtain ⟨its, _, hT, _⟩ := I1.tuple (FT.sq ⟨ob, hob, hdn⟩ : SqT X.K H1 a xs)
  refine ⟨"tuple", id, PySem.F.plainAttrs_tuple, slot, hty, hT.typeIs, fun b eb => ?_, ?_⟩
  · cases eb
    exact ⟨ob, hk.1, hdn⟩
  have hA := ha.run cpos pins s1 σ H1 _ I1 q1
  rw [hs] at hA ⊢
  refine Calls.callWith_builtin (by show (false || (backTo cpos (starEach es X.env)).any (·.1)) = false; rw [hplain] <;> rfl) (Calls.evalArgs_plain ?_)
  exact thn hA fun us s2 ⟨vs, H2, I2, r2, q2⟩ => hm pins s2 σ H2 _ vs _ us Q I2 r1' r2 q2
def rTix (K : PySem.W.Frag) : V → List V → Hp → VK → Prop := fun x xs H Q => ∃ (p : Addr) (ns : List Int) (k : Int), x = .ref p ∧ xs = [.int k] ∧ SqT K H p (ns.map V.int) ∧ k ∈ ns ∧ Q (.int (ns.idxOf k : Nat)) H
theorem mt_tix {X : Cx} : MtR X "tuple.index" (rTix X.K) := by
  intro pins s σ H x xs v us Q I rx rxs h
  obtain ⟨p, ns, k, rfl, rfl, hs, hk, q⟩ := h
  cases rx
  obtain ⟨u, rfl, ru⟩ := rxs.one
  obtain ⟨t, rfl⟩ := ru
  obtain ⟨its, rv, hT, hlen⟩ := I.tuple hs
  exact SeqAt.tuple_index_ints hT (intsAre_of rv) hk ⟨.int (ns.idxOf k : Nat), H, I.tok _, ⟨s.toks, rfl⟩, q⟩
def isT : Dt → Bool
  | .tuple _ => true
  | _ => false
def dTix : Dt → Dt → Option Dt
  | .tuple xs, .int j => match unI xs with
    | some ns => if j ∈ ns then some (.int (ns.idxOf j : Nat)) else none
    | none => none
  | _, _ => none
section
variable {G : Gc} {N : List Str} {sc : Scope} {fn : Str → Bool} {k : Nat} {pos apos cpos p : Pos} {a b c : Expr} {f g h : EF}
theorem se_tix (ha : SE G N sc fn k a f) (hb : SE G N sc fn k b g) (hbase : ∀ env : PySem.Env, attributeBase a "index" env (eval a env) = eval a env := by intro _; rfl) (hline : (apos.endLine == cpos.line) = true := by rfl) (ns : NS b := by intro _ _; rfl) : SE G N sc fn k (.Call (.Attribute a "index" apos) [b] [] cpos) (eMeth isT dTix f g) := fun X C W tk b' =>
  PE.imp (pe_bmF PySem.F.slot_tuple_index PySem.F.type_tuple_index mt_tix (ha X C W tk true) (pa_cons (hb X C W tk true) pa_nil (ns _ X.env)) (hbase X.env) (by
    rw [ns [] X.env]; rfl) hline (ns _ X.env) rfl) fun σ H Q h => by
    obtain ⟨ρ, ow, rs, he, gd, post⟩ := h
    refine tE.go gd he (fun n pl e => by subst e; exact post) fun d hd1 v H1 s1 r1 => ?_
    cases d with
    | tuple xs =>
      rw [if_pos (show isT (.tuple xs) = true from rfl)] at hd1
      obtain ⟨l, vs, rfl, h1, rv⟩ := r1.tuple
      refine ⟨⟨l, vs, rfl, h1⟩, ?_⟩
      refine tE.go (gd.same s1) hd1 (fun n pl e => by subst e; exact post.same s1) fun d2 hd2 v2 H2 s2 r2 => ?_
      unfold dTix at hd2
      split at hd2
      · rename_i e1
        split at hd2
        · rename_i ns hns
          split at hd2
          · rename_i hj
            cases e1
            cases hd2
            obtain rfl := r2.int
            rw [unI_eq hns] at rv
            have e2 := rv.ints
            subst e2
            obtain ⟨o, h1, ho⟩ := h1
            exact ⟨l, ns, _, rfl, rfl, FT.sq ⟨o, s2 _ _ h1, ho⟩, hj, post _ H2 (s1.trans s2) (.inl (.int _))⟩
          · cases hd2
        · cases hd2
      · cases hd2
    | _ => cases hd1
def dTcn : Dt → Dt → Option Dt
  | .tuple xs, y => if y.plain && PyData.plainAll xs && dep y then some (.int ((xs.countP fun z => PyData.eqv z y : Nat) : Int)) else none
  | _, _ => none
def rTcn (K : PySem.W.Frag) : V → List V → Hp → VK → Prop := fun x xs H Q => ∃ y ds d, xs = [y] ∧ Dp K H x (.tuple ds) ∧ Dp K H y d ∧ d.plain = true ∧ PyData.plainAll ds = true ∧ d.depth ≤ 60 ∧ Q (.int ((ds.countP fun z => PyData.eqv z d : Nat) : Int)) H
theorem mt_tcn {X : Cx} (hu : X.A.units + 64 < cLine) : MtR X "tuple.count" (rTcn X.K) := by
  intro pins s σ H x xs v us Q I rx rxs h
  obtain ⟨y, ds, d, rfl, h1, h2, sd, se, hm, q⟩ := h
  obtain ⟨u, rfl, ru⟩ := rxs.one
  obtain ⟨as, r1⟩ := Dp.reads I d y u h2 ru
  obtain ⟨bs, r2⟩ := Dp.reads I _ x v h1 rx
  cases r2 with
  | tuple g1 g2 g3 g4 => exact SeqAt.count_tuple_data ⟨_, g1, g2, _, g3⟩ g4 r1 se sd (by omega) ⟨.int _, H, I.tok _, ⟨s.toks, rfl⟩, q⟩
theorem se_tcn (ha : SE G N sc fn k a f) (hb : SE G N sc fn k b g) (hbase : ∀ env : PySem.Env, attributeBase a "count" env (eval a env) = eval a env := by intro _; rfl) (hline : (apos.endLine == cpos.line) = true := by rfl) (ns : NS b := by intro _ _; rfl) : SE G N sc fn k (.Call (.Attribute a "count" apos) [b] [] cpos) (eMeth isT dTcn f g) := fun X C W tk b' =>
  PE.imp (pe_bmF PySem.F.slot_tuple_count PySem.F.type_tuple_count (mt_tcn C.room.units) (ha X C W tk true) (pa_cons (hb X C W tk true) pa_nil (ns _ X.env)) (hbase X.env) (by
    rw [ns [] X.env]; rfl) hline (ns _ X.env) rfl) fun σ H Q h => by
    obtain ⟨ρ, ow, rs, he, gd, post⟩ := h
    refine tE.go gd he (fun n pl e => by subst e; exact post) fun d hd1 v H1 s1 r1 => ?_
    cases d with
    | tuple xs =>
      rw [if_pos (show isT (.tuple xs) = true from rfl)] at hd1
      obtain ⟨l, vs, ev, h1, rv⟩ := r1.tuple
      refine ⟨⟨l, vs, ev, h1⟩, ?_⟩
      refine tE.go (gd.same s1) hd1 (fun n pl e => by subst e; exact post.same s1) fun d2 hd2 v2 H2 s2 r2 => ?_
      unfold dTcn at hd2
      simp only at hd2
      split at hd2
      · rename_i hc
        cases hd2
        simp only [Bool.and_eq_true, dep, decide_eq_true_eq] at hc
        exact ⟨v2, xs, d2, rfl, (r1.same s2).dp hc.1.2, r2.dp hc.1.1, hc.1.1, hc.1.2, hc.2, post _ H2 (s1.trans s2) (.inl (.int _))⟩
      · cases hd2
    | _ => cases hd1
theorem se_tupR2 {p2 q1 : Pos} (B : Bi G) (ha : SE G N sc fn k a f) (hg : GL sc "tuple" := by rfl) (hg2 : GL sc "range" := by rfl) (ns : NS a := by intro _ _; rfl) : SE G N sc fn k (.Call (.Name "tuple" p) [.Call (.Name "range" p2) [a] [] q1] [] pos) (eUn dTupRg f) := fun X C W tk b' =>
  PE.imp (pe_tupRgF C.calm (C.gl hg) (by rw [C.hmg]; exact B.tuple) (prg_1 (C.gl hg2) (by rw [C.hmg]; exact B.range) (ha X C W tk true) (ns [] X.env))) fun σ H Q h => by
    obtain ⟨ρ, ow, rs, he, gd, post⟩ := h
    refine tE.go gd he (fun n pl e => by subst e; exact post) fun d hd1 v H1 s1 r1 => ?_
    unfold dTupRg at hd1
    split at hd1
    · split at hd1
      · rename_i n hn
        rw [okI_iff] at hn
        cases hd1
        exact ⟨n, r1.int, ⟨by omega, by omega, by omega, by omega, by omega⟩, fun q o hq ho => post _ _ (s1.trans (Same.upd hq)) (.inl (.tup ⟨o, upd_same, ho⟩ (rp_rg n)))⟩
      · cases hd1
    · cases hd1
end
end PT

namespace PT
open PySem PySem.Spec PyProof.Rows L2
/-! ## x.append(y.pop(0) if c else e): two lists of one's own -/
def sAppPop (i j : Nat) (c e : EF) : SF := fun ρ => match ρ[i]?, ρ[j]? with
  | some (some (.own xs)), some (some (.own ys)) => bndS (c true ρ) fun d => (match tru d with
    | some true => (match ys with
      | y :: r => if i ≠ j ∧ xs.length < lim then some (.nx ((ρ.set j (some (.own r))).set i (some (.own (xs ++ [y]))))) else none
      | [] => none)
    | some false => bndS (e false ρ) fun d2 => if xs.length < lim then some (.nx (ρ.set i (some (.own (xs ++ [d2]))))) else none
    | none => none)
  | _, _ => none
section
variable {G : Gc} {N : List Str} {sc : Scope} {fn : Str → Bool} {k : Nat} {pos q1 q2 q3 q4 q5 q6 q7 q8 : Pos} {a b c : Expr} {f g : EF}
theorem ss_appPop (i j : Nat) {x y : Str} {jj : Nat} (hc : ST G N sc fn k c f) (ha : SE G N sc fn k a g) (hN : N[i]? = some x := by rfl) (hv : Vis sc x := by first | exact Or.inl rfl | exact Or.inr (Or.inl rfl) | exact Or.inr (Or.inr rfl)) (hd : (x == ("__debug__" : Str)) = false := by decide) (hcd : (x == ("__classdict__" : Str)) = false := by decide)
    (hN2 : N[j]? = some y := by rfl) (hv2 : Vis sc y := by first | exact Or.inl rfl | exact Or.inr (Or.inl rfl) | exact Or.inr (Or.inr rfl)) (hd2 : (y == ("__debug__" : Str)) = false := by decide) (hcd2 : (y == ("__classdict__" : Str)) = false := by decide)
    (ns : NS (.IfExp c (.Call (.Attribute (.Name y q4) "pop" q5) [.Constant (.int 0) jj q6] [] q7) a q8) := by intro _ _; rfl) (hb : ∀ env : PySem.Env, attributeBase (.Name x q1) "append" env (eval (.Name x q1) env) = eval (.Name x q1) env := by intro _; rfl) (hln : (q2.endLine == q3.line) = true := by rfl)
    (hb2 : ∀ env : PySem.Env, attributeBase (.Name y q4) "pop" env (eval (.Name y q4) env) = eval (.Name y q4) env := by intro _; rfl) (hln2 : (q5.endLine == q7.line) = true := by rfl) :
    SS G N sc fn k (.Expr (.Call (.Attribute (.Name x q1) "append" q2) [.IfExp c (.Call (.Attribute (.Name y q4) "pop" q5) [.Constant (.int 0) jj q6] [] q7) a q8] [] q3) pos) (sAppPop i j f g) := fun X C T W tk hp =>
  PS.imp (ps_expr (pe_bm PySem.F.plainAttrs_list PySem.F.slot_list_append PySem.F.type_list_append mt_append (pe_vr C i hN hv hd hcd)
    (pa_cons (pe_ifExp (hc X C W tk) (pe_bm PySem.F.plainAttrs_list PySem.F.slot_list_pop PySem.F.type_list_pop mt_popAt (pe_vr C j hN2 hv2 hd2 hcd2) (pa_cons pe_int pa_nil rfl) (hb2 X.env) rfl hln2 rfl rfl) (ha X C W tk false)) pa_nil (ns _ X.env)) (hb X.env) (by rw [ns [] X.env]; rfl) hln (ns _ X.env) rfl)) fun D σ H h => by
    obtain ⟨ρ, ow, o, he, gd, post⟩ := h
    unfold sAppPop at he
    split at he
    · rename_i xs ys hx hy
      obtain ⟨a', vs, hs, ho, hH, rv⟩ := own_at gd hx
      obtain ⟨b', ws, hs2, ho2, hH2, rw2⟩ := own_at gd hy
      refine ⟨_, hs, .inl ⟨rfl, vs, SqL.of hH⟩, tT.goS gd he post fun d hd1 => ?_⟩
      split at hd1
      · rename_i ht
        refine ⟨true, ht, fun H1 s1 => ?_⟩
        split at hd1
        · rename_i y0 r
          split at hd1
          · rename_i hz
            cases hd1
            show tBM X.K "list" rPopAt (tVar j) _ σ H1 _
            have hne : a' ≠ b' := fun e => hz.1 (gd.inj i j a' ho (by rw [e]; exact ho2))
            cases rw2 with
            | cons r0 rr =>
              rename_i v0 ws'
              refine ⟨_, hs2, .inl ⟨rfl, _, SqL.of (s1 _ _ hH2)⟩, ?_⟩
              refine ⟨b', v0 :: ws', 0, 0, v0, rfl, rfl, s1 _ _ hH2, by decide, by decide, ?_, rfl, ?_⟩
              · simp [seqIndex?]
              have g1 := (gd.same s1).mut ho2 (RpAll.same s1 rr)
              have e1 : Stp ow H ow (upd H1 b' (.lst ws')) := (Same.stp s1).trans (Ow.mut_stp ho2)
              refine ⟨a', vs, v0, rfl, rfl, by show upd H1 b' (.lst ws') a' = _; rw [upd_ne hne]; exact s1 _ _ hH, by rw [rv.length]; exact Nat.lt_of_lt_of_le hz.2 (by decide), ?_⟩
              refine post ow σ _ (e1.trans (Ow.mut_stp ho)) (g1.mut ho (RpAll.snoc (RpAll.stp gd.ok e1 rv) (Rp.stp gd.ok e1 r0)))
          · cases hd1
        · cases hd1
      · rename_i ht
        refine ⟨false, ht, fun H1 s1 => ?_⟩
        show tE X.K X.mg W false g σ H1 _
        refine tE.goS (gd.same s1) hd1 (post.stp (Same.stp s1)) fun d2 hd2 v2 H2 s2 r2 => ?_
        split at hd2
        · rename_i hz
          cases hd2
          refine ⟨a', vs, v2, rfl, rfl, s2 _ _ (s1 _ _ hH), by rw [rv.length]; exact Nat.lt_of_lt_of_le hz (by decide), ?_⟩
          exact post ow σ _ ((Same.stp (s1.trans s2)).trans (Ow.mut_stp ho)) ((gd.same (s1.trans s2)).mut ho (RpAll.snoc (RpAll.same (s1.trans s2) rv) r2.rp))
        · cases hd2
      · cases hd1
    · cases he
end
end PT

namespace PT
open PySem PySem.Spec PyProof.Rows L2
/-! ## texts: signs, split, int(text), list.index(None) -/
/-- the signs of a text -/
def sgL (z : Str) : List Dt := z.cps.toList.map fun c => .str ⟨#[c]⟩
def iStrF (f : EF) : IF := fun b ρ => bndI (f b ρ) fun x => match x with
  | .str z => some (.it (sgL z))
  | _ => none
section
variable {G : Gc} {N : List Str} {sc : Scope} {fn : Str → Bool} {k : Nat} {pos apos cpos p p2 : Pos} {tg a b c : Expr} {f g h : EF}
theorem wd_str {b : Bool} {K : PySem.W.Frag} {ow : Ow} {H : Hp} {z : Str} : WD .d b K ow H (Its z) (sgL z) := fun ow1 H1 r ok1 => by
  have hl : (sgL z).length = z.cps.size := by unfold sgL; rw [List.length_map, Array.length_toList]
  refine ⟨fun i hi => by rw [hl] at hi; exact hi, by rw [hl]; exact Nat.le_refl _, fun i x H2 hi y => ?_⟩
  obtain ⟨rfl, c, hc, rfl⟩ := y
  refine ⟨Same.refl _, .str ⟨#[c]⟩, ?_, .str _⟩
  unfold sgL
  rw [List.getElem?_map, Array.getElem?_toList, hc]
  rfl
theorem si_str (ha : SE G N sc fn k a f) : SI G N sc fn k .d tg a (iStrF f) := fun X C W tk b =>
  PI.imp (pi_str (ha X C W tk b)) fun σ H R h => by
    obtain ⟨ρ, ow, r, he, gd, post⟩ := h
    refine tE.goI gd he (fun n pl e => by subst e; exact post) fun d hd v H' s' r' => ?_
    split at hd
    · cases hd
      exact ⟨_, r'.str, post _ H' s' wd_str⟩
    · cases hd
/-- int(text) -/
def dIntS : Dt → Option Dt
  | .str z => if z.length ≤ 640 then (PySem.intText? z).map .int else none
  | _ => none
theorem cd_intS (K : PySem.W.Frag) : CD1 K (fun xs H Q => ∃ a n, xs = [.str a] ∧ PySem.intText? a = some n ∧ a.length ≤ 640 ∧ Q (.int n) H) dIntS := by
  intro x H Q ow dx dz ok rx e post
  unfold dIntS at e
  split at e
  · split at e
    · rename_i z hz
      cases h1 : PySem.intText? z with
      | none => rw [h1] at e; cases e
      | some n =>
        rw [h1] at e
        cases e
        obtain rfl := rx.str
        exact ⟨z, n, rfl, h1, hz, post _ H (Same.refl H) (.int _)⟩
    · cases e
  · cases e
theorem se_intS (B : Bi G) (ha : SE G N sc fn k a f) (hg : GL sc "int" := by rfl) (ns : NS a := by intro _ _; rfl) : SE G N sc fn k (.Call (.Name "int" p) [a] [] pos) (eUn dIntS f) :=
  se_t1 (r := fun K xs H Q => ∃ a n, xs = [.str a] ∧ PySem.intText? a = some n ∧ a.length ≤ 640 ∧ Q (.int n) H) (fun X _ => call_int_str) cd_intS B.int PyProof.Rows.boot_int ha hg (by decide) (by decide) ns
/-- text.split(sep) -/
def dSplit : Dt → Dt → Option Dt
  | .str z, .str y => if y.length ≠ 0 ∧ z.length ≤ lim then some (.list ((Txt.split z y).map .str)) else none
  | _, _ => none
theorem rp_strs {K : PySem.W.Frag} {O : Addr → Prop} {H : Hp} : ∀ ys : List Str, RpAll K O H (ys.map V.str) (ys.map PyData.str)
  | [] => .nil
  | y :: ys => .cons (.str y) (rp_strs ys)
theorem se_split (ha : SE G N sc fn k a f) (hb : SE G N sc fn k b g) (hbase : ∀ env : PySem.Env, attributeBase a "split" env (eval a env) = eval a env := by intro _; rfl) (hline : (apos.endLine == cpos.line) = true := by rfl) (ns : NS b := by intro _ _; rfl) : SE G N sc fn k (.Call (.Attribute a "split" apos) [b] [] cpos) (eMeth isStr dSplit f g) := fun X C W tk b' =>
  PE.imp (pe_split (ha X C W tk true) (hb X C W tk true) (ns _ X.env) (hbase X.env) hline) fun σ H Q h => by
    obtain ⟨ρ, ow, rs, he, gd, post⟩ := h
    refine tE.go gd he (fun n pl e => by subst e; exact post) fun d hd1 v H1 s1 r1 => ?_
    cases d with
    | str t =>
      rw [if_pos (show isStr (.str t) = true from rfl)] at hd1
      obtain rfl := r1.str
      refine ⟨⟨t, rfl⟩, ?_⟩
      refine tE.go (gd.same s1) hd1 (fun n pl e => by subst e; exact post.same s1) fun d2 hd2 v2 H2 s2 r2 => ?_
      unfold dSplit at hd2
      split at hd2
      · rename_i z y e1
        split at hd2
        · rename_i hz
          cases e1
          cases hd2
          obtain rfl := r2.str
          refine ⟨t, y, rfl, rfl, by simpa using hz.1, Nat.le_trans (Nat.add_le_add_right hz.2 2) (by decide), fun q hq => post _ _ ((s1.trans s2).trans (Same.upd hq)) (.inl (.lst upd_same ((gd.ok.same (s1.trans s2)).new hq) (rp_strs _)))⟩
        · cases hd2
      · cases hd2
    | _ => cases hd1
/-- list.index(None) -/
def isNI : Dt → Bool
  | .none => true
  | .int _ => true
  | _ => false
def dLix : Dt → Dt → Option Dt
  | .list xs, .none => if xs.all isNI = true ∧ xs.findIdx isN < xs.length then some (.int (xs.findIdx isN : Nat)) else none
  | _, _ => none
theorem ni_flat {K : PySem.W.Frag} {O : Addr → Prop} {H : Hp} : ∀ {vs : List V} {ds : List Dt}, RpAll K O H vs ds → ds.all isNI = true → vs.all flatV = true ∧ ∀ (i : Nat) (v : V) (d : Dt), vs[i]? = some v → ds[i]? = some d → eqV v .non = isN d
  | _, _, .nil, _ => ⟨rfl, fun i v d h _ => by simp at h⟩
  | _, _, .cons h1 h2, ha => by
    rw [List.all_cons, Bool.and_eq_true] at ha
    obtain ⟨q1, q2⟩ := ni_flat h2 ha.2
    have key : ∀ {v : V} {d : Dt}, Rp K O H v d → isNI d = true → flatV v = true ∧ eqV v .non = isN d := fun {v d} r hn => by
      cases r with
      | non => exact ⟨rfl, rfl⟩
      | int i => exact ⟨rfl, rfl⟩
      | _ => cases hn
    obtain ⟨k1, k2⟩ := key h1 ha.1
    refine ⟨by rw [List.all_cons, k1, q1]; rfl, fun i v d hv hd => ?_⟩
    cases i with
    | zero =>
      simp at hv hd
      subst hv hd
      exact k2
    | succ i => exact q2 i v d (by simpa using hv) (by simpa using hd)
theorem se_lix (ha : SE G N sc fn k a f) (hb : SE G N sc fn k b g) (hbase : ∀ env : PySem.Env, attributeBase a "index" env (eval a env) = eval a env := by intro _; rfl) (hline : (apos.endLine == cpos.line) = true := by rfl) (ns : NS b := by intro _ _; rfl) : SE G N sc fn k (.Call (.Attribute a "index" apos) [b] [] cpos) (eMeth isL dLix f g) := fun X C W tk b' =>
  PE.imp (pe_bm PySem.F.plainAttrs_list PySem.F.slot_list_index PySem.F.type_list_index mt_index (ha X C W tk true) (pa_cons (hb X C W tk true) pa_nil (ns _ X.env)) (hbase X.env) (by
    rw [ns [] X.env]; rfl) hline (ns _ X.env) rfl) fun σ H Q h => by
    obtain ⟨ρ, ow, rs, he, gd, post⟩ := h
    refine tE.go gd he (fun n pl e => by subst e; exact post) fun d hd1 v H1 s1 r1 => ?_
    cases d with
    | list xs =>
      rw [if_pos (show isL (.list xs) = true from rfl)] at hd1
      obtain ⟨l, vs, rfl, h1, rv⟩ := r1.list
      refine ⟨.inl ⟨rfl, vs, SqL.of h1⟩, ?_⟩
      refine tE.go (gd.same s1) hd1 (fun n pl e => by subst e; exact post.same s1) fun d2 hd2 v2 H2 s2 r2 => ?_
      unfold dLix at hd2
      split at hd2
      · rename_i ys e1
        split at hd2
        · rename_i hz
          cases e1
          cases hd2
          obtain rfl := r2.none
          obtain ⟨q1, q2⟩ := ni_flat rv hz.1
          have hlen := rv.length
          have hlt : xs.findIdx isN < vs.length := by rw [hlen]; exact hz.2
          refine ⟨l, vs, .non, xs.findIdx isN, vs[xs.findIdx isN], rfl, rfl, SqL.of (s2 _ _ h1), rfl, q1, List.getElem?_eq_getElem hlt, ?_, fun m z' hm hz' => ?_, post _ H2 (s1.trans s2) (.inl (.int _))⟩
          · rw [q2 _ _ _ (List.getElem?_eq_getElem hlt) (List.getElem?_eq_getElem hz.2)]
            exact List.findIdx_getElem (w := hz.2)
          · have hmx : m < xs.length := Nat.lt_trans hm hz.2
            rw [q2 _ _ _ hz' (List.getElem?_eq_getElem hmx)]
            have := List.not_of_lt_findIdx hm
            simpa using this
        · cases hd2
      · cases hd2
    | _ => cases hd1
end
end PT

namespace PT
open PySem PySem.Spec PyProof.Rows L2
/-! ## an own exception class with a field «line» -/
/-- Base.__init__(self, ..), Base an own class without an own __init__ -/
theorem pe_oinit {X : Cx} {x : Str} {B : Addr} {mc : Value} {e : Expr} {es : List Expr} {ta : TA} {p1 p2 pos : Pos} {pl : Sem Bool} (hg : Gl X x) (hm : X.mg x = some (.ref B)) (rd : ClX.CRead X.K B mc)
    (vV : PySem.W.findCls X.K (.ref B) mc "__init__" = some (.val (.builtin "ValueError.__init__"))) (ha : PA X (e :: es) ta) (hdb : (x == ("__debug__" : Str)) = false := by decide)
    (hc : eval (.Call (.Attribute (.Name x p1) "__init__" p2) (e :: es) [] pos) X.env = (do
      let ov ← eval (.Name x p1) X.env
      standAt p2.atName
      let (f, first) ← holding [ov] (getMethod ov "__init__" pl)
      callWith pos f first (backTo pos (starEach (e :: es) X.env)) (backToKw pos (keywordEach [] X.env))) := by rfl)
    (hst : starEach (e :: es) X.env = (false, eval e X.env) :: starEach es X.env := by rfl) (hpl : (backTo pos (starEach es X.env)).any (·.1) = false := by rfl) :
    PE X (.Call (.Attribute (.Name x p1) "__init__" p2) (e :: es) [] pos) (tVeI X.K ta) := by
  refine ⟨fun pins s σ H Q I h => PySem.W.methodCall_KW (pl := pl) (ld_glob I hg hm ?_ hdb) hc⟩
  refine PySem.W.method_cls I.kIn rd.ga (PySem.W.cls_value I.kIn rd.rd vV (by decide +kernel) ?_)
  refine PyProof.Rows.callWith_method1 (first := []) (thn (ha.run pos pins _ σ H _ (I.tok _) h) fun us s1 hh => ?_) hst hpl
  obtain ⟨vs, H1, I1, r1, a, C, ws, ev, hl, T, ea, q⟩ := hh
  subst ev
  cases r1 with
  | cons ra rr =>
    have e0 := ra
    cases e0
    exact oinit_ok T I1 ea (by rw [← Paired.length rr, sizeLine_eq]; omega) fun s' J => ⟨.non, H1, J, rfl, q⟩
/-- what its __init__ keeps: the field is the argument -/
def spPE (K : PySem.W.Frag) : Sp := fun vs H Q _ => ∃ (a C : Addr) (y : V), vs = [.ref a, y] ∧ OexC K C ∧ PySem.W.findIn K (.ref C) "line" = some none ∧ H a = some (exo a C none) ∧
  ∀ dx, H dx = none → dx ≠ a → Q .non (upd (upd H dx (exd dx [(("line" : Str), y)])) a (exo a C (some dx)))
theorem pe_initOk {G : Gc} {base x qual m : Str} {params : Arguments} {scope : Scope} {f : Addr} {fd : FuncData} {B : Addr} {mc : Value} {p1 p2 p3 p4 p5 p6 p7 p8 p9 p10 : Pos} {j : Nat} {pl : PySem.Env → Sem Bool}
    (Fu : FunD G.K x qual params [.Expr (.Call (.Attribute (.Name base p1) "__init__" p2) [.Name "self" p3, .Constant (.str m) j p4] [] p5) p6, .Assign [.Attribute (.Name "self" p7) "line" p8] (.Name "line" p9) p10] scope [] [] f fd)
    (S : FnScope ["self", "line"] ["self", "line"] scope) (hm : G.mg base = some (.ref B)) (rd : ClX.CRead G.K B mc) (vV : PySem.W.findCls G.K (.ref B) mc "__init__" = some (.val (.builtin "ValueError.__init__")))
    (hg : GL scope base := by rfl) (hv : Vis scope "self" := by first | exact Or.inl rfl | exact Or.inr (Or.inl rfl) | exact Or.inr (Or.inr rfl)) (hv2 : Vis scope "line" := by first | exact Or.inl rfl | exact Or.inr (Or.inl rfl) | exact Or.inr (Or.inr rfl)) (hdb : (base == ("__debug__" : Str)) = false := by decide)
    (hc : ∀ env : PySem.Env, eval (.Call (.Attribute (.Name base p1) "__init__" p2) [.Name "self" p3, .Constant (.str m) j p4] [] p5) env = (do
      let ov ← eval (.Name base p1) env
      standAt p2.atName
      let (f, first) ← holding [ov] (getMethod ov "__init__" (pl env))
      callWith p5 f first (backTo p5 (starEach [.Name "self" p3, .Constant (.str m) j p4] env)) (backToKw p5 (keywordEach [] env))) := by intro _; rfl) :
    FnOk G.P G.w G.K G.mg G.base (L2.CX G.P G.w) 1 f fd ["self", "line"] (spPE G.K) := by
  refine Fu.ok S (fun vs H Q E h => by obtain ⟨a, C, y, rfl, _⟩ := h; rfl) fun cdv A outer s H vs Q E hr h => ?_
  refine ⟨_, pss_cons (ps_expr (pe_oinit (mc := mc) hg hm rd vV (pa_cons (pe_var (i := 0) rfl hv) (pa_cons pe_str pa_nil)) hdb (hc _))) (pss_one (ps_ost (pe_var (i := 0) rfl hv) (pe_var (i := 1) rfl hv2))), ?_⟩
  obtain ⟨a, C, y, rfl, T, hno, ha, q⟩ := h
  refine ⟨.ref a, rfl, a, C, [.str m], rfl, by simp, T, ha, ?_⟩
  exact ⟨y, rfl, .ref a, rfl, a, C, rfl, T, hno, .inl ⟨ha, fun dx n ne => q dx n ne⟩⟩
/-- the class: made by its __init__ -/
def PeC (G : Gc) (x : Str) : Prop := ∃ (C fI : Addr) (fd : FuncData), G.mg x = some (.ref C) ∧ OexC G.K C ∧ PySem.W.findIn G.K (.ref C) "__init__" = some (some (.ref fI)) ∧ PySem.W.typeIn G.K (.ref fI) = some (.type "function") ∧ PySem.W.findIn G.K (.ref C) "line" = some none ∧
  Binds G.K fd ["self", "line"] [] ∧ FnOk G.P G.w G.K G.mg G.base (L2.CX G.P G.w) 1 fI fd ["self", "line"] (spPE G.K)
def sRaiseP (x : Str) (f : EF) : SF := fun ρ => bndS (f false ρ) fun d => some (.ex x (some d))
section
variable {G : Gc} {N : List Str} {sc : Scope} {fn : Str → Bool} {k : Nat} {pos p p2 q : Pos} {a b c : Expr} {f g h : EF}
theorem ss_raiseP {x : Str} (E : PeC G x) (ha : SE G N sc fn k a f) (hk : 2 ≤ k := by decide) (hg : GL sc x := by rfl) (hdb : (x == ("__debug__" : Str)) = false := by decide) (ns : NS a := by intro _ _; rfl) :
    SS G N sc fn k (.Raise (some (.Call (.Name x p) [a] [] q)) none pos) (sRaiseP x f) := fun X C T W tk hp => by
  obtain ⟨A, fI, fd, h1, h2, h3, h4, h5, h6, h7⟩ := E
  rw [← C.hP, ← C.hw, ← C.hK, ← C.hmg, ← C.hb] at h7
  rw [← C.hK] at h2 h3 h4 h5 h6
  rw [← C.hmg] at h1
  refine PS.imp (ps_raise C.calm tk (pmk_oex h2 h3 h4 h7 (C.room.mono hk) h6 (dvs := []) .nil (passes_call tk fun _ _ _ _ z => z.elim) (C.gl hg) h1 (pa_cons (ha X C W tk false) pa_nil (ns [] X.env)) hdb (ns [] X.env) rfl)) fun D σ H h => ?_
  obtain ⟨ρ, ow, o, he, gd, post⟩ := h
  refine tE.goS gd he post fun d hd v H1 s1 r1 => ?_
  cases hd
  refine ⟨by simp, fun e he1 => ⟨e, A, v, rfl, h2, h5, upd_same, fun dx hdx hne => ?_⟩⟩
  rw [upd_ne hne] at hdx
  refine ⟨rfl, dx, _, upd_same, by rw [upd_ne hne, upd_same], hdx, ?_⟩
  have sm : Same H1 (upd (del (upd (upd (upd H1 e (exo e A none)) dx (exd dx [(("line" : Str), v)])) e (exo e A (some dx))) e) dx (.xd [(("line" : Str), v)])) := fun b o hb => by
    have hb1 : b ≠ e := ne_of_none hb he1
    have hb2 : b ≠ dx := ne_of_none hb hdx
    rw [upd_ne hb2, del_ne hb1, upd_ne hb1, upd_ne hb2, upd_ne hb1]
    exact hb
  exact post _ _ σ _ h1 (Same.kp (s1.trans sm)) ⟨dx, v, rfl, upd_same, (Rp.same sm r1.rp).noO⟩
end
/-! ### caught: its field, its classes -/
theorem call_isED {X : Cx} {a D : Addr} {d : Option Addr} {oe : Obj} {pn : List (Addr × Obj)} (C : L2.ExcC X.K D) (hz : Zc (.ref D) d oe) (hf : ∃ vs, oe.data = .fields vs) :
    CallR (X.suite a ((a, oe) :: pn)) (.builtin "isinstance") (fun xs H Q => (d = none ∨ ∃ dd fs, d = some dd ∧ H dd = some (.xd fs)) ∧ rIsE X.K D a xs H Q) := by
  intro pins s σ H xs us Q I r h
  obtain ⟨hd0, c, cv, b, rfl, hcv, e, q⟩ := h
  cases r with
  | cons rx rr =>
    cases rr with
    | cons rt rr =>
      cases rr
      cases rx
      have ec := hcv _ rt
      subst ec
      obtain ⟨hget, _⟩ := I.pin (a, oe) (List.mem_append.mpr (.inl List.mem_cons_self))
      obtain ⟨vs, hv⟩ := hf
      have J : ∃ od, PySem.W.InstAt s.heap a oe D od := by
        obtain ⟨oc, od, oda, osl⟩ := oe
        obtain ⟨h1, h2⟩ := hz
        dsimp only at h1 h2 hv
        subst h1 h2 hv
        rcases hd0 with rfl | ⟨dd, fs, rfl, hH⟩
        · exact ⟨none, hget, rfl, rfl, trivial⟩
        · have hx : ObjOk X.prog X.w H s.heap dd (.xd fs) := I.hok dd _ hH
          obtain ⟨mA, hns, _⟩ := hx
          obtain ⟨od, ho, _⟩ := lookIn_ns hns
          exact ⟨some od, hget, rfl, rfl, ho⟩
      obtain ⟨od, J⟩ := J
      have hcl : (PySem.W.clsIn X.K D).isSome = true := by
        obtain ⟨cd, hc, _⟩ := PySem.W.any_some C.hd
        rw [hc]; rfl
      exact PySem.W.kia_one (PySem.W.kitx_exc hcl C.hg C.hk C.hs C.ha C.hn C.ht C.hm) I.kIn J e (fun z => nomatch z) fun tk => ⟨.bl b, H, I.kept (t' := tk) fun _ _ z => z, rfl, q⟩
def scl : Dt → Bool
  | .list _ => false
  | .tuple _ => false
  | .dict _ => false
  | _ => true
theorem Rp.scl {K : PySem.W.Frag} {O O' : Addr → Prop} {H H' : Hp} {v : V} {d : Dt} (r : Rp K O H v d) (h : scl d = true) : Rp K O' H' v d := by
  cases r with
  | non => exact .non
  | bl b => exact .bl b
  | int i => exact .int i
  | str x => exact .str x
  | lst _ _ _ => cases h
  | tup _ _ => cases h
  | scr _ => cases h
/-- «except x as e: return [A, e.line] if isinstance(e, P) and not isinstance(e, Q) else [B]» -/
def sTryP (E : EMT) (x P Q A B : Str) (g : SF) : SF := fun ρ => match g ρ with
  | some (.ex n pl) => (match em E n x with
    | some true => (match em E n P, em E n Q, pl with
      | some b1, some b2, some d => if scl d = true then some (.rt (if b1 && !b2 then .list [.str A, d] else .list [.str B])) else none
      | _, _, _ => none)
    | some false => some (.ex n pl)
    | none => none)
  | y => y
theorem em_pe {G : Gc} {E : EMT} (hE : EmOk G E) {n x : Str} {b : Bool} (h : em E n x = some b) {cls : Value} (hc : G.mg n = some cls) : ∃ C D, cls = .ref C ∧ G.mg x = some (.ref D) ∧ PySem.W.exmOne G.K (.ref C) (.ref D) = some b ∧ PySem.W.kitOne G.K (.ref C) (.ref D) = some b ∧ L2.ExcC G.K C := by
  obtain ⟨C, D, m1, m2, x1, x2, xc⟩ := em_rel hE h
  rw [m1] at hc
  cases hc
  exact ⟨C, D, rfl, m2, x1, x2, xc⟩
section
variable {G : Gc} {N : List Str} {sc : Scope} {fn : Str → Bool} {k : Nat} {E : EMT} {g : SF} {body : List Stmt} {e x P Q A Bs : Str} {pos np hp p1 p2 p3 p4 p5 p6 p7 p8 p9 p10 p11 p12 p13 p14 p15 p16 p17 p18 : Pos} {j1 j2 : Nat}
theorem ss_tryP (hE : EmOk G E) (B : Bi G) (i : Nat) (hno : ∀ n C, em E n x = some true → G.mg n = some (.ref C) → PySem.W.findIn G.K (.ref C) "line" = some none) (hxD : ∃ C, G.mg x = some (.ref C)) (hb : SB G N sc fn k body g)
    (hi : N[i]? = some e := by rfl) (hln : sc.names.lookup e = some .local := by rfl) (hv : Vis sc e := by exact Or.inl rfl) (hd : (e == ("__debug__" : Str)) = false := by decide) (hcd : (e == ("__classdict__" : Str)) = false := by decide)
    (hgx : GL sc x := by rfl) (hdx : (x == ("__debug__" : Str)) = false := by decide)
    (hgi : GL sc "isinstance" := by rfl) (hgP : GL sc P := by rfl) (hgQ : GL sc Q := by rfl) (hdP : (P == ("__debug__" : Str)) = false := by decide) (hdQ : (Q == ("__debug__" : Str)) = false := by decide) :
    SS G N sc fn k (.Try body [.ExceptHandler (some (.Name x np)) (some e) [.Return (some (.IfExp (.BoolOp .And [.Call (.Name "isinstance" p1) [.Name e p2, .Name P p3] [] p4, .UnaryOp .Not (.Call (.Name "isinstance" p5) [.Name e p6, .Name Q p7] [] p8) p9] p10)
      (.List [.Constant (.str A) j1 p11, .Attribute (.Name e p15) "line" p16] p17) (.List [.Constant (.str Bs) j2 p12] p18) p13)) p14] hp] [] [] pos) (sTryP E x P Q A Bs g) := fun X C T W tk hpo => by
  obtain ⟨Dx, hDx⟩ := hxD
  have hgl : ∀ {a : Addr} {pn : List (Addr × Obj)} {x : Str}, GL sc x → Gl (X.suite a pn) x := fun {a pn x} h => by
    show X.env.scope.names.lookup x = _
    rw [C.hsc]; exact h
  let ts : Addr → Value → Option Addr → TS := fun a cls d De σ H => ∃ (C1 D1 D2 : Addr) (b1 b2 : Bool) (dd : Addr) (v : V), cls = .ref C1 ∧ d = some dd ∧ L2.ExcC X.K C1 ∧ PySem.W.findIn X.K (.ref C1) "line" = some none ∧ X.mg P = some (.ref D1) ∧ X.mg Q = some (.ref D2) ∧ PySem.W.kitOne X.K (.ref C1) (.ref D1) = some b1 ∧ PySem.W.kitOne X.K (.ref C1) (.ref D2) = some b2 ∧
    σ[i]? = some (some (.ref a)) ∧ H dd = some (.xd [(("line" : Str), v)]) ∧ ∀ p, H p = none → De.rt (.ref p) (upd H p (.lst (if b1 && !b2 then [.str A, v] else [.str Bs])))
  have hsu : ∀ (a : Addr) (oe : Obj) (cls : Value) (d : Option Addr) (pn : List (Addr × Obj)), Zc cls d oe → (∃ vs, oe.data = .fields vs) → PSs (X.suite a ((a, oe) :: pn)) [.Return (some (.IfExp (.BoolOp .And [.Call (.Name "isinstance" p1) [.Name e p2, .Name P p3] [] p4, .UnaryOp .Not (.Call (.Name "isinstance" p5) [.Name e p6, .Name Q p7] [] p8) p9] p10)
      (.List [.Constant (.str A) j1 p11, .Attribute (.Name e p15) "line" p16] p17) (.List [.Constant (.str Bs) j2 p12] p18) p13)) p14] (ts a cls d) := by
    intro a oe cls d pn hz hfl
    refine ⟨fun pins s σ H De I h => ?_⟩
    obtain ⟨C1, D1, D2, b1, b2, dd, v, rfl, rfl, hC, hln0, mP, mQ, k1, k2, hσ, hH, hrt⟩ := h
    have hmi : (X.suite a ((a, oe) :: pn)).mg "isinstance" = none := by show X.mg _ = none; rw [C.hmg]; exact B.isinstance
    have pv : ∀ q : Pos, PE (X.suite a ((a, oe) :: pn)) (.Name e q) (tVar i) := fun q => pe_var (by show X.N[i]? = _; rw [C.hN]; exact hi) (by show Vis X.env.scope e; rw [C.hsc]; exact hv) hd hcd
    have pP : ∀ q : Pos, PE (X.suite a ((a, oe) :: pn)) (.Name P q) (tC (.ref D1)) := fun q => pe_glob (hgl hgP) mP rfl hdP
    have pQ : ∀ q : Pos, PE (X.suite a ((a, oe) :: pn)) (.Name Q q) (tC (.ref D2)) := fun q => pe_glob (hgl hgQ) mQ rfl hdQ
    have c1 : PE (X.suite a ((a, oe) :: pn)) (.Call (.Name "isinstance" p1) [.Name e p2, .Name P p3] [] p4) _ := pe_callB (call_isED hC hz hfl) (hgl hgi) hmi boot_isinstance (pa_cons (pv p2) (pa_cons (pP p3) pa_nil))
    have c2 : PE (X.suite a ((a, oe) :: pn)) (.Call (.Name "isinstance" p5) [.Name e p6, .Name Q p7] [] p8) _ := pe_callB (call_isED hC hz hfl) (hgl hgi) hmi boot_isinstance (pa_cons (pv p6) (pa_cons (pQ p7) pa_nil))
    have c3 : PE (X.suite a ((a, oe) :: pn)) (.Attribute (.Name e p15) "line" p16) _ := pe_xf ⟨hC.hg, hC.hk, hC.hs, hC.hd⟩ hln0 hz hfl (pv p15)
    have all := pss_one (ps_ret (pos := p14) (pe_ifExp (pos := p13) (pw_and (pos := p10) (pt_val c1) (pw_and1 (pt_not (pos := p9) (pt_val c2)))).pt (pe_lst (pos := p17) (pa_cons (pe_str (x := A) (j := j1) (pos := p11)) (pa_cons c3 pa_nil))) (pe_lst (pos := p18) (pa_cons (pe_str (x := Bs) (j := j2) (pos := p12)) pa_nil))))
    refine all.run pins s σ H De I ?_
    have hp0 : (some dd = none ∨ ∃ dd' fs, some dd = some dd' ∧ H dd' = some (.xd fs)) := .inr ⟨dd, _, rfl, hH⟩
    refine ⟨.ref a, hσ, hp0, .ref D1, .ref D1, b1, rfl, fun u hu => hu, k1, b1, rfl, ?_⟩
    cases b1 with
    | false => exact ⟨by show 1 ≤ sizeLine; rw [sizeLine_eq]; omega, hrt⟩
    | true =>
      rw [if_pos rfl]
      refine ⟨.ref a, hσ, hp0, .ref D2, .ref D2, b2, rfl, fun u hu => hu, k2, b2, rfl, ?_⟩
      cases b2 with
      | true => exact ⟨by show 1 ≤ sizeLine; rw [sizeLine_eq]; omega, hrt⟩
      | false => exact ⟨.ref a, hσ, rfl, rfl, dd, _, v, rfl, hH, rfl, by show 2 ≤ sizeLine; rw [sizeLine_eq]; omega, hrt⟩
  refine PS.imp (ps_tryAs (l := [(.ref Dx, i, ts)]) (tb := fun W => tS X.K X.mg W g) T.stk T.fr (by rw [C.hN]; exact C.nd) tk (fun W' pn xe tk' hp' => hb (X.tr pn xe) ⟨C.hP, C.hw, C.hK, C.hmg, C.hb, C.hN, C.nd, C.hsc, C.hfn, C.calm, C.room⟩ ⟨T.stk, T.fr⟩ W' tk' hp')
    (.cons (by rw [C.hN]; exact hi) (by show X.env.scope.names.lookup e = _; rw [C.hsc]; exact hln) ⟨C.gl hgx, hdx, .inl (by rw [C.hmg]; exact hDx)⟩ hsu .nil)) fun D σ H h => ?_
  obtain ⟨ρ, ow, o, he, gd, post⟩ := h
  unfold sTryP at he
  cases hg : g ρ with
  | none => rw [hg] at he; cases he
  | some o1 =>
    rw [hg] at he
    refine ⟨ρ, ow, o1, hg, gd, ?_⟩
    cases o1 with
    | nx ρ' => cases he; exact post
    | rt d => cases he; exact post
    | ex n pl =>
      simp only at he
      intro cls d σ' H' hc kp pk
      cases he1 : em E n x with
      | none => rw [he1] at he; cases he
      | some b =>
        rw [he1] at he
        obtain ⟨C1, D1, rfl, m1, x1, _, xc⟩ := em_pe hE he1 (by rw [← C.hmg]; exact hc)
        rw [hDx] at m1
        cases m1
        refine ⟨b, by rw [C.hK]; exact x1, fun hbt hlt a na => ?_, fun hbf => ?_⟩
        · subst hbt
          simp only at he
          split at he
          · rename_i b1 b2 dd hP hQ
            split at he
            · rename_i hs
              cases he
              obtain ⟨C2, D2, e2, m2, _, y2, _⟩ := em_pe hE hP (by rw [← C.hmg]; exact hc)
              cases e2
              obtain ⟨C3, D3, e3, m3, _, y3, _⟩ := em_pe hE hQ (by rw [← C.hmg]; exact hc)
              cases e3
              obtain ⟨da, v, rfl, hH, rv⟩ := pk
              refine ⟨C1, D2, D3, b1, b2, da, v, rfl, rfl, by rw [C.hK]; exact xc, by rw [C.hK]; exact hno n C1 he1 (by rw [← C.hmg]; exact hc), by rw [C.hmg]; exact m2, by rw [C.hmg]; exact m3, by rw [C.hK]; exact y2, by rw [C.hK]; exact y3, List.getElem?_set_self hlt, hH, fun p hp0 => ?_⟩
              have nx : ¬ ow.x p := fun q => kp.dom p (gd.ok.ext p q) hp0
              have kp2 : Kp ow H (upd H' p (.lst (if (b1 && !b2) = true then [.str A, v] else [.str Bs]))) := ⟨fun a o h1 h2 => by
                have z := kp.keep a o h1 h2
                rw [upd_ne (ne_of_none z hp0)]; exact z, fun a h1 => by
                have z := kp.dom a h1
                by_cases ha : a = p
                · subst ha; exact absurd hp0 z
                · rw [upd_ne ha]; exact z⟩
              refine post _ _ kp2 ?_
              cases hbb : (b1 && !b2) with
              | true => exact .lst upd_same nx (.cons (.str _) (.cons (rv.scl hs) .nil))
              | false => exact .lst upd_same nx (.cons (.str _) .nil)
            · cases he
          · cases he
        · subst hbf
          cases he
          exact post _ _ σ' H' hc kp pk
end
end PT

namespace PT
open PySem PySem.Spec PyProof.Rows L2
/-! ## a hook that sees the statics, too -/
def obsQG (n : Nat) (fa : List He.Fa) (fn : List He.DefD) (chk : PySem.W.Frag → Bool) (g : Addr → Option Obj) : He.AlD := obsP fa fn chk (He.frG g (cStatics :: He.asD g n))
def hookQ (n : Nat) (fa : List He.Fa) (fn : List He.DefD) (chk : PySem.W.Frag → Bool) : PySem.W.Hook where
  α := He.AlD
  obs := fun s => obsQG n fa fn chk s.heap.get?
  val := fun _ => He.valD fn
  says := fun _ h => ∃ K : PySem.W.Frag, K.In h ∧ SaysP fa fn chk K
  of := fun _ _ e => ⟨_, He.frG_in, e⟩
  keeps := fun _ _ _ ⟨K, hK, c⟩ k => ⟨K, PySem.W.Frag.In.keeps hK k, c⟩
theorem obsQG_eq {n : Nat} {fa : List He.Fa} {fn : List He.DefD} {chk : PySem.W.Frag → Bool} {g : Addr → Option Obj} {s : Shared} (h : ∀ a, g a = s.heap.get? a) : obsQG n fa fn chk g = (hookQ n fa fn chk).obs s := by
  have e : g = s.heap.get? := funext h
  rw [e]
  rfl
/-! ## what the head checks of an own exception class with __init__ -/
def oexL (K : PySem.W.Frag) (C : Addr) : Bool := match K.lookup C with
  | some ⟨.type "type", _, .cls cd, sl⟩ => (match cd.mro, sl.toList with
    | .ref D :: bm, [_, _, _, _, some (.builtin n), _] => decide (D = C) && (decide (n = "ValueError.__new__") && (!cd.hasDel && (cd.hasDict && PySem.HandSPX.refsVE bm)))
    | _, _ => false)
  | _ => false
def oexB (K : PySem.W.Frag) (C : Addr) : Bool := oexL K C && (He.eqO (PySem.W.findIn K (.ref C) "__setattr__") (some (some (.builtin "object.__setattr__"))) && (decide (PySem.W.subIn K (.ref C) (.type "BaseException") = some true) && (decide (PySem.W.typeIn K (.ref C) = some (.type "type")) && PySem.W.keepIn K (.ref C))))
theorem oexB_ok {K : PySem.W.Frag} {C : Addr} (h : oexB K C = true) : OexC K C := by
  unfold oexB at h
  simp only [Bool.and_eq_true, decide_eq_true_eq] at h
  obtain ⟨h0, h1, h2, h3, h4⟩ := h
  refine ⟨?_, He.eqO_ok h1, h2, h3, h4⟩
  unfold oexL at h0
  split at h0
  · rename_i dd cd sl ho
    split at h0
    · rename_i D bm k0 k1 k2 k3 n k5 hm hs
      simp only [Bool.and_eq_true, decide_eq_true_eq, Bool.not_eq_true'] at h0
      obtain ⟨e1, e2, e3, e4, e5⟩ := h0
      subst e1 e2
      obtain ⟨nm, bs, mro, ns, qn, hd, sn, sub, ab, col, dl⟩ := cd
      dsimp only at hm e3 e4
      subst hm e3 e4
      have q : sl = #[k0, k1, k2, k3, some (.builtin "ValueError.__new__"), k5] := Array.toList_inj.mp hs
      subst q
      exact ⟨nm, qn, ns, bs, bm, sn, sub, ab, col, dd, k0, k1, k2, k3, k5, ho, e5⟩
    · cases h0
  · cases h0
/-- the class x with its own __init__, over the class b without one -/
def peB (K : PySem.W.Frag) (x b : Str) : Bool := He.eqO (PySem.W.nsIn K mainGlobals x) (some (some (.ref (He.ga K x)))) && (He.eqO (PySem.W.nsIn K mainGlobals b) (some (some (.ref (He.ga K b)))) && (oexB K (He.ga K x) &&
  (He.eqO (PySem.W.findIn K (.ref (He.ga K x)) "__init__") (some (some (.ref (He.ma K (He.ga K x) "__init__")))) && (decide (PySem.W.typeIn K (.ref (He.ma K (He.ga K x) "__init__")) = some (.type "function")) && (He.eqO (PySem.W.findIn K (.ref (He.ga K x)) "line") (some none) &&
  (PySem.W.readsIn K (He.ga K b) (.type "type") && (He.eqO (PySem.W.specialIn K (.ref (He.ga K b)) "__getattribute__") (some (some (.builtin "type.__getattribute__"))) && (match PySem.W.findCls K (.ref (He.ga K b)) (.type "type") "__init__" with
    | some (.val v) => decide (v = .builtin "ValueError.__init__")
    | _ => false))))))))
structure PeF (K : PySem.W.Frag) (mg : Str → Option Value) (x b : Str) : Prop where
  mx : mg x = some (.ref (He.ga K x))
  mb : mg b = some (.ref (He.ga K b))
  ox : OexC K (He.ga K x)
  ini : PySem.W.findIn K (.ref (He.ga K x)) "__init__" = some (some (.ref (He.ma K (He.ga K x) "__init__")))
  ty : PySem.W.typeIn K (.ref (He.ma K (He.ga K x) "__init__")) = some (.type "function")
  no : PySem.W.findIn K (.ref (He.ga K x)) "line" = some none
  rd : ClX.CRead K (He.ga K b) (.type "type")
  vV : PySem.W.findCls K (.ref (He.ga K b)) (.type "type") "__init__" = some (.val (.builtin "ValueError.__init__"))
theorem peB_ok {K : PySem.W.Frag} {h : Heap} {mg : Str → Option Value} {x b : Str} (X : K.In h) (G : h.Ns mainGlobals mg) (c : peB K x b = true) : PeF K mg x b := by
  unfold peB at c
  simp only [Bool.and_eq_true, decide_eq_true_eq] at c
  obtain ⟨c1, c2, c3, c4, c5, c6, c7, c8, c9⟩ := c
  refine ⟨PySem.W.mg_of X G (He.eqO_ok c1), PySem.W.mg_of X G (He.eqO_ok c2), oexB_ok c3, He.eqO_ok c4, c5, He.eqO_ok c6, ⟨c7, He.eqO_ok c8⟩, ?_⟩
  split at c9
  · rename_i v hv
    rw [hv, of_decide_eq_true c9]
  · cases c9
theorem PeF.peC {G : Gc} {x b : Str} {fd : FuncData} (F : PeF G.K G.mg x b) (hb : Binds G.K fd ["self", "line"] []) (hf : FnOk G.P G.w G.K G.mg G.base (L2.CX G.P G.w) 1 (He.ma G.K (He.ga G.K x) "__init__") fd ["self", "line"] (spPE G.K)) : PeC G x :=
  ⟨_, _, fd, F.mx, F.ox, F.ini, F.ty, F.no, hb, hf⟩
theorem em_self {E : EMT} {n x : Str} (h : (E.all fun t => !(t.2.1 == x && t.2.2) || t.1 == x) = true) (e : em E n x = some true) : n = x := by
  unfold em at e
  cases q : E.find? fun t => t.1 == n && t.2.1 == x with
  | none => rw [q] at e; cases e
  | some t =>
    rw [q] at e
    have e2 : t.2.2 = true := Option.some.inj e
    have h1 := List.find?_some q
    rw [Bool.and_eq_true] at h1
    have h3 := List.all_eq_true.mp h t (List.mem_of_find?_eq_some q)
    rw [h1.2, e2] at h3
    simp only [Bool.and_self, Bool.not_true, Bool.false_or] at h3
    have a1 : t.1 = n := by simpa using h1.1
    have a2 : t.1 = x := by simpa using h3
    rw [← a1, a2]
theorem PeC.no {G : Gc} {E : EMT} {x : Str} (P : PeC G x) (h : (E.all fun t => !(t.2.1 == x && t.2.2) || t.1 == x) = true) : ∀ n C, em E n x = some true → G.mg n = some (.ref C) → PySem.W.findIn G.K (.ref C) "line" = some none := fun n C e hm => by
  obtain ⟨A, _, _, h1, _, _, _, h5, _⟩ := P
  rw [em_self h e, h1] at hm
  cases hm
  exact h5
theorem PeC.cls {G : Gc} {x : Str} (P : PeC G x) : ∃ C, G.mg x = some (.ref C) := let ⟨A, _, _, h1, _⟩ := P; ⟨A, h1⟩
/-- a method of a class: the statement of its def -/
def mth (c : Stmt) (i : Nat) : Stmt := match c with
  | .ClassDef _ _ _ body _ _ _ _ _ _ _ => body.getD i (.Pass ⟨0, 0, 0, 0⟩)
  | _ => .Pass ⟨0, 0, 0, 0⟩
end PT

/-! Plain arithmetic of tables: no program in sight. -/
namespace PT
def sumN : Nat → (Nat → Int) → Int
  | 0, _ => 0
  | n + 1, f => sumN n f + f n
theorem sumN_congr {f g : Nat → Int} : ∀ n, (∀ i, i < n → f i = g i) → sumN n f = sumN n g
  | 0, _ => rfl
  | n + 1, h => by
    show sumN n f + f n = sumN n g + g n
    rw [sumN_congr n fun i hi => h i (by omega), h n (by omega)]
theorem sumN_add (f g : Nat → Int) : ∀ n, sumN n (fun i => f i + g i) = sumN n f + sumN n g
  | 0 => rfl
  | n + 1 => by
    show sumN n (fun i => f i + g i) + (f n + g n) = sumN n f + f n + (sumN n g + g n)
    rw [sumN_add f g n]
    omega
theorem sumN_mul (c : Int) (f : Nat → Int) : ∀ n, sumN n (fun i => c * f i) = c * sumN n f
  | 0 => by simp [sumN]
  | n + 1 => by
    show sumN n (fun i => c * f i) + c * f n = c * (sumN n f + f n)
    rw [sumN_mul c f n, Int.mul_add]
theorem sumN_zero : ∀ n, sumN n (fun _ => 0) = 0
  | 0 => rfl
  | n + 1 => by
    show sumN n (fun _ => 0) + 0 = 0
    rw [sumN_zero n]; rfl
theorem sumN_comm (f : Nat → Nat → Int) (n : Nat) : ∀ m, sumN m (fun i => sumN n (fun j => f i j)) = sumN n (fun j => sumN m (fun i => f i j))
  | 0 => (sumN_zero n).symm
  | m + 1 => by
    show sumN m (fun i => sumN n (fun j => f i j)) + sumN n (fun j => f m j) = _
    rw [sumN_comm f n m, ← sumN_add]
    rfl
/-- congruence -/
def Cg (m a b : Int) : Prop := ∃ q, a = b + m * q
theorem Cg.refl (m a : Int) : Cg m a a := ⟨0, by simp⟩
theorem Cg.symm {m a b : Int} : Cg m a b → Cg m b a := fun ⟨q, h⟩ => ⟨-q, by rw [h, Int.mul_neg]; omega⟩
theorem Cg.trans {m a b c : Int} : Cg m a b → Cg m b c → Cg m a c := fun ⟨q, h⟩ ⟨r, g⟩ => ⟨q + r, by rw [h, g, Int.mul_add]; omega⟩
theorem Cg.add {m a b c d : Int} : Cg m a b → Cg m c d → Cg m (a + c) (b + d) := fun ⟨q, h⟩ ⟨r, g⟩ => ⟨q + r, by rw [h, g, Int.mul_add]; omega⟩
theorem Cg.neg {m a b : Int} : Cg m a b → Cg m (-a) (-b) := fun ⟨q, h⟩ => ⟨-q, by rw [h, Int.mul_neg]; omega⟩
theorem Cg.sub {m a b c d : Int} (h : Cg m a b) (g : Cg m c d) : Cg m (a - c) (b - d) := h.add g.neg
theorem Cg.mulL {m a b : Int} (c : Int) : Cg m a b → Cg m (c * a) (c * b) := fun ⟨q, h⟩ => ⟨c * q, by rw [h, Int.mul_add, ← Int.mul_assoc, Int.mul_comm c m, Int.mul_assoc]⟩
theorem Cg.mul {m a b c d : Int} (h : Cg m a b) (g : Cg m c d) : Cg m (a * c) (b * d) := by
  have h1 := g.mulL a
  have h2 := h.mulL d
  rw [Int.mul_comm d a, Int.mul_comm d b] at h2
  exact h1.trans h2
theorem Cg.emod (m a : Int) : Cg m (a % m) a := ⟨-(a / m), by rw [Int.mul_neg]; have := Int.emod_add_mul_ediv a m; omega⟩
theorem Cg.mod_eq {m a b : Int} : Cg m a b → a % m = b % m := fun ⟨q, h⟩ => by rw [h, Int.add_mul_emod_self_left]
theorem Cg.of_mod {m a b : Int} (h : a % m = b % m) : Cg m a b := (Cg.emod m a).symm.trans (by rw [h]; exact Cg.emod m b)
theorem Cg.sum {m : Int} {f g : Nat → Int} : ∀ n, (∀ i, i < n → Cg m (f i) (g i)) → Cg m (sumN n f) (sumN n g)
  | 0, _ => Cg.refl m 0
  | n + 1, h => (Cg.sum n fun i hi => h i (by omega)).add (h n (by omega))
theorem Cg.dvd {m d a b : Int} (h : Cg m a b) (hd : d ∣ m) (hb : d ∣ b) : d ∣ a := by
  obtain ⟨q, rfl⟩ := h
  exact Int.dvd_add hb (Int.dvd_trans hd (Int.dvd_mul_right m q))
theorem dvd_sum {d : Int} {f : Nat → Int} : ∀ n, (∀ i, i < n → d ∣ f i) → d ∣ sumN n f
  | 0, _ => Int.dvd_zero d
  | n + 1, h => Int.dvd_add (dvd_sum n fun i hi => h i (by omega)) (h n (by omega))
/-- repeated sums: the value at a place by the differences at 0 -/
def nw : Nat → (Nat → Int) → Int
  | 0, g => g 0
  | x + 1, g => nw x g + nw x (fun k => g (k + 1))
theorem nw_add : ∀ (x : Nat) (f g : Nat → Int), nw x (fun k => f k + g k) = nw x f + nw x g
  | 0, _, _ => rfl
  | x + 1, f, g => by
    show nw x (fun k => f k + g k) + nw x (fun k => f (k + 1) + g (k + 1)) = _
    rw [nw_add x f g, nw_add x (fun k => f (k + 1)) (fun k => g (k + 1))]
    show _ = nw x f + nw x (fun k => f (k + 1)) + (nw x g + nw x (fun k => g (k + 1)))
    omega
theorem nw_mul (c : Int) : ∀ (x : Nat) (f : Nat → Int), nw x (fun k => c * f k) = c * nw x f
  | 0, _ => rfl
  | x + 1, f => by
    show nw x (fun k => c * f k) + nw x (fun k => c * f (k + 1)) = c * (nw x f + nw x (fun k => f (k + 1)))
    rw [nw_mul c x f, nw_mul c x (fun k => f (k + 1)), Int.mul_add]
theorem nw_congr {m : Int} : ∀ (x : Nat) (f g : Nat → Int), (∀ k, k ≤ x → Cg m (f k) (g k)) → Cg m (nw x f) (nw x g)
  | 0, f, g, h => h 0 (Nat.le_refl 0)
  | x + 1, f, g, h => (nw_congr x f g fun k hk => h k (by omega)).add (nw_congr x (fun k => f (k + 1)) (fun k => g (k + 1)) fun k hk => h (k + 1) (by omega))
theorem nw_sum (f : Nat → Nat → Int) (x : Nat) : ∀ n, nw x (fun k => sumN n (fun i => f i k)) = sumN n (fun i => nw x (fun k => f i k))
  | 0 => by
    have h0 : ∀ x, nw x (fun _ => 0) = 0 := fun x => by
      have := nw_mul 0 x (fun _ => 0)
      simpa using this
    exact h0 x
  | n + 1 => by
    show nw x (fun k => sumN n (fun i => f i k) + f n k) = _
    rw [nw_add, nw_sum f x n]
    rfl
def dlt1 (k i : Nat) : Int := if i = k then 1 else 0
theorem sum_delta (f : Nat → Int) : ∀ n i, sumN n (fun k => f k * dlt1 k i) = if i < n then f i else 0
  | 0, i => by simp [sumN]
  | n + 1, i => by
    show sumN n (fun k => f k * dlt1 k i) + f n * dlt1 n i = _
    rw [sum_delta f n i]
    unfold dlt1
    by_cases h1 : i = n
    · subst h1; simp
    · by_cases h2 : i < n
      · rw [if_pos h2, if_neg h1, if_pos (by omega)]; simp
      · rw [if_neg h2, if_neg h1, if_neg (by omega)]; simp
/-- the falling factorial's table, by its differences -/
def fc : Nat → Int
  | 0 => 1
  | n + 1 => (n + 1 : Nat) * fc n
def bs (k x : Nat) : Int := nw x (fun i => fc k * dlt1 k i)
theorem nw_bs {m : Int} {g c : Nat → Int} {x n : Nat} (hx : x < n) (h : ∀ k, k ≤ x → Cg m (g k) (c k * fc k)) : Cg m (nw x g) (sumN n (fun k => c k * bs k x)) := by
  have h1 : Cg m (nw x g) (nw x (fun i => sumN n (fun k => c k * (fc k * dlt1 k i)))) := by
    refine nw_congr x _ _ fun i hi => ?_
    have e : sumN n (fun k => c k * (fc k * dlt1 k i)) = c i * fc i := by
      have : (fun k => c k * (fc k * dlt1 k i)) = fun k => (c k * fc k) * dlt1 k i := by funext k; rw [Int.mul_assoc]
      rw [this, sum_delta (fun k => c k * fc k) n i, if_pos (by omega)]
    rw [e]
    exact h i hi
  have h2 : nw x (fun i => sumN n (fun k => c k * (fc k * dlt1 k i))) = sumN n (fun k => c k * bs k x) := by
    rw [nw_sum (fun k i => c k * (fc k * dlt1 k i)) x n]
    exact sumN_congr n fun k _ => nw_mul (c k) x _
  rw [h2] at h1
  exact h1
/-- differences at 0 of a function -/
def dfn : Nat → Nat → (Nat → Int) → Int
  | 0, i, f => f i
  | k + 1, i, f => dfn k (i + 1) f - dfn k i f
theorem dfn_nw (f : Nat → Int) : ∀ (x j : Nat), dfn j x f = nw x (fun k => dfn (j + k) 0 f)
  | 0, j => rfl
  | x + 1, j => by
    show dfn j (x + 1) f = nw x (fun k => dfn (j + k) 0 f) + nw x (fun k => dfn (j + (k + 1)) 0 f)
    have e : (fun k => dfn (j + (k + 1)) 0 f) = fun k => dfn (j + 1 + k) 0 f := by
      funext k
      congr 1
      omega
    rw [e, ← dfn_nw f x j, ← dfn_nw f x (j + 1)]
    show dfn j (x + 1) f = dfn j x f + (dfn j (x + 1) f - dfn j x f)
    omega
theorem dfn_congr {m : Int} {f g : Nat → Int} : ∀ (k i : Nat), (∀ j, j ≤ k → Cg m (f (i + j)) (g (i + j))) → Cg m (dfn k i f) (dfn k i g)
  | 0, i, h => h 0 (Nat.le_refl 0)
  | k + 1, i, h => (dfn_congr k (i + 1) fun j hj => by
      have := h (j + 1) (by omega)
      rw [show i + 1 + j = i + (j + 1) by omega]
      exact this).sub (dfn_congr k i fun j hj => h j (by omega))
theorem dfn_add (f g : Nat → Int) : ∀ (k i : Nat), dfn k i (fun x => f x + g x) = dfn k i f + dfn k i g
  | 0, _ => rfl
  | k + 1, i => by
    show dfn k (i + 1) (fun x => f x + g x) - dfn k i (fun x => f x + g x) = _
    rw [dfn_add f g k (i + 1), dfn_add f g k i]
    show _ = dfn k (i + 1) f - dfn k i f + (dfn k (i + 1) g - dfn k i g)
    omega
theorem dfn_mul (c : Int) (f : Nat → Int) : ∀ (k i : Nat), dfn k i (fun x => c * f x) = c * dfn k i f
  | 0, _ => rfl
  | k + 1, i => by
    show dfn k (i + 1) (fun x => c * f x) - dfn k i (fun x => c * f x) = c * (dfn k (i + 1) f - dfn k i f)
    rw [dfn_mul c f k (i + 1), dfn_mul c f k i, Int.mul_sub]
theorem dfn_zero : ∀ (k i : Nat), dfn k i (fun _ => 0) = 0 := fun k i => by
  have := dfn_mul 0 (fun _ => 0) k i
  simpa using this
theorem dfn_sum (f : Nat → Nat → Int) (k i : Nat) : ∀ n, dfn k i (fun x => sumN n (fun j => f j x)) = sumN n (fun j => dfn k i (f j))
  | 0 => dfn_zero k i
  | n + 1 => by
    show dfn k i (fun x => sumN n (fun j => f j x) + f n x) = _
    rw [dfn_add, dfn_sum f k i n]
    rfl
end PT

namespace PT
/-! ## divisors -/
def fac : Nat → Nat
  | 0 => 1
  | n + 1 => (n + 1) * fac n
theorem fc_fac : ∀ k, fc k = (fac k : Nat)
  | 0 => rfl
  | k + 1 => by
    show ((k + 1 : Nat) : Int) * fc k = ((k + 1) * fac k : Nat)
    rw [fc_fac k, Int.natCast_mul]
def dvn (m k : Nat) : Nat := Nat.gcd (fac k) m
theorem dvn_pos {m : Nat} (k : Nat) (h : 0 < m) : 0 < dvn m k := Nat.gcd_pos_of_pos_right _ h
theorem dvn_le {m : Nat} (k : Nat) (h : 0 < m) : dvn m k ≤ m := Nat.le_of_dvd h (Nat.gcd_dvd_right _ _)
theorem dvn_dvd (m k : Nat) : (dvn m k : Int) ∣ (m : Int) := Int.natCast_dvd_natCast.mpr (Nat.gcd_dvd_right _ _)
theorem mods {P : Nat → Prop} (h2 : P 2) (h3 : P 3) (h4 : P 4) (h5 : P 5) (h6 : P 6) (h7 : P 7) (h8 : P 8) (h9 : P 9) (h10 : P 10) (h11 : P 11) (h12 : P 12) (m : Nat) (a : 2 ≤ m) (b : m ≤ 12) : P m := by
  have : m = 2 ∨ m = 3 ∨ m = 4 ∨ m = 5 ∨ m = 6 ∨ m = 7 ∨ m = 8 ∨ m = 9 ∨ m = 10 ∨ m = 11 ∨ m = 12 := by omega
  rcases this with rfl | rfl | rfl | rfl | rfl | rfl | rfl | rfl | rfl | rfl | rfl <;> assumption
/-! ## falling factorials -/
def fl : Nat → Int → Int
  | 0, _ => 1
  | k + 1, x => fl k x * (x - k)
theorem fl_succ (x : Int) : ∀ k, fl (k + 1) (x + 1) = (x + 1) * fl k x
  | 0 => by simp [fl]
  | k + 1 => by
    show fl (k + 1) (x + 1) * (x + 1 - ((k + 1 : Nat) : Int)) = (x + 1) * (fl k x * (x - (k : Int)))
    rw [fl_succ x k, Int.mul_assoc]
    congr 2
    omega
theorem bs_fl : ∀ (x k : Nat), bs k x = fl k x
  | 0, 0 => rfl
  | 0, k + 1 => by
    have e : fl (k + 1) 0 = 0 := by
      have h : ∀ k, fl (k + 1) 0 = 0 := by
        intro k
        induction k with
        | zero => rfl
        | succ k ih =>
          show fl (k + 1) 0 * (0 - ((k + 1 : Nat) : Int)) = 0
          rw [ih, Int.zero_mul]
      exact h k
    show fc (k + 1) * dlt1 (k + 1) 0 = fl (k + 1) ((0 : Nat) : Int)
    have e2 : ((0 : Nat) : Int) = 0 := rfl
    rw [e2, e]
    unfold dlt1
    simp
  | x + 1, 0 => by
    show nw x (fun i => fc 0 * dlt1 0 i) + nw x (fun i => fc 0 * dlt1 0 (i + 1)) = 1
    have h1 : nw x (fun i => fc 0 * dlt1 0 i) = 1 := bs_fl x 0
    have h2 : (fun i => fc 0 * dlt1 0 (i + 1)) = fun i => 0 * (fun _ => 0 : Nat → Int) i := by
      funext i
      unfold dlt1
      simp
    rw [h1, h2, nw_mul]
    simp
  | x + 1, k + 1 => by
    show nw x (fun i => fc (k + 1) * dlt1 (k + 1) i) + nw x (fun i => fc (k + 1) * dlt1 (k + 1) (i + 1)) = fl (k + 1) ((x + 1 : Nat) : Int)
    have h1 : nw x (fun i => fc (k + 1) * dlt1 (k + 1) i) = fl (k + 1) x := bs_fl x (k + 1)
    have h2 : (fun i => fc (k + 1) * dlt1 (k + 1) (i + 1)) = fun i => ((k + 1 : Nat) : Int) * (fc k * dlt1 k i) := by
      funext i
      show ((k + 1 : Nat) : Int) * fc k * dlt1 (k + 1) (i + 1) = ((k + 1 : Nat) : Int) * (fc k * dlt1 k i)
      rw [Int.mul_assoc]
      congr 2
      unfold dlt1
      simp
    have h3 : nw x (fun i => fc k * dlt1 k i) = fl k x := bs_fl x k
    have h4 : fl (k + 1) ((x + 1 : Nat) : Int) = ((x : Int) + 1) * fl k x := fl_succ x k
    rw [h1, h2, nw_mul, h3, h4]
    show fl k x * ((x : Int) - k) + ((k : Int) + 1) * fl k x = ((x : Int) + 1) * fl k x
    rw [Int.mul_comm (fl k x), ← Int.add_mul]
    congr 1
    omega
/-! ## closed checks -/
def quoB (m k : Nat) : Bool := (List.range m).all fun r => if r % dvn m k = 0 then (List.range (m / dvn m k)).any fun c => (c * fac k) % m = r else true
theorem quo_ok : ∀ m : Nat, 2 ≤ m → m ≤ 12 → (List.range 12).all (fun k => quoB m k) = true := by
  refine mods ?_ ?_ ?_ ?_ ?_ ?_ ?_ ?_ ?_ ?_ ?_ <;> decide +kernel
theorem quo (m : Nat) (h2 : 2 ≤ m) (h12 : m ≤ 12) (k : Nat) (hk : k < 12) (d : Int) (hd : (dvn m k : Int) ∣ d) : ∃ c : Nat, c < m / dvn m k ∧ Cg m d ((c : Int) * fc k) := by
  have h := List.all_eq_true.mp (quo_ok m h2 h12) k (List.mem_range.mpr hk)
  have hmp : (0 : Int) < m := by omega
  have h0 : 0 ≤ d % m := Int.emod_nonneg _ (by omega)
  have h1 : d % m < m := Int.emod_lt_of_pos _ hmp
  obtain ⟨r, hr⟩ : ∃ r : Nat, (r : Int) = d % m := ⟨(d % m).toNat, Int.toNat_of_nonneg h0⟩
  have hrm : r < m := by omega
  have h2 := List.all_eq_true.mp h r (List.mem_range.mpr hrm)
  have hdr : (dvn m k : Int) ∣ (r : Int) := by
    rw [hr]
    exact (Cg.emod m d).dvd (dvn_dvd m k) hd
  have hdr' : dvn m k ∣ r := Int.natCast_dvd_natCast.mp hdr
  rw [if_pos (Nat.mod_eq_zero_of_dvd hdr')] at h2
  obtain ⟨c, hc, he⟩ := List.any_eq_true.mp h2
  have he' : (c * fac k) % m = r := by simpa using he
  refine ⟨c, List.mem_range.mp hc, Cg.of_mod ?_⟩
  rw [fc_fac, ← Int.natCast_mul, ← hr, ← he', Int.natCast_emod]
/-- exact differences, the heads -/
def dx : Nat → List Int → List Int
  | 0, _ => []
  | n + 1, row => row.headD 0 :: dx n (List.zipWith (fun a b => b - a) row row.tail)
theorem dx_get : ∀ (n o : Nat) (row : List Int), row.length = n → o < n → (dx n row).getD o 0 = dfn o 0 (fun s => row.getD s 0)
  | n + 1, 0, row, h, _ => by
    cases row with
    | nil => cases h
    | cons x r => rfl
  | n + 1, o + 1, row, h, ho => by
    have hl : (List.zipWith (fun a b => b - a) row row.tail).length = n := by
      rw [List.length_zipWith, List.length_tail]
      omega
    show (dx n (List.zipWith (fun a b => b - a) row row.tail)).getD o 0 = _
    rw [dx_get n o _ hl (by omega)]
    have key : ∀ (k i : Nat), i + k + 1 < row.length → dfn k i (fun s => (List.zipWith (fun a b => b - a) row row.tail).getD s 0) = dfn (k + 1) i (fun s => row.getD s 0) := by
      intro k
      induction k with
      | zero =>
        intro i hi
        have h1 : i < row.length := by omega
        have h2 : i + 1 < row.length := by omega
        show (List.zipWith (fun a b => b - a) row row.tail).getD i 0 = row.getD (i + 1) 0 - row.getD i 0
        rw [List.getD_eq_getElem?_getD, List.getElem?_zipWith, List.getElem?_tail, List.getElem?_eq_getElem h1, List.getElem?_eq_getElem h2, List.getD_eq_getElem?_getD, List.getD_eq_getElem?_getD, List.getElem?_eq_getElem h1, List.getElem?_eq_getElem h2]
        rfl
      | succ k ih =>
        intro i hi
        show dfn k (i + 1) (fun s => (List.zipWith (fun a b => b - a) row row.tail).getD s 0) - dfn k i (fun s => (List.zipWith (fun a b => b - a) row row.tail).getD s 0) = dfn (k + 1) (i + 1) (fun s => row.getD s 0) - dfn (k + 1) i (fun s => row.getD s 0)
        rw [ih (i + 1) (by omega), ih i (by omega)]
    exact key o 0 (by omega)
/-- all differences of a table are divisible -/
def polB (m : Nat) (row : List Int) : Bool := (List.range m).all fun o => (dx m row).getD o 0 % (dvn m o : Int) = 0
def tabN (m : Nat) (f : Nat → Int) : List Int := (List.range m).map f
theorem tabN_len (m : Nat) (f : Nat → Int) : (tabN m f).length = m := by unfold tabN; rw [List.length_map, List.length_range]
theorem tabN_get {m : Nat} (f : Nat → Int) {x : Nat} (h : x < m) : (tabN m f).getD x 0 = f x := by
  unfold tabN
  rw [List.getD_eq_getElem?_getD, List.getElem?_map, List.getElem?_range h]
  rfl
def Pol (m : Nat) (f : Nat → Int) : Prop := ∀ o, o < m → (dvn m o : Int) ∣ dfn o 0 f
theorem Pol.congr {m : Nat} {f g : Nat → Int} (h : Pol m f) (e : ∀ x, x < m → Cg m (g x) (f x)) : Pol m g := fun o ho =>
  (dfn_congr o 0 fun j hj => by rw [Nat.zero_add]; exact e j (by omega)).dvd (dvn_dvd m o) (h o ho)
theorem Pol.ofB {m : Nat} {f : Nat → Int} (h : polB m (tabN m f) = true) : Pol m f := fun o ho => by
  have h1 := List.all_eq_true.mp h o (List.mem_range.mpr ho)
  have h2 : (dx m (tabN m f)).getD o 0 % (dvn m o : Int) = 0 := by simpa using h1
  rw [dx_get m o _ (tabN_len m f) ho] at h2
  have h3 := Int.dvd_of_emod_eq_zero h2
  have e : dfn o 0 (fun s => (tabN m f).getD s 0) = dfn o 0 f := by
    have key : ∀ (k i : Nat), i + k < m → dfn k i (fun s => (tabN m f).getD s 0) = dfn k i f := by
      intro k
      induction k with
      | zero => exact fun i hi => tabN_get f hi
      | succ k ih =>
        intro i hi
        show dfn k (i + 1) _ - dfn k i _ = dfn k (i + 1) f - dfn k i f
        rw [ih (i + 1) (by omega), ih i (by omega)]
    exact key o 0 (by omega)
  rw [e] at h3
  exact h3
theorem Pol.zero (m : Nat) : Pol m (fun _ => 0) := fun o _ => by rw [dfn_zero]; exact Int.dvd_zero _
theorem Pol.add {m : Nat} {f g : Nat → Int} (h : Pol m f) (k : Pol m g) : Pol m (fun x => f x + g x) := fun o ho => by
  rw [dfn_add]
  exact Int.dvd_add (h o ho) (k o ho)
theorem Pol.smul {m : Nat} {f : Nat → Int} (c : Int) (h : Pol m f) : Pol m (fun x => c * f x) := fun o ho => by
  rw [dfn_mul]
  exact Int.dvd_trans (h o ho) (Int.dvd_mul_left _ _)
theorem Pol.sum {m : Nat} {f : Nat → Nat → Int} : ∀ n, (∀ k, k < n → Pol m (f k)) → Pol m (fun x => sumN n (fun k => f k x))
  | 0, _ => Pol.zero m
  | n + 1, h => (Pol.sum n fun k hk => h k (by omega)).add (h n (by omega))
/-- a table with divisible differences is a sum of falling factorials -/
theorem Pol.rep {m : Nat} {f : Nat → Int} (h2 : 2 ≤ m) (h12 : m ≤ 12) (h : Pol m f) : ∃ c : Nat → Int, (∀ k, k < m → 0 ≤ c k ∧ c k < (m / dvn m k : Nat) ∧ Cg m (dfn k 0 f) (c k * fc k)) ∧ ∀ x, x < m → Cg m (f x) (sumN m (fun k => c k * fl k x)) := by
  have hc : ∀ k, ∃ c : Int, k < m → 0 ≤ c ∧ c < (m / dvn m k : Nat) ∧ Cg m (dfn k 0 f) (c * fc k) := fun k => by
    by_cases hk : k < m
    · obtain ⟨c, h3, h4⟩ := quo m h2 h12 k (by omega) _ (h k hk)
      exact ⟨c, fun _ => ⟨by omega, by omega, h4⟩⟩
    · exact ⟨0, fun z => absurd z hk⟩
  refine ⟨fun k => (hc k).choose, fun k hk => (hc k).choose_spec hk, fun x hx => ?_⟩
  have e : f x = nw x (fun k => dfn k 0 f) := by
    have := dfn_nw f x 0
    rw [show (fun k => dfn (0 + k) 0 f) = fun k => dfn k 0 f from by funext k; rw [Nat.zero_add]] at this
    exact this
  have := nw_bs (m := m) (c := fun k => (hc k).choose) (n := m) hx (fun k hk => ((hc k).choose_spec (by omega)).2.2)
  rw [← e] at this
  have e2 : sumN m (fun k => (hc k).choose * bs k x) = sumN m (fun k => (hc k).choose * fl k x) := sumN_congr m fun k _ => by rw [bs_fl]
  rw [e2] at this
  exact this
/-! ### falling factorials, and turned ones -/
theorem turn_ok : ∀ m : Nat, 2 ≤ m → m ≤ 12 → (List.range m).all (fun k => (List.range m).all fun p => polB m (tabN m fun s => fl k (((p + s) % m : Nat) : Int))) = true := by
  refine mods ?_ ?_ ?_ ?_ ?_ ?_ ?_ ?_ ?_ ?_ ?_ <;> decide +kernel
theorem Pol.fl {m : Nat} (h2 : 2 ≤ m) (h12 : m ≤ 12) {k : Nat} (hk : k < m) {p : Nat} (hp : p < m) : Pol m (fun s => fl k (((p + s) % m : Nat) : Int)) :=
  Pol.ofB (List.all_eq_true.mp (List.all_eq_true.mp (turn_ok m h2 h12) k (List.mem_range.mpr hk)) p (List.mem_range.mpr hp))
theorem Pol.turn {m : Nat} {f : Nat → Int} (h2 : 2 ≤ m) (h12 : m ≤ 12) (h : Pol m f) {p : Nat} (hp : p < m) : Pol m (fun s => f ((p + s) % m)) := by
  obtain ⟨c, _, hc⟩ := h.rep h2 h12
  refine Pol.congr (f := fun s => sumN m (fun k => c k * PT.fl k (((p + s) % m : Nat) : Int))) (Pol.sum m fun k hk => (Pol.fl h2 h12 hk hp).smul (c k)) fun s _ => hc _ (Nat.mod_lt _ (by omega))
end PT

namespace PT
/-! ## normal forms -/
/-- how many sizes are above 1 -/
def kn (m : Nat) : Nat := ((List.range m).filter fun k => decide (dvn m k < m)).length
theorem kn_ok : ∀ m : Nat, 2 ≤ m → m ≤ 12 → kn m ≤ m ∧ (List.range 12).all (fun k => decide (k < m → (dvn m k < m ↔ k < kn m))) = true := by
  refine mods ?_ ?_ ?_ ?_ ?_ ?_ ?_ ?_ ?_ ?_ ?_ <;> decide +kernel
theorem kn_le {m : Nat} (h2 : 2 ≤ m) (h12 : m ≤ 12) : kn m ≤ m := (kn_ok m h2 h12).1
theorem kn_iff {m k : Nat} (h2 : 2 ≤ m) (h12 : m ≤ 12) (hk : k < m) : dvn m k < m ↔ k < kn m := by
  have := List.all_eq_true.mp (kn_ok m h2 h12).2 k (List.mem_range.mpr (by omega))
  exact (of_decide_eq_true this) hk
theorem dvn_top {m k : Nat} (h2 : 2 ≤ m) (h12 : m ≤ 12) (hk : k < m) (h : kn m ≤ k) : dvn m k = m := by
  have h1 := dvn_le k (show 0 < m by omega)
  have h3 : ¬ dvn m k < m := fun z => by have := (kn_iff h2 h12 hk).mp z; omega
  omega
/-- the least factor -/
def quoP (m k : Nat) (d : Int) : Nat := ((List.range (m / dvn m k)).find? fun c : Nat => decide (((c : Int) * fc k - d) % m = 0)).getD 0
theorem quoP_find {m k : Nat} (h2 : 2 ≤ m) (h12 : m ≤ 12) (hk : k < 12) {d : Int} (hd : (dvn m k : Int) ∣ d) : (List.range (m / dvn m k)).find? (fun c : Nat => decide (((c : Int) * fc k - d) % m = 0)) = some (quoP m k d) ∧ quoP m k d < m / dvn m k ∧ Cg m d ((quoP m k d : Int) * fc k) := by
  obtain ⟨c, hc, hg⟩ := quo m h2 h12 k hk d hd
  have hz : ((c : Int) * fc k - d) % m = 0 := by
    have := (hg.symm.sub (Cg.refl m d)).mod_eq
    rw [this, Int.sub_self, Int.zero_emod]
  cases e : (List.range (m / dvn m k)).find? (fun c : Nat => decide (((c : Int) * fc k - d) % m = 0)) with
  | none =>
    have := List.find?_eq_none.mp e c (List.mem_range.mpr hc)
    simp [hz] at this
  | some q =>
    have hq : quoP m k d = q := by unfold quoP; rw [e]; rfl
    have h1 : ((q : Int) * fc k - d) % m = 0 := by simpa using List.find?_some e
    rw [hq]
    refine ⟨rfl, List.mem_range.mp (List.mem_of_find?_eq_some e), ?_⟩
    obtain ⟨t, ht⟩ := Int.dvd_of_emod_eq_zero h1
    exact ⟨-t, by rw [Int.mul_neg]; omega⟩
/-- a table by its normal form -/
theorem Pol.form {m : Nat} {f : Nat → Int} (h2 : 2 ≤ m) (h12 : m ≤ 12) (h : Pol m f) (c : Nat → Int) (hc : ∀ k, k < kn m → Cg m (dfn k 0 f) (c k * fc k)) : ∀ x, x < m → Cg m (f x) (sumN (kn m) (fun k => c k * PT.fl k x)) := fun x hx => by
  let c' : Nat → Int := fun k => if k < kn m then c k else 0
  have e : f x = nw x (fun k => dfn k 0 f) := by
    have := dfn_nw f x 0
    rw [show (fun k => dfn (0 + k) 0 f) = fun k => dfn k 0 f from by funext k; rw [Nat.zero_add]] at this
    exact this
  have h1 := nw_bs (m := m) (c := c') (n := m) hx (g := fun k => dfn k 0 f) (fun k hk => by
    by_cases hk2 : k < kn m
    · show Cg m (dfn k 0 f) ((if k < kn m then c k else 0) * fc k)
      rw [if_pos hk2]
      exact hc k hk2
    · show Cg m (dfn k 0 f) ((if k < kn m then c k else 0) * fc k)
      rw [if_neg hk2, Int.zero_mul]
      have hd := h k (by omega)
      rw [dvn_top h2 h12 (by omega) (by omega)] at hd
      obtain ⟨t, ht⟩ := hd
      exact ⟨t, by rw [ht]; simp⟩)
  rw [← e] at h1
  have e2 : sumN m (fun k => c' k * bs k x) = sumN (kn m) (fun k => c k * PT.fl k x) := by
    have key : ∀ n, kn m ≤ n → sumN n (fun k => c' k * bs k x) = sumN (kn m) (fun k => c k * PT.fl k x) := by
      intro n hn
      induction n with
      | zero =>
        have : kn m = 0 := by omega
        rw [this]
        rfl
      | succ n ih =>
        by_cases hn2 : kn m ≤ n
        · show sumN n (fun k => c' k * bs k x) + c' n * bs n x = _
          rw [ih hn2]
          have : c' n = 0 := if_neg (by omega)
          rw [this, Int.zero_mul, Int.add_zero]
        · have : kn m = n + 1 := by omega
          rw [this]
          refine sumN_congr (n + 1) fun k hk => ?_
          have : c' k = c k := if_pos (by omega)
          rw [this, bs_fl]
    exact key m (kn_le h2 h12)
  rw [e2] at h1
  exact h1
end PT

namespace PT
/-! ## polynomials by their coefficients -/
def pv (x : Int) : List Int → Int
  | [] => 0
  | a :: l => a + x * pv x l
theorem pv_zip (x c : Int) : ∀ a b : List Int, a.length = b.length → pv x (List.zipWith (fun lo hi => lo - c * hi) a b) = pv x a - c * pv x b
  | [], [], _ => by simp [pv]
  | [], _ :: _, h => by cases h
  | _ :: _, [], h => by cases h
  | p :: a, q :: b, h => by
    have ih := pv_zip x c a b (by simpa using h)
    show p - c * q + x * pv x (List.zipWith (fun lo hi => lo - c * hi) a b) = p + x * pv x a - c * (q + x * pv x b)
    rw [ih, Int.mul_add, Int.mul_sub, ← Int.mul_assoc, ← Int.mul_assoc, Int.mul_comm c x]
    omega
theorem pv_snoc (x : Int) : ∀ a : List Int, pv x (a ++ [0]) = pv x a
  | [] => by simp [pv]
  | p :: a => by
    show p + x * pv x (a ++ [0]) = p + x * pv x a
    rw [pv_snoc x a]
/-- the coefficients of a falling factorial -/
def prK : Nat → List Int
  | 0 => [1]
  | k + 1 => List.zipWith (fun lo hi => lo - (k : Int) * hi) (0 :: prK k) (prK k ++ [0])
theorem prK_len : ∀ k, (prK k).length = k + 1
  | 0 => rfl
  | k + 1 => by
    unfold prK
    rw [List.length_zipWith, List.length_cons, List.length_append, prK_len k]
    simp
theorem prK_fl (x : Int) : ∀ k, pv x (prK k) = fl k x
  | 0 => by simp [prK, pv, fl]
  | k + 1 => by
    show pv x (List.zipWith (fun lo hi => lo - (k : Int) * hi) (0 :: prK k) (prK k ++ [0])) = fl k x * (x - k)
    rw [pv_zip x k _ _ (by simp), pv_snoc, prK_fl x k]
    show 0 + x * pv x (prK k) - k * fl k x = _
    rw [prK_fl x k, Int.mul_sub, Int.mul_comm (fl k x), Int.mul_comm (fl k x)]
    omega
/-- a row added, modulo m -/
def addL (m f : Int) : List Int → List Int → List Int
  | a :: p, b :: r => (b + f * a) % m :: addL m f p r
  | _, r => r
theorem addL_len (m f : Int) : ∀ p r, (addL m f p r).length = r.length
  | [], _ => rfl
  | _ :: _, [] => rfl
  | a :: p, b :: r => by show (addL m f p r).length + 1 = r.length + 1; rw [addL_len]
theorem addL_pv (m f x : Int) : ∀ p r : List Int, p.length ≤ r.length → Cg m (pv x (addL m f p r)) (pv x r + f * pv x p)
  | [], r, _ => by
    show Cg m (pv x r) (pv x r + f * 0)
    rw [Int.mul_zero, Int.add_zero]
    exact Cg.refl m _
  | _ :: _, [], h => by simp at h
  | a :: p, b :: r, h => by
    have ih := addL_pv m f x p r (by simpa using h)
    have h1 := (Cg.emod m (b + f * a)).add (ih.mulL x)
    show Cg m ((b + f * a) % m + x * pv x (addL m f p r)) (b + x * pv x r + f * (a + x * pv x p))
    have e : b + f * a + x * (pv x r + f * pv x p) = b + x * pv x r + f * (a + x * pv x p) := by
      rw [Int.mul_add, Int.mul_add, ← Int.mul_assoc, ← Int.mul_assoc, Int.mul_comm x f]
      omega
    rw [← e]
    exact h1
theorem addL_set (m f : Int) : ∀ (p r : List Int) (j : Nat), j < p.length → j < r.length → (addL m f (p.take j) r).set j ((r.getD j 0 + f * p.getD j 0) % m) = addL m f (p.take (j + 1)) r
  | [], _, _, h, _ => by simp at h
  | _ :: _, [], _, _, h => by simp at h
  | a :: p, b :: r, 0, _, _ => by
    show (b :: r).set 0 _ = (b + f * a) % m :: addL m f (p.take 0) r
    simp [addL]
  | a :: p, b :: r, j + 1, h1, h2 => by
    have ih := addL_set m f p r j (by simpa using h1) (by simpa using h2)
    show ((b + f * a) % m :: addL m f (p.take j) r).set (j + 1) _ = (b + f * a) % m :: addL m f (p.take (j + 1)) r
    rw [List.set_cons_succ]
    congr 1
theorem addL_get (m f : Int) : ∀ (p r : List Int) (j : Nat), p.length ≤ j → (addL m f p r).getD j 0 = r.getD j 0
  | [], _, _, _ => rfl
  | _ :: _, [], _, _ => rfl
  | a :: p, b :: r, 0, h => by simp at h
  | a :: p, b :: r, j + 1, h => by
    have ih := addL_get m f p r j (by simpa using h)
    simpa [addL] using ih
theorem addL_rng {m f : Int} (hm : 0 < m) : ∀ (p r : List Int), (∀ y ∈ r, 0 ≤ y ∧ y < m) → ∀ y ∈ addL m f p r, 0 ≤ y ∧ y < m
  | [], _, h, y, hy => h y hy
  | _ :: _, [], h, y, hy => h y hy
  | a :: p, b :: r, h, y, hy => by
    rcases List.mem_cons.mp hy with rfl | hy
    · exact ⟨Int.emod_nonneg _ (by omega), Int.emod_lt_of_pos _ hm⟩
    · exact addL_rng hm p r (fun z hz => h z (List.mem_cons_of_mem _ hz)) y hy
/-- the coefficients of a normal form -/
def cfs (m : Int) (form : List Int) (K : Nat) : Nat → List Int
  | 0 => List.replicate K 0
  | k + 1 => addL m (form.getD k 0) (prK k) (cfs m form K k)
theorem cfs_len (m : Int) (form : List Int) (K : Nat) : ∀ k, (cfs m form K k).length = K
  | 0 => List.length_replicate
  | k + 1 => by unfold cfs; rw [addL_len, cfs_len m form K k]
theorem pv_zero (x : Int) : ∀ n, pv x (List.replicate n 0) = 0
  | 0 => rfl
  | n + 1 => by
    rw [List.replicate_succ]
    show 0 + x * pv x (List.replicate n 0) = 0
    rw [pv_zero x n]
    simp
theorem cfs_pv (m x : Int) (form : List Int) (K : Nat) : ∀ k, k ≤ K → Cg m (pv x (cfs m form K k)) (sumN k (fun j => form.getD j 0 * fl j x))
  | 0, _ => by
    show Cg m (pv x (List.replicate K 0)) 0
    rw [pv_zero]
    exact Cg.refl m 0
  | k + 1, h => by
    have h1 := addL_pv m (form.getD k 0) x (prK k) (cfs m form K k) (by rw [prK_len, cfs_len]; omega)
    rw [prK_fl] at h1
    exact h1.trans ((cfs_pv m x form K k (by omega)).add (Cg.refl m _))
theorem cfs_rng {m : Int} (hm : 0 < m) (form : List Int) (K : Nat) : ∀ k, ∀ y ∈ cfs m form K k, 0 ≤ y ∧ y < m
  | 0, y, hy => by rw [List.eq_of_mem_replicate hy]; omega
  | k + 1, y, hy => addL_rng hm _ _ (cfs_rng hm form K k) y hy
end PT

namespace PT
/-! ## products, compositions -/
theorem mul_ok : ∀ m : Nat, 2 ≤ m → m ≤ 12 → (List.range m).all (fun k => (List.range m).all fun j => polB m (tabN m fun s => PT.fl k (s : Int) * PT.fl j (s : Int))) = true := by
  refine mods ?_ ?_ ?_ ?_ ?_ ?_ ?_ ?_ ?_ ?_ ?_ <;> decide +kernel
theorem Pol.flmul {m : Nat} (h2 : 2 ≤ m) (h12 : m ≤ 12) {k j : Nat} (hk : k < m) (hj : j < m) : Pol m (fun s => PT.fl k (s : Int) * PT.fl j (s : Int)) :=
  Pol.ofB (List.all_eq_true.mp (List.all_eq_true.mp (mul_ok m h2 h12) k (List.mem_range.mpr hk)) j (List.mem_range.mpr hj))
theorem sumN_mulR (f : Nat → Int) (c : Int) : ∀ n, sumN n (fun i => f i * c) = sumN n f * c
  | 0 => by simp [sumN]
  | n + 1 => by show sumN n (fun i => f i * c) + f n * c = (sumN n f + f n) * c; rw [sumN_mulR f c n, Int.add_mul]
theorem Pol.mul {m : Nat} {f g : Nat → Int} (h2 : 2 ≤ m) (h12 : m ≤ 12) (hf : Pol m f) (hg : Pol m g) : Pol m (fun x => f x * g x) := by
  obtain ⟨c, _, hc⟩ := hf.rep h2 h12
  obtain ⟨d, _, hd⟩ := hg.rep h2 h12
  have h : Pol m (fun x => sumN m (fun k => sumN m (fun j => (c k * d j) * (PT.fl k (x : Int) * PT.fl j (x : Int))))) :=
    Pol.sum m fun k hk => Pol.sum m fun j hj => (Pol.flmul h2 h12 hk hj).smul (c k * d j)
  refine h.congr fun x hx => ?_
  refine ((hc x hx).mul (hd x hx)).trans ?_
  have e : sumN m (fun k => c k * PT.fl k (x : Int)) * sumN m (fun j => d j * PT.fl j (x : Int)) = sumN m (fun k => sumN m (fun j => (c k * d j) * (PT.fl k (x : Int) * PT.fl j (x : Int)))) := by
    rw [← sumN_mulR]
    refine sumN_congr m fun k _ => ?_
    rw [← sumN_mul]
    refine sumN_congr m fun j _ => ?_
    rw [Int.mul_assoc, Int.mul_assoc, Int.mul_left_comm (PT.fl k (x : Int))]
  rw [e]
  exact Cg.refl _ _
theorem const_ok : ∀ m : Nat, 2 ≤ m → m ≤ 12 → (polB m (tabN m fun _ => 1) && polB m (tabN m fun s => (s : Int))) = true := by
  refine mods ?_ ?_ ?_ ?_ ?_ ?_ ?_ ?_ ?_ ?_ ?_ <;> decide +kernel
theorem Pol.one {m : Nat} (h2 : 2 ≤ m) (h12 : m ≤ 12) : Pol m (fun _ => 1) := Pol.ofB (Bool.and_eq_true .. ▸ const_ok m h2 h12).1
theorem Pol.idn {m : Nat} (h2 : 2 ≤ m) (h12 : m ≤ 12) : Pol m (fun s => (s : Int)) := Pol.ofB (Bool.and_eq_true .. ▸ const_ok m h2 h12).2
theorem Pol.const {m : Nat} (h2 : 2 ≤ m) (h12 : m ≤ 12) (c : Int) : Pol m (fun _ => c) := by
  have := (Pol.one h2 h12).smul c
  simpa using this
theorem Pol.pv {m : Nat} (h2 : 2 ≤ m) (h12 : m ≤ 12) : ∀ nums : List Int, Pol m (fun x => PT.pv (x : Int) nums)
  | [] => Pol.zero m
  | a :: l => (Pol.const h2 h12 a).add ((Pol.idn h2 h12).mul h2 h12 (Pol.pv h2 h12 l))
theorem Pol.flof {m : Nat} {g : Nat → Int} (h2 : 2 ≤ m) (h12 : m ≤ 12) (hg : Pol m g) : ∀ k, Pol m (fun x => PT.fl k (g x))
  | 0 => Pol.one h2 h12
  | k + 1 => (Pol.flof h2 h12 hg k).mul h2 h12 (by
    have := hg.add (Pol.const h2 h12 (-(k : Int)))
    simpa [Int.sub_eq_add_neg] using this)
/-- a composition -/
theorem Pol.comp {m : Nat} {f g : Nat → Int} (h2 : 2 ≤ m) (h12 : m ≤ 12) (hf : Pol m f) (hg : Pol m g) (hr : ∀ x, x < m → 0 ≤ g x ∧ g x < m) : Pol m (fun x => f (g x).toNat) := by
  obtain ⟨c, _, hc⟩ := hf.rep h2 h12
  have h : Pol m (fun x => sumN m (fun k => c k * PT.fl k (g x))) := Pol.sum m fun k _ => (Pol.flof h2 h12 hg k).smul (c k)
  refine h.congr fun x hx => ?_
  have hb := hr x hx
  have := hc (g x).toNat (by omega)
  have e : (((g x).toNat : Nat) : Int) = g x := Int.toNat_of_nonneg hb.1
  rw [e] at this
  exact this
/-! ## differences of Newton sums; normal forms are unique -/
theorem dfn_of_nw (g : Nat → Int) : ∀ (k i : Nat), dfn k i (fun x => nw x g) = nw i (fun j => g (k + j))
  | 0, i => by
    show nw i g = nw i (fun j => g (0 + j))
    congr 1
    funext j
    rw [Nat.zero_add]
  | k + 1, i => by
    show dfn k (i + 1) _ - dfn k i _ = _
    rw [dfn_of_nw g k (i + 1), dfn_of_nw g k i]
    show nw i (fun j => g (k + j)) + nw i (fun j => g (k + (j + 1))) - nw i (fun j => g (k + j)) = nw i (fun j => g (k + 1 + j))
    have e : (fun j => g (k + (j + 1))) = fun j => g (k + 1 + j) := by
      funext j
      congr 1
      omega
    rw [e]
    omega
theorem dfn_fl (k j : Nat) : dfn k 0 (fun x => PT.fl j (x : Int)) = fc j * dlt1 j k := by
  have e : (fun x : Nat => PT.fl j (x : Int)) = fun x => nw x (fun i => fc j * dlt1 j i) := by
    funext x
    rw [← bs_fl]
    rfl
  rw [e, dfn_of_nw]
  rfl
theorem dfn_form (c : Nat → Int) (n k : Nat) : dfn k 0 (fun x => sumN n (fun j => c j * PT.fl j (x : Int))) = if k < n then c k * fc k else 0 := by
  rw [dfn_sum (fun j x => c j * PT.fl j (x : Int))]
  have e : sumN n (fun j => dfn k 0 (fun x => c j * PT.fl j (x : Int))) = sumN n (fun j => (c j * fc j) * dlt1 j k) := sumN_congr n fun j _ => by
    rw [dfn_mul, dfn_fl, Int.mul_assoc]
  rw [e, sum_delta]
def uniB (m k : Nat) : Bool := (List.range (m / dvn m k)).all fun c => quoP m k ((c : Int) * fc k) == c
theorem uni_ok : ∀ m : Nat, 2 ≤ m → m ≤ 12 → (List.range 12).all (fun k => uniB m k) = true := by
  refine mods ?_ ?_ ?_ ?_ ?_ ?_ ?_ ?_ ?_ ?_ ?_ <;> decide +kernel
theorem quoP_congr {m k : Nat} {d e : Int} (h : Cg m d e) : quoP m k d = quoP m k e := by
  unfold quoP
  congr 2
  funext c
  have : ((c : Int) * fc k - d) % m = ((c : Int) * fc k - e) % m := ((Cg.refl m _).sub h).mod_eq
  rw [this]
theorem quoP_uni {m k : Nat} (h2 : 2 ≤ m) (h12 : m ≤ 12) (hk : k < 12) {c : Nat} (hc : c < m / dvn m k) {d : Int} (h : Cg m d ((c : Int) * fc k)) : quoP m k d = c := by
  rw [quoP_congr h]
  have := List.all_eq_true.mp (List.all_eq_true.mp (uni_ok m h2 h12) k (List.mem_range.mpr hk)) c (List.mem_range.mpr hc)
  simpa using this
theorem Pol.ofForm {m : Nat} (h2 : 2 ≤ m) (h12 : m ≤ 12) (c : Nat → Int) (n : Nat) : Pol m (fun x => sumN n (fun j => c j * PT.fl j (x : Int))) :=
  Pol.sum n fun j _ => (Pol.flof h2 h12 (Pol.idn h2 h12) j).smul (c j)
end PT

namespace PT
/-! ## remainders -/
def cfd : Nat → List Int
  | 0 => [1]
  | k + 1 => List.zipWith (· - ·) (0 :: cfd k) (cfd k ++ [0])
def dotF : List Int → Nat → (Nat → Int) → Int
  | [], _, _ => 0
  | c :: cs, i, f => c * f i + dotF cs (i + 1) f
theorem dotF_sub (f : Nat → Int) : ∀ (a b : List Int) (i : Nat), a.length = b.length → dotF (List.zipWith (· - ·) a b) i f = dotF a i f - dotF b i f
  | [], [], _, _ => rfl
  | [], _ :: _, _, h => by cases h
  | _ :: _, [], _, h => by cases h
  | x :: a, y :: b, i, h => by
    have ih := dotF_sub f a b (i + 1) (by simpa using h)
    simp only [List.zipWith_cons_cons, dotF, ih, Int.sub_mul]
    omega
theorem dotF_snoc (f : Nat → Int) : ∀ (a : List Int) (i : Nat), dotF (a ++ [0]) i f = dotF a i f
  | [], i => by simp [dotF]
  | x :: a, i => by simp only [List.cons_append, dotF, dotF_snoc f a]
theorem dfn_dot (f : Nat → Int) : ∀ (k i : Nat), dfn k i f = dotF (cfd k) i f
  | 0, i => by simp [dfn, cfd, dotF]
  | k + 1, i => by
    show dfn k (i + 1) f - dfn k i f = dotF (List.zipWith (· - ·) (0 :: cfd k) (cfd k ++ [0])) i f
    rw [dotF_sub f _ _ _ (by simp), dotF_snoc, dfn_dot f k (i + 1), dfn_dot f k i]
    simp [dotF]
/-- the places' values keep the remainders after division by each divisor of m -/
def Keeps (m n : Nat) (f : Nat → Int) : Prop := ∀ d a b : Nat, 2 ≤ d → m % d = 0 → a < b → b < n → (b - a) % d = 0 → (d : Int) ∣ f b - f a

theorem dfv0 (f : Nat → Int) : dfn 0 0 f = (1) * f 0 := by
  rw [dfn_dot]
  have e : cfd 0 = [1] := by decide +kernel
  rw [e]
  simp only [dotF, Nat.reduceAdd]
  omega
theorem dfv1 (f : Nat → Int) : dfn 1 0 f = (-1) * f 0 + (1) * f 1 := by
  rw [dfn_dot]
  have e : cfd 1 = [-1, 1] := by decide +kernel
  rw [e]
  simp only [dotF, Nat.reduceAdd]
  omega
theorem dfv2 (f : Nat → Int) : dfn 2 0 f = (1) * f 0 + (-2) * f 1 + (1) * f 2 := by
  rw [dfn_dot]
  have e : cfd 2 = [1, -2, 1] := by decide +kernel
  rw [e]
  simp only [dotF, Nat.reduceAdd]
  omega
theorem dfv3 (f : Nat → Int) : dfn 3 0 f = (-1) * f 0 + (3) * f 1 + (-3) * f 2 + (1) * f 3 := by
  rw [dfn_dot]
  have e : cfd 3 = [-1, 3, -3, 1] := by decide +kernel
  rw [e]
  simp only [dotF, Nat.reduceAdd]
  omega
theorem dfv4 (f : Nat → Int) : dfn 4 0 f = (1) * f 0 + (-4) * f 1 + (6) * f 2 + (-4) * f 3 + (1) * f 4 := by
  rw [dfn_dot]
  have e : cfd 4 = [1, -4, 6, -4, 1] := by decide +kernel
  rw [e]
  simp only [dotF, Nat.reduceAdd]
  omega
theorem dfv5 (f : Nat → Int) : dfn 5 0 f = (-1) * f 0 + (5) * f 1 + (-10) * f 2 + (10) * f 3 + (-5) * f 4 + (1) * f 5 := by
  rw [dfn_dot]
  have e : cfd 5 = [-1, 5, -10, 10, -5, 1] := by decide +kernel
  rw [e]
  simp only [dotF, Nat.reduceAdd]
  omega
theorem dfv6 (f : Nat → Int) : dfn 6 0 f = (1) * f 0 + (-6) * f 1 + (15) * f 2 + (-20) * f 3 + (15) * f 4 + (-6) * f 5 + (1) * f 6 := by
  rw [dfn_dot]
  have e : cfd 6 = [1, -6, 15, -20, 15, -6, 1] := by decide +kernel
  rw [e]
  simp only [dotF, Nat.reduceAdd]
  omega
theorem dfv7 (f : Nat → Int) : dfn 7 0 f = (-1) * f 0 + (7) * f 1 + (-21) * f 2 + (35) * f 3 + (-35) * f 4 + (21) * f 5 + (-7) * f 6 + (1) * f 7 := by
  rw [dfn_dot]
  have e : cfd 7 = [-1, 7, -21, 35, -35, 21, -7, 1] := by decide +kernel
  rw [e]
  simp only [dotF, Nat.reduceAdd]
  omega
theorem dfv8 (f : Nat → Int) : dfn 8 0 f = (1) * f 0 + (-8) * f 1 + (28) * f 2 + (-56) * f 3 + (70) * f 4 + (-56) * f 5 + (28) * f 6 + (-8) * f 7 + (1) * f 8 := by
  rw [dfn_dot]
  have e : cfd 8 = [1, -8, 28, -56, 70, -56, 28, -8, 1] := by decide +kernel
  rw [e]
  simp only [dotF, Nat.reduceAdd]
  omega
theorem dfv9 (f : Nat → Int) : dfn 9 0 f = (-1) * f 0 + (9) * f 1 + (-36) * f 2 + (84) * f 3 + (-126) * f 4 + (126) * f 5 + (-84) * f 6 + (36) * f 7 + (-9) * f 8 + (1) * f 9 := by
  rw [dfn_dot]
  have e : cfd 9 = [-1, 9, -36, 84, -126, 126, -84, 36, -9, 1] := by decide +kernel
  rw [e]
  simp only [dotF, Nat.reduceAdd]
  omega
theorem dfv10 (f : Nat → Int) : dfn 10 0 f = (1) * f 0 + (-10) * f 1 + (45) * f 2 + (-120) * f 3 + (210) * f 4 + (-252) * f 5 + (210) * f 6 + (-120) * f 7 + (45) * f 8 + (-10) * f 9 + (1) * f 10 := by
  rw [dfn_dot]
  have e : cfd 10 = [1, -10, 45, -120, 210, -252, 210, -120, 45, -10, 1] := by decide +kernel
  rw [e]
  simp only [dotF, Nat.reduceAdd]
  omega
theorem dfv11 (f : Nat → Int) : dfn 11 0 f = (-1) * f 0 + (11) * f 1 + (-55) * f 2 + (165) * f 3 + (-330) * f 4 + (462) * f 5 + (-462) * f 6 + (330) * f 7 + (-165) * f 8 + (55) * f 9 + (-11) * f 10 + (1) * f 11 := by
  rw [dfn_dot]
  have e : cfd 11 = [-1, 11, -55, 165, -330, 462, -462, 330, -165, 55, -11, 1] := by decide +kernel
  rw [e]
  simp only [dotF, Nat.reduceAdd]
  omega
theorem keeps2 {f : Nat → Int} (h : Keeps 2 2 f) : Pol 2 f := by
  intro o ho
  have : o = 0 ∨ o = 1 := by omega
  rcases this with rfl | rfl
  · have e : dvn 2 0 = 1 := by decide +kernel
    rw [e]
    exact Int.one_dvd _
  · have e : dvn 2 1 = 1 := by decide +kernel
    rw [e]
    exact Int.one_dvd _
theorem keeps3 {f : Nat → Int} (h : Keeps 3 3 f) : Pol 3 f := by
  intro o ho
  have : o = 0 ∨ o = 1 ∨ o = 2 := by omega
  rcases this with rfl | rfl | rfl
  · have e : dvn 3 0 = 1 := by decide +kernel
    rw [e]
    exact Int.one_dvd _
  · have e : dvn 3 1 = 1 := by decide +kernel
    rw [e]
    exact Int.one_dvd _
  · have e : dvn 3 2 = 1 := by decide +kernel
    rw [e]
    exact Int.one_dvd _
theorem kp4_2 {f : Nat → Int} (h : Keeps 4 4 f) : ((2 : Nat) : Int) ∣ dfn 2 0 f := by
  rw [dfv2]
  have d2 : (2 : Int) ∣ (1) * f 0 + (-2) * f 1 + (1) * f 2 := by
    have e2_0 := h 2 0 2 (by omega) (by omega) (by omega) (by omega) (by omega)
    omega
  omega
theorem kp4_3 {f : Nat → Int} (h : Keeps 4 4 f) : ((2 : Nat) : Int) ∣ dfn 3 0 f := by
  rw [dfv3]
  have d2 : (2 : Int) ∣ (-1) * f 0 + (3) * f 1 + (-3) * f 2 + (1) * f 3 := by
    have e2_0 := h 2 0 2 (by omega) (by omega) (by omega) (by omega) (by omega)
    have e2_1 := h 2 1 3 (by omega) (by omega) (by omega) (by omega) (by omega)
    omega
  omega
theorem keeps4 {f : Nat → Int} (h : Keeps 4 4 f) : Pol 4 f := by
  intro o ho
  have : o = 0 ∨ o = 1 ∨ o = 2 ∨ o = 3 := by omega
  rcases this with rfl | rfl | rfl | rfl
  · have e : dvn 4 0 = 1 := by decide +kernel
    rw [e]
    exact Int.one_dvd _
  · have e : dvn 4 1 = 1 := by decide +kernel
    rw [e]
    exact Int.one_dvd _
  · have e : dvn 4 2 = 2 := by decide +kernel
    rw [e]
    exact kp4_2 h
  · have e : dvn 4 3 = 2 := by decide +kernel
    rw [e]
    exact kp4_3 h
theorem keeps5 {f : Nat → Int} (h : Keeps 5 5 f) : Pol 5 f := by
  intro o ho
  have : o = 0 ∨ o = 1 ∨ o = 2 ∨ o = 3 ∨ o = 4 := by omega
  rcases this with rfl | rfl | rfl | rfl | rfl
  · have e : dvn 5 0 = 1 := by decide +kernel
    rw [e]
    exact Int.one_dvd _
  · have e : dvn 5 1 = 1 := by decide +kernel
    rw [e]
    exact Int.one_dvd _
  · have e : dvn 5 2 = 1 := by decide +kernel
    rw [e]
    exact Int.one_dvd _
  · have e : dvn 5 3 = 1 := by decide +kernel
    rw [e]
    exact Int.one_dvd _
  · have e : dvn 5 4 = 1 := by decide +kernel
    rw [e]
    exact Int.one_dvd _
theorem kp6_2 {f : Nat → Int} (h : Keeps 6 6 f) : ((2 : Nat) : Int) ∣ dfn 2 0 f := by
  rw [dfv2]
  have d2 : (2 : Int) ∣ (1) * f 0 + (-2) * f 1 + (1) * f 2 := by
    have e2_0 := h 2 0 2 (by omega) (by omega) (by omega) (by omega) (by omega)
    omega
  omega
theorem kp6_3 {f : Nat → Int} (h : Keeps 6 6 f) : ((6 : Nat) : Int) ∣ dfn 3 0 f := by
  rw [dfv3]
  have d2 : (2 : Int) ∣ (-1) * f 0 + (3) * f 1 + (-3) * f 2 + (1) * f 3 := by
    have e2_0 := h 2 0 2 (by omega) (by omega) (by omega) (by omega) (by omega)
    have e2_1 := h 2 1 3 (by omega) (by omega) (by omega) (by omega) (by omega)
    omega
  have d3 : (3 : Int) ∣ (-1) * f 0 + (3) * f 1 + (-3) * f 2 + (1) * f 3 := by
    have e3_0 := h 3 0 3 (by omega) (by omega) (by omega) (by omega) (by omega)
    omega
  omega
theorem kp6_4 {f : Nat → Int} (h : Keeps 6 6 f) : ((6 : Nat) : Int) ∣ dfn 4 0 f := by
  rw [dfv4]
  have d2 : (2 : Int) ∣ (1) * f 0 + (-4) * f 1 + (6) * f 2 + (-4) * f 3 + (1) * f 4 := by
    have e2_0 := h 2 0 2 (by omega) (by omega) (by omega) (by omega) (by omega)
    have e2_1 := h 2 1 3 (by omega) (by omega) (by omega) (by omega) (by omega)
    have e2_2 := h 2 2 4 (by omega) (by omega) (by omega) (by omega) (by omega)
    omega
  have d3 : (3 : Int) ∣ (1) * f 0 + (-4) * f 1 + (6) * f 2 + (-4) * f 3 + (1) * f 4 := by
    have e3_0 := h 3 0 3 (by omega) (by omega) (by omega) (by omega) (by omega)
    have e3_1 := h 3 1 4 (by omega) (by omega) (by omega) (by omega) (by omega)
    omega
  omega
theorem kp6_5 {f : Nat → Int} (h : Keeps 6 6 f) : ((6 : Nat) : Int) ∣ dfn 5 0 f := by
  rw [dfv5]
  have d2 : (2 : Int) ∣ (-1) * f 0 + (5) * f 1 + (-10) * f 2 + (10) * f 3 + (-5) * f 4 + (1) * f 5 := by
    have e2_0 := h 2 0 2 (by omega) (by omega) (by omega) (by omega) (by omega)
    have e2_1 := h 2 1 3 (by omega) (by omega) (by omega) (by omega) (by omega)
    have e2_2 := h 2 2 4 (by omega) (by omega) (by omega) (by omega) (by omega)
    have e2_3 := h 2 3 5 (by omega) (by omega) (by omega) (by omega) (by omega)
    omega
  have d3 : (3 : Int) ∣ (-1) * f 0 + (5) * f 1 + (-10) * f 2 + (10) * f 3 + (-5) * f 4 + (1) * f 5 := by
    have e3_0 := h 3 0 3 (by omega) (by omega) (by omega) (by omega) (by omega)
    have e3_1 := h 3 1 4 (by omega) (by omega) (by omega) (by omega) (by omega)
    have e3_2 := h 3 2 5 (by omega) (by omega) (by omega) (by omega) (by omega)
    omega
  omega
theorem keeps6 {f : Nat → Int} (h : Keeps 6 6 f) : Pol 6 f := by
  intro o ho
  have : o = 0 ∨ o = 1 ∨ o = 2 ∨ o = 3 ∨ o = 4 ∨ o = 5 := by omega
  rcases this with rfl | rfl | rfl | rfl | rfl | rfl
  · have e : dvn 6 0 = 1 := by decide +kernel
    rw [e]
    exact Int.one_dvd _
  · have e : dvn 6 1 = 1 := by decide +kernel
    rw [e]
    exact Int.one_dvd _
  · have e : dvn 6 2 = 2 := by decide +kernel
    rw [e]
    exact kp6_2 h
  · have e : dvn 6 3 = 6 := by decide +kernel
    rw [e]
    exact kp6_3 h
  · have e : dvn 6 4 = 6 := by decide +kernel
    rw [e]
    exact kp6_4 h
  · have e : dvn 6 5 = 6 := by decide +kernel
    rw [e]
    exact kp6_5 h
theorem keeps7 {f : Nat → Int} (h : Keeps 7 7 f) : Pol 7 f := by
  intro o ho
  have : o = 0 ∨ o = 1 ∨ o = 2 ∨ o = 3 ∨ o = 4 ∨ o = 5 ∨ o = 6 := by omega
  rcases this with rfl | rfl | rfl | rfl | rfl | rfl | rfl
  · have e : dvn 7 0 = 1 := by decide +kernel
    rw [e]
    exact Int.one_dvd _
  · have e : dvn 7 1 = 1 := by decide +kernel
    rw [e]
    exact Int.one_dvd _
  · have e : dvn 7 2 = 1 := by decide +kernel
    rw [e]
    exact Int.one_dvd _
  · have e : dvn 7 3 = 1 := by decide +kernel
    rw [e]
    exact Int.one_dvd _
  · have e : dvn 7 4 = 1 := by decide +kernel
    rw [e]
    exact Int.one_dvd _
  · have e : dvn 7 5 = 1 := by decide +kernel
    rw [e]
    exact Int.one_dvd _
  · have e : dvn 7 6 = 1 := by decide +kernel
    rw [e]
    exact Int.one_dvd _
theorem kp10_2 {f : Nat → Int} (h : Keeps 10 10 f) : ((2 : Nat) : Int) ∣ dfn 2 0 f := by
  rw [dfv2]
  have d2 : (2 : Int) ∣ (1) * f 0 + (-2) * f 1 + (1) * f 2 := by
    have e2_0 := h 2 0 2 (by omega) (by omega) (by omega) (by omega) (by omega)
    omega
  omega
theorem kp10_3 {f : Nat → Int} (h : Keeps 10 10 f) : ((2 : Nat) : Int) ∣ dfn 3 0 f := by
  rw [dfv3]
  have d2 : (2 : Int) ∣ (-1) * f 0 + (3) * f 1 + (-3) * f 2 + (1) * f 3 := by
    have e2_0 := h 2 0 2 (by omega) (by omega) (by omega) (by omega) (by omega)
    have e2_1 := h 2 1 3 (by omega) (by omega) (by omega) (by omega) (by omega)
    omega
  omega
theorem kp10_4 {f : Nat → Int} (h : Keeps 10 10 f) : ((2 : Nat) : Int) ∣ dfn 4 0 f := by
  rw [dfv4]
  have d2 : (2 : Int) ∣ (1) * f 0 + (-4) * f 1 + (6) * f 2 + (-4) * f 3 + (1) * f 4 := by
    have e2_0 := h 2 0 2 (by omega) (by omega) (by omega) (by omega) (by omega)
    have e2_1 := h 2 1 3 (by omega) (by omega) (by omega) (by omega) (by omega)
    have e2_2 := h 2 2 4 (by omega) (by omega) (by omega) (by omega) (by omega)
    omega
  omega
theorem kp10_5 {f : Nat → Int} (h : Keeps 10 10 f) : ((10 : Nat) : Int) ∣ dfn 5 0 f := by
  rw [dfv5]
  have d2 : (2 : Int) ∣ (-1) * f 0 + (5) * f 1 + (-10) * f 2 + (10) * f 3 + (-5) * f 4 + (1) * f 5 := by
    have e2_0 := h 2 0 2 (by omega) (by omega) (by omega) (by omega) (by omega)
    have e2_1 := h 2 1 3 (by omega) (by omega) (by omega) (by omega) (by omega)
    have e2_2 := h 2 2 4 (by omega) (by omega) (by omega) (by omega) (by omega)
    have e2_3 := h 2 3 5 (by omega) (by omega) (by omega) (by omega) (by omega)
    omega
  have d5 : (5 : Int) ∣ (-1) * f 0 + (5) * f 1 + (-10) * f 2 + (10) * f 3 + (-5) * f 4 + (1) * f 5 := by
    have e5_0 := h 5 0 5 (by omega) (by omega) (by omega) (by omega) (by omega)
    omega
  omega
theorem kp10_6 {f : Nat → Int} (h : Keeps 10 10 f) : ((10 : Nat) : Int) ∣ dfn 6 0 f := by
  rw [dfv6]
  have d2 : (2 : Int) ∣ (1) * f 0 + (-6) * f 1 + (15) * f 2 + (-20) * f 3 + (15) * f 4 + (-6) * f 5 + (1) * f 6 := by
    have e2_0 := h 2 0 2 (by omega) (by omega) (by omega) (by omega) (by omega)
    have e2_1 := h 2 1 3 (by omega) (by omega) (by omega) (by omega) (by omega)
    have e2_2 := h 2 2 4 (by omega) (by omega) (by omega) (by omega) (by omega)
    have e2_3 := h 2 3 5 (by omega) (by omega) (by omega) (by omega) (by omega)
    have e2_4 := h 2 4 6 (by omega) (by omega) (by omega) (by omega) (by omega)
    omega
  have d5 : (5 : Int) ∣ (1) * f 0 + (-6) * f 1 + (15) * f 2 + (-20) * f 3 + (15) * f 4 + (-6) * f 5 + (1) * f 6 := by
    have e5_0 := h 5 0 5 (by omega) (by omega) (by omega) (by omega) (by omega)
    have e5_1 := h 5 1 6 (by omega) (by omega) (by omega) (by omega) (by omega)
    omega
  omega
theorem kp10_7 {f : Nat → Int} (h : Keeps 10 10 f) : ((10 : Nat) : Int) ∣ dfn 7 0 f := by
  rw [dfv7]
  have d2 : (2 : Int) ∣ (-1) * f 0 + (7) * f 1 + (-21) * f 2 + (35) * f 3 + (-35) * f 4 + (21) * f 5 + (-7) * f 6 + (1) * f 7 := by
    have e2_0 := h 2 0 2 (by omega) (by omega) (by omega) (by omega) (by omega)
    have e2_1 := h 2 1 3 (by omega) (by omega) (by omega) (by omega) (by omega)
    have e2_2 := h 2 2 4 (by omega) (by omega) (by omega) (by omega) (by omega)
    have e2_3 := h 2 3 5 (by omega) (by omega) (by omega) (by omega) (by omega)
    have e2_4 := h 2 4 6 (by omega) (by omega) (by omega) (by omega) (by omega)
    have e2_5 := h 2 5 7 (by omega) (by omega) (by omega) (by omega) (by omega)
    omega
  have d5 : (5 : Int) ∣ (-1) * f 0 + (7) * f 1 + (-21) * f 2 + (35) * f 3 + (-35) * f 4 + (21) * f 5 + (-7) * f 6 + (1) * f 7 := by
    have e5_0 := h 5 0 5 (by omega) (by omega) (by omega) (by omega) (by omega)
    have e5_1 := h 5 1 6 (by omega) (by omega) (by omega) (by omega) (by omega)
    have e5_2 := h 5 2 7 (by omega) (by omega) (by omega) (by omega) (by omega)
    omega
  omega
theorem kp10_8 {f : Nat → Int} (h : Keeps 10 10 f) : ((10 : Nat) : Int) ∣ dfn 8 0 f := by
  rw [dfv8]
  have d2 : (2 : Int) ∣ (1) * f 0 + (-8) * f 1 + (28) * f 2 + (-56) * f 3 + (70) * f 4 + (-56) * f 5 + (28) * f 6 + (-8) * f 7 + (1) * f 8 := by
    have e2_0 := h 2 0 2 (by omega) (by omega) (by omega) (by omega) (by omega)
    have e2_1 := h 2 1 3 (by omega) (by omega) (by omega) (by omega) (by omega)
    have e2_2 := h 2 2 4 (by omega) (by omega) (by omega) (by omega) (by omega)
    have e2_3 := h 2 3 5 (by omega) (by omega) (by omega) (by omega) (by omega)
    have e2_4 := h 2 4 6 (by omega) (by omega) (by omega) (by omega) (by omega)
    have e2_5 := h 2 5 7 (by omega) (by omega) (by omega) (by omega) (by omega)
    have e2_6 := h 2 6 8 (by omega) (by omega) (by omega) (by omega) (by omega)
    omega
  have d5 : (5 : Int) ∣ (1) * f 0 + (-8) * f 1 + (28) * f 2 + (-56) * f 3 + (70) * f 4 + (-56) * f 5 + (28) * f 6 + (-8) * f 7 + (1) * f 8 := by
    have e5_0 := h 5 0 5 (by omega) (by omega) (by omega) (by omega) (by omega)
    have e5_1 := h 5 1 6 (by omega) (by omega) (by omega) (by omega) (by omega)
    have e5_2 := h 5 2 7 (by omega) (by omega) (by omega) (by omega) (by omega)
    have e5_3 := h 5 3 8 (by omega) (by omega) (by omega) (by omega) (by omega)
    omega
  omega
theorem kp10_9 {f : Nat → Int} (h : Keeps 10 10 f) : ((10 : Nat) : Int) ∣ dfn 9 0 f := by
  rw [dfv9]
  have d2 : (2 : Int) ∣ (-1) * f 0 + (9) * f 1 + (-36) * f 2 + (84) * f 3 + (-126) * f 4 + (126) * f 5 + (-84) * f 6 + (36) * f 7 + (-9) * f 8 + (1) * f 9 := by
    have e2_0 := h 2 0 2 (by omega) (by omega) (by omega) (by omega) (by omega)
    have e2_1 := h 2 1 3 (by omega) (by omega) (by omega) (by omega) (by omega)
    have e2_2 := h 2 2 4 (by omega) (by omega) (by omega) (by omega) (by omega)
    have e2_3 := h 2 3 5 (by omega) (by omega) (by omega) (by omega) (by omega)
    have e2_4 := h 2 4 6 (by omega) (by omega) (by omega) (by omega) (by omega)
    have e2_5 := h 2 5 7 (by omega) (by omega) (by omega) (by omega) (by omega)
    have e2_6 := h 2 6 8 (by omega) (by omega) (by omega) (by omega) (by omega)
    have e2_7 := h 2 7 9 (by omega) (by omega) (by omega) (by omega) (by omega)
    omega
  have d5 : (5 : Int) ∣ (-1) * f 0 + (9) * f 1 + (-36) * f 2 + (84) * f 3 + (-126) * f 4 + (126) * f 5 + (-84) * f 6 + (36) * f 7 + (-9) * f 8 + (1) * f 9 := by
    have e5_0 := h 5 0 5 (by omega) (by omega) (by omega) (by omega) (by omega)
    have e5_1 := h 5 1 6 (by omega) (by omega) (by omega) (by omega) (by omega)
    have e5_2 := h 5 2 7 (by omega) (by omega) (by omega) (by omega) (by omega)
    have e5_3 := h 5 3 8 (by omega) (by omega) (by omega) (by omega) (by omega)
    have e5_4 := h 5 4 9 (by omega) (by omega) (by omega) (by omega) (by omega)
    omega
  omega
theorem keeps10 {f : Nat → Int} (h : Keeps 10 10 f) : Pol 10 f := by
  intro o ho
  have : o = 0 ∨ o = 1 ∨ o = 2 ∨ o = 3 ∨ o = 4 ∨ o = 5 ∨ o = 6 ∨ o = 7 ∨ o = 8 ∨ o = 9 := by omega
  rcases this with rfl | rfl | rfl | rfl | rfl | rfl | rfl | rfl | rfl | rfl
  · have e : dvn 10 0 = 1 := by decide +kernel
    rw [e]
    exact Int.one_dvd _
  · have e : dvn 10 1 = 1 := by decide +kernel
    rw [e]
    exact Int.one_dvd _
  · have e : dvn 10 2 = 2 := by decide +kernel
    rw [e]
    exact kp10_2 h
  · have e : dvn 10 3 = 2 := by decide +kernel
    rw [e]
    exact kp10_3 h
  · have e : dvn 10 4 = 2 := by decide +kernel
    rw [e]
    exact kp10_4 h
  · have e : dvn 10 5 = 10 := by decide +kernel
    rw [e]
    exact kp10_5 h
  · have e : dvn 10 6 = 10 := by decide +kernel
    rw [e]
    exact kp10_6 h
  · have e : dvn 10 7 = 10 := by decide +kernel
    rw [e]
    exact kp10_7 h
  · have e : dvn 10 8 = 10 := by decide +kernel
    rw [e]
    exact kp10_8 h
  · have e : dvn 10 9 = 10 := by decide +kernel
    rw [e]
    exact kp10_9 h
theorem keeps11 {f : Nat → Int} (h : Keeps 11 11 f) : Pol 11 f := by
  intro o ho
  have : o = 0 ∨ o = 1 ∨ o = 2 ∨ o = 3 ∨ o = 4 ∨ o = 5 ∨ o = 6 ∨ o = 7 ∨ o = 8 ∨ o = 9 ∨ o = 10 := by omega
  rcases this with rfl | rfl | rfl | rfl | rfl | rfl | rfl | rfl | rfl | rfl | rfl
  · have e : dvn 11 0 = 1 := by decide +kernel
    rw [e]
    exact Int.one_dvd _
  · have e : dvn 11 1 = 1 := by decide +kernel
    rw [e]
    exact Int.one_dvd _
  · have e : dvn 11 2 = 1 := by decide +kernel
    rw [e]
    exact Int.one_dvd _
  · have e : dvn 11 3 = 1 := by decide +kernel
    rw [e]
    exact Int.one_dvd _
  · have e : dvn 11 4 = 1 := by decide +kernel
    rw [e]
    exact Int.one_dvd _
  · have e : dvn 11 5 = 1 := by decide +kernel
    rw [e]
    exact Int.one_dvd _
  · have e : dvn 11 6 = 1 := by decide +kernel
    rw [e]
    exact Int.one_dvd _
  · have e : dvn 11 7 = 1 := by decide +kernel
    rw [e]
    exact Int.one_dvd _
  · have e : dvn 11 8 = 1 := by decide +kernel
    rw [e]
    exact Int.one_dvd _
  · have e : dvn 11 9 = 1 := by decide +kernel
    rw [e]
    exact Int.one_dvd _
  · have e : dvn 11 10 = 1 := by decide +kernel
    rw [e]
    exact Int.one_dvd _
theorem kp12_2 {f : Nat → Int} (h : Keeps 12 12 f) : ((2 : Nat) : Int) ∣ dfn 2 0 f := by
  rw [dfv2]
  have d2 : (2 : Int) ∣ (1) * f 0 + (-2) * f 1 + (1) * f 2 := by
    have e2_0 := h 2 0 2 (by omega) (by omega) (by omega) (by omega) (by omega)
    omega
  omega
theorem kp12_3 {f : Nat → Int} (h : Keeps 12 12 f) : ((6 : Nat) : Int) ∣ dfn 3 0 f := by
  rw [dfv3]
  have d2 : (2 : Int) ∣ (-1) * f 0 + (3) * f 1 + (-3) * f 2 + (1) * f 3 := by
    have e2_0 := h 2 0 2 (by omega) (by omega) (by omega) (by omega) (by omega)
    have e2_1 := h 2 1 3 (by omega) (by omega) (by omega) (by omega) (by omega)
    omega
  have d3 : (3 : Int) ∣ (-1) * f 0 + (3) * f 1 + (-3) * f 2 + (1) * f 3 := by
    have e3_0 := h 3 0 3 (by omega) (by omega) (by omega) (by omega) (by omega)
    omega
  omega
theorem kp12_4 {f : Nat → Int} (h : Keeps 12 12 f) : ((12 : Nat) : Int) ∣ dfn 4 0 f := by
  rw [dfv4]
  have d4 : (4 : Int) ∣ (1) * f 0 + (-4) * f 1 + (6) * f 2 + (-4) * f 3 + (1) * f 4 := by
    have e2_0 := h 2 0 2 (by omega) (by omega) (by omega) (by omega) (by omega)
    have e2_1 := h 2 1 3 (by omega) (by omega) (by omega) (by omega) (by omega)
    have e2_2 := h 2 2 4 (by omega) (by omega) (by omega) (by omega) (by omega)
    have e4_0 := h 4 0 4 (by omega) (by omega) (by omega) (by omega) (by omega)
    omega
  have d3 : (3 : Int) ∣ (1) * f 0 + (-4) * f 1 + (6) * f 2 + (-4) * f 3 + (1) * f 4 := by
    have e3_0 := h 3 0 3 (by omega) (by omega) (by omega) (by omega) (by omega)
    have e3_1 := h 3 1 4 (by omega) (by omega) (by omega) (by omega) (by omega)
    omega
  omega
theorem kp12_5 {f : Nat → Int} (h : Keeps 12 12 f) : ((12 : Nat) : Int) ∣ dfn 5 0 f := by
  rw [dfv5]
  have d4 : (4 : Int) ∣ (-1) * f 0 + (5) * f 1 + (-10) * f 2 + (10) * f 3 + (-5) * f 4 + (1) * f 5 := by
    have e2_0 := h 2 0 2 (by omega) (by omega) (by omega) (by omega) (by omega)
    have e2_1 := h 2 1 3 (by omega) (by omega) (by omega) (by omega) (by omega)
    have e2_2 := h 2 2 4 (by omega) (by omega) (by omega) (by omega) (by omega)
    have e2_3 := h 2 3 5 (by omega) (by omega) (by omega) (by omega) (by omega)
    have e4_0 := h 4 0 4 (by omega) (by omega) (by omega) (by omega) (by omega)
    have e4_1 := h 4 1 5 (by omega) (by omega) (by omega) (by omega) (by omega)
    omega
  have d3 : (3 : Int) ∣ (-1) * f 0 + (5) * f 1 + (-10) * f 2 + (10) * f 3 + (-5) * f 4 + (1) * f 5 := by
    have e3_0 := h 3 0 3 (by omega) (by omega) (by omega) (by omega) (by omega)
    have e3_1 := h 3 1 4 (by omega) (by omega) (by omega) (by omega) (by omega)
    have e3_2 := h 3 2 5 (by omega) (by omega) (by omega) (by omega) (by omega)
    omega
  omega
theorem kp12_6 {f : Nat → Int} (h : Keeps 12 12 f) : ((12 : Nat) : Int) ∣ dfn 6 0 f := by
  rw [dfv6]
  have d4 : (4 : Int) ∣ (1) * f 0 + (-6) * f 1 + (15) * f 2 + (-20) * f 3 + (15) * f 4 + (-6) * f 5 + (1) * f 6 := by
    have e2_0 := h 2 0 2 (by omega) (by omega) (by omega) (by omega) (by omega)
    have e2_1 := h 2 1 3 (by omega) (by omega) (by omega) (by omega) (by omega)
    have e2_2 := h 2 2 4 (by omega) (by omega) (by omega) (by omega) (by omega)
    have e2_3 := h 2 3 5 (by omega) (by omega) (by omega) (by omega) (by omega)
    have e4_0 := h 4 0 4 (by omega) (by omega) (by omega) (by omega) (by omega)
    have e4_1 := h 4 1 5 (by omega) (by omega) (by omega) (by omega) (by omega)
    have e4_2 := h 4 2 6 (by omega) (by omega) (by omega) (by omega) (by omega)
    omega
  have d3 : (3 : Int) ∣ (1) * f 0 + (-6) * f 1 + (15) * f 2 + (-20) * f 3 + (15) * f 4 + (-6) * f 5 + (1) * f 6 := by
    have e3_0 := h 3 0 3 (by omega) (by omega) (by omega) (by omega) (by omega)
    have e3_1 := h 3 1 4 (by omega) (by omega) (by omega) (by omega) (by omega)
    have e3_2 := h 3 2 5 (by omega) (by omega) (by omega) (by omega) (by omega)
    have e3_3 := h 3 3 6 (by omega) (by omega) (by omega) (by omega) (by omega)
    omega
  omega
theorem kp12_7 {f : Nat → Int} (h : Keeps 12 12 f) : ((12 : Nat) : Int) ∣ dfn 7 0 f := by
  rw [dfv7]
  have d4 : (4 : Int) ∣ (-1) * f 0 + (7) * f 1 + (-21) * f 2 + (35) * f 3 + (-35) * f 4 + (21) * f 5 + (-7) * f 6 + (1) * f 7 := by
    have e2_0 := h 2 0 2 (by omega) (by omega) (by omega) (by omega) (by omega)
    have e2_1 := h 2 1 3 (by omega) (by omega) (by omega) (by omega) (by omega)
    have e2_2 := h 2 2 4 (by omega) (by omega) (by omega) (by omega) (by omega)
    have e2_3 := h 2 3 5 (by omega) (by omega) (by omega) (by omega) (by omega)
    have e4_0 := h 4 0 4 (by omega) (by omega) (by omega) (by omega) (by omega)
    have e4_1 := h 4 1 5 (by omega) (by omega) (by omega) (by omega) (by omega)
    have e4_2 := h 4 2 6 (by omega) (by omega) (by omega) (by omega) (by omega)
    have e4_3 := h 4 3 7 (by omega) (by omega) (by omega) (by omega) (by omega)
    omega
  have d3 : (3 : Int) ∣ (-1) * f 0 + (7) * f 1 + (-21) * f 2 + (35) * f 3 + (-35) * f 4 + (21) * f 5 + (-7) * f 6 + (1) * f 7 := by
    have e3_0 := h 3 0 3 (by omega) (by omega) (by omega) (by omega) (by omega)
    have e3_1 := h 3 1 4 (by omega) (by omega) (by omega) (by omega) (by omega)
    have e3_2 := h 3 2 5 (by omega) (by omega) (by omega) (by omega) (by omega)
    have e3_3 := h 3 3 6 (by omega) (by omega) (by omega) (by omega) (by omega)
    have e3_4 := h 3 4 7 (by omega) (by omega) (by omega) (by omega) (by omega)
    omega
  omega
theorem kp12_8 {f : Nat → Int} (h : Keeps 12 12 f) : ((12 : Nat) : Int) ∣ dfn 8 0 f := by
  rw [dfv8]
  have d4 : (4 : Int) ∣ (1) * f 0 + (-8) * f 1 + (28) * f 2 + (-56) * f 3 + (70) * f 4 + (-56) * f 5 + (28) * f 6 + (-8) * f 7 + (1) * f 8 := by
    have e2_0 := h 2 0 2 (by omega) (by omega) (by omega) (by omega) (by omega)
    have e2_1 := h 2 1 3 (by omega) (by omega) (by omega) (by omega) (by omega)
    have e2_2 := h 2 2 4 (by omega) (by omega) (by omega) (by omega) (by omega)
    have e2_3 := h 2 3 5 (by omega) (by omega) (by omega) (by omega) (by omega)
    have e4_0 := h 4 0 4 (by omega) (by omega) (by omega) (by omega) (by omega)
    have e4_1 := h 4 1 5 (by omega) (by omega) (by omega) (by omega) (by omega)
    have e4_2 := h 4 2 6 (by omega) (by omega) (by omega) (by omega) (by omega)
    have e4_3 := h 4 3 7 (by omega) (by omega) (by omega) (by omega) (by omega)
    have e4_4 := h 4 4 8 (by omega) (by omega) (by omega) (by omega) (by omega)
    omega
  have d3 : (3 : Int) ∣ (1) * f 0 + (-8) * f 1 + (28) * f 2 + (-56) * f 3 + (70) * f 4 + (-56) * f 5 + (28) * f 6 + (-8) * f 7 + (1) * f 8 := by
    have e3_0 := h 3 0 3 (by omega) (by omega) (by omega) (by omega) (by omega)
    have e3_1 := h 3 1 4 (by omega) (by omega) (by omega) (by omega) (by omega)
    have e3_2 := h 3 2 5 (by omega) (by omega) (by omega) (by omega) (by omega)
    have e3_3 := h 3 3 6 (by omega) (by omega) (by omega) (by omega) (by omega)
    have e3_4 := h 3 4 7 (by omega) (by omega) (by omega) (by omega) (by omega)
    have e3_5 := h 3 5 8 (by omega) (by omega) (by omega) (by omega) (by omega)
    omega
  omega
theorem kp12_9 {f : Nat → Int} (h : Keeps 12 12 f) : ((12 : Nat) : Int) ∣ dfn 9 0 f := by
  rw [dfv9]
  have d4 : (4 : Int) ∣ (-1) * f 0 + (9) * f 1 + (-36) * f 2 + (84) * f 3 + (-126) * f 4 + (126) * f 5 + (-84) * f 6 + (36) * f 7 + (-9) * f 8 + (1) * f 9 := by
    have e2_0 := h 2 0 2 (by omega) (by omega) (by omega) (by omega) (by omega)
    have e2_1 := h 2 1 3 (by omega) (by omega) (by omega) (by omega) (by omega)
    have e2_2 := h 2 2 4 (by omega) (by omega) (by omega) (by omega) (by omega)
    have e2_3 := h 2 3 5 (by omega) (by omega) (by omega) (by omega) (by omega)
    have e4_0 := h 4 0 4 (by omega) (by omega) (by omega) (by omega) (by omega)
    have e4_1 := h 4 1 5 (by omega) (by omega) (by omega) (by omega) (by omega)
    have e4_2 := h 4 2 6 (by omega) (by omega) (by omega) (by omega) (by omega)
    have e4_3 := h 4 3 7 (by omega) (by omega) (by omega) (by omega) (by omega)
    have e4_4 := h 4 4 8 (by omega) (by omega) (by omega) (by omega) (by omega)
    have e4_5 := h 4 5 9 (by omega) (by omega) (by omega) (by omega) (by omega)
    omega
  have d3 : (3 : Int) ∣ (-1) * f 0 + (9) * f 1 + (-36) * f 2 + (84) * f 3 + (-126) * f 4 + (126) * f 5 + (-84) * f 6 + (36) * f 7 + (-9) * f 8 + (1) * f 9 := by
    have e3_0 := h 3 0 3 (by omega) (by omega) (by omega) (by omega) (by omega)
    have e3_1 := h 3 1 4 (by omega) (by omega) (by omega) (by omega) (by omega)
    have e3_2 := h 3 2 5 (by omega) (by omega) (by omega) (by omega) (by omega)
    have e3_3 := h 3 3 6 (by omega) (by omega) (by omega) (by omega) (by omega)
    have e3_4 := h 3 4 7 (by omega) (by omega) (by omega) (by omega) (by omega)
    have e3_5 := h 3 5 8 (by omega) (by omega) (by omega) (by omega) (by omega)
    have e3_6 := h 3 6 9 (by omega) (by omega) (by omega) (by omega) (by omega)
    omega
  omega
theorem kp12_10 {f : Nat → Int} (h : Keeps 12 12 f) : ((12 : Nat) : Int) ∣ dfn 10 0 f := by
  rw [dfv10]
  have d4 : (4 : Int) ∣ (1) * f 0 + (-10) * f 1 + (45) * f 2 + (-120) * f 3 + (210) * f 4 + (-252) * f 5 + (210) * f 6 + (-120) * f 7 + (45) * f 8 + (-10) * f 9 + (1) * f 10 := by
    have e2_0 := h 2 0 2 (by omega) (by omega) (by omega) (by omega) (by omega)
    have e2_1 := h 2 1 3 (by omega) (by omega) (by omega) (by omega) (by omega)
    have e2_2 := h 2 2 4 (by omega) (by omega) (by omega) (by omega) (by omega)
    have e2_3 := h 2 3 5 (by omega) (by omega) (by omega) (by omega) (by omega)
    have e4_0 := h 4 0 4 (by omega) (by omega) (by omega) (by omega) (by omega)
    have e4_1 := h 4 1 5 (by omega) (by omega) (by omega) (by omega) (by omega)
    have e4_2 := h 4 2 6 (by omega) (by omega) (by omega) (by omega) (by omega)
    have e4_3 := h 4 3 7 (by omega) (by omega) (by omega) (by omega) (by omega)
    have e4_4 := h 4 4 8 (by omega) (by omega) (by omega) (by omega) (by omega)
    have e4_5 := h 4 5 9 (by omega) (by omega) (by omega) (by omega) (by omega)
    have e4_6 := h 4 6 10 (by omega) (by omega) (by omega) (by omega) (by omega)
    omega
  have d3 : (3 : Int) ∣ (1) * f 0 + (-10) * f 1 + (45) * f 2 + (-120) * f 3 + (210) * f 4 + (-252) * f 5 + (210) * f 6 + (-120) * f 7 + (45) * f 8 + (-10) * f 9 + (1) * f 10 := by
    have e3_0 := h 3 0 3 (by omega) (by omega) (by omega) (by omega) (by omega)
    have e3_1 := h 3 1 4 (by omega) (by omega) (by omega) (by omega) (by omega)
    have e3_2 := h 3 2 5 (by omega) (by omega) (by omega) (by omega) (by omega)
    have e3_3 := h 3 3 6 (by omega) (by omega) (by omega) (by omega) (by omega)
    have e3_4 := h 3 4 7 (by omega) (by omega) (by omega) (by omega) (by omega)
    have e3_5 := h 3 5 8 (by omega) (by omega) (by omega) (by omega) (by omega)
    have e3_6 := h 3 6 9 (by omega) (by omega) (by omega) (by omega) (by omega)
    have e3_7 := h 3 7 10 (by omega) (by omega) (by omega) (by omega) (by omega)
    omega
  omega
theorem kp12_11 {f : Nat → Int} (h : Keeps 12 12 f) : ((12 : Nat) : Int) ∣ dfn 11 0 f := by
  rw [dfv11]
  have d4 : (4 : Int) ∣ (-1) * f 0 + (11) * f 1 + (-55) * f 2 + (165) * f 3 + (-330) * f 4 + (462) * f 5 + (-462) * f 6 + (330) * f 7 + (-165) * f 8 + (55) * f 9 + (-11) * f 10 + (1) * f 11 := by
    have e2_0 := h 2 0 2 (by omega) (by omega) (by omega) (by omega) (by omega)
    have e2_1 := h 2 1 3 (by omega) (by omega) (by omega) (by omega) (by omega)
    have e2_2 := h 2 2 4 (by omega) (by omega) (by omega) (by omega) (by omega)
    have e2_3 := h 2 3 5 (by omega) (by omega) (by omega) (by omega) (by omega)
    have e4_0 := h 4 0 4 (by omega) (by omega) (by omega) (by omega) (by omega)
    have e4_1 := h 4 1 5 (by omega) (by omega) (by omega) (by omega) (by omega)
    have e4_2 := h 4 2 6 (by omega) (by omega) (by omega) (by omega) (by omega)
    have e4_3 := h 4 3 7 (by omega) (by omega) (by omega) (by omega) (by omega)
    have e4_4 := h 4 4 8 (by omega) (by omega) (by omega) (by omega) (by omega)
    have e4_5 := h 4 5 9 (by omega) (by omega) (by omega) (by omega) (by omega)
    have e4_6 := h 4 6 10 (by omega) (by omega) (by omega) (by omega) (by omega)
    have e4_7 := h 4 7 11 (by omega) (by omega) (by omega) (by omega) (by omega)
    omega
  have d3 : (3 : Int) ∣ (-1) * f 0 + (11) * f 1 + (-55) * f 2 + (165) * f 3 + (-330) * f 4 + (462) * f 5 + (-462) * f 6 + (330) * f 7 + (-165) * f 8 + (55) * f 9 + (-11) * f 10 + (1) * f 11 := by
    have e3_0 := h 3 0 3 (by omega) (by omega) (by omega) (by omega) (by omega)
    have e3_1 := h 3 1 4 (by omega) (by omega) (by omega) (by omega) (by omega)
    have e3_2 := h 3 2 5 (by omega) (by omega) (by omega) (by omega) (by omega)
    have e3_3 := h 3 3 6 (by omega) (by omega) (by omega) (by omega) (by omega)
    have e3_4 := h 3 4 7 (by omega) (by omega) (by omega) (by omega) (by omega)
    have e3_5 := h 3 5 8 (by omega) (by omega) (by omega) (by omega) (by omega)
    have e3_6 := h 3 6 9 (by omega) (by omega) (by omega) (by omega) (by omega)
    have e3_7 := h 3 7 10 (by omega) (by omega) (by omega) (by omega) (by omega)
    have e3_8 := h 3 8 11 (by omega) (by omega) (by omega) (by omega) (by omega)
    omega
  omega
theorem keeps12 {f : Nat → Int} (h : Keeps 12 12 f) : Pol 12 f := by
  intro o ho
  have : o = 0 ∨ o = 1 ∨ o = 2 ∨ o = 3 ∨ o = 4 ∨ o = 5 ∨ o = 6 ∨ o = 7 ∨ o = 8 ∨ o = 9 ∨ o = 10 ∨ o = 11 := by omega
  rcases this with rfl | rfl | rfl | rfl | rfl | rfl | rfl | rfl | rfl | rfl | rfl | rfl
  · have e : dvn 12 0 = 1 := by decide +kernel
    rw [e]
    exact Int.one_dvd _
  · have e : dvn 12 1 = 1 := by decide +kernel
    rw [e]
    exact Int.one_dvd _
  · have e : dvn 12 2 = 2 := by decide +kernel
    rw [e]
    exact kp12_2 h
  · have e : dvn 12 3 = 6 := by decide +kernel
    rw [e]
    exact kp12_3 h
  · have e : dvn 12 4 = 12 := by decide +kernel
    rw [e]
    exact kp12_4 h
  · have e : dvn 12 5 = 12 := by decide +kernel
    rw [e]
    exact kp12_5 h
  · have e : dvn 12 6 = 12 := by decide +kernel
    rw [e]
    exact kp12_6 h
  · have e : dvn 12 7 = 12 := by decide +kernel
    rw [e]
    exact kp12_7 h
  · have e : dvn 12 8 = 12 := by decide +kernel
    rw [e]
    exact kp12_8 h
  · have e : dvn 12 9 = 12 := by decide +kernel
    rw [e]
    exact kp12_9 h
  · have e : dvn 12 10 = 12 := by decide +kernel
    rw [e]
    exact kp12_10 h
  · have e : dvn 12 11 = 12 := by decide +kernel
    rw [e]
    exact kp12_11 h
theorem Keeps.pol {m : Nat} {f : Nat → Int} (h2 : 2 ≤ m) (h12 : m ≤ 12) (h8 : m ≠ 8) (h9 : m ≠ 9) (h : Keeps m m f) : Pol m f := by
  have : m = 2 ∨ m = 3 ∨ m = 4 ∨ m = 5 ∨ m = 6 ∨ m = 7 ∨ m = 10 ∨ m = 11 ∨ m = 12 := by omega
  rcases this with rfl | rfl | rfl | rfl | rfl | rfl | rfl | rfl | rfl
  · exact keeps2 h
  · exact keeps3 h
  · exact keeps4 h
  · exact keeps5 h
  · exact keeps6 h
  · exact keeps7 h
  · exact keeps10 h
  · exact keeps11 h
  · exact keeps12 h
theorem fl_cg {d a b : Int} (h : Cg d a b) : ∀ k, Cg d (fl k a) (fl k b)
  | 0 => Cg.refl d 1
  | k + 1 => (fl_cg h k).mul (h.sub (Cg.refl d (k : Int)))
theorem Cg.of_dvd {d m a b : Int} (hd : d ∣ m) (h : Cg m a b) : Cg d a b := by
  obtain ⟨q, hq⟩ := h
  obtain ⟨c, hc⟩ := hd
  exact ⟨c * q, by rw [hq, hc, Int.mul_assoc]⟩
theorem Pol.keeps {m : Nat} {f : Nat → Int} (h2 : 2 ≤ m) (h12 : m ≤ 12) (h : Pol m f) : Keeps m m f := by
  intro d a b hd hm hab hb hba
  obtain ⟨c, _, hc⟩ := h.rep h2 h12
  have hdm : (d : Int) ∣ (m : Int) := Int.natCast_dvd_natCast.mpr (Nat.dvd_of_mod_eq_zero hm)
  have hcg : Cg (d : Int) (b : Int) (a : Int) := by
    have hdv := Nat.dvd_of_mod_eq_zero hba
    obtain ⟨q, hq⟩ := hdv
    refine ⟨(q : Int), ?_⟩
    have : b = a + d * q := by omega
    rw [this, Int.natCast_add, Int.natCast_mul]
  have e1 : Cg (d : Int) (f b) (f a) := ((Cg.of_dvd hdm (hc b hb)).trans (Cg.sum m fun k _ => (fl_cg hcg k).mulL (c k))).trans (Cg.of_dvd hdm (hc a (by omega))).symm
  obtain ⟨q, hq⟩ := e1
  exact ⟨q, by rw [hq]; omega⟩
end PT

namespace PT
/-! ## a next value that keeps remainders -/
theorem next_of {m p : Nat} {f : Nat → Int} (hm : 0 < m) (w : Int) (h : ∀ d : Nat, 2 ≤ d → d ≤ p → m % d = 0 → (d : Int) ∣ w % m - f (p - d)) : ∃ v : Nat, v < m ∧ ∀ d : Nat, 2 ≤ d → d ≤ p → m % d = 0 → (d : Int) ∣ (v : Int) - f (p - d) := by
  have h0 : 0 ≤ w % (m : Int) := Int.emod_nonneg _ (by omega)
  have h1 : w % (m : Int) < m := Int.emod_lt_of_pos _ (by omega)
  refine ⟨(w % (m : Int)).toNat, by omega, fun d a b c => ?_⟩
  rw [Int.toNat_of_nonneg h0]
  exact h d a b c
theorem keep_next : ∀ m : Nat, 2 ≤ m → m ≤ 12 → ∀ (p : Nat) (f : Nat → Int), p < m → Keeps m p f → ∃ v : Nat, v < m ∧ ∀ d : Nat, 2 ≤ d → d ≤ p → m % d = 0 → (d : Int) ∣ (v : Int) - f (p - d) := by
  refine mods ?_ ?_ ?_ ?_ ?_ ?_ ?_ ?_ ?_ ?_ ?_
  · intro p f hp h
    exact next_of (by omega) 0 fun d h1 h2 h3 => by omega
  · intro p f hp h
    exact next_of (by omega) 0 fun d h1 h2 h3 => by
      have : d = 2 := by omega
      subst this
      omega
  · intro p f hp h
    refine next_of (by omega) (f (p - 2)) fun d h1 h2 h3 => ?_
    have : d = 2 ∨ d = 3 := by omega
    rcases this with rfl | rfl <;> omega
  · intro p f hp h
    refine next_of (by omega) 0 fun d h1 h2 h3 => ?_
    have : d = 2 ∨ d = 3 ∨ d = 4 := by omega
    rcases this with rfl | rfl | rfl <;> omega
  · intro p f hp h
    refine next_of (by omega) (3 * f (p - 2) + 4 * f (p - 3)) fun d h1 h2 h3 => ?_
    have : d = 2 ∨ d = 3 ∨ d = 4 ∨ d = 5 := by omega
    rcases this with rfl | rfl | rfl | rfl <;> omega
  · intro p f hp h
    refine next_of (by omega) 0 fun d h1 h2 h3 => ?_
    have : d = 2 ∨ d = 3 ∨ d = 4 ∨ d = 5 ∨ d = 6 := by omega
    rcases this with rfl | rfl | rfl | rfl | rfl <;> omega
  · intro p f hp h
    by_cases h4 : 4 ≤ p
    · have k := h 2 (p - 4) (p - 2) (by omega) (by omega) (by omega) (by omega) (by omega)
      refine next_of (by omega) (f (p - 4)) fun d h1 h2 h3 => ?_
      have : d = 2 ∨ d = 3 ∨ d = 4 ∨ d = 5 ∨ d = 6 ∨ d = 7 := by omega
      rcases this with rfl | rfl | rfl | rfl | rfl | rfl <;> omega
    · refine next_of (by omega) (f (p - 2)) fun d h1 h2 h3 => ?_
      have : d = 2 ∨ d = 3 := by omega
      rcases this with rfl | rfl <;> omega
  · intro p f hp h
    refine next_of (by omega) (f (p - 3)) fun d h1 h2 h3 => ?_
    have : d = 2 ∨ d = 3 ∨ d = 4 ∨ d = 5 ∨ d = 6 ∨ d = 7 ∨ d = 8 := by omega
    rcases this with rfl | rfl | rfl | rfl | rfl | rfl | rfl <;> omega
  · intro p f hp h
    refine next_of (by omega) (5 * f (p - 2) + 6 * f (p - 5)) fun d h1 h2 h3 => ?_
    have : d = 2 ∨ d = 3 ∨ d = 4 ∨ d = 5 ∨ d = 6 ∨ d = 7 ∨ d = 8 ∨ d = 9 := by omega
    rcases this with rfl | rfl | rfl | rfl | rfl | rfl | rfl | rfl <;> omega
  · intro p f hp h
    refine next_of (by omega) 0 fun d h1 h2 h3 => ?_
    have : d = 2 ∨ d = 3 ∨ d = 4 ∨ d = 5 ∨ d = 6 ∨ d = 7 ∨ d = 8 ∨ d = 9 ∨ d = 10 := by omega
    rcases this with rfl | rfl | rfl | rfl | rfl | rfl | rfl | rfl | rfl <;> omega
  · intro p f hp h
    by_cases h4 : 4 ≤ p
    · have k := h 2 (p - 4) (p - 2) (by omega) (by omega) (by omega) (by omega) (by omega)
      by_cases h6 : 6 ≤ p
      · have k2 := h 3 (p - 6) (p - 3) (by omega) (by omega) (by omega) (by omega) (by omega)
        have k3 := h 2 (p - 6) (p - 4) (by omega) (by omega) (by omega) (by omega) (by omega)
        refine next_of (by omega) (4 * f (p - 3) + 9 * f (p - 4)) fun d h1 h2 h3 => ?_
        have : d = 2 ∨ d = 3 ∨ d = 4 ∨ d = 5 ∨ d = 6 ∨ d = 7 ∨ d = 8 ∨ d = 9 ∨ d = 10 ∨ d = 11 := by omega
        rcases this with rfl | rfl | rfl | rfl | rfl | rfl | rfl | rfl | rfl | rfl <;> omega
      · refine next_of (by omega) (4 * f (p - 3) + 9 * f (p - 4)) fun d h1 h2 h3 => ?_
        have : d = 2 ∨ d = 3 ∨ d = 4 ∨ d = 5 := by omega
        rcases this with rfl | rfl | rfl | rfl <;> omega
    · refine next_of (by omega) (4 * f (p - 3) + 9 * f (p - 2)) fun d h1 h2 h3 => ?_
      have : d = 2 ∨ d = 3 := by omega
      rcases this with rfl | rfl <;> omega
theorem Keeps.snoc {m p : Nat} {f g : Nat → Int} (h : Keeps m p f) (e : ∀ i, i < p → g i = f i) (hv : ∀ d : Nat, 2 ≤ d → d ≤ p → m % d = 0 → (d : Int) ∣ g p - f (p - d)) : Keeps m (p + 1) g := by
  intro d a b hd hm hab hb hba
  by_cases hbp : b < p
  · rw [e b hbp, e a (by omega)]
    exact h d a b hd hm hab hbp hba
  · have hb' : b = p := by omega
    subst hb'
    have hdb : d ≤ b - a := Nat.le_of_dvd (by omega) (Nat.dvd_of_mod_eq_zero hba)
    have h1 := hv d hd (by omega) hm
    rw [e a hab]
    by_cases ha : a = b - d
    · rw [← ha] at h1
      exact h1
    · have h2 := h d a (b - d) hd hm (by omega) (by omega) (by
        have : b - d - a = b - a - d := by omega
        rw [this, ← Nat.mod_eq_sub_mod hdb]
        exact hba)
      have := Int.dvd_add h1 h2
      have e2 : g b - f (b - d) + (f (b - d) - f a) = g b - f a := by omega
      rw [e2] at this
      exact this
end PT

namespace PT
/-! ## prime powers -/
def pws : Nat → List Nat
  | 6 => [2, 3]
  | 10 => [2, 5]
  | 12 => [3, 4]
  | m => [m]
/-- one prime power, or two -/
theorem pws_two : ∀ m : Nat, 2 ≤ m → m ≤ 12 → pws m = [m] ∨ ∃ q r e f : Nat, pws m = [q, r] ∧ m = q * r ∧ 2 ≤ q ∧ 2 ≤ r ∧ q ≤ 12 ∧ r ≤ 12 ∧ (e + f) % m = 1 ∧ e % r = 0 ∧ f % q = 0 := by
  refine mods ?_ ?_ ?_ ?_ ?_ ?_ ?_ ?_ ?_ ?_ ?_
  · exact .inl rfl
  · exact .inl rfl
  · exact .inl rfl
  · exact .inl rfl
  · exact .inr ⟨2, 3, 3, 4, rfl, rfl, by decide, by decide, by decide, by decide, by decide, by decide, by decide⟩
  · exact .inl rfl
  · exact .inl rfl
  · exact .inl rfl
  · exact .inr ⟨2, 5, 5, 6, rfl, rfl, by decide, by decide, by decide, by decide, by decide, by decide, by decide⟩
  · exact .inl rfl
  · exact .inr ⟨3, 4, 4, 9, rfl, rfl, by decide, by decide, by decide, by decide, by decide, by decide, by decide⟩
theorem pws_ok : ∀ m : Nat, 2 ≤ m → m ≤ 12 → ((pws m).all fun q => decide (2 ≤ q) && decide (q ≤ m) && decide (m % q = 0)) = true := by
  refine mods ?_ ?_ ?_ ?_ ?_ ?_ ?_ ?_ ?_ ?_ ?_ <;> decide
theorem pws_mem {m q : Nat} (h2 : 2 ≤ m) (h12 : m ≤ 12) (h : q ∈ pws m) : 2 ≤ q ∧ q ≤ m ∧ m % q = 0 := by
  have := List.all_eq_true.mp (pws_ok m h2 h12) q h
  simp only [Bool.and_eq_true, decide_eq_true_eq] at this
  exact ⟨this.1.1, this.1.2, this.2⟩
theorem pws_len : ∀ m : Nat, 2 ≤ m → m ≤ 12 → 1 ≤ (pws m).length ∧ (pws m).length ≤ 2 := by
  refine mods ?_ ?_ ?_ ?_ ?_ ?_ ?_ ?_ ?_ ?_ ?_ <;> decide
/-- a value with these remainders -/
def fit (m : Nat) (r : Nat → Nat) (v : Nat) : Bool := (pws m).all fun q => v % q == r q % q
def crtB (m : Nat) : Bool := match pws m with
  | [q] => (List.range q).all fun a => ((List.range m).filter fun v => v % q == a).length == 1
  | [q, r] => (List.range q).all fun a => (List.range r).all fun b => ((List.range m).filter fun v => v % q == a && v % r == b).length == 1
  | _ => false
theorem crt_ok : ∀ m : Nat, 2 ≤ m → m ≤ 12 → crtB m = true := by
  refine mods ?_ ?_ ?_ ?_ ?_ ?_ ?_ ?_ ?_ ?_ ?_ <;> decide +kernel
theorem crt {m : Nat} (h2 : 2 ≤ m) (h12 : m ≤ 12) (r : Nat → Nat) : ∃ v, (List.range m).filter (fit m r) = [v] ∧ v < m ∧ fit m r v = true := by
  have hl : ((List.range m).filter (fit m r)).length = 1 := by
    have hc := crt_ok m h2 h12
    unfold crtB at hc
    unfold fit
    rcases pws_two m h2 h12 with e | ⟨q, s, _, _, e, _, hq, hs, _⟩
    · rw [e] at hc ⊢
      have := List.all_eq_true.mp hc (r m % m) (List.mem_range.mpr (Nat.mod_lt _ (by omega)))
      simpa using this
    · rw [e] at hc ⊢
      have := List.all_eq_true.mp (List.all_eq_true.mp hc (r q % q) (List.mem_range.mpr (Nat.mod_lt _ (by omega)))) (r s % s) (List.mem_range.mpr (Nat.mod_lt _ (by omega)))
      simpa using this
  obtain ⟨v, hv⟩ := List.length_eq_one_iff.mp hl
  have hm : v ∈ (List.range m).filter (fit m r) := by rw [hv]; exact List.mem_singleton.mpr rfl
  obtain ⟨h1, h3⟩ := List.mem_filter.mp hm
  exact ⟨v, hv, List.mem_range.mp h1, h3⟩
theorem crt_uni {m : Nat} (h2 : 2 ≤ m) (h12 : m ≤ 12) (r : Nat → Nat) {v w : Nat} (hv : v < m) (hw : w < m) (fv : fit m r v = true) (fw : fit m r w = true) : v = w := by
  obtain ⟨u, hu, _⟩ := crt h2 h12 r
  have a : v ∈ (List.range m).filter (fit m r) := List.mem_filter.mpr ⟨List.mem_range.mpr hv, fv⟩
  have b : w ∈ (List.range m).filter (fit m r) := List.mem_filter.mpr ⟨List.mem_range.mpr hw, fw⟩
  rw [hu] at a b
  rw [List.mem_singleton.mp a, List.mem_singleton.mp b]
theorem Cg.nat {d a b : Nat} (h : a % d = b % d) : Cg (d : Int) (a : Int) (b : Int) := Cg.of_mod (by rw [← Int.natCast_emod, ← Int.natCast_emod, h])
theorem Cg.toNat {d a b : Nat} (h : Cg (d : Int) (a : Int) (b : Int)) : a % d = b % d := by
  have := h.mod_eq
  rw [← Int.natCast_emod, ← Int.natCast_emod] at this
  exact Int.ofNat.inj this
/-- from the modulus to a prime power -/
theorem Pol.part {m q : Nat} {f g : Nat → Int} (h2 : 2 ≤ m) (h12 : m ≤ 12) (hq : 2 ≤ q) (hqm : q ≤ m) (hd : m % q = 0) (hf : Pol m f) (h : ∀ x, x < q → Cg (q : Int) (g x) (f x)) : Pol q g := by
  obtain ⟨c, _, hc⟩ := hf.rep h2 h12
  refine (Pol.ofForm hq (by omega) c m).congr fun x hx => ?_
  have hdm : (q : Int) ∣ (m : Int) := Int.natCast_dvd_natCast.mpr (Nat.dvd_of_mod_eq_zero hd)
  exact (h x hx).trans (Cg.of_dvd hdm (hc x (by omega)))
/-- a prime power's polynomial at every place -/
theorem Pol.all {q : Nat} {g : Nat → Int} (hq : 2 ≤ q) (h12 : q ≤ 12) (hg : Pol q g) : ∃ c : Nat → Int, ∀ x : Nat, Cg (q : Int) (g (x % q)) (sumN q (fun k => c k * PT.fl k (x : Int))) := by
  obtain ⟨c, _, hc⟩ := hg.rep hq h12
  refine ⟨c, fun x => (hc (x % q) (Nat.mod_lt _ (by omega))).trans (Cg.sum q fun k _ => (fl_cg ?_ k).mulL (c k))⟩
  exact Cg.nat (Nat.mod_mod _ _)
theorem Cg.prod {q r : Nat} {a b : Int} (e f : Nat) (hef : (e + f) % (q * r) = 1) (he : e % r = 0) (hf : f % q = 0) (h1 : Cg (q : Int) a b) (h2 : Cg (r : Int) a b) : Cg ((q * r : Nat) : Int) a b := by
  obtain ⟨x, hx⟩ := h1
  obtain ⟨y, hy⟩ := h2
  obtain ⟨s, hs⟩ := Nat.dvd_of_mod_eq_zero he
  obtain ⟨t, ht⟩ := Nat.dvd_of_mod_eq_zero hf
  have hk : e + f = q * r * ((e + f) / (q * r)) + 1 := by
    have := Nat.div_add_mod (e + f) (q * r)
    rw [hef] at this
    exact this.symm
  generalize (e + f) / (q * r) = k at hk
  have hk' : (e : Int) + f = (q : Int) * r * k + 1 := by
    have := congrArg (fun n : Nat => (n : Int)) hk
    simpa using this
  have hs' : (e : Int) = r * s := by rw [hs]; simp
  have ht' : (f : Int) = q * t := by rw [ht]; simp
  -- a - b = (e + f - q r k)(a - b) = e q x + f r y - q r k (a - b)
  refine ⟨s * x + t * y - k * (a - b), ?_⟩
  have e1 : (e : Int) * (a - b) = (q : Int) * r * (s * x) := by
    rw [hs', hx]
    have : b + (q : Int) * x - b = q * x := by omega
    rw [this]
    simp only [Int.mul_comm, Int.mul_left_comm, Int.mul_assoc]
  have e2 : (f : Int) * (a - b) = (q : Int) * r * (t * y) := by
    rw [ht', hy]
    have : b + (r : Int) * y - b = r * y := by omega
    rw [this]
    simp only [Int.mul_comm, Int.mul_left_comm, Int.mul_assoc]
  have e3 : (a - b) = (e : Int) * (a - b) + f * (a - b) - (q : Int) * r * (k * (a - b)) := by
    have : ((e : Int) + f) * (a - b) = ((q : Int) * r * k + 1) * (a - b) := by rw [hk']
    rw [Int.add_mul, Int.add_mul, Int.one_mul, Int.mul_assoc ((q : Int) * r) k] at this
    omega
  rw [e1, e2] at e3
  rw [Int.natCast_mul, Int.mul_sub, Int.mul_add]
  omega
/-- from two prime powers to their product -/
theorem Pol.join {q r : Nat} {g h F : Nat → Int} (hq : 2 ≤ q) (hr : 2 ≤ r) (hq12 : q ≤ 12) (hr12 : r ≤ 12) (hm : q * r ≤ 12) (e f : Nat) (hef : (e + f) % (q * r) = 1) (he : e % r = 0) (hf : f % q = 0) (hg : Pol q g) (hh : Pol r h)
    (h1 : ∀ x, x < q * r → Cg (q : Int) (F x) (g (x % q))) (h2 : ∀ x, x < q * r → Cg (r : Int) (F x) (h (x % r))) : Pol (q * r) F := by
  obtain ⟨c, hc⟩ := hg.all hq hq12
  obtain ⟨d, hd⟩ := hh.all hr hr12
  have hm2 : 2 ≤ q * r := by
    have : 2 * 1 ≤ q * r := Nat.mul_le_mul hq (by omega)
    omega
  have hp : Pol (q * r) (fun x => (e : Int) * sumN q (fun k => c k * PT.fl k (x : Int)) + (f : Int) * sumN r (fun k => d k * PT.fl k (x : Int))) := ((Pol.ofForm hm2 hm c q).smul e).add ((Pol.ofForm hm2 hm d r).smul f)
  have one : ∀ {n : Nat}, (q * r) % n = 0 → 2 ≤ n → (e + f) % n = 1 := fun {n} hn h2n => by
    have := Nat.mod_mod_of_dvd (e + f) (Nat.dvd_of_mod_eq_zero hn)
    rw [hef] at this
    rw [← this]
    exact Nat.mod_eq_of_lt (by omega)
  have eq1 : e % q = 1 := by
    have := one (n := q) (Nat.mul_mod_right q r) hq
    rw [Nat.add_mod, hf, Nat.add_zero, Nat.mod_mod] at this
    exact this
  have fr1 : f % r = 1 := by
    have := one (n := r) (Nat.mul_mod_left q r) hr
    rw [Nat.add_mod, he, Nat.zero_add, Nat.mod_mod] at this
    exact this
  refine hp.congr fun x hx => ?_
  refine Cg.prod e f hef he hf ?_ ?_
  · have a1 : Cg (q : Int) (e : Int) 1 := by
      have := Cg.nat (d := q) (a := e) (b := 1) (by rw [eq1, Nat.mod_eq_of_lt (by omega)])
      exact this
    have a2 : Cg (q : Int) (f : Int) 0 := by
      have := Cg.nat (d := q) (a := f) (b := 0) (by rw [hf, Nat.zero_mod])
      exact this
    have := (a1.mul (Cg.refl (q : Int) (sumN q (fun k => c k * PT.fl k (x : Int))))).add (a2.mul (Cg.refl (q : Int) (sumN r (fun k => d k * PT.fl k (x : Int)))))
    rw [Int.one_mul, Int.zero_mul, Int.add_zero] at this
    exact ((h1 x hx).trans (hc x)).trans this.symm
  · have a1 : Cg (r : Int) (e : Int) 0 := by
      have := Cg.nat (d := r) (a := e) (b := 0) (by rw [he, Nat.zero_mod])
      exact this
    have a2 : Cg (r : Int) (f : Int) 1 := by
      have := Cg.nat (d := r) (a := f) (b := 1) (by rw [fr1, Nat.mod_eq_of_lt (by omega)])
      exact this
    have := (a1.mul (Cg.refl (r : Int) (sumN q (fun k => c k * PT.fl k (x : Int))))).add (a2.mul (Cg.refl (r : Int) (sumN r (fun k => d k * PT.fl k (x : Int)))))
    rw [Int.one_mul, Int.zero_mul, Int.zero_add] at this
    exact ((h2 x hx).trans (hd x)).trans this.symm
end PT

namespace PT
/-! ## degrees -/
theorem dfn_x (f : Nat → Int) : ∀ (k i : Nat), dfn (k + 1) i (fun x => (x : Int) * f x) = ((i : Int) + (k + 1)) * dfn (k + 1) i f + ((k : Int) + 1) * dfn k i f
  | 0, i => by
    show ((i + 1 : Nat) : Int) * f (i + 1) - (i : Int) * f i = ((i : Int) + ((0 : Nat) + 1)) * (f (i + 1) - f i) + (((0 : Nat) : Int) + 1) * f i
    have e1 : ((i + 1 : Nat) : Int) = (i : Int) + 1 := by omega
    rw [e1]
    simp only [Int.add_mul, Int.mul_sub]
    simp
    omega
  | k + 1, i => by
    have h1 := dfn_x f k (i + 1)
    have h2 := dfn_x f k i
    show dfn (k + 1) (i + 1) (fun x => (x : Int) * f x) - dfn (k + 1) i (fun x => (x : Int) * f x) = ((i : Int) + (((k + 1 : Nat) : Int) + 1)) * (dfn (k + 1) (i + 1) f - dfn (k + 1) i f) + (((k + 1 : Nat) : Int) + 1) * (dfn k (i + 1) f - dfn k i f)
    rw [h1, h2]
    have e0 : dfn (k + 1) i f = dfn k (i + 1) f - dfn k i f := rfl
    generalize dfn (k + 1) (i + 1) f = A at *
    generalize dfn (k + 1) i f = B at *
    generalize dfn k (i + 1) f = C at *
    generalize dfn k i f = D at *
    have e1 : ((i + 1 : Nat) : Int) = (i : Int) + 1 := by omega
    have e2 : ((k + 1 : Nat) : Int) = (k : Int) + 1 := by omega
    rw [e1, e2, e0]
    generalize (i : Int) = I
    generalize (k : Int) = K
    simp only [Int.add_mul, Int.mul_sub, Int.one_mul, Int.mul_add]
    omega
theorem dfn_const (c : Int) : ∀ (k i : Nat), dfn (k + 1) i (fun _ => c) = 0
  | 0, i => by show c - c = 0; omega
  | k + 1, i => by show dfn (k + 1) (i + 1) (fun _ => c) - dfn (k + 1) i (fun _ => c) = 0; rw [dfn_const c k (i + 1), dfn_const c k i]; omega
theorem dfn_pv : ∀ (nums : List Int) (k i : Nat), nums.length ≤ k → dfn k i (fun x => pv (x : Int) nums) = 0
  | [], k, i, _ => dfn_zero k i
  | a :: l, 0, i, h => by simp at h
  | a :: l, k + 1, i, h => by
    have hl : l.length ≤ k := by simpa using h
    have h1 := dfn_pv l (k + 1) i (by omega)
    have h2 := dfn_pv l k i hl
    have e : dfn (k + 1) i (fun x => pv (x : Int) (a :: l)) = dfn (k + 1) i (fun _ => a) + dfn (k + 1) i (fun x => (x : Int) * pv (x : Int) l) := dfn_add (fun _ => a) (fun x => (x : Int) * pv (x : Int) l) (k + 1) i
    rw [e, dfn_const, dfn_x, h1, h2]
    simp
theorem addL_at (m f : Int) : ∀ (p r : List Int) (j : Nat), j < p.length → j < r.length → (addL m f p r).getD j 0 = (r.getD j 0 + f * p.getD j 0) % m
  | [], _, _, h, _ => by simp at h
  | _ :: _, [], _, _, h => by simp at h
  | a :: p, b :: r, 0, _, _ => rfl
  | a :: p, b :: r, j + 1, h1, h2 => by
    have ih := addL_at m f p r j (by simpa using h1) (by simpa using h2)
    show (addL m f p r).getD j 0 = (r.getD j 0 + f * p.getD j 0) % m
    exact ih
theorem cfs_zero {m : Int} (hm : 0 < m) (form : List Int) (K n : Nat) (hz : ∀ j, n ≤ j → form.getD j 0 = 0) : ∀ k, ∀ j, n ≤ j → (cfs m form K k).getD j 0 = 0
  | 0, j, _ => by
    unfold cfs
    rw [List.getD_eq_getElem?_getD]
    by_cases h : j < K
    · rw [List.getElem?_replicate_of_lt h]; rfl
    · rw [List.getElem?_eq_none (by rw [List.length_replicate]; omega)]; rfl
  | k + 1, j, hj => by
    have ih := cfs_zero hm form K n hz k j hj
    unfold cfs
    by_cases hjk : j < (prK k).length
    · by_cases hjl : j < (cfs m form K k).length
      · rw [addL_at m _ _ _ j hjk hjl, ih]
        rw [prK_len] at hjk
        rw [hz k (by omega)]
        simp
      · rw [List.getD_eq_getElem?_getD, List.getElem?_eq_none (by rw [addL_len]; omega)]
        rfl
    · rw [addL_get m _ _ _ j (by omega)]
      exact ih
theorem pv_take (x : Int) : ∀ (l : List Int) (n : Nat), (∀ j, n ≤ j → l.getD j 0 = 0) → pv x (l.take n) = pv x l
  | [], _, _ => by simp
  | a :: l, 0, h => by
    have ih := pv_take x l 0 fun j _ => by
      have := h (j + 1) (Nat.zero_le _)
      simpa using this
    have h0 : a = 0 := h 0 (Nat.le_refl 0)
    show (0 : Int) = a + x * pv x l
    have e : pv x l = 0 := by rw [← ih]; simp [pv]
    rw [e, h0]
    simp
  | a :: l, n + 1, h => by
    have ih := pv_take x l n fun j hj => by
      have := h (j + 1) (by omega)
      simpa using this
    show a + x * pv x (l.take n) = a + x * pv x l
    rw [ih]
theorem quoP_zero {m k : Nat} (h2 : 2 ≤ m) : quoP m k 0 = 0 := by
  unfold quoP
  have hp : 0 < m / dvn m k := Nat.div_pos (dvn_le k (by omega)) (dvn_pos k (by omega))
  obtain ⟨n, hn⟩ : ∃ n, m / dvn m k = n + 1 := ⟨m / dvn m k - 1, by omega⟩
  rw [hn, List.range_succ_eq_map, List.find?_cons]
  simp
end PT

namespace PT
/-! ## permutations: powers -/
theorem pig : ∀ (n : Nat) (f : Nat → Nat), (∀ i, i ≤ n → f i < n) → ∃ i j, i < j ∧ j ≤ n ∧ f i = f j
  | 0, f, h => absurd (h 0 (Nat.le_refl 0)) (by omega)
  | n + 1, f, h => by
    by_cases hc : ∃ i, i ≤ n ∧ f i = f (n + 1)
    · obtain ⟨i, hi, e⟩ := hc
      exact ⟨i, n + 1, by omega, Nat.le_refl _, e⟩
    · have hn : ∀ i, i ≤ n → f i ≠ f (n + 1) := fun i hi e => hc ⟨i, hi, e⟩
      obtain ⟨i, j, h1, h2, e⟩ := pig n (fun i => if f i < f (n + 1) then f i else f i - 1) (fun i hi => by
        have a := h i (by omega)
        have b := hn i hi
        have c := h (n + 1) (Nat.le_refl _)
        show (if f i < f (n + 1) then f i else f i - 1) < n
        split <;> omega)
      refine ⟨i, j, h1, by omega, ?_⟩
      have a := hn i (by omega)
      have b := hn j h2
      have e : (if f i < f (n + 1) then f i else f i - 1) = (if f j < f (n + 1) then f j else f j - 1) := e
      split at e <;> split at e <;> omega
/-- a table as a map -/
def tm (T : List Int) (x : Nat) : Nat := (T.getD x 0).toNat
def itr (t : Nat → Nat) : Nat → Nat → Nat
  | 0, x => x
  | k + 1, x => t (itr t k x)
theorem itr_add (t : Nat → Nat) (j : Nat) : ∀ (k x : Nat), itr t (k + j) x = itr t k (itr t j x)
  | 0, x => by rw [Nat.zero_add]; rfl
  | k + 1, x => by
    rw [Nat.add_right_comm]
    show t (itr t (k + j) x) = t (itr t k (itr t j x))
    rw [itr_add t j k x]
theorem itr_lt {t : Nat → Nat} {m : Nat} (hr : ∀ x, x < m → t x < m) : ∀ (k x : Nat), x < m → itr t k x < m
  | 0, _, h => h
  | k + 1, x, h => hr _ (itr_lt hr k x h)
theorem itr_inj {t : Nat → Nat} {m : Nat} (hr : ∀ x, x < m → t x < m) (hi : ∀ x y, x < m → y < m → t x = t y → x = y) : ∀ (k x y : Nat), x < m → y < m → itr t k x = itr t k y → x = y
  | 0, _, _, _, _, e => e
  | k + 1, x, y, hx, hy, e => itr_inj hr hi k x y hx hy (hi _ _ (itr_lt hr k x hx) (itr_lt hr k y hy) e)
theorem itr_mul {t : Nat → Nat} {d x : Nat} (h : itr t d x = x) : ∀ q, itr t (q * d) x = x
  | 0 => by rw [Nat.zero_mul]; rfl
  | q + 1 => by rw [Nat.succ_mul, itr_add, h, itr_mul h q]
theorem div27 : ∀ d : Nat, d < 13 → 1 ≤ d → 27720 / d * d = 27720 := by decide +kernel
theorem itr_all {t : Nat → Nat} {m : Nat} (h12 : m ≤ 12) (hr : ∀ x, x < m → t x < m) (hi : ∀ x y, x < m → y < m → t x = t y → x = y) : ∀ x, x < m → itr t 27720 x = x := fun x hx => by
  obtain ⟨i, j, h1, h2, e⟩ := pig m (fun k => itr t k x) (fun k _ => itr_lt hr k x hx)
  have e : itr t i x = itr t j x := e
  have e2 : itr t (j - i) x = x := by
    refine (itr_inj hr hi i _ _ hx (itr_lt hr (j - i) x hx) ?_).symm
    rw [← itr_add, show i + (j - i) = j by omega]
    exact e
  have := itr_mul e2 (27720 / (j - i))
  rw [div27 (j - i) (by omega) (by omega)] at this
  exact this
/-- the powers of a table -/
def pwT (m : Nat) (T : List Int) (k : Nat) : List Int := (List.range m).map fun x => ((itr (tm T) k x : Nat) : Int)
theorem pwT_get {m : Nat} {T : List Int} {k x : Nat} (h : x < m) : (pwT m T k).getD x 0 = ((itr (tm T) k x : Nat) : Int) := by
  unfold pwT
  rw [List.getD_eq_getElem?_getD, List.getElem?_map, List.getElem?_range h]
  rfl
theorem pwT_len (m : Nat) (T : List Int) (k : Nat) : (pwT m T k).length = m := by unfold pwT; rw [List.length_map, List.length_range]
theorem least_of {P : Nat → Prop} [DecidablePred P] : ∀ (n : Nat), P n → 1 ≤ n → ∃ k, 1 ≤ k ∧ k ≤ n ∧ P k ∧ ∀ j, 1 ≤ j → j < k → ¬ P j := by
  intro n
  induction n using Nat.strongRecOn with
  | _ n ih =>
    intro h h1
    by_cases hc : ∃ j, 1 ≤ j ∧ j < n ∧ P j
    · obtain ⟨j, a, b, c⟩ := hc
      obtain ⟨k, k1, k2, k3, k4⟩ := ih j b c a
      exact ⟨k, k1, by omega, k3, k4⟩
    · exact ⟨n, h1, Nat.le_refl _, h, fun j a b c => hc ⟨j, a, b, c⟩⟩
/-- the order -/
theorem order_ex {m : Nat} {T : List Int} (h12 : m ≤ 12) (hr : ∀ x, x < m → tm T x < m) (hi : ∀ x y, x < m → y < m → tm T x = tm T y → x = y) : ∃ k, 1 ≤ k ∧ k ≤ 27720 ∧ pwT m T k = pwT m T 0 ∧ ∀ j, 1 ≤ j → j < k → pwT m T j ≠ pwT m T 0 := by
  refine least_of (P := fun k => pwT m T k = pwT m T 0) 27720 ?_ (by omega)
  unfold pwT
  refine List.map_congr_left fun x hx => ?_
  rw [itr_all h12 hr hi x (List.mem_range.mp hx)]
  rfl
theorem nodup_inj {T : List Int} {m : Nat} (hl : T.length = m) (hb : ∀ x ∈ T, 0 ≤ x ∧ x < (m : Int)) (hn : T.Nodup) : ∀ x y, x < m → y < m → tm T x = tm T y → x = y := fun x y hx hy e => by
  unfold tm at e
  have g : ∀ z, z < m → ∃ h : z < T.length, T.getD z 0 = T[z] ∧ 0 ≤ T[z] := fun z hz => ⟨by omega, by rw [List.getD_eq_getElem?_getD, List.getElem?_eq_getElem (by omega)]; rfl, (hb _ (List.getElem_mem _)).1⟩
  obtain ⟨h1, e1, p1⟩ := g x hx
  obtain ⟨h2, e2, p2⟩ := g y hy
  rw [e1, e2] at e
  have e3 : T[x] = T[y] := by omega
  exact (List.getElem_inj hn).mp e3
theorem tm_lt {T : List Int} {m : Nat} (hl : T.length = m) (hb : ∀ x ∈ T, 0 ≤ x ∧ x < (m : Int)) : ∀ x, x < m → tm T x < m := fun x hx => by
  unfold tm
  rw [List.getD_eq_getElem?_getD, List.getElem?_eq_getElem (by omega)]
  have := hb _ (List.getElem_mem (show x < T.length by omega))
  show (T[x]).toNat < m
  omega
theorem Pol.pwT {m : Nat} {T : List Int} (h2 : 2 ≤ m) (h12 : m ≤ 12) (hr : ∀ x, x < m → tm T x < m) (hp : Pol m (fun x => ((tm T x : Nat) : Int))) : ∀ k, Pol m (fun x => ((itr (tm T) k x : Nat) : Int))
  | 0 => Pol.idn h2 h12
  | k + 1 => by
    have := Pol.comp h2 h12 hp (Pol.pwT h2 h12 hr hp k) fun x hx => by
      have := itr_lt hr k x hx
      omega
    refine this.congr fun x hx => ?_
    rw [Int.toNat_natCast]
    exact Cg.refl _ _
theorem idx_nodup : ∀ {T : List Int} (hn : T.Nodup) (i : Nat) (h : i < T.length), T.idxOf T[i] = i := fun {T} hn i h => by
  have hm : T[i] ∈ T := List.getElem_mem h
  have h2 := List.idxOf_lt_length_of_mem hm
  have h3 : T[T.idxOf T[i]]'h2 = T[i] := List.getElem_idxOf h2
  exact (List.getElem_inj hn).mp h3
end PT

namespace PT
/-! ## slopes -/
def dv (x : Int) : List Int → Int
  | [] => 0
  | a :: l => PT.pv x l + x * dv x l
def slp (c : Int) : List Int → List Int
  | [] => []
  | a :: l => c * a :: slp (c + 1) l
theorem pv_slp (x : Int) : ∀ (c : Int) (l : List Int), PT.pv x (slp c l) = c * PT.pv x l + x * dv x l
  | c, [] => by simp [slp, dv, PT.pv]
  | c, a :: l => by
    show c * a + x * PT.pv x (slp (c + 1) l) = c * (a + x * PT.pv x l) + x * (PT.pv x l + x * dv x l)
    rw [pv_slp x (c + 1) l]
    generalize PT.pv x l = p
    generalize dv x l = q
    grind
theorem pv_shift (x h : Int) : ∀ l : List Int, ∃ R : Int, PT.pv (x + h) l = PT.pv x l + h * dv x l + h * h * R
  | [] => ⟨0, by simp [PT.pv, dv]⟩
  | a :: l => by
    obtain ⟨R, e⟩ := pv_shift x h l
    refine ⟨dv x l + (x + h) * R, ?_⟩
    show a + (x + h) * PT.pv (x + h) l = a + x * PT.pv x l + h * (PT.pv x l + x * dv x l) + h * h * (dv x l + (x + h) * R)
    rw [e]
    generalize PT.pv x l = p
    generalize dv x l = q
    grind
theorem dv_shift (x h : Int) : ∀ l : List Int, ∃ R : Int, dv (x + h) l = dv x l + h * R
  | [] => ⟨0, by simp [dv]⟩
  | a :: l => by
    obtain ⟨R, e⟩ := pv_shift x h l
    obtain ⟨S, e2⟩ := dv_shift x h l
    refine ⟨dv x l + h * R + dv x l + (x + h) * S, ?_⟩
    show PT.pv (x + h) l + (x + h) * dv (x + h) l = PT.pv x l + x * dv x l + h * (dv x l + h * R + dv x l + (x + h) * S)
    rw [e, e2]
    generalize PT.pv x l = p
    generalize dv x l = q
    grind
theorem pv_mod (p x : Nat) (l : List Int) : PT.pv (x : Int) l % p = PT.pv ((x % p : Nat) : Int) l % p := by
  obtain ⟨R, e⟩ := pv_shift ((x % p : Nat) : Int) ((p : Int) * ((x / p : Nat) : Int)) l
  have hx : (x : Int) = ((x % p : Nat) : Int) + (p : Int) * ((x / p : Nat) : Int) := by
    have := Nat.mod_add_div x p
    rw [← Int.natCast_mul, ← Int.natCast_add, this]
  rw [hx, e]
  generalize PT.pv ((x % p : Nat) : Int) l = a
  generalize dv ((x % p : Nat) : Int) l = b
  generalize ((x / p : Nat) : Int) = c
  have : a + (p : Int) * c * b + (p : Int) * c * ((p : Int) * c) * R = a + (p : Int) * (c * b + c * ((p : Int) * c) * R) := by grind
  rw [this, Int.add_mul_emod_self_left]
theorem dv_mod (p x : Nat) (l : List Int) : dv (x : Int) l % p = dv ((x % p : Nat) : Int) l % p := by
  obtain ⟨R, e⟩ := dv_shift ((x % p : Nat) : Int) ((p : Int) * ((x / p : Nat) : Int)) l
  have hx : (x : Int) = ((x % p : Nat) : Int) + (p : Int) * ((x / p : Nat) : Int) := by
    have := Nat.mod_add_div x p
    rw [← Int.natCast_mul, ← Int.natCast_add, this]
  rw [hx, e, Int.mul_assoc, Int.add_mul_emod_self_left]
/-- what is asked of remainders and slopes -/
def SlopeOk (p : Nat) (l : List Int) : Prop := (∀ x y : Nat, x < y → y < p → PT.pv (x : Int) l % p ≠ PT.pv (y : Int) l % p) ∧ ∀ x : Nat, x < p → dv (x : Int) l % p ≠ 0
def InjOn (m : Nat) (l : List Int) : Prop := ∀ x y : Nat, x < y → y < m → PT.pv (x : Int) l % m ≠ PT.pv (y : Int) l % m
theorem sh_at (l : List Int) (x h : Nat) : ∃ R : Int, PT.pv ((x + h : Nat) : Int) l = PT.pv (x : Int) l + h * dv (x : Int) l + h * h * R := by
  obtain ⟨R, e⟩ := pv_shift (x : Int) (h : Int) l
  exact ⟨R, by rw [Int.natCast_add]; exact e⟩
theorem SlopeOk.far {p : Nat} (hp : 0 < p) {l : List Int} (h : SlopeOk p l) {x y : Nat} (hxy : x % p ≠ y % p) : PT.pv (x : Int) l % p ≠ PT.pv (y : Int) l % p := by
  rw [pv_mod p x, pv_mod p y]
  rcases Nat.lt_or_gt_of_ne hxy with z | z
  · exact h.1 _ _ z (Nat.mod_lt _ hp)
  · exact (h.1 _ _ z (Nat.mod_lt _ hp)).symm
theorem SlopeOk.dvn {p : Nat} (hp : 0 < p) {l : List Int} (h : SlopeOk p l) (x : Nat) : dv (x : Int) l % p ≠ 0 := by
  rw [dv_mod p x]
  exact h.2 _ (Nat.mod_lt _ hp)
theorem perm8 (l : List Int) : InjOn 8 l ↔ SlopeOk 2 l := by
  constructor
  · intro h
    obtain ⟨R1, e1⟩ := sh_at l 0 4
    obtain ⟨R2, e2⟩ := sh_at l 1 4
    obtain ⟨R3, e3⟩ := sh_at l 0 2
    obtain ⟨R4, e4⟩ := sh_at l 2 4
    have a04 := h 0 4 (by omega) (by omega)
    have a15 := h 1 5 (by omega) (by omega)
    have g2 := dv_mod 2 2 l
    have a01 := h 0 1 (by omega) (by omega)
    have a12 := h 1 2 (by omega) (by omega)
    have a14 := h 1 4 (by omega) (by omega)
    have a16 := h 1 6 (by omega) (by omega)
    simp only [Nat.reduceAdd, Nat.reduceMod] at e1 e2 e3 e4 g2
    have q0 : dv ((0 : Nat) : Int) l % 2 ≠ 0 := by omega
    have q1 : dv ((1 : Nat) : Int) l % 2 ≠ 0 := by omega
    have q01 : PT.pv ((0 : Nat) : Int) l % 2 ≠ PT.pv ((1 : Nat) : Int) l % 2 := by
      clear e2 a15 a04 q1
      omega
    refine ⟨fun x y hx hy => ?_, fun x hx => ?_⟩
    · have : x = 0 ∧ y = 1 := by omega
      obtain ⟨rfl, rfl⟩ := this
      exact q01
    · have : x = 0 ∨ x = 1 := by omega
      rcases this with rfl | rfl
      · exact q0
      · exact q1
  · intro h x y hxy hy
    by_cases hp : x % 2 = y % 2
    · obtain ⟨R, e⟩ := sh_at l x (y - x)
      rw [show x + (y - x) = y by omega] at e
      have hd := h.dvn (by omega) x
      have : y - x = 2 ∨ y - x = 4 ∨ y - x = 6 := by omega
      rcases this with z | z | z <;> rw [z] at e <;> omega
    · have := h.far (by omega) hp
      omega
theorem perm4 (l : List Int) : InjOn 4 l ↔ SlopeOk 2 l := by
  constructor
  · intro h
    obtain ⟨R1, e1⟩ := sh_at l 0 2
    obtain ⟨R2, e2⟩ := sh_at l 1 2
    have a02 := h 0 2 (by omega) (by omega)
    have a13 := h 1 3 (by omega) (by omega)
    have a01 := h 0 1 (by omega) (by omega)
    have a12 := h 1 2 (by omega) (by omega)
    simp only [Nat.reduceAdd] at e1 e2
    have q0 : dv ((0 : Nat) : Int) l % 2 ≠ 0 := by omega
    have q1 : dv ((1 : Nat) : Int) l % 2 ≠ 0 := by omega
    have q01 : PT.pv ((0 : Nat) : Int) l % 2 ≠ PT.pv ((1 : Nat) : Int) l % 2 := by
      clear e2 a13 q1
      omega
    refine ⟨fun x y hx hy => ?_, fun x hx => ?_⟩
    · have : x = 0 ∧ y = 1 := by omega
      obtain ⟨rfl, rfl⟩ := this
      exact q01
    · have : x = 0 ∨ x = 1 := by omega
      rcases this with rfl | rfl
      · exact q0
      · exact q1
  · intro h x y hxy hy
    by_cases hp : x % 2 = y % 2
    · obtain ⟨R, e⟩ := sh_at l x (y - x)
      rw [show x + (y - x) = y by omega] at e
      have hd := h.dvn (by omega) x
      have z : y - x = 2 := by omega
      rw [z] at e
      omega
    · have := h.far (by omega) hp
      omega
theorem perm9 (l : List Int) : InjOn 9 l ↔ SlopeOk 3 l := by
  constructor
  · intro h
    have hd : ∀ x : Nat, x < 3 → dv (x : Int) l % 3 ≠ 0 := fun x hx => by
      obtain ⟨R, e⟩ := sh_at l x 3
      have := h x (x + 3) (by omega) (by omega)
      omega
    have hf : ∀ x y : Nat, x < y → y < 3 → PT.pv (x : Int) l % 3 ≠ PT.pv (y : Int) l % 3 := fun x y hx hy => by
      obtain ⟨R, e⟩ := sh_at l x 3
      obtain ⟨S, e2⟩ := sh_at l x 6
      have a0 := h x y hx (by omega)
      have a1 := h y (x + 3) (by omega) (by omega)
      have a2 := h y (x + 6) (by omega) (by omega)
      have q := hd x (by omega)
      intro he
      obtain ⟨t, ht⟩ : ∃ t : Int, PT.pv (y : Int) l = PT.pv (x : Int) l + 3 * t := ⟨(PT.pv (y : Int) l - PT.pv (x : Int) l) / 3, by omega⟩
      have c1 : t % 3 = 0 ∨ t % 3 = 1 ∨ t % 3 = 2 := by omega
      have c2 : dv (x : Int) l % 3 = 1 ∨ dv (x : Int) l % 3 = 2 := by omega
      rcases c1 with c1 | c1 | c1
      · exact a0 (by omega)
      · rcases c2 with c2 | c2
        · exact a1 (by omega)
        · exact a2 (by omega)
      · rcases c2 with c2 | c2
        · exact a2 (by omega)
        · exact a1 (by omega)
    exact ⟨hf, hd⟩
  · intro h x y hxy hy
    by_cases hp : x % 3 = y % 3
    · obtain ⟨R, e⟩ := sh_at l x (y - x)
      rw [show x + (y - x) = y by omega] at e
      have hd := h.dvn (by omega) x
      have : y - x = 3 ∨ y - x = 6 := by omega
      rcases this with z | z <;> rw [z] at e <;> omega
    · have := h.far (by omega) hp
      omega
end PT

namespace PT
open PySem PySem.Spec PyProof.Rows L2
def top (i : Nat) : Stmt := PySem.Challenge.pw_polytables_k14_text.main.body.getD i (.Pass ⟨0, 0, 0, 0⟩)
def EM : EMT := ([("TableError", "ParseError", false), ("TableError", "TableError", true), ("TableError", "InvalidTable", false), ("ParseError", "ParseError", true), ("ParseError", "TableError", true), ("ParseError", "InvalidTable", false), ("InvalidModulus", "ParseError", false), ("InvalidModulus", "TableError", true), ("InvalidModulus", "InvalidTable", false), ("InvalidTable", "ParseError", false), ("InvalidTable", "TableError", true), ("InvalidTable", "InvalidTable", true)] : EMT)
/-! ### ParseError.__init__ -/
abbrev st_pe_ParseError : Stmt := mth (top 2) 0
theorem sc_pe_ParseError : FnScope ["self", "line"] ["self", "line"] (defScope st_pe_ParseError) := ⟨rfl, rfl, rfl, by decide +kernel, rfl, by decide +kernel, by decide +kernel⟩
theorem pe_ParseError {G : Gc} {fd : FuncData} (F : PeF G.K G.mg "ParseError" "TableError") (Fu : FunD G.K "__init__" "ParseError.__init__" (defArgs st_pe_ParseError) (defBody st_pe_ParseError) (defScope st_pe_ParseError) [] [] (He.ma G.K (He.ga G.K "ParseError") "__init__") fd) : PeC G "ParseError" :=
  F.peC (FunD.bindsN (ps := ["self", "line"]) Fu fun _ _ _ _ _ _ us hl => match us, hl with | [_, _], _ => rfl) (pe_initOk Fu sc_pe_ParseError F.mb F.rd F.vV)
/-! ### in_range -/
abbrev st_in_range : Stmt := top 7
abbrev N_in_range : List Str := ["value", "low", "high"]
def g_in_range : SF := sRet (eAnd (eIsi "int" (eVar 0)) (eAnd (eNot (eIsi "bool" (eVar 0))) (eChain (eVar 1) (eVar 0) (eVar 2))))
def F_in_range : List Dt → Option Rs := runB 3 g_in_range
theorem sc_in_range : FnScope N_in_range ["value", "low", "high"] (defScope st_in_range) := ⟨rfl, rfl, rfl, by decide +kernel, rfl, by decide +kernel, by decide +kernel⟩
theorem b_in_range {G : Gc} (B : Bi G) : SB G N_in_range (defScope st_in_range) (fun _ => true) 0 (defBody st_in_range) g_in_range := by
  unfold g_in_range
  exact sb_one (ss_ret (se_and (se_isi B kit_int (se_var 0) B.int PyProof.Rows.boot_int) (se_and (se_not (se_isi B kit_bool (se_var 0) B.bool PyProof.Rows.boot_bool)) (se_one (se_chain (se_var 1) (se_var 0) (se_var 2))))))
theorem fn_in_range {G : Gc} {f : Addr} {fd : FuncData} (B : Bi G) (hm : G.mg "in_range" = some (.ref f)) (Fu : FunD G.K "in_range" "in_range" (defArgs st_in_range) (defBody st_in_range) (defScope st_in_range) [] [] f fd) : FnIs G "in_range" 1 3 F_in_range :=
  fn_is hm Fu sc_in_range (FunD.bindsN (ps := ["value", "low", "high"]) Fu fun _ _ _ _ _ _ us hl => match us, hl with | [_, _, _], _ => rfl) (b_in_range B  ) (fun _ _ _ h => h)
/-! ### check_modulus -/
abbrev st_check_modulus : Stmt := top 8
abbrev N_check_modulus : List Str := ["modulus"]
def g_check_modulus : SF := sIf (eNot (eFn 3 F_in_range (aCons (eVar 0) (aCons (eC (.int 2)) (aCons (eC (.int 12)) (aNil)))))) (sRaise "InvalidModulus") (sNop)
def F_check_modulus : List Dt → Option Rs := runB 1 g_check_modulus
theorem sc_check_modulus : FnScope N_check_modulus ["modulus"] (defScope st_check_modulus) := ⟨rfl, rfl, rfl, by decide +kernel, rfl, by decide +kernel, by decide +kernel⟩
theorem b_check_modulus {G : Gc} (B : Bi G) (h_in_range : FnIs G "in_range" 1 3 F_in_range) (h_MAX_MODULUS : ∃ t, G.mg "MAX_MODULUS" = some (.int 12 t)) (h_InvalidModulus : ExcC G "InvalidModulus") : SB G N_check_modulus (defScope st_check_modulus) (fun _ => true) 1 (defBody st_check_modulus) g_check_modulus := by
  unfold g_check_modulus
  exact sb_one (ss_if (st_not (st_val (se_fn h_in_range (sa_cons (se_var 0) (sa_cons (se_int) (sa_cons (se_gint h_MAX_MODULUS) (sa_nil))))))) (sb_one (ss_raise h_InvalidModulus)) (sb_nil))
theorem fn_check_modulus {G : Gc} {f : Addr} {fd : FuncData} (B : Bi G) (h_in_range : FnIs G "in_range" 1 3 F_in_range) (h_MAX_MODULUS : ∃ t, G.mg "MAX_MODULUS" = some (.int 12 t)) (h_InvalidModulus : ExcC G "InvalidModulus") (hm : G.mg "check_modulus" = some (.ref f)) (Fu : FunD G.K "check_modulus" "check_modulus" (defArgs st_check_modulus) (defBody st_check_modulus) (defScope st_check_modulus) [] [] f fd) : FnIs G "check_modulus" 2 1 F_check_modulus :=
  fn_is hm Fu sc_check_modulus (FunD.bindsN (ps := ["modulus"]) Fu fun _ _ _ _ _ _ us hl => match us, hl with | [_], _ => rfl) (b_check_modulus B h_in_range h_MAX_MODULUS h_InvalidModulus ) (fun _ _ _ h => h)
/-! ### is_valid_table -/
abbrev st_is_valid_table : Stmt := top 9
abbrev N_is_valid_table : List Str := ["modulus", "value", "one"]
def t1_is_valid_table : SF := sRet (eNot (eLc [2] (gNm 2) (iSeq (eVar 1)) (eNot (eFn 3 F_in_range (aCons (eVar 2) (aCons (eC (.int 0)) (aCons (eBin dSub (eVar 0) (eC (.int 1))) (aNil)))))) (eVar 2)))
def g_is_valid_table : SF := sSeq (sIf (eOrT (eNot (eIsi "tuple" (eVar 1))) (eBin dNe (eUn dLen (eVar 1)) (eVar 0))) (sRet (eC (.bool false))) (sNop)) t1_is_valid_table
def F_is_valid_table : List Dt → Option Rs := runB 3 g_is_valid_table
theorem sc_is_valid_table : FnScope N_is_valid_table ["modulus", "value"] (defScope st_is_valid_table) := ⟨rfl, rfl, rfl, by decide +kernel, rfl, by decide +kernel, by decide +kernel⟩
theorem b_is_valid_table {G : Gc} (B : Bi G) (h_in_range : FnIs G "in_range" 1 3 F_in_range) : SB G N_is_valid_table (defScope st_is_valid_table) (fun _ => true) 1 (defBody st_is_valid_table) g_is_valid_table := by
  unfold g_is_valid_table
  exact sb_cons (ss_if (st_w (sw_or (st_not (st_val (se_isi B kit_tuple (se_var 1) B.tuple PyProof.Rows.boot_tuple))) (sw_or1 (st_ne (se_len B (se_var 1)) (se_var 0))))) (sb_one (ss_ret (se_bl))) (sb_nil))
    (sb_one (ss_ret (se_not (se_lc (own := [("one", 2)]) (si_seq (se_var 1)) (by decide +kernel) (sg_nm 2) (sts_one (st_not (st_val (se_fn h_in_range (sa_cons (se_var 2) (sa_cons (se_int) (sa_cons (se_sub (se_var 0) (se_int)) (sa_nil)))))))) (se_var 2)))))
theorem fn_is_valid_table {G : Gc} {f : Addr} {fd : FuncData} (B : Bi G) (h_in_range : FnIs G "in_range" 1 3 F_in_range) (hm : G.mg "is_valid_table" = some (.ref f)) (Fu : FunD G.K "is_valid_table" "is_valid_table" (defArgs st_is_valid_table) (defBody st_is_valid_table) (defScope st_is_valid_table) [] [] f fd) : FnIs G "is_valid_table" 2 2 F_is_valid_table :=
  fn_is hm Fu sc_is_valid_table (FunD.bindsN (ps := ["modulus", "value"]) Fu fun _ _ _ _ _ _ us hl => match us, hl with | [_, _], _ => rfl) (b_is_valid_table B h_in_range ) (fun _ _ _ h => h)
/-! ### check_table -/
abbrev st_check_table : Stmt := top 10
abbrev N_check_table : List Str := ["modulus", "table"]
def t1_check_table : SF := sIf (eNot (eFn 2 F_is_valid_table (aCons (eVar 0) (aCons (eVar 1) (aNil))))) (sRaise "InvalidTable") (sNop)
def g_check_table : SF := sSeq (sDo (eFn 1 F_check_modulus (aCons (eVar 0) (aNil)))) t1_check_table
def F_check_table : List Dt → Option Rs := runB 2 g_check_table
theorem sc_check_table : FnScope N_check_table ["modulus", "table"] (defScope st_check_table) := ⟨rfl, rfl, rfl, by decide +kernel, rfl, by decide +kernel, by decide +kernel⟩
theorem b_check_table {G : Gc} (B : Bi G) (h_check_modulus : FnIs G "check_modulus" 2 1 F_check_modulus) (h_is_valid_table : FnIs G "is_valid_table" 2 2 F_is_valid_table) (h_InvalidTable : ExcC G "InvalidTable") : SB G N_check_table (defScope st_check_table) (fun _ => true) 2 (defBody st_check_table) g_check_table := by
  unfold g_check_table
  exact sb_cons (ss_do (se_fn h_check_modulus (sa_cons (se_var 0) (sa_nil))))
    (sb_one (ss_if (st_not (st_val (se_fn h_is_valid_table (sa_cons (se_var 0) (sa_cons (se_var 1) (sa_nil)))))) (sb_one (ss_raise h_InvalidTable)) (sb_nil)))
theorem fn_check_table {G : Gc} {f : Addr} {fd : FuncData} (B : Bi G) (h_check_modulus : FnIs G "check_modulus" 2 1 F_check_modulus) (h_is_valid_table : FnIs G "is_valid_table" 2 2 F_is_valid_table) (h_InvalidTable : ExcC G "InvalidTable") (hm : G.mg "check_table" = some (.ref f)) (Fu : FunD G.K "check_table" "check_table" (defArgs st_check_table) (defBody st_check_table) (defScope st_check_table) [] [] f fd) : FnIs G "check_table" 3 2 F_check_table :=
  fn_is hm Fu sc_check_table (FunD.bindsN (ps := ["modulus", "table"]) Fu fun _ _ _ _ _ _ us hl => match us, hl with | [_, _], _ => rfl) (b_check_table B h_check_modulus h_is_valid_table h_InvalidTable ) (fun _ _ _ h => h)
/-! ### format_table -/
abbrev st_format_table : Stmt := top 13
abbrev N_format_table : List Str := ["modulus", "table", "value"]
def t1_format_table : SF := sRet (eBin dAdd (eMeth isStr dJoin (eC (.str ",")) (eLc [2] (gNm 2) (iSeq (eVar 1)) (eC (.bool true)) (eUn dStr (eVar 2)))) (eFs " mod " (eVar 0)))
def g_format_table : SF := sSeq (sDo (eFn 2 F_check_table (aCons (eVar 0) (aCons (eVar 1) (aNil))))) t1_format_table
def F_format_table : List Dt → Option Rs := runB 3 g_format_table
theorem sc_format_table : FnScope N_format_table ["modulus", "table"] (defScope st_format_table) := ⟨rfl, rfl, rfl, by decide +kernel, rfl, by decide +kernel, by decide +kernel⟩
theorem b_format_table {G : Gc} (B : Bi G) (h_check_table : FnIs G "check_table" 3 2 F_check_table) : SB G N_format_table (defScope st_format_table) (fun _ => true) 3 (defBody st_format_table) g_format_table := by
  unfold g_format_table
  exact sb_cons (ss_do (se_fn h_check_table (sa_cons (se_var 0) (sa_cons (se_var 1) (sa_nil)))))
    (sb_one (ss_ret (se_add (se_join (se_str) (se_lc (own := [("value", 2)]) (si_seq (se_var 1)) (by decide +kernel) (sg_nm 2) (sts_nil) (se_strC B (se_var 2)))) (se_fs (se_var 0)))))
theorem fn_format_table {G : Gc} {f : Addr} {fd : FuncData} (B : Bi G) (h_check_table : FnIs G "check_table" 3 2 F_check_table) (hm : G.mg "format_table" = some (.ref f)) (Fu : FunD G.K "format_table" "format_table" (defArgs st_format_table) (defBody st_format_table) (defScope st_format_table) [] [] f fd) : FnIs G "format_table" 4 2 F_format_table :=
  fn_is hm Fu sc_format_table (FunD.bindsN (ps := ["modulus", "table"]) Fu fun _ _ _ _ _ _ us hl => match us, hl with | [_, _], _ => rfl) (b_format_table B h_check_table ) (fun _ _ _ h => h)
/-! ### parse_number -/
abbrev st_parse_number : Stmt := top 14
abbrev N_parse_number : List Str := ["token", "sign"]
def t1_parse_number : SF := sRet (eIf (eBin dEq (eUn dStr (eUn dIntS (eVar 0))) (eVar 0)) (eUn dIntS (eVar 0)) (eC .none))
def g_parse_number : SF := sSeq (sIf (eOrT (eNot (eChain (eC (.int 1)) (eUn dLen (eVar 0)) (eC (.int 2)))) (eLc [1] (gNm 1) (iStrF (eVar 0)) (eBin dNotIn (eVar 1) (eC (.str "0123456789"))) (eVar 1))) (sRet (eC .none)) (sNop)) t1_parse_number
def F_parse_number : List Dt → Option Rs := runB 2 g_parse_number
theorem sc_parse_number : FnScope N_parse_number ["token"] (defScope st_parse_number) := ⟨rfl, rfl, rfl, by decide +kernel, rfl, by decide +kernel, by decide +kernel⟩
theorem b_parse_number {G : Gc} (B : Bi G) (h_DIGITS : ∃ t, G.mg "DIGITS" = some (.str "0123456789" t)) : SB G N_parse_number (defScope st_parse_number) (fun _ => true) 0 (defBody st_parse_number) g_parse_number := by
  unfold g_parse_number
  exact sb_cons (ss_if (st_w (sw_or (st_not (st_chain (se_int) (se_len B (se_var 0)) (se_int))) (sw_or1 (st_val (se_lc (own := [("sign", 1)]) (si_str (se_var 0)) (by decide +kernel) (sg_nm 1) (sts_one (st_notIn (se_var 1) (se_gstr h_DIGITS))) (se_var 1)))))) (sb_one (ss_ret (se_non))) (sb_nil))
    (sb_one (ss_ret (se_if (st_eq (se_strC B (se_intS B (se_var 0))) (se_var 0)) (se_intS B (se_var 0)) (se_non))))
theorem fn_parse_number {G : Gc} {f : Addr} {fd : FuncData} (B : Bi G) (h_DIGITS : ∃ t, G.mg "DIGITS" = some (.str "0123456789" t)) (hm : G.mg "parse_number" = some (.ref f)) (Fu : FunD G.K "parse_number" "parse_number" (defArgs st_parse_number) (defBody st_parse_number) (defScope st_parse_number) [] [] f fd) : FnIs G "parse_number" 1 1 F_parse_number :=
  fn_is hm Fu sc_parse_number (FunD.bindsN (ps := ["token"]) Fu fun _ _ _ _ _ _ us hl => match us, hl with | [_], _ => rfl) (b_parse_number B h_DIGITS ) (fun _ _ _ h => h)
/-! ### parse_table -/
abbrev st_parse_table : Stmt := top 15
abbrev N_parse_table : List Str := ["text", "parts", "modulus", "values", "token"]
def t7_parse_table : SF := sRet (eTup (aCons (eVar 2) (aCons (eUn dTuple (eVar 3)) (aNil))))
def t6_parse_table : SF := sSeq (sIf (eNot (eFn 2 F_is_valid_table (aCons (eVar 2) (aCons (eUn dTuple (eVar 3)) (aNil))))) (sRaiseP "ParseError" (eC .none)) (sNop)) t7_parse_table
def t5_parse_table : SF := sSeq (sIf (eBin dIn (eC .none) (eVar 3)) (sRaiseP "ParseError" (eBin dAdd (eC (.int 1)) (eMeth isL dLix (eVar 3) (eC .none)))) (sNop)) t6_parse_table
def t4_parse_table : SF := sSeq (sSet 3 (eLc [4] (gNm 4) (iSeq (eMeth isStr dSplit (eBin dIx (eVar 1) (eC (.int 0))) (eC (.str ",")))) (eC (.bool true)) (eFn 1 F_parse_number (aCons (eVar 4) (aNil))))) t5_parse_table
def t3_parse_table : SF := sSeq (sSet 2 (eFn 1 F_parse_number (aCons (eBin dIx (eVar 1) (eC (.int 1))) (aNil)))) t4_parse_table
def t2_parse_table : SF := sSeq (sIf (eOrT (eBin dNe (eUn dLen (eVar 1)) (eC (.int 2))) (eNot (eFn 3 F_in_range (aCons (eFn 1 F_parse_number (aCons (eBin dIx (eVar 1) (eC (.int 1))) (aNil))) (aCons (eC (.int 2)) (aCons (eC (.int 12)) (aNil))))))) (sRaiseP "ParseError" (eC (.int 0))) (sNop)) t3_parse_table
def t1_parse_table : SF := sSeq (sSet 1 (eMeth isStr dSplit (eVar 0) (eC (.str " mod ")))) t2_parse_table
def g_parse_table : SF := sSeq (sIf (eNot (eIsi "str" (eVar 0))) (sRaiseP "ParseError" (eC .none)) (sNop)) t1_parse_table
def F_parse_table : List Dt → Option Rs := runB 5 g_parse_table
theorem sc_parse_table : FnScope N_parse_table ["text"] (defScope st_parse_table) := ⟨rfl, rfl, rfl, by decide +kernel, rfl, by decide +kernel, by decide +kernel⟩
theorem b_parse_table {G : Gc} (B : Bi G) (h_in_range : FnIs G "in_range" 1 3 F_in_range) (h_parse_number : FnIs G "parse_number" 1 1 F_parse_number) (h_is_valid_table : FnIs G "is_valid_table" 2 2 F_is_valid_table) (h_pe_ParseError : PeC G "ParseError") : SB G N_parse_table (defScope st_parse_table) (fun _ => true) 2 (defBody st_parse_table) g_parse_table := by
  unfold g_parse_table
  exact sb_cons (ss_if (st_not (st_val (se_isi B kit_str (se_var 0) B.str PyProof.Rows.boot_str))) (sb_one (ss_raiseP h_pe_ParseError (se_non))) (sb_nil))
    (sb_cons (ss_set (ag_of 1 (se_split (se_var 0) (se_str))))
    (sb_cons (ss_if (st_w (sw_or (st_ne (se_len B (se_var 1)) (se_int)) (sw_or1 (st_not (st_val (se_fn h_in_range (sa_cons (se_fn h_parse_number (sa_cons (se_ix (se_var 1) (se_int)) (sa_nil))) (sa_cons (se_int) (sa_cons (se_int) (sa_nil)))))))))) (sb_one (ss_raiseP h_pe_ParseError (se_int))) (sb_nil))
    (sb_cons (ss_set (ag_of 2 (se_fn h_parse_number (sa_cons (se_ix (se_var 1) (se_int)) (sa_nil)))))
    (sb_cons (ag_lc 3 (own := [("token", 4)]) (si_seq (se_split (se_ix (se_var 1) (se_int)) (se_str))) (by decide +kernel) (sg_nm 4) (sts_nil) (se_fn h_parse_number (sa_cons (se_var 4) (sa_nil))))
    (sb_cons (ss_if (st_in (se_non) (se_var 3)) (sb_one (ss_raiseP h_pe_ParseError (se_add (se_int) (se_lix (se_var 3) (se_non))))) (sb_nil))
    (sb_cons (ss_if (st_not (st_val (se_fn h_is_valid_table (sa_cons (se_var 2) (sa_cons (se_tuple B (se_var 3)) (sa_nil)))))) (sb_one (ss_raiseP h_pe_ParseError (se_non))) (sb_nil))
    (sb_one (ss_ret (se_tup (sa_cons (se_var 2) (sa_cons (se_tuple B (se_var 3)) (sa_nil))))))))))))
theorem fn_parse_table {G : Gc} {f : Addr} {fd : FuncData} (B : Bi G) (h_in_range : FnIs G "in_range" 1 3 F_in_range) (h_parse_number : FnIs G "parse_number" 1 1 F_parse_number) (h_is_valid_table : FnIs G "is_valid_table" 2 2 F_is_valid_table) (h_pe_ParseError : PeC G "ParseError") (hm : G.mg "parse_table" = some (.ref f)) (Fu : FunD G.K "parse_table" "parse_table" (defArgs st_parse_table) (defBody st_parse_table) (defScope st_parse_table) [] [] f fd) : FnIs G "parse_table" 3 1 F_parse_table :=
  fn_is hm Fu sc_parse_table (FunD.bindsN (ps := ["text"]) Fu fun _ _ _ _ _ _ us hl => match us, hl with | [_], _ => rfl) (b_parse_table B h_in_range h_parse_number h_is_valid_table h_pe_ParseError ) (fun _ _ _ h => h)
/-! ### _law_cell -/
abbrev st__law_cell : Stmt := top 17
abbrev N__law_cell : List Str := ["script", "k"]
def t1__law_cell : SF := sRet (eC (.int 0))
def g__law_cell : SF := sSeq (sIf (eBin dLt (eVar 1) (eUn dLen (eVar 0))) (sRet (eBin dIx (eVar 0) (eVar 1))) (sNop)) t1__law_cell
def F__law_cell : List Dt → Option Rs := runB 2 g__law_cell
theorem sc__law_cell : FnScope N__law_cell ["script", "k"] (defScope st__law_cell) := ⟨rfl, rfl, rfl, by decide +kernel, rfl, by decide +kernel, by decide +kernel⟩
theorem b__law_cell {G : Gc} (B : Bi G) : SB G N__law_cell (defScope st__law_cell) (fun _ => true) 0 (defBody st__law_cell) g__law_cell := by
  unfold g__law_cell
  exact sb_cons (ss_if (st_lt (se_var 1) (se_len B (se_var 0))) (sb_one (ss_ret (se_ix (se_var 0) (se_var 1)))) (sb_nil))
    (sb_one (ss_ret (se_int)))
theorem fn__law_cell {G : Gc} {f : Addr} {fd : FuncData} (B : Bi G) (hm : G.mg "_law_cell" = some (.ref f)) (Fu : FunD G.K "_law_cell" "_law_cell" (defArgs st__law_cell) (defBody st__law_cell) (defScope st__law_cell) [] [] f fd) : FnIs G "_law_cell" 1 2 F__law_cell :=
  fn_is hm Fu sc__law_cell (FunD.bindsN (ps := ["script", "k"]) Fu fun _ _ _ _ _ _ us hl => match us, hl with | [_, _], _ => rfl) (b__law_cell B  ) (fun _ _ _ h => h)
/-! ### _law_row -/
abbrev st__law_row : Stmt := top 18
abbrev N__law_row : List Str := ["script", "at", "cell", "found", "time"]
def b1__law_row : SF := sIf (eBin dLt (eFn 2 F__law_cell (aCons (eVar 0) (aCons (eVar 1) (aNil)))) (eBin dPow (eC (.int 10)) (eC (.int 18)))) (sSeq (sSet 2 (eBin dMod (eBin dAdd (eBin dAdd (eBin dAdd (eBin dMul (eVar 2) (eC (.int 48271))) (eBin dMul (eC (.int 131)) (eVar 4))) (eC (.int 7))) (eFn 2 F__law_cell (aCons (eVar 0) (aCons (eBin dMod (eBin dAdd (eBin dAdd (eVar 1) (eC (.int 1))) (eVar 4)) (eC (.int 20))) (aNil))))) (eC (.int 2147483647))))
  (sApp 3 (eBin dMod (eBin dDiv (eVar 2) (eC (.int 11))) (eC (.int 1000))))) (sSeq (sApp 3 (eBin dMod (eVar 2) (eC (.int 1000))))
  (sSet 2 (eBin dDiv (eVar 2) (eC (.int 1000)))))
def t3__law_row : SF := sRet (eVar 3)
def t2__law_row : SF := sSeq (sFor [4] (gNm 4) (iRg1 (eC (.int 60))) (b1__law_row)) t3__law_row
def t1__law_row : SF := sSeq (sSetO 3 (eLst (aNil))) t2__law_row
def g__law_row : SF := sSeq (sSet 2 (eFn 2 F__law_cell (aCons (eVar 0) (aCons (eVar 1) (aNil))))) t1__law_row
def F__law_row : List Dt → Option Rs := runB 5 g__law_row
theorem sc__law_row : FnScope N__law_row ["script", "at"] (defScope st__law_row) := ⟨rfl, rfl, rfl, by decide +kernel, rfl, by decide +kernel, by decide +kernel⟩
theorem b__law_row {G : Gc} (B : Bi G) (h__law_cell : FnIs G "_law_cell" 1 2 F__law_cell) : SB G N__law_row (defScope st__law_row) (fun _ => true) 1 (defBody st__law_row) g__law_row := by
  unfold g__law_row
  exact sb_cons (ss_set (ag_of 2 (se_fn h__law_cell (sa_cons (se_var 0) (sa_cons (se_var 1) (sa_nil))))))
    (sb_cons (ss_setO (agL_of 3 (sl_lst (sa_nil))))
    (sb_cons (ss_for (si_rg1 B (se_int)) (sg_nm 4) (sb_one (ss_if (st_lt (se_fn h__law_cell (sa_cons (se_var 0) (sa_cons (se_var 1) (sa_nil)))) (se_pow (se_int) (se_int))) (sb_cons (ss_set (ag_of 2 (se_mod (se_add (se_add (se_add (se_mul (se_var 2) (se_int)) (se_mul (se_int) (se_var 4))) (se_int)) (se_fn h__law_cell (sa_cons (se_var 0) (sa_cons (se_mod (se_add (se_add (se_var 1) (se_int)) (se_var 4)) (se_int)) (sa_nil))))) (se_int))))
    (sb_one (ss_app 3 (se_mod (se_div (se_var 2) (se_int)) (se_int))))) (sb_cons (ss_app 3 (se_mod (se_var 2) (se_int)))
    (sb_one (ss_set (ag_of 2 (se_div (se_var 2) (se_int)))))))))
    (sb_one (ss_ret (se_var 3)))))
theorem fn__law_row {G : Gc} {f : Addr} {fd : FuncData} (B : Bi G) (h__law_cell : FnIs G "_law_cell" 1 2 F__law_cell) (hm : G.mg "_law_row" = some (.ref f)) (Fu : FunD G.K "_law_row" "_law_row" (defArgs st__law_row) (defBody st__law_row) (defScope st__law_row) [] [] f fd) : FnIs G "_law_row" 2 2 F__law_row :=
  fn_is hm Fu sc__law_row (FunD.bindsN (ps := ["script", "at"]) Fu fun _ _ _ _ _ _ us hl => match us, hl with | [_, _], _ => rfl) (b__law_row B h__law_cell ) (fun _ _ _ h => h)
/-! ### _law_value -/
abbrev st__law_value : Stmt := top 19
abbrev N__law_value : List Str := ["modulus", "numbers", "place", "total", "power", "number"]
def b1__law_value : SF := sSeq (sSet 3 (eBin dAdd (eVar 3) (eBin dMul (eVar 5) (eVar 4))))
  (sSet 4 (eBin dMul (eVar 4) (eVar 2)))
def t2__law_value : SF := sRet (eBin dMod (eVar 3) (eVar 0))
def t1__law_value : SF := sSeq (sFor [5] (gNm 5) (iSeq (eVar 1)) (b1__law_value)) t2__law_value
def g__law_value : SF := sSeq (sUnp [3, 4] (gPr (gNm 3) (gNm 4)) (eTup (aCons (eC (.int 0)) (aCons (eC (.int 1)) (aNil))))) t1__law_value
def F__law_value : List Dt → Option Rs := runB 6 g__law_value
theorem sc__law_value : FnScope N__law_value ["modulus", "numbers", "place"] (defScope st__law_value) := ⟨rfl, rfl, rfl, by decide +kernel, rfl, by decide +kernel, by decide +kernel⟩
theorem b__law_value {G : Gc} (B : Bi G) : SB G N__law_value (defScope st__law_value) (fun _ => true) 0 (defBody st__law_value) g__law_value := by
  unfold g__law_value
  exact sb_cons (ss_unp (se_tup (sa_cons (se_int) (sa_cons (se_int) (sa_nil)))) (sg_pr (sg_nm 3) (sg_nm 4)) (hw := sw_const))
    (sb_cons (ss_for (si_seq (se_var 1)) (sg_nm 5) (sb_cons (ss_set (ag_of 3 (se_add (se_var 3) (se_mul (se_var 5) (se_var 4)))))
    (sb_one (ss_set (ag_of 4 (se_mul (se_var 4) (se_var 2)))))))
    (sb_one (ss_ret (se_mod (se_var 3) (se_var 0)))))
theorem fn__law_value {G : Gc} {f : Addr} {fd : FuncData} (B : Bi G) (hm : G.mg "_law_value" = some (.ref f)) (Fu : FunD G.K "_law_value" "_law_value" (defArgs st__law_value) (defBody st__law_value) (defScope st__law_value) [] [] f fd) : FnIs G "_law_value" 1 3 F__law_value :=
  fn_is hm Fu sc__law_value (FunD.bindsN (ps := ["modulus", "numbers", "place"]) Fu fun _ _ _ _ _ _ us hl => match us, hl with | [_, _, _], _ => rfl) (b__law_value B  ) (fun _ _ _ h => h)
/-! ### _law_numbers -/
abbrev st__law_numbers : Stmt := top 20
abbrev N__law_numbers : List Str := ["script", "at", "draws", "place"]
def t1__law_numbers : SF := sRet (eUn dTuple (eLc [3] (gNm 3) (iRg1 (eBin dMod (eBin dIx (eVar 2) (eC (.int 0))) (eC (.int 9)))) (eC (.bool true)) (eBin dSub (eBin dMod (eBin dIx (eVar 2) (eBin dAdd (eC (.int 1)) (eVar 3))) (eC (.int 41))) (eC (.int 20)))))
def g__law_numbers : SF := sSeq (sSet 2 (eFn 2 F__law_row (aCons (eVar 0) (aCons (eVar 1) (aNil))))) t1__law_numbers
def F__law_numbers : List Dt → Option Rs := runB 4 g__law_numbers
theorem sc__law_numbers : FnScope N__law_numbers ["script", "at"] (defScope st__law_numbers) := ⟨rfl, rfl, rfl, by decide +kernel, rfl, by decide +kernel, by decide +kernel⟩
theorem b__law_numbers {G : Gc} (B : Bi G) (h__law_row : FnIs G "_law_row" 2 2 F__law_row) : SB G N__law_numbers (defScope st__law_numbers) (fun _ => true) 2 (defBody st__law_numbers) g__law_numbers := by
  unfold g__law_numbers
  exact sb_cons (ss_set (ag_of 2 (se_fn h__law_row (sa_cons (se_var 0) (sa_cons (se_var 1) (sa_nil))))))
    (sb_one (ss_ret (se_tuple B (se_lc (own := [("place", 3)]) (si_rg1 B (se_mod (se_ix (se_var 2) (se_int)) (se_int))) (by decide +kernel) (sg_nm 3) (sts_nil) (se_sub (se_mod (se_ix (se_var 2) (se_add (se_int) (se_var 3))) (se_int)) (se_int))))))
theorem fn__law_numbers {G : Gc} {f : Addr} {fd : FuncData} (B : Bi G) (h__law_row : FnIs G "_law_row" 2 2 F__law_row) (hm : G.mg "_law_numbers" = some (.ref f)) (Fu : FunD G.K "_law_numbers" "_law_numbers" (defArgs st__law_numbers) (defBody st__law_numbers) (defScope st__law_numbers) [] [] f fd) : FnIs G "_law_numbers" 3 2 F__law_numbers :=
  fn_is hm Fu sc__law_numbers (FunD.bindsN (ps := ["script", "at"]) Fu fun _ _ _ _ _ _ us hl => match us, hl with | [_, _], _ => rfl) (b__law_numbers B h__law_row ) (fun _ _ _ h => h)
/-! ### _law_table -/
abbrev st__law_table : Stmt := top 21
abbrev N__law_table : List Str := ["modulus", "numbers", "place"]
def g__law_table : SF := sRet (eUn dTuple (eLc [2] (gNm 2) (iRg1 (eVar 0)) (eC (.bool true)) (eFn 3 F__law_value (aCons (eVar 0) (aCons (eVar 1) (aCons (eVar 2) (aNil)))))))
def F__law_table : List Dt → Option Rs := runB 3 g__law_table
theorem sc__law_table : FnScope N__law_table ["modulus", "numbers"] (defScope st__law_table) := ⟨rfl, rfl, rfl, by decide +kernel, rfl, by decide +kernel, by decide +kernel⟩
theorem b__law_table {G : Gc} (B : Bi G) (h__law_value : FnIs G "_law_value" 1 3 F__law_value) : SB G N__law_table (defScope st__law_table) (fun _ => true) 1 (defBody st__law_table) g__law_table := by
  unfold g__law_table
  exact sb_one (ss_ret (se_tuple B (se_lc (own := [("place", 2)]) (si_rg1 B (se_var 0)) (by decide +kernel) (sg_nm 2) (sts_nil) (se_fn h__law_value (sa_cons (se_var 0) (sa_cons (se_var 1) (sa_cons (se_var 2) (sa_nil))))))))
theorem fn__law_table {G : Gc} {f : Addr} {fd : FuncData} (B : Bi G) (h__law_value : FnIs G "_law_value" 1 3 F__law_value) (hm : G.mg "_law_table" = some (.ref f)) (Fu : FunD G.K "_law_table" "_law_table" (defArgs st__law_table) (defBody st__law_table) (defScope st__law_table) [] [] f fd) : FnIs G "_law_table" 2 2 F__law_table :=
  fn_is hm Fu sc__law_table (FunD.bindsN (ps := ["modulus", "numbers"]) Fu fun _ _ _ _ _ _ us hl => match us, hl with | [_, _], _ => rfl) (b__law_table B h__law_value ) (fun _ _ _ h => h)
/-! ### _law_case -/
abbrev st__law_case : Stmt := top 22
abbrev N__law_case : List Str := ["script", "at", "most", "draws", "modulus", "table", "time", "place"]
def b1__law_case : SF := sSeq (sSet 7 (eBin dMod (eBin dIx (eVar 3) (eBin dAdd (eC (.int 2)) (eVar 6))) (eVar 4)))
  (sPut 5 (eVar 7) (eBin dMod (eBin dAdd (eBin dIx (eVar 5) (eVar 7)) (eBin dIx (eVar 3) (eBin dAdd (eC (.int 5)) (eVar 6)))) (eVar 4)))
def t5__law_case : SF := sRet (eTup (aCons (eVar 4) (aCons (eUn dTuple (eVar 5)) (aNil))))
def t4__law_case : SF := sSeq (sIf (eBin dEq (eBin dMod (eBin dIx (eVar 3) (eC (.int 1))) (eC (.int 9))) (eC (.int 0))) (sSetO 5 (eLc [7] (gNm 7) (iRg1 (eVar 4)) (eC (.bool true)) (eBin dMod (eBin dIx (eVar 3) (eBin dAdd (eC (.int 10)) (eVar 7))) (eVar 4)))) (sNop)) t5__law_case
def t3__law_case : SF := sSeq (sFor [6] (gNm 6) (iRg1 (eBin dMod (eBin dIx (eVar 3) (eC (.int 1))) (eC (.int 3)))) (b1__law_case)) t4__law_case
def t2__law_case : SF := sSeq (sSetO 5 (eUn dList (eFn 2 F__law_table (aCons (eVar 4) (aCons (eFn 2 F__law_numbers (aCons (eVar 0) (aCons (eBin dAdd (eVar 1) (eC (.int 1))) (aNil)))) (aNil)))))) t3__law_case
def t1__law_case : SF := sSeq (sSet 4 (eBin dAdd (eC (.int 2)) (eBin dMod (eBin dIx (eVar 3) (eC (.int 0))) (eBin dSub (eVar 2) (eC (.int 1)))))) t2__law_case
def g__law_case : SF := sSeq (sSet 3 (eFn 2 F__law_row (aCons (eVar 0) (aCons (eVar 1) (aNil))))) t1__law_case
def F__law_case : List Dt → Option Rs := runB 8 g__law_case
theorem sc__law_case : FnScope N__law_case ["script", "at", "most"] (defScope st__law_case) := ⟨rfl, rfl, rfl, by decide +kernel, rfl, by decide +kernel, by decide +kernel⟩
theorem b__law_case {G : Gc} (B : Bi G) (h__law_row : FnIs G "_law_row" 2 2 F__law_row) (h__law_table : FnIs G "_law_table" 2 2 F__law_table) (h__law_numbers : FnIs G "_law_numbers" 3 2 F__law_numbers) : SB G N__law_case (defScope st__law_case) (fun _ => true) 3 (defBody st__law_case) g__law_case := by
  unfold g__law_case
  exact sb_cons (ss_set (ag_of 3 (se_fn h__law_row (sa_cons (se_var 0) (sa_cons (se_var 1) (sa_nil))))))
    (sb_cons (ss_set (ag_of 4 (se_add (se_int) (se_mod (se_ix (se_var 3) (se_int)) (se_sub (se_var 2) (se_int))))))
    (sb_cons (ss_setO (agL_of 5 (sl_list B (se_fn h__law_table (sa_cons (se_var 4) (sa_cons (se_fn h__law_numbers (sa_cons (se_var 0) (sa_cons (se_add (se_var 1) (se_int)) (sa_nil)))) (sa_nil)))))))
    (sb_cons (ss_for (si_rg1 B (se_mod (se_ix (se_var 3) (se_int)) (se_int))) (sg_nm 6) (sb_cons (ss_set (ag_of 7 (se_mod (se_ix (se_var 3) (se_add (se_int) (se_var 6))) (se_var 4))))
    (sb_one (ss_put 5 (se_var 7) (se_mod (se_add (se_ix (se_var 5) (se_var 7)) (se_ix (se_var 3) (se_add (se_int) (se_var 6)))) (se_var 4))))))
    (sb_cons (ss_if (st_eq (se_mod (se_ix (se_var 3) (se_int)) (se_int)) (se_int)) (sb_one (ag_lcO 5 (own := [("place", 7)]) (si_rg1 B (se_var 4)) (by decide +kernel) (sg_nm 7) (sts_nil) (se_mod (se_ix (se_var 3) (se_add (se_int) (se_var 7))) (se_var 4)))) (sb_nil))
    (sb_one (ss_ret (se_tup (sa_cons (se_var 4) (sa_cons (se_tuple B (se_var 5)) (sa_nil))))))))))
theorem fn__law_case {G : Gc} {f : Addr} {fd : FuncData} (B : Bi G) (h__law_row : FnIs G "_law_row" 2 2 F__law_row) (h__law_table : FnIs G "_law_table" 2 2 F__law_table) (h__law_numbers : FnIs G "_law_numbers" 3 2 F__law_numbers) (hm : G.mg "_law_case" = some (.ref f)) (Fu : FunD G.K "_law_case" "_law_case" (defArgs st__law_case) (defBody st__law_case) (defScope st__law_case) [] [] f fd) : FnIs G "_law_case" 4 3 F__law_case :=
  fn_is hm Fu sc__law_case (FunD.bindsN (ps := ["script", "at", "most"]) Fu fun _ _ _ _ _ _ us hl => match us, hl with | [_, _, _], _ => rfl) (b__law_case B h__law_row h__law_table h__law_numbers ) (fun _ _ _ h => h)
/-! ### _law_parse -/
abbrev st__law_parse : Stmt := top 23
abbrev N__law_parse : List Str := ["text", "e"]
def g__law_parse : SF := sTryP EM "ParseError" "TableError" "InvalidTable" "line" "other" (sRet (eFn 1 F_parse_table (aCons (eVar 0) (aNil))))
def F__law_parse : List Dt → Option Rs := runB 2 g__law_parse
theorem sc__law_parse : FnScope N__law_parse ["text"] (defScope st__law_parse) := ⟨rfl, rfl, rfl, by decide +kernel, rfl, by decide +kernel, by decide +kernel⟩
theorem b__law_parse {G : Gc} (B : Bi G) (h_parse_table : FnIs G "parse_table" 3 1 F_parse_table) (h_pe_ParseError : PeC G "ParseError") (hE : EmOk G EM) : SB G N__law_parse (defScope st__law_parse) (fun _ => true) 3 (defBody st__law_parse) g__law_parse := by
  unfold g__law_parse
  exact sb_one (ss_tryP hE B 1 (h_pe_ParseError.no (by decide +kernel)) h_pe_ParseError.cls (sb_one (ss_ret (se_fn h_parse_table (sa_cons (se_var 0) (sa_nil))))))
theorem fn__law_parse {G : Gc} {f : Addr} {fd : FuncData} (B : Bi G) (h_parse_table : FnIs G "parse_table" 3 1 F_parse_table) (h_pe_ParseError : PeC G "ParseError") (hE : EmOk G EM) (hm : G.mg "_law_parse" = some (.ref f)) (Fu : FunD G.K "_law_parse" "_law_parse" (defArgs st__law_parse) (defBody st__law_parse) (defScope st__law_parse) [] [] f fd) : FnIs G "_law_parse" 4 1 F__law_parse :=
  fn_is hm Fu sc__law_parse (FunD.bindsN (ps := ["text"]) Fu fun _ _ _ _ _ _ us hl => match us, hl with | [_], _ => rfl) (b__law_parse B h_parse_table h_pe_ParseError  hE) (fun _ _ _ h => h)
/-! ### law -/
abbrev st_law : Stmt := top 24
abbrev N_law : List Str := ["script", "draws", "modulus", "table", "tokens", "text", "spot", "new", "edited", "found", "at", "wrong", "end", "rest", "great", "value"]
def t19_law : SF := sRet (eBin dEq (eFn 1 F__law_parse (aCons (eBin dIx (eLst (aCons (eC .none) (aCons (eC (.int 7)) (aCons (eVar 3) (aCons (eLst (aCons (eVar 5) (aNil))) (aNil)))))) (eBin dMod (eBin dIx (eVar 1) (eC (.int 8))) (eC (.int 4)))) (aNil))) (eLst (aCons (eC (.str "line")) (aCons (eC .none) (aNil)))))
def t18_law : SF := sSeq (sIf (eBin dNe (eFn 1 F__law_parse (aCons (eVar 11) (aNil))) (eLst (aCons (eC (.str "line")) (aCons (eC (.int 0)) (aNil))))) (sRet (eC (.bool false))) (sNop)) t19_law
def t17_law : SF := sSeq (sSet 11 (eBin dIx (eLst (aCons (eC (.str "0,1")) (aCons (eC (.str "0 mod 1")) (aCons (eC (.str "0,1 mod 13")) (aCons (eC (.str "0,1 mod 02")) (aCons (eC (.str "0,1mod 2")) (aCons (eC (.str "0,1 mod 2 mod 2")) (aCons (eC (.str "")) (aCons (eC (.str "0,1 mod x")) (aNil)))))))))) (eBin dMod (eBin dIx (eVar 1) (eC (.int 7))) (eC (.int 8))))) t18_law
def t16_law : SF := sSeq (sIf (eBin dNe (eFn 1 F__law_parse (aCons (eBin dAdd (eMeth isStr dJoin (eC (.str ",")) (eBin dAdd (eBin dAdd (eSl (eVar 4) (oNo) (oSo (eVar 10))) (eLst (aCons (eVar 14) (aNil)))) (eVar 13))) (eVar 12)) (aNil))) (eLst (aCons (eC (.str "line")) (aCons (eC .none) (aNil))))) (sRet (eC (.bool false))) (sNop)) t17_law
def t15_law : SF := sSeq (sSet 14 (eBin dIx (eLst (aCons (eUn dStr (eVar 2)) (aCons (eC (.str "12")) (aCons (eC (.str "99")) (aNil))))) (eBin dMod (eBin dIx (eVar 1) (eC (.int 5))) (eC (.int 3))))) t16_law
def t14_law : SF := sSeq (sIf (eBin dNe (eFn 1 F__law_parse (aCons (eBin dAdd (eMeth isStr dJoin (eC (.str ",")) (eBin dAdd (eBin dAdd (eSl (eVar 4) (oNo) (oSo (eVar 10))) (eLst (aCons (eVar 11) (aNil)))) (eVar 13))) (eVar 12)) (aNil))) (eLst (aCons (eC (.str "line")) (aCons (eBin dAdd (eVar 10) (eC (.int 1))) (aNil))))) (sRet (eC (.bool false))) (sNop)) t15_law
def t13_law : SF := sSeq (sSet 13 (eSl (eVar 4) (oSo (eBin dAdd (eVar 10) (eC (.int 1)))) (oNo))) t14_law
def t12_law : SF := sSeq (sSet 12 (eBin dAdd (eC (.str " mod ")) (eUn dStr (eVar 2)))) t13_law
def t11_law : SF := sSeq (sSet 11 (eBin dIx (eLst (aCons (eC (.str "")) (aCons (eC (.str "x")) (aCons (eC (.str "100")) (aCons (eC (.str "-1")) (aCons (eC (.str "01")) (aCons (eC (.str " 1")) (aNil)))))))) (eBin dMod (eBin dIx (eVar 1) (eC (.int 4))) (eC (.int 6))))) t12_law
def t10_law : SF := sSeq (sSet 10 (eBin dMod (eBin dIx (eVar 1) (eC (.int 3))) (eVar 2))) t11_law
def t9_law : SF := sSeq (sIf (eOrT (eBin dEq (eBin dIx (eVar 9) (eC (.int 0))) (eC (.str "other"))) (eAndT (eBin dNe (eBin dIx (eVar 9) (eC (.int 0))) (eC (.str "line"))) (eBin dNe (eFn 2 F_format_table (aCons (eBin dIx (eVar 9) (eC (.int 0))) (aCons (eBin dIx (eVar 9) (eC (.int 1))) (aNil)))) (eVar 8)))) (sRet (eC (.bool false))) (sNop)) t10_law
def t8_law : SF := sSeq (sSet 9 (eFn 1 F__law_parse (aCons (eVar 8) (aNil)))) t9_law
def t7_law : SF := sSeq (sSet 8 (eBin dIx (eLst (aCons (eBin dAdd (eSl (eVar 5) (oNo) (oSo (eVar 6))) (eSl (eVar 5) (oSo (eBin dAdd (eVar 6) (eC (.int 1)))) (oNo))) (aCons (eBin dAdd (eBin dAdd (eSl (eVar 5) (oNo) (oSo (eVar 6))) (eVar 7)) (eSl (eVar 5) (oSo (eVar 6)) (oNo))) (aCons (eBin dAdd (eVar 5) (eC (.str " "))) (aCons (eBin dAdd (eC (.str " ")) (eVar 5)) (aNil)))))) (eBin dMod (eBin dIx (eVar 1) (eC (.int 2))) (eC (.int 4))))) t8_law
def t6_law : SF := sSeq (sSet 7 (eBin dIx (eLst (aCons (eC (.str "0")) (aCons (eC (.str " ")) (aCons (eC (.str "1")) (aCons (eC (.str ",")) (aCons (eC (.str "x")) (aCons (eC (.str " mod ")) (aNil)))))))) (eBin dMod (eBin dIx (eVar 1) (eC (.int 1))) (eC (.int 6))))) t7_law
def t5_law : SF := sSeq (sSet 6 (eBin dMod (eBin dMul (eBin dIx (eVar 1) (eC (.int 0))) (eC (.int 5))) (eBin dAdd (eUn dLen (eVar 5)) (eC (.int 1))))) t6_law
def t4_law : SF := sSeq (sIf (eOrT (eBin dNe (eFn 2 F_format_table (aCons (eVar 2) (aCons (eVar 3) (aNil)))) (eVar 5)) (eBin dNe (eFn 1 F__law_parse (aCons (eVar 5) (aNil))) (eTup (aCons (eVar 2) (aCons (eVar 3) (aNil)))))) (sRet (eC (.bool false))) (sNop)) t5_law
def t3_law : SF := sSeq (sSet 5 (eBin dAdd (eBin dAdd (eMeth isStr dJoin (eC (.str ",")) (eVar 4)) (eC (.str " mod "))) (eUn dStr (eVar 2)))) t4_law
def t2_law : SF := sSeq (sSet 4 (eLc [15] (gNm 15) (iSeq (eVar 3)) (eC (.bool true)) (eUn dStr (eVar 15)))) t3_law
def t1_law : SF := sSeq (sUnp [2, 3] (gPr (gNm 2) (gNm 3)) (eFn 3 F__law_case (aCons (eVar 0) (aCons (eC (.int 2)) (aCons (eC (.int 12)) (aNil)))))) t2_law
def g_law : SF := sSeq (sSet 1 (eFn 2 F__law_row (aCons (eVar 0) (aCons (eC (.int 6)) (aNil))))) t1_law
def F_law : List Dt → Option Rs := runB 16 g_law
theorem sc_law : FnScope N_law ["script"] (defScope st_law) := ⟨rfl, rfl, rfl, by decide +kernel, rfl, by decide +kernel, by decide +kernel⟩
theorem b_law {G : Gc} (B : Bi G) (h__law_row : FnIs G "_law_row" 2 2 F__law_row) (h__law_case : FnIs G "_law_case" 4 3 F__law_case) (h_format_table : FnIs G "format_table" 4 2 F_format_table) (h__law_parse : FnIs G "_law_parse" 4 1 F__law_parse) : SB G N_law (defScope st_law) (fun _ => true) 4 (defBody st_law) g_law := by
  unfold g_law
  exact sb_cons (ss_set (ag_of 1 (se_fn h__law_row (sa_cons (se_var 0) (sa_cons (se_int) (sa_nil))))))
    (sb_cons (ss_unp (se_fn h__law_case (sa_cons (se_var 0) (sa_cons (se_int) (sa_cons (se_int) (sa_nil))))) (sg_pr (sg_nm 2) (sg_nm 3)))
    (sb_cons (ag_lc 4 (own := [("value", 15)]) (si_seq (se_var 3)) (by decide +kernel) (sg_nm 15) (sts_nil) (se_strC B (se_var 15)))
    (sb_cons (ss_set (ag_of 5 (se_add (se_add (se_join (se_str) (se_var 4)) (se_str)) (se_strC B (se_var 2)))))
    (sb_cons (ss_if (st_w (sw_or (st_ne (se_fn h_format_table (sa_cons (se_var 2) (sa_cons (se_var 3) (sa_nil)))) (se_var 5)) (sw_or1 (st_ne (se_fn h__law_parse (sa_cons (se_var 5) (sa_nil))) (se_tup (sa_cons (se_var 2) (sa_cons (se_var 3) (sa_nil)))))))) (sb_one (ss_ret (se_bl))) (sb_nil))
    (sb_cons (ss_set (ag_of 6 (se_mod (se_mul (se_ix (se_var 1) (se_int)) (se_int)) (se_add (se_len B (se_var 5)) (se_int)))))
    (sb_cons (ss_set (ag_of 7 (se_ix (se_lst (sa_cons (se_str) (sa_cons (se_str) (sa_cons (se_str) (sa_cons (se_str) (sa_cons (se_str) (sa_cons (se_str) (sa_nil)))))))) (se_mod (se_ix (se_var 1) (se_int)) (se_int)))))
    (sb_cons (ss_set (ag_of 8 (se_ix (se_lst (sa_cons (se_add (se_sl (se_var 5) (so_none) (so_some (se_var 6))) (se_sl (se_var 5) (so_some (se_add (se_var 6) (se_int))) (so_none))) (sa_cons (se_add (se_add (se_sl (se_var 5) (so_none) (so_some (se_var 6))) (se_var 7)) (se_sl (se_var 5) (so_some (se_var 6)) (so_none))) (sa_cons (se_add (se_var 5) (se_str)) (sa_cons (se_add (se_str) (se_var 5)) (sa_nil)))))) (se_mod (se_ix (se_var 1) (se_int)) (se_int)))))
    (sb_cons (ss_set (ag_of 9 (se_fn h__law_parse (sa_cons (se_var 8) (sa_nil)))))
    (sb_cons (ss_if (st_w (sw_or (st_eq (se_ix (se_var 9) (se_int)) (se_str)) (sw_or1 (st_w (sw_and (st_ne (se_ix (se_var 9) (se_int)) (se_str)) (sw_and1 (st_ne (se_fn h_format_table (sa_cons (se_ix (se_var 9) (se_int)) (sa_cons (se_ix (se_var 9) (se_int)) (sa_nil)))) (se_var 8)))))))) (sb_one (ss_ret (se_bl))) (sb_nil))
    (sb_cons (ss_set (ag_of 10 (se_mod (se_ix (se_var 1) (se_int)) (se_var 2))))
    (sb_cons (ss_set (ag_of 11 (se_ix (se_lst (sa_cons (se_str) (sa_cons (se_str) (sa_cons (se_str) (sa_cons (se_str) (sa_cons (se_str) (sa_cons (se_str) (sa_nil)))))))) (se_mod (se_ix (se_var 1) (se_int)) (se_int)))))
    (sb_cons (ss_set (ag_of 12 (se_add (se_str) (se_strC B (se_var 2)))))
    (sb_cons (ss_set (ag_of 13 (se_sl (se_var 4) (so_some (se_add (se_var 10) (se_int))) (so_none))))
    (sb_cons (ss_if (st_ne (se_fn h__law_parse (sa_cons (se_add (se_join (se_str) (se_add (se_add (se_sl (se_var 4) (so_none) (so_some (se_var 10))) (se_lst (sa_cons (se_var 11) (sa_nil)))) (se_var 13))) (se_var 12)) (sa_nil))) (se_lst (sa_cons (se_str) (sa_cons (se_add (se_var 10) (se_int)) (sa_nil))))) (sb_one (ss_ret (se_bl))) (sb_nil))
    (sb_cons (ss_set (ag_of 14 (se_ix (se_lst (sa_cons (se_strC B (se_var 2)) (sa_cons (se_str) (sa_cons (se_str) (sa_nil))))) (se_mod (se_ix (se_var 1) (se_int)) (se_int)))))
    (sb_cons (ss_if (st_ne (se_fn h__law_parse (sa_cons (se_add (se_join (se_str) (se_add (se_add (se_sl (se_var 4) (so_none) (so_some (se_var 10))) (se_lst (sa_cons (se_var 14) (sa_nil)))) (se_var 13))) (se_var 12)) (sa_nil))) (se_lst (sa_cons (se_str) (sa_cons (se_non) (sa_nil))))) (sb_one (ss_ret (se_bl))) (sb_nil))
    (sb_cons (ss_set (ag_of 11 (se_ix (se_lst (sa_cons (se_str) (sa_cons (se_str) (sa_cons (se_str) (sa_cons (se_str) (sa_cons (se_str) (sa_cons (se_str) (sa_cons (se_str) (sa_cons (se_str) (sa_nil)))))))))) (se_mod (se_ix (se_var 1) (se_int)) (se_int)))))
    (sb_cons (ss_if (st_ne (se_fn h__law_parse (sa_cons (se_var 11) (sa_nil))) (se_lst (sa_cons (se_str) (sa_cons (se_int) (sa_nil))))) (sb_one (ss_ret (se_bl))) (sb_nil))
    (sb_one (ss_ret (se_eq (se_fn h__law_parse (sa_cons (se_ix (se_lst (sa_cons (se_non) (sa_cons (se_int) (sa_cons (se_var 3) (sa_cons (se_lst (sa_cons (se_var 5) (sa_nil))) (sa_nil)))))) (se_mod (se_ix (se_var 1) (se_int)) (se_int))) (sa_nil))) (se_lst (sa_cons (se_str) (sa_cons (se_non) (sa_nil)))))))))))))))))))))))))
theorem fn_law {G : Gc} {f : Addr} {fd : FuncData} (B : Bi G) (h__law_row : FnIs G "_law_row" 2 2 F__law_row) (h__law_case : FnIs G "_law_case" 4 3 F__law_case) (h_format_table : FnIs G "format_table" 4 2 F_format_table) (h__law_parse : FnIs G "_law_parse" 4 1 F__law_parse) (hm : G.mg "law" = some (.ref f)) (Fu : FunD G.K "law" "law" (defArgs st_law) (defBody st_law) (defScope st_law) [] [] f fd) : FnIs G "law" 5 1 F_law :=
  fn_is hm Fu sc_law (FunD.bindsN (ps := ["script"]) Fu fun _ _ _ _ _ _ us hl => match us, hl with | [_], _ => rfl) (b_law B h__law_row h__law_case h_format_table h__law_parse ) (fun _ _ _ h => h)
end PT

namespace PT
open PySem PySem.Spec PyProof.Rows L2
/-! ## the drawn numbers -/
theorem w_cell (ns : List Int) (k : Nat) : F__law_cell [scr ns, .int (k : Int)] = some (.val (.int (ns.getD k 0))) := by
  show runB 2 g__law_cell [scr ns, .int (k : Int)] = _
  have e1 : g__law_cell (start0 2 [scr ns, .int (k : Int)]) = (match decide ((k : Int) < ((ns.map fun i => ((.int i : PyData), (.none : PyData))).length : Nat)) with
    | true => (match ((atI (ns.map fun i => ((.int i : PyData), (.none : PyData))) (k : Int)).map (·.1)).map Rs.val with
      | some (.val d) => some (.rt d)
      | some (.exc n pl) => some (.ex n pl)
      | none => none)
    | false => some (.rt (.int 0))) := by
    unfold g__law_cell t1__law_cell
    simp only [w_seq, w_if, w_bin, w_un]
    show (match bndS (some (Rs.val (.bool (decide ((k : Int) < ((ns.map fun i => ((.int i : PyData), (.none : PyData))).length : Nat)))))) _ with | some (.nx ρ') => _ | y => y) = _
    rw [w_bndS]
    cases decide ((k : Int) < ((ns.map fun i => ((.int i : PyData), (.none : PyData))).length : Nat)) with
    | false => rfl
    | true =>
      show (match sRet (eBin dIx (eVar 0) (eVar 1)) (start0 2 [scr ns, .int (k : Int)]) with | some (.nx ρ') => _ | y => y) = _
      have : sRet (eBin dIx (eVar 0) (eVar 1)) (start0 2 [scr ns, .int (k : Int)]) = bndS (((atI (ns.map fun i => ((.int i : PyData), (.none : PyData))) (k : Int)).map (·.1)).map Rs.val) (fun d => some (.rt d)) := rfl
      rw [this]
      cases ((atI (ns.map fun i => ((.int i : PyData), (.none : PyData))) (k : Int)).map (·.1)).map Rs.val with
      | none => rfl
      | some r => cases r <;> rfl
  unfold runB
  rw [e1]
  by_cases hk : k < ns.length
  · have h1 : decide ((k : Int) < ((ns.map fun i => ((.int i : PyData), (.none : PyData))).length : Nat)) = true := by
      rw [List.length_map]; exact decide_eq_true (by omega)
    rw [h1]
    have h2 : atI (ns.map fun i => ((.int i : PyData), (.none : PyData))) (k : Int) = some (.int ns[k], .none) := by
      refine atI_of (j := k) ?_ ?_
      · rw [List.length_map]; exact ixN_nat hk
      · rw [List.getElem?_map, List.getElem?_eq_getElem hk]; rfl
    rw [h2]
    have h3 : ns.getD k 0 = ns[k] := by rw [List.getD_eq_getElem?_getD, List.getElem?_eq_getElem hk]; rfl
    rw [h3]
    rfl
  · have h1 : decide ((k : Int) < ((ns.map fun i => ((.int i : PyData), (.none : PyData))).length : Nat)) = false := by
      rw [List.length_map]; exact decide_eq_false (by omega)
    rw [h1]
    have h3 : ns.getD k 0 = 0 := by rw [List.getD_eq_getElem?_getD, List.getElem?_eq_none (by omega)]; rfl
    rw [h3]

theorem w_row (ns : List Int) (a : Nat) : ∃ L : List Int, F__law_row [scr ns, .int (a : Int)] = some (.val (.list (L.map .int))) ∧ L.length = 60 ∧ ∀ x ∈ L, 0 ≤ x ∧ x < 1000 := by
  let P : Nat → En → Prop := fun i ρ => ∃ (c : Int) (L : List Int) (t : Option SV), ρ = [some (.sh (scr ns)), some (.sh (.int (a : Int))), some (.sh (.int c)), some (.own (L.map .int)), t] ∧ L.length = i ∧ ∀ x ∈ L, 0 ≤ x ∧ x < 1000
  have key : ∀ (j : Nat) (c : Int) (L : List Int) (x : Int), L.length = 0 + j → (∀ y ∈ L, 0 ≤ y ∧ y < 1000) → ∀ t : Option SV, P (0 + j + 1) [some (.sh (scr ns)), some (.sh (.int (a : Int))), some (.sh (.int c)), some (.own (L.map .int ++ [.int (x % 1000)])), t] := fun j c L x hl h t =>
    ⟨c, L ++ [x % 1000], t, by rw [List.map_append]; rfl, by simp; omega, fun y hy => (List.mem_append.mp hy).elim (h y) fun e => by rw [List.mem_singleton.mp e]; omega⟩
  have hc := w_cell ns a
  obtain ⟨ρ', h1, c, L, t, h2, h3, h4⟩ := forL_inv (sl := [4]) (tg := gNm 4) (body := b1__law_row) P (rgL 0 60) 0 [some (.sh (scr ns)), some (.sh (.int (a : Int))), some (.sh (.int (ns.getD a 0))), some (.own []), none] ⟨_, [], none, rfl, rfl, fun _ z => nomatch z⟩ (by
    rintro j x ρ hx ⟨c, L, t, rfl, hl, hL⟩
    have hj : j < 60 := by
      have := (List.getElem?_eq_some_iff.mp hx).1
      rw [rgL_length] at this
      exact this
    rw [rgL_get hj] at hx
    cases hx
    have hm : (↑a + 1 + ↑j : Int) % 20 = (((a + 1 + j) % 20 : Nat) : Int) := by omega
    have hq := w_cell ns ((a + 1 + j) % 20)
    have hlim : L.length < lim := by unfold lim; omega
    have s1 : sml 48271 = true := by decide
    have s2 : sml 131 = true := by decide
    have hp : dPow (.int 10) (.int 18) = some (.int 1000000000000000000) := by kernel_rfl
    by_cases hlt : ns.getD a 0 < 1000000000000000000
    · refine ⟨[some (.sh (scr ns)), some (.sh (.int (a : Int))), some (.sh (.int ((c * 48271 + 131 * (j : Int) + 7 + ns.getD ((a + 1 + j) % 20) 0) % 2147483647))), some (.own (L.map .int ++ [.int ((c * 48271 + 131 * (j : Int) + 7 + ns.getD ((a + 1 + j) % 20) 0) % 2147483647 / 11 % 1000)])), some (.sh (.int (j : Int)))], ?_, key _ _ _ _ hl hL _⟩
      unfold turn b1__law_row
      simp only [w_bnd, w_bndX, w_bndN, w_bndS, w_bndSX, w_bndSN, w_bndI, w_bndA, w_c, w_bin, w_un, w_nil, w_cons, w_fn, w_seq, w_nop, w_set, w_setO, w_ret, w_do, w_if, w_v0, w_o0, w_o0f, w_vs, w_clr0, w_clrs, w_nm, w_pr, w_add, w_sub, w_mul, w_addI, w_mulI, w_lt, w_le, w_gt, w_ge, w_truB, w_truI, w_truL, w_truT, w_truN, w_lenL, w_lenT, w_tupL, w_listT, w_listL, w_app, w_aug, w_for, List.set_cons_zero, List.set_cons_succ, List.getElem?_cons_zero, List.getElem?_cons_succ, List.length_cons, List.length_nil, Option.map_some, Option.map_none, Option.bind_some, Bool.or_true, Bool.true_or, eq_self, ite_true, ite_false, decide_true, decide_false, Int.reduceLT, Int.reduceLE, Int.reduceAdd, Int.reduceSub, Int.reduceMul, Int.reduceNeg, Nat.reduceAdd, Nat.reduceLT, Nat.reduceLeDiff, Nat.reduceEqDiff, reduceIte, w_mod, w_div, hc, hp, hm, hq, s1, s2, hlim, hlt, Int.zero_add, List.length_map]
    · refine ⟨[some (.sh (scr ns)), some (.sh (.int (a : Int))), some (.sh (.int (c / 1000))), some (.own (L.map .int ++ [.int (c % 1000)])), some (.sh (.int (j : Int)))], ?_, key _ _ _ _ hl hL _⟩
      unfold turn b1__law_row
      simp only [w_bnd, w_bndX, w_bndN, w_bndS, w_bndSX, w_bndSN, w_bndI, w_bndA, w_c, w_bin, w_un, w_nil, w_cons, w_fn, w_seq, w_nop, w_set, w_setO, w_ret, w_do, w_if, w_v0, w_o0, w_o0f, w_vs, w_clr0, w_clrs, w_nm, w_pr, w_add, w_sub, w_mul, w_addI, w_mulI, w_lt, w_le, w_gt, w_ge, w_truB, w_truI, w_truL, w_truT, w_truN, w_lenL, w_lenT, w_tupL, w_listT, w_listL, w_app, w_aug, w_for, List.set_cons_zero, List.set_cons_succ, List.getElem?_cons_zero, List.getElem?_cons_succ, List.length_cons, List.length_nil, Option.map_some, Option.map_none, Option.bind_some, Bool.or_true, Bool.true_or, eq_self, ite_true, ite_false, decide_true, decide_false, Int.reduceLT, Int.reduceLE, Int.reduceAdd, Int.reduceSub, Int.reduceMul, Int.reduceNeg, Nat.reduceAdd, Nat.reduceLT, Nat.reduceLeDiff, Nat.reduceEqDiff, reduceIte, w_mod, w_div, hc, hp, hm, hq, s1, s2, hlim, hlt, Int.zero_add, List.length_map])
  refine ⟨L, ?_, by simpa [rgL_length] using h3, h4⟩
  subst h2
  unfold F__law_row runB g__law_row t1__law_row t2__law_row t3__law_row
  have e : iRg1 (eC (.int 60)) false [some (.sh (scr ns)), some (.sh (.int (a : Int))), some (.sh (.int (ns.getD a 0))), some (.own []), none] = some (.it (rgL 0 60)) := rfl
  have e2 : start0 5 [scr ns, .int (a : Int)] = [some (.sh (scr ns)), some (.sh (.int (a : Int))), none, none, none] := rfl
  have e3 : ∀ ρ, eLst aNil true ρ = some (.val (.list [])) := fun _ => rfl
  simp only [w_bnd, w_bndX, w_bndN, w_bndS, w_bndSX, w_bndSN, w_bndI, w_bndA, w_c, w_bin, w_un, w_nil, w_cons, w_fn, w_seq, w_nop, w_set, w_setO, w_ret, w_do, w_if, w_v0, w_o0, w_o0f, w_vs, w_clr0, w_clrs, w_nm, w_pr, w_add, w_sub, w_mul, w_addI, w_mulI, w_lt, w_le, w_gt, w_ge, w_truB, w_truI, w_truL, w_truT, w_truN, w_lenL, w_lenT, w_tupL, w_listT, w_listL, w_app, w_aug, w_for, List.set_cons_zero, List.set_cons_succ, List.getElem?_cons_zero, List.getElem?_cons_succ, List.length_cons, List.length_nil, Option.map_some, Option.map_none, Option.bind_some, Bool.or_true, Bool.true_or, eq_self, ite_true, ite_false, decide_true, decide_false, Int.reduceLT, Int.reduceLE, Int.reduceAdd, Int.reduceSub, Int.reduceMul, Int.reduceNeg, Nat.reduceAdd, Nat.reduceLT, Nat.reduceLeDiff, Nat.reduceEqDiff, reduceIte, e2, hc, e, h1, e3]
/-! ## drawn tables -/
def pst (nums : List Int) (x : Int) : Nat → Int × Int
  | 0 => (0, 1)
  | i + 1 => ((pst nums x i).1 + nums.getD i 0 * (pst nums x i).2, (pst nums x i).2 * x)
def lval (m : Int) (nums : List Int) (x : Int) : Int := (pst nums x nums.length).1 % m
theorem w_lvalue (m : Int) (nums : List Int) (x : Int) (hm : 0 < m) (hs : ∀ y ∈ nums, -1000 ≤ y ∧ y ≤ 1000) (hx0 : -1000 ≤ x) (hx1 : x ≤ 1000) : F__law_value [.int m, tI' nums, .int x] = some (.val (.int (lval m nums x))) := by
  have hsx : sml x = true := sml_of (by omega) (by omega)
  obtain ⟨ρ', h1, j, h2⟩ := forL_inv (sl := [5]) (tg := gNm 5) (body := b1__law_value) (fun i ρ => ∃ j, ρ = [some (.sh (.int m)), some (.sh (tI' nums)), some (.sh (.int x)), some (.sh (.int (pst nums x i).1)), some (.sh (.int (pst nums x i).2)), j]) (nums.map .int) 0 [some (.sh (.int m)), some (.sh (tI' nums)), some (.sh (.int x)), some (.sh (.int 0)), some (.sh (.int 1)), none] ⟨none, rfl⟩ (by
    rintro i y ρ hy ⟨j, rfl⟩
    have hi : i < nums.length := by have := (List.getElem?_eq_some_iff.mp hy).1; rw [List.length_map] at this; exact this
    rw [get_map_int hi] at hy
    cases hy
    have hn := hs _ (getD_mem hi)
    have e1 : sml (nums.getD i 0) = true := sml_of (by omega) (by omega)
    refine ⟨_, ?_, some (.sh (.int (nums.getD i 0))), rfl⟩
    unfold turn b1__law_value
    simp only [w_bnd, w_bndX, w_bndN, w_bndS, w_bndSX, w_bndSN, w_bndI, w_bndA, w_c, w_bin, w_un, w_nil, w_cons, w_fn, w_seq, w_nop, w_set, w_setO, w_ret, w_do, w_if, w_v0, w_o0, w_o0f, w_vs, w_clr0, w_clrs, w_nm, w_pr, w_add, w_sub, w_mul, w_addI, w_mulI, w_lt, w_le, w_gt, w_ge, w_truB, w_truI, w_truL, w_truT, w_truN, w_lenL, w_lenT, w_tupL, w_listT, w_listL, w_app, w_aug, w_for, List.set_cons_zero, List.set_cons_succ, List.getElem?_cons_zero, List.getElem?_cons_succ, List.length_cons, List.length_nil, Option.map_some, Option.map_none, Option.bind_some, Bool.or_true, Bool.true_or, eq_self, ite_true, ite_false, decide_true, decide_false, Int.reduceLT, Int.reduceLE, Int.reduceAdd, Int.reduceSub, Int.reduceMul, Int.reduceNeg, Nat.reduceAdd, Nat.reduceLT, Nat.reduceLeDiff, Nat.reduceEqDiff, reduceIte, w_lim, w_tup, w_lst, w_unp, w_and, w_or, w_andT, w_orT, w_not, w_ife, w_chain, w_isi, w_neg, w_isN, w_notN, w_raise, w_un0, w_max2, w_intI, w_intB, w_par, Bool.not_true, Bool.not_false, Int.zero_add, Nat.zero_add, e1, hsx, pst])
  rw [List.length_map, Nat.zero_add] at h2
  subst h2
  have e2 : start0 6 [.int m, tI' nums, .int x] = [some (.sh (.int m)), some (.sh (tI' nums)), some (.sh (.int x)), none, none, none] := rfl
  have e3 : iSeq (eVar 1) false [some (.sh (.int m)), some (.sh (tI' nums)), some (.sh (.int x)), some (.sh (.int 0)), some (.sh (.int 1)), none] = some (.it (nums.map .int)) := rfl
  show runB 6 g__law_value _ = _
  unfold runB g__law_value t1__law_value t2__law_value lval
  simp only [w_bnd, w_bndX, w_bndN, w_bndS, w_bndSX, w_bndSN, w_bndI, w_bndA, w_c, w_bin, w_un, w_nil, w_cons, w_fn, w_seq, w_nop, w_set, w_setO, w_ret, w_do, w_if, w_v0, w_o0, w_o0f, w_vs, w_clr0, w_clrs, w_nm, w_pr, w_add, w_sub, w_mul, w_addI, w_mulI, w_lt, w_le, w_gt, w_ge, w_truB, w_truI, w_truL, w_truT, w_truN, w_lenL, w_lenT, w_tupL, w_listT, w_listL, w_app, w_aug, w_for, List.set_cons_zero, List.set_cons_succ, List.getElem?_cons_zero, List.getElem?_cons_succ, List.length_cons, List.length_nil, Option.map_some, Option.map_none, Option.bind_some, Bool.or_true, Bool.true_or, eq_self, ite_true, ite_false, decide_true, decide_false, Int.reduceLT, Int.reduceLE, Int.reduceAdd, Int.reduceSub, Int.reduceMul, Int.reduceNeg, Nat.reduceAdd, Nat.reduceLT, Nat.reduceLeDiff, Nat.reduceEqDiff, reduceIte, w_lim, w_tup, w_lst, w_unp, w_and, w_or, w_andT, w_orT, w_not, w_ife, w_chain, w_isi, w_neg, w_isN, w_notN, w_raise, w_un0, w_max2, w_intI, w_intB, w_par, Bool.not_true, Bool.not_false, Int.zero_add, Nat.zero_add, e2, e3, h1, w_mod hm]
theorem w_lnumbers (ns : List Int) (a : Nat) : ∃ nums : List Int, F__law_numbers [scr ns, .int (a : Int)] = some (.val (tI' nums)) ∧ nums.length ≤ 8 ∧ ∀ y ∈ nums, -20 ≤ y ∧ y ≤ 20 := by
  obtain ⟨L, h, hl, hb⟩ := w_row ns a
  have h0 := hb _ (getD_mem (i := 0) (by omega))
  have e0 : dIx (.list (L.map .int)) (.int 0) = some (.int (L.getD 0 0)) := w_ixLi (by omega) (by omega)
  have hk : (L.getD 0 0 % 9).toNat ≤ 8 := by omega
  refine ⟨(List.range (L.getD 0 0 % 9).toNat).map fun i => L.getD (1 + i) 0 % 41 - 20, ?_, by rw [List.length_map, List.length_range]; exact hk, fun y hy => ?_⟩
  · have hlc : lcL (eC (.bool true)) (eBin dSub (eBin dMod (eBin dIx (eVar 2) (eBin dAdd (eC (.int 1)) (eVar 3))) (eC (.int 41))) (eC (.int 20))) (gNm 3) [some (.sh (scr ns)), some (.sh (.int a)), some (.sh (.list (L.map .int))), none] (rgL 0 (L.getD 0 0 % 9).toNat) = some (((List.range (L.getD 0 0 % 9).toNat).map fun i => L.getD (1 + i) 0 % 41 - 20).map .int) := by
      refine lcL_rg _ (fun i => L.getD (1 + i) 0 % 41 - 20) fun i hi => ⟨_, rfl, ?_⟩
      have e1 : dIx (.list (L.map .int)) (.int (1 + (i : Int))) = some (.int (L.getD (1 + i) 0)) := by
        rw [w_ixLi (by omega) (by omega)]
        congr 2
      simp only [w_bnd, w_bndX, w_bndN, w_bndS, w_bndSX, w_bndSN, w_bndI, w_bndA, w_c, w_bin, w_un, w_nil, w_cons, w_fn, w_seq, w_nop, w_set, w_setO, w_ret, w_do, w_if, w_v0, w_o0, w_o0f, w_vs, w_clr0, w_clrs, w_nm, w_pr, w_add, w_sub, w_mul, w_addI, w_mulI, w_lt, w_le, w_gt, w_ge, w_truB, w_truI, w_truL, w_truT, w_truN, w_lenL, w_lenT, w_tupL, w_listT, w_listL, w_app, w_aug, w_for, List.set_cons_zero, List.set_cons_succ, List.getElem?_cons_zero, List.getElem?_cons_succ, List.length_cons, List.length_nil, Option.map_some, Option.map_none, Option.bind_some, Bool.or_true, Bool.true_or, eq_self, ite_true, ite_false, decide_true, decide_false, Int.reduceLT, Int.reduceLE, Int.reduceAdd, Int.reduceSub, Int.reduceMul, Int.reduceNeg, Nat.reduceAdd, Nat.reduceLT, Nat.reduceLeDiff, Nat.reduceEqDiff, reduceIte, w_lim, w_tup, w_lst, w_unp, w_and, w_or, w_andT, w_orT, w_not, w_ife, w_chain, w_isi, w_neg, w_isN, w_notN, w_raise, w_un0, w_max2, w_intI, w_intB, w_par, Bool.not_true, Bool.not_false, Int.zero_add, Nat.zero_add, e1, w_mod]
    have e2 : start0 4 [scr ns, .int (a : Int)] = [some (.sh (scr ns)), some (.sh (.int a)), none, none] := rfl
    have e3 : eLc [3] (gNm 3) (iRg1 (eBin dMod (eBin dIx (eVar 2) (eC (.int 0))) (eC (.int 9)))) (eC (.bool true)) (eBin dSub (eBin dMod (eBin dIx (eVar 2) (eBin dAdd (eC (.int 1)) (eVar 3))) (eC (.int 41))) (eC (.int 20))) true [some (.sh (scr ns)), some (.sh (.int a)), some (.sh (.list (L.map .int))), none] = some (.val (.list (((List.range (L.getD 0 0 % 9).toNat).map fun i => L.getD (1 + i) 0 % 41 - 20).map .int))) := by
      refine w_lc (w_rg1i (n := L.getD 0 0 % 9) ?_ (by omega) (by omega)) rfl (by rw [rgL_length]; unfold lim; omega) hlc
      simp only [w_bnd, w_bndX, w_bndN, w_bndS, w_bndSX, w_bndSN, w_bndI, w_bndA, w_c, w_bin, w_un, w_nil, w_cons, w_fn, w_seq, w_nop, w_set, w_setO, w_ret, w_do, w_if, w_v0, w_o0, w_o0f, w_vs, w_clr0, w_clrs, w_nm, w_pr, w_add, w_sub, w_mul, w_addI, w_mulI, w_lt, w_le, w_gt, w_ge, w_truB, w_truI, w_truL, w_truT, w_truN, w_lenL, w_lenT, w_tupL, w_listT, w_listL, w_app, w_aug, w_for, List.set_cons_zero, List.set_cons_succ, List.getElem?_cons_zero, List.getElem?_cons_succ, List.length_cons, List.length_nil, Option.map_some, Option.map_none, Option.bind_some, Bool.or_true, Bool.true_or, eq_self, ite_true, ite_false, decide_true, decide_false, Int.reduceLT, Int.reduceLE, Int.reduceAdd, Int.reduceSub, Int.reduceMul, Int.reduceNeg, Nat.reduceAdd, Nat.reduceLT, Nat.reduceLeDiff, Nat.reduceEqDiff, reduceIte, w_lim, w_tup, w_lst, w_unp, w_and, w_or, w_andT, w_orT, w_not, w_ife, w_chain, w_isi, w_neg, w_isN, w_notN, w_raise, w_un0, w_max2, w_intI, w_intB, w_par, Bool.not_true, Bool.not_false, Int.zero_add, Nat.zero_add, e0, w_mod]
    show runB 4 g__law_numbers _ = _
    unfold runB g__law_numbers t1__law_numbers
    simp only [w_bnd, w_bndX, w_bndN, w_bndS, w_bndSX, w_bndSN, w_bndI, w_bndA, w_c, w_bin, w_un, w_nil, w_cons, w_fn, w_seq, w_nop, w_set, w_setO, w_ret, w_do, w_if, w_v0, w_o0, w_o0f, w_vs, w_clr0, w_clrs, w_nm, w_pr, w_add, w_sub, w_mul, w_addI, w_mulI, w_lt, w_le, w_gt, w_ge, w_truB, w_truI, w_truL, w_truT, w_truN, w_lenL, w_lenT, w_tupL, w_listT, w_listL, w_app, w_aug, w_for, List.set_cons_zero, List.set_cons_succ, List.getElem?_cons_zero, List.getElem?_cons_succ, List.length_cons, List.length_nil, Option.map_some, Option.map_none, Option.bind_some, Bool.or_true, Bool.true_or, eq_self, ite_true, ite_false, decide_true, decide_false, Int.reduceLT, Int.reduceLE, Int.reduceAdd, Int.reduceSub, Int.reduceMul, Int.reduceNeg, Nat.reduceAdd, Nat.reduceLT, Nat.reduceLeDiff, Nat.reduceEqDiff, reduceIte, w_lim, w_tup, w_lst, w_unp, w_and, w_or, w_andT, w_orT, w_not, w_ife, w_chain, w_isi, w_neg, w_isN, w_notN, w_raise, w_un0, w_max2, w_intI, w_intB, w_par, Bool.not_true, Bool.not_false, Int.zero_add, Nat.zero_add, e2, h, e3]
  · obtain ⟨i, _, rfl⟩ := List.mem_map.mp hy
    omega
theorem w_ltable (m : Nat) (nums : List Int) (hm : 0 < m) (hm1 : m ≤ 1000) (hs : ∀ y ∈ nums, -1000 ≤ y ∧ y ≤ 1000) : F__law_table [.int m, tI' nums] = some (.val (tI' ((List.range m).map fun x => lval m nums (x : Nat)))) := by
  have hlc : lcL (eC (.bool true)) (eFn 3 F__law_value (aCons (eVar 0) (aCons (eVar 1) (aCons (eVar 2) aNil)))) (gNm 2) [some (.sh (.int m)), some (.sh (tI' nums)), none] (rgL 0 m) = some (((List.range m).map fun x => lval m nums (x : Nat)).map .int) := by
    refine lcL_rg _ _ fun i hi => ⟨_, rfl, ?_⟩
    have e1 := w_lvalue m nums i (by omega) hs (by omega) (by omega)
    simp only [w_bnd, w_bndX, w_bndN, w_bndS, w_bndSX, w_bndSN, w_bndI, w_bndA, w_c, w_bin, w_un, w_nil, w_cons, w_fn, w_seq, w_nop, w_set, w_setO, w_ret, w_do, w_if, w_v0, w_o0, w_o0f, w_vs, w_clr0, w_clrs, w_nm, w_pr, w_add, w_sub, w_mul, w_addI, w_mulI, w_lt, w_le, w_gt, w_ge, w_truB, w_truI, w_truL, w_truT, w_truN, w_lenL, w_lenT, w_tupL, w_listT, w_listL, w_app, w_aug, w_for, List.set_cons_zero, List.set_cons_succ, List.getElem?_cons_zero, List.getElem?_cons_succ, List.length_cons, List.length_nil, Option.map_some, Option.map_none, Option.bind_some, Bool.or_true, Bool.true_or, eq_self, ite_true, ite_false, decide_true, decide_false, Int.reduceLT, Int.reduceLE, Int.reduceAdd, Int.reduceSub, Int.reduceMul, Int.reduceNeg, Nat.reduceAdd, Nat.reduceLT, Nat.reduceLeDiff, Nat.reduceEqDiff, reduceIte, w_lim, w_tup, w_lst, w_unp, w_and, w_or, w_andT, w_orT, w_not, w_ife, w_chain, w_isi, w_neg, w_isN, w_notN, w_raise, w_un0, w_max2, w_intI, w_intB, w_par, Bool.not_true, Bool.not_false, Int.zero_add, Nat.zero_add, e1]
  have e2 : start0 3 [.int m, tI' nums] = [some (.sh (.int m)), some (.sh (tI' nums)), none] := rfl
  have e3 : eLc [2] (gNm 2) (iRg1 (eVar 0)) (eC (.bool true)) (eFn 3 F__law_value (aCons (eVar 0) (aCons (eVar 1) (aCons (eVar 2) aNil)))) true [some (.sh (.int m)), some (.sh (tI' nums)), none] = some (.val (.list (((List.range m).map fun x => lval m nums (x : Nat)).map .int))) :=
    w_lc (w_rg1 rfl (by omega)) rfl (by rw [rgL_length]; unfold lim; omega) hlc
  show runB 3 g__law_table _ = _
  unfold runB g__law_table
  simp only [w_bnd, w_bndX, w_bndN, w_bndS, w_bndSX, w_bndSN, w_bndI, w_bndA, w_c, w_bin, w_un, w_nil, w_cons, w_fn, w_seq, w_nop, w_set, w_setO, w_ret, w_do, w_if, w_v0, w_o0, w_o0f, w_vs, w_clr0, w_clrs, w_nm, w_pr, w_add, w_sub, w_mul, w_addI, w_mulI, w_lt, w_le, w_gt, w_ge, w_truB, w_truI, w_truL, w_truT, w_truN, w_lenL, w_lenT, w_tupL, w_listT, w_listL, w_app, w_aug, w_for, List.set_cons_zero, List.set_cons_succ, List.getElem?_cons_zero, List.getElem?_cons_succ, List.length_cons, List.length_nil, Option.map_some, Option.map_none, Option.bind_some, Bool.or_true, Bool.true_or, eq_self, ite_true, ite_false, decide_true, decide_false, Int.reduceLT, Int.reduceLE, Int.reduceAdd, Int.reduceSub, Int.reduceMul, Int.reduceNeg, Nat.reduceAdd, Nat.reduceLT, Nat.reduceLeDiff, Nat.reduceEqDiff, reduceIte, w_lim, w_tup, w_lst, w_unp, w_and, w_or, w_andT, w_orT, w_not, w_ife, w_chain, w_isi, w_neg, w_isN, w_notN, w_raise, w_un0, w_max2, w_intI, w_intB, w_par, Bool.not_true, Bool.not_false, Int.zero_add, Nat.zero_add, e2, e3]
def IsTab (m : Nat) (T : List Int) : Prop := T.length = m ∧ ∀ x ∈ T, 0 ≤ x ∧ x < m
theorem IsTab.get {m : Nat} {T : List Int} (h : IsTab m T) {i : Nat} (hi : i < m) : 0 ≤ T.getD i 0 ∧ T.getD i 0 < m := h.2 _ (getD_mem (by rw [h.1]; exact hi))
theorem IsTab.set {m : Nat} {T : List Int} (h : IsTab m T) (i : Nat) {x : Int} (h0 : 0 ≤ x) (h1 : x < m) : IsTab m (T.set i x) := ⟨by rw [List.length_set]; exact h.1, fun y hy => by
  rcases List.mem_or_eq_of_mem_set hy with z | z
  · exact h.2 y z
  · rw [z]; exact ⟨h0, h1⟩⟩
/-! ## drawn cases -/
theorem w_lcase (ns : List Int) (a most : Nat) (h2 : 2 ≤ most) (h12 : most ≤ 12) : ∃ (m : Nat) (T : List Int), F__law_case [scr ns, .int (a : Int), .int (most : Int)] = some (.val (.tuple [.int (m : Int), tI' T])) ∧ 2 ≤ m ∧ m ≤ most ∧ IsTab m T := by
  obtain ⟨L, h, hl, hb⟩ := w_row ns a
  obtain ⟨nums, hn, hnl, hnb⟩ := w_lnumbers ns (a + 1)
  have h0 := hb _ (getD_mem (i := 0) (by omega))
  have h1 := hb _ (getD_mem (i := 1) (by omega))
  have e0 : dIx (.list (L.map .int)) (.int 0) = some (.int (L.getD 0 0)) := w_ixLi (by omega) (by omega)
  have e1 : dIx (.list (L.map .int)) (.int 1) = some (.int (L.getD 1 0)) := w_ixLi (by omega) (by omega)
  have q0 : 0 ≤ L.getD 0 0 % ((most : Int) - 1) := Int.emod_nonneg _ (by omega)
  have q1 : L.getD 0 0 % ((most : Int) - 1) < (most : Int) - 1 := Int.emod_lt_of_pos _ (by omega)
  obtain ⟨m, hm⟩ : ∃ m : Nat, (m : Int) = 2 + L.getD 0 0 % ((most : Int) - 1) := ⟨(2 + L.getD 0 0 % ((most : Int) - 1)).toNat, Int.toNat_of_nonneg (by omega)⟩
  have hmp : (0 : Int) < m := by omega
  have hm2 : 2 ≤ m := by omega
  have hmm : m ≤ most := by omega
  have ht := w_ltable m nums (by omega) (by omega) fun y hy => by have := hnb y hy; omega
  have hT0 : IsTab m ((List.range m).map fun x => lval m nums (x : Nat)) := ⟨by rw [List.length_map, List.length_range], fun y hy => by
    obtain ⟨i, _, rfl⟩ := List.mem_map.mp hy
    exact ⟨Int.emod_nonneg _ (by omega), Int.emod_lt_of_pos _ hmp⟩⟩
  generalize (List.range m).map (fun x => lval m nums ((x : Nat) : Int)) = T0 at ht hT0
  obtain ⟨ρ', hf, T1, j6, j7, hρ, hj7, hT1⟩ := forL_inv (sl := [6]) (tg := gNm 6) (body := b1__law_case) (fun i ρ => ∃ T j6 j7, ρ = [some (.sh (scr ns)), some (.sh (.int a)), some (.sh (.int most)), some (.sh (.list (L.map .int))), some (.sh (.int m)), some (.own (T.map .int)), j6, j7] ∧ (j7 = none ∨ ∃ d, j7 = some (.sh d)) ∧ IsTab m T) (rgL 0 (L.getD 1 0 % 3).toNat) 0 [some (.sh (scr ns)), some (.sh (.int a)), some (.sh (.int most)), some (.sh (.list (L.map .int))), some (.sh (.int m)), some (.own (T0.map .int)), none, none] ⟨T0, none, none, rfl, .inl rfl, hT0⟩ (by
    rintro i y ρ hy ⟨T, j6, j7, rfl, _, hT⟩
    obtain ⟨hi, rfl⟩ := rgL_at hy
    have hi3 : i < 3 := by omega
    have e2 : dIx (.list (L.map .int)) (.int (2 + (i : Int))) = some (.int (L.getD (2 + i) 0)) := by rw [w_ixLi (by omega) (by omega)]; congr 2
    have e5 : dIx (.list (L.map .int)) (.int (5 + (i : Int))) = some (.int (L.getD (5 + i) 0)) := by rw [w_ixLi (by omega) (by omega)]; congr 2
    have p0 : 0 ≤ L.getD (2 + i) 0 % (m : Int) := Int.emod_nonneg _ (by omega)
    have p1 : L.getD (2 + i) 0 % (m : Int) < m := Int.emod_lt_of_pos _ hmp
    have et : dIx (.list (T.map .int)) (.int (L.getD (2 + i) 0 % (m : Int))) = some (.int (T.getD (L.getD (2 + i) 0 % (m : Int)).toNat 0)) := w_ixLi p0 (by rw [hT.1]; exact p1)
    have ex : ixN (T.map PyData.int).length (L.getD (2 + i) 0 % (m : Int)) = some (L.getD (2 + i) 0 % (m : Int)).toNat := ixN_lt p0 (by rw [List.length_map, hT.1]; exact p1)
    refine ⟨[some (.sh (scr ns)), some (.sh (.int a)), some (.sh (.int most)), some (.sh (.list (L.map .int))), some (.sh (.int m)), some (.own ((T.set (L.getD (2 + i) 0 % (m : Int)).toNat ((T.getD (L.getD (2 + i) 0 % (m : Int)).toNat 0 + L.getD (5 + i) 0) % m)).map .int)), some (.sh (.int i)), some (.sh (.int (L.getD (2 + i) 0 % (m : Int))))], ?_, _, _, _, rfl, .inr ⟨_, rfl⟩, hT.set _ (Int.emod_nonneg _ (by omega)) (Int.emod_lt_of_pos _ hmp)⟩
    unfold turn b1__law_case
    simp only [w_bnd, w_bndX, w_bndN, w_bndS, w_bndSX, w_bndSN, w_bndI, w_bndA, w_c, w_bin, w_un, w_nil, w_cons, w_fn, w_seq, w_nop, w_set, w_setO, w_ret, w_do, w_if, w_v0, w_o0, w_o0f, w_vs, w_clr0, w_clrs, w_nm, w_pr, w_add, w_sub, w_mul, w_addI, w_mulI, w_lt, w_le, w_gt, w_ge, w_truB, w_truI, w_truL, w_truT, w_truN, w_lenL, w_lenT, w_tupL, w_listT, w_listL, w_app, w_aug, w_for, List.set_cons_zero, List.set_cons_succ, List.getElem?_cons_zero, List.getElem?_cons_succ, List.length_cons, List.length_nil, Option.map_some, Option.map_none, Option.bind_some, Bool.or_true, Bool.true_or, eq_self, ite_true, ite_false, decide_true, decide_false, Int.reduceLT, Int.reduceLE, Int.reduceAdd, Int.reduceSub, Int.reduceMul, Int.reduceNeg, Nat.reduceAdd, Nat.reduceLT, Nat.reduceLeDiff, Nat.reduceEqDiff, reduceIte, w_lim, w_tup, w_lst, w_unp, w_and, w_or, w_andT, w_orT, w_not, w_ife, w_chain, w_isi, w_neg, w_isN, w_notN, w_raise, w_un0, w_max2, w_intI, w_intB, w_par, Bool.not_true, Bool.not_false, Int.zero_add, Nat.zero_add, w_put, e2, e5, et, ex, w_mod hmp, List.map_set])
  subst hρ
  have s0 : start0 8 [scr ns, .int (a : Int), .int (most : Int)] = [some (.sh (scr ns)), some (.sh (.int a)), some (.sh (.int most)), none, none, none, none, none] := rfl
  have hn' : F__law_numbers [scr ns, .int ((a : Int) + 1)] = some (.val (tI' nums)) := hn
  have hr : iRg1 (eBin dMod (eBin dIx (eVar 3) (eC (.int 1))) (eC (.int 3))) false [some (.sh (scr ns)), some (.sh (.int a)), some (.sh (.int most)), some (.sh (.list (L.map .int))), some (.sh (.int m)), some (.own (T0.map .int)), none, none] = some (.it (rgL 0 (L.getD 1 0 % 3).toNat)) := by
    refine w_rg1i (n := L.getD 1 0 % 3) ?_ (by omega) (by omega)
    simp only [w_bnd, w_bndX, w_bndN, w_bndS, w_bndSX, w_bndSN, w_bndI, w_bndA, w_c, w_bin, w_un, w_nil, w_cons, w_fn, w_seq, w_nop, w_set, w_setO, w_ret, w_do, w_if, w_v0, w_o0, w_o0f, w_vs, w_clr0, w_clrs, w_nm, w_pr, w_add, w_sub, w_mul, w_addI, w_mulI, w_lt, w_le, w_gt, w_ge, w_truB, w_truI, w_truL, w_truT, w_truN, w_lenL, w_lenT, w_tupL, w_listT, w_listL, w_app, w_aug, w_for, List.set_cons_zero, List.set_cons_succ, List.getElem?_cons_zero, List.getElem?_cons_succ, List.length_cons, List.length_nil, Option.map_some, Option.map_none, Option.bind_some, Bool.or_true, Bool.true_or, eq_self, ite_true, ite_false, decide_true, decide_false, Int.reduceLT, Int.reduceLE, Int.reduceAdd, Int.reduceSub, Int.reduceMul, Int.reduceNeg, Nat.reduceAdd, Nat.reduceLT, Nat.reduceLeDiff, Nat.reduceEqDiff, reduceIte, w_lim, w_tup, w_lst, w_unp, w_and, w_or, w_andT, w_orT, w_not, w_ife, w_chain, w_isi, w_neg, w_isN, w_notN, w_raise, w_un0, w_max2, w_intI, w_intB, w_par, Bool.not_true, Bool.not_false, Int.zero_add, Nat.zero_add, e1, w_mod]
  have hmod : dMod (.int (L.getD 0 0)) (.int ((most : Int) - 1)) = some (.int (L.getD 0 0 % ((most : Int) - 1))) := w_mod (by omega)
  have hd0 : ∀ x : Int, dEq (.int x) (.int 0) = some (.bool (decide (x = 0))) := fun x => w_eqI x 0
  by_cases h9 : L.getD 1 0 % 9 = 0
  · have hlc : lcL (eC (.bool true)) (eBin dMod (eBin dIx (eVar 3) (eBin dAdd (eC (.int 10)) (eVar 7))) (eVar 4)) (gNm 7) [some (.sh (scr ns)), some (.sh (.int a)), some (.sh (.int most)), some (.sh (.list (L.map .int))), some (.sh (.int m)), some (.own (T1.map .int)), j6, none] (rgL 0 m) = some (((List.range m).map fun i => L.getD (10 + i) 0 % (m : Int)).map .int) := by
      refine lcL_rg _ (fun i => L.getD (10 + i) 0 % (m : Int)) fun i hi => ⟨_, rfl, ?_⟩
      have e10 : dIx (.list (L.map .int)) (.int (10 + (i : Int))) = some (.int (L.getD (10 + i) 0)) := by rw [w_ixLi (by omega) (by omega)]; congr 2
      simp only [w_bnd, w_bndX, w_bndN, w_bndS, w_bndSX, w_bndSN, w_bndI, w_bndA, w_c, w_bin, w_un, w_nil, w_cons, w_fn, w_seq, w_nop, w_set, w_setO, w_ret, w_do, w_if, w_v0, w_o0, w_o0f, w_vs, w_clr0, w_clrs, w_nm, w_pr, w_add, w_sub, w_mul, w_addI, w_mulI, w_lt, w_le, w_gt, w_ge, w_truB, w_truI, w_truL, w_truT, w_truN, w_lenL, w_lenT, w_tupL, w_listT, w_listL, w_app, w_aug, w_for, List.set_cons_zero, List.set_cons_succ, List.getElem?_cons_zero, List.getElem?_cons_succ, List.length_cons, List.length_nil, Option.map_some, Option.map_none, Option.bind_some, Bool.or_true, Bool.true_or, eq_self, ite_true, ite_false, decide_true, decide_false, Int.reduceLT, Int.reduceLE, Int.reduceAdd, Int.reduceSub, Int.reduceMul, Int.reduceNeg, Nat.reduceAdd, Nat.reduceLT, Nat.reduceLeDiff, Nat.reduceEqDiff, reduceIte, w_lim, w_tup, w_lst, w_unp, w_and, w_or, w_andT, w_orT, w_not, w_ife, w_chain, w_isi, w_neg, w_isN, w_notN, w_raise, w_un0, w_max2, w_intI, w_intB, w_par, Bool.not_true, Bool.not_false, Int.zero_add, Nat.zero_add, e10, w_mod hmp]
    have hc : eLc [7] (gNm 7) (iRg1 (eVar 4)) (eC (.bool true)) (eBin dMod (eBin dIx (eVar 3) (eBin dAdd (eC (.int 10)) (eVar 7))) (eVar 4)) true [some (.sh (scr ns)), some (.sh (.int a)), some (.sh (.int most)), some (.sh (.list (L.map .int))), some (.sh (.int m)), some (.own (T1.map .int)), j6, j7] = some (.val (.list (((List.range m).map fun i => L.getD (10 + i) 0 % (m : Int)).map .int))) := by
      refine w_lc (w_rg1 rfl (by omega)) ?_ (by rw [rgL_length]; unfold lim; omega) hlc
      show ((match (some j7 : Option (Option SV)) with
        | some (some (.own _)) => false
        | _ => true) && true) = true
      rcases hj7 with rfl | ⟨d, rfl⟩ <;> rfl
    refine ⟨m, (List.range m).map fun i => L.getD (10 + i) 0 % (m : Int), ?_, hm2, hmm, by rw [List.length_map, List.length_range], fun y hy => ?_⟩
    · show runB 8 g__law_case _ = _
      unfold runB g__law_case t1__law_case t2__law_case t3__law_case t4__law_case t5__law_case
      simp only [w_bnd, w_bndX, w_bndN, w_bndS, w_bndSX, w_bndSN, w_bndI, w_bndA, w_c, w_bin, w_un, w_nil, w_cons, w_fn, w_seq, w_nop, w_set, w_setO, w_ret, w_do, w_if, w_v0, w_o0, w_o0f, w_vs, w_clr0, w_clrs, w_nm, w_pr, w_add, w_sub, w_mul, w_addI, w_mulI, w_lt, w_le, w_gt, w_ge, w_truB, w_truI, w_truL, w_truT, w_truN, w_lenL, w_lenT, w_tupL, w_listT, w_listL, w_app, w_aug, w_for, List.set_cons_zero, List.set_cons_succ, List.getElem?_cons_zero, List.getElem?_cons_succ, List.length_cons, List.length_nil, Option.map_some, Option.map_none, Option.bind_some, Bool.or_true, Bool.true_or, eq_self, ite_true, ite_false, decide_true, decide_false, Int.reduceLT, Int.reduceLE, Int.reduceAdd, Int.reduceSub, Int.reduceMul, Int.reduceNeg, Nat.reduceAdd, Nat.reduceLT, Nat.reduceLeDiff, Nat.reduceEqDiff, reduceIte, w_lim, w_tup, w_lst, w_unp, w_and, w_or, w_andT, w_orT, w_not, w_ife, w_chain, w_isi, w_neg, w_isN, w_notN, w_raise, w_un0, w_max2, w_intI, w_intB, w_par, Bool.not_true, Bool.not_false, Int.zero_add, Nat.zero_add, s0, h, e0, hmod, ← hm, hn', ht, hr, hf, e1, w_mod, hd0, h9, hc]
    · obtain ⟨i, _, rfl⟩ := List.mem_map.mp hy
      exact ⟨Int.emod_nonneg _ (by omega), Int.emod_lt_of_pos _ hmp⟩
  · refine ⟨m, T1, ?_, hm2, hmm, hT1⟩
    show runB 8 g__law_case _ = _
    unfold runB g__law_case t1__law_case t2__law_case t3__law_case t4__law_case t5__law_case
    simp only [w_bnd, w_bndX, w_bndN, w_bndS, w_bndSX, w_bndSN, w_bndI, w_bndA, w_c, w_bin, w_un, w_nil, w_cons, w_fn, w_seq, w_nop, w_set, w_setO, w_ret, w_do, w_if, w_v0, w_o0, w_o0f, w_vs, w_clr0, w_clrs, w_nm, w_pr, w_add, w_sub, w_mul, w_addI, w_mulI, w_lt, w_le, w_gt, w_ge, w_truB, w_truI, w_truL, w_truT, w_truN, w_lenL, w_lenT, w_tupL, w_listT, w_listL, w_app, w_aug, w_for, List.set_cons_zero, List.set_cons_succ, List.getElem?_cons_zero, List.getElem?_cons_succ, List.length_cons, List.length_nil, Option.map_some, Option.map_none, Option.bind_some, Bool.or_true, Bool.true_or, eq_self, ite_true, ite_false, decide_true, decide_false, Int.reduceLT, Int.reduceLE, Int.reduceAdd, Int.reduceSub, Int.reduceMul, Int.reduceNeg, Nat.reduceAdd, Nat.reduceLT, Nat.reduceLeDiff, Nat.reduceEqDiff, reduceIte, w_lim, w_tup, w_lst, w_unp, w_and, w_or, w_andT, w_orT, w_not, w_ife, w_chain, w_isi, w_neg, w_isN, w_notN, w_raise, w_un0, w_max2, w_intI, w_intB, w_par, Bool.not_true, Bool.not_false, Int.zero_add, Nat.zero_add, s0, h, e0, hmod, ← hm, hn', ht, hr, hf, e1, w_mod, hd0, h9]
/-! ## the program: checks -/
theorem w_inr (v lo hi : Int) : F_in_range [.int v, .int lo, .int hi] = some (.val (.bool (decide (lo ≤ v) && decide (v ≤ hi)))) := by
  have e2 : start0 3 [.int v, .int lo, .int hi] = [some (.sh (.int v)), some (.sh (.int lo)), some (.sh (.int hi))] := rfl
  have i1 : dIsi "int" (.int v) = true := by rfl
  have i2 : dIsi "bool" (.int v) = false := by rfl
  show runB 3 g_in_range _ = _
  unfold runB g_in_range
  by_cases h : lo ≤ v
  · simp only [w_bnd, w_bndX, w_bndN, w_bndS, w_bndSX, w_bndSN, w_bndI, w_bndA, w_c, w_bin, w_un, w_nil, w_cons, w_fn, w_seq, w_nop, w_set, w_setO, w_ret, w_do, w_if, w_v0, w_o0, w_o0f, w_vs, w_clr0, w_clrs, w_nm, w_pr, w_add, w_sub, w_mul, w_addI, w_mulI, w_lt, w_le, w_gt, w_ge, w_truB, w_truI, w_truL, w_truT, w_truN, w_lenL, w_lenT, w_tupL, w_listT, w_listL, w_app, w_aug, w_for, List.set_cons_zero, List.set_cons_succ, List.getElem?_cons_zero, List.getElem?_cons_succ, List.length_cons, List.length_nil, Option.map_some, Option.map_none, Option.bind_some, Bool.or_true, Bool.true_or, eq_self, ite_true, ite_false, decide_true, decide_false, Int.reduceLT, Int.reduceLE, Int.reduceAdd, Int.reduceSub, Int.reduceMul, Int.reduceNeg, Nat.reduceAdd, Nat.reduceLT, Nat.reduceLeDiff, Nat.reduceEqDiff, reduceIte, w_lim, w_tup, w_lst, w_unp, w_and, w_or, w_andT, w_orT, w_not, w_ife, w_chain, w_isi, w_neg, w_isN, w_notN, w_raise, w_un0, w_max2, w_intI, w_intB, w_par, Bool.not_true, Bool.not_false, Int.zero_add, Nat.zero_add, e2, i1, i2, h, Bool.true_and]
  · simp only [w_bnd, w_bndX, w_bndN, w_bndS, w_bndSX, w_bndSN, w_bndI, w_bndA, w_c, w_bin, w_un, w_nil, w_cons, w_fn, w_seq, w_nop, w_set, w_setO, w_ret, w_do, w_if, w_v0, w_o0, w_o0f, w_vs, w_clr0, w_clrs, w_nm, w_pr, w_add, w_sub, w_mul, w_addI, w_mulI, w_lt, w_le, w_gt, w_ge, w_truB, w_truI, w_truL, w_truT, w_truN, w_lenL, w_lenT, w_tupL, w_listT, w_listL, w_app, w_aug, w_for, List.set_cons_zero, List.set_cons_succ, List.getElem?_cons_zero, List.getElem?_cons_succ, List.length_cons, List.length_nil, Option.map_some, Option.map_none, Option.bind_some, Bool.or_true, Bool.true_or, eq_self, ite_true, ite_false, decide_true, decide_false, Int.reduceLT, Int.reduceLE, Int.reduceAdd, Int.reduceSub, Int.reduceMul, Int.reduceNeg, Nat.reduceAdd, Nat.reduceLT, Nat.reduceLeDiff, Nat.reduceEqDiff, reduceIte, w_lim, w_tup, w_lst, w_unp, w_and, w_or, w_andT, w_orT, w_not, w_ife, w_chain, w_isi, w_neg, w_isN, w_notN, w_raise, w_un0, w_max2, w_intI, w_intB, w_par, Bool.not_true, Bool.not_false, Int.zero_add, Nat.zero_add, e2, i1, i2, h, Bool.false_and]
theorem w_ckm (m : Nat) (h2 : 2 ≤ m) (h12 : m ≤ 12) : F_check_modulus [.int m] = some (.val .none) := by
  have e2 : start0 1 [.int m] = [some (.sh (.int m))] := rfl
  have hr := w_inr m 2 12
  have h1 : decide ((2 : Int) ≤ m) = true := decide_eq_true (by omega)
  have h3 : decide ((m : Int) ≤ 12) = true := decide_eq_true (by omega)
  rw [h1, h3] at hr
  show runB 1 g_check_modulus _ = _
  unfold runB g_check_modulus
  simp only [w_bnd, w_bndX, w_bndN, w_bndS, w_bndSX, w_bndSN, w_bndI, w_bndA, w_c, w_bin, w_un, w_nil, w_cons, w_fn, w_seq, w_nop, w_set, w_setO, w_ret, w_do, w_if, w_v0, w_o0, w_o0f, w_vs, w_clr0, w_clrs, w_nm, w_pr, w_add, w_sub, w_mul, w_addI, w_mulI, w_lt, w_le, w_gt, w_ge, w_truB, w_truI, w_truL, w_truT, w_truN, w_lenL, w_lenT, w_tupL, w_listT, w_listL, w_app, w_aug, w_for, List.set_cons_zero, List.set_cons_succ, List.getElem?_cons_zero, List.getElem?_cons_succ, List.length_cons, List.length_nil, Option.map_some, Option.map_none, Option.bind_some, Bool.or_true, Bool.true_or, eq_self, ite_true, ite_false, decide_true, decide_false, Int.reduceLT, Int.reduceLE, Int.reduceAdd, Int.reduceSub, Int.reduceMul, Int.reduceNeg, Nat.reduceAdd, Nat.reduceLT, Nat.reduceLeDiff, Nat.reduceEqDiff, reduceIte, w_lim, w_tup, w_lst, w_unp, w_and, w_or, w_andT, w_orT, w_not, w_ife, w_chain, w_isi, w_neg, w_isN, w_notN, w_raise, w_un0, w_max2, w_intI, w_intB, w_par, Bool.not_true, Bool.not_false, Int.zero_add, Nat.zero_add, e2, hr, Bool.true_and]
theorem w_valid (m : Nat) (T : List Int) (h2 : 2 ≤ m) (h12 : m ≤ 12) (hT : IsTab m T) : F_is_valid_table [.int m, tI' T] = some (.val (.bool true)) := by
  have e2 : start0 3 [.int m, tI' T] = [some (.sh (.int m)), some (.sh (tI' T)), none] := rfl
  have i1 : dIsi "tuple" (tI' T) = true := by rfl
  have hlc : lcL (eNot (eFn 3 F_in_range (aCons (eVar 2) (aCons (eC (.int 0)) (aCons (eBin dSub (eVar 0) (eC (.int 1))) aNil))))) (eVar 2) (gNm 2) [some (.sh (.int m)), some (.sh (tI' T)), none] (T.map .int) = some (((T.map PyData.int).filter fun _ => false).map fun d => d) := by
    refine lcL_filter (fun _ => false) (fun d => d) _ fun x hx => ?_
    obtain ⟨v, hv, rfl⟩ := List.mem_map.mp hx
    have hb := hT.2 v hv
    have hr := w_inr v 0 ((m : Int) - 1)
    rw [decide_eq_true hb.1, decide_eq_true (show v ≤ (m : Int) - 1 by omega)] at hr
    refine ⟨_, .bool false, rfl, ?_, rfl, fun z => nomatch z⟩
    simp only [w_bnd, w_bndX, w_bndN, w_bndS, w_bndSX, w_bndSN, w_bndI, w_bndA, w_c, w_bin, w_un, w_nil, w_cons, w_fn, w_seq, w_nop, w_set, w_setO, w_ret, w_do, w_if, w_v0, w_o0, w_o0f, w_vs, w_clr0, w_clrs, w_nm, w_pr, w_add, w_sub, w_mul, w_addI, w_mulI, w_lt, w_le, w_gt, w_ge, w_truB, w_truI, w_truL, w_truT, w_truN, w_lenL, w_lenT, w_tupL, w_listT, w_listL, w_app, w_aug, w_for, List.set_cons_zero, List.set_cons_succ, List.getElem?_cons_zero, List.getElem?_cons_succ, List.length_cons, List.length_nil, Option.map_some, Option.map_none, Option.bind_some, Bool.or_true, Bool.true_or, eq_self, ite_true, ite_false, decide_true, decide_false, Int.reduceLT, Int.reduceLE, Int.reduceAdd, Int.reduceSub, Int.reduceMul, Int.reduceNeg, Nat.reduceAdd, Nat.reduceLT, Nat.reduceLeDiff, Nat.reduceEqDiff, reduceIte, w_lim, w_tup, w_lst, w_unp, w_and, w_or, w_andT, w_orT, w_not, w_ife, w_chain, w_isi, w_neg, w_isN, w_notN, w_raise, w_un0, w_max2, w_intI, w_intB, w_par, Bool.not_true, Bool.not_false, Int.zero_add, Nat.zero_add, hr, Bool.true_and]
  have e3 : eLc [2] (gNm 2) (iSeq (eVar 1)) (eNot (eFn 3 F_in_range (aCons (eVar 2) (aCons (eC (.int 0)) (aCons (eBin dSub (eVar 0) (eC (.int 1))) aNil))))) (eVar 2) true [some (.sh (.int m)), some (.sh (tI' T)), none] = some (.val (.list [])) := by
    have hf : ((T.map PyData.int).filter fun _ => false).map (fun d => d) = [] := by simp
    rw [hf] at hlc
    exact w_lc (w_seqT rfl) rfl (by rw [List.length_map, hT.1]; unfold lim; omega) hlc
  show runB 3 g_is_valid_table _ = _
  unfold runB g_is_valid_table t1_is_valid_table
  simp only [w_bnd, w_bndX, w_bndN, w_bndS, w_bndSX, w_bndSN, w_bndI, w_bndA, w_c, w_bin, w_un, w_nil, w_cons, w_fn, w_seq, w_nop, w_set, w_setO, w_ret, w_do, w_if, w_v0, w_o0, w_o0f, w_vs, w_clr0, w_clrs, w_nm, w_pr, w_add, w_sub, w_mul, w_addI, w_mulI, w_lt, w_le, w_gt, w_ge, w_truB, w_truI, w_truL, w_truT, w_truN, w_lenL, w_lenT, w_tupL, w_listT, w_listL, w_app, w_aug, w_for, List.set_cons_zero, List.set_cons_succ, List.getElem?_cons_zero, List.getElem?_cons_succ, List.length_cons, List.length_nil, Option.map_some, Option.map_none, Option.bind_some, Bool.or_true, Bool.true_or, eq_self, ite_true, ite_false, decide_true, decide_false, Int.reduceLT, Int.reduceLE, Int.reduceAdd, Int.reduceSub, Int.reduceMul, Int.reduceNeg, Nat.reduceAdd, Nat.reduceLT, Nat.reduceLeDiff, Nat.reduceEqDiff, reduceIte, w_lim, w_tup, w_lst, w_unp, w_and, w_or, w_andT, w_orT, w_not, w_ife, w_chain, w_isi, w_neg, w_isN, w_notN, w_raise, w_un0, w_max2, w_intI, w_intB, w_par, Bool.not_true, Bool.not_false, Int.zero_add, Nat.zero_add, e2, i1, e3, List.length_map, hT.1, w_neI, List.isEmpty_nil]
theorem w_ckt (m : Nat) (T : List Int) (h2 : 2 ≤ m) (h12 : m ≤ 12) (hT : IsTab m T) : F_check_table [.int m, tI' T] = some (.val .none) := by
  have e2 : start0 2 [.int m, tI' T] = [some (.sh (.int m)), some (.sh (tI' T))] := rfl
  show runB 2 g_check_table _ = _
  unfold runB g_check_table t1_check_table
  simp only [w_bnd, w_bndX, w_bndN, w_bndS, w_bndSX, w_bndSN, w_bndI, w_bndA, w_c, w_bin, w_un, w_nil, w_cons, w_fn, w_seq, w_nop, w_set, w_setO, w_ret, w_do, w_if, w_v0, w_o0, w_o0f, w_vs, w_clr0, w_clrs, w_nm, w_pr, w_add, w_sub, w_mul, w_addI, w_mulI, w_lt, w_le, w_gt, w_ge, w_truB, w_truI, w_truL, w_truT, w_truN, w_lenL, w_lenT, w_tupL, w_listT, w_listL, w_app, w_aug, w_for, List.set_cons_zero, List.set_cons_succ, List.getElem?_cons_zero, List.getElem?_cons_succ, List.length_cons, List.length_nil, Option.map_some, Option.map_none, Option.bind_some, Bool.or_true, Bool.true_or, eq_self, ite_true, ite_false, decide_true, decide_false, Int.reduceLT, Int.reduceLE, Int.reduceAdd, Int.reduceSub, Int.reduceMul, Int.reduceNeg, Nat.reduceAdd, Nat.reduceLT, Nat.reduceLeDiff, Nat.reduceEqDiff, reduceIte, w_lim, w_tup, w_lst, w_unp, w_and, w_or, w_andT, w_orT, w_not, w_ife, w_chain, w_isi, w_neg, w_isN, w_notN, w_raise, w_un0, w_max2, w_intI, w_intB, w_par, Bool.not_true, Bool.not_false, Int.zero_add, Nat.zero_add, e2, w_ckm m h2 h12, w_valid m T h2 h12 hT]
/-! ## differences -/
def stp (m : Int) (row : List Int) : List Int := List.zipWith (fun lo hi => (hi - lo) % m) row row.tail
def dr (m : Int) : Nat → List Int → List Int
  | 0, _ => []
  | n + 1, row => row.headD 0 :: dr m n (stp m row)
theorem stp_len (m : Int) (row : List Int) : (stp m row).length = row.length - 1 := by
  unfold stp
  rw [List.length_zipWith, List.length_tail]
  omega
theorem lcL_zip {e : EF} {tg : GF} {ρ : En} (v : Int → Int → Int) : ∀ (l k : List Int), (∀ x y, ∃ ρ1, tg (.tuple [.int x, .int y]) ρ = some ρ1 ∧ e false ρ1 = some (.val (.int (v x y)))) → lcL (eC (.bool true)) e tg ρ (zipD (l.map .int) (k.map .int)) = some ((List.zipWith v l k).map .int)
  | [], _, _ => by simp [zipD, lcL]
  | _ :: _, [], _ => by simp [zipD, lcL]
  | x :: l, y :: k, H => by
    obtain ⟨ρ1, h1, h2⟩ := H x y
    have ih := lcL_zip v l k H
    unfold zipD at ih ⊢
    simp only [List.map_cons, List.zipWith_cons_cons, lcL, h1, w_c, w_truB, h2, ih, Option.map_some]
theorem cut_hi {α : Type} (xs : List α) (p : Nat) (h : p ≤ xs.length) : cut xs (some (p : Int)) none = xs.drop p := by
  unfold cut
  have e1 : HT.sIx xs.length 0 (some (p : Int)) = p := by
    rw [HT.sIx_nat]
    exact Nat.min_eq_left h
  have e2 : HT.sIx xs.length xs.length none = xs.length := rfl
  rw [e1, e2]
  exact List.take_of_length_le (by rw [List.length_drop]; omega)
theorem cut_lo {α : Type} (xs : List α) (p : Nat) (h : p ≤ xs.length) : cut xs none (some (p : Int)) = xs.take p := by
  unfold cut
  have e1 : HT.sIx xs.length xs.length (some (p : Int)) = p := by
    rw [HT.sIx_nat]
    exact Nat.min_eq_left h
  have e2 : HT.sIx xs.length 0 none = 0 := rfl
  rw [e1, e2]
  simp
def rot (T : List Int) (p : Nat) : List Int := T.drop p ++ T.take p
theorem rot_len (T : List Int) (p : Nat) : (rot T p).length = T.length := by
  unfold rot
  rw [List.length_append, List.length_drop, List.length_take]
  omega/-! ## the first fault -/
def dif : Nat → Nat → List Int → Int
  | 0, i, row => row.getD i 0
  | k + 1, i, row => dif k (i + 1) row - dif k i row
theorem stp_get (m : Int) (row : List Int) (i : Nat) (h : i + 1 < row.length) : (stp m row).getD i 0 = (row.getD (i + 1) 0 - row.getD i 0) % m := by
  have h1 : i < row.length := by omega
  unfold stp
  rw [List.getD_eq_getElem?_getD, List.getElem?_zipWith, List.getElem?_tail, List.getElem?_eq_getElem h1, List.getElem?_eq_getElem h, List.getD_eq_getElem?_getD, List.getD_eq_getElem?_getD, List.getElem?_eq_getElem h1, List.getElem?_eq_getElem h]
  rfl
theorem dif_stp (m : Int) (row : List Int) : ∀ (k i : Nat), i + k + 1 < row.length → dif k i (stp m row) % m = dif (k + 1) i row % m
  | 0, i, h => by
    show (stp m row).getD i 0 % m = (row.getD (i + 1) 0 - row.getD i 0) % m
    rw [stp_get m row i (by omega), Int.emod_emod_of_dvd _ (Int.dvd_refl m)]
  | k + 1, i, h => by
    have h1 := dif_stp m row k (i + 1) (by omega)
    have h2 := dif_stp m row k i (by omega)
    show (dif k (i + 1) (stp m row) - dif k i (stp m row)) % m = (dif (k + 1) (i + 1) row - dif (k + 1) i row) % m
    rw [Int.sub_emod, h1, h2, ← Int.sub_emod]
theorem dr_get (m : Int) : ∀ (n k : Nat) (row : List Int), row.length = n → k < n → (dr m n row).getD k 0 % m = dif k 0 row % m
  | n + 1, 0, row, h, _ => by
    cases row with
    | nil => cases h
    | cons x r => rfl
  | n + 1, k + 1, row, h, hk => by
    show (dr m n (stp m row)).getD k 0 % m = _
    rw [dr_get m n k (stp m row) (by rw [stp_len]; omega) (by omega)]
    exact dif_stp m row k 0 (by omega)
theorem dr_len (m : Int) : ∀ (n : Nat) (row : List Int), (dr m n row).length = n
  | 0, _ => rfl
  | n + 1, row => by show (dr m n (stp m row)).length + 1 = _; rw [dr_len]
theorem stp_rng {m : Int} (hm : 0 < m) {row : List Int} : ∀ x ∈ stp m row, 0 ≤ x ∧ x < m := fun x hx => by
  unfold stp at hx
  obtain ⟨i, hi⟩ := List.getElem?_of_mem hx
  rw [List.getElem?_zipWith] at hi
  split at hi
  · cases hi
    exact ⟨Int.emod_nonneg _ (by omega), Int.emod_lt_of_pos _ hm⟩
  · cases hi
theorem dr_rng {m : Int} (hm : 0 < m) : ∀ (n : Nat) (row : List Int), (∀ x ∈ row, 0 ≤ x ∧ x < m) → ∀ x ∈ dr m n row, 0 ≤ x ∧ x < m
  | 0, _, _, x, hx => nomatch hx
  | n + 1, row, h, x, hx => by
    rcases List.mem_cons.mp hx with e | hx
    · rw [e]
      cases row with
      | nil => exact ⟨Int.le_refl 0, hm⟩
      | cons y r => exact h y List.mem_cons_self
    · exact dr_rng hm n (stp m row) (stp_rng hm) x hx
/-- a difference, as the program has it -/
theorem dr_val {m : Int} (hm : 0 < m) {n k : Nat} {row : List Int} (hl : row.length = n) (hk : k < n) (h : ∀ x ∈ row, 0 ≤ x ∧ x < m) : (dr m n row).getD k 0 = dif k 0 row % m := by
  have hb := dr_rng hm n row h _ (getD_mem (i := k) (by rw [dr_len]; exact hk))
  rw [← dr_get m n k row hl hk, Int.emod_eq_of_lt hb.1 hb.2]
/-! ## data: plain, shallow -/
/-- plain, of at most that depth -/
def Sh (n : Nat) (d : Dt) : Prop := d.plain = true ∧ d.depth ≤ n
theorem Sh.int (n : Nat) (i : Int) : Sh n (.int i) := ⟨by simp [PyData.plain], by simp [PyData.depth]⟩
theorem Sh.none (n : Nat) : Sh n .none := ⟨by simp [PyData.plain], by simp [PyData.depth]⟩
theorem Sh.bool (n : Nat) (b : Bool) : Sh n (.bool b) := ⟨by simp [PyData.plain], by simp [PyData.depth]⟩
theorem Sh.str (n : Nat) (b : Str) : Sh n (.str b) := ⟨by simp [PyData.plain], by simp [PyData.depth]⟩
theorem Sh.all {n : Nat} : ∀ {l : List Dt}, (∀ d ∈ l, Sh n d) → PyData.plainAll l = true ∧ PyData.depthAll l ≤ n
  | [], _ => ⟨by simp [PyData.plainAll], by simp [PyData.depthAll]⟩
  | x :: l, h => by
    have h1 := h x List.mem_cons_self
    have h2 := Sh.all fun d hd => h d (List.mem_cons_of_mem _ hd)
    refine ⟨by rw [PyData.plainAll, h1.1, h2.1]; rfl, ?_⟩
    rw [PyData.depthAll]
    exact Nat.max_le.mpr ⟨h1.2, h2.2⟩
theorem Sh.list {n : Nat} {l : List Dt} (h : ∀ d ∈ l, Sh n d) : Sh (n + 1) (.list l) := by
  have := Sh.all h
  exact ⟨by rw [PyData.plain]; exact this.1, by rw [PyData.depth]; omega⟩
theorem Sh.tuple {n : Nat} {l : List Dt} (h : ∀ d ∈ l, Sh n d) : Sh (n + 1) (.tuple l) := by
  have := Sh.all h
  exact ⟨by rw [PyData.plain]; exact this.1, by rw [PyData.depth]; omega⟩
theorem Sh.mono {n m : Nat} {d : Dt} (h : Sh n d) (hm : n ≤ m) : Sh m d := ⟨h.1, Nat.le_trans h.2 hm⟩
theorem Sh.tI (l : List Int) (n : Nat) : Sh (n + 1) (tI' l) := Sh.tuple fun d hd => by
  obtain ⟨i, _, rfl⟩ := List.mem_map.mp hd
  exact Sh.int n i
theorem Sh.lI (l : List Int) (n : Nat) : Sh (n + 1) (.list (l.map .int)) := Sh.list fun d hd => by
  obtain ⟨i, _, rfl⟩ := List.mem_map.mp hd
  exact Sh.int n i
theorem eq_sh {a b : Dt} (ha : Sh 60 a) (hb : Sh 60 b) : dEq a b = some (.bool (PyData.eqv a b)) := by
  unfold dEq
  rw [if_pos]
  rw [ha.1, hb.1]
  simp [dep, ha.2]
theorem ne_sh {a b : Dt} (ha : Sh 60 a) (hb : Sh 60 b) : dNe a b = some (.bool (!PyData.eqv a b)) := by
  unfold dNe
  rw [if_pos]
  rw [ha.1, hb.1]
  simp [dep, ha.2]
theorem eqv_refl {a : Dt} (ha : a.plain = true) : PyData.eqv a a = true := SeqAt.eqv_refl_plain a ha
theorem eq_self {a : Dt} (ha : Sh 60 a) : dEq a a = some (.bool true) := by rw [eq_sh ha ha, eqv_refl ha.1]
theorem eqvI : ∀ (a b : List Int), PyData.eqvAll (a.map .int) (b.map .int) = decide (a = b)
  | [], [] => by simp [PyData.eqvAll]
  | [], _ :: _ => by simp [PyData.eqvAll]
  | _ :: _, [] => by simp [PyData.eqvAll]
  | x :: a, y :: b => by
    rw [List.map_cons, List.map_cons, PyData.eqvAll, eqvI a b, eqv_int]
    by_cases h1 : x = y <;> by_cases h2 : a = b <;> simp [h1, h2]
theorem w_eqT (a b : List Int) : dEq (tI' a) (tI' b) = some (.bool (decide (a = b))) := by
  rw [eq_sh ((Sh.tI a 0).mono (by omega)) ((Sh.tI b 0).mono (by omega)), PyData.eqv, eqvI]
theorem w_neT (a b : List Int) : dNe (tI' a) (tI' b) = some (.bool (!decide (a = b))) := by
  rw [ne_sh ((Sh.tI a 0).mono (by omega)) ((Sh.tI b 0).mono (by omega)), PyData.eqv, eqvI]
theorem w_eqL (a b : List Int) : dEq (.list (a.map .int)) (.list (b.map .int)) = some (.bool (decide (a = b))) := by
  rw [eq_sh ((Sh.lI a 0).mono (by omega)) ((Sh.lI b 0).mono (by omega)), PyData.eqv, eqvI]
theorem w_neL (a b : List Int) : dNe (.list (a.map .int)) (.list (b.map .int)) = some (.bool (!decide (a = b))) := by
  rw [ne_sh ((Sh.lI a 0).mono (by omega)) ((Sh.lI b 0).mono (by omega)), PyData.eqv, eqvI]
/-! a comprehension over a range, with a test -/
def pIx (p : Nat → Bool) : Dt → Bool
  | .int v => p v.toNat
  | _ => false
def vIx (v : Nat → Dt) : Dt → Dt
  | .int i => v i.toNat
  | y => y
theorem lcL_rgF {c e : EF} {tg : GF} {ρ : En} (n : Nat) (p : Nat → Bool) (v : Nat → Dt) (H : ∀ i, i < n → ∃ ρ1 d, tg (.int (i : Int)) ρ = some ρ1 ∧ c true ρ1 = some (.val d) ∧ tru d = some (p i) ∧ (p i = true → e false ρ1 = some (.val (v i)))) : lcL c e tg ρ (rgL 0 n) = some (((List.range n).filter p).map v) := by
  have hl := lcL_filter (c := c) (e := e) (tg := tg) (ρ := ρ) (pIx p) (vIx v) (rgL 0 n) fun x hx => by
    obtain ⟨i, hi, rfl⟩ := rgL_mem hx
    obtain ⟨ρ1, d, h1, h2, h3, h4⟩ := H i hi
    rw [Int.zero_add]
    refine ⟨ρ1, d, h1, h2, ?_, ?_⟩
    · show tru d = some (p (i : Int).toNat)
      rw [Int.toNat_natCast]; exact h3
    · show p (i : Int).toNat = true → e false ρ1 = some (.val (v (i : Int).toNat))
      rw [Int.toNat_natCast]; exact h4
  rw [hl]
  unfold rgL
  rw [List.filter_map, List.map_map]
  have e1 : (List.range n).filter (pIx p ∘ fun i => PyData.int (0 + ((i : Nat) : Int))) = (List.range n).filter p := by
    refine List.filter_congr fun i _ => ?_
    show p (0 + (i : Int)).toNat = p i
    congr 1
    omega
  rw [e1]
  congr 1
  refine List.map_congr_left fun i _ => ?_
  show v (0 + (i : Int)).toNat = v i
  congr 1
  omega
theorem enumD_get {xs : List Dt} {i : Nat} (h : i < xs.length) : (enumD xs)[i]? = some (.tuple [.int (0 + (i : Nat)), xs[i]]) := by
  unfold enumD
  rw [List.getElem?_zipWith, rgL_get h, List.getElem?_eq_getElem h]
theorem enumD_len (xs : List Dt) : (enumD xs).length = xs.length := by
  unfold enumD
  rw [List.length_zipWith, rgL_length]
  omega
theorem enumD_at {l : List Int} {i : Nat} {x : Dt} (h : (enumD (l.map .int))[i]? = some x) : i < l.length ∧ x = .tuple [.int (i : Nat), .int (l.getD i 0)] := by
  have hi : i < (l.map PyData.int).length := by
    have := (List.getElem?_eq_some_iff.mp h).1
    rw [enumD_len] at this
    exact this
  rw [enumD_get hi, Int.zero_add] at h
  have hi' : i < l.length := by rw [List.length_map] at hi; exact hi
  have a := get_map_int (l := l) hi'
  rw [List.getElem?_eq_getElem hi] at a
  rw [Option.some.inj a] at h
  exact ⟨hi', (Option.some.inj h).symm⟩
/-! ## any object -/
def inr (d : Dt) (lo hi : Int) : Bool := match d with
  | .int v => decide (lo ≤ v) && decide (v ≤ hi)
  | _ => false
theorem w_inrG (d : Dt) (lo hi : Int) : F_in_range [d, .int lo, .int hi] = some (.val (.bool (inr d lo hi))) := by
  cases d with
  | int v => exact w_inr v lo hi
  | none => rfl
  | bool b => rfl
  | str s => rfl
  | list l => rfl
  | tuple l => rfl
  | dict l => rfl
theorem isi_tuple (d : Dt) : dIsi "tuple" d = match d with
  | .tuple _ => true
  | _ => false := by cases d <;> rfl
/-! ## tables, any object -/
def tabOk (m : Nat) : Dt → Bool
  | .tuple ds => decide (ds.length = m) && (ds.filter fun d => !inr d 0 ((m : Int) - 1)).isEmpty
  | _ => false
theorem w_validG (m : Nat) (d : Dt) (h12 : m ≤ 12) : F_is_valid_table [.int m, d] = some (.val (.bool (tabOk m d))) := by
  refine run_rt ?_
  rw [show start0 3 [.int m, d] = [some (.sh (.int m)), some (.sh (d)), none] from rfl]
  unfold g_is_valid_table
  by_cases ht : ∃ ds, d = .tuple ds
  · obtain ⟨ds, rfl⟩ := ht
    have i1 : dIsi "tuple" (.tuple ds) = true := by rfl
    by_cases hl : ds.length = m
    · have hne : dNe (.int (ds.length : Int)) (.int (m : Int)) = some (.bool false) := by rw [w_neI, hl]; simp
      have hlc : lcL (eNot (eFn 3 F_in_range (aCons (eVar 2) (aCons (eC (.int 0)) (aCons (eBin dSub (eVar 0) (eC (.int 1))) (aNil)))))) (eVar 2) (gNm 2) [some (.sh (.int m)), some (.sh (.tuple ds)), none] ds = some ((ds.filter fun d => !inr d 0 ((m : Int) - 1)).map fun d => d) := by
        refine lcL_filter (fun d => !inr d 0 ((m : Int) - 1)) (fun d => d) _ fun x hx => ?_
        have hr := w_inrG x 0 ((m : Int) - 1)
        refine ⟨_, .bool (!inr x 0 ((m : Int) - 1)), rfl, ?_, rfl, fun z => rfl⟩
        simp only [w_bnd, w_bndX, w_bndN, w_bndS, w_bndSX, w_bndSN, w_bndI, w_bndA, w_c, w_bin, w_un, w_nil, w_cons, w_fn, w_seq, w_nop, w_set, w_setO, w_ret, w_do, w_if, w_v0, w_o0, w_o0f, w_vs, w_clr0, w_clrs, w_nm, w_pr, w_add, w_sub, w_mul, w_addI, w_mulI, w_lt, w_le, w_gt, w_ge, w_truB, w_truI, w_truL, w_truT, w_truN, w_lenL, w_lenT, w_tupL, w_listT, w_listL, w_app, w_aug, w_for, List.set_cons_zero, List.set_cons_succ, List.getElem?_cons_zero, List.getElem?_cons_succ, List.length_cons, List.length_nil, Option.map_some, Option.map_none, Option.bind_some, Bool.or_true, Bool.true_or, eq_self, ite_true, ite_false, decide_true, decide_false, Int.reduceLT, Int.reduceLE, Int.reduceAdd, Int.reduceSub, Int.reduceMul, Int.reduceNeg, Nat.reduceAdd, Nat.reduceLT, Nat.reduceLeDiff, Nat.reduceEqDiff, reduceIte, w_lim, w_tup, w_lst, w_unp, w_and, w_or, w_andT, w_orT, w_not, w_ife, w_chain, w_isi, w_neg, w_isN, w_notN, w_raise, w_un0, w_max2, w_intI, w_intB, w_par, Bool.not_true, Bool.not_false, Int.zero_add, Nat.zero_add, hr]
      rw [List.map_id'] at hlc
      have hc : (eLc [2] (gNm 2) (iSeq (eVar 1)) (eNot (eFn 3 F_in_range (aCons (eVar 2) (aCons (eC (.int 0)) (aCons (eBin dSub (eVar 0) (eC (.int 1))) (aNil)))))) (eVar 2)) true [some (.sh (.int m)), some (.sh (.tuple ds)), none] = some (.val (.list (ds.filter fun d => !inr d 0 ((m : Int) - 1)))) := w_lc (w_seqT rfl) rfl (by rw [hl]; unfold lim; omega) hlc
      refine (seq_nx (ρ' := [some (.sh (.int m)), some (.sh (.tuple ds)), none]) ?_).trans ?_
      · rw [if_f (d := .bool false)]
        · rfl
        · simp only [w_bnd, w_bndX, w_bndN, w_bndS, w_bndSX, w_bndSN, w_bndI, w_bndA, w_c, w_bin, w_un, w_nil, w_cons, w_fn, w_seq, w_nop, w_set, w_setO, w_ret, w_do, w_if, w_v0, w_o0, w_o0f, w_vs, w_clr0, w_clrs, w_nm, w_pr, w_add, w_sub, w_mul, w_addI, w_mulI, w_lt, w_le, w_gt, w_ge, w_truB, w_truI, w_truL, w_truT, w_truN, w_lenL, w_lenT, w_tupL, w_listT, w_listL, w_app, w_aug, w_for, List.set_cons_zero, List.set_cons_succ, List.getElem?_cons_zero, List.getElem?_cons_succ, List.length_cons, List.length_nil, Option.map_some, Option.map_none, Option.bind_some, Bool.or_true, Bool.true_or, eq_self, ite_true, ite_false, decide_true, decide_false, Int.reduceLT, Int.reduceLE, Int.reduceAdd, Int.reduceSub, Int.reduceMul, Int.reduceNeg, Nat.reduceAdd, Nat.reduceLT, Nat.reduceLeDiff, Nat.reduceEqDiff, reduceIte, w_lim, w_tup, w_lst, w_unp, w_and, w_or, w_andT, w_orT, w_not, w_ife, w_chain, w_isi, w_neg, w_isN, w_notN, w_raise, w_un0, w_max2, w_intI, w_intB, w_par, Bool.not_true, Bool.not_false, Int.zero_add, Nat.zero_add, i1, hne]
        · rfl
      · unfold t1_is_valid_table
        refine ret_v ?_
        have ee : (!(!(ds.filter fun d => !inr d 0 ((m : Int) - 1)).isEmpty)) = tabOk m (.tuple ds) := by
          show _ = (decide (ds.length = m) && (ds.filter fun d => !inr d 0 ((m : Int) - 1)).isEmpty)
          rw [decide_eq_true hl, Bool.true_and, Bool.not_not]
        simp only [w_bnd, w_bndX, w_bndN, w_bndS, w_bndSX, w_bndSN, w_bndI, w_bndA, w_c, w_bin, w_un, w_nil, w_cons, w_fn, w_seq, w_nop, w_set, w_setO, w_ret, w_do, w_if, w_v0, w_o0, w_o0f, w_vs, w_clr0, w_clrs, w_nm, w_pr, w_add, w_sub, w_mul, w_addI, w_mulI, w_lt, w_le, w_gt, w_ge, w_truB, w_truI, w_truL, w_truT, w_truN, w_lenL, w_lenT, w_tupL, w_listT, w_listL, w_app, w_aug, w_for, List.set_cons_zero, List.set_cons_succ, List.getElem?_cons_zero, List.getElem?_cons_succ, List.length_cons, List.length_nil, Option.map_some, Option.map_none, Option.bind_some, Bool.or_true, Bool.true_or, eq_self, ite_true, ite_false, decide_true, decide_false, Int.reduceLT, Int.reduceLE, Int.reduceAdd, Int.reduceSub, Int.reduceMul, Int.reduceNeg, Nat.reduceAdd, Nat.reduceLT, Nat.reduceLeDiff, Nat.reduceEqDiff, reduceIte, w_lim, w_tup, w_lst, w_unp, w_and, w_or, w_andT, w_orT, w_not, w_ife, w_chain, w_isi, w_neg, w_isN, w_notN, w_raise, w_un0, w_max2, w_intI, w_intB, w_par, Bool.not_true, Bool.not_false, Int.zero_add, Nat.zero_add, hc, ee]
    · have hne : dNe (.int (ds.length : Int)) (.int (m : Int)) = some (.bool true) := by rw [w_neI, decide_eq_false (by omega)]; rfl
      have ep : tabOk m (.tuple ds) = false := by
        show (decide (ds.length = m) && _) = false
        rw [decide_eq_false hl, Bool.false_and]
      rw [ep, seq_rt (d := .bool false)]
      rw [if_t (d := .bool true)]
      · rfl
      · simp only [w_bnd, w_bndX, w_bndN, w_bndS, w_bndSX, w_bndSN, w_bndI, w_bndA, w_c, w_bin, w_un, w_nil, w_cons, w_fn, w_seq, w_nop, w_set, w_setO, w_ret, w_do, w_if, w_v0, w_o0, w_o0f, w_vs, w_clr0, w_clrs, w_nm, w_pr, w_add, w_sub, w_mul, w_addI, w_mulI, w_lt, w_le, w_gt, w_ge, w_truB, w_truI, w_truL, w_truT, w_truN, w_lenL, w_lenT, w_tupL, w_listT, w_listL, w_app, w_aug, w_for, List.set_cons_zero, List.set_cons_succ, List.getElem?_cons_zero, List.getElem?_cons_succ, List.length_cons, List.length_nil, Option.map_some, Option.map_none, Option.bind_some, Bool.or_true, Bool.true_or, eq_self, ite_true, ite_false, decide_true, decide_false, Int.reduceLT, Int.reduceLE, Int.reduceAdd, Int.reduceSub, Int.reduceMul, Int.reduceNeg, Nat.reduceAdd, Nat.reduceLT, Nat.reduceLeDiff, Nat.reduceEqDiff, reduceIte, w_lim, w_tup, w_lst, w_unp, w_and, w_or, w_andT, w_orT, w_not, w_ife, w_chain, w_isi, w_neg, w_isN, w_notN, w_raise, w_un0, w_max2, w_intI, w_intB, w_par, Bool.not_true, Bool.not_false, Int.zero_add, Nat.zero_add, i1, hne]
      · rfl
  · have i1 : dIsi "tuple" d = false := by
      rw [isi_tuple]
      cases d with
      | tuple ds => exact absurd ⟨ds, rfl⟩ ht
      | _ => rfl
    have ep : tabOk m d = false := by
      cases d with
      | tuple ds => exact absurd ⟨ds, rfl⟩ ht
      | _ => rfl
    rw [ep, seq_rt (d := .bool false)]
    rw [if_t (d := .bool true)]
    · rfl
    · simp only [w_bnd, w_bndX, w_bndN, w_bndS, w_bndSX, w_bndSN, w_bndI, w_bndA, w_c, w_bin, w_un, w_nil, w_cons, w_fn, w_seq, w_nop, w_set, w_setO, w_ret, w_do, w_if, w_v0, w_o0, w_o0f, w_vs, w_clr0, w_clrs, w_nm, w_pr, w_add, w_sub, w_mul, w_addI, w_mulI, w_lt, w_le, w_gt, w_ge, w_truB, w_truI, w_truL, w_truT, w_truN, w_lenL, w_lenT, w_tupL, w_listT, w_listL, w_app, w_aug, w_for, List.set_cons_zero, List.set_cons_succ, List.getElem?_cons_zero, List.getElem?_cons_succ, List.length_cons, List.length_nil, Option.map_some, Option.map_none, Option.bind_some, Bool.or_true, Bool.true_or, eq_self, ite_true, ite_false, decide_true, decide_false, Int.reduceLT, Int.reduceLE, Int.reduceAdd, Int.reduceSub, Int.reduceMul, Int.reduceNeg, Nat.reduceAdd, Nat.reduceLT, Nat.reduceLeDiff, Nat.reduceEqDiff, reduceIte, w_lim, w_tup, w_lst, w_unp, w_and, w_or, w_andT, w_orT, w_not, w_ife, w_chain, w_isi, w_neg, w_isN, w_notN, w_raise, w_un0, w_max2, w_intI, w_intB, w_par, Bool.not_true, Bool.not_false, Int.zero_add, Nat.zero_add, i1]
    · rfl
theorem tab_ok {m : Nat} {T : List Int} (hT : IsTab m T) : tabOk m (tI' T) = true := by
  show (decide ((T.map PyData.int).length = m) && ((T.map PyData.int).filter fun d => !inr d 0 ((m : Int) - 1)).isEmpty) = true
  rw [decide_eq_true (by rw [List.length_map]; exact hT.1), Bool.true_and, List.isEmpty_iff, List.filter_eq_nil_iff]
  intro x hx
  obtain ⟨v, hv, rfl⟩ := List.mem_map.mp hx
  have := hT.2 v hv
  show ¬ (!(decide ((0 : Int) ≤ v) && decide (v ≤ (m : Int) - 1))) = true
  rw [decide_eq_true this.1, decide_eq_true (by omega)]
  decide
theorem tab_len {m : Nat} {ds : List Dt} (h : ds.length ≠ m) : tabOk m (.tuple ds) = false := by
  show (decide (ds.length = m) && _) = false
  rw [decide_eq_false h, Bool.false_and]
theorem tab_mem {m : Nat} {ds : List Dt} {d : Dt} (h : d ∈ ds) (hb : inr d 0 ((m : Int) - 1) = false) : tabOk m (.tuple ds) = false := by
  show (decide (ds.length = m) && (ds.filter fun d => !inr d 0 ((m : Int) - 1)).isEmpty) = false
  have hf : d ∈ ds.filter fun d => !inr d 0 ((m : Int) - 1) := List.mem_filter.mpr ⟨h, by rw [hb]; rfl⟩
  cases e : ds.filter fun d => !inr d 0 ((m : Int) - 1) with
  | nil => rw [e] at hf; cases hf
  | cons _ _ => simp
theorem w_ckt_bad (m : Nat) (d : Dt) (h2 : 2 ≤ m) (h12 : m ≤ 12) (hb : tabOk m d = false) : F_check_table [.int m, d] = some (.exc "InvalidTable" none) := by
  have hv := w_validG m d h12
  rw [hb] at hv
  refine run_ex ?_
  rw [show start0 2 [.int m, d] = [some (.sh (.int m)), some (.sh (d))] from rfl]
  unfold g_check_table
  rw [seq_nx (do_v (d := .none) (by simp only [w_bnd, w_bndX, w_bndN, w_bndS, w_bndSX, w_bndSN, w_bndI, w_bndA, w_c, w_bin, w_un, w_nil, w_cons, w_fn, w_seq, w_nop, w_set, w_setO, w_ret, w_do, w_if, w_v0, w_o0, w_o0f, w_vs, w_clr0, w_clrs, w_nm, w_pr, w_add, w_sub, w_mul, w_addI, w_mulI, w_lt, w_le, w_gt, w_ge, w_truB, w_truI, w_truL, w_truT, w_truN, w_lenL, w_lenT, w_tupL, w_listT, w_listL, w_app, w_aug, w_for, List.set_cons_zero, List.set_cons_succ, List.getElem?_cons_zero, List.getElem?_cons_succ, List.length_cons, List.length_nil, Option.map_some, Option.map_none, Option.bind_some, Bool.or_true, Bool.true_or, eq_self, ite_true, ite_false, decide_true, decide_false, Int.reduceLT, Int.reduceLE, Int.reduceAdd, Int.reduceSub, Int.reduceMul, Int.reduceNeg, Nat.reduceAdd, Nat.reduceLT, Nat.reduceLeDiff, Nat.reduceEqDiff, reduceIte, w_lim, w_tup, w_lst, w_unp, w_and, w_or, w_andT, w_orT, w_not, w_ife, w_chain, w_isi, w_neg, w_isN, w_notN, w_raise, w_un0, w_max2, w_intI, w_intB, w_par, Bool.not_true, Bool.not_false, Int.zero_add, Nat.zero_add, w_ckm m h2 h12]))]
  unfold t1_check_table
  rw [if_t (d := .bool true)]
  · rfl
  · simp only [w_bnd, w_bndX, w_bndN, w_bndS, w_bndSX, w_bndSN, w_bndI, w_bndA, w_c, w_bin, w_un, w_nil, w_cons, w_fn, w_seq, w_nop, w_set, w_setO, w_ret, w_do, w_if, w_v0, w_o0, w_o0f, w_vs, w_clr0, w_clrs, w_nm, w_pr, w_add, w_sub, w_mul, w_addI, w_mulI, w_lt, w_le, w_gt, w_ge, w_truB, w_truI, w_truL, w_truT, w_truN, w_lenL, w_lenT, w_tupL, w_listT, w_listL, w_app, w_aug, w_for, List.set_cons_zero, List.set_cons_succ, List.getElem?_cons_zero, List.getElem?_cons_succ, List.length_cons, List.length_nil, Option.map_some, Option.map_none, Option.bind_some, Bool.or_true, Bool.true_or, eq_self, ite_true, ite_false, decide_true, decide_false, Int.reduceLT, Int.reduceLE, Int.reduceAdd, Int.reduceSub, Int.reduceMul, Int.reduceNeg, Nat.reduceAdd, Nat.reduceLT, Nat.reduceLeDiff, Nat.reduceEqDiff, reduceIte, w_lim, w_tup, w_lst, w_unp, w_and, w_or, w_andT, w_orT, w_not, w_ife, w_chain, w_isi, w_neg, w_isN, w_notN, w_raise, w_un0, w_max2, w_intI, w_intB, w_par, Bool.not_true, Bool.not_false, Int.zero_add, Nat.zero_add, hv]
  · rfl
theorem inr_m (m : Nat) : inr (.int (m : Int)) 0 ((m : Int) - 1) = false := by
  show (decide ((0 : Int) ≤ m) && decide ((m : Int) ≤ (m : Int) - 1)) = false
  rw [decide_eq_false (p := (m : Int) ≤ (m : Int) - 1) (by omega), Bool.and_false]
/-! ## comprehensions over any list -/
theorem lcL_gen {α : Type} {c e : EF} {tg : GF} {ρ : En} (enc : α → Dt) (p : α → Bool) (v : α → Dt) (Z : List α) (H : ∀ t ∈ Z, ∃ ρ1 d, tg (enc t) ρ = some ρ1 ∧ c true ρ1 = some (.val d) ∧ tru d = some (p t) ∧ (p t = true → e false ρ1 = some (.val (v t)))) : lcL c e tg ρ (Z.map enc) = some ((Z.filter p).map v) := by
  induction Z with
  | nil => rfl
  | cons t Z ih =>
    obtain ⟨ρ1, d, h1, h2, h3, h4⟩ := H t List.mem_cons_self
    have ih' := ih fun y hy => H y (List.mem_cons_of_mem _ hy)
    rw [List.map_cons]
    unfold lcL
    simp only [h1, h2, h3]
    cases hp : p t with
    | true => simp only [h4 hp, ih', List.filter_cons, hp, if_true, Option.map_some, List.map_cons]
    | false => simp [ih', List.filter_cons, hp]
theorem lcL_genT {α : Type} {e : EF} {tg : GF} {ρ : En} (enc : α → Dt) (v : α → Dt) (Z : List α) (H : ∀ t ∈ Z, ∃ ρ1, tg (enc t) ρ = some ρ1 ∧ e false ρ1 = some (.val (v t))) : lcL (eC (.bool true)) e tg ρ (Z.map enc) = some (Z.map v) := by
  have := lcL_gen (c := eC (.bool true)) (e := e) (tg := tg) (ρ := ρ) enc (fun _ => true) v Z fun t ht => by
    obtain ⟨ρ1, h1, h2⟩ := H t ht
    exact ⟨ρ1, .bool true, h1, rfl, rfl, fun _ => h2⟩
  rw [this, List.filter_eq_self.mpr fun _ _ => rfl]
end PT

namespace PT
open PySem PySem.Spec PyProof.Rows L2
/-! ## texts: numbers, joined and split -/
/-- what str(n) gives -/
abbrev sI (n : Int) : Str := Str.ofString (toString n)
def pnL : List Nat → Option Nat
  | [a] => if 48 ≤ a ∧ a ≤ 57 then some (a - 48) else none
  | [a, b] => if (48 ≤ a ∧ a ≤ 57) ∧ (48 ≤ b ∧ b ≤ 57) ∧ a ≠ 48 then some ((a - 48) * 10 + (b - 48)) else none
  | _ => none
/-- the number that a token stands for -/
def pn (z : Str) : Option Nat := pnL (TL.tl z)
def oN : Option Nat → Dt
  | none => .none
  | some n => .int (n : Nat)
def dig (c : Nat) : Bool := decide (48 ≤ c ∧ c ≤ 57)
theorem dig1 : ∀ i : Nat, i < 10 → PySem.intText? ⟨#[48 + i]⟩ = some (i : Int) ∧ sI (i : Nat) = ⟨#[48 + i]⟩ := by decide +kernel
theorem dig2 : ∀ i : Nat, i < 10 → ∀ j : Nat, j < 10 → PySem.intText? ⟨#[48 + i, 48 + j]⟩ = some ((i * 10 + j : Nat) : Int) ∧ (i ≠ 0 → sI ((i * 10 + j : Nat)) = ⟨#[48 + i, 48 + j]⟩) ∧ (i = 0 → sI ((i * 10 + j : Nat)) ≠ ⟨#[48 + i, 48 + j]⟩) := by decide +kernel
theorem str_of {z : Str} {l : List Nat} (h : TL.tl z = l) : z = ⟨l.toArray⟩ := TL.ext_tl (by rw [TL.tl_mk]; exact h)
theorem pn_sI {z : Str} {n : Nat} (h : pn z = some n) : z = sI (n : Nat) ∧ n < 100 := by
  unfold pn at h
  generalize hl : TL.tl z = l at h
  rw [str_of hl]
  match l, h with
  | [a], h =>
    simp only [pnL] at h
    split at h
    · rename_i hc
      cases h
      obtain ⟨i, rfl⟩ : ∃ i, a = 48 + i := ⟨a - 48, by omega⟩
      rw [Nat.add_sub_cancel_left]
      exact ⟨(dig1 i (by omega)).2.symm, by omega⟩
    · cases h
  | [a, b], h =>
    simp only [pnL] at h
    split at h
    · rename_i hc
      cases h
      obtain ⟨i, rfl⟩ : ∃ i, a = 48 + i := ⟨a - 48, by omega⟩
      obtain ⟨j, rfl⟩ : ∃ j, b = 48 + j := ⟨b - 48, by omega⟩
      rw [Nat.add_sub_cancel_left, Nat.add_sub_cancel_left]
      exact ⟨((dig2 i (by omega) j (by omega)).2.1 (by omega)).symm, by omega⟩
    · cases h
/-- the texts of small numbers -/
theorem sI_ok : ∀ n : Nat, n < 100 → pn (sI (n : Nat)) = some n ∧ (sI (n : Nat)).length ≤ 2 ∧ (TL.tl (sI (n : Nat))).all dig = true := by decide +kernel
theorem dig_no {l : List Nat} (h : l.all dig = true) {c : Nat} (hc : dig c = false) : c ∉ l := fun hm => by
  have := List.all_eq_true.mp h c hm
  rw [hc] at this
  cases this
theorem w_notDig (c : Nat) : dNotIn (.str ⟨#[c]⟩) (.str "0123456789") = some (.bool (!dig c)) := by
  show some (PyData.bool (!(!(Builtin.Str.occurrences ("0123456789" : Str) ⟨#[c]⟩ 0 ("0123456789" : Str).length 1).isEmpty))) = _
  rw [PySem.StrLaws.found_one]
  have e : ("0123456789" : Str).cps.toList = [48, 49, 50, 51, 52, 53, 54, 55, 56, 57] := by decide +kernel
  rw [e]
  congr 3
  unfold dig
  rw [decide_eq_decide]
  simp only [List.mem_cons, List.not_mem_nil, or_false]
  omega
theorem w_pn (z : Str) (hz : z.length ≤ 1000000) : F_parse_number [.str z] = some (.val (oN (pn z))) := by
  have hlen : dLen (.str z) = some (.int z.length) := by
    show (if z.length ≤ lim then some (PyData.int z.length) else none) = _
    rw [if_pos (by unfold lim; exact hz)]
  have hl := TL.len_tl z
  refine run_rt ?_
  rw [show start0 2 [.str z] = [some (.sh (.str z)), none] from rfl]
  unfold g_parse_number
  by_cases hc : 1 ≤ z.length ∧ z.length ≤ 2
  · have c1 : (1 : Int) ≤ (z.length : Int) := by omega
    have c2 : (z.length : Int) ≤ 2 := by omega
    have lc : (eLc [1] (gNm 1) (iStrF (eVar 0)) (eBin dNotIn (eVar 1) (eC (.str "0123456789"))) (eVar 1)) true [some (.sh (.str z)), none] = some (.val (.list (((TL.tl z).filter fun c => !dig c).map fun c => .str ⟨#[c]⟩))) := by
      have hl2 : lcL (eBin dNotIn (eVar 1) (eC (.str "0123456789"))) (eVar 1) (gNm 1) [some (.sh (.str z)), none] (sgL z) = some (((TL.tl z).filter fun c => !dig c).map fun c => .str ⟨#[c]⟩) := by
        refine lcL_gen (fun c => PyData.str ⟨#[c]⟩) (fun c => !dig c) _ (TL.tl z) fun c _ => ⟨_, .bool (!dig c), rfl, ?_, rfl, fun _ => rfl⟩
        simp only [w_bnd, w_bndX, w_bndN, w_bndS, w_bndSX, w_bndSN, w_bndI, w_bndA, w_c, w_bin, w_un, w_nil, w_cons, w_fn, w_seq, w_nop, w_set, w_setO, w_ret, w_do, w_if, w_v0, w_o0, w_o0f, w_vs, w_clr0, w_clrs, w_nm, w_pr, w_add, w_sub, w_mul, w_addI, w_mulI, w_lt, w_le, w_gt, w_ge, w_truB, w_truI, w_truL, w_truT, w_truN, w_lenL, w_lenT, w_tupL, w_listT, w_listL, w_app, w_aug, w_for, List.set_cons_zero, List.set_cons_succ, List.getElem?_cons_zero, List.getElem?_cons_succ, List.length_cons, List.length_nil, Option.map_some, Option.map_none, Option.bind_some, Bool.or_true, Bool.true_or, eq_self, ite_true, ite_false, decide_true, decide_false, Int.reduceLT, Int.reduceLE, Int.reduceAdd, Int.reduceSub, Int.reduceMul, Int.reduceNeg, Nat.reduceAdd, Nat.reduceLT, Nat.reduceLeDiff, Nat.reduceEqDiff, reduceIte, w_lim, w_tup, w_lst, w_unp, w_and, w_or, w_andT, w_orT, w_not, w_ife, w_chain, w_isi, w_neg, w_isN, w_notN, w_raise, w_un0, w_max2, w_intI, w_intB, w_par, Bool.not_true, Bool.not_false, Int.zero_add, Nat.zero_add, w_notDig]
      refine w_lc (xs := sgL z) rfl rfl ?_ hl2
      unfold sgL
      rw [List.length_map, Array.length_toList]
      show z.length ≤ lim
      unfold lim
      omega
    by_cases hd : (TL.tl z).all dig = true
    · have ef : ((TL.tl z).filter fun c => !dig c) = [] := by
        rw [List.filter_eq_nil_iff]
        intro c hm
        rw [List.all_eq_true.mp hd c hm]
        decide
      rw [ef] at lc
      refine (seq_nx (ρ' := [some (.sh (.str z)), none]) ?_).trans ?_
      · rw [if_f (d := .list [])]
        · rfl
        · simp only [w_bnd, w_bndX, w_bndN, w_bndS, w_bndSX, w_bndSN, w_bndI, w_bndA, w_c, w_bin, w_un, w_nil, w_cons, w_fn, w_seq, w_nop, w_set, w_setO, w_ret, w_do, w_if, w_v0, w_o0, w_o0f, w_vs, w_clr0, w_clrs, w_nm, w_pr, w_add, w_sub, w_mul, w_addI, w_mulI, w_lt, w_le, w_gt, w_ge, w_truB, w_truI, w_truL, w_truT, w_truN, w_lenL, w_lenT, w_tupL, w_listT, w_listL, w_app, w_aug, w_for, List.set_cons_zero, List.set_cons_succ, List.getElem?_cons_zero, List.getElem?_cons_succ, List.length_cons, List.length_nil, Option.map_some, Option.map_none, Option.bind_some, Bool.or_true, Bool.true_or, eq_self, ite_true, ite_false, decide_true, decide_false, Int.reduceLT, Int.reduceLE, Int.reduceAdd, Int.reduceSub, Int.reduceMul, Int.reduceNeg, Nat.reduceAdd, Nat.reduceLT, Nat.reduceLeDiff, Nat.reduceEqDiff, reduceIte, w_lim, w_tup, w_lst, w_unp, w_and, w_or, w_andT, w_orT, w_not, w_ife, w_chain, w_isi, w_neg, w_isN, w_notN, w_raise, w_un0, w_max2, w_intI, w_intB, w_par, Bool.not_true, Bool.not_false, Int.zero_add, Nat.zero_add, hlen, c1, c2, lc, List.map_nil]
        · rfl
      unfold t1_parse_number
      refine ret_v ?_
      unfold pn
      generalize hzl : TL.tl z = l at hl hd
      have key : ∃ n : Nat, dIntS (.str z) = some (.int (n : Nat)) ∧ n < 100 ∧ pnL l = (if decide (sI (n : Nat) = z) = true then some n else none) := by
        rw [str_of hzl]
        match l, hl, hd with
        | [], hl, _ => simp at hl; omega
        | [a], _, hd =>
          simp only [List.all_cons, List.all_nil, Bool.and_true, dig, decide_eq_true_eq] at hd
          obtain ⟨i, rfl⟩ : ∃ i, a = 48 + i := ⟨a - 48, by omega⟩
          have q := dig1 i (by omega)
          refine ⟨i, ?_, by omega, ?_⟩
          · show (if (⟨#[48 + i]⟩ : Str).length ≤ 640 then (PySem.intText? ⟨#[48 + i]⟩).map PyData.int else none) = _
            rw [if_pos (by show 1 ≤ 640; omega), q.1]
            rfl
          · simp only [pnL]
            rw [if_pos hd, Nat.add_sub_cancel_left, if_pos (decide_eq_true q.2)]
        | [a, b], _, hd =>
          simp only [List.all_cons, List.all_nil, Bool.and_true, Bool.and_eq_true, dig, decide_eq_true_eq] at hd
          obtain ⟨i, rfl⟩ : ∃ i, a = 48 + i := ⟨a - 48, by omega⟩
          obtain ⟨j, rfl⟩ : ∃ j, b = 48 + j := ⟨b - 48, by omega⟩
          have q := dig2 i (by omega) j (by omega)
          refine ⟨i * 10 + j, ?_, by omega, ?_⟩
          · show (if (⟨#[48 + i, 48 + j]⟩ : Str).length ≤ 640 then (PySem.intText? ⟨#[48 + i, 48 + j]⟩).map PyData.int else none) = _
            rw [if_pos (by show 2 ≤ 640; omega), q.1]
            rfl
          · simp only [pnL]
            by_cases hi : i = 0
            · rw [if_neg (fun h => h.2.2 (by omega)), if_neg (by rw [decide_eq_true_eq]; exact q.2.2 hi)]
            · rw [if_pos ⟨hd.1, hd.2, by omega⟩, Nat.add_sub_cancel_left, Nat.add_sub_cancel_left, if_pos (decide_eq_true (q.2.1 hi))]
        | _ :: _ :: _ :: _, hl, _ => simp at hl; omega
      obtain ⟨n, k1, k2, k3⟩ := key
      have ks : dStr (.int (n : Nat)) = some (.str (sI (n : Nat))) := by
        show (if ((n : Nat) : Int).natAbs.log2 < 1920 then some (PyData.str (sI (n : Nat))) else none) = _
        rw [if_pos (by rw [Int.natAbs_natCast]; exact Nat.lt_of_le_of_lt (Nat.log2_le_self n) (by omega))]
      have ke : dEq (.str (sI (n : Nat))) (.str z) = some (.bool (decide (sI (n : Nat) = z))) := by
        rw [eq_sh (Sh.str 60 _) (Sh.str 60 _)]
        congr 2
      rw [k3]
      cases hq : decide (sI (n : Nat) = z) with
      | true => simp only [w_bnd, w_bndX, w_bndN, w_bndS, w_bndSX, w_bndSN, w_bndI, w_bndA, w_c, w_bin, w_un, w_nil, w_cons, w_fn, w_seq, w_nop, w_set, w_setO, w_ret, w_do, w_if, w_v0, w_o0, w_o0f, w_vs, w_clr0, w_clrs, w_nm, w_pr, w_add, w_sub, w_mul, w_addI, w_mulI, w_lt, w_le, w_gt, w_ge, w_truB, w_truI, w_truL, w_truT, w_truN, w_lenL, w_lenT, w_tupL, w_listT, w_listL, w_app, w_aug, w_for, List.set_cons_zero, List.set_cons_succ, List.getElem?_cons_zero, List.getElem?_cons_succ, List.length_cons, List.length_nil, Option.map_some, Option.map_none, Option.bind_some, Bool.or_true, Bool.true_or, eq_self, ite_true, ite_false, decide_true, decide_false, Int.reduceLT, Int.reduceLE, Int.reduceAdd, Int.reduceSub, Int.reduceMul, Int.reduceNeg, Nat.reduceAdd, Nat.reduceLT, Nat.reduceLeDiff, Nat.reduceEqDiff, reduceIte, w_lim, w_tup, w_lst, w_unp, w_and, w_or, w_andT, w_orT, w_not, w_ife, w_chain, w_isi, w_neg, w_isN, w_notN, w_raise, w_un0, w_max2, w_intI, w_intB, w_par, Bool.not_true, Bool.not_false, Int.zero_add, Nat.zero_add, k1, ks, ke, hq, oN]
      | false => simp only [w_bnd, w_bndX, w_bndN, w_bndS, w_bndSX, w_bndSN, w_bndI, w_bndA, w_c, w_bin, w_un, w_nil, w_cons, w_fn, w_seq, w_nop, w_set, w_setO, w_ret, w_do, w_if, w_v0, w_o0, w_o0f, w_vs, w_clr0, w_clrs, w_nm, w_pr, w_add, w_sub, w_mul, w_addI, w_mulI, w_lt, w_le, w_gt, w_ge, w_truB, w_truI, w_truL, w_truT, w_truN, w_lenL, w_lenT, w_tupL, w_listT, w_listL, w_app, w_aug, w_for, List.set_cons_zero, List.set_cons_succ, List.getElem?_cons_zero, List.getElem?_cons_succ, List.length_cons, List.length_nil, Option.map_some, Option.map_none, Option.bind_some, Bool.or_true, Bool.true_or, eq_self, ite_true, ite_false, decide_true, decide_false, Int.reduceLT, Int.reduceLE, Int.reduceAdd, Int.reduceSub, Int.reduceMul, Int.reduceNeg, Nat.reduceAdd, Nat.reduceLT, Nat.reduceLeDiff, Nat.reduceEqDiff, reduceIte, w_lim, w_tup, w_lst, w_unp, w_and, w_or, w_andT, w_orT, w_not, w_ife, w_chain, w_isi, w_neg, w_isN, w_notN, w_raise, w_un0, w_max2, w_intI, w_intB, w_par, Bool.not_true, Bool.not_false, Int.zero_add, Nat.zero_add, k1, ks, ke, hq, oN, Bool.false_eq_true, if_false]
    · have ef : ∃ c r, ((TL.tl z).filter fun c => !dig c) = c :: r := by
        cases e : (TL.tl z).filter fun c => !dig c with
        | cons c r => exact ⟨c, r, rfl⟩
        | nil =>
          exfalso
          apply hd
          rw [List.all_eq_true]
          intro c hm
          have := (List.filter_eq_nil_iff.mp e) c hm
          simpa using this
      obtain ⟨c, r, ef⟩ := ef
      rw [ef] at lc
      have hp : pn z = none := by
        unfold pn
        generalize hzl : TL.tl z = l at hl hd
        match l, hl, hd with
        | [], hl, _ => rfl
        | [a], _, hd =>
          simp only [List.all_cons, List.all_nil, Bool.and_true, dig, decide_eq_true_eq] at hd
          simp only [pnL]
          rw [if_neg hd]
        | [a, b], _, hd =>
          simp only [List.all_cons, List.all_nil, Bool.and_true, Bool.and_eq_true, dig, decide_eq_true_eq] at hd
          simp only [pnL]
          rw [if_neg (fun h => hd ⟨h.1, h.2.1⟩)]
        | _ :: _ :: _ :: _, hl, _ => rfl
      rw [hp, seq_rt (d := .none)]
      · rfl
      · rw [if_t (d := .list ((c :: r).map fun c => .str ⟨#[c]⟩))]
        · rfl
        · simp only [w_bnd, w_bndX, w_bndN, w_bndS, w_bndSX, w_bndSN, w_bndI, w_bndA, w_c, w_bin, w_un, w_nil, w_cons, w_fn, w_seq, w_nop, w_set, w_setO, w_ret, w_do, w_if, w_v0, w_o0, w_o0f, w_vs, w_clr0, w_clrs, w_nm, w_pr, w_add, w_sub, w_mul, w_addI, w_mulI, w_lt, w_le, w_gt, w_ge, w_truB, w_truI, w_truL, w_truT, w_truN, w_lenL, w_lenT, w_tupL, w_listT, w_listL, w_app, w_aug, w_for, List.set_cons_zero, List.set_cons_succ, List.getElem?_cons_zero, List.getElem?_cons_succ, List.length_cons, List.length_nil, Option.map_some, Option.map_none, Option.bind_some, Bool.or_true, Bool.true_or, eq_self, ite_true, ite_false, decide_true, decide_false, Int.reduceLT, Int.reduceLE, Int.reduceAdd, Int.reduceSub, Int.reduceMul, Int.reduceNeg, Nat.reduceAdd, Nat.reduceLT, Nat.reduceLeDiff, Nat.reduceEqDiff, reduceIte, w_lim, w_tup, w_lst, w_unp, w_and, w_or, w_andT, w_orT, w_not, w_ife, w_chain, w_isi, w_neg, w_isN, w_notN, w_raise, w_un0, w_max2, w_intI, w_intB, w_par, Bool.not_true, Bool.not_false, Int.zero_add, Nat.zero_add, hlen, c1, c2, lc]
        · rfl
  · have hp : pn z = none := by
      unfold pn
      generalize hzl : TL.tl z = l at hl
      match l, hl with
      | [], hl => rfl
      | [a], hl => simp at hl; omega
      | [a, b], hl => simp at hl; omega
      | _ :: _ :: _ :: _, hl => rfl
    have ch : eChain (eC (.int 1)) (eUn dLen (eVar 0)) (eC (.int 2)) true [some (.sh (.str z)), none] = some (.val (.bool false)) := by
      by_cases h1 : (1 : Int) ≤ (z.length : Int)
      · have h2 : ¬ ((z.length : Int) ≤ 2) := by omega
        simp only [w_bnd, w_bndX, w_bndN, w_bndS, w_bndSX, w_bndSN, w_bndI, w_bndA, w_c, w_bin, w_un, w_nil, w_cons, w_fn, w_seq, w_nop, w_set, w_setO, w_ret, w_do, w_if, w_v0, w_o0, w_o0f, w_vs, w_clr0, w_clrs, w_nm, w_pr, w_add, w_sub, w_mul, w_addI, w_mulI, w_lt, w_le, w_gt, w_ge, w_truB, w_truI, w_truL, w_truT, w_truN, w_lenL, w_lenT, w_tupL, w_listT, w_listL, w_app, w_aug, w_for, List.set_cons_zero, List.set_cons_succ, List.getElem?_cons_zero, List.getElem?_cons_succ, List.length_cons, List.length_nil, Option.map_some, Option.map_none, Option.bind_some, Bool.or_true, Bool.true_or, eq_self, ite_true, ite_false, decide_true, decide_false, Int.reduceLT, Int.reduceLE, Int.reduceAdd, Int.reduceSub, Int.reduceMul, Int.reduceNeg, Nat.reduceAdd, Nat.reduceLT, Nat.reduceLeDiff, Nat.reduceEqDiff, reduceIte, w_lim, w_tup, w_lst, w_unp, w_and, w_or, w_andT, w_orT, w_not, w_ife, w_chain, w_isi, w_neg, w_isN, w_notN, w_raise, w_un0, w_max2, w_intI, w_intB, w_par, Bool.not_true, Bool.not_false, Int.zero_add, Nat.zero_add, hlen, h1, h2]
      · simp only [w_bnd, w_bndX, w_bndN, w_bndS, w_bndSX, w_bndSN, w_bndI, w_bndA, w_c, w_bin, w_un, w_nil, w_cons, w_fn, w_seq, w_nop, w_set, w_setO, w_ret, w_do, w_if, w_v0, w_o0, w_o0f, w_vs, w_clr0, w_clrs, w_nm, w_pr, w_add, w_sub, w_mul, w_addI, w_mulI, w_lt, w_le, w_gt, w_ge, w_truB, w_truI, w_truL, w_truT, w_truN, w_lenL, w_lenT, w_tupL, w_listT, w_listL, w_app, w_aug, w_for, List.set_cons_zero, List.set_cons_succ, List.getElem?_cons_zero, List.getElem?_cons_succ, List.length_cons, List.length_nil, Option.map_some, Option.map_none, Option.bind_some, Bool.or_true, Bool.true_or, eq_self, ite_true, ite_false, decide_true, decide_false, Int.reduceLT, Int.reduceLE, Int.reduceAdd, Int.reduceSub, Int.reduceMul, Int.reduceNeg, Nat.reduceAdd, Nat.reduceLT, Nat.reduceLeDiff, Nat.reduceEqDiff, reduceIte, w_lim, w_tup, w_lst, w_unp, w_and, w_or, w_andT, w_orT, w_not, w_ife, w_chain, w_isi, w_neg, w_isN, w_notN, w_raise, w_un0, w_max2, w_intI, w_intB, w_par, Bool.not_true, Bool.not_false, Int.zero_add, Nat.zero_add, hlen, h1]
    rw [hp, seq_rt (d := .none)]
    · rfl
    · rw [if_t (d := .bool true)]
      · rfl
      · simp only [w_orT, w_not, ch, w_bnd, w_truB, Option.map_some, Bool.not_false]
      · rfl
/-! joined texts: lengths -/
theorem join_part {y : Str} : ∀ {ps : List Str} {p : Str}, p ∈ ps → p.length ≤ (Str.join y ps).length
  | [x], p, h => by rw [List.mem_singleton.mp h]; exact Nat.le_refl _
  | x :: z :: r, p, h => by
    show p.length ≤ (x ++ y ++ Str.join y (z :: r)).length
    rw [Str.length_append, Str.length_append]
    rcases List.mem_cons.mp h with rfl | h
    · omega
    · have := join_part (y := y) h
      omega
theorem join_count {y : Str} (hy : 1 ≤ y.length) : ∀ ps : List Str, ps.length ≤ (Str.join y ps).length + 1
  | [] => Nat.zero_le _
  | [x] => by show 1 ≤ _; omega
  | x :: z :: r => by
    have := join_count hy (z :: r)
    show (z :: r).length + 1 ≤ (x ++ y ++ Str.join y (z :: r)).length + 1
    rw [Str.length_append, Str.length_append]
    omega
theorem split_part {z y p : Str} (h : p ∈ Txt.split z y) : p.length ≤ z.length := by
  have := join_part (y := y) h
  rwa [PySem.StrLaws.join_split] at this
theorem split_count {z y : Str} (hy : 1 ≤ y.length) : (Txt.split z y).length ≤ z.length + 1 := by
  have := join_count hy (Txt.split z y)
  rwa [PySem.StrLaws.join_split] at this
/-! split at « mod » -/
abbrev sMod : Str := " mod "
theorem tl_mod : TL.tl sMod = [32, 109, 111, 100, 32] := by decide +kernel
theorem pre_mod {q : List Nat} (h : ∀ c, q[1]? = some c → c ≠ 109) : TL.pre [32, 109, 111, 100, 32] q = false := by
  unfold TL.pre
  match q, h with
  | [], _ => rfl
  | [a], _ => simp
  | a :: b :: r, h =>
    have := h b rfl
    simp [this]
theorem split_mod {a b : Str} (ha : 109 ∉ TL.tl a) (hb : 109 ∉ TL.tl b) : Txt.split (a ++ sMod ++ b) sMod = [a, b] := by
  refine TL.map_tl_inj ?_
  rw [TL.split_spl _ sMod (by rw [tl_mod]; simp) (TL.kind_ok (by decide +kernel)), TL.tl_append, TL.tl_append, tl_mod, List.append_assoc]
  rw [TL.spl_part (by simp) (fun i hi => pre_mod fun c hc => ?_), TL.spl_last fun i hi => pre_mod fun c hc => ?_]
  · rfl
  · rw [List.getElem?_drop] at hc
    exact fun e => hb (by rw [← e]; exact List.mem_of_getElem? hc)
  · rw [List.getElem?_drop] at hc
    intro e
    subst e
    by_cases h1 : i + 1 < (TL.tl a).length
    · rw [List.getElem?_append_left h1] at hc
      exact ha (List.mem_of_getElem? hc)
    · rw [List.getElem?_append_right (by omega)] at hc
      have : i + 1 - (TL.tl a).length = 0 := by omega
      rw [this] at hc
      cases hc
theorem split_com {ps : List Str} (hne : ps ≠ []) (hp : ∀ p ∈ ps, 44 ∉ TL.tl p) : Txt.split (Txt.join "," ps) "," = ps :=
  TL.split_join (S := []) (by decide +kernel) (by decide +kernel) hne hp
theorem join_no {y : Str} {c : Nat} (hy : c ∉ TL.tl y) : ∀ {ps : List Str}, (∀ p ∈ ps, c ∉ TL.tl p) → c ∉ TL.tl (Str.join y ps)
  | [], _ => by intro h; cases h
  | [x], h => h x List.mem_cons_self
  | x :: z :: r, h => by
    show c ∉ TL.tl (x ++ y ++ Str.join y (z :: r))
    rw [TL.tl_append, TL.tl_append]
    intro hm
    rcases List.mem_append.mp hm with hm | hm
    · rcases List.mem_append.mp hm with hm | hm
      · exact h x List.mem_cons_self hm
      · exact hy hm
    · exact join_no hy (fun p hp => h p (List.mem_cons_of_mem _ hp)) hm
/-! ## what parse_table gives -/
def pvals (p : Str) : List (Option Nat) := (Txt.split p ",").map pn
def pfin (m : Nat) (vs : List (Option Nat)) : Rs := match vs.findIdx? (·.isNone) with
  | some i => .exc "ParseError" (some (.int (1 + (i : Nat))))
  | none => if tabOk m (.tuple (vs.map oN)) = true then .val (.tuple [.int m, .tuple (vs.map oN)]) else .exc "ParseError" (some .none)
def pres (z : Str) : Rs := match Txt.split z sMod with
  | [p0, p1] => (match pn p1 with
    | some m => if 2 ≤ m ∧ m ≤ 12 then pfin m (pvals p0) else .exc "ParseError" (some (.int 0))
    | none => .exc "ParseError" (some (.int 0)))
  | _ => .exc "ParseError" (some (.int 0))
theorem any_none (vs : List (Option Nat)) : ((vs.map oN).any fun y => PyData.eqv y .none) = (vs.findIdx? (·.isNone)).isSome := by
  rw [List.findIdx?_isSome, List.any_map]
  congr 1
  funext o
  cases o <;> rfl
theorem idx_none (vs : List (Option Nat)) {i : Nat} (h : vs.findIdx? (·.isNone) = some i) : (vs.map oN).findIdx isN = i ∧ i < (vs.map oN).length := by
  have h1 := List.findIdx?_eq_some_iff_findIdx_eq.mp h
  rw [List.findIdx_map, List.length_map]
  have e : (isN ∘ oN) = fun o : Option Nat => o.isNone := by
    funext o
    cases o <;> rfl
  rw [e]
  exact ⟨h1.2, h1.1⟩
theorem oN_sh (vs : List (Option Nat)) : PyData.plainAll (vs.map oN) = true := (Sh.all (n := 0) fun d hd => by
  obtain ⟨g, _, rfl⟩ := List.mem_map.mp hd
  cases g with
  | none => exact Sh.none 0
  | some v => exact Sh.int 0 _).1
theorem w_parse (z : Str) (hz : z.length ≤ 1000) : F_parse_table [.str z] = some (pres z) := by
  have i1 : dIsi "str" (.str z) = true := by rfl
  have hsp : dSplit (.str z) (.str " mod ") = some (.list ((Txt.split z sMod).map .str)) := by
    show (if (sMod.length ≠ 0 ∧ z.length ≤ lim) then some (PyData.list ((Txt.split z sMod).map .str)) else none) = _
    rw [if_pos ⟨by decide +kernel, by unfold lim; omega⟩]
  have hT : isStr (.str z) = true := rfl
  have hcnt := split_count (z := z) (y := sMod) (by decide +kernel)
  have hpart : ∀ p ∈ Txt.split z sMod, p.length ≤ z.length := fun p hp => split_part hp
  unfold pres
  show runB 5 g_parse_table [.str z] = _
  generalize Txt.split z sMod = S at hsp hcnt hpart
  have fin : ∀ r : Out, g_parse_table (start0 5 [.str z]) = some r → (match r with | .rt d => some (Rs.val d) | .ex n pl => some (Rs.exc n pl) | .nx _ => some (Rs.val .none)) = runB 5 g_parse_table [.str z] := fun r hr => by
    unfold runB
    rw [hr]
    cases r <;> rfl
  have go : ∀ r : Out, t2_parse_table [some (.sh (.str z)), some (.sh (.list (S.map .str))), none, none, none] = some r → g_parse_table (start0 5 [.str z]) = some r := fun r hr => by
    rw [show start0 5 [.str z] = [some (.sh (.str z)), none, none, none, none] from rfl]
    unfold g_parse_table
    refine (seq_nx (ρ' := [some (.sh (.str z)), none, none, none, none]) ?_).trans ?_
    · rw [if_f (d := .bool false)]
      · rfl
      · simp only [w_bnd, w_bndX, w_bndN, w_bndS, w_bndSX, w_bndSN, w_bndI, w_bndA, w_c, w_bin, w_un, w_nil, w_cons, w_fn, w_seq, w_nop, w_set, w_setO, w_ret, w_do, w_if, w_v0, w_o0, w_o0f, w_vs, w_clr0, w_clrs, w_nm, w_pr, w_add, w_sub, w_mul, w_addI, w_mulI, w_lt, w_le, w_gt, w_ge, w_truB, w_truI, w_truL, w_truT, w_truN, w_lenL, w_lenT, w_tupL, w_listT, w_listL, w_app, w_aug, w_for, List.set_cons_zero, List.set_cons_succ, List.getElem?_cons_zero, List.getElem?_cons_succ, List.length_cons, List.length_nil, Option.map_some, Option.map_none, Option.bind_some, Bool.or_true, Bool.true_or, eq_self, ite_true, ite_false, decide_true, decide_false, Int.reduceLT, Int.reduceLE, Int.reduceAdd, Int.reduceSub, Int.reduceMul, Int.reduceNeg, Nat.reduceAdd, Nat.reduceLT, Nat.reduceLeDiff, Nat.reduceEqDiff, reduceIte, w_lim, w_tup, w_lst, w_unp, w_and, w_or, w_andT, w_orT, w_not, w_ife, w_chain, w_isi, w_neg, w_isN, w_notN, w_raise, w_un0, w_max2, w_intI, w_intB, w_par, Bool.not_true, Bool.not_false, Int.zero_add, Nat.zero_add, i1]
      · rfl
    unfold t1_parse_table
    rw [seq_nx (ρ' := [some (.sh (.str z)), some (.sh (.list (S.map .str))), none, none, none]) (set_v (by unfold eMeth; simp only [w_bnd, w_bndX, w_bndN, w_bndS, w_bndSX, w_bndSN, w_bndI, w_bndA, w_c, w_bin, w_un, w_nil, w_cons, w_fn, w_seq, w_nop, w_set, w_setO, w_ret, w_do, w_if, w_v0, w_o0, w_o0f, w_vs, w_clr0, w_clrs, w_nm, w_pr, w_add, w_sub, w_mul, w_addI, w_mulI, w_lt, w_le, w_gt, w_ge, w_truB, w_truI, w_truL, w_truT, w_truN, w_lenL, w_lenT, w_tupL, w_listT, w_listL, w_app, w_aug, w_for, List.set_cons_zero, List.set_cons_succ, List.getElem?_cons_zero, List.getElem?_cons_succ, List.length_cons, List.length_nil, Option.map_some, Option.map_none, Option.bind_some, Bool.or_true, Bool.true_or, eq_self, ite_true, ite_false, decide_true, decide_false, Int.reduceLT, Int.reduceLE, Int.reduceAdd, Int.reduceSub, Int.reduceMul, Int.reduceNeg, Nat.reduceAdd, Nat.reduceLT, Nat.reduceLeDiff, Nat.reduceEqDiff, reduceIte, w_lim, w_tup, w_lst, w_unp, w_and, w_or, w_andT, w_orT, w_not, w_ife, w_chain, w_isi, w_neg, w_isN, w_notN, w_raise, w_un0, w_max2, w_intI, w_intB, w_par, Bool.not_true, Bool.not_false, Int.zero_add, Nat.zero_add, hT, hsp]))]
    exact hr
  have bad : t2_parse_table [some (.sh (.str z)), some (.sh (.list (S.map .str))), none, none, none] = some (.ex "ParseError" (some (.int 0))) → runB 5 g_parse_table [.str z] = some (.exc "ParseError" (some (.int 0))) := fun h => (fin _ (go _ h)).symm
  have short : ∀ {c : EF} {s1 : SF}, c true [some (.sh (.str z)), some (.sh (.list (S.map .str))), none, none, none] = some (.val (.bool true)) → sSeq (sIf c (sRaiseP "ParseError" (eC (.int 0))) sNop) s1 [some (.sh (.str z)), some (.sh (.list (S.map .str))), none, none, none] = some (.ex "ParseError" (some (.int 0))) := fun {c s1} h => by
    refine seq_ex ?_
    rw [if_t h rfl]
    rfl
  match S, hsp, hcnt, hpart with
  | [], _, _, _ => exact bad (short rfl)
  | [_], _, _, _ => exact bad (short rfl)
  | a :: b :: c :: r, _, _, _ =>
    refine bad (short ?_)
    have hne : dNe (.int (((a :: b :: c :: r).map PyData.str).length : Int)) (.int 2) = some (.bool true) := by
      rw [w_neI, decide_eq_false (by rw [List.length_map]; simp; omega)]
      rfl
    simp only [w_orT, w_bin, w_un, w_vs, w_v0, w_bnd, w_lenL, Option.map_some, w_c, hne, w_truB]
  | [p0, p1], _, _, hpart =>
    have l0 := hpart p0 (by simp)
    have l1 := hpart p1 (by simp)
    have hp1 := w_pn p1 (by omega)
    have x1 : dIx (.list [.str p0, .str p1]) (.int 1) = some (.str p1) := rfl
    have x0 : dIx (.list [.str p0, .str p1]) (.int 0) = some (.str p0) := rfl
    have hne : dNe (.int ((2 : Nat) : Int)) (.int 2) = some (.bool false) := rfl
    have hin := w_inrG (oN (pn p1)) 2 12
    simp only
    cases hm : pn p1 with
    | none =>
      show _ = some (Rs.exc "ParseError" (some (.int 0)))
      rw [hm] at hp1 hin
      have e1 : inr (oN none) 2 12 = false := rfl
      rw [e1] at hin
      refine bad (short ?_)
      simp only [List.map_cons, List.map_nil, w_bnd, w_bndX, w_bndN, w_bndS, w_bndSX, w_bndSN, w_bndI, w_bndA, w_c, w_bin, w_un, w_nil, w_cons, w_fn, w_seq, w_nop, w_set, w_setO, w_ret, w_do, w_if, w_v0, w_o0, w_o0f, w_vs, w_clr0, w_clrs, w_nm, w_pr, w_add, w_sub, w_mul, w_addI, w_mulI, w_lt, w_le, w_gt, w_ge, w_truB, w_truI, w_truL, w_truT, w_truN, w_lenL, w_lenT, w_tupL, w_listT, w_listL, w_app, w_aug, w_for, List.set_cons_zero, List.set_cons_succ, List.getElem?_cons_zero, List.getElem?_cons_succ, List.length_cons, List.length_nil, Option.map_some, Option.map_none, Option.bind_some, Bool.or_true, Bool.true_or, eq_self, ite_true, ite_false, decide_true, decide_false, Int.reduceLT, Int.reduceLE, Int.reduceAdd, Int.reduceSub, Int.reduceMul, Int.reduceNeg, Nat.reduceAdd, Nat.reduceLT, Nat.reduceLeDiff, Nat.reduceEqDiff, reduceIte, w_lim, w_tup, w_lst, w_unp, w_and, w_or, w_andT, w_orT, w_not, w_ife, w_chain, w_isi, w_neg, w_isN, w_notN, w_raise, w_un0, w_max2, w_intI, w_intB, w_par, Bool.not_true, Bool.not_false, Int.zero_add, Nat.zero_add, hne, x1, hp1, hin]
    | some m =>
      show _ = some (if 2 ≤ m ∧ m ≤ 12 then pfin m (pvals p0) else Rs.exc "ParseError" (some (.int 0)))
      rw [hm] at hp1 hin
      have e1 : inr (oN (some m)) 2 12 = decide (2 ≤ m ∧ m ≤ 12) := by
        show (decide ((2 : Int) ≤ (m : Nat)) && decide (((m : Nat) : Int) ≤ 12)) = _
        rw [← Bool.decide_and, decide_eq_decide]
        omega
      rw [e1] at hin
      by_cases hmm : 2 ≤ m ∧ m ≤ 12
      · rw [if_pos hmm]
        rw [decide_eq_true hmm] at hin
        have hvalid := w_validG m (.tuple ((pvals p0).map oN)) hmm.2
        have hs0 : dSplit (.str p0) (.str ",") = some (.list ((Txt.split p0 ",").map .str)) := by
          show (if ((("," : Str)).length ≠ 0 ∧ p0.length ≤ lim) then some (PyData.list ((Txt.split p0 ",").map .str)) else none) = _
          rw [if_pos ⟨by decide +kernel, by unfold lim; omega⟩]
        have hT0 : isStr (.str p0) = true := rfl
        have hc0 := split_count (z := p0) (y := ",") (by decide +kernel)
        have lc : (eLc [4] (gNm 4) (iSeq (eMeth isStr dSplit (eBin dIx (eVar 1) (eC (.int 0))) (eC (.str ",")))) (eC (.bool true)) (eFn 1 F_parse_number (aCons (eVar 4) (aNil)))) false [some (.sh (.str z)), some (.sh (.list [.str p0, .str p1])), some (.sh (.int m)), none, none] = some (.val (.list ((pvals p0).map oN))) := by
          have hl2 : lcL (eC (.bool true)) (eFn 1 F_parse_number (aCons (eVar 4) (aNil))) (gNm 4) [some (.sh (.str z)), some (.sh (.list [.str p0, .str p1])), some (.sh (.int m)), none, none] ((Txt.split p0 ",").map .str) = some ((pvals p0).map oN) := by
            unfold pvals
            rw [List.map_map]
            refine lcL_genT PyData.str (oN ∘ pn) (Txt.split p0 ",") fun t ht => ⟨_, rfl, ?_⟩
            have hq := w_pn t (by have := split_part ht; omega)
            simp only [w_bnd, w_bndX, w_bndN, w_bndS, w_bndSX, w_bndSN, w_bndI, w_bndA, w_c, w_bin, w_un, w_nil, w_cons, w_fn, w_seq, w_nop, w_set, w_setO, w_ret, w_do, w_if, w_v0, w_o0, w_o0f, w_vs, w_clr0, w_clrs, w_nm, w_pr, w_add, w_sub, w_mul, w_addI, w_mulI, w_lt, w_le, w_gt, w_ge, w_truB, w_truI, w_truL, w_truT, w_truN, w_lenL, w_lenT, w_tupL, w_listT, w_listL, w_app, w_aug, w_for, List.set_cons_zero, List.set_cons_succ, List.getElem?_cons_zero, List.getElem?_cons_succ, List.length_cons, List.length_nil, Option.map_some, Option.map_none, Option.bind_some, Bool.or_true, Bool.true_or, eq_self, ite_true, ite_false, decide_true, decide_false, Int.reduceLT, Int.reduceLE, Int.reduceAdd, Int.reduceSub, Int.reduceMul, Int.reduceNeg, Nat.reduceAdd, Nat.reduceLT, Nat.reduceLeDiff, Nat.reduceEqDiff, reduceIte, w_lim, w_tup, w_lst, w_unp, w_and, w_or, w_andT, w_orT, w_not, w_ife, w_chain, w_isi, w_neg, w_isN, w_notN, w_raise, w_un0, w_max2, w_intI, w_intB, w_par, Bool.not_true, Bool.not_false, Int.zero_add, Nat.zero_add, hq, Function.comp]
          refine w_lc (w_seqL (xs := (Txt.split p0 ",").map .str) ?_) rfl (by rw [List.length_map]; unfold lim; omega) hl2
          unfold eMeth
          simp only [w_bnd, w_bndX, w_bndN, w_bndS, w_bndSX, w_bndSN, w_bndI, w_bndA, w_c, w_bin, w_un, w_nil, w_cons, w_fn, w_seq, w_nop, w_set, w_setO, w_ret, w_do, w_if, w_v0, w_o0, w_o0f, w_vs, w_clr0, w_clrs, w_nm, w_pr, w_add, w_sub, w_mul, w_addI, w_mulI, w_lt, w_le, w_gt, w_ge, w_truB, w_truI, w_truL, w_truT, w_truN, w_lenL, w_lenT, w_tupL, w_listT, w_listL, w_app, w_aug, w_for, List.set_cons_zero, List.set_cons_succ, List.getElem?_cons_zero, List.getElem?_cons_succ, List.length_cons, List.length_nil, Option.map_some, Option.map_none, Option.bind_some, Bool.or_true, Bool.true_or, eq_self, ite_true, ite_false, decide_true, decide_false, Int.reduceLT, Int.reduceLE, Int.reduceAdd, Int.reduceSub, Int.reduceMul, Int.reduceNeg, Nat.reduceAdd, Nat.reduceLT, Nat.reduceLeDiff, Nat.reduceEqDiff, reduceIte, w_lim, w_tup, w_lst, w_unp, w_and, w_or, w_andT, w_orT, w_not, w_ife, w_chain, w_isi, w_neg, w_isN, w_notN, w_raise, w_un0, w_max2, w_intI, w_intB, w_par, Bool.not_true, Bool.not_false, Int.zero_add, Nat.zero_add, x0, hT0, hs0]
        have hvl : (pvals p0).length ≤ 2000 := by unfold pvals; rw [List.length_map]; omega
        generalize pvals p0 = vs at lc hvalid hvl
        have stp : ∀ r : Out, t5_parse_table [some (.sh (.str z)), some (.sh (.list [.str p0, .str p1])), some (.sh (.int m)), some (.sh (.list (vs.map oN))), none] = some r → t2_parse_table [some (.sh (.str z)), some (.sh (.list [.str p0, .str p1])), none, none, none] = some r := fun r hr => by
          unfold t2_parse_table
          refine (seq_nx (ρ' := [some (.sh (.str z)), some (.sh (.list [.str p0, .str p1])), none, none, none]) ?_).trans ?_
          · rw [if_f (d := .bool false)]
            · rfl
            · simp only [w_bnd, w_bndX, w_bndN, w_bndS, w_bndSX, w_bndSN, w_bndI, w_bndA, w_c, w_bin, w_un, w_nil, w_cons, w_fn, w_seq, w_nop, w_set, w_setO, w_ret, w_do, w_if, w_v0, w_o0, w_o0f, w_vs, w_clr0, w_clrs, w_nm, w_pr, w_add, w_sub, w_mul, w_addI, w_mulI, w_lt, w_le, w_gt, w_ge, w_truB, w_truI, w_truL, w_truT, w_truN, w_lenL, w_lenT, w_tupL, w_listT, w_listL, w_app, w_aug, w_for, List.set_cons_zero, List.set_cons_succ, List.getElem?_cons_zero, List.getElem?_cons_succ, List.length_cons, List.length_nil, Option.map_some, Option.map_none, Option.bind_some, Bool.or_true, Bool.true_or, eq_self, ite_true, ite_false, decide_true, decide_false, Int.reduceLT, Int.reduceLE, Int.reduceAdd, Int.reduceSub, Int.reduceMul, Int.reduceNeg, Nat.reduceAdd, Nat.reduceLT, Nat.reduceLeDiff, Nat.reduceEqDiff, reduceIte, w_lim, w_tup, w_lst, w_unp, w_and, w_or, w_andT, w_orT, w_not, w_ife, w_chain, w_isi, w_neg, w_isN, w_notN, w_raise, w_un0, w_max2, w_intI, w_intB, w_par, Bool.not_true, Bool.not_false, Int.zero_add, Nat.zero_add, hne, x1, hp1, hin]
            · rfl
          unfold t3_parse_table
          rw [seq_nx (ρ' := [some (.sh (.str z)), some (.sh (.list [.str p0, .str p1])), some (.sh (.int m)), none, none]) (by simp only [w_bnd, w_bndX, w_bndN, w_bndS, w_bndSX, w_bndSN, w_bndI, w_bndA, w_c, w_bin, w_un, w_nil, w_cons, w_fn, w_seq, w_nop, w_set, w_setO, w_ret, w_do, w_if, w_v0, w_o0, w_o0f, w_vs, w_clr0, w_clrs, w_nm, w_pr, w_add, w_sub, w_mul, w_addI, w_mulI, w_lt, w_le, w_gt, w_ge, w_truB, w_truI, w_truL, w_truT, w_truN, w_lenL, w_lenT, w_tupL, w_listT, w_listL, w_app, w_aug, w_for, List.set_cons_zero, List.set_cons_succ, List.getElem?_cons_zero, List.getElem?_cons_succ, List.length_cons, List.length_nil, Option.map_some, Option.map_none, Option.bind_some, Bool.or_true, Bool.true_or, eq_self, ite_true, ite_false, decide_true, decide_false, Int.reduceLT, Int.reduceLE, Int.reduceAdd, Int.reduceSub, Int.reduceMul, Int.reduceNeg, Nat.reduceAdd, Nat.reduceLT, Nat.reduceLeDiff, Nat.reduceEqDiff, reduceIte, w_lim, w_tup, w_lst, w_unp, w_and, w_or, w_andT, w_orT, w_not, w_ife, w_chain, w_isi, w_neg, w_isN, w_notN, w_raise, w_un0, w_max2, w_intI, w_intB, w_par, Bool.not_true, Bool.not_false, Int.zero_add, Nat.zero_add, x1, hp1, oN])]
          unfold t4_parse_table
          rw [seq_nx (set_v lc)]
          exact hr
        have hino : dIn .none (.list (vs.map oN)) = some (.bool (vs.findIdx? (·.isNone)).isSome) := by
          show (if (PyData.plain .none && PyData.plainAll (vs.map oN) && dep .none) = true then some (PyData.bool ((vs.map oN).any fun y => PyData.eqv y .none)) else none) = _
          rw [if_pos (by rw [oN_sh]; rfl), any_none]
        unfold pfin
        cases hi : vs.findIdx? (·.isNone) with
        | some i =>
          rw [hi] at hino
          obtain ⟨k1, k2⟩ := idx_none vs hi
          have hix : dLix (.list (vs.map oN)) .none = some (.int (i : Nat)) := by
            show (if (vs.map oN).all isNI = true ∧ (vs.map oN).findIdx isN < (vs.map oN).length then some (PyData.int ((vs.map oN).findIdx isN : Nat)) else none) = _
            have ha : (vs.map oN).all isNI = true := by
              rw [List.all_map, List.all_eq_true]
              intro o _
              cases o <;> rfl
            rw [k1, if_pos ⟨ha, k2⟩]
          have hL : isL (.list (vs.map oN)) = true := rfl
          refine (fin (.ex "ParseError" (some (.int (1 + (i : Nat))))) (go _ (stp _ ?_))).symm
          unfold t5_parse_table
          refine seq_ex ?_
          rw [if_t (d := .bool true)]
          · show bndS (eBin dAdd (eC (.int 1)) (eMeth isL dLix (eVar 3) (eC .none)) false [some (.sh (.str z)), some (.sh (.list [.str p0, .str p1])), some (.sh (.int m)), some (.sh (.list (vs.map oN))), none]) _ = _
            unfold eMeth
            simp only [w_bnd, w_bndX, w_bndN, w_bndS, w_bndSX, w_bndSN, w_bndI, w_bndA, w_c, w_bin, w_un, w_nil, w_cons, w_fn, w_seq, w_nop, w_set, w_setO, w_ret, w_do, w_if, w_v0, w_o0, w_o0f, w_vs, w_clr0, w_clrs, w_nm, w_pr, w_add, w_sub, w_mul, w_addI, w_mulI, w_lt, w_le, w_gt, w_ge, w_truB, w_truI, w_truL, w_truT, w_truN, w_lenL, w_lenT, w_tupL, w_listT, w_listL, w_app, w_aug, w_for, List.set_cons_zero, List.set_cons_succ, List.getElem?_cons_zero, List.getElem?_cons_succ, List.length_cons, List.length_nil, Option.map_some, Option.map_none, Option.bind_some, Bool.or_true, Bool.true_or, eq_self, ite_true, ite_false, decide_true, decide_false, Int.reduceLT, Int.reduceLE, Int.reduceAdd, Int.reduceSub, Int.reduceMul, Int.reduceNeg, Nat.reduceAdd, Nat.reduceLT, Nat.reduceLeDiff, Nat.reduceEqDiff, reduceIte, w_lim, w_tup, w_lst, w_unp, w_and, w_or, w_andT, w_orT, w_not, w_ife, w_chain, w_isi, w_neg, w_isN, w_notN, w_raise, w_un0, w_max2, w_intI, w_intB, w_par, Bool.not_true, Bool.not_false, Int.zero_add, Nat.zero_add, hL, hix]
          · simp only [w_bnd, w_bndX, w_bndN, w_bndS, w_bndSX, w_bndSN, w_bndI, w_bndA, w_c, w_bin, w_un, w_nil, w_cons, w_fn, w_seq, w_nop, w_set, w_setO, w_ret, w_do, w_if, w_v0, w_o0, w_o0f, w_vs, w_clr0, w_clrs, w_nm, w_pr, w_add, w_sub, w_mul, w_addI, w_mulI, w_lt, w_le, w_gt, w_ge, w_truB, w_truI, w_truL, w_truT, w_truN, w_lenL, w_lenT, w_tupL, w_listT, w_listL, w_app, w_aug, w_for, List.set_cons_zero, List.set_cons_succ, List.getElem?_cons_zero, List.getElem?_cons_succ, List.length_cons, List.length_nil, Option.map_some, Option.map_none, Option.bind_some, Bool.or_true, Bool.true_or, eq_self, ite_true, ite_false, decide_true, decide_false, Int.reduceLT, Int.reduceLE, Int.reduceAdd, Int.reduceSub, Int.reduceMul, Int.reduceNeg, Nat.reduceAdd, Nat.reduceLT, Nat.reduceLeDiff, Nat.reduceEqDiff, reduceIte, w_lim, w_tup, w_lst, w_unp, w_and, w_or, w_andT, w_orT, w_not, w_ife, w_chain, w_isi, w_neg, w_isN, w_notN, w_raise, w_un0, w_max2, w_intI, w_intB, w_par, Bool.not_true, Bool.not_false, Int.zero_add, Nat.zero_add, hino, Option.isSome_some]
          · rfl
        | none =>
          rw [hi] at hino
          have tail : ∀ r : Out, t6_parse_table [some (.sh (.str z)), some (.sh (.list [.str p0, .str p1])), some (.sh (.int m)), some (.sh (.list (vs.map oN))), none] = some r → t5_parse_table [some (.sh (.str z)), some (.sh (.list [.str p0, .str p1])), some (.sh (.int m)), some (.sh (.list (vs.map oN))), none] = some r := fun r hr => by
            unfold t5_parse_table
            refine (seq_nx (ρ' := [some (.sh (.str z)), some (.sh (.list [.str p0, .str p1])), some (.sh (.int m)), some (.sh (.list (vs.map oN))), none]) ?_).trans hr
            rw [if_f (d := .bool false)]
            · rfl
            · simp only [w_bnd, w_bndX, w_bndN, w_bndS, w_bndSX, w_bndSN, w_bndI, w_bndA, w_c, w_bin, w_un, w_nil, w_cons, w_fn, w_seq, w_nop, w_set, w_setO, w_ret, w_do, w_if, w_v0, w_o0, w_o0f, w_vs, w_clr0, w_clrs, w_nm, w_pr, w_add, w_sub, w_mul, w_addI, w_mulI, w_lt, w_le, w_gt, w_ge, w_truB, w_truI, w_truL, w_truT, w_truN, w_lenL, w_lenT, w_tupL, w_listT, w_listL, w_app, w_aug, w_for, List.set_cons_zero, List.set_cons_succ, List.getElem?_cons_zero, List.getElem?_cons_succ, List.length_cons, List.length_nil, Option.map_some, Option.map_none, Option.bind_some, Bool.or_true, Bool.true_or, eq_self, ite_true, ite_false, decide_true, decide_false, Int.reduceLT, Int.reduceLE, Int.reduceAdd, Int.reduceSub, Int.reduceMul, Int.reduceNeg, Nat.reduceAdd, Nat.reduceLT, Nat.reduceLeDiff, Nat.reduceEqDiff, reduceIte, w_lim, w_tup, w_lst, w_unp, w_and, w_or, w_andT, w_orT, w_not, w_ife, w_chain, w_isi, w_neg, w_isN, w_notN, w_raise, w_un0, w_max2, w_intI, w_intB, w_par, Bool.not_true, Bool.not_false, Int.zero_add, Nat.zero_add, hino, Option.isSome_none]
            · rfl
          cases hv : tabOk m (.tuple (vs.map oN)) with
          | true =>
            rw [hv] at hvalid
            show _ = some (Rs.val (.tuple [.int m, .tuple (vs.map oN)]))
            refine (fin (.rt (.tuple [.int m, .tuple (vs.map oN)])) (go _ (stp _ (tail _ ?_)))).symm
            unfold t6_parse_table
            refine (seq_nx (ρ' := [some (.sh (.str z)), some (.sh (.list [.str p0, .str p1])), some (.sh (.int m)), some (.sh (.list (vs.map oN))), none]) ?_).trans ?_
            · rw [if_f (d := .bool false)]
              · rfl
              · simp only [w_bnd, w_bndX, w_bndN, w_bndS, w_bndSX, w_bndSN, w_bndI, w_bndA, w_c, w_bin, w_un, w_nil, w_cons, w_fn, w_seq, w_nop, w_set, w_setO, w_ret, w_do, w_if, w_v0, w_o0, w_o0f, w_vs, w_clr0, w_clrs, w_nm, w_pr, w_add, w_sub, w_mul, w_addI, w_mulI, w_lt, w_le, w_gt, w_ge, w_truB, w_truI, w_truL, w_truT, w_truN, w_lenL, w_lenT, w_tupL, w_listT, w_listL, w_app, w_aug, w_for, List.set_cons_zero, List.set_cons_succ, List.getElem?_cons_zero, List.getElem?_cons_succ, List.length_cons, List.length_nil, Option.map_some, Option.map_none, Option.bind_some, Bool.or_true, Bool.true_or, eq_self, ite_true, ite_false, decide_true, decide_false, Int.reduceLT, Int.reduceLE, Int.reduceAdd, Int.reduceSub, Int.reduceMul, Int.reduceNeg, Nat.reduceAdd, Nat.reduceLT, Nat.reduceLeDiff, Nat.reduceEqDiff, reduceIte, w_lim, w_tup, w_lst, w_unp, w_and, w_or, w_andT, w_orT, w_not, w_ife, w_chain, w_isi, w_neg, w_isN, w_notN, w_raise, w_un0, w_max2, w_intI, w_intB, w_par, Bool.not_true, Bool.not_false, Int.zero_add, Nat.zero_add, hvalid]
              · rfl
            unfold t7_parse_table
            refine ret_v ?_
            simp only [w_bnd, w_bndX, w_bndN, w_bndS, w_bndSX, w_bndSN, w_bndI, w_bndA, w_c, w_bin, w_un, w_nil, w_cons, w_fn, w_seq, w_nop, w_set, w_setO, w_ret, w_do, w_if, w_v0, w_o0, w_o0f, w_vs, w_clr0, w_clrs, w_nm, w_pr, w_add, w_sub, w_mul, w_addI, w_mulI, w_lt, w_le, w_gt, w_ge, w_truB, w_truI, w_truL, w_truT, w_truN, w_lenL, w_lenT, w_tupL, w_listT, w_listL, w_app, w_aug, w_for, List.set_cons_zero, List.set_cons_succ, List.getElem?_cons_zero, List.getElem?_cons_succ, List.length_cons, List.length_nil, Option.map_some, Option.map_none, Option.bind_some, Bool.or_true, Bool.true_or, eq_self, ite_true, ite_false, decide_true, decide_false, Int.reduceLT, Int.reduceLE, Int.reduceAdd, Int.reduceSub, Int.reduceMul, Int.reduceNeg, Nat.reduceAdd, Nat.reduceLT, Nat.reduceLeDiff, Nat.reduceEqDiff, reduceIte, w_lim, w_tup, w_lst, w_unp, w_and, w_or, w_andT, w_orT, w_not, w_ife, w_chain, w_isi, w_neg, w_isN, w_notN, w_raise, w_un0, w_max2, w_intI, w_intB, w_par, Bool.not_true, Bool.not_false, Int.zero_add, Nat.zero_add]
          | false =>
            rw [hv] at hvalid
            show _ = some (if (false : Bool) = true then Rs.val (.tuple [.int m, .tuple (vs.map oN)]) else Rs.exc "ParseError" (some .none))
            rw [if_neg Bool.false_ne_true]
            refine (fin (.ex "ParseError" (some .none)) (go _ (stp _ (tail _ ?_)))).symm
            unfold t6_parse_table
            refine seq_ex ?_
            rw [if_t (d := .bool true)]
            · rfl
            · simp only [w_bnd, w_bndX, w_bndN, w_bndS, w_bndSX, w_bndSN, w_bndI, w_bndA, w_c, w_bin, w_un, w_nil, w_cons, w_fn, w_seq, w_nop, w_set, w_setO, w_ret, w_do, w_if, w_v0, w_o0, w_o0f, w_vs, w_clr0, w_clrs, w_nm, w_pr, w_add, w_sub, w_mul, w_addI, w_mulI, w_lt, w_le, w_gt, w_ge, w_truB, w_truI, w_truL, w_truT, w_truN, w_lenL, w_lenT, w_tupL, w_listT, w_listL, w_app, w_aug, w_for, List.set_cons_zero, List.set_cons_succ, List.getElem?_cons_zero, List.getElem?_cons_succ, List.length_cons, List.length_nil, Option.map_some, Option.map_none, Option.bind_some, Bool.or_true, Bool.true_or, eq_self, ite_true, ite_false, decide_true, decide_false, Int.reduceLT, Int.reduceLE, Int.reduceAdd, Int.reduceSub, Int.reduceMul, Int.reduceNeg, Nat.reduceAdd, Nat.reduceLT, Nat.reduceLeDiff, Nat.reduceEqDiff, reduceIte, w_lim, w_tup, w_lst, w_unp, w_and, w_or, w_andT, w_orT, w_not, w_ife, w_chain, w_isi, w_neg, w_isN, w_notN, w_raise, w_un0, w_max2, w_intI, w_intB, w_par, Bool.not_true, Bool.not_false, Int.zero_add, Nat.zero_add, hvalid]
            · rfl
      · rw [if_neg hmm]
        rw [decide_eq_false hmm] at hin
        refine bad (short ?_)
        simp only [List.map_cons, List.map_nil, w_bnd, w_bndX, w_bndN, w_bndS, w_bndSX, w_bndSN, w_bndI, w_bndA, w_c, w_bin, w_un, w_nil, w_cons, w_fn, w_seq, w_nop, w_set, w_setO, w_ret, w_do, w_if, w_v0, w_o0, w_o0f, w_vs, w_clr0, w_clrs, w_nm, w_pr, w_add, w_sub, w_mul, w_addI, w_mulI, w_lt, w_le, w_gt, w_ge, w_truB, w_truI, w_truL, w_truT, w_truN, w_lenL, w_lenT, w_tupL, w_listT, w_listL, w_app, w_aug, w_for, List.set_cons_zero, List.set_cons_succ, List.getElem?_cons_zero, List.getElem?_cons_succ, List.length_cons, List.length_nil, Option.map_some, Option.map_none, Option.bind_some, Bool.or_true, Bool.true_or, eq_self, ite_true, ite_false, decide_true, decide_false, Int.reduceLT, Int.reduceLE, Int.reduceAdd, Int.reduceSub, Int.reduceMul, Int.reduceNeg, Nat.reduceAdd, Nat.reduceLT, Nat.reduceLeDiff, Nat.reduceEqDiff, reduceIte, w_lim, w_tup, w_lst, w_unp, w_and, w_or, w_andT, w_orT, w_not, w_ife, w_chain, w_isi, w_neg, w_isN, w_notN, w_raise, w_un0, w_max2, w_intI, w_intB, w_par, Bool.not_true, Bool.not_false, Int.zero_add, Nat.zero_add, hne, x1, hp1, hin]
theorem tab_of {m : Nat} {T : List Int} (h : tabOk m (tI' T) = true) : IsTab m T := by
  have h' : (decide ((T.map PyData.int).length = m) && ((T.map PyData.int).filter fun d => !inr d 0 ((m : Int) - 1)).isEmpty) = true := h
  rw [Bool.and_eq_true, decide_eq_true_eq, List.length_map, List.isEmpty_iff, List.filter_eq_nil_iff] at h'
  refine ⟨h'.1, fun x hx => ?_⟩
  have := h'.2 (.int x) (List.mem_map_of_mem hx)
  have e : inr (.int x) 0 ((m : Int) - 1) = (decide ((0 : Int) ≤ x) && decide (x ≤ (m : Int) - 1)) := rfl
  rw [e] at this
  simp only [Bool.not_eq_true', Bool.not_eq_false, Bool.and_eq_true, decide_eq_true_eq] at this
  omega
end PT

namespace PT
open PySem PySem.Spec PyProof.Rows L2
/-! ## k14 -/
theorem unS_map : ∀ ys : List Str, unS (ys.map PyData.str) = some ys
  | [] => rfl
  | y :: r => by
    show (unS (r.map PyData.str)).map (y :: ·) = _
    rw [unS_map r]
    rfl
theorem sum_le2 : ∀ ys : List Str, (∀ y ∈ ys, y.length ≤ 2) → (ys.map (·.length)).sum ≤ 2 * ys.length
  | [], _ => Nat.le_refl 0
  | y :: r, h => by
    have h1 := h y (List.mem_cons_self ..)
    have h2 := sum_le2 r fun z hz => h z (List.mem_cons_of_mem _ hz)
    rw [List.map_cons, List.sum_cons, List.length_cons]
    omega
theorem join_le (a : Str) (ha : a.length ≤ 1) : ∀ ys : List Str, (∀ y ∈ ys, y.length ≤ 2) → (Str.join a ys).length ≤ 3 * ys.length
  | [], _ => Nat.zero_le _
  | [y], h => by
    have h1 := h y (List.mem_cons_self ..)
    show y.length ≤ 3 * 1
    omega
  | y :: z :: r, h => by
    have h1 := h y (List.mem_cons_self ..)
    have h2 := join_le a ha (z :: r) fun u hu => h u (List.mem_cons_of_mem _ hu)
    show (y ++ a ++ Str.join a (z :: r)).length ≤ _
    rw [PySem.Str.length_append, PySem.Str.length_append]
    rw [List.length_cons] at h2 ⊢
    rw [List.length_cons]
    omega
theorem dStr_s {x : Int} (h0 : 0 ≤ x) (h1 : x < 100) : dStr (.int x) = some (.str (sI x)) := by
  show (if x.natAbs.log2 < 1920 then some (PyData.str (sI x)) else none) = _
  rw [if_pos (Nat.lt_of_le_of_lt (Nat.log2_le_self _) (by omega))]
theorem sI_int {x : Int} (h0 : 0 ≤ x) (h1 : x < 100) : pn (sI x) = some x.toNat ∧ (sI x).length ≤ 2 ∧ (TL.tl (sI x)).all dig = true := by
  have := sI_ok x.toNat (by omega)
  rw [Int.toNat_of_nonneg h0] at this
  exact this
theorem d_join (ys : List Str) (h : ∀ y ∈ ys, y.length ≤ 3) (hl : ys.length ≤ 1000) : dJoin (.str ",") (.list (ys.map .str)) = some (.str (Txt.join "," ys)) := by
  show (match unS (ys.map PyData.str) with
    | some ys => if (ys.map (fun y : Str => y.length)).sum + ys.length * (("," : Str)).length ≤ 16777216 then some (PyData.str (Txt.join "," ys)) else none
    | none => none) = _
  rw [unS_map]
  have h1 := PySem.StrLaws.sumLen_le ys h
  have hcm : (("," : Str)).length = 1 := by decide +kernel
  show (if (ys.map (·.length)).sum + ys.length * (("," : Str)).length ≤ 16777216 then some (PyData.str (Txt.join "," ys)) else none) = _
  rw [if_pos (by rw [hcm]; omega)]
theorem join_lim (ys : List Str) (h : ∀ y ∈ ys, y.length ≤ 3) : (Txt.join "," ys).length ≤ 4 * ys.length := by
  rw [TL.join_eq]
  have h1 := PySem.StrLaws.join_length_le "," ys
  have h2 := PySem.StrLaws.sumLen_le ys h
  have hcm : (("," : Str)).length = 1 := by decide +kernel
  rw [hcm] at h1
  omega
/-- the text of a table -/
def fmt (m : Nat) (ys : List Str) : Str := Txt.join "," ys ++ sMod ++ sI (m : Nat)
theorem mod_len : sMod.length = 5 := by decide +kernel
theorem fmt_len {m : Nat} (h12 : m ≤ 12) (ys : List Str) (h : ∀ y ∈ ys, y.length ≤ 3) : (fmt m ys).length ≤ 4 * ys.length + 7 := by
  unfold fmt
  rw [Str.length_append, Str.length_append, mod_len]
  have h1 := join_lim ys h
  have h2 := (sI_ok m (by omega)).2.1
  omega
theorem d_addS {x y : Str} (h : x.length + y.length ≤ 1000000) : dAdd (.str x) (.str y) = some (.str (x ++ y)) := by
  show (if x.length + y.length ≤ lim then some (PyData.str (x ++ y)) else none) = _
  rw [if_pos (by unfold lim; exact h)]
theorem tab_le {m : Nat} {T : List Int} (h12 : m ≤ 12) (hT : IsTab m T) : ∀ y ∈ T.map sI, y.length ≤ 3 := fun y hy => by
  obtain ⟨x, hx, rfl⟩ := List.mem_map.mp hy
  have hb := hT.2 x hx
  have := (sI_int hb.1 (by omega)).2.1
  omega
theorem w_format (m : Nat) (T : List Int) (h2 : 2 ≤ m) (h12 : m ≤ 12) (hT : IsTab m T) : F_format_table [.int m, tI' T] = some (.val (.str (fmt m (T.map sI)))) := by
  have hlc : lcL (eC (.bool true)) (eUn dStr (eVar 2)) (gNm 2) [some (.sh (.int m)), some (.sh (tI' T)), none] (T.map .int) = some (T.map fun x => PyData.str (sI x)) := by
    refine lcL_genT PyData.int _ T fun v hv => ?_
    have hb := hT.2 v hv
    refine ⟨_, rfl, ?_⟩
    simp only [w_bnd, w_bndX, w_bndN, w_bndS, w_bndSX, w_bndSN, w_bndI, w_bndA, w_c, w_bin, w_un, w_nil, w_cons, w_fn, w_seq, w_nop, w_set, w_setO, w_ret, w_do, w_if, w_v0, w_o0, w_o0f, w_vs, w_clr0, w_clrs, w_nm, w_pr, w_add, w_sub, w_mul, w_addI, w_mulI, w_lt, w_le, w_gt, w_ge, w_truB, w_truI, w_truL, w_truT, w_truN, w_lenL, w_lenT, w_tupL, w_listT, w_listL, w_app, w_aug, w_for, List.set_cons_zero, List.set_cons_succ, List.getElem?_cons_zero, List.getElem?_cons_succ, List.length_cons, List.length_nil, Option.map_some, Option.map_none, Option.bind_some, Bool.or_true, Bool.true_or, eq_self, ite_true, ite_false, decide_true, decide_false, Int.reduceLT, Int.reduceLE, Int.reduceAdd, Int.reduceSub, Int.reduceMul, Int.reduceNeg, Nat.reduceAdd, Nat.reduceLT, Nat.reduceLeDiff, Nat.reduceEqDiff, reduceIte, w_lim, w_tup, w_lst, w_unp, w_and, w_or, w_andT, w_orT, w_not, w_ife, w_chain, w_isi, w_neg, w_isN, w_notN, w_raise, w_un0, w_max2, w_intI, w_intB, w_par, Bool.not_true, Bool.not_false, Int.zero_add, Nat.zero_add, dStr_s hb.1 (by omega)]
  have hc : (eLc [2] (gNm 2) (iSeq (eVar 1)) (eC (.bool true)) (eUn dStr (eVar 2))) true [some (.sh (.int m)), some (.sh (tI' T)), none] = some (.val (.list ((T.map sI).map PyData.str))) := by
    rw [List.map_map]
    exact w_lc (w_seqT rfl) rfl (by rw [List.length_map, hT.1]; unfold lim; omega) hlc
  have hl2 := tab_le h12 hT
  have hle : (T.map sI).length = m := by rw [List.length_map]; exact hT.1
  have hj := d_join (T.map sI) hl2 (by omega)
  have e1 : (eMeth isStr dJoin (eC (.str ",")) (eLc [2] (gNm 2) (iSeq (eVar 1)) (eC (.bool true)) (eUn dStr (eVar 2)))) true [some (.sh (.int m)), some (.sh (tI' T)), none] = some (.val (.str (Txt.join "," (T.map sI)))) := by
    unfold eMeth
    rw [hc]
    show (dJoin (.str ",") (.list ((T.map sI).map PyData.str))).map Rs.val = _
    rw [hj]
    rfl
  have hm2 := (sI_ok m (by omega)).2.1
  have e2 : (eFs " mod " (eVar 0)) true [some (.sh (.int m)), some (.sh (tI' T)), none] = some (.val (.str (sMod ++ sI (m : Nat)))) := by
    show (if (m : Int).natAbs.log2 < 1920 ∧ (Str.empty ++ sMod ++ sI (m : Nat)).length ≤ 16777216 then some (Rs.val (PyData.str (Str.empty ++ sMod ++ sI (m : Nat)))) else none) = _
    rw [Str.empty_append, if_pos ⟨Nat.lt_of_le_of_lt (Nat.log2_le_self _) (by omega), by rw [Str.length_append, mod_len]; omega⟩]
  have hjl := join_lim (T.map sI) hl2
  refine run_rt ?_
  rw [show start0 3 [.int m, tI' T] = [some (.sh (.int m)), some (.sh (tI' T)), none] from rfl]
  unfold g_format_table
  rw [seq_nx (do_v (d := .none) (by simp only [w_bnd, w_bndX, w_bndN, w_bndS, w_bndSX, w_bndSN, w_bndI, w_bndA, w_c, w_bin, w_un, w_nil, w_cons, w_fn, w_seq, w_nop, w_set, w_setO, w_ret, w_do, w_if, w_v0, w_o0, w_o0f, w_vs, w_clr0, w_clrs, w_nm, w_pr, w_add, w_sub, w_mul, w_addI, w_mulI, w_lt, w_le, w_gt, w_ge, w_truB, w_truI, w_truL, w_truT, w_truN, w_lenL, w_lenT, w_tupL, w_listT, w_listL, w_app, w_aug, w_for, List.set_cons_zero, List.set_cons_succ, List.getElem?_cons_zero, List.getElem?_cons_succ, List.length_cons, List.length_nil, Option.map_some, Option.map_none, Option.bind_some, Bool.or_true, Bool.true_or, eq_self, ite_true, ite_false, decide_true, decide_false, Int.reduceLT, Int.reduceLE, Int.reduceAdd, Int.reduceSub, Int.reduceMul, Int.reduceNeg, Nat.reduceAdd, Nat.reduceLT, Nat.reduceLeDiff, Nat.reduceEqDiff, reduceIte, w_lim, w_tup, w_lst, w_unp, w_and, w_or, w_andT, w_orT, w_not, w_ife, w_chain, w_isi, w_neg, w_isN, w_notN, w_raise, w_un0, w_max2, w_intI, w_intB, w_par, Bool.not_true, Bool.not_false, Int.zero_add, Nat.zero_add, w_ckt m T h2 h12 hT]))]
  unfold t1_format_table
  refine ret_v ?_
  rw [w_bin, e1, w_bnd, e2, w_bnd, d_addS (by rw [Str.length_append, mod_len]; omega), ← Str.append_assoc]
  rfl
/-! what parsing gives, as the law's own function tells it -/
def lpD : Rs → Dt
  | .val d => d
  | .exc _ (some l) => .list [.str "line", l]
  | .exc _ none => .none
theorem lparse_x (v l : Dt) (hs : scl l = true) (h : F_parse_table [v] = some (.exc "ParseError" (some l))) : F__law_parse [v] = some (.val (.list [.str "line", l])) := by
  refine run_rt ?_
  rw [show start0 2 [v] = [some (.sh (v)), none] from rfl]
  unfold g__law_parse
  have e : sRet (eFn 1 F_parse_table (aCons (eVar 0) (aNil))) [some (.sh (v)), none] = some (.ex "ParseError" (some l)) := by
    simp only [w_bnd, w_bndX, w_bndN, w_bndS, w_bndSX, w_bndSN, w_bndI, w_bndA, w_c, w_bin, w_un, w_nil, w_cons, w_fn, w_seq, w_nop, w_set, w_setO, w_ret, w_do, w_if, w_v0, w_o0, w_o0f, w_vs, w_clr0, w_clrs, w_nm, w_pr, w_add, w_sub, w_mul, w_addI, w_mulI, w_lt, w_le, w_gt, w_ge, w_truB, w_truI, w_truL, w_truT, w_truN, w_lenL, w_lenT, w_tupL, w_listT, w_listL, w_app, w_aug, w_for, List.set_cons_zero, List.set_cons_succ, List.getElem?_cons_zero, List.getElem?_cons_succ, List.length_cons, List.length_nil, Option.map_some, Option.map_none, Option.bind_some, Bool.or_true, Bool.true_or, eq_self, ite_true, ite_false, decide_true, decide_false, Int.reduceLT, Int.reduceLE, Int.reduceAdd, Int.reduceSub, Int.reduceMul, Int.reduceNeg, Nat.reduceAdd, Nat.reduceLT, Nat.reduceLeDiff, Nat.reduceEqDiff, reduceIte, w_lim, w_tup, w_lst, w_unp, w_and, w_or, w_andT, w_orT, w_not, w_ife, w_chain, w_isi, w_neg, w_isN, w_notN, w_raise, w_un0, w_max2, w_intI, w_intB, w_par, Bool.not_true, Bool.not_false, Int.zero_add, Nat.zero_add, h]
  have a1 : em EM "ParseError" "ParseError" = some true := by decide +kernel
  have a2 : em EM "ParseError" "TableError" = some true := by decide +kernel
  have a3 : em EM "ParseError" "InvalidTable" = some false := by decide +kernel
  unfold sTryP
  rw [e]
  simp only [a1, a2, a3, hs, if_true]
  rfl
theorem lparse_v (v d : Dt) (h : F_parse_table [v] = some (.val d)) : F__law_parse [v] = some (.val d) := by
  refine run_rt ?_
  rw [show start0 2 [v] = [some (.sh (v)), none] from rfl]
  unfold g__law_parse
  have e : sRet (eFn 1 F_parse_table (aCons (eVar 0) (aNil))) [some (.sh (v)), none] = some (.rt d) := by
    simp only [w_bnd, w_bndX, w_bndN, w_bndS, w_bndSX, w_bndSN, w_bndI, w_bndA, w_c, w_bin, w_un, w_nil, w_cons, w_fn, w_seq, w_nop, w_set, w_setO, w_ret, w_do, w_if, w_v0, w_o0, w_o0f, w_vs, w_clr0, w_clrs, w_nm, w_pr, w_add, w_sub, w_mul, w_addI, w_mulI, w_lt, w_le, w_gt, w_ge, w_truB, w_truI, w_truL, w_truT, w_truN, w_lenL, w_lenT, w_tupL, w_listT, w_listL, w_app, w_aug, w_for, List.set_cons_zero, List.set_cons_succ, List.getElem?_cons_zero, List.getElem?_cons_succ, List.length_cons, List.length_nil, Option.map_some, Option.map_none, Option.bind_some, Bool.or_true, Bool.true_or, eq_self, ite_true, ite_false, decide_true, decide_false, Int.reduceLT, Int.reduceLE, Int.reduceAdd, Int.reduceSub, Int.reduceMul, Int.reduceNeg, Nat.reduceAdd, Nat.reduceLT, Nat.reduceLeDiff, Nat.reduceEqDiff, reduceIte, w_lim, w_tup, w_lst, w_unp, w_and, w_or, w_andT, w_orT, w_not, w_ife, w_chain, w_isi, w_neg, w_isN, w_notN, w_raise, w_un0, w_max2, w_intI, w_intB, w_par, Bool.not_true, Bool.not_false, Int.zero_add, Nat.zero_add, h]
  unfold sTryP
  rw [e]
theorem pres_cases (z : Str) : (∃ m T, 2 ≤ m ∧ m ≤ 12 ∧ IsTab m T ∧ pres z = .val (.tuple [.int (m : Nat), tI' T]) ∧ z = fmt m (T.map sI)) ∨ ∃ l, scl l = true ∧ pres z = .exc "ParseError" (some l) := by
  have hj := PySem.StrLaws.join_split z sMod
  unfold pres
  split
  · rename_i p0 p1 hS
    rw [hS] at hj
    cases hm : pn p1 with
    | none => exact .inr ⟨.int 0, rfl, rfl⟩
    | some m =>
      show (∃ m' T, 2 ≤ m' ∧ m' ≤ 12 ∧ IsTab m' T ∧ (if 2 ≤ m ∧ m ≤ 12 then pfin m (pvals p0) else Rs.exc "ParseError" (some (.int 0))) = _ ∧ _) ∨ ∃ l, scl l = true ∧ (if 2 ≤ m ∧ m ≤ 12 then pfin m (pvals p0) else Rs.exc "ParseError" (some (.int 0))) = _
      by_cases hmm : 2 ≤ m ∧ m ≤ 12
      · rw [if_pos hmm]
        unfold pfin
        cases hi : (pvals p0).findIdx? (·.isNone) with
        | some i => exact .inr ⟨_, rfl, rfl⟩
        | none =>
          cases hv : tabOk m (.tuple ((pvals p0).map oN)) with
          | false => exact .inr ⟨.none, rfl, rfl⟩
          | true =>
            left
            have hall : ∀ p ∈ Txt.split p0 ",", ∃ n, pn p = some n := fun p hp => by
              cases hq : pn p with
              | some n => exact ⟨n, rfl⟩
              | none =>
                have := List.findIdx?_eq_none_iff.mp hi (pn p) (List.mem_map_of_mem hp)
                rw [hq] at this
                cases this
            have key : ∃ T : List Int, (pvals p0).map oN = T.map .int ∧ Txt.split p0 "," = T.map sI := by
              unfold pvals
              generalize Txt.split p0 "," = L at hall
              induction L with
              | nil => exact ⟨[], rfl, rfl⟩
              | cons p L ih =>
                obtain ⟨T, h1, h2⟩ := ih fun q hq => hall q (List.mem_cons_of_mem _ hq)
                obtain ⟨n, hn⟩ := hall p List.mem_cons_self
                refine ⟨(n : Int) :: T, ?_, ?_⟩
                · rw [List.map_cons, List.map_cons, h1, hn]; rfl
                · rw [List.map_cons, h2, (pn_sI hn).1]
            obtain ⟨T, h1, h2⟩ := key
            rw [h1] at hv ⊢
            have hT : IsTab m T := tab_of hv
            refine ⟨m, T, hmm.1, hmm.2, hT, rfl, ?_⟩
            have hp0 := PySem.StrLaws.join_split p0 ","
            rw [h2] at hp0
            unfold fmt
            rw [TL.join_eq, hp0, ← (pn_sI hm).1]
            exact hj.symm
      · rw [if_neg hmm]
        exact .inr ⟨.int 0, rfl, rfl⟩
  · exact .inr ⟨.int 0, rfl, rfl⟩
theorem pres_toks {m : Nat} (h2 : 2 ≤ m) (h12 : m ≤ 12) {ys : List Str} (hne : ys ≠ []) (hc : ∀ y ∈ ys, 44 ∉ TL.tl y) (hm : ∀ y ∈ ys, 109 ∉ TL.tl y) : pres (fmt m ys) = pfin m (ys.map pn) := by
  have hs := sI_ok m (by omega)
  unfold pres fmt
  rw [split_mod (by rw [TL.join_eq]; exact join_no (by decide +kernel) hm) (dig_no hs.2.2 rfl)]
  show (match pn (sI (m : Nat)) with
    | some m => if 2 ≤ m ∧ m ≤ 12 then pfin m (pvals (Txt.join "," ys)) else Rs.exc "ParseError" (some (.int 0))
    | none => Rs.exc "ParseError" (some (.int 0))) = _
  rw [hs.1]
  show (if 2 ≤ m ∧ m ≤ 12 then pfin m (pvals (Txt.join "," ys)) else Rs.exc "ParseError" (some (.int 0))) = _
  rw [if_pos ⟨h2, h12⟩]
  unfold pvals
  rw [split_com hne hc]
end PT

namespace PT
open PySem PySem.Spec PyProof.Rows L2
theorem cutS_len (z : Str) (lo hi : Option Int) : (cutS z lo hi).length ≤ z.length := by
  have h1 := TL.len_tl z
  unfold cutS
  show ((TL.tl z).drop (HT.sIx z.length 0 lo) |>.take _).toArray.size ≤ _
  rw [List.size_toArray, List.length_take, List.length_drop]
  omega
theorem tabs_no {m : Nat} {T : List Int} (h12 : m ≤ 12) (hT : IsTab m T) {c : Nat} (hc : dig c = false) : ∀ y ∈ T.map sI, c ∉ TL.tl y := fun y hy => by
  obtain ⟨x, hx, rfl⟩ := List.mem_map.mp hy
  have hb := hT.2 x hx
  exact dig_no (sI_int hb.1 (by omega)).2.2 hc
theorem tab_pn {m : Nat} {T : List Int} (h12 : m ≤ 12) (hT : IsTab m T) : (T.map sI).map pn = T.map fun x => some x.toNat := by
  rw [List.map_map]
  refine List.map_congr_left fun x hx => ?_
  have hb := hT.2 x hx
  exact (sI_int hb.1 (by omega)).1
theorem oN_tab {m : Nat} {T : List Int} (hT : IsTab m T) : (T.map fun x => some x.toNat).map oN = T.map .int := by
  rw [List.map_map]
  refine List.map_congr_left fun x hx => ?_
  have hb := hT.2 x hx
  show PyData.int ((x.toNat : Nat) : Int) = .int x
  rw [Int.toNat_of_nonneg hb.1]
theorem pfin_tab {m : Nat} {T : List Int} (hT : IsTab m T) : pfin m (T.map fun x => some x.toNat) = .val (.tuple [.int (m : Nat), tI' T]) := by
  have h1 : (T.map fun x => some x.toNat).findIdx? (fun o : Option Nat => o.isNone) = none := by
    rw [List.findIdx?_eq_none_iff]
    intro o ho
    obtain ⟨x, _, rfl⟩ := List.mem_map.mp ho
    rfl
  unfold pfin
  rw [h1, oN_tab hT]
  show (if tabOk m (tI' T) = true then Rs.val (.tuple [.int (m : Nat), tI' T]) else _) = _
  rw [if_pos (tab_ok hT)]
theorem set_cut' {α : Type} (ys : List α) (a : Nat) (w : α) (h : a < ys.length) : ys.take a ++ [w] ++ ys.drop (a + 1) = ys.set a w := by
  rw [List.set_eq_take_append_cons_drop, if_pos h, List.append_assoc]
  rfl
theorem pfin_bad {m : Nat} {T : List Int} (hT : IsTab m T) {a : Nat} (ha : a < m) : pfin m ((T.map fun x => some x.toNat).set a none) = .exc "ParseError" (some (.int (1 + (a : Nat)))) := by
  have h1 : ((T.map fun x => some x.toNat).set a none).findIdx? (fun o : Option Nat => o.isNone) = some a := by
    rw [List.findIdx?_eq_some_iff_getElem]
    refine ⟨by rw [List.length_set, List.length_map, hT.1]; exact ha, ?_, fun j hj => ?_⟩
    · rw [List.getElem_set_self]; rfl
    · rw [List.getElem_set_ne (by omega), List.getElem_map]; simp
  unfold pfin
  rw [h1]
theorem pfin_great {m : Nat} {T : List Int} (hT : IsTab m T) {a g : Nat} (ha : a < m) (hg : m ≤ g) : pfin m ((T.map fun x => some x.toNat).set a (some g)) = .exc "ParseError" (some .none) := by
  have h1 : ((T.map fun x => some x.toNat).set a (some g)).findIdx? (fun o : Option Nat => o.isNone) = none := by
    rw [List.findIdx?_eq_none_iff]
    intro o ho
    rcases List.mem_or_eq_of_mem_set ho with ho | rfl
    · obtain ⟨x, _, rfl⟩ := List.mem_map.mp ho
      rfl
    · rfl
  have h2 : tabOk m (.tuple (((T.map fun x => some x.toNat).set a (some g)).map oN)) = false := by
    refine tab_mem (d := .int (g : Nat)) ?_ ?_
    · exact List.mem_map.mpr ⟨some g, List.mem_set (by rw [List.length_map, hT.1]; exact ha) _, rfl⟩
    · show (decide ((0 : Int) ≤ (g : Nat)) && decide (((g : Nat) : Int) ≤ (m : Int) - 1)) = false
      rw [decide_eq_false (p := ((g : Nat) : Int) ≤ (m : Int) - 1) (by omega), Bool.and_false]
  unfold pfin
  rw [h1]
  show (if tabOk m (.tuple (((T.map fun x => some x.toNat).set a (some g)).map oN)) = true then _ else _) = _
  rw [h2, if_neg Bool.false_ne_true]
theorem pt_none (v : Dt) (h : dIsi "str" v = false) : F_parse_table [v] = some (.exc "ParseError" (some .none)) := by
  refine run_ex ?_
  rw [show start0 5 [v] = [some (.sh (v)), none, none, none, none] from rfl]
  unfold g_parse_table
  refine seq_ex ?_
  rw [if_t (d := .bool true)]
  · rfl
  · simp only [w_bnd, w_bndX, w_bndN, w_bndS, w_bndSX, w_bndSN, w_bndI, w_bndA, w_c, w_bin, w_un, w_nil, w_cons, w_fn, w_seq, w_nop, w_set, w_setO, w_ret, w_do, w_if, w_v0, w_o0, w_o0f, w_vs, w_clr0, w_clrs, w_nm, w_pr, w_add, w_sub, w_mul, w_addI, w_mulI, w_lt, w_le, w_gt, w_ge, w_truB, w_truI, w_truL, w_truT, w_truN, w_lenL, w_lenT, w_tupL, w_listT, w_listL, w_app, w_aug, w_for, List.set_cons_zero, List.set_cons_succ, List.getElem?_cons_zero, List.getElem?_cons_succ, List.length_cons, List.length_nil, Option.map_some, Option.map_none, Option.bind_some, Bool.or_true, Bool.true_or, eq_self, ite_true, ite_false, decide_true, decide_false, Int.reduceLT, Int.reduceLE, Int.reduceAdd, Int.reduceSub, Int.reduceMul, Int.reduceNeg, Nat.reduceAdd, Nat.reduceLT, Nat.reduceLeDiff, Nat.reduceEqDiff, reduceIte, w_lim, w_tup, w_lst, w_unp, w_and, w_or, w_andT, w_orT, w_not, w_ife, w_chain, w_isi, w_neg, w_isN, w_notN, w_raise, w_un0, w_max2, w_intI, w_intB, w_par, Bool.not_true, Bool.not_false, Int.zero_add, Nat.zero_add, h]
  · rfl
theorem found_ok (w : Str) (hw : w.length ≤ 1000) : ∃ fd x0, F__law_parse [.str w] = some (.val fd) ∧ dIx fd (.int 0) = some x0 ∧ dEq x0 (.str "other") = some (.bool false) ∧
    (dNe x0 (.str "line") = some (.bool false) ∨ (dNe x0 (.str "line") = some (.bool true) ∧ ∃ x1, dIx fd (.int 1) = some x1 ∧ F_format_table [x0, x1] = some (.val (.str w)))) := by
  have hp := w_parse w hw
  rcases pres_cases w with ⟨m, T, h2, h12, hT, e, hz⟩ | ⟨l, hs, e⟩
  · rw [e] at hp
    have hf := w_format m T h2 h12 hT
    rw [← hz] at hf
    exact ⟨_, .int (m : Nat), lparse_v _ _ hp, rfl, rfl, .inr ⟨rfl, tI' T, rfl, hf⟩⟩
  · rw [e] at hp
    exact ⟨_, .str "line", lparse_x _ l hs hp, rfl, by kernel_rfl, .inl (by kernel_rfl)⟩
theorem closed8 : ∀ q : Nat, q < 8 → ∃ w : Str, ([PyData.str "0,1", .str "0 mod 1", .str "0,1 mod 13", .str "0,1 mod 02", .str "0,1mod 2", .str "0,1 mod 2 mod 2", .str "", .str "0,1 mod x"] : List Dt)[q]? = some (.str w) ∧ F__law_parse [.str w] = some (.val (.list [.str "line", .int 0])) := by
  intro q hq
  have : q = 0 ∨ q = 1 ∨ q = 2 ∨ q = 3 ∨ q = 4 ∨ q = 5 ∨ q = 6 ∨ q = 7 := by omega
  rcases this with rfl | rfl | rfl | rfl | rfl | rfl | rfl | rfl
  · exact ⟨"0,1", rfl, by kernel_rfl⟩
  · exact ⟨"0 mod 1", rfl, by kernel_rfl⟩
  · exact ⟨"0,1 mod 13", rfl, by kernel_rfl⟩
  · exact ⟨"0,1 mod 02", rfl, by kernel_rfl⟩
  · exact ⟨"0,1mod 2", rfl, by kernel_rfl⟩
  · exact ⟨"0,1 mod 2 mod 2", rfl, by kernel_rfl⟩
  · exact ⟨"", rfl, by kernel_rfl⟩
  · exact ⟨"0,1 mod x", rfl, by kernel_rfl⟩
theorem wrong6 : ∀ q : Nat, q < 6 → ∃ w : Str, ([PyData.str "", .str "x", .str "100", .str "-1", .str "01", .str " 1"] : List Dt)[q]? = some (.str w) ∧ w.length ≤ 3 ∧ pn w = none ∧ 44 ∉ TL.tl w ∧ 109 ∉ TL.tl w := by
  intro q hq
  have : q = 0 ∨ q = 1 ∨ q = 2 ∨ q = 3 ∨ q = 4 ∨ q = 5 := by omega
  rcases this with rfl | rfl | rfl | rfl | rfl | rfl
  · exact ⟨"", rfl, by decide +kernel, by decide +kernel, by decide +kernel, by decide +kernel⟩
  · exact ⟨"x", rfl, by decide +kernel, by decide +kernel, by decide +kernel, by decide +kernel⟩
  · exact ⟨"100", rfl, by decide +kernel, by decide +kernel, by decide +kernel, by decide +kernel⟩
  · exact ⟨"-1", rfl, by decide +kernel, by decide +kernel, by decide +kernel, by decide +kernel⟩
  · exact ⟨"01", rfl, by decide +kernel, by decide +kernel, by decide +kernel, by decide +kernel⟩
  · exact ⟨" 1", rfl, by decide +kernel, by decide +kernel, by decide +kernel, by decide +kernel⟩
theorem new6 : ∀ q : Nat, q < 6 → ∃ w : Str, ([PyData.str "0", .str " ", .str "1", .str ",", .str "x", .str " mod "] : List Dt)[q]? = some (.str w) ∧ w.length ≤ 5 := by
  intro q hq
  have : q = 0 ∨ q = 1 ∨ q = 2 ∨ q = 3 ∨ q = 4 ∨ q = 5 := by omega
  rcases this with rfl | rfl | rfl | rfl | rfl | rfl
  · exact ⟨"0", rfl, by decide +kernel⟩
  · exact ⟨" ", rfl, by decide +kernel⟩
  · exact ⟨"1", rfl, by decide +kernel⟩
  · exact ⟨",", rfl, by decide +kernel⟩
  · exact ⟨"x", rfl, by decide +kernel⟩
  · exact ⟨" mod ", rfl, by decide +kernel⟩
theorem great3 (m : Nat) (h12 : m ≤ 12) : ∀ q : Nat, q < 3 → ∃ (w : Str) (g : Nat), ([PyData.str (sI (m : Nat)), .str "12", .str "99"] : List Dt)[q]? = some (.str w) ∧ w.length ≤ 3 ∧ pn w = some g ∧ m ≤ g ∧ 44 ∉ TL.tl w ∧ 109 ∉ TL.tl w := by
  intro q hq
  have : q = 0 ∨ q = 1 ∨ q = 2 := by omega
  rcases this with rfl | rfl | rfl
  · have := sI_ok m (by omega)
    exact ⟨_, m, rfl, by omega, this.1, Nat.le_refl m, dig_no this.2.2 rfl, dig_no this.2.2 rfl⟩
  · exact ⟨"12", 12, rfl, by decide +kernel, by decide +kernel, h12, by decide +kernel, by decide +kernel⟩
  · exact ⟨"99", 99, rfl, by decide +kernel, by decide +kernel, by omega, by decide +kernel, by decide +kernel⟩
theorem law_plain (ns : List Int) : F_law [scr ns] = some (.val (.bool true)) := by
  obtain ⟨L, hrow, hL, hLr⟩ := w_row ns 6
  obtain ⟨m, T, hc, h2, h12, hT⟩ := w_lcase ns 2 12 (by omega) (by omega)
  have hrow' : F__law_row [scr ns, .int 6] = some (.val (.list (L.map .int))) := hrow
  have hc' : F__law_case [scr ns, .int 2, .int 12] = some (.val (.tuple [.int m, tI' T])) := hc
  have hmp : (0 : Int) < m := by omega
  have d0 : dIx (.list (L.map .int)) (.int 0) = some (.int (L.getD 0 0)) := w_ixLi (by omega) (by omega)
  have d1 : dIx (.list (L.map .int)) (.int 1) = some (.int (L.getD 1 0)) := w_ixLi (by omega) (by omega)
  have d2 : dIx (.list (L.map .int)) (.int 2) = some (.int (L.getD 2 0)) := w_ixLi (by omega) (by omega)
  have d3 : dIx (.list (L.map .int)) (.int 3) = some (.int (L.getD 3 0)) := w_ixLi (by omega) (by omega)
  have d4 : dIx (.list (L.map .int)) (.int 4) = some (.int (L.getD 4 0)) := w_ixLi (by omega) (by omega)
  have d5 : dIx (.list (L.map .int)) (.int 5) = some (.int (L.getD 5 0)) := w_ixLi (by omega) (by omega)
  have d7 : dIx (.list (L.map .int)) (.int 7) = some (.int (L.getD 7 0)) := w_ixLi (by omega) (by omega)
  have d8 : dIx (.list (L.map .int)) (.int 8) = some (.int (L.getD 8 0)) := w_ixLi (by omega) (by omega)
  have hl0 : 0 ≤ L.getD 0 0 ∧ L.getD 0 0 < 1000 := hLr _ (getD_mem (by omega))
  have hys : (T.map sI).length = m := by rw [List.length_map]; exact hT.1
  have hy3 := tab_le h12 hT
  have hyc : ∀ y ∈ T.map sI, 44 ∉ TL.tl y := tabs_no h12 hT rfl
  have hym : ∀ y ∈ T.map sI, 109 ∉ TL.tl y := tabs_no h12 hT rfl
  have hyp := tab_pn h12 hT
  have hfm := w_format m T h2 h12 hT
  have hneY : T.map sI ≠ [] := fun e => by rw [e] at hys; simp at hys; omega
  have hpr := pres_toks h2 h12 hneY hyc hym
  rw [hyp, pfin_tab hT] at hpr
  have lcT : (eLc [15] (gNm 15) (iSeq (eVar 3)) (eC (.bool true)) (eUn dStr (eVar 15))) false [some (.sh (scr ns)), some (.sh (.list (L.map .int))), some (.sh (.int m)), some (.sh (tI' T)), none, none, none, none, none, none, none, none, none, none, none, none] = some (.val (.list ((T.map sI).map .str))) := by
    have hl : lcL (eC (.bool true)) (eUn dStr (eVar 15)) (gNm 15) [some (.sh (scr ns)), some (.sh (.list (L.map .int))), some (.sh (.int m)), some (.sh (tI' T)), none, none, none, none, none, none, none, none, none, none, none, none] (T.map .int) = some (T.map fun x => PyData.str (sI x)) := by
      refine lcL_genT PyData.int _ T fun v hv => ?_
      have hb := hT.2 v hv
      refine ⟨_, rfl, ?_⟩
      simp only [w_bnd, w_bndX, w_bndN, w_bndS, w_bndSX, w_bndSN, w_bndI, w_bndA, w_c, w_bin, w_un, w_nil, w_cons, w_fn, w_seq, w_nop, w_set, w_setO, w_ret, w_do, w_if, w_v0, w_o0, w_o0f, w_vs, w_clr0, w_clrs, w_nm, w_pr, w_add, w_sub, w_mul, w_addI, w_mulI, w_lt, w_le, w_gt, w_ge, w_truB, w_truI, w_truL, w_truT, w_truN, w_lenL, w_lenT, w_tupL, w_listT, w_listL, w_app, w_aug, w_for, List.set_cons_zero, List.set_cons_succ, List.getElem?_cons_zero, List.getElem?_cons_succ, List.length_cons, List.length_nil, Option.map_some, Option.map_none, Option.bind_some, Bool.or_true, Bool.true_or, eq_self, ite_true, ite_false, decide_true, decide_false, Int.reduceLT, Int.reduceLE, Int.reduceAdd, Int.reduceSub, Int.reduceMul, Int.reduceNeg, Nat.reduceAdd, Nat.reduceLT, Nat.reduceLeDiff, Nat.reduceEqDiff, reduceIte, w_lim, w_tup, w_lst, w_unp, w_and, w_or, w_andT, w_orT, w_not, w_ife, w_chain, w_isi, w_neg, w_isN, w_notN, w_raise, w_un0, w_max2, w_intI, w_intB, w_par, Bool.not_true, Bool.not_false, Int.zero_add, Nat.zero_add, dStr_s hb.1 (by omega)]
    rw [List.map_map]
    exact w_lc (w_seqT rfl) rfl (by rw [List.length_map, hT.1]; unfold lim; omega) hl
  have hgen : ∀ (U : List Str) (a : Nat) (w : Str), U = T.map sI → a < m → w.length ≤ 3 → 44 ∉ TL.tl w → 109 ∉ TL.tl w → pres (fmt m (U.set a w)) = pfin m ((T.map fun x => some x.toNat).set a (pn w)) ∧ (∀ y ∈ U.set a w, y.length ≤ 3) := fun U a w hU ha hw3 hw1 hw2 => by
    subst hU
    have hmem : ∀ y ∈ (T.map sI).set a w, y ∈ T.map sI ∨ y = w := fun y hy => List.mem_or_eq_of_mem_set hy
    refine ⟨?_, fun y hy => (hmem y hy).elim (hy3 y) fun e => by rw [e]; exact hw3⟩
    rw [pres_toks h2 h12 (fun e => by have := congrArg List.length e; rw [List.length_set, hys] at this; simp at this; omega) (fun y hy => (hmem y hy).elim (hyc y) fun e => by rw [e]; exact hw1) (fun y hy => (hmem y hy).elim (hym y) fun e => by rw [e]; exact hw2)]
    rw [List.map_set, hyp]
  have hm100 : (0 : Int) ≤ (m : Nat) ∧ ((m : Nat) : Int) < 100 := ⟨by omega, by omega⟩
  generalize hU : T.map sI = U at lcT hys hy3 hfm hpr
  have hgen := hgen U
  have hjn := d_join U hy3 (by omega)
  have hjl := join_lim U hy3
  have hml := (sI_ok m (by omega)).2.1
  have hfl := fmt_len h12 U hy3
  have ad1 := d_addS (x := Txt.join "," U) (y := sMod) (by rw [mod_len]; omega)
  have ad2 : dAdd (.str (Txt.join "," U ++ sMod)) (.str (sI (m : Nat))) = some (.str (fmt m U)) := d_addS (by rw [Str.length_append, mod_len]; omega)
  have isS : isStr (.str ",") = true := rfl
  have dsm := dStr_s hm100.1 hm100.2
  have ejn : ∀ b ρ, eMeth isStr dJoin (eC (.str ",")) (eVar 4) b (some (.sh (scr ns)) :: some (.sh (.list (L.map .int))) :: some (.sh (.int m)) :: some (.sh (tI' T)) :: some (.sh (.list (U.map .str))) :: ρ) = some (.val (.str (Txt.join "," U))) := fun b ρ => by
    unfold eMeth
    simp only [w_bnd, w_bndX, w_bndN, w_bndS, w_bndSX, w_bndSN, w_bndI, w_bndA, w_c, w_bin, w_un, w_nil, w_cons, w_fn, w_seq, w_nop, w_set, w_setO, w_ret, w_do, w_if, w_v0, w_o0, w_o0f, w_vs, w_clr0, w_clrs, w_nm, w_pr, w_add, w_sub, w_mul, w_addI, w_mulI, w_lt, w_le, w_gt, w_ge, w_truB, w_truI, w_truL, w_truT, w_truN, w_lenL, w_lenT, w_tupL, w_listT, w_listL, w_app, w_aug, w_for, List.set_cons_zero, List.set_cons_succ, List.getElem?_cons_zero, List.getElem?_cons_succ, List.length_cons, List.length_nil, Option.map_some, Option.map_none, Option.bind_some, Bool.or_true, Bool.true_or, eq_self, ite_true, ite_false, decide_true, decide_false, Int.reduceLT, Int.reduceLE, Int.reduceAdd, Int.reduceSub, Int.reduceMul, Int.reduceNeg, Nat.reduceAdd, Nat.reduceLT, Nat.reduceLeDiff, Nat.reduceEqDiff, reduceIte, w_lim, w_tup, w_lst, w_unp, w_and, w_or, w_andT, w_orT, w_not, w_ife, w_chain, w_isi, w_neg, w_isN, w_notN, w_raise, w_un0, w_max2, w_intI, w_intB, w_par, Bool.not_true, Bool.not_false, Int.zero_add, Nat.zero_add, isS, hjn]
  have hlpz : F__law_parse [.str (fmt m U)] = some (.val (.tuple [.int m, tI' T])) := by
    have := w_parse (fmt m U) (by omega)
    rw [hpr] at this
    exact lparse_v _ _ this
  have shT : Sh 60 (.tuple [.int (m : Int), tI' T]) := Sh.tuple (n := 59) fun x hx => by
    simp only [List.mem_cons, List.not_mem_nil, or_false] at hx
    rcases hx with rfl | rfl
    · exact Sh.int 59 _
    · exact (Sh.tI _ 58).mono (by omega)
  have ne1 : dNe (.str (fmt m U)) (.str (fmt m U)) = some (.bool false) := by rw [ne_sh (Sh.str 60 _) (Sh.str 60 _), eqv_refl (Sh.str 60 _).1]; rfl
  have ne2 : dNe (.tuple [.int (m : Int), tI' T]) (.tuple [.int (m : Int), tI' T]) = some (.bool false) := by rw [ne_sh shT shT, eqv_refl shT.1]; rfl
  have shN : ∀ i : Int, Sh 60 (.list [.str "line", .int i]) := fun i => Sh.list (n := 59) fun x hx => by
    simp only [List.mem_cons, List.not_mem_nil, or_false] at hx
    rcases hx with rfl | rfl
    · exact Sh.str 59 _
    · exact Sh.int 59 _
  have neL : ∀ i : Int, dNe (.list [.str "line", .int i]) (.list [.str "line", .int i]) = some (.bool false) := fun i => by rw [ne_sh (shN i) (shN i), eqv_refl (shN i).1]; rfl
  have neN : dNe (.list [.str "line", .none]) (.list [.str "line", .none]) = some (.bool false) := by kernel_rfl
  have eqN : dEq (.list [.str "line", .none]) (.list [.str "line", .none]) = some (.bool true) := by kernel_rfl
  refine run_rt ?_
  rw [show start0 16 [scr ns] = [some (.sh (scr ns)), none, none, none, none, none, none, none, none, none, none, none, none, none, none, none] from rfl]
  unfold g_law
  rw [seq_nx (ρ' := [some (.sh (scr ns)), some (.sh (.list (L.map .int))), none, none, none, none, none, none, none, none, none, none, none, none, none, none]) (by simp only [w_bnd, w_bndX, w_bndN, w_bndS, w_bndSX, w_bndSN, w_bndI, w_bndA, w_c, w_bin, w_un, w_nil, w_cons, w_fn, w_seq, w_nop, w_set, w_setO, w_ret, w_do, w_if, w_v0, w_o0, w_o0f, w_vs, w_clr0, w_clrs, w_nm, w_pr, w_add, w_sub, w_mul, w_addI, w_mulI, w_lt, w_le, w_gt, w_ge, w_truB, w_truI, w_truL, w_truT, w_truN, w_lenL, w_lenT, w_tupL, w_listT, w_listL, w_app, w_aug, w_for, List.set_cons_zero, List.set_cons_succ, List.getElem?_cons_zero, List.getElem?_cons_succ, List.length_cons, List.length_nil, Option.map_some, Option.map_none, Option.bind_some, Bool.or_true, Bool.true_or, eq_self, ite_true, ite_false, decide_true, decide_false, Int.reduceLT, Int.reduceLE, Int.reduceAdd, Int.reduceSub, Int.reduceMul, Int.reduceNeg, Nat.reduceAdd, Nat.reduceLT, Nat.reduceLeDiff, Nat.reduceEqDiff, reduceIte, w_lim, w_tup, w_lst, w_unp, w_and, w_or, w_andT, w_orT, w_not, w_ife, w_chain, w_isi, w_neg, w_isN, w_notN, w_raise, w_un0, w_max2, w_intI, w_intB, w_par, Bool.not_true, Bool.not_false, Int.zero_add, Nat.zero_add, hrow'])]
  unfold t1_law
  rw [seq_nx (ρ' := [some (.sh (scr ns)), some (.sh (.list (L.map .int))), some (.sh (.int m)), some (.sh (tI' T)), none, none, none, none, none, none, none, none, none, none, none, none]) (by simp only [w_bnd, w_bndX, w_bndN, w_bndS, w_bndSX, w_bndSN, w_bndI, w_bndA, w_c, w_bin, w_un, w_nil, w_cons, w_fn, w_seq, w_nop, w_set, w_setO, w_ret, w_do, w_if, w_v0, w_o0, w_o0f, w_vs, w_clr0, w_clrs, w_nm, w_pr, w_add, w_sub, w_mul, w_addI, w_mulI, w_lt, w_le, w_gt, w_ge, w_truB, w_truI, w_truL, w_truT, w_truN, w_lenL, w_lenT, w_tupL, w_listT, w_listL, w_app, w_aug, w_for, List.set_cons_zero, List.set_cons_succ, List.getElem?_cons_zero, List.getElem?_cons_succ, List.length_cons, List.length_nil, Option.map_some, Option.map_none, Option.bind_some, Bool.or_true, Bool.true_or, eq_self, ite_true, ite_false, decide_true, decide_false, Int.reduceLT, Int.reduceLE, Int.reduceAdd, Int.reduceSub, Int.reduceMul, Int.reduceNeg, Nat.reduceAdd, Nat.reduceLT, Nat.reduceLeDiff, Nat.reduceEqDiff, reduceIte, w_lim, w_tup, w_lst, w_unp, w_and, w_or, w_andT, w_orT, w_not, w_ife, w_chain, w_isi, w_neg, w_isN, w_notN, w_raise, w_un0, w_max2, w_intI, w_intB, w_par, Bool.not_true, Bool.not_false, Int.zero_add, Nat.zero_add, hc'])]
  unfold t2_law
  rw [seq_nx (ρ' := [some (.sh (scr ns)), some (.sh (.list (L.map .int))), some (.sh (.int m)), some (.sh (tI' T)), some (.sh (.list (U.map .str))), none, none, none, none, none, none, none, none, none, none, none]) (set_v lcT)]
  unfold t3_law
  rw [seq_nx (ρ' := [some (.sh (scr ns)), some (.sh (.list (L.map .int))), some (.sh (.int m)), some (.sh (tI' T)), some (.sh (.list (U.map .str))), some (.sh (.str (fmt m U))), none, none, none, none, none, none, none, none, none, none]) (set_v (by
    rw [w_bin, w_bin, ejn]
    simp only [w_bnd, w_bndX, w_bndN, w_bndS, w_bndSX, w_bndSN, w_bndI, w_bndA, w_c, w_bin, w_un, w_nil, w_cons, w_fn, w_seq, w_nop, w_set, w_setO, w_ret, w_do, w_if, w_v0, w_o0, w_o0f, w_vs, w_clr0, w_clrs, w_nm, w_pr, w_add, w_sub, w_mul, w_addI, w_mulI, w_lt, w_le, w_gt, w_ge, w_truB, w_truI, w_truL, w_truT, w_truN, w_lenL, w_lenT, w_tupL, w_listT, w_listL, w_app, w_aug, w_for, List.set_cons_zero, List.set_cons_succ, List.getElem?_cons_zero, List.getElem?_cons_succ, List.length_cons, List.length_nil, Option.map_some, Option.map_none, Option.bind_some, Bool.or_true, Bool.true_or, eq_self, ite_true, ite_false, decide_true, decide_false, Int.reduceLT, Int.reduceLE, Int.reduceAdd, Int.reduceSub, Int.reduceMul, Int.reduceNeg, Nat.reduceAdd, Nat.reduceLT, Nat.reduceLeDiff, Nat.reduceEqDiff, reduceIte, w_lim, w_tup, w_lst, w_unp, w_and, w_or, w_andT, w_orT, w_not, w_ife, w_chain, w_isi, w_neg, w_isN, w_notN, w_raise, w_un0, w_max2, w_intI, w_intB, w_par, Bool.not_true, Bool.not_false, Int.zero_add, Nat.zero_add, ad1, dsm, ad2]))]
  unfold t4_law
  refine (seq_nx (ρ' := [some (.sh (scr ns)), some (.sh (.list (L.map .int))), some (.sh (.int m)), some (.sh (tI' T)), some (.sh (.list (U.map .str))), some (.sh (.str (fmt m U))), none, none, none, none, none, none, none, none, none, none]) ?_).trans ?_
  · rw [if_f (d := .bool false)]
    · rfl
    · simp only [w_bnd, w_bndX, w_bndN, w_bndS, w_bndSX, w_bndSN, w_bndI, w_bndA, w_c, w_bin, w_un, w_nil, w_cons, w_fn, w_seq, w_nop, w_set, w_setO, w_ret, w_do, w_if, w_v0, w_o0, w_o0f, w_vs, w_clr0, w_clrs, w_nm, w_pr, w_add, w_sub, w_mul, w_addI, w_mulI, w_lt, w_le, w_gt, w_ge, w_truB, w_truI, w_truL, w_truT, w_truN, w_lenL, w_lenT, w_tupL, w_listT, w_listL, w_app, w_aug, w_for, List.set_cons_zero, List.set_cons_succ, List.getElem?_cons_zero, List.getElem?_cons_succ, List.length_cons, List.length_nil, Option.map_some, Option.map_none, Option.bind_some, Bool.or_true, Bool.true_or, eq_self, ite_true, ite_false, decide_true, decide_false, Int.reduceLT, Int.reduceLE, Int.reduceAdd, Int.reduceSub, Int.reduceMul, Int.reduceNeg, Nat.reduceAdd, Nat.reduceLT, Nat.reduceLeDiff, Nat.reduceEqDiff, reduceIte, w_lim, w_tup, w_lst, w_unp, w_and, w_or, w_andT, w_orT, w_not, w_ife, w_chain, w_isi, w_neg, w_isN, w_notN, w_raise, w_un0, w_max2, w_intI, w_intB, w_par, Bool.not_true, Bool.not_false, Int.zero_add, Nat.zero_add, hfm, ne1, hlpz, ne2]
    · rfl
  unfold t5_law
  generalize hZ : fmt m U = Z at hfl
  have hlen : dLen (.str Z) = some (.int Z.length) := by
    show (if Z.length ≤ lim then some (PyData.int Z.length) else none) = _
    rw [if_pos (by unfold lim; omega)]
  obtain ⟨sp, hsp⟩ : ∃ sp : Nat, (sp : Int) = L.getD 0 0 * 5 % ((Z.length : Int) + 1) := ⟨(L.getD 0 0 * 5 % ((Z.length : Int) + 1)).toNat, Int.toNat_of_nonneg (Int.emod_nonneg _ (by omega))⟩
  have s5 : sml 5 = true := by decide
  have hzp : (0 : Int) < (Z.length : Int) + 1 := by omega
  rw [seq_nx (set_v (d := .int (sp : Int)) (by simp only [w_bnd, w_bndX, w_bndN, w_bndS, w_bndSX, w_bndSN, w_bndI, w_bndA, w_c, w_bin, w_un, w_nil, w_cons, w_fn, w_seq, w_nop, w_set, w_setO, w_ret, w_do, w_if, w_v0, w_o0, w_o0f, w_vs, w_clr0, w_clrs, w_nm, w_pr, w_add, w_sub, w_mul, w_addI, w_mulI, w_lt, w_le, w_gt, w_ge, w_truB, w_truI, w_truL, w_truT, w_truN, w_lenL, w_lenT, w_tupL, w_listT, w_listL, w_app, w_aug, w_for, List.set_cons_zero, List.set_cons_succ, List.getElem?_cons_zero, List.getElem?_cons_succ, List.length_cons, List.length_nil, Option.map_some, Option.map_none, Option.bind_some, Bool.or_true, Bool.true_or, eq_self, ite_true, ite_false, decide_true, decide_false, Int.reduceLT, Int.reduceLE, Int.reduceAdd, Int.reduceSub, Int.reduceMul, Int.reduceNeg, Nat.reduceAdd, Nat.reduceLT, Nat.reduceLeDiff, Nat.reduceEqDiff, reduceIte, w_lim, w_tup, w_lst, w_unp, w_and, w_or, w_andT, w_orT, w_not, w_ife, w_chain, w_isi, w_neg, w_isN, w_notN, w_raise, w_un0, w_max2, w_intI, w_intB, w_par, Bool.not_true, Bool.not_false, Int.zero_add, Nat.zero_add, d0, s5, hlen, w_mod hzp, ← hsp]))]
  unfold t6_law
  obtain ⟨q1, hq1⟩ : ∃ q : Nat, (q : Int) = L.getD 1 0 % 6 := ⟨(L.getD 1 0 % 6).toNat, Int.toNat_of_nonneg (by omega)⟩
  obtain ⟨nw, hnw, hnl⟩ := new6 q1 (by omega)
  have hx1 := w_ixL hnw
  rw [seq_nx (set_v (d := .str nw) (by simp only [w_bnd, w_bndX, w_bndN, w_bndS, w_bndSX, w_bndSN, w_bndI, w_bndA, w_c, w_bin, w_un, w_nil, w_cons, w_fn, w_seq, w_nop, w_set, w_setO, w_ret, w_do, w_if, w_v0, w_o0, w_o0f, w_vs, w_clr0, w_clrs, w_nm, w_pr, w_add, w_sub, w_mul, w_addI, w_mulI, w_lt, w_le, w_gt, w_ge, w_truB, w_truI, w_truL, w_truT, w_truN, w_lenL, w_lenT, w_tupL, w_listT, w_listL, w_app, w_aug, w_for, List.set_cons_zero, List.set_cons_succ, List.getElem?_cons_zero, List.getElem?_cons_succ, List.length_cons, List.length_nil, Option.map_some, Option.map_none, Option.bind_some, Bool.or_true, Bool.true_or, eq_self, ite_true, ite_false, decide_true, decide_false, Int.reduceLT, Int.reduceLE, Int.reduceAdd, Int.reduceSub, Int.reduceMul, Int.reduceNeg, Nat.reduceAdd, Nat.reduceLT, Nat.reduceLeDiff, Nat.reduceEqDiff, reduceIte, w_lim, w_tup, w_lst, w_unp, w_and, w_or, w_andT, w_orT, w_not, w_ife, w_chain, w_isi, w_neg, w_isN, w_notN, w_raise, w_un0, w_max2, w_intI, w_intB, w_par, Bool.not_true, Bool.not_false, Int.zero_add, Nat.zero_add, d1, w_mod, ← hq1, hx1]))]
  unfold t7_law
  show sSeq (sSet 8 _) _ [some (.sh (scr ns)), some (.sh (.list (L.map .int))), some (.sh (.int m)), some (.sh (tI' T)), some (.sh (.list (U.map .str))), some (.sh (.str Z)), some (.sh (.int (sp : Int))), some (.sh (.str nw)), none, none, none, none, none, none, none, none] = _
  have sl1 : ∀ b, eSl (eVar 5) oNo (oSo (eVar 6)) b [some (.sh (scr ns)), some (.sh (.list (L.map .int))), some (.sh (.int m)), some (.sh (tI' T)), some (.sh (.list (U.map .str))), some (.sh (.str Z)), some (.sh (.int (sp : Int))), some (.sh (.str nw)), none, none, none, none, none, none, none, none] = some (.val (.str (cutS Z none (some (sp : Int))))) := fun b => by
    show ((if Z.length ≤ lim then some (PyData.str (cutS Z none (some (sp : Int)))) else none)).map Rs.val = _
    rw [if_pos (by unfold lim; omega)]
    rfl
  have sl2 : ∀ b, eSl (eVar 5) (oSo (eBin dAdd (eVar 6) (eC (.int 1)))) oNo b [some (.sh (scr ns)), some (.sh (.list (L.map .int))), some (.sh (.int m)), some (.sh (tI' T)), some (.sh (.list (U.map .str))), some (.sh (.str Z)), some (.sh (.int (sp : Int))), some (.sh (.str nw)), none, none, none, none, none, none, none, none] = some (.val (.str (cutS Z (some ((sp : Int) + 1)) none))) := fun b => by
    show ((if Z.length ≤ lim then some (PyData.str (cutS Z (some ((sp : Int) + 1)) none)) else none)).map Rs.val = _
    rw [if_pos (by unfold lim; omega)]
    rfl
  have sl3 : ∀ b, eSl (eVar 5) (oSo (eVar 6)) oNo b [some (.sh (scr ns)), some (.sh (.list (L.map .int))), some (.sh (.int m)), some (.sh (tI' T)), some (.sh (.list (U.map .str))), some (.sh (.str Z)), some (.sh (.int (sp : Int))), some (.sh (.str nw)), none, none, none, none, none, none, none, none] = some (.val (.str (cutS Z (some (sp : Int)) none))) := fun b => by
    show ((if Z.length ≤ lim then some (PyData.str (cutS Z (some (sp : Int)) none)) else none)).map Rs.val = _
    rw [if_pos (by unfold lim; omega)]
    rfl
  have k1 := cutS_len Z none (some (sp : Int))
  have k2 := cutS_len Z (some ((sp : Int) + 1)) none
  have k3 := cutS_len Z (some (sp : Int)) none
  generalize cutS Z none (some (sp : Int)) = A1 at sl1 k1
  generalize cutS Z (some ((sp : Int) + 1)) none = A2 at sl2 k2
  generalize cutS Z (some (sp : Int)) none = A3 at sl3 k3
  have b1 := d_addS (x := A1) (y := A2) (by omega)
  have b2 := d_addS (x := A1) (y := nw) (by omega)
  have b3 := d_addS (x := A1 ++ nw) (y := A3) (by rw [Str.length_append]; omega)
  have h1sp : ((" " : Str)).length = 1 := by decide +kernel
  have b4 := d_addS (x := Z) (y := " ") (by omega)
  have b5 := d_addS (x := " ") (y := Z) (by omega)
  obtain ⟨q2, hq2⟩ : ∃ q : Nat, (q : Int) = L.getD 2 0 % 4 := ⟨(L.getD 2 0 % 4).toNat, Int.toNat_of_nonneg (by omega)⟩
  have key2 : ∃ w : Str, ([PyData.str (A1 ++ A2), .str (A1 ++ nw ++ A3), .str (Z ++ " "), .str (" " ++ Z)] : List Dt)[q2]? = some (.str w) ∧ w.length ≤ 1000 := by
    have : q2 = 0 ∨ q2 = 1 ∨ q2 = 2 ∨ q2 = 3 := by omega
    rcases this with rfl | rfl | rfl | rfl
    · exact ⟨_, rfl, by rw [Str.length_append]; omega⟩
    · exact ⟨_, rfl, by rw [Str.length_append, Str.length_append]; omega⟩
    · exact ⟨_, rfl, by rw [Str.length_append]; omega⟩
    · exact ⟨_, rfl, by rw [Str.length_append]; omega⟩
  obtain ⟨ed, hed, hel⟩ := key2
  have hx2 := w_ixL hed
  rw [seq_nx (set_v (d := .str ed) (by simp only [w_bin, w_lst, w_cons, w_nil, sl1, sl2, sl3]; simp only [w_bnd, w_bndX, w_bndN, w_bndS, w_bndSX, w_bndSN, w_bndI, w_bndA, w_c, w_bin, w_un, w_nil, w_cons, w_fn, w_seq, w_nop, w_set, w_setO, w_ret, w_do, w_if, w_v0, w_o0, w_o0f, w_vs, w_clr0, w_clrs, w_nm, w_pr, w_add, w_sub, w_mul, w_addI, w_mulI, w_lt, w_le, w_gt, w_ge, w_truB, w_truI, w_truL, w_truT, w_truN, w_lenL, w_lenT, w_tupL, w_listT, w_listL, w_app, w_aug, w_for, List.set_cons_zero, List.set_cons_succ, List.getElem?_cons_zero, List.getElem?_cons_succ, List.length_cons, List.length_nil, Option.map_some, Option.map_none, Option.bind_some, Bool.or_true, Bool.true_or, eq_self, ite_true, ite_false, decide_true, decide_false, Int.reduceLT, Int.reduceLE, Int.reduceAdd, Int.reduceSub, Int.reduceMul, Int.reduceNeg, Nat.reduceAdd, Nat.reduceLT, Nat.reduceLeDiff, Nat.reduceEqDiff, reduceIte, w_lim, w_tup, w_lst, w_unp, w_and, w_or, w_andT, w_orT, w_not, w_ife, w_chain, w_isi, w_neg, w_isN, w_notN, w_raise, w_un0, w_max2, w_intI, w_intB, w_par, Bool.not_true, Bool.not_false, Int.zero_add, Nat.zero_add, b1, b2, b3, b4, b5, d2, w_mod, ← hq2, hx2]))]
  unfold t8_law
  obtain ⟨fd, x0, hfd, hf0, hf1, hf2⟩ := found_ok ed hel
  rw [seq_nx (set_v (d := fd) (by simp only [w_bnd, w_bndX, w_bndN, w_bndS, w_bndSX, w_bndSN, w_bndI, w_bndA, w_c, w_bin, w_un, w_nil, w_cons, w_fn, w_seq, w_nop, w_set, w_setO, w_ret, w_do, w_if, w_v0, w_o0, w_o0f, w_vs, w_clr0, w_clrs, w_nm, w_pr, w_add, w_sub, w_mul, w_addI, w_mulI, w_lt, w_le, w_gt, w_ge, w_truB, w_truI, w_truL, w_truT, w_truN, w_lenL, w_lenT, w_tupL, w_listT, w_listL, w_app, w_aug, w_for, List.set_cons_zero, List.set_cons_succ, List.getElem?_cons_zero, List.getElem?_cons_succ, List.length_cons, List.length_nil, Option.map_some, Option.map_none, Option.bind_some, Bool.or_true, Bool.true_or, eq_self, ite_true, ite_false, decide_true, decide_false, Int.reduceLT, Int.reduceLE, Int.reduceAdd, Int.reduceSub, Int.reduceMul, Int.reduceNeg, Nat.reduceAdd, Nat.reduceLT, Nat.reduceLeDiff, Nat.reduceEqDiff, reduceIte, w_lim, w_tup, w_lst, w_unp, w_and, w_or, w_andT, w_orT, w_not, w_ife, w_chain, w_isi, w_neg, w_isN, w_notN, w_raise, w_un0, w_max2, w_intI, w_intB, w_par, Bool.not_true, Bool.not_false, Int.zero_add, Nat.zero_add, hfd]))]
  unfold t9_law
  refine (seq_nx (ρ' := [some (.sh (scr ns)), some (.sh (.list (L.map .int))), some (.sh (.int m)), some (.sh (tI' T)), some (.sh (.list (U.map .str))), some (.sh (.str Z)), some (.sh (.int (sp : Int))), some (.sh (.str nw)), some (.sh (.str ed)), some (.sh (fd)), none, none, none, none, none, none]) ?_).trans ?_
  · rw [if_f (d := .bool false)]
    · rfl
    · rcases hf2 with hf2 | ⟨hf2, x1, hf3, hf4⟩
      · simp only [w_bnd, w_bndX, w_bndN, w_bndS, w_bndSX, w_bndSN, w_bndI, w_bndA, w_c, w_bin, w_un, w_nil, w_cons, w_fn, w_seq, w_nop, w_set, w_setO, w_ret, w_do, w_if, w_v0, w_o0, w_o0f, w_vs, w_clr0, w_clrs, w_nm, w_pr, w_add, w_sub, w_mul, w_addI, w_mulI, w_lt, w_le, w_gt, w_ge, w_truB, w_truI, w_truL, w_truT, w_truN, w_lenL, w_lenT, w_tupL, w_listT, w_listL, w_app, w_aug, w_for, List.set_cons_zero, List.set_cons_succ, List.getElem?_cons_zero, List.getElem?_cons_succ, List.length_cons, List.length_nil, Option.map_some, Option.map_none, Option.bind_some, Bool.or_true, Bool.true_or, eq_self, ite_true, ite_false, decide_true, decide_false, Int.reduceLT, Int.reduceLE, Int.reduceAdd, Int.reduceSub, Int.reduceMul, Int.reduceNeg, Nat.reduceAdd, Nat.reduceLT, Nat.reduceLeDiff, Nat.reduceEqDiff, reduceIte, w_lim, w_tup, w_lst, w_unp, w_and, w_or, w_andT, w_orT, w_not, w_ife, w_chain, w_isi, w_neg, w_isN, w_notN, w_raise, w_un0, w_max2, w_intI, w_intB, w_par, Bool.not_true, Bool.not_false, Int.zero_add, Nat.zero_add, hf0, hf1, hf2]
      · have ne3 : dNe (.str ed) (.str ed) = some (.bool false) := by rw [ne_sh (Sh.str 60 _) (Sh.str 60 _), eqv_refl (Sh.str 60 _).1]; rfl
        simp only [w_bnd, w_bndX, w_bndN, w_bndS, w_bndSX, w_bndSN, w_bndI, w_bndA, w_c, w_bin, w_un, w_nil, w_cons, w_fn, w_seq, w_nop, w_set, w_setO, w_ret, w_do, w_if, w_v0, w_o0, w_o0f, w_vs, w_clr0, w_clrs, w_nm, w_pr, w_add, w_sub, w_mul, w_addI, w_mulI, w_lt, w_le, w_gt, w_ge, w_truB, w_truI, w_truL, w_truT, w_truN, w_lenL, w_lenT, w_tupL, w_listT, w_listL, w_app, w_aug, w_for, List.set_cons_zero, List.set_cons_succ, List.getElem?_cons_zero, List.getElem?_cons_succ, List.length_cons, List.length_nil, Option.map_some, Option.map_none, Option.bind_some, Bool.or_true, Bool.true_or, eq_self, ite_true, ite_false, decide_true, decide_false, Int.reduceLT, Int.reduceLE, Int.reduceAdd, Int.reduceSub, Int.reduceMul, Int.reduceNeg, Nat.reduceAdd, Nat.reduceLT, Nat.reduceLeDiff, Nat.reduceEqDiff, reduceIte, w_lim, w_tup, w_lst, w_unp, w_and, w_or, w_andT, w_orT, w_not, w_ife, w_chain, w_isi, w_neg, w_isN, w_notN, w_raise, w_un0, w_max2, w_intI, w_intB, w_par, Bool.not_true, Bool.not_false, Int.zero_add, Nat.zero_add, hf0, hf1, hf2, hf3, hf4, ne3]
    · rfl
  unfold t10_law
  obtain ⟨a, ha⟩ : ∃ a : Nat, (a : Int) = L.getD 3 0 % m := ⟨(L.getD 3 0 % m).toNat, Int.toNat_of_nonneg (Int.emod_nonneg _ (by omega))⟩
  have ham : a < m := by
    have := Int.emod_lt_of_pos (L.getD 3 0) hmp
    omega
  rw [seq_nx (set_v (d := .int (a : Int)) (by simp only [w_bnd, w_bndX, w_bndN, w_bndS, w_bndSX, w_bndSN, w_bndI, w_bndA, w_c, w_bin, w_un, w_nil, w_cons, w_fn, w_seq, w_nop, w_set, w_setO, w_ret, w_do, w_if, w_v0, w_o0, w_o0f, w_vs, w_clr0, w_clrs, w_nm, w_pr, w_add, w_sub, w_mul, w_addI, w_mulI, w_lt, w_le, w_gt, w_ge, w_truB, w_truI, w_truL, w_truT, w_truN, w_lenL, w_lenT, w_tupL, w_listT, w_listL, w_app, w_aug, w_for, List.set_cons_zero, List.set_cons_succ, List.getElem?_cons_zero, List.getElem?_cons_succ, List.length_cons, List.length_nil, Option.map_some, Option.map_none, Option.bind_some, Bool.or_true, Bool.true_or, eq_self, ite_true, ite_false, decide_true, decide_false, Int.reduceLT, Int.reduceLE, Int.reduceAdd, Int.reduceSub, Int.reduceMul, Int.reduceNeg, Nat.reduceAdd, Nat.reduceLT, Nat.reduceLeDiff, Nat.reduceEqDiff, reduceIte, w_lim, w_tup, w_lst, w_unp, w_and, w_or, w_andT, w_orT, w_not, w_ife, w_chain, w_isi, w_neg, w_isN, w_notN, w_raise, w_un0, w_max2, w_intI, w_intB, w_par, Bool.not_true, Bool.not_false, Int.zero_add, Nat.zero_add, d3, w_mod hmp, ← ha]))]
  unfold t11_law
  obtain ⟨q4, hq4⟩ : ∃ q : Nat, (q : Int) = L.getD 4 0 % 6 := ⟨(L.getD 4 0 % 6).toNat, Int.toNat_of_nonneg (by omega)⟩
  obtain ⟨wr, hwr, hw3, hwp, hw1, hw2⟩ := wrong6 q4 (by omega)
  have hx4 := w_ixL hwr
  rw [seq_nx (set_v (d := .str wr) (by simp only [w_bnd, w_bndX, w_bndN, w_bndS, w_bndSX, w_bndSN, w_bndI, w_bndA, w_c, w_bin, w_un, w_nil, w_cons, w_fn, w_seq, w_nop, w_set, w_setO, w_ret, w_do, w_if, w_v0, w_o0, w_o0f, w_vs, w_clr0, w_clrs, w_nm, w_pr, w_add, w_sub, w_mul, w_addI, w_mulI, w_lt, w_le, w_gt, w_ge, w_truB, w_truI, w_truL, w_truT, w_truN, w_lenL, w_lenT, w_tupL, w_listT, w_listL, w_app, w_aug, w_for, List.set_cons_zero, List.set_cons_succ, List.getElem?_cons_zero, List.getElem?_cons_succ, List.length_cons, List.length_nil, Option.map_some, Option.map_none, Option.bind_some, Bool.or_true, Bool.true_or, eq_self, ite_true, ite_false, decide_true, decide_false, Int.reduceLT, Int.reduceLE, Int.reduceAdd, Int.reduceSub, Int.reduceMul, Int.reduceNeg, Nat.reduceAdd, Nat.reduceLT, Nat.reduceLeDiff, Nat.reduceEqDiff, reduceIte, w_lim, w_tup, w_lst, w_unp, w_and, w_or, w_andT, w_orT, w_not, w_ife, w_chain, w_isi, w_neg, w_isN, w_notN, w_raise, w_un0, w_max2, w_intI, w_intB, w_par, Bool.not_true, Bool.not_false, Int.zero_add, Nat.zero_add, d4, w_mod, ← hq4, hx4]))]
  unfold t12_law
  have ad3 := d_addS (x := sMod) (y := sI (m : Nat)) (by rw [mod_len]; omega)
  rw [seq_nx (set_v (d := .str (sMod ++ sI (m : Nat))) (by simp only [w_bnd, w_bndX, w_bndN, w_bndS, w_bndSX, w_bndSN, w_bndI, w_bndA, w_c, w_bin, w_un, w_nil, w_cons, w_fn, w_seq, w_nop, w_set, w_setO, w_ret, w_do, w_if, w_v0, w_o0, w_o0f, w_vs, w_clr0, w_clrs, w_nm, w_pr, w_add, w_sub, w_mul, w_addI, w_mulI, w_lt, w_le, w_gt, w_ge, w_truB, w_truI, w_truL, w_truT, w_truN, w_lenL, w_lenT, w_tupL, w_listT, w_listL, w_app, w_aug, w_for, List.set_cons_zero, List.set_cons_succ, List.getElem?_cons_zero, List.getElem?_cons_succ, List.length_cons, List.length_nil, Option.map_some, Option.map_none, Option.bind_some, Bool.or_true, Bool.true_or, eq_self, ite_true, ite_false, decide_true, decide_false, Int.reduceLT, Int.reduceLE, Int.reduceAdd, Int.reduceSub, Int.reduceMul, Int.reduceNeg, Nat.reduceAdd, Nat.reduceLT, Nat.reduceLeDiff, Nat.reduceEqDiff, reduceIte, w_lim, w_tup, w_lst, w_unp, w_and, w_or, w_andT, w_orT, w_not, w_ife, w_chain, w_isi, w_neg, w_isN, w_notN, w_raise, w_un0, w_max2, w_intI, w_intB, w_par, Bool.not_true, Bool.not_false, Int.zero_add, Nat.zero_add, dsm, ad3]))]
  unfold t13_law
  have hcut : ∀ p : Nat, p ≤ m → cut (U.map PyData.str) (some (p : Int)) none = (U.drop p).map .str := fun p hp => by
    rw [cut_hi _ _ (by rw [List.length_map]; omega), List.map_drop]
  have hcut2 : cut (U.map PyData.str) none (some (a : Int)) = (U.take a).map .str := by
    rw [cut_lo _ _ (by rw [List.length_map]; omega), List.map_take]
  rw [seq_nx (set_v (d := .list ((U.drop (a + 1)).map .str)) (by
    show (dSl (.list (U.map .str)) (some ((a : Int) + 1)) none).map Rs.val = _
    show some (Rs.val (.list (cut (U.map PyData.str) (some ((a : Int) + 1)) none))) = _
    rw [show ((a : Int) + 1) = ((a + 1 : Nat) : Int) from rfl, hcut (a + 1) (by omega)]))]
  unfold t14_law
  show sSeq (sIf _ _ _) _ [some (.sh (scr ns)), some (.sh (.list (L.map .int))), some (.sh (.int m)), some (.sh (tI' T)), some (.sh (.list (U.map .str))), some (.sh (.str Z)), some (.sh (.int (sp : Int))), some (.sh (.str nw)), some (.sh (.str ed)), some (.sh (fd)), some (.sh (.int (a : Int))), some (.sh (.str wr)), some (.sh (.str (sMod ++ sI (m : Nat)))), some (.sh (.list ((U.drop (a + 1)).map .str))), none, none] = _
  have jj : ∀ (w : Str), w.length ≤ 3 → (∀ y ∈ U.set a w, y.length ≤ 3) → ∀ ρ b (gr wv : Option SV) (i : Nat), ρ = [some (.sh (scr ns)), some (.sh (.list (L.map .int))), some (.sh (.int m)), some (.sh (tI' T)), some (.sh (.list (U.map .str))), some (.sh (.str Z)), some (.sh (.int (sp : Int))), some (.sh (.str nw)), some (.sh (.str ed)), some (.sh fd), some (.sh (.int (a : Int))), wv, some (.sh (.str (sMod ++ sI (m : Nat)))), some (.sh (.list ((U.drop (a + 1)).map .str))), gr, none] → eVar i false ρ = some (.val (.str w)) →
      eBin dAdd (eMeth isStr dJoin (eC (.str ",")) (eBin dAdd (eBin dAdd (eSl (eVar 4) oNo (oSo (eVar 10))) (eLst (aCons (eVar i) aNil))) (eVar 13))) (eVar 12) b ρ = some (.val (.str (fmt m (U.set a w)))) := fun w hw3 hall ρ b gr wv i hρ hi => by
    have e1 : eSl (eVar 4) oNo (oSo (eVar 10)) true ρ = some (.val (.list ((U.take a).map .str))) := by
      subst hρ
      show some (Rs.val (.list (cut (U.map PyData.str) none (some (a : Int))))) = _
      rw [hcut2]
    have e2 : eVar 13 true ρ = some (.val (.list ((U.drop (a + 1)).map .str))) := by subst hρ; rfl
    have e3 : eVar 12 true ρ = some (.val (.str (sMod ++ sI (m : Nat)))) := by subst hρ; rfl
    have c1 : dAdd (.list ((U.take a).map .str)) (.list [.str w]) = some (.list ((U.take a ++ [w]).map .str)) := by
      rw [w_addL (by rw [List.length_map, List.length_take]; unfold lim; simp; omega), List.map_append]
      rfl
    have c2 : dAdd (.list ((U.take a ++ [w]).map .str)) (.list ((U.drop (a + 1)).map .str)) = some (.list ((U.set a w).map .str)) := by
      rw [w_addL (by rw [List.length_map, List.length_map, List.length_append, List.length_take, List.length_drop]; unfold lim; simp; omega), ← List.map_append, set_cut' U a w (by omega)]
    have hls : (U.set a w).length = m := by rw [List.length_set]; exact hys
    have c3 := d_join (U.set a w) hall (by omega)
    have c4 := join_lim (U.set a w) hall
    have c5 : dAdd (.str (Txt.join "," (U.set a w))) (.str (sMod ++ sI (m : Nat))) = some (.str (fmt m (U.set a w))) := by
      rw [d_addS (by rw [Str.length_append, mod_len]; omega), ← Str.append_assoc]
      rfl
    have hone : ∀ n : Nat, n = 1 → n ≤ lim := fun n h => by rw [h]; decide
    unfold eMeth
    simp only [w_bin, w_lst, w_cons, w_nil, w_bndA, w_c, w_bnd, e1, e2, e3, hi, List.length_cons, List.length_nil, hone, Nat.zero_add, if_true, c1, c2, c3, c5, Option.map_some, isS]
  obtain ⟨g1, g2⟩ := hgen a wr hU.symm ham hw3 hw1 hw2
  rw [hwp, pfin_bad hT ham] at g1
  have f1 := fmt_len h12 (U.set a wr) g2
  have hls1 : (U.set a wr).length = m := by rw [List.length_set]; exact hys
  have p1 := w_parse (fmt m (U.set a wr)) (by omega)
  rw [g1] at p1
  have r1 := lparse_x _ _ rfl p1
  rw [Int.add_comm 1 (a : Int)] at r1
  refine (seq_nx (ρ' := [some (.sh (scr ns)), some (.sh (.list (L.map .int))), some (.sh (.int m)), some (.sh (tI' T)), some (.sh (.list (U.map .str))), some (.sh (.str Z)), some (.sh (.int (sp : Int))), some (.sh (.str nw)), some (.sh (.str ed)), some (.sh (fd)), some (.sh (.int (a : Int))), some (.sh (.str wr)), some (.sh (.str (sMod ++ sI (m : Nat)))), some (.sh (.list ((U.drop (a + 1)).map .str))), none, none]) ?_).trans ?_
  · have jw := jj wr hw3 g2 [some (.sh (scr ns)), some (.sh (.list (L.map .int))), some (.sh (.int m)), some (.sh (tI' T)), some (.sh (.list (U.map .str))), some (.sh (.str Z)), some (.sh (.int (sp : Int))), some (.sh (.str nw)), some (.sh (.str ed)), some (.sh (fd)), some (.sh (.int (a : Int))), some (.sh (.str wr)), some (.sh (.str (sMod ++ sI (m : Nat)))), some (.sh (.list ((U.drop (a + 1)).map .str))), none, none] false none (some (.sh (.str wr))) 11 rfl rfl
    rw [if_f (d := .bool false)]
    · rfl
    · rw [w_bin, w_fn, w_cons, jw]
      simp only [w_bnd, w_bndX, w_bndN, w_bndS, w_bndSX, w_bndSN, w_bndI, w_bndA, w_c, w_bin, w_un, w_nil, w_cons, w_fn, w_seq, w_nop, w_set, w_setO, w_ret, w_do, w_if, w_v0, w_o0, w_o0f, w_vs, w_clr0, w_clrs, w_nm, w_pr, w_add, w_sub, w_mul, w_addI, w_mulI, w_lt, w_le, w_gt, w_ge, w_truB, w_truI, w_truL, w_truT, w_truN, w_lenL, w_lenT, w_tupL, w_listT, w_listL, w_app, w_aug, w_for, List.set_cons_zero, List.set_cons_succ, List.getElem?_cons_zero, List.getElem?_cons_succ, List.length_cons, List.length_nil, Option.map_some, Option.map_none, Option.bind_some, Bool.or_true, Bool.true_or, eq_self, ite_true, ite_false, decide_true, decide_false, Int.reduceLT, Int.reduceLE, Int.reduceAdd, Int.reduceSub, Int.reduceMul, Int.reduceNeg, Nat.reduceAdd, Nat.reduceLT, Nat.reduceLeDiff, Nat.reduceEqDiff, reduceIte, w_lim, w_tup, w_lst, w_unp, w_and, w_or, w_andT, w_orT, w_not, w_ife, w_chain, w_isi, w_neg, w_isN, w_notN, w_raise, w_un0, w_max2, w_intI, w_intB, w_par, Bool.not_true, Bool.not_false, Int.zero_add, Nat.zero_add, r1, neL]
    · rfl
  unfold t15_law
  obtain ⟨q5, hq5⟩ : ∃ q : Nat, (q : Int) = L.getD 5 0 % 3 := ⟨(L.getD 5 0 % 3).toNat, Int.toNat_of_nonneg (by omega)⟩
  obtain ⟨gr, gv, hgr, hg3, hgp, hgm, hg1, hg2⟩ := great3 m h12 q5 (by omega)
  have hx5 := w_ixL hgr
  rw [seq_nx (set_v (d := .str gr) (by simp only [w_bnd, w_bndX, w_bndN, w_bndS, w_bndSX, w_bndSN, w_bndI, w_bndA, w_c, w_bin, w_un, w_nil, w_cons, w_fn, w_seq, w_nop, w_set, w_setO, w_ret, w_do, w_if, w_v0, w_o0, w_o0f, w_vs, w_clr0, w_clrs, w_nm, w_pr, w_add, w_sub, w_mul, w_addI, w_mulI, w_lt, w_le, w_gt, w_ge, w_truB, w_truI, w_truL, w_truT, w_truN, w_lenL, w_lenT, w_tupL, w_listT, w_listL, w_app, w_aug, w_for, List.set_cons_zero, List.set_cons_succ, List.getElem?_cons_zero, List.getElem?_cons_succ, List.length_cons, List.length_nil, Option.map_some, Option.map_none, Option.bind_some, Bool.or_true, Bool.true_or, eq_self, ite_true, ite_false, decide_true, decide_false, Int.reduceLT, Int.reduceLE, Int.reduceAdd, Int.reduceSub, Int.reduceMul, Int.reduceNeg, Nat.reduceAdd, Nat.reduceLT, Nat.reduceLeDiff, Nat.reduceEqDiff, reduceIte, w_lim, w_tup, w_lst, w_unp, w_and, w_or, w_andT, w_orT, w_not, w_ife, w_chain, w_isi, w_neg, w_isN, w_notN, w_raise, w_un0, w_max2, w_intI, w_intB, w_par, Bool.not_true, Bool.not_false, Int.zero_add, Nat.zero_add, dsm, d5, w_mod, ← hq5, hx5]))]
  unfold t16_law
  show sSeq (sIf _ _ _) _ [some (.sh (scr ns)), some (.sh (.list (L.map .int))), some (.sh (.int m)), some (.sh (tI' T)), some (.sh (.list (U.map .str))), some (.sh (.str Z)), some (.sh (.int (sp : Int))), some (.sh (.str nw)), some (.sh (.str ed)), some (.sh (fd)), some (.sh (.int (a : Int))), some (.sh (.str wr)), some (.sh (.str (sMod ++ sI (m : Nat)))), some (.sh (.list ((U.drop (a + 1)).map .str))), some (.sh (.str gr)), none] = _
  obtain ⟨g3, g4⟩ := hgen a gr hU.symm ham hg3 hg1 hg2
  rw [hgp, pfin_great hT ham hgm] at g3
  have f2 := fmt_len h12 (U.set a gr) g4
  have hls2 : (U.set a gr).length = m := by rw [List.length_set]; exact hys
  have p2 := w_parse (fmt m (U.set a gr)) (by omega)
  rw [g3] at p2
  have r2 := lparse_x _ _ rfl p2
  refine (seq_nx (ρ' := [some (.sh (scr ns)), some (.sh (.list (L.map .int))), some (.sh (.int m)), some (.sh (tI' T)), some (.sh (.list (U.map .str))), some (.sh (.str Z)), some (.sh (.int (sp : Int))), some (.sh (.str nw)), some (.sh (.str ed)), some (.sh (fd)), some (.sh (.int (a : Int))), some (.sh (.str wr)), some (.sh (.str (sMod ++ sI (m : Nat)))), some (.sh (.list ((U.drop (a + 1)).map .str))), some (.sh (.str gr)), none]) ?_).trans ?_
  · have jw := jj gr hg3 g4 [some (.sh (scr ns)), some (.sh (.list (L.map .int))), some (.sh (.int m)), some (.sh (tI' T)), some (.sh (.list (U.map .str))), some (.sh (.str Z)), some (.sh (.int (sp : Int))), some (.sh (.str nw)), some (.sh (.str ed)), some (.sh (fd)), some (.sh (.int (a : Int))), some (.sh (.str wr)), some (.sh (.str (sMod ++ sI (m : Nat)))), some (.sh (.list ((U.drop (a + 1)).map .str))), some (.sh (.str gr)), none] false (some (.sh (.str gr))) (some (.sh (.str wr))) 14 rfl rfl
    rw [if_f (d := .bool false)]
    · rfl
    · rw [w_bin, w_fn, w_cons, jw]
      simp only [w_bnd, w_bndX, w_bndN, w_bndS, w_bndSX, w_bndSN, w_bndI, w_bndA, w_c, w_bin, w_un, w_nil, w_cons, w_fn, w_seq, w_nop, w_set, w_setO, w_ret, w_do, w_if, w_v0, w_o0, w_o0f, w_vs, w_clr0, w_clrs, w_nm, w_pr, w_add, w_sub, w_mul, w_addI, w_mulI, w_lt, w_le, w_gt, w_ge, w_truB, w_truI, w_truL, w_truT, w_truN, w_lenL, w_lenT, w_tupL, w_listT, w_listL, w_app, w_aug, w_for, List.set_cons_zero, List.set_cons_succ, List.getElem?_cons_zero, List.getElem?_cons_succ, List.length_cons, List.length_nil, Option.map_some, Option.map_none, Option.bind_some, Bool.or_true, Bool.true_or, eq_self, ite_true, ite_false, decide_true, decide_false, Int.reduceLT, Int.reduceLE, Int.reduceAdd, Int.reduceSub, Int.reduceMul, Int.reduceNeg, Nat.reduceAdd, Nat.reduceLT, Nat.reduceLeDiff, Nat.reduceEqDiff, reduceIte, w_lim, w_tup, w_lst, w_unp, w_and, w_or, w_andT, w_orT, w_not, w_ife, w_chain, w_isi, w_neg, w_isN, w_notN, w_raise, w_un0, w_max2, w_intI, w_intB, w_par, Bool.not_true, Bool.not_false, Int.zero_add, Nat.zero_add, r2, neN]
    · rfl
  unfold t17_law
  obtain ⟨q7, hq7⟩ : ∃ q : Nat, (q : Int) = L.getD 7 0 % 8 := ⟨(L.getD 7 0 % 8).toNat, Int.toNat_of_nonneg (by omega)⟩
  obtain ⟨w8, hw8, hp8⟩ := closed8 q7 (by omega)
  have hx7 := w_ixL hw8
  rw [seq_nx (set_v (d := .str w8) (by simp only [w_bnd, w_bndX, w_bndN, w_bndS, w_bndSX, w_bndSN, w_bndI, w_bndA, w_c, w_bin, w_un, w_nil, w_cons, w_fn, w_seq, w_nop, w_set, w_setO, w_ret, w_do, w_if, w_v0, w_o0, w_o0f, w_vs, w_clr0, w_clrs, w_nm, w_pr, w_add, w_sub, w_mul, w_addI, w_mulI, w_lt, w_le, w_gt, w_ge, w_truB, w_truI, w_truL, w_truT, w_truN, w_lenL, w_lenT, w_tupL, w_listT, w_listL, w_app, w_aug, w_for, List.set_cons_zero, List.set_cons_succ, List.getElem?_cons_zero, List.getElem?_cons_succ, List.length_cons, List.length_nil, Option.map_some, Option.map_none, Option.bind_some, Bool.or_true, Bool.true_or, eq_self, ite_true, ite_false, decide_true, decide_false, Int.reduceLT, Int.reduceLE, Int.reduceAdd, Int.reduceSub, Int.reduceMul, Int.reduceNeg, Nat.reduceAdd, Nat.reduceLT, Nat.reduceLeDiff, Nat.reduceEqDiff, reduceIte, w_lim, w_tup, w_lst, w_unp, w_and, w_or, w_andT, w_orT, w_not, w_ife, w_chain, w_isi, w_neg, w_isN, w_notN, w_raise, w_un0, w_max2, w_intI, w_intB, w_par, Bool.not_true, Bool.not_false, Int.zero_add, Nat.zero_add, d7, w_mod, ← hq7, hx7]))]
  unfold t18_law
  refine (seq_nx (ρ' := [some (.sh (scr ns)), some (.sh (.list (L.map .int))), some (.sh (.int m)), some (.sh (tI' T)), some (.sh (.list (U.map .str))), some (.sh (.str Z)), some (.sh (.int (sp : Int))), some (.sh (.str nw)), some (.sh (.str ed)), some (.sh (fd)), some (.sh (.int (a : Int))), some (.sh (.str w8)), some (.sh (.str (sMod ++ sI (m : Nat)))), some (.sh (.list ((U.drop (a + 1)).map .str))), some (.sh (.str gr)), none]) ?_).trans ?_
  · rw [if_f (d := .bool false)]
    · rfl
    · simp only [w_bnd, w_bndX, w_bndN, w_bndS, w_bndSX, w_bndSN, w_bndI, w_bndA, w_c, w_bin, w_un, w_nil, w_cons, w_fn, w_seq, w_nop, w_set, w_setO, w_ret, w_do, w_if, w_v0, w_o0, w_o0f, w_vs, w_clr0, w_clrs, w_nm, w_pr, w_add, w_sub, w_mul, w_addI, w_mulI, w_lt, w_le, w_gt, w_ge, w_truB, w_truI, w_truL, w_truT, w_truN, w_lenL, w_lenT, w_tupL, w_listT, w_listL, w_app, w_aug, w_for, List.set_cons_zero, List.set_cons_succ, List.getElem?_cons_zero, List.getElem?_cons_succ, List.length_cons, List.length_nil, Option.map_some, Option.map_none, Option.bind_some, Bool.or_true, Bool.true_or, eq_self, ite_true, ite_false, decide_true, decide_false, Int.reduceLT, Int.reduceLE, Int.reduceAdd, Int.reduceSub, Int.reduceMul, Int.reduceNeg, Nat.reduceAdd, Nat.reduceLT, Nat.reduceLeDiff, Nat.reduceEqDiff, reduceIte, w_lim, w_tup, w_lst, w_unp, w_and, w_or, w_andT, w_orT, w_not, w_ife, w_chain, w_isi, w_neg, w_isN, w_notN, w_raise, w_un0, w_max2, w_intI, w_intB, w_par, Bool.not_true, Bool.not_false, Int.zero_add, Nat.zero_add, hp8, neL]
    · rfl
  unfold t19_law
  obtain ⟨q8, hq8⟩ : ∃ q : Nat, (q : Int) = L.getD 8 0 % 4 := ⟨(L.getD 8 0 % 4).toNat, Int.toNat_of_nonneg (by omega)⟩
  have key8 : ∃ v, ([PyData.none, .int 7, tI' T, .list [.str Z]] : List Dt)[q8]? = some v ∧ dIsi "str" v = false := by
    have : q8 = 0 ∨ q8 = 1 ∨ q8 = 2 ∨ q8 = 3 := by omega
    rcases this with rfl | rfl | rfl | rfl
    · exact ⟨_, rfl, rfl⟩
    · exact ⟨_, rfl, rfl⟩
    · exact ⟨_, rfl, rfl⟩
    · exact ⟨_, rfl, rfl⟩
  obtain ⟨v8, hv8, hi8⟩ := key8
  have hx8 := w_ixL hv8
  have r8 := lparse_x v8 .none rfl (pt_none v8 hi8)
  refine ret_v ?_
  simp only [w_bnd, w_bndX, w_bndN, w_bndS, w_bndSX, w_bndSN, w_bndI, w_bndA, w_c, w_bin, w_un, w_nil, w_cons, w_fn, w_seq, w_nop, w_set, w_setO, w_ret, w_do, w_if, w_v0, w_o0, w_o0f, w_vs, w_clr0, w_clrs, w_nm, w_pr, w_add, w_sub, w_mul, w_addI, w_mulI, w_lt, w_le, w_gt, w_ge, w_truB, w_truI, w_truL, w_truT, w_truN, w_lenL, w_lenT, w_tupL, w_listT, w_listL, w_app, w_aug, w_for, List.set_cons_zero, List.set_cons_succ, List.getElem?_cons_zero, List.getElem?_cons_succ, List.length_cons, List.length_nil, Option.map_some, Option.map_none, Option.bind_some, Bool.or_true, Bool.true_or, eq_self, ite_true, ite_false, decide_true, decide_false, Int.reduceLT, Int.reduceLE, Int.reduceAdd, Int.reduceSub, Int.reduceMul, Int.reduceNeg, Nat.reduceAdd, Nat.reduceLT, Nat.reduceLeDiff, Nat.reduceEqDiff, reduceIte, w_lim, w_tup, w_lst, w_unp, w_and, w_or, w_andT, w_orT, w_not, w_ife, w_chain, w_isi, w_neg, w_isN, w_notN, w_raise, w_un0, w_max2, w_intI, w_intB, w_par, Bool.not_true, Bool.not_false, Int.zero_add, Nat.zero_add, d8, w_mod, ← hq8, hx8, r8, eqN]
end PT

namespace PT
open PySem PySem.Spec PyProof.Rows L2
/-! ## the head -/
namespace Hd
def d_in_range : He.DefD := ⟨("in_range", none), "in_range", "in_range", defArgs st_in_range, defBody st_in_range, defScope st_in_range, [], []⟩
def d_parse_number : He.DefD := ⟨("parse_number", none), "parse_number", "parse_number", defArgs st_parse_number, defBody st_parse_number, defScope st_parse_number, [], []⟩
def d__law_cell : He.DefD := ⟨("_law_cell", none), "_law_cell", "_law_cell", defArgs st__law_cell, defBody st__law_cell, defScope st__law_cell, [], []⟩
def d__law_value : He.DefD := ⟨("_law_value", none), "_law_value", "_law_value", defArgs st__law_value, defBody st__law_value, defScope st__law_value, [], []⟩
def d_check_modulus : He.DefD := ⟨("check_modulus", none), "check_modulus", "check_modulus", defArgs st_check_modulus, defBody st_check_modulus, defScope st_check_modulus, [], []⟩
def d_is_valid_table : He.DefD := ⟨("is_valid_table", none), "is_valid_table", "is_valid_table", defArgs st_is_valid_table, defBody st_is_valid_table, defScope st_is_valid_table, [], []⟩
def d__law_row : He.DefD := ⟨("_law_row", none), "_law_row", "_law_row", defArgs st__law_row, defBody st__law_row, defScope st__law_row, [], []⟩
def d__law_table : He.DefD := ⟨("_law_table", none), "_law_table", "_law_table", defArgs st__law_table, defBody st__law_table, defScope st__law_table, [], []⟩
def d_check_table : He.DefD := ⟨("check_table", none), "check_table", "check_table", defArgs st_check_table, defBody st_check_table, defScope st_check_table, [], []⟩
def d_parse_table : He.DefD := ⟨("parse_table", none), "parse_table", "parse_table", defArgs st_parse_table, defBody st_parse_table, defScope st_parse_table, [], []⟩
def d__law_numbers : He.DefD := ⟨("_law_numbers", none), "_law_numbers", "_law_numbers", defArgs st__law_numbers, defBody st__law_numbers, defScope st__law_numbers, [], []⟩
def d_format_table : He.DefD := ⟨("format_table", none), "format_table", "format_table", defArgs st_format_table, defBody st_format_table, defScope st_format_table, [], []⟩
def d__law_case : He.DefD := ⟨("_law_case", none), "_law_case", "_law_case", defArgs st__law_case, defBody st__law_case, defScope st__law_case, [], []⟩
def d__law_parse : He.DefD := ⟨("_law_parse", none), "_law_parse", "_law_parse", defArgs st__law_parse, defBody st__law_parse, defScope st__law_parse, [], []⟩
def d_law : He.DefD := ⟨("law", none), "law", "law", defArgs st_law, defBody st_law, defScope st_law, [], []⟩
def d_pe_ParseError : He.DefD := ⟨("ParseError", some "__init__"), "__init__", "ParseError.__init__", defArgs st_pe_ParseError, defBody st_pe_ParseError, defScope st_pe_ParseError, [], []⟩
def fnL : List He.DefD := [d_in_range, d_parse_number, d__law_cell, d__law_value, d_check_modulus, d_is_valid_table, d__law_row, d__law_table, d_check_table, d_parse_table, d__law_numbers, d_format_table, d__law_case, d__law_parse, d_law, d_pe_ParseError]
def faL : List He.Fa := [.free "len", .free "range", .free "isinstance", .free "int", .free "bool", .free "tuple", .free "list", .free "str", .free "set", .free "sorted", .free "max", .free "min", .free "zip", .free "enumerate", .free "reversed", .glo "in_range", .glo "parse_number", .glo "_law_cell", .glo "_law_value", .glo "check_modulus", .glo "is_valid_table", .glo "_law_row", .glo "_law_table", .glo "check_table", .glo "parse_table", .glo "_law_numbers", .glo "format_table", .glo "_law_case", .glo "_law_parse", .glo "law", .int "MAX_MODULUS" 12, .str "DIGITS" "0123456789", .glo "InvalidModulus", .exc "InvalidModulus", .glo "InvalidTable", .exc "InvalidTable"]
abbrev R : PySem.W.OpenRow := PySem.W.OpenLaw.row PySem.Challenge.rw_polytables_k14_text
def chk (K : PySem.W.Frag) : Bool := chkE EM K && peB K "ParseError" "TableError"
abbrev hk : PySem.W.Hook := hookQ 4 faL fnL chk
def ob (s : PySem.W.SharedT) : He.AlD := obsQG 4 faL fnL chk (HandSHeadRun.getT s)
theorem ob_eq (s : PySem.W.SharedT) : ob s = hk.obs s.abs := obsQG_eq (HandSHeadRun.getT_eq s)
def lo : List Str := (["TableError", "ParseError", "InvalidModulus", "InvalidTable", "MAX_MODULUS", "DIGITS", "in_range", "check_modulus", "is_valid_table", "check_table", "format_table", "parse_number", "parse_table", "_law_cell", "_law_row", "_law_value", "_law_numbers", "_law_table", "_law_case", "_law_parse"] : List Str)
theorem run (w : World) : HandSHeadRun.RunEq R (PySem.W.view R.prog [24]) hk ob 40000 lo w := by
  intro os
  kernel_rfl
variable {P : Program} {w : World} {K : PySem.W.Frag} {h base : Heap} {mg : Str → Option Value}
theorem bi (X : K.In h) (G : h.Ns mainGlobals mg) (c : He.SaysD faL fnL K) : Bi ⟨P, w, K, mg, base⟩ := ⟨He.free_ok X G (c.fact 0), He.free_ok X G (c.fact 1), He.free_ok X G (c.fact 2), He.free_ok X G (c.fact 3), He.free_ok X G (c.fact 4), He.free_ok X G (c.fact 5), He.free_ok X G (c.fact 6), He.free_ok X G (c.fact 7), He.free_ok X G (c.fact 8), He.free_ok X G (c.fact 9), He.free_ok X G (c.fact 10), He.free_ok X G (c.fact 11), He.free_ok X G (c.fact 12), He.free_ok X G (c.fact 13), He.free_ok X G (c.fact 14)⟩
theorem facts (X : K.In h) (G : h.Ns mainGlobals mg) (c : He.SaysD faL fnL K) (ce : chk K = true) : ∃ fd : FuncData, (∀ (s : Shared) (v : Value), BindsTo s fd ⟨[v], []⟩ [("script", v)]) ∧ ∀ base : Heap, FnOk P w K mg base (L2.CX P w) 5 (He.ga K "law") fd ["script"] (spF K mg 1 F_law) := by
  obtain ⟨fd0, D0⟩ := c.def_ 0 (d := d_in_range) rfl
  obtain ⟨fd1, D1⟩ := c.def_ 1 (d := d_parse_number) rfl
  obtain ⟨fd2, D2⟩ := c.def_ 2 (d := d__law_cell) rfl
  obtain ⟨fd3, D3⟩ := c.def_ 3 (d := d__law_value) rfl
  obtain ⟨fd4, D4⟩ := c.def_ 4 (d := d_check_modulus) rfl
  obtain ⟨fd5, D5⟩ := c.def_ 5 (d := d_is_valid_table) rfl
  obtain ⟨fd6, D6⟩ := c.def_ 6 (d := d__law_row) rfl
  obtain ⟨fd7, D7⟩ := c.def_ 7 (d := d__law_table) rfl
  obtain ⟨fd8, D8⟩ := c.def_ 8 (d := d_check_table) rfl
  obtain ⟨fd9, D9⟩ := c.def_ 9 (d := d_parse_table) rfl
  obtain ⟨fd10, D10⟩ := c.def_ 10 (d := d__law_numbers) rfl
  obtain ⟨fd11, D11⟩ := c.def_ 11 (d := d_format_table) rfl
  obtain ⟨fd12, D12⟩ := c.def_ 12 (d := d__law_case) rfl
  obtain ⟨fd13, D13⟩ := c.def_ 13 (d := d__law_parse) rfl
  obtain ⟨fd14, D14⟩ := c.def_ 14 (d := d_law) rfl
  have bb := FunD.bindsA (ps := ["script"]) D14 fun _ _ _ _ _ _ us hl => match us, hl with | [_], _ => rfl
  refine ⟨fd14, fun s v => bb s [v] rfl, fun base => ?_⟩
  have B : Bi ⟨P, w, K, mg, base⟩ := bi X G c
  have h_MAX_MODULUS := He.int_ok X G (c.fact 30 (f := .int "MAX_MODULUS" 12))
  have h_DIGITS := He.str_ok X G (c.fact 31 (f := .str "DIGITS" "0123456789"))
  have h_InvalidModulus : ExcC ⟨P, w, K, mg, base⟩ "InvalidModulus" := ⟨_, He.glo_ok X G (c.fact 32 (f := .glo "InvalidModulus")), He.exc_ok (c.fact 33 (f := .exc "InvalidModulus"))⟩
  have h_InvalidTable : ExcC ⟨P, w, K, mg, base⟩ "InvalidTable" := ⟨_, He.glo_ok X G (c.fact 34 (f := .glo "InvalidTable")), He.exc_ok (c.fact 35 (f := .exc "InvalidTable"))⟩
  unfold chk at ce
  simp only [Bool.and_eq_true] at ce
  have hE : EmOk ⟨P, w, K, mg, base⟩ EM := chkE_ok X G ce.1
  obtain ⟨fdp0, Dp0⟩ := c.def_ 15 (d := d_pe_ParseError) rfl
  have h_pe_ParseError : PeC ⟨P, w, K, mg, base⟩ "ParseError" := pe_ParseError (peB_ok X G ce.2) Dp0
  have h_in_range : FnIs ⟨P, w, K, mg, base⟩ "in_range" 1 3 F_in_range := fn_in_range B   (He.glo_ok X G (c.fact 15 (f := .glo "in_range"))) D0
  have h_parse_number : FnIs ⟨P, w, K, mg, base⟩ "parse_number" 1 1 F_parse_number := fn_parse_number B h_DIGITS  (He.glo_ok X G (c.fact 16 (f := .glo "parse_number"))) D1
  have h__law_cell : FnIs ⟨P, w, K, mg, base⟩ "_law_cell" 1 2 F__law_cell := fn__law_cell B   (He.glo_ok X G (c.fact 17 (f := .glo "_law_cell"))) D2
  have h__law_value : FnIs ⟨P, w, K, mg, base⟩ "_law_value" 1 3 F__law_value := fn__law_value B   (He.glo_ok X G (c.fact 18 (f := .glo "_law_value"))) D3
  have h_check_modulus : FnIs ⟨P, w, K, mg, base⟩ "check_modulus" 2 1 F_check_modulus := fn_check_modulus B h_in_range h_MAX_MODULUS h_InvalidModulus  (He.glo_ok X G (c.fact 19 (f := .glo "check_modulus"))) D4
  have h_is_valid_table : FnIs ⟨P, w, K, mg, base⟩ "is_valid_table" 2 2 F_is_valid_table := fn_is_valid_table B h_in_range  (He.glo_ok X G (c.fact 20 (f := .glo "is_valid_table"))) D5
  have h__law_row : FnIs ⟨P, w, K, mg, base⟩ "_law_row" 2 2 F__law_row := fn__law_row B h__law_cell  (He.glo_ok X G (c.fact 21 (f := .glo "_law_row"))) D6
  have h__law_table : FnIs ⟨P, w, K, mg, base⟩ "_law_table" 2 2 F__law_table := fn__law_table B h__law_value  (He.glo_ok X G (c.fact 22 (f := .glo "_law_table"))) D7
  have h_check_table : FnIs ⟨P, w, K, mg, base⟩ "check_table" 3 2 F_check_table := fn_check_table B h_check_modulus h_is_valid_table h_InvalidTable  (He.glo_ok X G (c.fact 23 (f := .glo "check_table"))) D8
  have h_parse_table : FnIs ⟨P, w, K, mg, base⟩ "parse_table" 3 1 F_parse_table := fn_parse_table B h_in_range h_parse_number h_is_valid_table h_pe_ParseError  (He.glo_ok X G (c.fact 24 (f := .glo "parse_table"))) D9
  have h__law_numbers : FnIs ⟨P, w, K, mg, base⟩ "_law_numbers" 3 2 F__law_numbers := fn__law_numbers B h__law_row  (He.glo_ok X G (c.fact 25 (f := .glo "_law_numbers"))) D10
  have h_format_table : FnIs ⟨P, w, K, mg, base⟩ "format_table" 4 2 F_format_table := fn_format_table B h_check_table  (He.glo_ok X G (c.fact 26 (f := .glo "format_table"))) D11
  have h__law_case : FnIs ⟨P, w, K, mg, base⟩ "_law_case" 4 3 F__law_case := fn__law_case B h__law_row h__law_table h__law_numbers  (He.glo_ok X G (c.fact 27 (f := .glo "_law_case"))) D12
  have h__law_parse : FnIs ⟨P, w, K, mg, base⟩ "_law_parse" 4 1 F__law_parse := fn__law_parse B h_parse_table h_pe_ParseError  hE (He.glo_ok X G (c.fact 28 (f := .glo "_law_parse"))) D13
  exact fn_okD (G := ⟨P, w, K, mg, base⟩) D14 sc_law (b_law B h__law_row h__law_case h_format_table h__law_parse ) (fun _ _ _ h => h)
end Hd
end PT
open PySem PySem.W PySem.Calls PyProof.Rows
theorem PySem.Challenge.cw_polytables_k14_text_holds : PySem.Challenge.rw_polytables_k14_text.Holds := by
  w_on; o_law
  refine HandSHeadRun.head_any (r := OpenLaw.row PySem.Challenge.rw_polytables_k14_text) (q := view (OpenLaw.row PySem.Challenge.rw_polytables_k14_text).prog [24]) (H := PT.Hd.hk) (ob := PT.Hd.ob) (M := 40000) (loose := PT.Hd.lo) (d := HandSHeadRun.topDef (OpenLaw.row PySem.Challenge.rw_polytables_k14_text).prog 24) (kwd := []) PT.Hd.ob_eq
    (by kernel_rfl) (fun s => by kernel_rfl) PT.Hd.run (by kernel_rfl) (by kernel_rfl) (by kernel_rfl) (by rfl) (by first | assumption | decide +kernel) (by decide +kernel) ⟨rfl, rfl, rfl, rfl, rfl, by decide +kernel⟩ ?hw ?hc
  case hw => w_witness2
  case hc =>
    refine PT.walk_pt (l := PySem.Challenge.rw_polytables_k14_text) (n := 63) (k := 5) (x := "script") (CX := fun w => L2.CX (PySem.Challenge.rw_polytables_k14_text).prog w) rfl (by decide) (by kernel_rfl) ⟨rfl, by decide, by decide⟩ ?F (fun w H s e s2 z => ?_)
    case F =>
      intro w mg f h Y G hm0
      obtain ⟨K, KX, c0⟩ := Y
      obtain ⟨c, ce⟩ := PT.SaysP.says c0
      have hm : mg ("law" : PySem.Str) = some (.ref f) := by
        have e : (HandSHeadRun.topDef (OpenLaw.row PySem.Challenge.rw_polytables_k14_text).prog 24).name = ("law" : PySem.Str) := by kernel_rfl
        rw [← e]
        exact hm0
      have e := hm.symm.trans (He.glo_ok KX G (c.fact 29 (f := .glo "law")))
      cases e
      obtain ⟨fd, hb, hF⟩ := PT.Hd.facts (P := (PySem.Challenge.rw_polytables_k14_text).prog) (w := w) KX G c ce
      exact ⟨K, fd, _, KX, hb, fun H a ns hl hO hS => PT.law_sp (fun ns _ => PT.law_plain ns) H a ns hl hO hS, fun base _ _ => hF base⟩
    obtain ⟨_, _, _, _, _, _, _, _, _, _, _, _, z⟩ := z
    exact z
