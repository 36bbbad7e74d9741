import PyProof.Rows.All
import Wide.All
import OpenK.AllK
import Wide.FinOn
import HandS.ForMost
import HandS.ForExc
import HandS.Walk
import HandS.Zip
import HandS.Rev
import HandS.TupAny
import HandS.TupMul
import HandS.IsInst
import HandS.Deep
import HandS.Flow
import HandS.Conv
import HandS.CallSlots
import HandS.TryMany
import HandS.SortInts
import HandS.Strs
import HandS.TupSets
import HandS.Wide
import KE.DataEq
import KE.KStateDown
import KE.GoesNew
import KE.KDictZip
import HandS.Defaults
import HandS.Head0
import HandS.Head1
import HandS.Head2
import HandS.HeadEnd
import HandS.HeadHook1
import HandS.HeadHook2
import HandS.SetFor
import KE.SortData
import PySem.Challenge.RW_polytables_k19_whole_count_permutations
set_option Elab.async false
set_option linter.all false
set_option maxRecDepth 100000
set_option maxHeartbeats 4000000
namespace PT
open PySem PySem.Spec PyProof.Rows L2

/-! ## data, environments, results -/
abbrev Dt := PyData
/-- a slot: a list that this slot alone holds, or any data -/
inductive SV where
  | own (xs : List Dt)
  | sh (d : Dt)
abbrev En := List (Option SV)
inductive Rs where
  | val (d : Dt)
  | exc (n : Str) (pl : Option Dt)
abbrev EF := Bool → En → Option Rs
def bnd (x : Option Rs) (k : Dt → Option Rs) : Option Rs :=
  match x with
  | some (.val d) => k d
  | y => y
/-- what is owned: by a slot (f), and by those around (x) -/
structure Ow where
  f : Nat → Option Addr
  x : Addr → Prop
def OI (ow : Ow) (a : Addr) : Prop := ∃ i, ow.f i = some a
def OA (ow : Ow) (a : Addr) : Prop := OI ow a ∨ ow.x a

/-! ## what a value stands for -/
/-- the script, as data: no list of the program's own -/
def scr (ns : List Int) : Dt := .dict (ns.map fun i => (.int i, .none))
/-- the script: locked, or of the written part -/
def ScrAt (K : PySem.W.Frag) (H : Hp) (a : Addr) (ns : List Int) : Prop := (∃ o, H a = some (.frz o (.lst (ns.map V.int)))) ∨
  ∃ (o : Obj) (its : Array Value) (n : Nat), K.lookup a = some o ∧ o.cls = .type "list" ∧ o.dict = none ∧ o.data = .seq its n ∧ its.size ≤ sizeLine ∧ Vals (ns.map V.int) its.toList
theorem ScrAt.sq {K : PySem.W.Frag} {H : Hp} {a : Addr} {ns : List Int} (h : ScrAt K H a ns) : SqL K H a (ns.map V.int) := by
  rcases h with ⟨o, h⟩ | h
  · exact .inl (.inr ⟨o, h⟩)
  · exact .inr h
theorem ScrAt.imp {K : PySem.W.Frag} {H H' : Hp} {a : Addr} {ns : List Int} (e : ∀ o u, H a = some (.frz o u) → H' a = some (.frz o u)) (h : ScrAt K H a ns) : ScrAt K H' a ns := by
  rcases h with ⟨o, h⟩ | h
  · exact .inl ⟨o, e _ _ h⟩
  · exact .inr h
mutual
inductive Rp (K : PySem.W.Frag) (O : Addr → Prop) (H : Hp) : V → Dt → Prop
  | non : Rp K O H .non .none
  | bl (b : Bool) : Rp K O H (.bl b) (.bool b)
  | int (i : Int) : Rp K O H (.int i) (.int i)
  | str (x : Str) : Rp K O H (.str x) (.str x)
  | lst {a : Addr} {xs : List V} {ds : List Dt} : H a = some (.lst xs) → ¬ O a → RpAll K O H xs ds → Rp K O H (.ref a) (.list ds)
  | tup {a : Addr} {xs : List V} {ds : List Dt} : H a = some (.tup xs) → RpAll K O H xs ds → Rp K O H (.ref a) (.tuple ds)
  | scr {a : Addr} {ns : List Int} : ScrAt K H a ns → Rp K O H (.ref a) (.dict (ns.map fun i => (.int i, .none)))
inductive RpAll (K : PySem.W.Frag) (O : Addr → Prop) (H : Hp) : List V → List Dt → Prop
  | nil : RpAll K O H [] []
  | cons {v : V} {vs : List V} {d : Dt} {ds : List Dt} : Rp K O H v d → RpAll K O H vs ds → RpAll K O H (v :: vs) (d :: ds)
end
abbrev NoO : Addr → Prop := fun _ => False
/-- every owned address bears a list -/
structure OkO (ow : Ow) (H : Hp) : Prop where
  lst : ∀ i a, ow.f i = some a → ∃ ys, H a = some (.lst ys)
  ext : ∀ a, ow.x a → H a ≠ none
/-- what stood and is not owned by a slot stands -/
structure Kp (ow : Ow) (H H' : Hp) : Prop where
  keep : ∀ a o, H a = some o → ¬ OI ow a → H' a = some o
  dom : ∀ a, H a ≠ none → H' a ≠ none
structure Stp (ow : Ow) (H : Hp) (ow' : Ow) (H' : Hp) : Prop where
  kp : Kp ow H H'
  new : ∀ a, OI ow' a → OI ow a ∨ H a = none
  ext : ow'.x = ow.x
theorem Same.dom {H H' : Hp} (e : Same H H') (a : Addr) (h : H a ≠ none) : H' a ≠ none := by
  cases q : H a with
  | none => exact absurd q h
  | some o => rw [e a o q]; exact fun z => nomatch z
theorem Same.kp {ow : Ow} {H H' : Hp} (e : Same H H') : Kp ow H H' := ⟨fun a o h _ => e a o h, Same.dom e⟩
theorem Same.stp {ow : Ow} {H H' : Hp} (e : Same H H') : Stp ow H ow H' := ⟨Same.kp e, fun _ h => .inl h, rfl⟩
theorem Stp.refl (ow : Ow) (H : Hp) : Stp ow H ow H := Same.stp (Same.refl H)
theorem Stp.kp2 {ow ow1 : Ow} {H H1 H2 : Hp} (a : Stp ow H ow1 H1) (b : Kp ow1 H1 H2) : Kp ow H H2 :=
  ⟨fun x o h n => b.keep x o (a.kp.keep x o h n) fun q => (a.new x q).elim n (fun z => by rw [z] at h; cases h), fun x h => b.dom x (a.kp.dom x h)⟩
theorem Stp.trans {ow ow1 ow2 : Ow} {H H1 H2 : Hp} (a : Stp ow H ow1 H1) (b : Stp ow1 H1 ow2 H2) : Stp ow H ow2 H2 :=
  ⟨a.kp2 b.kp, fun x q => (b.new x q).elim (fun z => a.new x z) fun z => by
    cases e : H x with
    | none => exact .inr rfl
    | some o => exact absurd z (a.kp.dom x (by rw [e]; exact fun z => nomatch z)), b.ext.trans a.ext⟩
theorem Same.upd {H : Hp} {p : Addr} {o : HO} (h : H p = none) : Same H (upd H p o) := fun a u e => by
  rw [upd_ne (ne_of_none e h)]
  exact e
theorem OkO.not {ow : Ow} {H : Hp} {a : Addr} {o : HO} (ok : OkO ow H) (e : H a = some o) (n : ∀ ys, o ≠ .lst ys) : ¬ OI ow a := fun ⟨i, hi⟩ => by
  obtain ⟨ys, hy⟩ := ok.lst i a hi
  rw [e] at hy
  exact n ys (Option.some.inj hy)
theorem OkO.new {ow : Ow} {H : Hp} {a : Addr} (ok : OkO ow H) (e : H a = none) : ¬ OA ow a := fun q => by
  rcases q with ⟨i, hi⟩ | q
  · obtain ⟨ys, hy⟩ := ok.lst i a hi
    rw [e] at hy; cases hy
  · exact ok.ext a q e
mutual
theorem Rp.stp {K : PySem.W.Frag} {ow ow' : Ow} {H H' : Hp} (ok : OkO ow H) (s : Stp ow H ow' H') : ∀ {v : V} {d : Dt}, Rp K (OA ow) H v d → Rp K (OA ow') H' v d
  | _, _, .non => .non
  | _, _, .bl b => .bl b
  | _, _, .int i => .int i
  | _, _, .str x => .str x
  | _, _, .lst h n r => .lst (s.kp.keep _ _ h fun z => n (.inl z)) (fun q => q.elim (fun q => (s.new _ q).elim (fun z => n (.inl z)) fun z => by rw [z] at h; cases h) fun q => n (.inr (by rw [← s.ext]; exact q))) (RpAll.stp ok s r)
  | _, _, .tup h r => .tup (s.kp.keep _ _ h (ok.not h fun _ z => by cases z)) (RpAll.stp ok s r)
  | _, _, .scr h => .scr (h.imp fun _ _ h => s.kp.keep _ _ h (ok.not h fun _ z => by cases z))
theorem RpAll.stp {K : PySem.W.Frag} {ow ow' : Ow} {H H' : Hp} (ok : OkO ow H) (s : Stp ow H ow' H') : ∀ {vs : List V} {ds : List Dt}, RpAll K (OA ow) H vs ds → RpAll K (OA ow') H' vs ds
  | _, _, .nil => .nil
  | _, _, .cons a r => .cons (Rp.stp ok s a) (RpAll.stp ok s r)
end
mutual
theorem Rp.fresh {K : PySem.W.Frag} {O O' : Addr → Prop} {H : Hp} (n : ∀ a o, H a = some o → ¬ O a → ¬ O' a) : ∀ {v : V} {d : Dt}, Rp K O H v d → Rp K O' H v d
  | _, _, .non => .non
  | _, _, .bl b => .bl b
  | _, _, .int i => .int i
  | _, _, .str x => .str x
  | _, _, .lst h q r => .lst h (n _ _ h q) (RpAll.fresh n r)
  | _, _, .tup h r => .tup h (RpAll.fresh n r)
  | _, _, .scr h => .scr h
theorem RpAll.fresh {K : PySem.W.Frag} {O O' : Addr → Prop} {H : Hp} (n : ∀ a o, H a = some o → ¬ O a → ¬ O' a) : ∀ {vs : List V} {ds : List Dt}, RpAll K O H vs ds → RpAll K O' H vs ds
  | _, _, .nil => .nil
  | _, _, .cons a r => .cons (Rp.fresh n a) (RpAll.fresh n r)
end
theorem Rp.noO {K : PySem.W.Frag} {O : Addr → Prop} {H : Hp} {v : V} {d : Dt} (h : Rp K O H v d) : Rp K NoO H v d := Rp.fresh (fun _ _ _ _ z => z) h
theorem RpAll.noO {K : PySem.W.Frag} {O : Addr → Prop} {H : Hp} {v : List V} {d : List Dt} (h : RpAll K O H v d) : RpAll K NoO H v d := RpAll.fresh (fun _ _ _ _ z => z) h
mutual
theorem Rp.same {K : PySem.W.Frag} {O : Addr → Prop} {H H' : Hp} (e : Same H H') : ∀ {v : V} {d : Dt}, Rp K O H v d → Rp K O H' v d
  | _, _, .non => .non
  | _, _, .bl b => .bl b
  | _, _, .int i => .int i
  | _, _, .str x => .str x
  | _, _, .lst h q r => .lst (e _ _ h) q (RpAll.same e r)
  | _, _, .tup h r => .tup (e _ _ h) (RpAll.same e r)
  | _, _, .scr h => .scr (h.imp fun _ _ h => e _ _ h)
theorem RpAll.same {K : PySem.W.Frag} {O : Addr → Prop} {H H' : Hp} (e : Same H H') : ∀ {vs : List V} {ds : List Dt}, RpAll K O H vs ds → RpAll K O H' vs ds
  | _, _, .nil => .nil
  | _, _, .cons a r => .cons (Rp.same e a) (RpAll.same e r)
end
/-! no script within: PyData.plain -/
mutual
theorem Rp.dp {K : PySem.W.Frag} {O : Addr → Prop} {H : Hp} : ∀ {v : V} {d : Dt}, Rp K O H v d → PyData.plain d = true → Dp K H v d
  | _, _, .non, _ => .non
  | _, _, .bl b, _ => .bl b
  | _, _, .int i, _ => .int i
  | _, _, .str x, _ => .str x
  | _, _, .lst h _ r, q => .lst (SqL.of h) (RpAll.dp r q)
  | _, _, .tup h r, q => .tup (SqT.of h) (RpAll.dp r q)
  | _, _, .scr h, q => by cases q
theorem RpAll.dp {K : PySem.W.Frag} {O : Addr → Prop} {H : Hp} : ∀ {vs : List V} {ds : List Dt}, RpAll K O H vs ds → PyData.plainAll ds = true → DpAll K H vs ds
  | _, _, .nil, _ => .nil
  | _, _, .cons a r, q => by
    unfold PyData.plainAll at q
    rw [Bool.and_eq_true] at q
    exact .cons (Rp.dp a q.1) (RpAll.dp r q.2)
end
theorem RpAll.length {K : PySem.W.Frag} {O : Addr → Prop} {H : Hp} : ∀ {vs : List V} {ds : List Dt}, RpAll K O H vs ds → vs.length = ds.length
  | _, _, .nil => rfl
  | _, _, .cons _ r => by simp [RpAll.length r]
theorem RpAll.get {K : PySem.W.Frag} {O : Addr → Prop} {H : Hp} : ∀ {vs : List V} {ds : List Dt} {i : Nat} {d : Dt}, RpAll K O H vs ds → ds[i]? = some d → ∃ v, vs[i]? = some v ∧ Rp K O H v d
  | _, _, _, _, .nil, e => by simp at e
  | _, _, 0, _, .cons a _, e => by simp at e; subst e; exact ⟨_, rfl, a⟩
  | _, _, i + 1, d, .cons _ r, e => by
    obtain ⟨v, h1, h2⟩ := RpAll.get (i := i) (d := d) r (by simpa using e)
    exact ⟨v, by simpa using h1, h2⟩
theorem RpAll.append {K : PySem.W.Frag} {O : Addr → Prop} {H : Hp} : ∀ {vs vs' : List V} {ds ds' : List Dt}, RpAll K O H vs ds → RpAll K O H vs' ds' → RpAll K O H (vs ++ vs') (ds ++ ds')
  | _, _, _, _, .nil, s => s
  | _, _, _, _, .cons a r, s => .cons a (RpAll.append r s)
theorem RpAll.take {K : PySem.W.Frag} {O : Addr → Prop} {H : Hp} : ∀ {vs : List V} {ds : List Dt} (n : Nat), RpAll K O H vs ds → RpAll K O H (vs.take n) (ds.take n)
  | _, _, 0, _ => .nil
  | _, _, _ + 1, .nil => .nil
  | _, _, n + 1, .cons a r => .cons a (RpAll.take n r)
theorem RpAll.drop {K : PySem.W.Frag} {O : Addr → Prop} {H : Hp} : ∀ {vs : List V} {ds : List Dt} (n : Nat), RpAll K O H vs ds → RpAll K O H (vs.drop n) (ds.drop n)
  | _, _, 0, r => r
  | _, _, _ + 1, .nil => .nil
  | _, _, n + 1, .cons _ r => RpAll.drop n r
theorem RpAll.set {K : PySem.W.Frag} {O : Addr → Prop} {H : Hp} {v : V} {d : Dt} (q : Rp K O H v d) : ∀ {vs : List V} {ds : List Dt} (i : Nat), RpAll K O H vs ds → RpAll K O H (vs.set i v) (ds.set i d)
  | _, _, _, .nil => .nil
  | _, _, 0, .cons _ r => .cons q r
  | _, _, i + 1, .cons a r => .cons a (RpAll.set q i r)

/-! ## the environment and the slots -/
def SlotOk (K : PySem.W.Frag) (ow : Ow) (i : Nat) (H : Hp) (v : V) : SV → Prop
  | .sh d => Rp K (OA ow) H v d
  | .own xs => ∃ a vs, v = .ref a ∧ ow.f i = some a ∧ H a = some (.lst vs) ∧ RpAll K (OA ow) H vs xs
structure Good (K : PySem.W.Frag) (ow : Ow) (ρ : En) (σ : L2.St) (H : Hp) : Prop where
  len : ρ.length = σ.length
  inj : ∀ i j a, ow.f i = some a → ow.f j = some a → i = j
  ok : OkO ow H
  disj : ∀ i a, ow.f i = some a → ¬ ow.x a
  slot : ∀ i s, ρ[i]? = some (some s) → ∃ v, σ[i]? = some (some v) ∧ SlotOk K ow i H v s
  has : ∀ i a, ow.f i = some a → ∃ xs, ρ[i]? = some (some (.own xs))
theorem OkO.same {ow : Ow} {H H' : Hp} (h : OkO ow H) (e : Same H H') : OkO ow H' := ⟨fun i a q => let ⟨ys, z⟩ := h.lst i a q; ⟨ys, e _ _ z⟩, fun a q => Same.dom e a (h.ext a q)⟩
theorem Good.same {K : PySem.W.Frag} {ow : Ow} {ρ : En} {σ : L2.St} {H H' : Hp} (g : Good K ow ρ σ H) (e : Same H H') : Good K ow ρ σ H' := by
  refine ⟨g.len, g.inj, g.ok.same e, g.disj, fun i s h => ?_, g.has⟩
  obtain ⟨v, hv, q⟩ := g.slot i s h
  refine ⟨v, hv, ?_⟩
  cases s with
  | sh d => exact Rp.same e q
  | own xs =>
    obtain ⟨a, vs, h1, h2, h3, h4⟩ := q
    exact ⟨a, vs, h1, h2, e _ _ h3, RpAll.same e h4⟩
/-- as a borrowed thing: data, or a list whose own address may be owned -/
def RpB (b : Bool) (K : PySem.W.Frag) (ow : Ow) (H : Hp) (v : V) (d : Dt) : Prop :=
  Rp K (OA ow) H v d ∨ (b = true ∧ ∃ a vs ds, v = .ref a ∧ d = .list ds ∧ H a = some (.lst vs) ∧ ¬ ow.x a ∧ RpAll K (OA ow) H vs ds)
theorem RpB.same {b : Bool} {K : PySem.W.Frag} {ow : Ow} {H H' : Hp} {v : V} {d : Dt} (e : Same H H') (h : RpB b K ow H v d) : RpB b K ow H' v d := by
  rcases h with h | ⟨hb, a, vs, ds, h1, h2, h3, h4, h5⟩
  · exact .inl (Rp.same e h)
  · exact .inr ⟨hb, a, vs, ds, h1, h2, e _ _ h3, h4, RpAll.same e h5⟩
theorem RpB.of {b : Bool} {K : PySem.W.Frag} {ow : Ow} {H : Hp} {v : V} {d : Dt} (h : Rp K (OA ow) H v d) : RpB b K ow H v d := .inl h
theorem RpB.rp {K : PySem.W.Frag} {ow : Ow} {H : Hp} {v : V} {d : Dt} (h : RpB false K ow H v d) : Rp K (OA ow) H v d := by
  rcases h with h | ⟨hb, _⟩
  · exact h
  · cases hb
theorem RpB.dp {b : Bool} {K : PySem.W.Frag} {ow : Ow} {H : Hp} {v : V} {d : Dt} (h : RpB b K ow H v d) (q : PyData.plain d = true) : Dp K H v d := by
  rcases h with h | ⟨hb, a, vs, ds, rfl, rfl, h3, h5, h4⟩
  · exact h.dp q
  · exact .lst (SqL.of h3) (h4.dp q)
/-- what is handed out -/
theorem RpB.out {b : Bool} {K : PySem.W.Frag} {ow : Ow} {H : Hp} {v : V} {d : Dt} (h : RpB b K ow H v d) : Rp K ow.x H v d := by
  rcases h with h | ⟨hb, a, vs, ds, rfl, rfl, h3, h5, h4⟩
  · exact Rp.fresh (fun _ _ _ n z => n (.inr z)) h
  · exact .lst h3 h5 (RpAll.fresh (fun _ _ _ n z => n (.inr z)) h4)
/-! what a borrowed list, a tuple, is -/
theorem RpB.list {b : Bool} {K : PySem.W.Frag} {ow : Ow} {H : Hp} {v : V} {ds : List Dt} (h : RpB b K ow H v (.list ds)) : ∃ a vs, v = .ref a ∧ H a = some (.lst vs) ∧ RpAll K (OA ow) H vs ds := by
  rcases h with h | ⟨hb, a, vs, ds', rfl, e, h3, h5, h4⟩
  · cases h with
    | lst h _ r => exact ⟨_, _, rfl, h, r⟩
  · cases e; exact ⟨a, vs, rfl, h3, h4⟩
theorem RpB.tuple {b : Bool} {K : PySem.W.Frag} {ow : Ow} {H : Hp} {v : V} {ds : List Dt} (h : RpB b K ow H v (.tuple ds)) : ∃ a vs, v = .ref a ∧ H a = some (.tup vs) ∧ RpAll K (OA ow) H vs ds := by
  rcases h with h | ⟨hb, a, vs, ds', rfl, e, h3, h5, h4⟩
  · cases h with
    | tup h r => exact ⟨_, _, rfl, h, r⟩
  · cases e
theorem RpB.int {b : Bool} {K : PySem.W.Frag} {ow : Ow} {H : Hp} {v : V} {i : Int} (h : RpB b K ow H v (.int i)) : v = .int i := by
  rcases h with h | ⟨hb, a, vs, ds', rfl, e, h3, h5, h4⟩
  · cases h; rfl
  · cases e
theorem RpB.bool {b : Bool} {K : PySem.W.Frag} {ow : Ow} {H : Hp} {v : V} {i : Bool} (h : RpB b K ow H v (.bool i)) : v = .bl i := by
  rcases h with h | ⟨hb, a, vs, ds', rfl, e, h3, h5, h4⟩
  · cases h; rfl
  · cases e
theorem RpB.str {b : Bool} {K : PySem.W.Frag} {ow : Ow} {H : Hp} {v : V} {i : Str} (h : RpB b K ow H v (.str i)) : v = .str i := by
  rcases h with h | ⟨hb, a, vs, ds', rfl, e, h3, h5, h4⟩
  · cases h; rfl
  · cases e
theorem RpB.none {b : Bool} {K : PySem.W.Frag} {ow : Ow} {H : Hp} {v : V} (h : RpB b K ow H v .none) : v = .non := by
  rcases h with h | ⟨hb, a, vs, ds', rfl, e, h3, h5, h4⟩
  · cases h; rfl
  · cases e
theorem RpB.script {b : Bool} {K : PySem.W.Frag} {ow : Ow} {H : Hp} {v : V} {kv : List (PyData × PyData)} (h : RpB b K ow H v (.dict kv)) :
    ∃ (a : Addr) (ns : List Int), v = .ref a ∧ kv = ns.map (fun i => ((.int i : PyData), (.none : PyData))) ∧ ScrAt K H a ns := by
  rcases h with h | ⟨hb, a, vs, ds', rfl, e, h3, h5, h4⟩
  · generalize hd : (PyData.dict kv) = d at h
    cases h with
    | scr h => injection hd with hd; exact ⟨_, _, rfl, hd, h⟩
    | _ => cases hd
  · cases e

/-! ## the context of a piece of code -/
structure Gc where
  P : Program
  w : World
  K : PySem.W.Frag
  mg : Str → Option Value
  base : Heap
structure Ctx (G : Gc) (N : List Str) (sc : Scope) (fn : Str → Bool) (k : Nat) (X : Cx) : Prop where
  hP : X.prog = G.P
  hw : X.w = G.w
  hK : X.K = G.K
  hmg : X.mg = G.mg
  hb : X.base = G.base
  hN : X.N = N
  nd : N.Nodup
  hsc : X.env.scope = sc
  hfn : X.fn = fn
  calm : X.calm = true
  room : Room k X.A
def PayOk (K : PySem.W.Frag) (H : Hp) (d : Option Addr) : Option Dt → Prop
  | .none => d = .none
  | some x => ∃ a v, d = some a ∧ H a = some (.xd [((Str.ofString "line"), v)]) ∧ Rp K NoO H v x
/-- what is wished of an exception -/
def ExP (K : PySem.W.Frag) (mg : Str → Option Value) (W : WX) (σ : L2.St) (H : Hp) (n : Str) (pl : Option Dt) : Prop :=
  ∀ cls d H', mg n = some cls → Same H H' → PayOk K H' d pl → W cls d σ H'
theorem ExP.same {K : PySem.W.Frag} {mg : Str → Option Value} {W : WX} {σ : L2.St} {H H' : Hp} {n : Str} {pl : Option Dt} (h : ExP K mg W σ H n pl) (e : Same H H') : ExP K mg W σ H' n pl :=
  fun cls d H2 h1 h2 h3 => h cls d H2 h1 (e.trans h2) h3
/-- the reading of an expression by data -/
def tE (K : PySem.W.Frag) (mg : Str → Option Value) (W : WX) (b : Bool) (f : EF) : TE := fun σ H Q =>
  ∃ ρ ow r, f b ρ = some r ∧ Good K ow ρ σ H ∧ match r with
    | .val d => ∀ v H', Same H H' → RpB b K ow H' v d → Q v H'
    | .exc n pl => ExP K mg W σ H n pl
def SE (G : Gc) (N : List Str) (sc : Scope) (fn : Str → Bool) (k : Nat) (e : Expr) (f : EF) : Prop :=
  ∀ X, Ctx G N sc fn k X → ∀ W, Takes X W → ∀ b, PE X e (tE X.K X.mg W b f)
theorem PE.imp {X : Cx} {e : Expr} {t t' : TE} (h : PE X e t) (i : ∀ σ H Q, t' σ H Q → t σ H Q) : PE X e t' := ⟨fun pins s σ H Q I q => h.run pins s σ H Q I (i σ H Q q)⟩
theorem PT.imp {X : Cx} {e : Expr} {t t' : TT} (h : PT X e t) (i : ∀ σ H Q, t' σ H Q → t σ H Q) : PT X e t' := ⟨fun pins s σ H Q I q => h.run pins s σ H Q I (i σ H Q q)⟩
theorem PA.imp {X : Cx} {e : List Expr} {t t' : TA} (h : PA X e t) (i : ∀ σ H Q, t' σ H Q → t σ H Q) : PA X e t' := ⟨fun pos pins s σ H Q I q => h.run pos pins s σ H Q I (i σ H Q q)⟩
theorem PSs.imp {X : Cx} {e : List Stmt} {t t' : TS} (h : PSs X e t) (i : ∀ D σ H, t' D σ H → t D σ H) : PSs X e t' := ⟨fun pins s σ H D I q => h.run pins s σ H D I (i D σ H q)⟩
theorem PS.imp {X : Cx} {e : Stmt} {t t' : TS} (h : PS X e t) (i : ∀ D σ H, t' D σ H → t D σ H) : PS X e t' := ⟨fun pins s σ H D I q => h.run pins s σ H D I (i D σ H q)⟩
/-- one part evaluated, then the rest: the shape of most proofs below -/
theorem tE.go {K : PySem.W.Frag} {mg : Str → Option Value} {W : WX} {b : Bool} {f : EF} {ρ : En} {ow : Ow} {σ : L2.St} {H : Hp} {Q : VK} {k : Dt → Option Rs} {r : Rs} (g : Good K ow ρ σ H)
    (e : bnd (f b ρ) k = some r)
    (hx : ∀ n pl, r = .exc n pl → ExP K mg W σ H n pl)
    (hv : ∀ d, k d = some r → ∀ v H', Same H H' → RpB b K ow H' v d → Q v H') : tE K mg W b f σ H Q := by
  cases h : f b ρ with
  | none => rw [h] at e; cases e
  | some q =>
    rw [h] at e
    cases q with
    | val d => exact ⟨ρ, ow, .val d, h, g, fun v H' s q => hv d e v H' s q⟩
    | exc n pl => exact ⟨ρ, ow, .exc n pl, h, g, hx n pl (Option.some.inj e).symm⟩
end PT

namespace PT
open PySem PySem.Spec PyProof.Rows L2

/-! ## operators by data -/
def RD (K : PySem.W.Frag) (r : R2) (op : Dt → Dt → Option Dt) : Prop :=
  ∀ (x y : V) (H : Hp) (Q : VK) (ow : Ow) (dx dy dz : Dt), OkO ow H → RpB true K ow H x dx → RpB true K ow H y dy → op dx dy = some dz →
    (∀ v H', Same H H' → Rp K (OA ow) H' v dz → Q v H') → r x y H Q
def eBin (op : Dt → Dt → Option Dt) (f g : EF) : EF := fun _ ρ => bnd (f true ρ) fun x => bnd (g true ρ) fun y => (op x y).map .val
theorem Same.exp {K : PySem.W.Frag} {mg : Str → Option Value} {W : WX} {σ : L2.St} {H H' : Hp} {n : Str} {pl : Option Dt} (e : Same H H') (h : ExP K mg W σ H n pl) : ExP K mg W σ H' n pl := h.same e
/-- two parts, then an operation by data -/
theorem tOp_of {K : PySem.W.Frag} {mg : Str → Option Value} {W : WX} {b : Bool} {op : Dt → Dt → Option Dt} {f g : EF} {r : R2} {σ : L2.St} {H : Hp} {Q : VK} (hd : RD K r op)
    (h : tE K mg W b (eBin op f g) σ H Q) : tOp r (tE K mg W true f) (tE K mg W true g) σ H Q := by
  obtain ⟨ρ, ow, rs, he, gd, post⟩ := h
  refine tE.go gd he (fun n pl e => by subst e; exact post) fun d hd1 v H1 s1 r1 => ?_
  refine tE.go (gd.same s1) hd1 (fun n pl e => by subst e; exact post.same s1) fun d2 hd2 v2 H2 s2 r2 => ?_
  cases hz : op d d2 with
  | none => rw [hz] at hd2; cases hd2
  | some dz =>
    rw [hz] at hd2
    cases hd2
    exact hd v v2 H2 Q ow d d2 dz (gd.ok.same (s1.trans s2)) (r1.same s2) r2 hz fun v' H' s' q => post v' H' ((s1.trans s2).trans s') (.inl q)
theorem Takes.use {X : Cx} {W : WX} (t : Takes X W) : Takes X W := t

section
variable {G : Gc} {N : List Str} {sc : Scope} {fn : Str → Bool} {k : Nat} {pos : Pos}

/-! ### names, constants -/
def eVar (i : Nat) : EF := fun b ρ => match ρ[i]? with
  | some (some (.sh d)) => some (.val d)
  | some (some (.own xs)) => if b then some (.val (.list xs)) else none
  | _ => none
def eC (d : Dt) : EF := fun _ _ => some (.val d)
theorem se_var (i : Nat) {x : Str} (hN : N[i]? = some x := by rfl) (hv : Vis sc x := by first | exact Or.inl rfl | exact Or.inr (Or.inl rfl) | exact Or.inr (Or.inr rfl))
    (hd : (x == ("__debug__" : Str)) = false := by decide) (hcd : (x == ("__classdict__" : Str)) = false := by decide) : SE G N sc fn k (.Name x pos) (eVar i) := fun X C W tk b => by
  refine PE.imp (pe_var (by rw [C.hN]; exact hN) (by rw [C.hsc]; exact hv) hd hcd) fun σ H Q h => ?_
  obtain ⟨ρ, ow, r, he, gd, post⟩ := h
  unfold eVar at he
  split at he
  · rename_i d hi
    cases he
    obtain ⟨v, hv, q⟩ := gd.slot i _ hi
    exact ⟨v, hv, post v H (Same.refl H) (.inl q)⟩
  · rename_i xs hi
    cases b with
    | false => cases he
    | true =>
      cases he
      obtain ⟨v, hv, a, vs, rfl, h2, h3, h4⟩ := gd.slot i _ hi
      exact ⟨_, hv, post _ H (Same.refl H) (.inr ⟨rfl, a, vs, xs, rfl, rfl, h3, gd.disj _ _ h2, h4⟩)⟩
  · cases he
theorem tC_of {K : PySem.W.Frag} {mg : Str → Option Value} {W : WX} {b : Bool} {d : Dt} {v : V} {σ : L2.St} {H : Hp} {Q : VK} (hr : ∀ O, Rp K O H v d) (h : tE K mg W b (eC d) σ H Q) : tC v σ H Q := by
  obtain ⟨ρ, ow, r, he, gd, post⟩ := h
  cases he
  exact post v H (Same.refl H) (.inl (hr _))
theorem se_int {i : Int} {j : Nat} : SE G N sc fn k (.Constant (.int i) j pos) (eC (.int i)) := fun X C W tk b => PE.imp pe_int fun σ H Q h => tC_of (fun _ => .int i) h
theorem se_bl {i : Bool} {j : Nat} : SE G N sc fn k (.Constant (.bool i) j pos) (eC (.bool i)) := fun X C W tk b => PE.imp pe_bl fun σ H Q h => tC_of (fun _ => .bl i) h
theorem se_non {j : Nat} : SE G N sc fn k (.Constant .none j pos) (eC .none) := fun X C W tk b => PE.imp pe_non fun σ H Q h => tC_of (fun _ => .non) h
theorem se_str {i : Str} {j : Nat} : SE G N sc fn k (.Constant (.str i) j pos) (eC (.str i)) := fun X C W tk b => PE.imp pe_str fun σ H Q h => tC_of (fun _ => .str i) h
/-- a module's constant that is an int -/
theorem se_gint {x : Str} {i : Int} (hm : ∃ t, G.mg x = some (.int i t)) (hg : sc.names.lookup x = some .globalImplicit := by rfl) (hd : (x == ("__debug__" : Str)) = false := by decide) : SE G N sc fn k (.Name x pos) (eC (.int i)) := fun X C W tk b => by
  obtain ⟨t, hm⟩ := hm
  exact PE.imp (pe_glob (v := .int i) (by show X.env.scope.names.lookup x = _; rw [C.hsc]; exact hg) (by rw [C.hmg]; exact hm) ⟨t, rfl⟩ hd) fun σ H Q h => tC_of (fun _ => .int i) h
theorem se_gstr {x : Str} {i : Str} (hm : ∃ t, G.mg x = some (.str i t)) (hg : sc.names.lookup x = some .globalImplicit := by rfl) (hd : (x == ("__debug__" : Str)) = false := by decide) : SE G N sc fn k (.Name x pos) (eC (.str i)) := fun X C W tk b => by
  obtain ⟨t, hm⟩ := hm
  exact PE.imp (pe_glob (v := .str i) (by show X.env.scope.names.lookup x = _; rw [C.hsc]; exact hg) (by rw [C.hmg]; exact hm) ⟨t, rfl⟩ hd) fun σ H Q h => tC_of (fun _ => .str i) h

/-! ### arithmetic -/
variable {a b c : Expr} {f g h : EF}
theorem se_bin {op : Operator} {r : PySem.W.Frag → R2} {dop : Dt → Dt → Option Dt} (ho : ∀ X : Cx, OpR X (binaryOp op) (r X.K)) (hd : ∀ K, RD K (r K) dop) (ha : SE G N sc fn k a f) (hb : SE G N sc fn k b g) :
    SE G N sc fn k (.BinOp a op b pos) (eBin dop f g) := fun X C W tk b' => PE.imp (pe_op (ho X) (ha X C W tk true) (hb X C W tk true)) fun σ H Q h => tOp_of (hd X.K) h
def lim : Nat := 1000000
theorem lim_le {n : Nat} (h : n ≤ lim) : n ≤ sizeLine := Nat.le_trans h (by decide)
def dAdd : Dt → Dt → Option Dt
  | .int i, .int j => some (.int (i + j))
  | .tuple xs, .tuple ys => if xs.length + ys.length ≤ lim then some (.tuple (xs ++ ys)) else none
  | .list xs, .list ys => if xs.length + ys.length ≤ lim then some (.list (xs ++ ys)) else none
  | .str x, .str y => if x.length + y.length ≤ lim then some (.str (x ++ y)) else none
  | _, _ => none
def rAddD (K : PySem.W.Frag) : R2 := fun x y H Q => rI0 (fun i j => .int (i + j)) x y H Q ∨ (rCatA K x y H Q ∨ (rCat x y H Q ∨ (∃ i j, x = .str i ∧ y = .str j ∧ i.length + j.length ≤ sizeLine ∧ Q (.str (i ++ j)) H)))
theorem rd_add (K : PySem.W.Frag) : RD K (rAddD K) dAdd := by
  intro x y H Q ow dx dy dz ok rx ry e post
  unfold dAdd at e
  split at e
  · cases e
    obtain rfl := rx.int
    obtain rfl := ry.int
    exact .inl ⟨_, _, rfl, rfl, post _ H (Same.refl H) (.int _)⟩
  · rename_i xs ys
    split at e
    · rename_i hz
      cases e
      obtain ⟨a, vs, rfl, h1, r1⟩ := rx.tuple
      obtain ⟨b, ws, rfl, h2, r2⟩ := ry.tuple
      refine .inr (.inl ⟨a, b, vs, ws, rfl, rfl, SqT.of h1, SqT.of h2, by rw [r1.length, r2.length]; exact lim_le hz, fun e => ?_, fun e1 e2 => ?_, fun e1 e2 p hp => ?_⟩)
      · subst e
        cases r1
        exact post _ H (Same.refl H) (.tup h2 r2)
      · subst e2
        cases r2
        rw [List.append_nil] at post
        exact post _ H (Same.refl H) (.tup h1 r1)
      · exact post _ _ (Same.upd hp) (.tup upd_same (RpAll.same (Same.upd hp) (r1.append r2)))
    · cases e
  · rename_i xs ys
    split at e
    · rename_i hz
      cases e
      obtain ⟨a, vs, rfl, h1, r1⟩ := rx.list
      obtain ⟨b, ws, rfl, h2, r2⟩ := ry.list
      exact .inr (.inr (.inl ⟨a, b, vs, ws, rfl, rfl, h1, h2, by rw [r1.length, r2.length]; exact lim_le hz, fun p hp =>
        post _ _ (Same.upd hp) (.lst upd_same (ok.new hp) (RpAll.same (Same.upd hp) (r1.append r2)))⟩))
    · cases e
  · rename_i x' y'
    split at e
    · rename_i hz
      cases e
      obtain rfl := rx.str
      obtain rfl := ry.str
      exact .inr (.inr (.inr ⟨_, _, rfl, rfl, lim_le hz, post _ H (Same.refl H) (.str _)⟩))
    · cases e
  · cases e
theorem se_add (ha : SE G N sc fn k a f) (hb : SE G N sc fn k b g) : SE G N sc fn k (.BinOp a .Add b pos) (eBin dAdd f g) :=
  se_bin (r := rAddD) (fun X => op_add.or (op_catA.or (op_cat.or op_add_str))) rd_add ha hb
/-- ints alone -/
def dI (C : Int → Int → Bool) (o : Int → Int → Int) : Dt → Dt → Option Dt
  | .int i, .int j => if C i j then some (.int (o i j)) else none
  | _, _ => none
theorem rd_I {K : PySem.W.Frag} {C : Int → Int → Bool} {C' : Int → Int → Prop} {o : Int → Int → Int} (hc : ∀ i j, C i j = true → C' i j) : RD K (rI C' fun i j => .int (o i j)) (dI C o) := by
  intro x y H Q ow dx dy dz ok rx ry e post
  unfold dI at e
  split at e
  · split at e
    · rename_i i j hcc
      cases e
      obtain rfl := rx.int
      obtain rfl := ry.int
      exact ⟨_, _, rfl, rfl, hc _ _ hcc, post _ H (Same.refl H) (.int _)⟩
    · cases e
  · cases e
def dSub : Dt → Dt → Option Dt
  | .int i, .int j => some (.int (i - j))
  | _, _ => none
theorem rd_sub (K : PySem.W.Frag) : RD K (rI0 fun i j => .int (i - j)) dSub := by
  intro x y H Q ow dx dy dz ok rx ry e post
  unfold dSub at e
  split at e
  · cases e
    obtain rfl := rx.int
    obtain rfl := ry.int
    exact ⟨_, _, rfl, rfl, post _ H (Same.refl H) (.int _)⟩
  · cases e
theorem se_sub (ha : SE G N sc fn k a f) (hb : SE G N sc fn k b g) : SE G N sc fn k (.BinOp a .Sub b pos) (eBin dSub f g) :=
  se_bin (r := fun _ => rI0 fun i j => .int (i - j)) (fun X => op_sub) rd_sub ha hb
def sml (i : Int) : Bool := decide (-(2 ^ 64) < i) && decide (i < 2 ^ 64)
def dMul : Dt → Dt → Option Dt
  | .int i, .int j => if sml i || sml j then some (.int (i * j)) else none
  | .list xs, .int j => if xs.length * j.toNat ≤ lim ∧ j ≤ 1000000 ∧ -1000000 ≤ j then some (.list (List.replicate j.toNat xs).flatten) else none
  | .tuple xs, .int j => if xs ≠ [] ∧ 2 ≤ j ∧ j ≤ 1000 ∧ xs.length ≤ 1000 then some (.tuple (List.replicate j.toNat xs).flatten) else none
  | _, _ => none
theorem RpAll.rep {K : PySem.W.Frag} {O : Addr → Prop} {H : Hp} {vs : List V} {ds : List Dt} (r : RpAll K O H vs ds) : ∀ n : Nat, RpAll K O H (List.replicate n vs).flatten (List.replicate n ds).flatten
  | 0 => .nil
  | n + 1 => by
    rw [List.replicate_succ, List.replicate_succ, List.flatten_cons, List.flatten_cons]
    exact r.append (RpAll.rep r n)
def rMulD (K : PySem.W.Frag) : R2 := fun x y H Q => rI CMul (fun i j => .int (i * j)) x y H Q ∨ (rRep x y H Q ∨ rRepT K x y H Q)
theorem rd_mul (K : PySem.W.Frag) : RD K (rMulD K) dMul := by
  intro x y H Q ow dx dy dz ok rx ry e post
  unfold dMul at e
  split at e
  · split at e
    · rename_i i j hz
      cases e
      obtain rfl := rx.int
      obtain rfl := ry.int
      refine .inl ⟨_, _, rfl, rfl, ?_, post _ H (Same.refl H) (.int _)⟩
      simp only [sml, Bool.or_eq_true, Bool.and_eq_true, decide_eq_true_eq] at hz
      exact hz
    · cases e
  · split at e
    · rename_i xs j hz
      cases e
      obtain ⟨a, vs, rfl, h1, r1⟩ := rx.list
      obtain rfl := ry.int
      exact .inr (.inl ⟨a, j, vs, rfl, rfl, h1, by omega, by omega, by rw [r1.length]; exact lim_le hz.1, fun p hp =>
        post _ _ (Same.upd hp) (.lst upd_same (ok.new hp) (RpAll.same (Same.upd hp) (r1.rep _)))⟩)
    · cases e
  · split at e
    · rename_i xs j hz
      cases e
      obtain ⟨a, vs, rfl, h1, r1⟩ := rx.tuple
      obtain rfl := ry.int
      refine .inr (.inr ⟨a, j, vs, rfl, rfl, SqT.of h1, fun z => ?_, hz.2.1, hz.2.2.1, by rw [r1.length]; exact hz.2.2.2, fun p hp =>
        post _ _ (Same.upd hp) (.tup upd_same (RpAll.same (Same.upd hp) (r1.rep _)))⟩)
      subst z
      cases r1
      exact hz.1 rfl
    · cases e
  · cases e
theorem se_mul (ha : SE G N sc fn k a f) (hb : SE G N sc fn k b g) : SE G N sc fn k (.BinOp a .Mult b pos) (eBin dMul f g) :=
  se_bin (r := rMulD) (fun X => op_mul.or (op_rep.or op_repT)) rd_mul ha hb
def dDiv : Dt → Dt → Option Dt := dI (fun _ j => decide (j ≠ 0) && decide (j.natAbs < 1073741824)) fun i j => i.fdiv j
theorem se_div (ha : SE G N sc fn k a f) (hb : SE G N sc fn k b g) : SE G N sc fn k (.BinOp a .FloorDiv b pos) (eBin dDiv f g) :=
  se_bin (r := fun _ => rI CDivN fun i j => .int (i.fdiv j)) (fun X => op_fdivN) (fun K => rd_I fun i j h => by simpa [CDivN] using h) ha hb
def dMod : Dt → Dt → Option Dt := dI (fun _ j => decide (j ≠ 0)) fun i j => i.fmod j
theorem se_mod (ha : SE G N sc fn k a f) (hb : SE G N sc fn k b g) : SE G N sc fn k (.BinOp a .Mod b pos) (eBin dMod f g) :=
  se_bin (r := fun _ => rI (fun _ j => j ≠ 0) fun i j => .int (i.fmod j)) (fun X => op_modN) (fun K => rd_I fun i j h => by simpa using h) ha hb
def dPow : Dt → Dt → Option Dt := dI (fun i j => decide (0 ≤ j) && decide (j ≤ 1000000) && decide (i.natAbs < 2 ^ 64)) fun i j => i ^ j.toNat
theorem se_pow (ha : SE G N sc fn k a f) (hb : SE G N sc fn k b g) : SE G N sc fn k (.BinOp a .Pow b pos) (eBin dPow f g) :=
  se_bin (r := fun _ => rI CPow fun i j => .int (i ^ j.toNat)) (fun X => op_pow) (fun K => rd_I fun i j h => by simpa [CPow, and_assoc] using h) ha hb
def eUn (op : Dt → Option Dt) (f : EF) : EF := fun _ ρ => bnd (f true ρ) fun x => (op x).map .val
def dNeg : Dt → Option Dt
  | .int i => some (.int (-i))
  | _ => none
theorem se_neg (ha : SE G N sc fn k a f) : SE G N sc fn k (.UnaryOp .USub a pos) (eUn dNeg f) := fun X C W tk b => PE.imp (pe_un un_neg (ha X C W tk true)) fun σ H Q h => by
  obtain ⟨ρ, ow, rs, he, gd, post⟩ := h
  refine tE.go gd he (fun n pl e => by subst e; exact post) fun d hd1 v H1 s1 r1 => ?_
  unfold dNeg at hd1
  split at hd1
  · cases hd1
    obtain rfl := r1.int
    exact ⟨_, rfl, post _ H1 s1 (.inl (.int _))⟩
  · cases hd1
end
end PT

namespace PT
open PySem PySem.Spec PyProof.Rows L2

/-! ## comparisons -/
def dep (d : Dt) : Bool := decide (d.depth ≤ 60)
def dEq (x y : Dt) : Option Dt := if x.plain && y.plain && (dep x || dep y) then some (.bool (PyData.eqv x y)) else none
def dNe (x y : Dt) : Option Dt := if x.plain && y.plain && (dep x || dep y) then some (.bool (!PyData.eqv x y)) else none
def rEqP (K : PySem.W.Frag) : R2 := fun x y H Q => ∃ d e, Dp K H x d ∧ Dp K H y e ∧ d.plain = true ∧ e.plain = true ∧ (d.depth ≤ 60 ∨ e.depth ≤ 60) ∧ Q (.bl (PyData.eqv d e)) H
def rNeP (K : PySem.W.Frag) : R2 := fun x y H Q => ∃ d e, Dp K H x d ∧ Dp K H y e ∧ d.plain = true ∧ e.plain = true ∧ (d.depth ≤ 60 ∨ e.depth ≤ 60) ∧ Q (.bl (!PyData.eqv d e)) H
theorem op_eqP {X : Cx} (hu : X.A.units + 64 < cLine) : OpR X (compareOp .Eq) (rEqP X.K) := by
  intro pins s σ H x y v u Q I rx ry h
  obtain ⟨d, e, hd, he, sd, se, hm, q⟩ := h
  obtain ⟨as, r1⟩ := Dp.reads I d x v hd rx
  obtain ⟨bs, r2⟩ := Dp.reads I e y u he ry
  exact SeqAt.eq_plain r1 r2 sd se (by omega) ⟨.bl _, H, I, rfl, q⟩
theorem op_neP {X : Cx} (hu : X.A.units + 64 < cLine) : OpR X (compareOp .NotEq) (rNeP X.K) := by
  intro pins s σ H x y v u Q I rx ry h
  obtain ⟨d, e, hd, he, sd, se, hm, q⟩ := h
  obtain ⟨as, r1⟩ := Dp.reads I d x v hd rx
  obtain ⟨bs, r2⟩ := Dp.reads I e y u he ry
  exact SeqAt.ne_plain r1 r2 sd se (by omega) ⟨.bl _, H, I, rfl, q⟩
theorem rd_eq (K : PySem.W.Frag) : RD K (rEqP K) dEq := by
  intro x y H Q ow dx dy dz ok rx ry e post
  unfold dEq at e
  split at e
  · rename_i hc
    cases e
    simp only [Bool.and_eq_true, Bool.or_eq_true, dep, decide_eq_true_eq] at hc
    exact ⟨dx, dy, rx.dp hc.1.1, ry.dp hc.1.2, hc.1.1, hc.1.2, hc.2, post _ H (Same.refl H) (.bl _)⟩
  · cases e
theorem rd_ne (K : PySem.W.Frag) : RD K (rNeP K) dNe := by
  intro x y H Q ow dx dy dz ok rx ry e post
  unfold dNe at e
  split at e
  · rename_i hc
    cases e
    simp only [Bool.and_eq_true, Bool.or_eq_true, dep, decide_eq_true_eq] at hc
    exact ⟨dx, dy, rx.dp hc.1.1, ry.dp hc.1.2, hc.1.1, hc.1.2, hc.2, post _ H (Same.refl H) (.bl _)⟩
  · cases e
def dCmp (p : Int → Int → Bool) : Dt → Dt → Option Dt
  | .int i, .int j => some (.bool (p i j))
  | _, _ => none
theorem rd_cmp {K : PySem.W.Frag} {p : Int → Int → Bool} : RD K (rI0 fun i j => .bl (p i j)) (dCmp p) := by
  intro x y H Q ow dx dy dz ok rx ry e post
  unfold dCmp at e
  split at e
  · cases e
    obtain rfl := rx.int
    obtain rfl := ry.int
    exact ⟨_, _, rfl, rfl, post _ H (Same.refl H) (.bl _)⟩
  · cases e
abbrev dLt := dCmp fun i j => decide (i < j)
abbrev dLe := dCmp fun i j => decide (i ≤ j)
abbrev dGt := dCmp fun i j => decide (j < i)
abbrev dGe := dCmp fun i j => decide (j ≤ i)
def isN : Dt → Bool
  | .none => true
  | _ => false
def dIsN : Dt → Dt → Option Dt
  | x, .none => some (.bool (isN x))
  | _, _ => none
def dNotN : Dt → Dt → Option Dt
  | x, .none => some (.bool (!isN x))
  | _, _ => none
theorem RpB.isN {b : Bool} {K : PySem.W.Frag} {ow : Ow} {H : Hp} {v : V} {d : Dt} (h : RpB b K ow H v d) : decide (v = .non) = isN d := by
  cases d with
  | none => rw [h.none]; rfl
  | bool b => rw [h.bool]; rfl
  | int b => rw [h.int]; rfl
  | str b => rw [h.str]; rfl
  | list b => obtain ⟨a, vs, rfl, _⟩ := h.list; rfl
  | tuple b => obtain ⟨a, vs, rfl, _⟩ := h.tuple; rfl
  | dict b => obtain ⟨a, ns, rfl, _⟩ := h.script; rfl
theorem rd_isN (K : PySem.W.Frag) : RD K (fun x y H Q => y = .non ∧ Q (.bl (decide (x = .non))) H) dIsN := by
  intro x y H Q ow dx dy dz ok rx ry e post
  unfold dIsN at e
  split at e
  · cases e
    refine ⟨ry.none, ?_⟩
    rw [rx.isN]
    exact post _ H (Same.refl H) (.bl _)
  · cases e
theorem rd_notN (K : PySem.W.Frag) : RD K (fun x y H Q => y = .non ∧ Q (.bl (!decide (x = .non))) H) dNotN := by
  intro x y H Q ow dx dy dz ok rx ry e post
  unfold dNotN at e
  split at e
  · cases e
    refine ⟨ry.none, ?_⟩
    rw [rx.isN]
    exact post _ H (Same.refl H) (.bl _)
  · cases e
/-! ### in, not in -/
def dIn : Dt → Dt → Option Dt
  | x, .list ys => if x.plain && PyData.plainAll ys && dep x then some (.bool (ys.any fun y => PyData.eqv y x)) else none
  | x, .tuple ys => if x.plain && PyData.plainAll ys && dep x then some (.bool (ys.any fun y => PyData.eqv y x)) else none
  | .str i, .str j => some (.bool (!(Builtin.Str.occurrences j i 0 j.length 1).isEmpty))
  | _, _ => none
def dNotIn : Dt → Dt → Option Dt
  | x, .list ys => if x.plain && PyData.plainAll ys && dep x then some (.bool (!ys.any fun y => PyData.eqv y x)) else none
  | x, .tuple ys => if x.plain && PyData.plainAll ys && dep x then some (.bool (!ys.any fun y => PyData.eqv y x)) else none
  | .str i, .str j => some (.bool (!(!(Builtin.Str.occurrences j i 0 j.length 1).isEmpty)))
  | _, _ => none
def rInD (K : PySem.W.Frag) (neg : Bool) : R2 := fun x y H Q => ∃ d ds, Dp K H x d ∧ (Dp K H y (.list ds) ∨ Dp K H y (.tuple ds)) ∧ d.plain = true ∧ PyData.plainAll ds = true ∧ d.depth ≤ 60 ∧
  Q (.bl (if neg then !ds.any fun y => PyData.eqv y d else ds.any fun y => PyData.eqv y d)) H
theorem op_inD {X : Cx} (hu : X.A.units + 64 < cLine) : OpR X (compareOp .In) (rInD X.K false) := by
  intro pins s σ H x y v u Q I rx ry h
  obtain ⟨d, ds, hd, he, sd, se, hm, q⟩ := h
  obtain ⟨as, r1⟩ := Dp.reads I d x v hd rx
  rcases he with he | he
  · obtain ⟨bs, r2⟩ := Dp.reads I _ y u he ry
    exact SeqAt.in_list_data r2 r1 se sd (by omega) ⟨.bl _, H, I, rfl, q⟩
  · obtain ⟨bs, r2⟩ := Dp.reads I _ y u he ry
    exact SeqAt.in_tuple_data r2 r1 se sd (by omega) ⟨.bl _, H, I, rfl, q⟩
theorem op_notInD {X : Cx} (hu : X.A.units + 64 < cLine) : OpR X (compareOp .NotIn) (rInD X.K true) := by
  intro pins s σ H x y v u Q I rx ry h
  obtain ⟨d, ds, hd, he, sd, se, hm, q⟩ := h
  obtain ⟨as, r1⟩ := Dp.reads I d x v hd rx
  rcases he with he | he
  · obtain ⟨bs, r2⟩ := Dp.reads I _ y u he ry
    exact SeqAt.notIn_list_data r2 r1 se sd (by omega) ⟨.bl _, H, I, rfl, q⟩
  · obtain ⟨bs, r2⟩ := Dp.reads I _ y u he ry
    exact SeqAt.notIn_tuple_data r2 r1 se sd (by omega) ⟨.bl _, H, I, rfl, q⟩
def rInA (K : PySem.W.Frag) : R2 := fun x y H Q => rInD K false x y H Q ∨ (∃ i j, x = .str i ∧ y = .str j ∧ Q (.bl (!(Builtin.Str.occurrences j i 0 j.length 1).isEmpty)) H)
def rNotInA (K : PySem.W.Frag) : R2 := fun x y H Q => rInD K true x y H Q ∨ (∃ i j, x = .str i ∧ y = .str j ∧ Q (.bl (!(!(Builtin.Str.occurrences j i 0 j.length 1).isEmpty))) H)
theorem rd_in (K : PySem.W.Frag) : RD K (rInA K) dIn := by
  intro x y H Q ow dx dy dz ok rx ry e post
  unfold dIn at e
  split at e
  · split at e
    · rename_i hc
      cases e
      simp only [Bool.and_eq_true, dep, decide_eq_true_eq] at hc
      exact .inl ⟨_, _, rx.dp hc.1.1, .inl (ry.dp hc.1.2), hc.1.1, hc.1.2, hc.2, post _ H (Same.refl H) (.bl _)⟩
    · cases e
  · split at e
    · rename_i hc
      cases e
      simp only [Bool.and_eq_true, dep, decide_eq_true_eq] at hc
      exact .inl ⟨_, _, rx.dp hc.1.1, .inr (ry.dp hc.1.2), hc.1.1, hc.1.2, hc.2, post _ H (Same.refl H) (.bl _)⟩
    · cases e
  · cases e
    exact .inr ⟨_, _, rx.str, ry.str, post _ H (Same.refl H) (.bl _)⟩
  · cases e
theorem rd_notIn (K : PySem.W.Frag) : RD K (rNotInA K) dNotIn := by
  intro x y H Q ow dx dy dz ok rx ry e post
  unfold dNotIn at e
  split at e
  · split at e
    · rename_i hc
      cases e
      simp only [Bool.and_eq_true, dep, decide_eq_true_eq] at hc
      exact .inl ⟨_, _, rx.dp hc.1.1, .inl (ry.dp hc.1.2), hc.1.1, hc.1.2, hc.2, post _ H (Same.refl H) (.bl _)⟩
    · cases e
  · split at e
    · rename_i hc
      cases e
      simp only [Bool.and_eq_true, dep, decide_eq_true_eq] at hc
      exact .inl ⟨_, _, rx.dp hc.1.1, .inr (ry.dp hc.1.2), hc.1.1, hc.1.2, hc.2, post _ H (Same.refl H) (.bl _)⟩
    · cases e
  · cases e
    exact .inr ⟨_, _, rx.str, ry.str, post _ H (Same.refl H) (.bl _)⟩
  · cases e

/-! ## tests -/
def tru : Dt → Option Bool
  | .none => some false
  | .bool b => some b
  | .int i => some (i != 0)
  | .str s => if s.length ≤ lim then some ((s.length : Int) != 0) else none
  | .list xs => some (!xs.isEmpty)
  | .tuple xs => some (!xs.isEmpty)
  | .dict _ => none
def tT (K : PySem.W.Frag) (mg : Str → Option Value) (W : WX) (f : EF) : TT := fun σ H Q =>
  ∃ ρ ow r, f true ρ = some r ∧ Good K ow ρ σ H ∧ match r with
    | .val d => ∃ c, tru d = some c ∧ ∀ H', Same H H' → Q c H'
    | .exc n pl => ExP K mg W σ H n pl
def ST (G : Gc) (N : List Str) (sc : Scope) (fn : Str → Bool) (k : Nat) (e : Expr) (f : EF) : Prop :=
  ∀ X, Ctx G N sc fn k X → ∀ W, Takes X W → PT X e (tT X.K X.mg W f)
theorem isEmptyA {K : PySem.W.Frag} {O : Addr → Prop} {H : Hp} {vs : List V} {ds : List Dt} (r : RpAll K O H vs ds) : (!vs.isEmpty) = !ds.isEmpty := by
  cases r <;> rfl
theorem RpB.tru {b : Bool} {K : PySem.W.Frag} {ow : Ow} {H : Hp} {v : V} {d : Dt} {c : Bool} (h : RpB b K ow H v d) (e : tru d = some c) : TruV K v H c := by
  cases d with
  | none => rw [h.none]; cases e; rfl
  | bool b => rw [h.bool]; cases e; rfl
  | int b => rw [h.int]; cases e; rfl
  | str b =>
    rw [h.str]
    simp only [PT.tru] at e
    split at e
    · rename_i hz; cases e; exact ⟨lim_le hz, rfl⟩
    · cases e
  | list b => obtain ⟨a, vs, rfl, h1, r⟩ := h.list; cases e; exact .inl ⟨vs, SqL.of h1, (isEmptyA r).symm⟩
  | tuple b => obtain ⟨a, vs, rfl, h1, r⟩ := h.tuple; cases e; exact .inr (.inl ⟨vs, SqT.of h1, (isEmptyA r).symm⟩)
  | dict b => cases e
theorem tT.go {K : PySem.W.Frag} {mg : Str → Option Value} {W : WX} {f : EF} {ρ : En} {ow : Ow} {σ : L2.St} {H : Hp} {Q : Bool → Hp → Prop} {k : Dt → Option Rs} {r : Rs} (g : Good K ow ρ σ H)
    (e : bnd (f true ρ) k = some r)
    (hx : ∀ n pl, r = .exc n pl → ExP K mg W σ H n pl)
    (hv : ∀ d, k d = some r → ∃ c, tru d = some c ∧ ∀ H', Same H H' → Q c H') : tT K mg W f σ H Q := by
  cases h : f true ρ with
  | none => rw [h] at e; cases e
  | some q =>
    rw [h] at e
    cases q with
    | val d => exact ⟨ρ, ow, .val d, h, g, hv d e⟩
    | exc n pl => exact ⟨ρ, ow, .exc n pl, h, g, hx n pl (Option.some.inj e).symm⟩

section
variable {G : Gc} {N : List Str} {sc : Scope} {fn : Str → Bool} {k : Nat} {pos : Pos} {a b c : Expr} {f g h : EF}
/-- any expression whose test is its value's truth -/
theorem st_val (ha : SE G N sc fn k a f) (he : ∀ env whole, isTrue a env whole = (do let v ← whole; standAt a.pos; holding [v] (truthy v)) := by intros; rfl) : ST G N sc fn k a f := fun X C W tk =>
  PT.imp (pt_truth (ha X C W tk true) (he X.env)) fun σ H Q h => by
    obtain ⟨ρ, ow, r, he, gd, post⟩ := h
    refine ⟨ρ, ow, r, he, gd, ?_⟩
    cases r with
    | exc n pl => exact post
    | val d =>
      obtain ⟨c, hc, q⟩ := post
      exact fun v H' s' r' => ⟨c, r'.tru hc, q H' s'⟩
theorem tB_of {K : PySem.W.Frag} {mg : Str → Option Value} {W : WX} {op : Dt → Dt → Option Dt} {f g : EF} {r : R2} {σ : L2.St} {H : Hp} {Q : Bool → Hp → Prop} (hd : RD K r op) (hbl : ∀ x y z, op x y = some z → ∃ c, z = .bool c)
    (h : tT K mg W (eBin op f g) σ H Q) : tTest (tOp r (tE K mg W true f) (tE K mg W true g)) σ H Q := by
  obtain ⟨ρ, ow, rs, he, gd, post⟩ := h
  refine tOp_of (b := true) hd ⟨ρ, ow, rs, he, gd, ?_⟩
  cases rs with
  | exc n pl => exact post
  | val d =>
    obtain ⟨c, hc, q⟩ := post
    obtain ⟨c', rfl⟩ : ∃ c, d = .bool c := by
      unfold eBin at he
      cases h1 : f true ρ with
      | none => rw [h1] at he; cases he
      | some r1 =>
        cases r1 with
        | exc n pl => rw [h1] at he; cases he
        | val x =>
          cases h2 : g true ρ with
          | none => rw [h1, h2] at he; cases he
          | some r2 =>
            cases r2 with
            | exc n pl => rw [h1, h2] at he; cases he
            | val y =>
              rw [h1, h2] at he
              cases hz : op x y with
              | none => simp [bnd, hz] at he
              | some z =>
                simp [bnd, hz] at he
                subst he
                exact hbl x y z hz
    cases hc
    exact fun v H' s' r' => ⟨_, r'.bool, q H' s'⟩
/-- a comparison as a value, as a test -/
theorem se_cmp {op : CmpOp} {r : PySem.W.Frag → R2} {dop : Dt → Dt → Option Dt} (ho : ∀ X : Cx, X.A.units + 64 < cLine → OpR X (compareOp op) (r X.K)) (hd : ∀ K, RD K (r K) dop) (ha : SE G N sc fn k a f) (hb : SE G N sc fn k b g)
    (hm : behindInMarks op b = false) : SE G N sc fn k (.Compare a [op] [b] pos) (eBin dop f g) := fun X C W tk b' => PE.imp (pe_cmpR (ho X C.room.units) (ha X C W tk true) (hb X C W tk true) hm) fun σ H Q h => tOp_of (hd X.K) h
theorem st_cmp {op : CmpOp} {r : PySem.W.Frag → R2} {dop : Dt → Dt → Option Dt} (ho : ∀ X : Cx, X.A.units + 64 < cLine → OpR X (compareOp op) (r X.K)) (hd : ∀ K, RD K (r K) dop) (hbl : ∀ x y z, dop x y = some z → ∃ c, z = .bool c) (ha : SE G N sc fn k a f) (hb : SE G N sc fn k b g)
    (hm : behindInMarks op b = false) : ST G N sc fn k (.Compare a [op] [b] pos) (eBin dop f g) := fun X C W tk => PT.imp (pt_cmpR (ho X C.room.units) (ha X C W tk true) (hb X C W tk true) hm) fun σ H Q h => tB_of (hd X.K) hbl h
theorem bl_cmp {p : Int → Int → Bool} : ∀ x y z, dCmp p x y = some z → ∃ c, z = .bool c := fun x y z e => by
  unfold dCmp at e
  split at e
  · cases e; exact ⟨_, rfl⟩
  · cases e
theorem bl_eq : ∀ x y z, dEq x y = some z → ∃ c, z = .bool c := fun x y z e => by
  unfold dEq at e
  split at e
  · cases e; exact ⟨_, rfl⟩
  · cases e
theorem bl_ne : ∀ x y z, dNe x y = some z → ∃ c, z = .bool c := fun x y z e => by
  unfold dNe at e
  split at e
  · cases e; exact ⟨_, rfl⟩
  · cases e
theorem bl_isN : ∀ x y z, dIsN x y = some z → ∃ c, z = .bool c := fun x y z e => by
  unfold dIsN at e
  split at e
  · cases e; exact ⟨_, rfl⟩
  · cases e
theorem bl_notN : ∀ x y z, dNotN x y = some z → ∃ c, z = .bool c := fun x y z e => by
  unfold dNotN at e
  split at e
  · cases e; exact ⟨_, rfl⟩
  · cases e
theorem bl_in : ∀ x y z, dIn x y = some z → ∃ c, z = .bool c := fun x y z e => by
  unfold dIn at e
  split at e
  · split at e
    · cases e; exact ⟨_, rfl⟩
    · cases e
  · split at e
    · cases e; exact ⟨_, rfl⟩
    · cases e
  · cases e; exact ⟨_, rfl⟩
  · cases e
theorem bl_notIn : ∀ x y z, dNotIn x y = some z → ∃ c, z = .bool c := fun x y z e => by
  unfold dNotIn at e
  split at e
  · split at e
    · cases e; exact ⟨_, rfl⟩
    · cases e
  · split at e
    · cases e; exact ⟨_, rfl⟩
    · cases e
  · cases e; exact ⟨_, rfl⟩
  · cases e
theorem se_eq (ha : SE G N sc fn k a f) (hb : SE G N sc fn k b g) : SE G N sc fn k (.Compare a [.Eq] [b] pos) (eBin dEq f g) := se_cmp (r := rEqP) (fun _ hu => op_eqP hu) rd_eq ha hb (nomark _)
theorem st_eq (ha : SE G N sc fn k a f) (hb : SE G N sc fn k b g) : ST G N sc fn k (.Compare a [.Eq] [b] pos) (eBin dEq f g) := st_cmp (r := rEqP) (fun _ hu => op_eqP hu) rd_eq bl_eq ha hb (nomark _)
theorem se_ne (ha : SE G N sc fn k a f) (hb : SE G N sc fn k b g) : SE G N sc fn k (.Compare a [.NotEq] [b] pos) (eBin dNe f g) := se_cmp (r := rNeP) (fun _ hu => op_neP hu) rd_ne ha hb (nomark _)
theorem st_ne (ha : SE G N sc fn k a f) (hb : SE G N sc fn k b g) : ST G N sc fn k (.Compare a [.NotEq] [b] pos) (eBin dNe f g) := st_cmp (r := rNeP) (fun _ hu => op_neP hu) rd_ne bl_ne ha hb (nomark _)
theorem se_lt (ha : SE G N sc fn k a f) (hb : SE G N sc fn k b g) : SE G N sc fn k (.Compare a [.Lt] [b] pos) (eBin dLt f g) := se_cmp (r := fun _ => _) (fun _ hu => op_lt) (fun _ => rd_cmp) ha hb (nomark _)
theorem st_lt (ha : SE G N sc fn k a f) (hb : SE G N sc fn k b g) : ST G N sc fn k (.Compare a [.Lt] [b] pos) (eBin dLt f g) := st_cmp (r := fun _ => _) (fun _ hu => op_lt) (fun _ => rd_cmp) bl_cmp ha hb (nomark _)
theorem se_le (ha : SE G N sc fn k a f) (hb : SE G N sc fn k b g) : SE G N sc fn k (.Compare a [.LtE] [b] pos) (eBin dLe f g) := se_cmp (r := fun _ => _) (fun _ hu => op_le) (fun _ => rd_cmp) ha hb (nomark _)
theorem st_le (ha : SE G N sc fn k a f) (hb : SE G N sc fn k b g) : ST G N sc fn k (.Compare a [.LtE] [b] pos) (eBin dLe f g) := st_cmp (r := fun _ => _) (fun _ hu => op_le) (fun _ => rd_cmp) bl_cmp ha hb (nomark _)
theorem se_gt (ha : SE G N sc fn k a f) (hb : SE G N sc fn k b g) : SE G N sc fn k (.Compare a [.Gt] [b] pos) (eBin dGt f g) := se_cmp (r := fun _ => _) (fun _ hu => op_gt) (fun _ => rd_cmp) ha hb (nomark _)
theorem st_gt (ha : SE G N sc fn k a f) (hb : SE G N sc fn k b g) : ST G N sc fn k (.Compare a [.Gt] [b] pos) (eBin dGt f g) := st_cmp (r := fun _ => _) (fun _ hu => op_gt) (fun _ => rd_cmp) bl_cmp ha hb (nomark _)
theorem se_ge (ha : SE G N sc fn k a f) (hb : SE G N sc fn k b g) : SE G N sc fn k (.Compare a [.GtE] [b] pos) (eBin dGe f g) := se_cmp (r := fun _ => _) (fun _ hu => op_ge) (fun _ => rd_cmp) ha hb (nomark _)
theorem st_ge (ha : SE G N sc fn k a f) (hb : SE G N sc fn k b g) : ST G N sc fn k (.Compare a [.GtE] [b] pos) (eBin dGe f g) := st_cmp (r := fun _ => _) (fun _ hu => op_ge) (fun _ => rd_cmp) bl_cmp ha hb (nomark _)
theorem se_isN (ha : SE G N sc fn k a f) (hb : SE G N sc fn k b g) : SE G N sc fn k (.Compare a [.Is] [b] pos) (eBin dIsN f g) := se_cmp (r := fun _ => _) (fun _ hu => op_isN) rd_isN ha hb (nomark _)
theorem st_isN (ha : SE G N sc fn k a f) (hb : SE G N sc fn k b g) : ST G N sc fn k (.Compare a [.Is] [b] pos) (eBin dIsN f g) := st_cmp (r := fun _ => _) (fun _ hu => op_isN) rd_isN bl_isN ha hb (nomark _)
theorem se_notN (ha : SE G N sc fn k a f) (hb : SE G N sc fn k b g) : SE G N sc fn k (.Compare a [.IsNot] [b] pos) (eBin dNotN f g) := se_cmp (r := fun _ => _) (fun _ hu => op_notN) rd_notN ha hb (nomark _)
theorem st_notN (ha : SE G N sc fn k a f) (hb : SE G N sc fn k b g) : ST G N sc fn k (.Compare a [.IsNot] [b] pos) (eBin dNotN f g) := st_cmp (r := fun _ => _) (fun _ hu => op_notN) rd_notN bl_notN ha hb (nomark _)
theorem se_in (ha : SE G N sc fn k a f) (hb : SE G N sc fn k b g) (hm : behindInMarks .In b = false := by rfl) : SE G N sc fn k (.Compare a [.In] [b] pos) (eBin dIn f g) := se_cmp (r := rInA) (fun _ hu => (op_inD hu).or op_in_str) rd_in ha hb hm
theorem st_in (ha : SE G N sc fn k a f) (hb : SE G N sc fn k b g) (hm : behindInMarks .In b = false := by rfl) : ST G N sc fn k (.Compare a [.In] [b] pos) (eBin dIn f g) := st_cmp (r := rInA) (fun _ hu => (op_inD hu).or op_in_str) rd_in bl_in ha hb hm
theorem se_notIn (ha : SE G N sc fn k a f) (hb : SE G N sc fn k b g) (hm : behindInMarks .NotIn b = false := by rfl) : SE G N sc fn k (.Compare a [.NotIn] [b] pos) (eBin dNotIn f g) := se_cmp (r := rNotInA) (fun _ hu => (op_notInD hu).or op_notin_str) rd_notIn ha hb hm
theorem st_notIn (ha : SE G N sc fn k a f) (hb : SE G N sc fn k b g) (hm : behindInMarks .NotIn b = false := by rfl) : ST G N sc fn k (.Compare a [.NotIn] [b] pos) (eBin dNotIn f g) := st_cmp (r := rNotInA) (fun _ hu => (op_notInD hu).or op_notin_str) rd_notIn bl_notIn ha hb hm
/-! ### a <= b <= c (ints) -/
def eChain (f g h : EF) : EF := fun _ ρ => bnd (f true ρ) fun x => bnd (g true ρ) fun y => match x, y with
  | .int i, .int j => if i ≤ j then bnd (h true ρ) fun z => (match z with | .int l => some (.val (.bool (decide (j ≤ l)))) | _ => none) else some (.val (.bool false))
  | _, _ => none
theorem tChain_of {K : PySem.W.Frag} {mg : Str → Option Value} {W : WX} {b : Bool} {f g h : EF} {σ : L2.St} {H : Hp} {Q : VK} (hh : tE K mg W b (eChain f g h) σ H Q) :
    tChain (rI0 fun i j => .bl (decide (i ≤ j))) (rI0 fun i j => .bl (decide (i ≤ j))) (tE K mg W true f) (tE K mg W true g) (tE K mg W true h) σ H Q := by
  obtain ⟨ρ, ow, rs, he, gd, post⟩ := hh
  refine tE.go gd he (fun n pl e => by subst e; exact post) fun d hd1 v H1 s1 r1 => ?_
  refine tE.go (gd.same s1) hd1 (fun n pl e => by subst e; exact post.same s1) fun d2 hd2 v2 H2 s2 r2 => ?_
  split at hd2
  · rename_i i j
    obtain rfl := r1.int
    obtain rfl := r2.int
    refine ⟨i, j, rfl, rfl, decide (i ≤ j), rfl, ?_⟩
    by_cases hij : i ≤ j
    · rw [if_pos (decide_eq_true hij)]
      rw [if_pos hij] at hd2
      refine tE.go (gd.same (s1.trans s2)) hd2 (fun n pl e => by subst e; exact post.same (s1.trans s2)) fun d3 hd3 v3 H3 s3 r3 => ?_
      split at hd3
      · cases hd3
        obtain rfl := r3.int
        exact ⟨j, _, rfl, rfl, post _ H3 ((s1.trans s2).trans s3) (.inl (.bl _))⟩
      · cases hd3
    · rw [if_neg (by rw [decide_eq_false hij]; decide)]
      rw [if_neg hij] at hd2
      cases hd2
      exact post _ H2 (s1.trans s2) (.inl (.bl _))
  · cases hd2
theorem chain_bl {f g h : EF} {b : Bool} {ρ : En} {d : Dt} (he : eChain f g h b ρ = some (.val d)) : ∃ c, d = .bool c := by
  unfold eChain at he
  cases h1 : f true ρ with
  | none => rw [h1] at he; cases he
  | some r1 =>
    cases r1 with
    | exc n pl => rw [h1] at he; cases he
    | val x =>
      rw [h1] at he
      cases h2 : g true ρ with
      | none => rw [h2] at he; cases he
      | some r2 =>
        cases r2 with
        | exc n pl => rw [h2] at he; cases he
        | val y =>
          rw [h2] at he
          simp only [bnd] at he
          split at he
          · split at he
            · cases h3 : h true ρ with
              | none => rw [h3] at he; cases he
              | some r3 =>
                cases r3 with
                | exc n pl => rw [h3] at he; cases he
                | val z =>
                  rw [h3] at he
                  simp only at he
                  split at he
                  · cases he; exact ⟨_, rfl⟩
                  · cases he
            · cases he; exact ⟨_, rfl⟩
          · cases he
theorem se_chain (ha : SE G N sc fn k a f) (hb : SE G N sc fn k b g) (hc : SE G N sc fn k c h) (hm : lastMarks [.LtE, .LtE] [b, c] = false := by with_unfolding_all rfl) : SE G N sc fn k (.Compare a [.LtE, .LtE] [b, c] pos) (eChain f g h) := fun X C W tk b' =>
  PE.imp (pe_chain op_le op_le (ha X C W tk true) (hb X C W tk true) (hc X C W tk true) hm) fun σ H Q h => tChain_of h
theorem st_chain (ha : SE G N sc fn k a f) (hb : SE G N sc fn k b g) (hc : SE G N sc fn k c h) (hm : lastMarks [.LtE, .LtE] [b, c] = false := by with_unfolding_all rfl) : ST G N sc fn k (.Compare a [.LtE, .LtE] [b, c] pos) (eChain f g h) := fun X C W tk =>
  PT.imp (pt_chain op_le op_le (ha X C W tk true) (hb X C W tk true) (hc X C W tk true) hm) fun σ H Q hh => by
    obtain ⟨ρ, ow, rs, he, gd, post⟩ := hh
    refine tChain_of (b := true) ⟨ρ, ow, rs, he, gd, ?_⟩
    cases rs with
    | exc n pl => exact post
    | val d =>
      obtain ⟨c, hc, q⟩ := post
      obtain ⟨c', rfl⟩ := chain_bl he
      cases hc
      exact fun v H' s' r' => ⟨_, r'.bool, q H' s'⟩
/-! ### and, or, not, if-else -/
def eAnd (f g : EF) : EF := fun b ρ => bnd (f true ρ) fun x => match x with
  | .bool true => g b ρ
  | .bool false => some (.val (.bool false))
  | _ => none
def eOr (f g : EF) : EF := fun b ρ => bnd (f true ρ) fun x => match x with
  | .bool true => some (.val (.bool true))
  | .bool false => g b ρ
  | _ => none
def eAndT (f g : EF) : EF := fun b ρ => bnd (f true ρ) fun x => match tru x with
  | some true => g b ρ
  | some false => some (.val (.bool false))
  | none => none
def eOrT (f g : EF) : EF := fun b ρ => bnd (f true ρ) fun x => match tru x with
  | some true => some (.val (.bool true))
  | some false => g b ρ
  | none => none
def eNot (f : EF) : EF := fun _ ρ => bnd (f true ρ) fun x => (tru x).map fun c => .val (.bool (!c))
def eIf (c f g : EF) : EF := fun b ρ => bnd (c true ρ) fun x => match tru x with
  | some true => f b ρ
  | some false => g b ρ
  | none => none
variable {rest : List Expr}
theorem se_one {op : BoolOp} (ha : SE G N sc fn k a f) : SE G N sc fn k (.BoolOp op [a] pos) f := fun X C W tk b' => pe_one (ha X C W tk b')
theorem se_and (ha : SE G N sc fn k a f) (hb : SE G N sc fn k (.BoolOp .And (b :: rest) pos) g) : SE G N sc fn k (.BoolOp .And (a :: b :: rest) pos) (eAnd f g) := fun X C W tk b' =>
  PE.imp (pe_and (ha X C W tk true) (hb X C W tk b')) fun σ H Q h => by
    obtain ⟨ρ, ow, rs, he, gd, post⟩ := h
    refine tE.go gd he (fun n pl e => by subst e; exact post) fun d hd1 v H1 s1 r1 => ?_
    split at hd1
    · obtain rfl := r1.bool
      refine ⟨true, rfl, ?_⟩
      rw [if_pos rfl]
      refine ⟨ρ, ow, rs, hd1, gd.same s1, ?_⟩
      cases rs with
      | val d => exact fun v' H' s' r' => post v' H' (s1.trans s') r'
      | exc n pl => exact post.same s1
    · obtain rfl := r1.bool
      cases hd1
      refine ⟨false, rfl, ?_⟩
      rw [if_neg Bool.false_ne_true]
      exact post _ H1 s1 (.inl (.bl _))
    · cases hd1
theorem se_or (ha : SE G N sc fn k a f) (hb : SE G N sc fn k (.BoolOp .Or (b :: rest) pos) g) : SE G N sc fn k (.BoolOp .Or (a :: b :: rest) pos) (eOr f g) := fun X C W tk b' =>
  PE.imp (pe_or (ha X C W tk true) (hb X C W tk b')) fun σ H Q h => by
    obtain ⟨ρ, ow, rs, he, gd, post⟩ := h
    refine tE.go gd he (fun n pl e => by subst e; exact post) fun d hd1 v H1 s1 r1 => ?_
    split at hd1
    · obtain rfl := r1.bool
      cases hd1
      refine ⟨true, rfl, ?_⟩
      rw [if_pos rfl]
      exact post _ H1 s1 (.inl (.bl _))
    · obtain rfl := r1.bool
      refine ⟨false, rfl, ?_⟩
      rw [if_neg Bool.false_ne_true]
      refine ⟨ρ, ow, rs, hd1, gd.same s1, ?_⟩
      cases rs with
      | val d => exact fun v' H' s' r' => post v' H' (s1.trans s') r'
      | exc n pl => exact post.same s1
    · cases hd1
theorem se_not (ha : SE G N sc fn k a f) : SE G N sc fn k (.UnaryOp .Not a pos) (eNot f) := fun X C W tk b' =>
  PE.imp (pe_notT (ha X C W tk true)) fun σ H Q h => by
    obtain ⟨ρ, ow, rs, he, gd, post⟩ := h
    refine tE.go gd he (fun n pl e => by subst e; exact post) fun d hd1 v H1 s1 r1 => ?_
    cases hc : tru d with
    | none => rw [hc] at hd1; cases hd1
    | some c =>
      rw [hc] at hd1
      cases hd1
      exact ⟨c, r1.tru hc, post _ H1 s1 (.inl (.bl _))⟩
theorem se_if (hc : ST G N sc fn k c h) (ha : SE G N sc fn k a f) (hb : SE G N sc fn k b g) : SE G N sc fn k (.IfExp c a b pos) (eIf h f g) := fun X C W tk b' =>
  PE.imp (pe_ifExp (hc X C W tk) (ha X C W tk b') (hb X C W tk b')) fun σ H Q h => by
    obtain ⟨ρ, ow, rs, he, gd, post⟩ := h
    refine tT.go gd he (fun n pl e => by subst e; exact post) fun d hd1 => ?_
    split at hd1
    · rename_i hc
      refine ⟨true, hc, fun H1 s1 => ?_⟩
      rw [if_pos rfl]
      refine ⟨ρ, ow, rs, hd1, gd.same s1, ?_⟩
      cases rs with
      | val d => exact fun v' H' s' r' => post v' H' (s1.trans s') r'
      | exc n pl => exact post.same s1
    · rename_i hc
      refine ⟨false, hc, fun H1 s1 => ?_⟩
      rw [if_neg Bool.false_ne_true]
      refine ⟨ρ, ow, rs, hd1, gd.same s1, ?_⟩
      cases rs with
      | val d => exact fun v' H' s' r' => post v' H' (s1.trans s') r'
      | exc n pl => exact post.same s1
    · cases hd1
/-! as tests -/
def SW (G : Gc) (N : List Str) (sc : Scope) (fn : Str → Bool) (k : Nat) (e : Expr) (f : EF) : Prop :=
  ∀ X, Ctx G N sc fn k X → ∀ W, Takes X W → PW X e (tT X.K X.mg W f)
theorem PW.imp {X : Cx} {e : Expr} {t t' : TT} (h : PW X e t) (i : ∀ σ H Q, t' σ H Q → t σ H Q) : PW X e t' := ⟨fun wh pins s σ H Q I q => h.run wh pins s σ H Q I (i σ H Q q)⟩
theorem st_w {e : Expr} (h : SW G N sc fn k e f) : ST G N sc fn k e f := fun X C W tk => (h X C W tk).pt
theorem sw_and1 (ha : ST G N sc fn k a f) : SW G N sc fn k (.BoolOp .And [a] pos) f := fun X C W tk => pw_and1 (ha X C W tk)
theorem sw_or1 (ha : ST G N sc fn k a f) : SW G N sc fn k (.BoolOp .Or [a] pos) f := fun X C W tk => pw_or1 (ha X C W tk)
theorem sw_and (ha : ST G N sc fn k a f) (hb : SW G N sc fn k (.BoolOp .And (b :: rest) pos) g) : SW G N sc fn k (.BoolOp .And (a :: b :: rest) pos) (eAndT f g) := fun X C W tk =>
  PW.imp (pw_and (ha X C W tk) (hb X C W tk)) fun σ H Q h => by
    obtain ⟨ρ, ow, rs, he, gd, post⟩ := h
    refine tT.go gd he (fun n pl e => by subst e; exact post) fun d hd1 => ?_
    split at hd1
    · rename_i hc
      refine ⟨true, hc, fun H1 s1 => ?_⟩
      rw [if_pos rfl]
      refine ⟨ρ, ow, rs, hd1, gd.same s1, ?_⟩
      cases rs with
      | val d => obtain ⟨c, hc, q⟩ := post; exact ⟨c, hc, fun H' s' => q H' (s1.trans s')⟩
      | exc n pl => exact post.same s1
    · rename_i hc
      cases hd1
      obtain ⟨c, hc', q⟩ := post
      cases hc'
      exact ⟨false, hc, fun H1 s1 => by rw [if_neg Bool.false_ne_true]; exact q H1 s1⟩
    · cases hd1
theorem sw_or (ha : ST G N sc fn k a f) (hb : SW G N sc fn k (.BoolOp .Or (b :: rest) pos) g) : SW G N sc fn k (.BoolOp .Or (a :: b :: rest) pos) (eOrT f g) := fun X C W tk =>
  PW.imp (pw_or (ha X C W tk) (hb X C W tk)) fun σ H Q h => by
    obtain ⟨ρ, ow, rs, he, gd, post⟩ := h
    refine tT.go gd he (fun n pl e => by subst e; exact post) fun d hd1 => ?_
    split at hd1
    · rename_i hc
      cases hd1
      obtain ⟨c, hc', q⟩ := post
      cases hc'
      exact ⟨true, hc, fun H1 s1 => by rw [if_pos rfl]; exact q H1 s1⟩
    · rename_i hc
      refine ⟨false, hc, fun H1 s1 => ?_⟩
      rw [if_neg Bool.false_ne_true]
      refine ⟨ρ, ow, rs, hd1, gd.same s1, ?_⟩
      cases rs with
      | val d => obtain ⟨c, hc, q⟩ := post; exact ⟨c, hc, fun H' s' => q H' (s1.trans s')⟩
      | exc n pl => exact post.same s1
    · cases hd1
theorem st_not (ha : ST G N sc fn k a f) : ST G N sc fn k (.UnaryOp .Not a pos) (eNot f) := fun X C W tk =>
  PT.imp (pt_not (ha X C W tk)) fun σ H Q h => by
    obtain ⟨ρ, ow, rs, he, gd, post⟩ := h
    refine tT.go gd he (fun n pl e => by subst e; exact post) fun d hd1 => ?_
    cases hc : tru d with
    | none => rw [hc] at hd1; cases hd1
    | some c =>
      rw [hc] at hd1
      cases hd1
      obtain ⟨c', hc', q⟩ := post
      cases hc'
      exact ⟨c, rfl, fun H1 s1 => q H1 s1⟩
end
end PT

namespace PT
open PySem PySem.Spec PyProof.Rows L2

/-! ## argument lists, displays -/
inductive Rss where
  | vals (ds : List Dt)
  | exc (n : Str) (pl : Option Dt)
abbrev AF := En → Option Rss
def bndA (x : Option Rss) (k : List Dt → Option Rs) : Option Rs :=
  match x with
  | some (.vals d) => k d
  | some (.exc n pl) => some (.exc n pl)
  | none => none
def aNil : AF := fun _ => some (.vals [])
def aCons (f : EF) (g : AF) : AF := fun ρ => match f false ρ with
  | some (.val d) => (match g ρ with
    | some (.vals ds) => some (.vals (d :: ds))
    | y => y)
  | some (.exc n pl) => some (.exc n pl)
  | none => none
def tA (K : PySem.W.Frag) (mg : Str → Option Value) (W : WX) (f : AF) : TA := fun σ H Q =>
  ∃ ρ ow r, f ρ = some r ∧ Good K ow ρ σ H ∧ match r with
    | .vals ds => ∀ vs H', Same H H' → RpAll K (OA ow) H' vs ds → Q vs H'
    | .exc n pl => ExP K mg W σ H n pl
def SA (G : Gc) (N : List Str) (sc : Scope) (fn : Str → Bool) (k : Nat) (es : List Expr) (f : AF) : Prop :=
  ∀ X, Ctx G N sc fn k X → ∀ W, Takes X W → PA X es (tA X.K X.mg W f)
theorem tA.go {K : PySem.W.Frag} {mg : Str → Option Value} {W : WX} {f : AF} {ρ : En} {ow : Ow} {σ : L2.St} {H : Hp} {Q : List V → Hp → Prop} {k : List Dt → Option Rs} {r : Rs} (g : Good K ow ρ σ H)
    (e : bndA (f ρ) k = some r)
    (hx : ∀ n pl, r = .exc n pl → ExP K mg W σ H n pl)
    (hv : ∀ ds, k ds = some r → ∀ vs H', Same H H' → RpAll K (OA ow) H' vs ds → Q vs H') : tA K mg W f σ H Q := by
  cases h : f ρ with
  | none => rw [h] at e; cases e
  | some q =>
    rw [h] at e
    cases q with
    | vals d => exact ⟨ρ, ow, .vals d, h, g, fun v H' s q => hv d e v H' s q⟩
    | exc n pl => exact ⟨ρ, ow, .exc n pl, h, g, hx n pl (Option.some.inj e).symm⟩
abbrev GL (sc : Scope) (x : Str) : Prop := sc.names.lookup x = some .globalImplicit
abbrev NS (e : Expr) : Prop := ∀ (es : List Expr) (env : PySem.Env), starEach (e :: es) env = (false, eval e env) :: starEach es env
theorem noStar : ∀ (es : List Expr) (env : PySem.Env) (pos : Pos), (∀ e ∈ es, NS e) → (backTo pos (starEach es env)).any (·.1) = false
  | [], env, pos, _ => rfl
  | e :: es, env, pos, h => by
    rw [h e List.mem_cons_self es env]
    have ih := noStar es env pos fun x hx => h x (List.mem_cons_of_mem _ hx)
    simpa [backTo] using ih
structure SAs (G : Gc) (N : List Str) (sc : Scope) (fn : Str → Bool) (k : Nat) (es : List Expr) (f : AF) : Prop where
  pa : SA G N sc fn k es f
  ns : ∀ e ∈ es, NS e
section
variable {G : Gc} {N : List Str} {sc : Scope} {fn : Str → Bool} {k : Nat} {pos p p2 : Pos} {a b c : Expr} {f g h : EF} {es : List Expr} {ar : AF}
theorem sa_nil : SAs G N sc fn k [] aNil := ⟨fun X C W tk => PA.imp pa_nil fun σ H Q h => by
  obtain ⟨ρ, ow, rs, he, gd, post⟩ := h
  cases he
  exact post [] H (Same.refl H) .nil, fun _ z => nomatch z⟩
theorem sa_cons (ha : SE G N sc fn k a f) (hr : SAs G N sc fn k es ar) (ns : NS a := by intro _ _; rfl) : SAs G N sc fn k (a :: es) (aCons f ar) := ⟨fun X C W tk => PA.imp (pa_cons (ha X C W tk false) (hr.pa X C W tk) (ns es X.env)) fun σ H Q h => by
  obtain ⟨ρ, ow, rs, he, gd, post⟩ := h
  unfold aCons at he
  cases h1 : f false ρ with
  | none => rw [h1] at he; cases he
  | some r1 =>
    cases r1 with
    | exc n pl => rw [h1] at he; cases he; exact ⟨ρ, ow, _, h1, gd, post⟩
    | val d =>
      rw [h1] at he
      refine ⟨ρ, ow, _, h1, gd, fun v H1 s1 q1 => ?_⟩
      cases h2 : ar ρ with
      | none => rw [h2] at he; cases he
      | some r2 =>
        rw [h2] at he
        cases r2 with
        | exc n pl => cases he; exact ⟨ρ, ow, _, h2, gd.same s1, ExP.same post s1⟩
        | vals ds =>
          cases he
          exact ⟨ρ, ow, _, h2, gd.same s1, fun vs H2 s2 q2 => post _ H2 (s1.trans s2) (.cons (Rp.same s2 q1.rp) q2)⟩,
  fun e he => (List.mem_cons.mp he).elim (fun z => by rw [z]; exact ns) (hr.ns e)⟩
/-- one borrowed argument -/
def a1 (f : EF) : AF := fun ρ => match f true ρ with
  | some (.val d) => some (.vals [d])
  | some (.exc n pl) => some (.exc n pl)
  | none => none
def eTup (g : AF) : EF := fun _ ρ => bndA (g ρ) fun ds => if ds.length ≤ lim then some (.val (.tuple ds)) else none
def eLst (g : AF) : EF := fun _ ρ => bndA (g ρ) fun ds => if ds.length ≤ lim then some (.val (.list ds)) else none
theorem se_tup {x1 : Nat} (h : SAs G N sc fn k es ar) : SE G N sc fn k (.Tuple es x1 pos) (eTup ar) := fun X C W tk b' => PE.imp (pe_tup (h.pa X C W tk)) fun σ H Q h => by
  obtain ⟨ρ, ow, rs, he, gd, post⟩ := h
  refine tA.go gd he (fun n pl e => by subst e; exact post) fun ds hd vs H1 s1 r1 => ?_
  split at hd
  · rename_i hz
    cases hd
    exact ⟨by rw [r1.length]; exact lim_le hz, fun p hp => post _ _ (s1.trans (Same.upd hp)) (.inl (.tup upd_same (RpAll.same (Same.upd hp) r1)))⟩
  · cases hd
theorem se_lst (h : SAs G N sc fn k es ar) : SE G N sc fn k (.List es pos) (eLst ar) := fun X C W tk b' => PE.imp (pe_lst (h.pa X C W tk)) fun σ H Q h => by
  obtain ⟨ρ, ow, rs, he, gd, post⟩ := h
  refine tA.go gd he (fun n pl e => by subst e; exact post) fun ds hd vs H1 s1 r1 => ?_
  split at hd
  · rename_i hz
    cases hd
    exact ⟨by rw [r1.length]; exact lim_le hz, fun p hp => post _ _ (s1.trans (Same.upd hp)) (.inl (.lst upd_same ((gd.ok.same s1).new hp) (RpAll.same (Same.upd hp) r1)))⟩
  · cases hd

/-! ## subscripts and slices -/
def dIx : Dt → Dt → Option Dt
  | .list xs, .int i => atI xs i
  | .tuple xs, .int i => atI xs i
  | .dict kv, .int i => (atI kv i).map (·.1)
  | _, _ => none
theorem atI_some {α : Type} {xs : List α} {i : Int} {d : α} (h : atI xs i = some d) : ∃ j, ixN xs.length i = some j ∧ xs[j]? = some d := by
  unfold atI at h
  cases e : ixN xs.length i with
  | none => rw [e] at h; cases h
  | some j => rw [e] at h; exact ⟨j, rfl, h⟩
theorem atI_of {α : Type} {xs : List α} {i : Int} {j : Nat} {d : α} (h : ixN xs.length i = some j) (h2 : xs[j]? = some d) : atI xs i = some d := by
  unfold atI
  rw [h]
  exact h2
def rIxA (K : PySem.W.Frag) : R2 := fun x y H Q => rIxL K x y H Q ∨ rIxT K x y H Q
theorem rd_ix (K : PySem.W.Frag) : RD K (rIxA K) dIx := by
  intro x y H Q ow dx dy dz ok rx ry e post
  unfold dIx at e
  split at e
  · obtain ⟨a, vs, rfl, h1, r1⟩ := rx.list
    obtain rfl := ry.int
    obtain ⟨j, hj, hd⟩ := atI_some e
    obtain ⟨v, hv, rv⟩ := r1.get hd
    exact .inl ⟨a, vs, _, v, rfl, rfl, SqL.of h1, atI_of (by rw [r1.length]; exact hj) hv, post v H (Same.refl H) rv⟩
  · obtain ⟨a, vs, rfl, h1, r1⟩ := rx.tuple
    obtain rfl := ry.int
    obtain ⟨j, hj, hd⟩ := atI_some e
    obtain ⟨v, hv, rv⟩ := r1.get hd
    exact .inr ⟨a, vs, _, v, rfl, rfl, SqT.of h1, atI_of (by rw [r1.length]; exact hj) hv, post v H (Same.refl H) rv⟩
  · obtain ⟨a, ns, rfl, rfl, h1⟩ := rx.script
    obtain rfl := ry.int
    cases e1 : atI (ns.map fun i => ((.int i : PyData), (.none : PyData))) _ with
    | none => rw [e1] at e; cases e
    | some q =>
      rw [e1] at e
      cases e
      obtain ⟨j, hj, hd⟩ := atI_some e1
      rw [List.getElem?_map] at hd
      rw [List.length_map] at hj
      cases e2 : ns[j]? with
      | none => rw [e2] at hd; cases hd
      | some n =>
        rw [e2] at hd
        cases hd
        exact .inl ⟨a, ns.map V.int, _, .int n, rfl, rfl, h1.sq, atI_of (by rw [List.length_map]; exact hj) (by rw [List.getElem?_map, e2]; rfl), post _ H (Same.refl H) (.int n)⟩
  · cases e
theorem se_ix (ha : SE G N sc fn k a f) (hb : SE G N sc fn k b g) (hs : PlainIx b := by intro _ _; rfl) : SE G N sc fn k (.Subscript a b pos) (eBin dIx f g) := fun X C W tk b' =>
  PE.imp (pe_ix (ix_list.or ix_tup) (ha X C W tk true) (hb X C W tk true) hs) fun σ H Q h => tOp_of (rd_ix X.K) h
/-- a part of a slice -/
abbrev OF := En → Option (Option Int × Option Rs)
def oNo : En → Option (Option Int) := fun _ => some none
def oSo (f : EF) : En → Option (Option Int) := fun ρ => match f true ρ with
  | some (.val (.int i)) => some (some i)
  | _ => none
def tO (K : PySem.W.Frag) (f : En → Option (Option Int)) : TO := fun σ H Q => ∃ ρ ow o, f ρ = some o ∧ Good K ow ρ σ H ∧ ∀ H', Same H H' → Q o H'
def SO (G : Gc) (N : List Str) (sc : Scope) (fn : Str → Bool) (k : Nat) (e : Option Expr) (f : En → Option (Option Int)) : Prop :=
  ∀ X, Ctx G N sc fn k X → ∀ W, Takes X W → PO X e (tO X.K f)
theorem PO.imp {X : Cx} {e : Option Expr} {t t' : TO} (h : PO X e t) (i : ∀ σ H Q, t' σ H Q → t σ H Q) : PO X e t' := ⟨fun pins s σ H Q I q => h.run pins s σ H Q I (i σ H Q q)⟩
theorem so_none : SO G N sc fn k none oNo := fun X C W tk => PO.imp po_none fun σ H Q h => by
  obtain ⟨ρ, ow, o, he, gd, post⟩ := h
  cases he
  exact post H (Same.refl H)
theorem so_some (ha : SE G N sc fn k a f) : SO G N sc fn k (some a) (oSo f) := fun X C W tk => PO.imp (po_some (ha X C W tk true)) fun σ H Q h => by
  obtain ⟨ρ, ow, o, he, gd, post⟩ := h
  unfold oSo at he
  split at he
  · rename_i i hi
    cases he
    exact ⟨ρ, ow, _, hi, gd, fun v H' s' r' => ⟨i, r'.int, post H' s'⟩⟩
  · cases he
def cut {α : Type} (xs : List α) (lo hi : Option Int) : List α := (xs.drop (HT.sIx xs.length 0 lo)).take (HT.sIx xs.length xs.length hi - HT.sIx xs.length 0 lo)
def dSl : Dt → Option Int → Option Int → Option Dt
  | .list xs, lo, hi => some (.list (cut xs lo hi))
  | .tuple xs, lo, hi => some (.tuple (cut xs lo hi))
  | .str z, lo, hi => if z.length ≤ lim then some (.str (cutS z lo hi)) else none
  | _, _, _ => none
def eSl (f : EF) (lo hi : En → Option (Option Int)) : EF := fun _ ρ => bnd (f true ρ) fun x => match lo ρ, hi ρ with
  | some l, some u => (dSl x l u).map .val
  | _, _ => none
def rSlD (K : PySem.W.Frag) : V → Option Int → Option Int → Hp → VK → Prop := fun x lo hi H Q => rSlL K x lo hi H Q ∨ (rSlA K x lo hi H Q ∨ rSlS x lo hi H Q)
theorem RpAll.cut {K : PySem.W.Frag} {O : Addr → Prop} {H : Hp} {vs : List V} {ds : List Dt} (r : RpAll K O H vs ds) (lo hi : Option Int) : RpAll K O H (cutV vs lo hi) (PT.cut ds lo hi) := by
  unfold cutV PT.cut
  rw [r.length]
  exact (r.drop _).take _
theorem cut_all {α : Type} {xs : List α} {lo hi : Option Int} (h : HT.sIx xs.length 0 lo = 0 ∧ HT.sIx xs.length xs.length hi = xs.length) : cut xs lo hi = xs := by
  unfold cut
  rw [h.1, h.2]
  simp
theorem se_sl {lo hi : Option Expr} {ol oh : En → Option (Option Int)} (ha : SE G N sc fn k a f) (hl : SO G N sc fn k lo ol) (hh : SO G N sc fn k hi oh) : SE G N sc fn k (.Subscript a (.Slice lo hi none p2) pos) (eSl f ol oh) := fun X C W tk b' =>
  PE.imp (pe_slice (sl_list.or (sl_tupA.or sl_str)) (ha X C W tk true) (hl X C W tk) (hh X C W tk)) fun σ H Q h => by
    obtain ⟨ρ, ow, rs, he, gd, post⟩ := h
    refine tE.go gd he (fun n pl e => by subst e; exact post) fun d hd1 v H1 s1 r1 => ?_
    split at hd1
    · rename_i l u hl hu
      refine ⟨ρ, ow, l, hl, gd.same s1, fun H2 s2 => ⟨ρ, ow, u, hu, gd.same (s1.trans s2), fun H3 s3 => ?_⟩⟩
      have r3 := r1.same (s2.trans s3)
      have s13 := (s1.trans s2).trans s3
      have ok3 := gd.ok.same s13
      cases d with
      | list xs =>
        cases hd1
        obtain ⟨a, vs, rfl, h1, r⟩ := r3.list
        exact .inl ⟨a, vs, rfl, SqL.of h1, fun p hp => post _ _ (s13.trans (Same.upd hp)) (.inl (.lst upd_same (ok3.new hp) (RpAll.same (Same.upd hp) (r.cut l u))))⟩
      | tuple xs =>
        cases hd1
        obtain ⟨a, vs, rfl, h1, r⟩ := r3.tuple
        refine .inr (.inl ⟨a, vs, rfl, SqT.of h1, fun hw => ?_, fun hw p hp => post _ _ (s13.trans (Same.upd hp)) (.inl (.tup upd_same (RpAll.same (Same.upd hp) (r.cut l u))))⟩)
        rw [cut_all (by rw [← r.length]; exact hw)] at post
        exact post _ _ s13 (.inl (.tup h1 r))
      | str z =>
        simp only [dSl] at hd1
        split at hd1
        · rename_i hz
          cases hd1
          obtain rfl := r3.str
          exact .inr (.inr ⟨z, rfl, lim_le hz, post _ _ s13 (.inl (.str _))⟩)
        · cases hd1
      | none => cases hd1
      | bool _ => cases hd1
      | int _ => cases hd1
      | dict _ => cases hd1
    · cases hd1

/-! ## calls of built-ins -/
structure Bi (G : Gc) : Prop where
  len : G.mg "len" = none
  range : G.mg "range" = none
  isinstance : G.mg "isinstance" = none
  int : G.mg "int" = none
  bool : G.mg "bool" = none
  tuple : G.mg "tuple" = none
  list : G.mg "list" = none
  str : G.mg "str" = none
  set : G.mg "set" = none
  sorted : G.mg "sorted" = none
  max : G.mg "max" = none
  min : G.mg "min" = none
  zip : G.mg "zip" = none
  enumerate : G.mg "enumerate" = none
  reversed : G.mg "reversed" = none
/-- a call's rule on one borrowed value -/
def CD1 (K : PySem.W.Frag) (r : List V → Hp → VK → Prop) (op : Dt → Option Dt) : Prop :=
  ∀ (x : V) (H : Hp) (Q : VK) (ow : Ow) (dx dz : Dt), OkO ow H → RpB true K ow H x dx → op dx = some dz → (∀ v H', Same H H' → Rp K (OA ow) H' v dz → Q v H') → r [x] H Q
theorem tCB_of {K : PySem.W.Frag} {mg : Str → Option Value} {W : WX} {b : Bool} {op : Dt → Option Dt} {f : EF} {r : List V → Hp → VK → Prop} {σ : L2.St} {H : Hp} {Q : VK} (hd : CD1 K r op)
    (h : tE K mg W b (eUn op f) σ H Q) : tCB r (tCons (tE K mg W true f) tNil) σ H Q := by
  obtain ⟨ρ, ow, rs, he, gd, post⟩ := h
  refine tE.go gd he (fun n pl e => by subst e; exact post) fun d hd1 v H1 s1 r1 => ?_
  cases hz : op d with
  | none => rw [hz] at hd1; cases hd1
  | some dz =>
    rw [hz] at hd1
    cases hd1
    exact hd v H1 Q ow d dz (gd.ok.same s1) r1 hz fun v' H' s' q => post v' H' (s1.trans s') (.inl q)
theorem Ctx.gl {X : Cx} (C : Ctx G N sc fn k X) {x : Str} (h : GL sc x) : Gl X x := by
  show X.env.scope.names.lookup x = _
  rw [C.hsc]; exact h
theorem se_b1 {x : Str} {id : String} {r : PySem.W.Frag → List V → Hp → VK → Prop} {op : Dt → Option Dt} (hc : ∀ X : Cx, X.calm = true → CallR X (.builtin id) (r X.K)) (hd : ∀ K, CD1 K (r K) op) (hm : G.mg x = none) (hv : bootBuiltins x = some (.builtin id)) (ha : SE G N sc fn k a f)
    (hg : GL sc x) (hn : x ≠ "__name__") (hdb : (x == ("__debug__" : Str)) = false) (ns : NS a) : SE G N sc fn k (.Call (.Name x p) [a] [] pos) (eUn op f) := fun X C W tk b' =>
  PE.imp (pe_callB (hc X C.calm) (C.gl hg) (by rw [C.hmg]; exact hm) hv (pa_cons (ha X C W tk true) pa_nil (ns [] X.env)) hn hdb (ns [] X.env) rfl) fun σ H Q h => tCB_of (hd X.K) h
theorem se_t1 {x : Str} {id : String} {r : PySem.W.Frag → List V → Hp → VK → Prop} {op : Dt → Option Dt} (hc : ∀ X : Cx, X.calm = true → CallR X (.type id) (r X.K)) (hd : ∀ K, CD1 K (r K) op) (hm : G.mg x = none) (hv : bootBuiltins x = some (.type id)) (ha : SE G N sc fn k a f)
    (hg : GL sc x) (hn : x ≠ "__name__") (hdb : (x == ("__debug__" : Str)) = false) (ns : NS a) : SE G N sc fn k (.Call (.Name x p) [a] [] pos) (eUn op f) := fun X C W tk b' =>
  PE.imp (pe_callTy (hc X C.calm) (C.gl hg) (by rw [C.hmg]; exact hm) hv (pa_cons (ha X C W tk true) pa_nil (ns [] X.env)) hn hdb (ns [] X.env) rfl) fun σ H Q h => tCB_of (hd X.K) h
def dLen : Dt → Option Dt
  | .list xs => some (.int xs.length)
  | .tuple xs => some (.int xs.length)
  | .dict kv => some (.int kv.length)
  | .str z => if z.length ≤ lim then some (.int z.length) else none
  | _ => none
theorem cd_len (K : PySem.W.Frag) : CD1 K (fun xs H Q => ∃ x n, xs = [x] ∧ LenV K x H n ∧ Q (.int n) H) dLen := by
  intro x H Q ow dx dz ok rx e post
  unfold dLen at e
  split at e
  · cases e
    obtain ⟨a, vs, rfl, h1, r⟩ := rx.list
    refine ⟨_, vs.length, rfl, .inl ⟨vs, SqL.of h1, rfl⟩, ?_⟩
    rw [r.length]
    exact post _ H (Same.refl H) (.int _)
  · cases e
    obtain ⟨a, vs, rfl, h1, r⟩ := rx.tuple
    refine ⟨_, vs.length, rfl, .inr ⟨vs, SqT.of h1, rfl⟩, ?_⟩
    rw [r.length]
    exact post _ H (Same.refl H) (.int _)
  · cases e
    obtain ⟨a, ns, rfl, rfl, h1⟩ := rx.script
    refine ⟨_, ns.length, rfl, .inl ⟨ns.map V.int, h1.sq, by rw [List.length_map]⟩, ?_⟩
    rw [List.length_map] at post
    exact post _ H (Same.refl H) (.int _)
  · split at e
    · rename_i hz
      cases e
      obtain rfl := rx.str
      exact ⟨_, _, rfl, ⟨lim_le hz, rfl⟩, post _ H (Same.refl H) (.int _)⟩
    · cases e
  · cases e
theorem se_len (B : Bi G) (ha : SE G N sc fn k a f) (hg : GL sc "len" := by rfl) (ns : NS a := by intro _ _; rfl) : SE G N sc fn k (.Call (.Name "len" p) [a] [] pos) (eUn dLen f) :=
  se_b1 (r := fun K xs H Q => ∃ x n, xs = [x] ∧ LenV K x H n ∧ Q (.int n) H) (fun X _ => call_len) cd_len B.len PySem.boot_len ha hg (by decide) (by decide) ns
def dTuple : Dt → Option Dt
  | .list xs => some (.tuple xs)
  | .tuple xs => some (.tuple xs)
  | _ => none
theorem cd_tuple (K : PySem.W.Frag) : CD1 K (fun xs H Q => ∃ p ys, xs = [.ref p] ∧ ((SqL K H p ys ∧ ∀ l, H l = none → Q (.ref l) (upd H l (.tup ys))) ∨ (SqT K H p ys ∧ Q (.ref p) H))) dTuple := by
  intro x H Q ow dx dz ok rx e post
  unfold dTuple at e
  split at e
  · cases e
    obtain ⟨a, vs, rfl, h1, r⟩ := rx.list
    exact ⟨a, vs, rfl, .inl ⟨SqL.of h1, fun l hl => post _ _ (Same.upd hl) (.tup upd_same (RpAll.same (Same.upd hl) r))⟩⟩
  · cases e
    obtain ⟨a, vs, rfl, h1, r⟩ := rx.tuple
    exact ⟨a, vs, rfl, .inr ⟨SqT.of h1, post _ H (Same.refl H) (.tup h1 r)⟩⟩
  · cases e
theorem se_tuple (B : Bi G) (ha : SE G N sc fn k a f) (hg : GL sc "tuple" := by rfl) (ns : NS a := by intro _ _; rfl) : SE G N sc fn k (.Call (.Name "tuple" p) [a] [] pos) (eUn dTuple f) :=
  se_t1 (r := fun K xs H Q => ∃ p ys, xs = [.ref p] ∧ ((SqL K H p ys ∧ ∀ l, H l = none → Q (.ref l) (upd H l (.tup ys))) ∨ (SqT K H p ys ∧ Q (.ref p) H))) (fun X _ => call_tuple_of) cd_tuple B.tuple PyProof.Rows.boot_tuple ha hg (by decide) (by decide) ns
def dList : Dt → Option Dt
  | .list xs => some (.list xs)
  | .tuple xs => some (.list xs)
  | _ => none
theorem cd_list (K : PySem.W.Frag) : CD1 K (fun xs H Q => ∃ p ys, xs = [.ref p] ∧ (SqL K H p ys ∨ SqT K H p ys) ∧ ∀ l, H l = none → Q (.ref l) (upd H l (.lst ys))) dList := by
  intro x H Q ow dx dz ok rx e post
  unfold dList at e
  split at e
  · cases e
    obtain ⟨a, vs, rfl, h1, r⟩ := rx.list
    exact ⟨a, vs, rfl, .inl (SqL.of h1), fun l hl => post _ _ (Same.upd hl) (.lst upd_same (ok.new hl) (RpAll.same (Same.upd hl) r))⟩
  · cases e
    obtain ⟨a, vs, rfl, h1, r⟩ := rx.tuple
    exact ⟨a, vs, rfl, .inr (SqT.of h1), fun l hl => post _ _ (Same.upd hl) (.lst upd_same (ok.new hl) (RpAll.same (Same.upd hl) r))⟩
  · cases e
theorem se_list (B : Bi G) (ha : SE G N sc fn k a f) (hg : GL sc "list" := by rfl) (ns : NS a := by intro _ _; rfl) : SE G N sc fn k (.Call (.Name "list" p) [a] [] pos) (eUn dList f) :=
  se_t1 (r := fun K xs H Q => ∃ p ys, xs = [.ref p] ∧ (SqL K H p ys ∨ SqT K H p ys) ∧ ∀ l, H l = none → Q (.ref l) (upd H l (.lst ys))) (fun X _ => call_list_of) cd_list B.list PyProof.Rows.boot_list ha hg (by decide) (by decide) ns
/-! tuple(range(n)), list(range(n)) -/
def rgD (n : Int) : List Dt := (List.range n.toNat).map fun i => .int (i : Nat)
def dTupRg : Dt → Option Dt
  | .int n => if n ≤ 1000000 ∧ -1000000 ≤ n then some (.tuple (rgD n)) else none
  | _ => none
def dLstRg : Dt → Option Dt
  | .int n => if n ≤ 1000000 ∧ -1000000 ≤ n then some (.list (rgD n)) else none
  | _ => none
theorem rp_map {K : PySem.W.Frag} {O : Addr → Prop} {H : Hp} {α : Type} (v : α → V) (d : α → Dt) : ∀ l : List α, (∀ x ∈ l, Rp K O H (v x) (d x)) → RpAll K O H (l.map v) (l.map d)
  | [], _ => .nil
  | x :: l, h => .cons (h x List.mem_cons_self) (rp_map v d l fun y hy => h y (List.mem_cons_of_mem _ hy))
theorem rp_rg {K : PySem.W.Frag} {O : Addr → Prop} {H : Hp} (n : Int) : RpAll K O H (rgV 0 n) (rgD n) := by
  unfold rgV rgD
  rw [Int.sub_zero]
  refine rp_map _ _ _ fun i _ => ?_
  rw [Int.zero_add]
  exact .int _
theorem se_tupRg (B : Bi G) (ha : SE G N sc fn k a f) (hg : GL sc "tuple" := by rfl) (hg2 : GL sc "range" := by rfl) (ns : NS a := by intro _ _; rfl) : SE G N sc fn k (.Call (.Name "tuple" p) [.Call (.Name "range" p2) [a] [] pos] [] pos) (eUn dTupRg f) := fun X C W tk b' =>
  PE.imp (pe_tupRg C.calm (C.gl hg) (by rw [C.hmg]; exact B.tuple) (prg_1 (C.gl hg2) (by rw [C.hmg]; exact B.range) (ha X C W tk true) (ns [] X.env))) fun σ H Q h => by
    obtain ⟨ρ, ow, rs, he, gd, post⟩ := h
    refine tE.go gd he (fun n pl e => by subst e; exact post) fun d hd1 v H1 s1 r1 => ?_
    unfold dTupRg at hd1
    split at hd1
    · split at hd1
      · rename_i n hn
        cases hd1
        exact ⟨n, r1.int, ⟨by omega, by omega, by omega, by omega, by omega⟩, fun q hq => post _ _ (s1.trans (Same.upd hq)) (.inl (.tup upd_same (rp_rg n)))⟩
      · cases hd1
    · cases hd1
theorem se_lstRg (B : Bi G) (ha : SE G N sc fn k a f) (hg : GL sc "list" := by rfl) (hg2 : GL sc "range" := by rfl) (ns : NS a := by intro _ _; rfl) {q1 : Pos} : SE G N sc fn k (.Call (.Name "list" p) [.Call (.Name "range" p2) [a] [] q1] [] pos) (eUn dLstRg f) := fun X C W tk b' =>
  PE.imp (pe_listRg C.calm (C.gl hg) (by rw [C.hmg]; exact B.list) (prg_1 (C.gl hg2) (by rw [C.hmg]; exact B.range) (ha X C W tk true) (ns [] X.env))) fun σ H Q h => by
    obtain ⟨ρ, ow, rs, he, gd, post⟩ := h
    refine tE.go gd he (fun n pl e => by subst e; exact post) fun d hd1 v H1 s1 r1 => ?_
    unfold dLstRg at hd1
    split at hd1
    · split at hd1
      · rename_i n hn
        cases hd1
        exact ⟨n, r1.int, ⟨by omega, by omega, by omega, by omega, by omega⟩, fun q hq => post _ _ (s1.trans (Same.upd hq)) (.inl (.lst upd_same ((gd.ok.same s1).new hq) (rp_rg n)))⟩
      · cases hd1
    · cases hd1
/-! isinstance(x, T) -/
def tyN : Dt → String
  | .none => "NoneType"
  | .bool _ => "bool"
  | .int _ => "int"
  | .str _ => "str"
  | .list _ => "list"
  | .tuple _ => "tuple"
  | .dict _ => "list"
def dIsi (T : String) (d : Dt) : Bool := tyN d == T || (T == "int" && tyN d == "bool")
def eIsi (T : String) (f : EF) : EF := fun _ ρ => bnd (f true ρ) fun x => some (.val (.bool (dIsi T x)))
theorem RpB.ty {b : Bool} {K : PySem.W.Frag} {ow : Ow} {H : Hp} {v : V} {d : Dt} (h : RpB b K ow H v d) : TyX K H v (.type (tyN d)) := by
  cases d with
  | none => rw [h.none]; exact .base .non
  | bool b => rw [h.bool]; exact .base (.bl b)
  | int b => rw [h.int]; exact .base (.int b)
  | str b => rw [h.str]; exact .base (.str b)
  | list b => obtain ⟨a, vs, rfl, h1, _⟩ := h.list; exact .base (.lst h1)
  | tuple b => obtain ⟨a, vs, rfl, h1, _⟩ := h.tuple; exact .base (.tup h1)
  | dict b =>
    obtain ⟨a, ns, rfl, _, h1⟩ := h.script
    rcases h1 with ⟨o, h1⟩ | ⟨o, its, n, h1, h2, _⟩
    · exact .base (.frz h1)
    · exact .kList h1 h2
def KitOk (T : String) : Prop := ∀ (K : PySem.W.Frag) (d : Dt), PySem.W.kitOne K (.type (tyN d)) (.type T) = some (dIsi T d)
theorem se_isi {T : String} {x : Str} (B : Bi G) (hk : KitOk T) (ha : SE G N sc fn k a f) (hm : G.mg x = none) (hv : bootBuiltins x = some (.type T)) (hg : GL sc "isinstance" := by rfl) (hg2 : GL sc x := by rfl)
    (hn : x ≠ "__name__" := by decide) (hdb : (x == ("__debug__" : Str)) = false := by decide) (ns : NS a := by intro _ _; rfl) : SE G N sc fn k (.Call (.Name "isinstance" p) [a, .Name x p2] [] pos) (eIsi T f) := fun X C W tk b' =>
  PE.imp (pe_callB call_isi (C.gl hg) (by rw [C.hmg]; exact B.isinstance) boot_isinstance (pa_cons (ha X C W tk true) (pa_cons (pe_bltn (v := .ty T) (C.gl hg2) (by rw [C.hmg]; exact hm) hv rfl hn hdb) pa_nil) (ns _ X.env)) (by decide) (by decide) (ns _ X.env) rfl) fun σ H Q h => by
    obtain ⟨ρ, ow, rs, he, gd, post⟩ := h
    refine tE.go gd he (fun n pl e => by subst e; exact post) fun d hd1 v H1 s1 r1 => ?_
    cases hd1
    exact ⟨v, .ty T, _, _, _, rfl, .ty T, r1.ty, hk X.K d, post _ H1 s1 (.inl (.bl _))⟩
/-! int(flag), int(n), str(n), max(m, n) -/
def dInt : Dt → Option Dt
  | .int i => some (.int i)
  | .bool b => some (.int (if b then 1 else 0))
  | _ => none
theorem cd_int (K : PySem.W.Frag) : CD1 K (fun xs H Q => (∃ i, xs = [.int i] ∧ Q (.int i) H) ∨ ∃ k, xs = [.bl k] ∧ Q (.int (if k then 1 else 0)) H) dInt := by
  intro x H Q ow dx dz ok rx e post
  unfold dInt at e
  split at e
  · cases e
    obtain rfl := rx.int
    exact .inl ⟨_, rfl, post _ H (Same.refl H) (.int _)⟩
  · cases e
    obtain rfl := rx.bool
    exact .inr ⟨_, rfl, post _ H (Same.refl H) (.int _)⟩
  · cases e
theorem se_intC (B : Bi G) (ha : SE G N sc fn k a f) (hg : GL sc "int" := by rfl) (ns : NS a := by intro _ _; rfl) : SE G N sc fn k (.Call (.Name "int" p) [a] [] pos) (eUn dInt f) :=
  se_t1 (r := fun K xs H Q => (∃ i, xs = [.int i] ∧ Q (.int i) H) ∨ ∃ k, xs = [.bl k] ∧ Q (.int (if k then 1 else 0)) H) (fun X _ => call_int1) cd_int B.int PyProof.Rows.boot_int ha hg (by decide) (by decide) ns
def dStr : Dt → Option Dt
  | .int i => if i.natAbs.log2 < 1920 then some (.str (toString i)) else none
  | _ => none
theorem cd_str (K : PySem.W.Frag) : CD1 K (fun xs H Q => ∃ i, xs = [.int i] ∧ i.natAbs.log2 < 1920 ∧ Q (.str (toString i)) H) dStr := by
  intro x H Q ow dx dz ok rx e post
  unfold dStr at e
  split at e
  · split at e
    · rename_i hz
      cases e
      obtain rfl := rx.int
      exact ⟨_, rfl, hz, post _ H (Same.refl H) (.str _)⟩
    · cases e
  · cases e
theorem se_strC (B : Bi G) (ha : SE G N sc fn k a f) (hg : GL sc "str" := by rfl) (ns : NS a := by intro _ _; rfl) : SE G N sc fn k (.Call (.Name "str" p) [a] [] pos) (eUn dStr f) :=
  se_t1 (r := fun K xs H Q => ∃ i, xs = [.int i] ∧ i.natAbs.log2 < 1920 ∧ Q (.str (toString i)) H) (fun X _ => call_str_int) cd_str B.str PyProof.Rows.boot_str ha hg (by decide) (by decide) ns
def dMax2 : Dt → Dt → Option Dt
  | .int i, .int j => some (.int (if j > i then j else i))
  | _, _ => none
theorem se_max2 (B : Bi G) (ha : SE G N sc fn k a f) (hb : SE G N sc fn k b g) (hg : GL sc "max" := by rfl) (ns : NS a := by intro _ _; rfl) (ns2 : NS b := by intro _ _; rfl) : SE G N sc fn k (.Call (.Name "max" p) [a, b] [] pos) (eBin dMax2 f g) := fun X C W tk b' =>
  PE.imp (pe_callB (call_max2 C.calm) (C.gl hg) (by rw [C.hmg]; exact B.max) boot_max (pa_cons (ha X C W tk true) (pa_cons (hb X C W tk true) pa_nil (ns2 _ X.env)) (ns _ X.env)) (by decide) (by decide) (ns _ X.env) (noStar _ _ _ fun e he => by rw [List.mem_singleton.mp he]; exact ns2)) fun σ H Q h => by
    obtain ⟨ρ, ow, rs, he, gd, post⟩ := h
    refine tE.go gd he (fun n pl e => by subst e; exact post) fun d hd1 v H1 s1 r1 => ?_
    refine tE.go (gd.same s1) hd1 (fun n pl e => by subst e; exact post.same s1) fun d2 hd2 v2 H2 s2 r2 => ?_
    unfold dMax2 at hd2
    split at hd2
    · cases hd2
      obtain rfl := r1.int
      obtain rfl := r2.int
      exact ⟨_, _, rfl, post _ H2 (s1.trans s2) (.inl (.int _))⟩
    · cases hd2

/-! ## calls of own defs -/
def spF (K : PySem.W.Frag) (mg : Str → Option Value) (n : Nat) (F : List Dt → Option Rs) : Sp := fun vs H Q E =>
  vs.length = n ∧ ∃ (O : Addr → Prop) (ds : List Dt) (r : Rs), (∀ a, O a → H a ≠ none) ∧ RpAll K O H vs ds ∧ F ds = some r ∧ match r with
    | .val d => ∀ v H', Same H H' → Rp K O H' v d → Q v H'
    | .exc n pl => ∀ cls d H', mg n = some cls → Same H H' → PayOk K H' d pl → E cls d H'
/-- the def of that name computes F, at level j -/
def FnIs (G : Gc) (x : Str) (j n : Nat) (F : List Dt → Option Rs) : Prop :=
  ∃ f fd ps, G.mg x = some (.ref f) ∧ PySem.W.keepIn G.K (.ref f) = true ∧ Binds G.K fd ps [] ∧ ps.length = n ∧ FnOk G.P G.w G.K G.mg G.base (L2.CX G.P G.w) j f fd ps (spF G.K G.mg n F)
def eFn (n : Nat) (F : List Dt → Option Rs) (g : AF) : EF := fun _ ρ => bndA (g ρ) fun ds => if ds.length = n then F ds else none
theorem se_fn {x : Str} {j n : Nat} {F : List Dt → Option Rs} (hF : FnIs G x j n F) (hr : SAs G N sc fn k (a :: es) ar) (hj : j ≤ k := by decide) (hg : GL sc x := by rfl) (hdb : (x == ("__debug__" : Str)) = false := by decide) :
    SE G N sc fn k (.Call (.Name x p) (a :: es) [] pos) (eFn n F ar) := fun X C W tk b' => by
  obtain ⟨f, fd, ps, hm, hkp, hb, hl, hok⟩ := hF
  rw [← C.hP, ← C.hw, ← C.hK, ← C.hmg, ← C.hb] at hok
  rw [← C.hK] at hkp hb
  rw [← C.hmg] at hm
  have na := hr.ns a List.mem_cons_self
  refine PE.imp (pe_callS (E := WE W) hok (C.room.mono hj) (C.gl hg) hm hkp hb (fun σ => passAt tk σ) (hr.pa X C W tk) hdb (na es X.env) (noStar _ _ _ fun e he => hr.ns e (List.mem_cons_of_mem _ he))) fun σ H Q h => ?_
  obtain ⟨ρ, ow, rs, he, gd, post⟩ := h
  refine tA.go gd he (fun n pl e => by subst e; exact post) fun ds hd vs H1 s1 r1 => ?_
  split at hd
  · rename_i hn
    refine ⟨by rw [r1.length]; exact hn, OA ow, ds, rs, fun q hq => ?_, r1, hd, ?_⟩
    · have ok := gd.ok.same s1
      rcases hq with ⟨i, hi⟩ | hq
      · obtain ⟨ys, hy⟩ := ok.lst i q hi
        rw [hy]; exact fun z => nomatch z
      · exact ok.ext q hq
    · cases rs with
      | val d => exact fun v H' s' r' => post v H' (s1.trans s') (.inl r')
      | exc n pl => exact fun cls d H' hc s' pk => post cls d H' hc (s1.trans s') pk
  · cases hd
end
end PT

namespace PT
open PySem PySem.Spec PyProof.Rows L2

/-! ## slots cleared, slots set -/
def clr (ρ : En) : List Nat → En
  | [] => ρ
  | v :: vs => (clr ρ vs).set v none
theorem clr_length (ρ : En) : ∀ vs : List Nat, (clr ρ vs).length = ρ.length
  | [] => rfl
  | v :: vs => by unfold clr; rw [List.length_set, clr_length ρ vs]
theorem clr_some {ρ : En} {i : Nat} {x : SV} : ∀ {vs : List Nat}, (clr ρ vs)[i]? = some (some x) → ρ[i]? = some (some x) ∧ i ∉ vs
  | [], h => ⟨h, by simp⟩
  | v :: vs, h => by
    unfold clr at h
    by_cases hi : v = i
    · subst hi
      by_cases hv : v < (clr ρ vs).length
      · rw [List.getElem?_set_self hv] at h; cases h
      · rw [List.getElem?_eq_none (by simpa using hv)] at h; cases h
    · rw [List.getElem?_set_ne hi] at h
      obtain ⟨h1, h2⟩ := clr_some h
      exact ⟨h1, by simp only [List.mem_cons, not_or]; exact ⟨fun e => hi e.symm, h2⟩⟩
theorem clr_ne {ρ : En} {i : Nat} : ∀ {vs : List Nat}, i ∉ vs → (clr ρ vs)[i]? = ρ[i]?
  | [], _ => rfl
  | v :: vs, h => by
    simp only [List.mem_cons, not_or] at h
    unfold clr
    rw [List.getElem?_set_ne (fun e => h.1 e.symm)]
    exact clr_ne h.2
theorem wipe_ne {σ : L2.St} {i : Nat} : ∀ {vs : List Nat}, i ∉ vs → (wipe σ vs)[i]? = σ[i]?
  | [], _ => rfl
  | v :: vs, h => by
    simp only [List.mem_cons, not_or] at h
    unfold wipe
    rw [List.getElem?_set_ne (fun e => h.1 e.symm)]
    exact wipe_ne h.2
theorem wipe_at {σ : L2.St} {i : Nat} : ∀ {vs : List Nat}, i ∈ vs → i < σ.length → (wipe σ vs)[i]? = some none
  | v :: vs, h, hl => by
    unfold wipe
    by_cases e : v = i
    · subst e
      exact List.getElem?_set_self (by rw [wipe_length]; exact hl)
    · rw [List.getElem?_set_ne e]
      exact wipe_at ((List.mem_cons.mp h).elim (fun z => absurd z.symm e) id) hl
theorem wipe_eq {σ σ' : L2.St} {vs : List Nat} (hl : σ'.length = σ.length) (h : ∀ j, j ∉ vs → σ'[j]? = σ[j]?) : wipe σ' vs = wipe σ vs := by
  apply List.ext_getElem?
  intro i
  by_cases hi : i ∈ vs
  · by_cases hlt : i < σ.length
    · rw [wipe_at hi hlt, wipe_at hi (by omega)]
    · rw [List.getElem?_eq_none (by rw [wipe_length]; omega), List.getElem?_eq_none (by rw [wipe_length]; omega)]
  · rw [wipe_ne hi, wipe_ne hi, h i hi]
def Ow.clr (ow : Ow) (sl : List Nat) : Ow := { ow with f := fun i => if i ∈ sl then none else ow.f i }
theorem Ow.clr_some {ow : Ow} {sl : List Nat} {i : Nat} {a : Addr} (h : (ow.clr sl).f i = some a) : ow.f i = some a ∧ i ∉ sl := by
  have h : (if i ∈ sl then none else ow.f i) = some a := h
  split at h
  · cases h
  · rename_i hn; exact ⟨h, hn⟩
theorem Ow.clr_stp (ow : Ow) (sl : List Nat) (H : Hp) : Stp ow H (ow.clr sl) H := ⟨(Stp.refl ow H).kp, fun a ⟨i, hi⟩ => .inl ⟨i, (Ow.clr_some hi).1⟩, rfl⟩
theorem Ow.clr_none {ow : Ow} {sl : List Nat} : ∀ j ∈ sl, (ow.clr sl).f j = none := fun j hj => by
  show (if j ∈ sl then none else ow.f j) = none
  rw [if_pos hj]
section
variable {K : PySem.W.Frag} {ow : Ow} {ρ : En} {σ : L2.St} {H : Hp}
theorem SlotOk.stp {ow' : Ow} {H' : Hp} {i : Nat} {v : V} {s : SV} (ok : OkO ow H) (st : Stp ow H ow' H') (he : ∀ xs, s = .own xs → ow'.f i = ow.f i) (hk : ∀ a, ow.f i = some a → ∀ o, H a = some o → H' a = some o) (h : SlotOk K ow i H v s) : SlotOk K ow' i H' v s := by
  cases s with
  | sh d => exact Rp.stp ok st h
  | own xs =>
    obtain ⟨a, vs, h1, h2, h3, h4⟩ := h
    exact ⟨a, vs, h1, by rw [he xs rfl]; exact h2, hk a h2 _ h3, RpAll.stp ok st h4⟩
theorem Good.clr (g : Good K ow ρ σ H) (sl : List Nat) : Good K (ow.clr sl) (PT.clr ρ sl) σ H := by
  refine ⟨by rw [clr_length]; exact g.len, fun i j a h1 h2 => g.inj i j a (Ow.clr_some h1).1 (Ow.clr_some h2).1, ⟨fun i a h => g.ok.lst i a (Ow.clr_some h).1, g.ok.ext⟩, fun i a h => g.disj i a (Ow.clr_some h).1, fun i s h => ?_, fun i a h => ?_⟩
  · obtain ⟨h1, h2⟩ := clr_some h
    obtain ⟨v, hv, q⟩ := g.slot i s h1
    exact ⟨v, hv, q.stp g.ok (Ow.clr_stp ow sl H) (fun _ _ => by show (if i ∈ sl then none else ow.f i) = _; rw [if_neg h2]) fun _ _ _ e => e⟩
  · obtain ⟨h1, h2⟩ := Ow.clr_some h
    rw [clr_ne h2]
    exact g.has i a h1
/-- within a comprehension's block -/
theorem Good.blk {vs : List Nat} (g : Good K ow ρ σ H) (hn : ∀ j ∈ vs, ow.f j = none) : Good K ow (PT.clr ρ vs) (wipe σ vs) H := by
  refine ⟨by rw [clr_length, wipe_length]; exact g.len, g.inj, g.ok, g.disj, fun i s h => ?_, fun i a h => ?_⟩
  · obtain ⟨h1, h2⟩ := clr_some h
    obtain ⟨v, hv, q⟩ := g.slot i s h1
    exact ⟨v, by rw [wipe_ne h2]; exact hv, q⟩
  · have h2 : i ∉ vs := fun z => by rw [hn i z] at h; cases h
    rw [clr_ne h2]
    exact g.has i a h
def noOwn (ρ : En) (sl : List Nat) : Bool := sl.all fun i => match ρ[i]? with
  | some (some (.own _)) => false
  | _ => true
theorem noOwn_of {sl : List Nat} (g : Good K ow ρ σ H) (h : noOwn ρ sl = true) : ∀ j ∈ sl, ow.f j = none := fun j hj => by
  cases e : ow.f j with
  | none => rfl
  | some a =>
    obtain ⟨xs, hx⟩ := g.has j a e
    have := List.all_eq_true.mp h j hj
    rw [hx] at this
    cases this
theorem Good.set {i : Nat} {v : V} {d : Dt} (g : Good K ow ρ σ H) (hn : ow.f i = none) (r : Rp K (OA ow) H v d) : Good K ow (ρ.set i (some (.sh d))) (σ.set i (some v)) H := by
  refine ⟨by rw [List.length_set, List.length_set]; exact g.len, g.inj, g.ok, g.disj, fun j s h => ?_, fun j a h => ?_⟩
  · by_cases hj : i = j
    · subst hj
      by_cases hi : i < ρ.length
      · rw [List.getElem?_set_self hi] at h
        cases h
        exact ⟨v, List.getElem?_set_self (by rw [← g.len]; exact hi), r⟩
      · rw [List.getElem?_eq_none (by simpa using hi)] at h; cases h
    · rw [List.getElem?_set_ne hj] at h
      rw [List.getElem?_set_ne hj]
      exact g.slot j s h
  · by_cases hj : i = j
    · subst hj; rw [hn] at h; cases h
    · rw [List.getElem?_set_ne hj]; exact g.has j a h
end

/-! ## targets -/
abbrev GF := Dt → En → Option En
def tG (K : PySem.W.Frag) (sl : List Nat) (f : GF) : TG := fun v σ H Q => ∃ ρ ow d ρ', (∀ j ∈ sl, ow.f j = none) ∧ f d ρ = some ρ' ∧ Good K ow ρ σ H ∧ Rp K (OA ow) H v d ∧
  ∀ σ', Good K ow ρ' σ' H → σ'.length = σ.length → (∀ j, j ∉ sl → σ'[j]? = σ[j]?) → Q σ' H
theorem PG.imp {X : Cx} {e : Expr} {t t' : TG} (h : PG X e t) (i : ∀ v σ H Q, t' v σ H Q → t v σ H Q) : PG X e t' := ⟨fun pins s σ H v u Q I r q => h.run pins s σ H v u Q I r (i v σ H Q q)⟩
def SG (G : Gc) (N : List Str) (sc : Scope) (fn : Str → Bool) (k : Nat) (e : Expr) (sl : List Nat) (f : GF) : Prop := ∀ X, Ctx G N sc fn k X → PG X e (tG X.K sl f)
def gNm (i : Nat) : GF := fun d ρ => some (ρ.set i (some (.sh d)))
def gPr (f g : GF) : GF := fun d ρ => match d with
  | .tuple [x, y] => (f x ρ).bind (g y)
  | _ => none
section
variable {G : Gc} {N : List Str} {sc : Scope} {fn : Str → Bool} {k : Nat} {pos p p2 : Pos}
theorem sg_nm (i : Nat) {x : Str} (hi : N[i]? = some x := by rfl) (hx : Loc sc x := by first | exact Or.inl rfl | exact Or.inr rfl) (hf : fn x = true ∨ sc.names.lookup x = some .local := by first | exact .inl rfl | exact .inr rfl) : SG G N sc fn k (.Name x pos) [i] (gNm i) := fun X C =>
  PG.imp (pg_name (by rw [C.hN]; exact C.nd) (by rw [C.hN]; exact hi) (by rw [C.hsc]; exact hx) (by rw [C.hfn, C.hsc]; exact hf)) fun v σ H Q h => by
    obtain ⟨ρ, ow, d, ρ', hn, he, gd, r, post⟩ := h
    cases he
    refine post _ (gd.set (hn i List.mem_cons_self) r) (List.length_set ..) fun j hj => ?_
    exact List.getElem?_set_ne fun e => hj (by rw [e]; exact List.mem_cons_self)
theorem sg_pr {e1 e2 : Expr} {kk : Nat} {sl1 sl2 : List Nat} {f g : GF} (h1 : SG G N sc fn k e1 sl1 f) (h2 : SG G N sc fn k e2 sl2 g)
    (hn : ∀ env, (assignEach [e1, e2] env).length = 2 := by intro _; rfl) (hst : ∀ env, (assignEach [e1, e2] env).findIdx? (·.1) = none := by intro _; rfl)
    (hs : ∀ env, (assignEach (e1 :: [e2]) env).map (·.2) = assign e1 env :: (assignEach [e2] env).map (·.2) := by intro _; rfl) (hs2 : ∀ env, (assignEach (e2 :: []) env).map (·.2) = assign e2 env :: (assignEach [] env).map (·.2) := by intro _; rfl) :
    SG G N sc fn k (.Tuple [e1, e2] kk pos) (sl1 ++ sl2) (gPr f g) := fun X C =>
  PG.imp (pg_tup (n := 2) C.calm (pgs_cons (h1 X C) (pgs_cons (h2 X C) pgs_nil (hs2 X.env)) (hs X.env)) (hn X.env) (hst X.env)) fun v σ H Q h => by
    obtain ⟨ρ, ow, d, ρ', hn, he, gd, r, post⟩ := h
    unfold gPr at he
    split at he
    · rename_i x y
      cases r with
      | tup ha ra =>
        cases ra with
        | cons rx rr =>
          cases rr with
          | cons ry rn =>
            cases rn
            rename_i a vx vy
            cases h1 : f x ρ with
            | none => rw [h1] at he; cases he
            | some ρ1 =>
              rw [h1] at he
              refine ⟨a, [vx, vy], rfl, SqT.of ha, rfl, vx, [vy], rfl, ρ, ow, x, ρ1, fun j hj => hn j (List.mem_append_left _ hj), h1, gd, rx, fun σ1 g1 l1 a1 => ?_⟩
              refine ⟨vy, [], rfl, ρ1, ow, y, ρ', fun j hj => hn j (List.mem_append_right _ hj), he, g1, ry, fun σ2 g2 l2 a2 => ⟨rfl, ?_⟩⟩
              refine post σ2 g2 (l2.trans l1) fun j hj => ?_
              rw [List.mem_append, not_or] at hj
              rw [a2 j hj.2, a1 j hj.1]
    · cases he
end

/-! ## what is walked -/
inductive Irs where
  | it (xs : List Dt)
  | exc (n : Str) (pl : Option Dt)
abbrev IF := Bool → En → Option Irs
/-- a new address is owned by those around -/
def Ow.addx (ow : Ow) (D : Addr) : Ow := { ow with x := fun a => ow.x a ∨ a = D }
def RelT (ow : Ow) (H : Hp) (ow1 : Ow) (H1 : Hp) : Prop := ow1.f = ow.f ∧ (∀ a, ow1.x a → ow.x a ∨ H a = none) ∧ Same H H1
def Rel (b : Bool) (ow : Ow) (H : Hp) (ow1 : Ow) (H1 : Hp) : Prop := if b = true then RelT ow H ow1 H1 else Stp ow H ow1 H1
theorem RelT.notOA {ow ow1 : Ow} {H H1 : Hp} (r : RelT ow H ow1 H1) : ∀ a o, H a = some o → ¬ OA ow a → ¬ OA ow1 a := fun a o h n q => by
  rcases q with ⟨i, hi⟩ | q
  · exact n (.inl ⟨i, by rw [← r.1]; exact hi⟩)
  · exact (r.2.1 a q).elim (fun z => n (.inr z)) fun z => by rw [z] at h; cases h
theorem Rel.rp {b : Bool} {K : PySem.W.Frag} {ow ow1 : Ow} {H H1 : Hp} {v : V} {d : Dt} (ok : OkO ow H) (h : Rel b ow H ow1 H1) (r : Rp K (OA ow) H v d) : Rp K (OA ow1) H1 v d := by
  cases b with
  | true => have h : RelT ow H ow1 H1 := h; exact Rp.same h.2.2 (Rp.fresh h.notOA r)
  | false => exact Rp.stp ok h r
/-- what does not reach D, without D -/
def dropH (H : Hp) (D : Addr) : Hp := fun b => if b = D then none else H b
theorem dropH_ne {H : Hp} {D b : Addr} (h : b ≠ D) : dropH H D b = H b := by unfold dropH; rw [if_neg h]
mutual
theorem Rp.drp {K : PySem.W.Frag} {O : Addr → Prop} {H : Hp} {D : Addr} {xs : List V} (hD : H D = some (.lst xs)) (hO : O D) : ∀ {v : V} {d : Dt}, Rp K O H v d → Rp K O (dropH H D) v d
  | _, _, .non => .non
  | _, _, .bl b => .bl b
  | _, _, .int i => .int i
  | _, _, .str x => .str x
  | _, _, .lst h q r => .lst (by rw [dropH_ne (fun e => q (by rw [e]; exact hO))]; exact h) q (RpAll.drp hD hO r)
  | _, _, .tup h r => .tup (by rw [dropH_ne (ne_of h hD (by intro z; cases z))]; exact h) (RpAll.drp hD hO r)
  | _, _, .scr h => .scr (h.imp fun _ _ h => by rw [dropH_ne (ne_of h hD (by intro z; cases z))]; exact h)
theorem RpAll.drp {K : PySem.W.Frag} {O : Addr → Prop} {H : Hp} {D : Addr} {xs : List V} (hD : H D = some (.lst xs)) (hO : O D) : ∀ {vs : List V} {ds : List Dt}, RpAll K O H vs ds → RpAll K O (dropH H D) vs ds
  | _, _, .nil => .nil
  | _, _, .cons a r => .cons (Rp.drp hD hO a) (RpAll.drp hD hO r)
end
theorem OA.addx {ow : Ow} {D a : Addr} (h : OA ow a) : OA (ow.addx D) a := h.elim (fun z => .inl z) fun z => .inr (.inl z)
theorem notOA_addx {ow : Ow} {D a : Addr} (h : ¬ OA ow a) (hn : a ≠ D) : ¬ OA (ow.addx D) a := fun q => by
  rcases q with q | q | q
  · exact h (.inl q)
  · exact h (.inr q)
  · exact hn q
theorem Good.addx {K : PySem.W.Frag} {ow : Ow} {ρ : En} {σ : L2.St} {H1 H : Hp} {D : Addr} {o : HO} (g : Good K ow ρ σ H1) (hD : H1 D = none) (s : Same H1 H) (hH : H D = some o) : Good K (ow.addx D) ρ σ H := by
  have nn : ∀ a u, H1 a = some u → ¬ OA ow a → ¬ OA (ow.addx D) a := fun a u h n => notOA_addx n (ne_of_none h hD)
  refine ⟨g.len, g.inj, ⟨(g.ok.same s).lst, fun a q => ?_⟩, fun i a h q => ?_, fun i sv h => ?_, g.has⟩
  · rcases q with q | q
    · exact (g.ok.same s).ext a q
    · rw [q, hH]; exact fun z => nomatch z
  · rcases q with q | q
    · exact g.disj i a h q
    · obtain ⟨ys, hy⟩ := g.ok.lst i a h
      exact ne_of_none hy hD q
  · obtain ⟨v, hv, q⟩ := g.slot i sv h
    refine ⟨v, hv, ?_⟩
    cases sv with
    | sh d => exact Rp.same s (Rp.fresh nn q)
    | own xs =>
      obtain ⟨a, vs, h1, h2, h3, h4⟩ := q
      exact ⟨a, vs, h1, h2, s _ _ h3, RpAll.same s (RpAll.fresh nn h4)⟩
structure WD1 (K : PySem.W.Frag) (ow1 : Ow) (H1 : Hp) (J : It) (xs : List Dt) : Prop where
  go : ∀ i, i < xs.length → J.go i H1
  stop : J.stop xs.length H1
  yld : ∀ i x H2, i < xs.length → J.yld i H1 x H2 → Same H1 H2 ∧ ∃ d, xs[i]? = some d ∧ Rp K (OA ow1) H2 x d
def WD (b : Bool) (K : PySem.W.Frag) (ow : Ow) (H : Hp) (J : It) (xs : List Dt) : Prop := ∀ ow1 H1, Rel b ow H ow1 H1 → OkO ow1 H1 → WD1 K ow1 H1 J xs
def tI (K : PySem.W.Frag) (mg : Str → Option Value) (W : WX) (b : Bool) (f : IF) : TI := fun σ H R => ∃ ρ ow r, f b ρ = some r ∧ Good K ow ρ σ H ∧ match r with
  | .it xs => ∀ J H', Same H H' → WD b K ow H' J xs → R J H'
  | .exc n pl => ExP K mg W σ H n pl
def SI (G : Gc) (N : List Str) (sc : Scope) (fn : Str → Bool) (k : Nat) (tg e : Expr) (f : IF) : Prop :=
  ∀ X, Ctx G N sc fn k X → ∀ W, Takes X W → ∀ b, PI X tg e (tI X.K X.mg W b f)
theorem PI.imp {X : Cx} {tg e : Expr} {t t' : TI} (h : PI X tg e t) (i : ∀ σ H R, t' σ H R → t σ H R) : PI X tg e t' := ⟨fun pins s σ H R I q => h.run pins s σ H R I (i σ H R q)⟩
def bndI (x : Option Rs) (k : Dt → Option Irs) : Option Irs :=
  match x with
  | some (.val d) => k d
  | some (.exc n pl) => some (.exc n pl)
  | none => none
theorem tE.goI {K : PySem.W.Frag} {mg : Str → Option Value} {W : WX} {b : Bool} {f : EF} {ρ : En} {ow : Ow} {σ : L2.St} {H : Hp} {Q : VK} {k : Dt → Option Irs} {r : Irs} (g : Good K ow ρ σ H)
    (e : bndI (f b ρ) k = some r)
    (hx : ∀ n pl, r = .exc n pl → ExP K mg W σ H n pl)
    (hv : ∀ d, k d = some r → ∀ v H', Same H H' → RpB b K ow H' v d → Q v H') : tE K mg W b f σ H Q := by
  cases h : f b ρ with
  | none => rw [h] at e; cases e
  | some q =>
    rw [h] at e
    cases q with
    | val d => exact ⟨ρ, ow, .val d, h, g, fun v H' s q => hv d e v H' s q⟩
    | exc n pl => exact ⟨ρ, ow, .exc n pl, h, g, hx n pl (Option.some.inj e).symm⟩
/-- a list that is read: it stands as long as nothing that is owned changes it -/
theorem RpB.list_stp {b : Bool} {K : PySem.W.Frag} {ow ow1 : Ow} {H H1 : Hp} {v : V} {ds : List Dt} (ok : OkO ow H) (h : RpB b K ow H v (.list ds)) (r : Rel b ow H ow1 H1) : RpB b K ow1 H1 v (.list ds) := by
  rcases h with h | ⟨hb, a, vs, ds', rfl, e, h3, h5, h4⟩
  · exact .inl (r.rp ok h)
  · subst hb
    have r : RelT ow H ow1 H1 := r
    exact .inr ⟨rfl, a, vs, ds', rfl, e, r.2.2 _ _ h3, fun q => (r.2.1 a q).elim h5 (fun z => by rw [z] at h3; cases h3), RpAll.same r.2.2 (RpAll.fresh r.notOA h4)⟩
theorem RpB.tup_stp {b : Bool} {K : PySem.W.Frag} {ow ow1 : Ow} {H H1 : Hp} {v : V} {ds : List Dt} (ok : OkO ow H) (h : RpB b K ow H v (.tuple ds)) (r : Rel b ow H ow1 H1) : RpB b K ow1 H1 v (.tuple ds) := by
  rcases h with h | ⟨hb, a, vs, ds', rfl, e, h3, h5, h4⟩
  · exact .inl (r.rp ok h)
  · cases e
theorem wd_list {b : Bool} {K : PySem.W.Frag} {ow : Ow} {H : Hp} {a : Addr} {xs : List Dt} (ok : OkO ow H) (h : RpB b K ow H (.ref a) (.list xs)) : WD b K ow H (Itl K a) xs := fun ow1 H1 r ok1 => by
  obtain ⟨a', vs, e, h1, r1⟩ := (h.list_stp ok r).list
  cases e
  refine ⟨fun i hi => ⟨vs, vs[i]'(by rw [r1.length]; exact hi), SqL.of h1, by simp [show i < vs.length by rw [r1.length]; exact hi]⟩, ⟨vs, SqL.of h1, by rw [r1.length]; exact Nat.le_refl _⟩, fun i x H2 hi y => ?_⟩
  obtain ⟨rfl, y⟩ := y
  refine ⟨Same.refl _, xs[i], by simp [hi], ?_⟩
  obtain ⟨v, hv, q⟩ := r1.get (i := i) (d := xs[i]) (by simp [hi])
  rw [y vs (SqL.of h1)] at hv
  cases hv
  exact q
theorem wd_tup {b : Bool} {K : PySem.W.Frag} {ow : Ow} {H : Hp} {a : Addr} {xs : List Dt} (ok : OkO ow H) (h : RpB b K ow H (.ref a) (.tuple xs)) : WD b K ow H (Itt K a) xs := fun ow1 H1 r ok1 => by
  obtain ⟨a', vs, e, h1, r1⟩ := (h.tup_stp ok r).tuple
  cases e
  refine ⟨fun i hi => ⟨vs, vs[i]'(by rw [r1.length]; exact hi), SqT.of h1, by simp [show i < vs.length by rw [r1.length]; exact hi]⟩, ⟨vs, SqT.of h1, by rw [r1.length]; exact Nat.le_refl _⟩, fun i x H2 hi y => ?_⟩
  obtain ⟨rfl, y⟩ := y
  refine ⟨Same.refl _, xs[i], by simp [hi], ?_⟩
  obtain ⟨v, hv, q⟩ := r1.get (i := i) (d := xs[i]) (by simp [hi])
  rw [y vs (SqT.of h1)] at hv
  cases hv
  exact q
def rgL (lo : Int) (n : Nat) : List Dt := (List.range n).map fun i => .int (lo + (i : Nat))
theorem rgL_length (lo : Int) (n : Nat) : (rgL lo n).length = n := by unfold rgL; rw [List.length_map, List.length_range]
theorem rgL_get {lo : Int} {n i : Nat} (h : i < n) : (rgL lo n)[i]? = some (.int (lo + (i : Nat))) := by
  unfold rgL
  rw [List.getElem?_map, List.getElem?_range h]
  rfl
theorem wd_rg {b : Bool} {K : PySem.W.Frag} {ow : Ow} {H : Hp} {lo : Int} {n : Nat} : WD b K ow H (Itr lo n) (rgL lo n) := fun ow1 H1 r ok1 => by
  refine ⟨fun i hi => by rw [rgL_length] at hi; exact hi, by rw [rgL_length]; exact Nat.le_refl _, fun i x H2 hi y => ?_⟩
  obtain ⟨rfl, rfl⟩ := y
  rw [rgL_length] at hi
  exact ⟨Same.refl _, _, rgL_get hi, .int _⟩
section
variable {G : Gc} {N : List Str} {sc : Scope} {fn : Str → Bool} {k : Nat} {pos p p2 : Pos} {tg a b c : Expr} {f g h : EF}
def iSeq (f : EF) : IF := fun b ρ => bndI (f b ρ) fun x => match x with
  | .list xs => some (.it xs)
  | .tuple xs => some (.it xs)
  | _ => none
theorem si_seq (ha : SE G N sc fn k a f) : SI G N sc fn k tg a (iSeq f) := fun X C W tk b => ⟨fun pins s σ H R I h => by
  obtain ⟨ρ, ow, r, he, gd, post⟩ := h
  cases h1 : f b ρ with
  | none => simp [iSeq, h1, bndI] at he
  | some r1 =>
    cases r1 with
    | exc n pl =>
      have e1 := he
      simp [iSeq, h1, bndI] at e1
      subst e1
      exact (pi_list (ha X C W tk b)).run pins s σ H R I ⟨ρ, ow, _, h1, gd, post⟩
    | val d =>
      have e1 := he
      simp only [iSeq, h1, bndI] at e1
      split at e1
      · cases e1
        refine (pi_list (ha X C W tk b)).run pins s σ H R I ⟨ρ, ow, _, h1, gd, fun v H' s' r' => ?_⟩
        obtain ⟨a', vs, rfl, q1, q2⟩ := r'.list
        exact ⟨a', rfl, ⟨vs, SqL.of q1⟩, post _ H' s' (wd_list (gd.ok.same s') r')⟩
      · cases e1
        refine (pi_tup (ha X C W tk b)).run pins s σ H R I ⟨ρ, ow, _, h1, gd, fun v H' s' r' => ?_⟩
        obtain ⟨a', vs, rfl, q1, q2⟩ := r'.tuple
        exact ⟨a', rfl, ⟨vs, SqT.of q1⟩, post _ H' s' (wd_tup (gd.ok.same s') r')⟩
      · cases e1⟩
def iRg1 (f : EF) : IF := fun _ ρ => bndI (f true ρ) fun x => match x with
  | .int n => if n ≤ 1000000 ∧ -1000000 ≤ n then some (.it (rgL 0 n.toNat)) else none
  | _ => none
theorem si_rg1 (B : Bi G) (ha : SE G N sc fn k a f) (hg : GL sc "range" := by rfl) (ns : NS a := by intro _ _; rfl) : SI G N sc fn k tg (.Call (.Name "range" p) [a] [] pos) (iRg1 f) := fun X C W tk b =>
  PI.imp (pi_range1 (C.gl hg) (by rw [C.hmg]; exact B.range) (pa_cons (ha X C W tk true) pa_nil (ns [] X.env)) (by rw [ns [] X.env]; rfl)) fun σ H R h => by
    obtain ⟨ρ, ow, r, he, gd, post⟩ := h
    refine tE.goI gd he (fun n pl e => by subst e; exact post) fun d hd v H' s' r' => ?_
    split at hd
    · split at hd
      · rename_i n hn
        cases hd
        obtain rfl := r'.int
        exact ⟨n, rfl, by omega, by omega, post _ H' s' wd_rg⟩
      · cases hd
    · cases hd
def iRg2 (f g : EF) : IF := fun _ ρ => bndI (f true ρ) fun x => bndI (g true ρ) fun y => match x, y with
  | .int i, .int j => if (i ≤ 1000000 ∧ -1000000 ≤ i) ∧ j ≤ 1000000 ∧ -1000000 ≤ j then some (.it (rgL i (j - i).toNat)) else none
  | _, _ => none
theorem si_rg2 (B : Bi G) (ha : SE G N sc fn k a f) (hb : SE G N sc fn k b g) (hg : GL sc "range" := by rfl) (ns : NS a := by intro _ _; rfl) (ns2 : NS b := by intro _ _; rfl) : SI G N sc fn k tg (.Call (.Name "range" p) [a, b] [] pos) (iRg2 f g) := fun X C W tk b' =>
  PI.imp (pi_range2 (C.gl hg) (by rw [C.hmg]; exact B.range) (pa_cons (ha X C W tk true) (pa_cons (hb X C W tk true) pa_nil (ns2 [] X.env)) (ns [b] X.env)) (by rw [ns [b] X.env, ns2 [] X.env]; rfl) (by rw [ns2 [] X.env]; rfl)) fun σ H R h => by
    obtain ⟨ρ, ow, r, he, gd, post⟩ := h
    refine tE.goI gd he (fun n pl e => by subst e; exact post) fun d hd v H1 s1 r1 => ?_
    refine tE.goI (gd.same s1) hd (fun n pl e => by subst e; exact ExP.same post s1) fun d2 hd2 v2 H2 s2 r2 => ?_
    split at hd2
    · split at hd2
      · rename_i i j hn
        cases hd2
        obtain rfl := r1.int
        obtain rfl := r2.int
        exact ⟨i, j, rfl, ⟨by omega, by omega, by omega, by omega⟩, post _ H2 (s1.trans s2) wd_rg⟩
      · cases hd2
    · cases hd2

/-! ## comprehensions -/
def lcL (c e : EF) (tg : GF) (ρ : En) : List Dt → Option (List Dt)
  | [] => some []
  | x :: xs => match tg x ρ with
    | none => none
    | some ρ1 => match c true ρ1 with
      | some (.val d) => (match tru d with
        | some true => (match e false ρ1 with
          | some (.val y) => (lcL c e tg ρ xs).map (y :: ·)
          | _ => none)
        | some false => lcL c e tg ρ xs
        | none => none)
      | _ => none
def eLc (sl : List Nat) (tg : GF) (it : IF) (c e : EF) : EF := fun _ ρ => match it true ρ with
  | some (.it xs) => if noOwn ρ sl && decide (xs.length ≤ lim) then (lcL c e tg (clr ρ sl) xs).map fun ys => .val (.list ys) else none
  | some (.exc n pl) => some (.exc n pl)
  | none => none
/-- the tests of a clause -/
def STs (G : Gc) (N : List Str) (sc : Scope) (fn : Str → Bool) (k : Nat) (es : List Expr) (f : EF) : Prop :=
  ∀ X, Ctx G N sc fn k X → ∀ W, Takes X W → PTs X es (tT X.K X.mg W f)
theorem PTs.imp {X : Cx} {e : List Expr} {t t' : TT} (h : PTs X e t) (i : ∀ σ H Q, t' σ H Q → t σ H Q) : PTs X e t' := ⟨fun pins s σ H Q I q => h.run pins s σ H Q I (i σ H Q q)⟩
theorem sts_nil : STs G N sc fn k [] (eC (.bool true)) := fun X C W tk => PTs.imp pts_nil fun σ H Q h => by
  obtain ⟨ρ, ow, r, he, gd, post⟩ := h
  cases he
  obtain ⟨c, hc, q⟩ := post
  cases hc
  exact q H (Same.refl H)
theorem sts_one (ha : ST G N sc fn k a f) : STs G N sc fn k [a] f := fun X C W tk => pts_one (ha X C W tk)
theorem Ctx.blk {X : Cx} (C : Ctx G N sc fn k X) (s : Shared) (H : Hp) (scope : Scope) (C' : Addr) (cl : List (Str × Addr)) (fp : List Addr) :
    Ctx G N (relS scope sc) (fun x => scope.names.lookup x == some .cell) k (X.blk s H scope (compEnvC scope cl C' X.env) fp) :=
  ⟨C.hP, C.hw, C.hK, C.hmg, C.hb, C.hN, C.nd, by show relS scope X.env.scope = _; rw [C.hsc], rfl, C.calm, C.room⟩
/-- what the comprehension's new list is: for expressions whose value is a new list -/
def tL (K : PySem.W.Frag) (mg : Str → Option Value) (W : WX) (f : EF) : TE := fun σ H Q =>
  ∃ ρ ow r, f true ρ = some r ∧ Good K ow ρ σ H ∧ match r with
    | .val d => ∃ ds, d = .list ds ∧ ∀ p vs H1, Same H H1 → H1 p = none → RpAll K (OA ow) H1 vs ds → Q (.ref p) (upd H1 p (.lst vs))
    | .exc n pl => ExP K mg W σ H n pl
theorem RpAll.snoc {K : PySem.W.Frag} {O : Addr → Prop} {H : Hp} {vs : List V} {ds : List Dt} {v : V} {d : Dt} (r : RpAll K O H vs ds) (q : Rp K O H v d) : RpAll K O H (vs ++ [v]) (ds ++ [d]) := r.append (.cons q .nil)
/-- the list at D so far, everything else as it was -/
structure Cw (K : PySem.W.Frag) (ow : Ow) (H1 : Hp) (D : Addr) (ys : List Dt) (H : Hp) : Prop where
  ex : ∃ vs H2, H = upd H2 D (.lst vs) ∧ Same H1 H2 ∧ H2 D = none ∧ RpAll K (OA ow) H2 vs ys
theorem lc_sound {K : PySem.W.Frag} {W0 : WX} {mg : Str → Option Value} {sl : List Nat} {tg : GF} {c e : EF} {ρ : En} {ow : Ow} {σ : L2.St} {H1 : Hp} {J : It} {xs ys : List Dt} {Q : VK} (gd : Good K ow ρ σ H1) (hn : ∀ j ∈ sl, ow.f j = none)
    (wd : WD true K ow H1 J xs) (hl : lcL c e tg (clr ρ sl) xs = some ys) (hz : xs.length ≤ lim)
    (post : ∀ p vs H2, Same H1 H2 → H2 p = none → RpAll K (OA ow) H2 vs ys → Q (.ref p) (upd H2 p (.lst vs))) :
    ∀ D, H1 D = none → ∃ Wv : Nat → Nat → Hp → Prop, (∃ m, Wv 0 m (upd H1 D (.lst []))) ∧ ∀ i m H, Wv i m H →
      (J.stop i H ∧ Q (.ref D) H) ∨ (J.go i H ∧ ∃ Nx : Hp → Prop, (∀ H', Nx H' → ∃ m', m' < m ∧ Wv (i + 1) m' H') ∧ ∀ x H', J.yld i H x H' → tG K sl tg x (wipe σ sl) H' fun σ2 H2 => wipe σ2 sl = wipe σ sl ∧ tT K mg W0 c σ2 H2 fun b H3 =>
        if b = true then tE K mg W0 false e σ2 H3 fun y H4 => ∃ acc, H4 D = some (.lst acc) ∧ acc.length < sizeLine ∧ Nx (upd H4 D (.lst (acc ++ [y]))) else Nx H3) := by
  intro D hD
  -- what is made of the first i items, and the rest
  let Wv : Nat → Nat → Hp → Prop := fun i m H => m = xs.length - i ∧ i ≤ xs.length ∧ ∃ zs ws, ys = zs ++ ws ∧ zs.length ≤ i ∧ lcL c e tg (clr ρ sl) (xs.drop i) = some ws ∧ Cw K ow H1 D zs H
  refine ⟨Wv, ⟨xs.length, by simp, Nat.zero_le _, [], ys, rfl, Nat.le_refl _, by simpa using hl, ⟨[], H1, rfl, Same.refl H1, hD, .nil⟩⟩, ?_⟩
  rintro i m H ⟨rfl, hi, zs, ws, hys, hzl, hws, ⟨vs, H2, rfl, s2, hD2, rv⟩⟩
  have sD : Same H1 (upd H2 D (.lst vs)) := s2.trans (Same.upd hD2)
  have gD : ∀ {H : Hp}, Same (upd H2 D (.lst vs)) H → Good K (ow.addx D) ρ σ H := fun {H} s => gd.addx hD (sD.trans s) (s D _ upd_same)
  have wd1 := wd (ow.addx D) _ (show Rel true ow H1 (ow.addx D) (upd H2 D (.lst vs)) from ⟨rfl, fun a q => q.elim .inl fun e => .inr (by rw [e]; exact hD), sD⟩) (gD (Same.refl _)).ok
  have hOD : OA (ow.addx D) D := .inr (.inr rfl)
  by_cases hlt : i < xs.length
  · right
    rw [List.drop_eq_getElem_cons hlt] at hws
    refine ⟨wd1.go i hlt, fun H => Wv (i + 1) (xs.length - (i + 1)) H, fun H' h => ⟨_, by omega, h⟩, fun x H' y => ?_⟩
    obtain ⟨sH', d, hd, rx⟩ := wd1.yld i x H' hlt y
    have hd' : xs[i] = d := by rw [List.getElem?_eq_getElem hlt] at hd; exact Option.some.inj hd
    rw [hd'] at hws
    unfold lcL at hws
    cases ht : tg d (clr ρ sl) with
    | none => rw [ht] at hws; cases hws
    | some ρ1 =>
      rw [ht] at hws
      simp only at hws
      refine ⟨clr ρ sl, ow.addx D, d, ρ1, hn, ht, (gD sH').blk hn, rx, fun σ2 g2 l2 a2 => ⟨?_, ?_⟩⟩
      · rw [wipe_eq (σ := wipe σ sl) l2 a2]
        exact wipe_eq (wipe_length _ _) fun j hj => wipe_ne hj
      · cases hc : c true ρ1 with
        | none => rw [hc] at hws; cases hws
        | some rc =>
          rw [hc] at hws
          cases rc with
          | exc n pl => cases hws
          | val dc =>
            simp only at hws
            cases htr : tru dc with
            | none => rw [htr] at hws; cases hws
            | some bb =>
              rw [htr] at hws
              refine ⟨ρ1, ow.addx D, _, hc, g2, bb, htr, fun H3 s3 => ?_⟩
              -- the list at D stands in H3
              have hH3 : H3 D = some (.lst vs) := (sH'.trans s3) D _ upd_same
              have s13 : Same H1 H3 := (sD.trans sH').trans s3
              have sd : ∀ {H4 : Hp}, Same H3 H4 → Same H1 (dropH H4 D) ∧ Same H2 (dropH H4 D) ∧ H4 D = some (.lst vs) := fun {H4} s4 => by
                refine ⟨fun b o hb => ?_, fun b o hb => ?_, s4 D _ hH3⟩
                · rw [dropH_ne (ne_of_none hb hD)]; exact s4 b o (s13 b o hb)
                · rw [dropH_ne (ne_of_none hb hD2)]; exact s4 b o ((sH'.trans s3) b o (by rw [upd_ne (ne_of_none hb hD2)]; exact hb))
              have hdrop : ∀ {H4 : Hp} {o : HO}, upd (dropH H4 D) D o = upd H4 D o := fun {H4 o} => by
                funext b
                by_cases hb : b = D
                · subst hb; rw [upd_same, upd_same]
                · rw [upd_ne hb, upd_ne hb, dropH_ne hb]
              have hself : ∀ {H4 : Hp}, H4 D = some (.lst vs) → upd (dropH H4 D) D (.lst vs) = H4 := fun {H4} h4 => by
                funext b
                by_cases hb : b = D
                · subst hb; rw [upd_same, h4]
                · rw [upd_ne hb, dropH_ne hb]
              have dN : ∀ {H4 : Hp}, dropH H4 D D = none := fun {H4} => by unfold dropH; rw [if_pos rfl]
              cases bb with
              | false =>
                show Wv (i + 1) (xs.length - (i + 1)) H3
                obtain ⟨q1, q2, q3⟩ := sd (Same.refl H3)
                exact ⟨rfl, hlt, zs, ws, hys, by omega, hws, ⟨vs, dropH H3 D, (hself q3).symm, q1, dN, RpAll.same q2 rv⟩⟩
              | true =>
                show tE K mg W0 false e σ2 H3 _
                cases hev : e false ρ1 with
                | none => rw [hev] at hws; cases hws
                | some re =>
                  rw [hev] at hws
                  cases re with
                  | exc n pl => cases hws
                  | val dy =>
                    simp only at hws
                    cases hrec : lcL c e tg (clr ρ sl) (xs.drop (i + 1)) with
                    | none => rw [hrec] at hws; cases hws
                    | some ws' =>
                      rw [hrec] at hws
                      have hws' : ws = dy :: ws' := (Option.some.inj hws).symm
                      subst hws'
                      refine ⟨ρ1, ow.addx D, _, hev, g2.same s3, fun y H4 s4 ry => ?_⟩
                      obtain ⟨q1, q2, q3⟩ := sd s4
                      refine ⟨vs, q3, by rw [rv.length]; exact Nat.lt_of_le_of_lt (Nat.le_trans hzl (Nat.le_trans (Nat.le_of_lt hlt) hz)) (by decide), rfl, hlt, zs ++ [dy], ws', by rw [hys]; simp, by simp; omega, hrec, ⟨vs ++ [y], dropH H4 D, hdrop.symm, q1, dN, ?_⟩⟩
                      exact RpAll.snoc (RpAll.same q2 rv) (Rp.fresh (fun _ _ _ n z => n (OA.addx z)) (Rp.drp q3 hOD ry.rp))
  · left
    have e : i = xs.length := by omega
    subst e
    rw [List.drop_length] at hws
    cases hws
    rw [List.append_nil] at hys
    subst hys
    exact ⟨wd1.stop, post D vs H2 s2 hD2 rv⟩
/-- [e for target in iter if c], as a value -/
theorem se_lc {elt iter : Expr} {ifs : List Expr} {scope : Scope} {own : List (Str × Nat)} {it : IF} {gf : GF} {c e : EF} (hi : SI G N sc fn k tg iter it) (ok : blkC N sc scope own = true) (hg : SG G N (relS scope sc) (fun x => scope.names.lookup x == some .cell) k tg (own.map (·.2)) gf)
    (ht : STs G N (relS scope sc) (fun x => scope.names.lookup x == some .cell) k ifs c) (he : SE G N (relS scope sc) (fun x => scope.names.lookup x == some .cell) k elt e) (hs : ∀ env x, foldedSetIterable iter env x = pure x := by intro _ _; rfl) :
    SE G N sc fn k (.ListComp elt [⟨tg, iter, ifs, 0⟩] scope pos) (eLc (own.map (·.2)) gf it c e) := fun X C W tk b => by
  have ok' := blkOk_by ok
  refine PE.imp (pe_lc (own := own) (g := tG X.K (own.map (·.2)) gf) (tt := tT X.K X.mg (fun _ _ _ _ => False) c) (te := tE X.K X.mg (fun _ _ _ _ => False) false e) C.calm (by rw [C.hN]; exact C.nd) (hi X C W tk true) (by rw [C.hN, C.hsc]; exact ok') (fun s H C' cl fp => hg _ (C.blk s H scope C' cl fp)) (fun s H C' cl fp => ht _ (C.blk s H scope C' cl fp) (fun _ _ _ _ => False) takes0)
    (fun s H C' cl fp => he _ (C.blk s H scope C' cl fp) (fun _ _ _ _ => False) takes0 false) (hs X.env)) fun σ H Q h => ?_
  obtain ⟨ρ, ow, r, he', gd, post⟩ := h
  unfold eLc at he'
  cases h1 : it true ρ with
  | none => rw [h1] at he'; cases he'
  | some ir =>
    rw [h1] at he'
    cases ir with
    | exc n pl => cases he'; exact ⟨ρ, ow, _, h1, gd, post⟩
    | it xs =>
      simp only at he'
      split at he'
      · rename_i hc
        rw [Bool.and_eq_true, decide_eq_true_eq] at hc
        cases h2 : lcL c e gf (clr ρ (own.map (·.2))) xs with
        | none => rw [h2] at he'; cases he'
        | some ys =>
          rw [h2] at he'
          cases he'
          refine ⟨ρ, ow, _, h1, gd, fun J H' s' wd => ?_⟩
          exact lc_sound (gd.same s') (noOwn_of gd hc.1) wd h2 hc.2 fun p vs H2 s2 hp rv => post _ _ ((s'.trans s2).trans (Same.upd hp)) (.inl (.lst upd_same ((gd.ok.same (s'.trans s2)).new hp) (RpAll.same (Same.upd hp) rv)))
      · cases he'
end
end PT

namespace PT
open PySem PySem.Spec PyProof.Rows L2

/-! ## statements -/
inductive Out where
  | nx (ρ : En)
  | rt (d : Dt)
  | ex (n : Str) (pl : Option Dt)
abbrev SF := En → Option Out
def PostS (K : PySem.W.Frag) (mg : Str → Option Value) (W : WX) (D : Ends) (ow : Ow) (H : Hp) : Out → Prop
  | .nx ρ' => ∀ ow' σ' H', Stp ow H ow' H' → Good K ow' ρ' σ' H' → D.nx σ' H'
  | .rt d => ∀ v H', Kp ow H H' → Rp K ow.x H' v d → D.rt v H'
  | .ex n pl => ∀ cls d σ' H', mg n = some cls → Kp ow H H' → PayOk K H' d pl → W cls d σ' H'
def tS (K : PySem.W.Frag) (mg : Str → Option Value) (W : WX) (g : SF) : TS := fun D σ H => ∃ ρ ow o, g ρ = some o ∧ Good K ow ρ σ H ∧ PostS K mg W D ow H o
theorem PostS.stp {K : PySem.W.Frag} {mg : Str → Option Value} {W : WX} {D : Ends} {ow ow' : Ow} {H H' : Hp} {o : Out} (h : PostS K mg W D ow H o) (s : Stp ow H ow' H') : PostS K mg W D ow' H' o := by
  cases o with
  | nx ρ' => exact fun ow2 σ2 H2 s2 g2 => h ow2 σ2 H2 (s.trans s2) g2
  | rt d => exact fun v H2 k2 r2 => h v H2 (s.kp2 k2) (by rw [← s.ext]; exact r2)
  | ex n pl => exact fun cls d σ2 H2 hc k2 p2 => h cls d σ2 H2 hc (s.kp2 k2) p2
theorem PostS.exp {K : PySem.W.Frag} {mg : Str → Option Value} {W : WX} {D : Ends} {ow : Ow} {H : Hp} {σ : L2.St} {n : Str} {pl : Option Dt} (h : PostS K mg W D ow H (.ex n pl)) : ExP K mg W σ H n pl :=
  fun cls d H' hc s p => h cls d σ H' hc (Same.kp s) p
/-- X is a def's own body (no comprehension's block) -/
structure TopX (X : Cx) : Prop where
  stk : X.stack = X.env :: X.outer
  fr : X.env.frame = some X.env.locals
def SB (G : Gc) (N : List Str) (sc : Scope) (fn : Str → Bool) (k : Nat) (st : List Stmt) (g : SF) : Prop :=
  ∀ X, Ctx G N sc fn k X → TopX X → ∀ W, Takes X W → PassesOwn (model X.prog X.w) X.A X.env X.xe → PSs X st (tS X.K X.mg W g)
def SS (G : Gc) (N : List Str) (sc : Scope) (fn : Str → Bool) (k : Nat) (st : Stmt) (g : SF) : Prop :=
  ∀ X, Ctx G N sc fn k X → TopX X → ∀ W, Takes X W → PassesOwn (model X.prog X.w) X.A X.env X.xe → PS X st (tS X.K X.mg W g)
def sNop : SF := fun ρ => some (.nx ρ)
def sSeq (g h : SF) : SF := fun ρ => match g ρ with
  | some (.nx ρ') => h ρ'
  | y => y
/-- from a value to a statement's end -/
def bndS (x : Option Rs) (k : Dt → Option Out) : Option Out :=
  match x with
  | some (.val d) => k d
  | some (.exc n pl) => some (.ex n pl)
  | none => none
theorem tE.goS {K : PySem.W.Frag} {mg : Str → Option Value} {W : WX} {b : Bool} {f : EF} {ρ : En} {ow : Ow} {σ : L2.St} {H : Hp} {Q : VK} {k : Dt → Option Out} {o : Out} {D : Ends} (g : Good K ow ρ σ H)
    (e : bndS (f b ρ) k = some o) (post : PostS K mg W D ow H o)
    (hv : ∀ d, k d = some o → ∀ v H', Same H H' → RpB b K ow H' v d → Q v H') : tE K mg W b f σ H Q := by
  cases h : f b ρ with
  | none => rw [h] at e; cases e
  | some q =>
    rw [h] at e
    cases q with
    | val d => exact ⟨ρ, ow, .val d, h, g, fun v H' s q => hv d e v H' s q⟩
    | exc n pl =>
      cases e
      exact ⟨ρ, ow, .exc n pl, h, g, post.exp⟩
theorem tT.goS {K : PySem.W.Frag} {mg : Str → Option Value} {W : WX} {f : EF} {ρ : En} {ow : Ow} {σ : L2.St} {H : Hp} {Q : Bool → Hp → Prop} {k : Dt → Option Out} {o : Out} {D : Ends} (g : Good K ow ρ σ H)
    (e : bndS (f true ρ) k = some o) (post : PostS K mg W D ow H o)
    (hv : ∀ d, k d = some o → ∃ c, tru d = some c ∧ ∀ H', Same H H' → Q c H') : tT K mg W f σ H Q := by
  cases h : f true ρ with
  | none => rw [h] at e; cases e
  | some q =>
    rw [h] at e
    cases q with
    | val d => exact ⟨ρ, ow, .val d, h, g, hv d e⟩
    | exc n pl =>
      cases e
      exact ⟨ρ, ow, .exc n pl, h, g, post.exp⟩

/-! ### slots that own -/
def Ow.put (ow : Ow) (i : Nat) (p : Addr) : Ow := { ow with f := fun j => if j = i then some p else ow.f j }
theorem Ow.put_self (ow : Ow) (i : Nat) (p : Addr) : (ow.put i p).f i = some p := by show (if i = i then some p else ow.f i) = _; rw [if_pos rfl]
theorem Ow.put_ne {ow : Ow} {i j : Nat} {p : Addr} (h : j ≠ i) : (ow.put i p).f j = ow.f j := by show (if j = i then some p else ow.f j) = _; rw [if_neg h]
section
variable {K : PySem.W.Frag} {ow : Ow} {ρ : En} {σ : L2.St} {H : Hp}
theorem Ow.put_stp {i : Nat} {p : Addr} {o : HO} (hp : H p = none) : Stp ow H (ow.put i p) (upd H p o) := by
  refine ⟨Same.kp (Same.upd hp), fun a ⟨j, hj⟩ => ?_, rfl⟩
  by_cases e : j = i
  · subst e; rw [Ow.put_self] at hj; cases hj; exact .inr hp
  · rw [Ow.put_ne e] at hj; exact .inl ⟨j, hj⟩
theorem Good.setO {i : Nat} {p : Addr} {vs : List V} {ds : List Dt} (g : Good K ow ρ σ H) (hi : i < ρ.length) (hp : H p = none) (r : RpAll K (OA ow) H vs ds) : Good K (ow.put i p) (ρ.set i (some (.own ds))) (σ.set i (some (.ref p))) (upd H p (.lst vs)) := by
  have st : Stp ow H (ow.put i p) (upd H p (.lst vs)) := Ow.put_stp hp
  have tr : ∀ j a, ow.f j = some a → a ≠ p := fun j a h => by
    obtain ⟨ys, hy⟩ := g.ok.lst j a h
    exact ne_of_none hy hp
  refine ⟨by rw [List.length_set, List.length_set]; exact g.len, fun j l a h1 h2 => ?_, ⟨fun j a h => ?_, fun a h => Same.dom (Same.upd hp) a (g.ok.ext a h)⟩, fun j a h q => ?_, fun j s h => ?_, fun j a h => ?_⟩
  · by_cases e1 : j = i <;> by_cases e2 : l = i
    · rw [e1, e2]
    · subst e1; rw [Ow.put_self] at h1; cases h1; rw [Ow.put_ne e2] at h2; exact absurd rfl (tr l _ h2)
    · subst e2; rw [Ow.put_self] at h2; cases h2; rw [Ow.put_ne e1] at h1; exact absurd rfl (tr j _ h1)
    · rw [Ow.put_ne e1] at h1; rw [Ow.put_ne e2] at h2; exact g.inj j l a h1 h2
  · by_cases e1 : j = i
    · subst e1; rw [Ow.put_self] at h; cases h; exact ⟨vs, upd_same⟩
    · rw [Ow.put_ne e1] at h
      obtain ⟨ys, hy⟩ := g.ok.lst j a h
      exact ⟨ys, by rw [upd_ne (tr j a h)]; exact hy⟩
  · by_cases e1 : j = i
    · subst e1; rw [Ow.put_self] at h; cases h; exact g.ok.ext _ q hp
    · rw [Ow.put_ne e1] at h; exact g.disj j a h q
  · by_cases e1 : i = j
    · subst e1
      rw [List.getElem?_set_self hi] at h
      cases h
      exact ⟨.ref p, List.getElem?_set_self (by rw [← g.len]; exact hi), p, vs, rfl, Ow.put_self .., upd_same, RpAll.stp g.ok st r⟩
    · rw [List.getElem?_set_ne e1] at h
      rw [List.getElem?_set_ne e1]
      obtain ⟨v, hv, q⟩ := g.slot j s h
      exact ⟨v, hv, q.stp g.ok st (fun _ _ => Ow.put_ne fun e => e1 e.symm) fun a ha o e => by rw [upd_ne (tr j a ha)]; exact e⟩
  · by_cases e1 : i = j
    · subst e1; exact ⟨ds, List.getElem?_set_self hi⟩
    · rw [Ow.put_ne fun e => e1 e.symm] at h
      rw [List.getElem?_set_ne e1]
      exact g.has j a h
/-- an owned list changes -/
theorem Ow.mut_stp {i : Nat} {a : Addr} {o : HO} (hi : ow.f i = some a) : Stp ow H ow (upd H a o) := by
  refine ⟨⟨fun b u h n => ?_, fun b h => ?_⟩, fun b h => .inl h, rfl⟩
  · rw [upd_ne fun e => n ⟨i, by rw [e]; exact hi⟩]; exact h
  · by_cases e : b = a
    · rw [e, upd_same]; exact fun z => nomatch z
    · rw [upd_ne e]; exact h
theorem Good.mut {i : Nat} {a : Addr} {vs : List V} {ds : List Dt} (g : Good K ow ρ σ H) (ha : ow.f i = some a) (r : RpAll K (OA ow) H vs ds) : Good K ow (ρ.set i (some (.own ds))) σ (upd H a (.lst vs)) := by
  have st : Stp ow H ow (upd H a (.lst vs)) := Ow.mut_stp ha
  have hi : i < ρ.length := by
    obtain ⟨xs, hx⟩ := g.has i a ha
    exact (List.getElem?_eq_some_iff.mp hx).1
  refine ⟨by rw [List.length_set]; exact g.len, g.inj, ⟨fun j b h => ?_, fun b h => st.kp.dom b (g.ok.ext b h)⟩, g.disj, fun j s h => ?_, fun j b h => ?_⟩
  · by_cases e : b = a
    · subst e; exact ⟨vs, upd_same⟩
    · obtain ⟨ys, hy⟩ := g.ok.lst j b h
      exact ⟨ys, by rw [upd_ne e]; exact hy⟩
  · by_cases e1 : i = j
    · subst e1
      rw [List.getElem?_set_self hi] at h
      cases h
      obtain ⟨xs, hx⟩ := g.has i a ha
      obtain ⟨v, hv, a', vs', rfl, h2, h3, h4⟩ := g.slot i _ hx
      rw [ha] at h2
      cases h2
      exact ⟨_, hv, a, vs, rfl, ha, upd_same, RpAll.stp g.ok st r⟩
    · rw [List.getElem?_set_ne e1] at h
      obtain ⟨v, hv, q⟩ := g.slot j s h
      refine ⟨v, hv, q.stp g.ok st (fun _ _ => rfl) fun b hb o e => ?_⟩
      rw [upd_ne fun z => e1 (g.inj i j a ha (by rw [← z]; exact hb))]
      exact e
  · by_cases e1 : i = j
    · subst e1; exact ⟨ds, List.getElem?_set_self hi⟩
    · rw [List.getElem?_set_ne e1]; exact g.has j b h
/-- a slot gives up what it owns -/
def unown (i : Nat) (ρ : En) : En := match ρ[i]? with
  | some (some (.own xs)) => ρ.set i (some (.sh (.list xs)))
  | _ => ρ
theorem Good.unown (g : Good K ow ρ σ H) (i : Nat) : Good K (ow.clr [i]) (PT.unown i ρ) σ H := by
  have st := Ow.clr_stp ow [i] H
  unfold PT.unown
  split
  · rename_i xs hx
    have hi : i < ρ.length := (List.getElem?_eq_some_iff.mp hx).1
    refine ⟨by rw [List.length_set]; exact g.len, fun j l a h1 h2 => g.inj j l a (Ow.clr_some h1).1 (Ow.clr_some h2).1, ⟨fun j a h => g.ok.lst j a (Ow.clr_some h).1, g.ok.ext⟩, fun j a h => g.disj j a (Ow.clr_some h).1, fun j s h => ?_, fun j a h => ?_⟩
    · by_cases e1 : i = j
      · subst e1
        rw [List.getElem?_set_self hi] at h
        cases h
        obtain ⟨v, hv, a, vs, rfl, h2, h3, h4⟩ := g.slot i _ hx
        refine ⟨_, hv, .lst h3 (fun q => ?_) (RpAll.stp g.ok st h4)⟩
        rcases q with ⟨j, hj⟩ | q
        · obtain ⟨h5, h6⟩ := Ow.clr_some hj
          exact h6 (by rw [g.inj j i a h5 h2]; exact List.mem_cons_self)
        · exact g.disj i a h2 q
      · rw [List.getElem?_set_ne e1] at h
        obtain ⟨v, hv, q⟩ := g.slot j s h
        exact ⟨v, hv, q.stp g.ok st (fun _ _ => by show (if j ∈ [i] then none else ow.f j) = _; rw [if_neg (by simp; exact fun e => e1 e.symm)]) fun _ _ _ e => e⟩
    · obtain ⟨h1, h2⟩ := Ow.clr_some h
      have : i ≠ j := fun e => h2 (by rw [e]; exact List.mem_cons_self)
      rw [List.getElem?_set_ne this]
      exact g.has j a h1
  · rename_i hn
    have hf : ow.f i = none := by
      cases e : ow.f i with
      | none => rfl
      | some a => obtain ⟨xs, hx⟩ := g.has i a e; exact absurd hx (hn xs)
    refine ⟨g.len, fun j l a h1 h2 => g.inj j l a (Ow.clr_some h1).1 (Ow.clr_some h2).1, ⟨fun j a h => g.ok.lst j a (Ow.clr_some h).1, g.ok.ext⟩, fun j a h => g.disj j a (Ow.clr_some h).1, fun j s h => ?_, fun j a h => g.has j a (Ow.clr_some h).1⟩
    obtain ⟨v, hv, q⟩ := g.slot j s h
    refine ⟨v, hv, q.stp g.ok st (fun xs e => ?_) fun _ _ _ e => e⟩
    have : j ≠ i := fun z => by subst z; subst e; exact hn xs h
    show (if j ∈ [i] then none else ow.f j) = _
    rw [if_neg (by simpa using this)]
/-- a slot is given data -/
theorem Good.setA {i : Nat} {v : V} {d : Dt} (g : Good K ow ρ σ H) (r : Rp K (OA ow) H v d) : Good K (ow.clr [i]) (ρ.set i (some (.sh d))) (σ.set i (some v)) H := by
  have g1 := g.clr [i]
  have r1 : Rp K (OA (ow.clr [i])) H v d := Rp.stp g.ok (Ow.clr_stp ow [i] H) r
  have g2 := g1.set (i := i) (Ow.clr_none i List.mem_cons_self) r1
  have e : (PT.clr ρ [i]).set i (some (.sh d)) = ρ.set i (some (.sh d)) := by
    show (ρ.set i none).set i (some (SV.sh d)) = _
    rw [List.set_set]
  rw [e] at g2
  exact g2
end

section
variable {G : Gc} {N : List Str} {sc : Scope} {fn : Str → Bool} {k : Nat} {pos p p2 : Pos} {st : Stmt} {rest : List Stmt} {a b c : Expr} {f g h : EF} {s1 s2 : SF}
theorem sb_nil : SB G N sc fn k [] sNop := fun X C T W tk hp => PSs.imp pss_nil fun D σ H h => by
  obtain ⟨ρ, ow, o, he, gd, post⟩ := h
  cases he
  exact post ow σ H (Stp.refl ow H) gd
theorem sb_cons (h1 : SS G N sc fn k st s1) (h2 : SB G N sc fn k rest s2) : SB G N sc fn k (st :: rest) (sSeq s1 s2) := fun X C T W tk hp => PSs.imp (pss_cons (h1 X C T W tk hp) (h2 X C T W tk hp)) fun D σ H h => by
  obtain ⟨ρ, ow, o, he, gd, post⟩ := h
  unfold sSeq at he
  cases h1 : s1 ρ with
  | none => rw [h1] at he; cases he
  | some o1 =>
    rw [h1] at he
    refine ⟨ρ, ow, o1, h1, gd, ?_⟩
    cases o1 with
    | nx ρ1 => exact fun ow' σ' H' st' g' => ⟨ρ1, ow', o, he, g', post.stp st'⟩
    | rt d => cases he; exact post
    | ex n pl => cases he; exact post
theorem sb_one (h1 : SS G N sc fn k st s1) : SB G N sc fn k [st] s1 := fun X C T W tk hp => pss_one (h1 X C T W tk hp)
theorem ss_pass : SS G N sc fn k (.Pass pos) sNop := fun X C T W tk hp => PS.imp ps_pass fun D σ H h => by
  obtain ⟨ρ, ow, o, he, gd, post⟩ := h
  cases he
  exact post ow σ H (Stp.refl ow H) gd
theorem ss_unown (i : Nat) (h : SS G N sc fn k st s1) : SS G N sc fn k st (fun ρ => s1 (unown i ρ)) := fun X C T W tk hp => PS.imp (h X C T W tk hp) fun D σ H h => by
  obtain ⟨ρ, ow, o, he, gd, post⟩ := h
  exact ⟨_, _, o, he, gd.unown i, post.stp (Ow.clr_stp ow [i] H)⟩
/-! ### x = e -/
def SAg (G : Gc) (N : List Str) (sc : Scope) (fn : Str → Bool) (k : Nat) (y : Str) (i : Nat) (e : Expr) (f : EF) : Prop :=
  ∀ X, Ctx G N sc fn k X → ∀ W, Takes X W → ∀ py spos, PS X (.Assign [.Name y py] e spos) (tAsg (tE X.K X.mg W false f) (gName i))
def SAgL (G : Gc) (N : List Str) (sc : Scope) (fn : Str → Bool) (k : Nat) (y : Str) (i : Nat) (e : Expr) (f : EF) : Prop :=
  ∀ X, Ctx G N sc fn k X → ∀ W, Takes X W → ∀ py spos, PS X (.Assign [.Name y py] e spos) (tAsg (tL X.K X.mg W f) (gName i))
def SL (G : Gc) (N : List Str) (sc : Scope) (fn : Str → Bool) (k : Nat) (e : Expr) (f : EF) : Prop :=
  ∀ X, Ctx G N sc fn k X → ∀ W, Takes X W → PE X e (tL X.K X.mg W f)
theorem ag_of (i : Nat) {y : Str} (he : SE G N sc fn k a f) (hi : N[i]? = some y := by rfl) (hx : Loc sc y := by first | exact Or.inl rfl | exact Or.inr rfl) (hf : fn y = true ∨ sc.names.lookup y = some .local := by first | exact .inl rfl | exact .inr rfl)
    (hs : ∀ (py : Pos) (l : Nat) (env : PySem.Env), swapsWith a (some (.Name y py)) l env = pure false := by intro _ _ _; rfl) : SAg G N sc fn k y i a f := fun X C W tk py spos =>
  ps_set (by rw [C.hN]; exact C.nd) (by rw [C.hN]; exact hi) (by rw [C.hsc]; exact hx) (he X C W tk false) (hs py spos.line X.env) (by rw [C.hfn, C.hsc]; exact hf)
theorem agL_of (i : Nat) {y : Str} (he : SL G N sc fn k a f) (hi : N[i]? = some y := by rfl) (hx : Loc sc y := by first | exact Or.inl rfl | exact Or.inr rfl) (hf : fn y = true ∨ sc.names.lookup y = some .local := by first | exact .inl rfl | exact .inr rfl)
    (hs : ∀ (py : Pos) (l : Nat) (env : PySem.Env), swapsWith a (some (.Name y py)) l env = pure false := by intro _ _ _; rfl) : SAgL G N sc fn k y i a f := fun X C W tk py spos =>
  ps_set (by rw [C.hN]; exact C.nd) (by rw [C.hN]; exact hi) (by rw [C.hsc]; exact hx) (he X C W tk) (hs py spos.line X.env) (by rw [C.hfn, C.hsc]; exact hf)
def sSet (i : Nat) (f : EF) : SF := fun ρ => bndS (f false ρ) fun d => some (.nx (ρ.set i (some (.sh d))))
def sSetO (i : Nat) (f : EF) : SF := fun ρ => bndS (f true ρ) fun d => match d with
  | .list ds => if i < ρ.length then some (.nx (ρ.set i (some (.own ds)))) else none
  | _ => none
theorem ss_set {i : Nat} {y : Str} (h : SAg G N sc fn k y i a f) : SS G N sc fn k (.Assign [.Name y p] a pos) (sSet i f) := fun X C T W tk hp => PS.imp (h X C W tk p pos) fun D σ H h => by
  obtain ⟨ρ, ow, o, he, gd, post⟩ := h
  refine tE.goS gd he post fun d hd v H1 s1 r1 => ?_
  cases hd
  exact post (ow.clr [i]) _ H1 ((Same.stp s1).trans (Ow.clr_stp ow [i] H1)) ((gd.same s1).setA r1.rp)
theorem ss_setO {i : Nat} {y : Str} (h : SAgL G N sc fn k y i a f) : SS G N sc fn k (.Assign [.Name y p] a pos) (sSetO i f) := fun X C T W tk hp => PS.imp (h X C W tk p pos) fun D σ H h => by
  obtain ⟨ρ, ow, o, he, gd, post⟩ := h
  unfold sSetO at he
  cases h1 : f true ρ with
  | none => rw [h1] at he; cases he
  | some r1 =>
    rw [h1] at he
    cases r1 with
    | exc n pl => cases he; exact ⟨ρ, ow, _, h1, gd, post.exp⟩
    | val d =>
      simp only [bndS] at he
      split at he
      · rename_i ds
        split at he
        · rename_i hi
          cases he
          exact ⟨ρ, ow, _, h1, gd, ds, rfl, fun q vs H1 s1 hq r1 => post _ _ _ ((Same.stp s1).trans (Ow.put_stp hq)) ((gd.same s1).setO hi hq r1)⟩
        · cases he
      · cases he
/-! fresh lists -/
theorem sl_lst {es : List Expr} {ar : AF} (h : SAs G N sc fn k es ar) : SL G N sc fn k (.List es pos) (eLst ar) := fun X C W tk => PE.imp (pe_lst (h.pa X C W tk)) fun σ H Q h => by
  obtain ⟨ρ, ow, rs, he, gd, post⟩ := h
  refine tA.go gd he (fun n pl e => by subst e; exact post) fun ds hd vs H1 s1 r1 => ?_
  split at hd
  · rename_i hz
    cases hd
    obtain ⟨ds', e, post⟩ := post
    cases e
    exact ⟨by rw [r1.length]; exact lim_le hz, fun p hp => post p vs H1 s1 hp r1⟩
  · cases hd
theorem sl_list (B : Bi G) (ha : SE G N sc fn k a f) (hg : GL sc "list" := by rfl) (ns : NS a := by intro _ _; rfl) : SL G N sc fn k (.Call (.Name "list" p) [a] [] pos) (eUn dList f) := fun X C W tk =>
  PE.imp (pe_callTy call_list_of (C.gl hg) (by rw [C.hmg]; exact B.list) PyProof.Rows.boot_list (pa_cons (ha X C W tk true) pa_nil (ns [] X.env)) (by decide) (by decide) (ns [] X.env) rfl) fun σ H Q h => by
    obtain ⟨ρ, ow, rs, he, gd, post⟩ := h
    refine tE.go gd he (fun n pl e => by subst e; exact post) fun d hd1 v H1 s1 r1 => ?_
    unfold dList at hd1
    split at hd1
    · cases hd1
      obtain ⟨ds', e, post⟩ := post
      cases e
      obtain ⟨q, vs, rfl, h1, r⟩ := r1.list
      exact ⟨q, vs, rfl, .inl (SqL.of h1), fun l hl => post l vs H1 s1 hl r⟩
    · cases hd1
      obtain ⟨ds', e, post⟩ := post
      cases e
      obtain ⟨q, vs, rfl, h1, r⟩ := r1.tuple
      exact ⟨q, vs, rfl, .inr (SqT.of h1), fun l hl => post l vs H1 s1 hl r⟩
    · cases hd1
theorem tL_op {K : PySem.W.Frag} {mg : Str → Option Value} {W : WX} {op : Dt → Dt → Option Dt} {r : R2} {σ : L2.St} {H : Hp} {Q : VK} (h : tL K mg W (eBin op f g) σ H Q)
    (hr : ∀ x y H1 ow dx dy ds, RpB true K ow H1 x dx → RpB true K ow H1 y dy → op dx dy = some (.list ds) → (∀ p vs, H1 p = none → RpAll K (OA ow) H1 vs ds → Q (.ref p) (upd H1 p (.lst vs))) → r x y H1 Q) : tOp r (tE K mg W true f) (tE K mg W true g) σ H Q := by
  obtain ⟨ρ, ow, rs, he, gd, post⟩ := h
  refine tE.go gd he (fun n pl e => by subst e; exact post) fun d hd1 v H1 s1 r1 => ?_
  refine tE.go (gd.same s1) hd1 (fun n pl e => by subst e; exact ExP.same post s1) fun d2 hd2 v2 H2 s2 r2 => ?_
  cases hz : op d d2 with
  | none => rw [hz] at hd2; cases hd2
  | some dz =>
    rw [hz] at hd2
    cases hd2
    obtain ⟨ds, rfl, post⟩ := post
    exact hr v v2 H2 ow d d2 ds (r1.same s2) r2 hz fun p vs hp rv => post p vs H2 (s1.trans s2) hp rv
theorem sl_add (ha : SE G N sc fn k a f) (hb : SE G N sc fn k b g) : SL G N sc fn k (.BinOp a .Add b pos) (eBin dAdd f g) := fun X C W tk => PE.imp (pe_op op_cat (ha X C W tk true) (hb X C W tk true)) fun σ H Q h => tL_op h fun x y H1 ow dx dy ds rx ry e post => by
  unfold dAdd at e
  split at e
  · cases e
  · split at e <;> cases e
  · split at e
    · rename_i hz
      cases e
      obtain ⟨a, vs, rfl, h1, r1⟩ := rx.list
      obtain ⟨b, ws, rfl, h2, r2⟩ := ry.list
      exact ⟨a, b, vs, ws, rfl, rfl, h1, h2, by rw [r1.length, r2.length]; exact lim_le hz, fun p hp => post p _ hp (r1.append r2)⟩
    · cases e
  · split at e <;> cases e
  · cases e
theorem sl_mul (ha : SE G N sc fn k a f) (hb : SE G N sc fn k b g) : SL G N sc fn k (.BinOp a .Mult b pos) (eBin dMul f g) := fun X C W tk => PE.imp (pe_op op_rep (ha X C W tk true) (hb X C W tk true)) fun σ H Q h => tL_op h fun x y H1 ow dx dy ds rx ry e post => by
  unfold dMul at e
  split at e
  · split at e <;> cases e
  · split at e
    · rename_i xs j hz
      cases e
      obtain ⟨a, vs, rfl, h1, r1⟩ := rx.list
      obtain rfl := ry.int
      exact ⟨a, j, vs, rfl, rfl, h1, by omega, by omega, by rw [r1.length]; exact lim_le hz.1, fun p hp => post p _ hp (r1.rep _)⟩
    · cases e
  · split at e <;> cases e
  · cases e
theorem sl_sl {lo hi : Option Expr} {ol oh : En → Option (Option Int)} (ha : SE G N sc fn k a f) (hl : SO G N sc fn k lo ol) (hh : SO G N sc fn k hi oh) : SL G N sc fn k (.Subscript a (.Slice lo hi none p2) pos) (eSl f ol oh) := fun X C W tk =>
  PE.imp (pe_slice L2.sl_list (ha X C W tk true) (hl X C W tk) (hh X C W tk)) fun σ H Q h => by
    obtain ⟨ρ, ow, rs, he, gd, post⟩ := h
    refine tE.go gd he (fun n pl e => by subst e; exact post) fun d hd1 v H1 s1 r1 => ?_
    split at hd1
    · rename_i l u hl hu
      refine ⟨ρ, ow, l, hl, gd.same s1, fun H2 s2 => ⟨ρ, ow, u, hu, gd.same (s1.trans s2), fun H3 s3 => ?_⟩⟩
      have r3 := r1.same (s2.trans s3)
      cases d with
      | list xs =>
        cases hd1
        obtain ⟨ds, e, post⟩ := post
        cases e
        obtain ⟨a, vs, rfl, h1, r⟩ := r3.list
        exact ⟨a, vs, rfl, SqL.of h1, fun p hp => post p _ H3 ((s1.trans s2).trans s3) hp (r.cut l u)⟩
      | tuple xs => cases hd1; obtain ⟨ds, e, post⟩ := post; cases e
      | str z =>
        simp only [dSl] at hd1
        split at hd1
        · cases hd1; obtain ⟨ds, e, post⟩ := post; cases e
        · cases hd1
      | none => cases hd1
      | bool _ => cases hd1
      | int _ => cases hd1
      | dict _ => cases hd1
    · cases hd1
/-! a comprehension given to a name -/
section
variable {elt iter tg : Expr} {ifs : List Expr} {scope : Scope} {own : List (Str × Nat)} {it : IF} {gf : GF} {cf ef : EF} {y : Str} {py spos : Pos}
theorem tLc_val {X : Cx} {W : WX} {σ : L2.St} {H : Hp} {Q : VK} {ρ : En} {ow : Ow} {r : Rs} (he' : eLc (own.map (·.2)) gf it cf ef false ρ = some r) (gd : Good X.K ow ρ σ H)
    (hx : ∀ n pl, r = .exc n pl → ExP X.K X.mg W σ H n pl)
    (hv : ∀ ys, r = .val (.list ys) → ∀ p vs H2, Same H H2 → H2 p = none → RpAll X.K (OA ow) H2 vs ys → Q (.ref p) (upd H2 p (.lst vs))) :
    tLc (tI X.K X.mg W true it) (tG X.K (own.map (·.2)) gf) (tT X.K X.mg (fun _ _ _ _ => False) cf) (tE X.K X.mg (fun _ _ _ _ => False) false ef) (own.map (·.2)) σ H Q := by
  unfold eLc at he'
  cases h1 : it true ρ with
  | none => rw [h1] at he'; cases he'
  | some ir =>
    rw [h1] at he'
    cases ir with
    | exc n pl => cases he'; exact ⟨ρ, ow, _, h1, gd, hx n pl rfl⟩
    | it xs =>
      simp only at he'
      split at he'
      · rename_i hc
        rw [Bool.and_eq_true, decide_eq_true_eq] at hc
        cases h2 : lcL cf ef gf (clr ρ (own.map (·.2))) xs with
        | none => rw [h2] at he'; cases he'
        | some ys =>
          rw [h2] at he'
          cases he'
          refine ⟨ρ, ow, _, h1, gd, fun J H' s' wd => ?_⟩
          exact lc_sound (gd.same s') (noOwn_of gd hc.1) wd h2 hc.2 fun p vs H2 s2 hp rv => hv ys rfl p vs H2 (s'.trans s2) hp rv
      · cases he'
theorem eLc_val {sl : List Nat} {b : Bool} {ρ : En} {d : Dt} (h : eLc sl gf it cf ef b ρ = some (.val d)) : ∃ ys, d = .list ys := by
  unfold eLc at h
  split at h
  · split at h
    · cases e : lcL cf ef gf (clr ρ sl) _ with
      | none => rw [e] at h; cases h
      | some ys => rw [e] at h; cases h; exact ⟨ys, rfl⟩
    · cases h
  · cases h
  · cases h
theorem ag_lc (i : Nat) (hi : SI G N sc fn k tg iter it) (ok : blkC N sc scope own = true) (hg : SG G N (relS scope sc) (fun x => scope.names.lookup x == some .cell) k tg (own.map (·.2)) gf)
    (ht : STs G N (relS scope sc) (fun x => scope.names.lookup x == some .cell) k ifs cf) (he : SE G N (relS scope sc) (fun x => scope.names.lookup x == some .cell) k elt ef)
    (hy : N[i]? = some y := by rfl) (hyl : sc.names.lookup y = some .local := by rfl) (hk : sc.kind = .function := by rfl) (ha : (scope.names.any fun (n, k) => n == y && (k == .local || k == .cell)) = false := by decide +kernel) (hln : (p.line == pos.line) = true := by rfl) (hs : ∀ env x, foldedSetIterable iter env x = pure x := by intro _ _; rfl) :
    SS G N sc fn k (.Assign [.Name y p] (.ListComp elt [⟨tg, iter, ifs, 0⟩] scope pos) spos) (sSet i (eLc (own.map (·.2)) gf it cf ef)) := fun X C T W tk hp => by
  have ok' := blkOk_by ok
  refine PS.imp (ps_setLc (i := i) (own := own) (g := tG X.K (own.map (·.2)) gf) (tt := tT X.K X.mg (fun _ _ _ _ => False) cf) (te := tE X.K X.mg (fun _ _ _ _ => False) false ef) C.calm (by rw [C.hN]; exact C.nd) (by rw [C.hN]; exact hy) (by rw [C.hsc]; exact hyl)
    (sw_true (by rw [C.hsc]; exact hk) (by rw [C.hsc]; exact hyl) hln ha) (hi X C W tk true) (by rw [C.hN, C.hsc]; exact ok') (fun s H C' cl fp => hg _ (C.blk s H scope C' cl fp)) (fun s H C' cl fp => ht _ (C.blk s H scope C' cl fp) (fun _ _ _ _ => False) takes0)
    (fun s H C' cl fp => he _ (C.blk s H scope C' cl fp) (fun _ _ _ _ => False) takes0 false) (hs X.env)) fun D σ H h => ?_
  obtain ⟨ρ, ow, o, he', gd, post⟩ := h
  unfold sSet at he'
  cases h1 : eLc (own.map (·.2)) gf it cf ef false ρ with
  | none => rw [h1] at he'; cases he'
  | some r =>
    rw [h1] at he'
    refine tLc_val (W := W) h1 gd (fun n pl e => ?_) fun ys e p vs H2 s2 hp rv => ?_
    · subst e; cases he'; exact post.exp
    · subst e
      cases he'
      have s3 : Same H (upd H2 p (.lst vs)) := s2.trans (Same.upd hp)
      exact post (ow.clr [i]) _ _ ((Same.stp s3).trans (Ow.clr_stp ow [i] _)) ((gd.same s3).setA (.lst upd_same ((gd.ok.same s2).new hp) (RpAll.same (Same.upd hp) rv)))
theorem ag_lcO (i : Nat) (hi : SI G N sc fn k tg iter it) (ok : blkC N sc scope own = true) (hg : SG G N (relS scope sc) (fun x => scope.names.lookup x == some .cell) k tg (own.map (·.2)) gf)
    (ht : STs G N (relS scope sc) (fun x => scope.names.lookup x == some .cell) k ifs cf) (he : SE G N (relS scope sc) (fun x => scope.names.lookup x == some .cell) k elt ef)
    (hy : N[i]? = some y := by rfl) (hyl : sc.names.lookup y = some .local := by rfl) (hk : sc.kind = .function := by rfl) (ha : (scope.names.any fun (n, k) => n == y && (k == .local || k == .cell)) = false := by decide +kernel) (hln : (p.line == pos.line) = true := by rfl) (hs : ∀ env x, foldedSetIterable iter env x = pure x := by intro _ _; rfl) :
    SS G N sc fn k (.Assign [.Name y p] (.ListComp elt [⟨tg, iter, ifs, 0⟩] scope pos) spos) (sSetO i (eLc (own.map (·.2)) gf it cf ef)) := fun X C T W tk hp => by
  have ok' := blkOk_by ok
  refine PS.imp (ps_setLc (i := i) (own := own) (g := tG X.K (own.map (·.2)) gf) (tt := tT X.K X.mg (fun _ _ _ _ => False) cf) (te := tE X.K X.mg (fun _ _ _ _ => False) false ef) C.calm (by rw [C.hN]; exact C.nd) (by rw [C.hN]; exact hy) (by rw [C.hsc]; exact hyl)
    (sw_true (by rw [C.hsc]; exact hk) (by rw [C.hsc]; exact hyl) hln ha) (hi X C W tk true) (by rw [C.hN, C.hsc]; exact ok') (fun s H C' cl fp => hg _ (C.blk s H scope C' cl fp)) (fun s H C' cl fp => ht _ (C.blk s H scope C' cl fp) (fun _ _ _ _ => False) takes0)
    (fun s H C' cl fp => he _ (C.blk s H scope C' cl fp) (fun _ _ _ _ => False) takes0 false) (hs X.env)) fun D σ H h => ?_
  obtain ⟨ρ, ow, o, he', gd, post⟩ := h
  unfold sSetO at he'
  cases h1 : eLc (own.map (·.2)) gf it cf ef true ρ with
  | none => rw [h1] at he'; cases he'
  | some r =>
    rw [h1] at he'
    refine tLc_val (W := W) h1 gd (fun n pl e => ?_) fun ys e p vs H2 s2 hp rv => ?_
    · subst e; cases he'; exact post.exp
    · subst e
      simp only [bndS] at he'
      split at he'
      · rename_i hi
        cases he'
        exact post _ _ _ ((Same.stp s2).trans (Ow.put_stp hp)) ((gd.same s2).setO hi hp rv)
      · cases he'
end
end
end PT

namespace PT
open PySem PySem.Spec PyProof.Rows L2
section
variable {G : Gc} {N : List Str} {sc : Scope} {fn : Str → Bool} {k : Nat} {pos p p2 q1 q2 q3 : Pos} {st : Stmt} {rest : List Stmt} {a b c : Expr} {f g h : EF} {s1 s2 : SF}
/-! ### unpacking a tuple -/
def sUnp (sl : List Nat) (gf : GF) (f : EF) : SF := fun ρ => bndS (f false ρ) fun d => (gf d (clr ρ sl)).map .nx
theorem ss_unp {tg : Expr} {sl : List Nat} {gf : GF} (he : SE G N sc fn k a f) (hg : SG G N sc fn k tg sl gf)
    (hs : ∀ (l : Nat) (env : PySem.Env), swapsWithSole [tg] a l env = pure false := by intro _ _; rfl) (hw : ∀ env : PySem.Env, swappedStores [tg] a env = pure none := by intro _; rfl)
    (h1 : ∀ env : PySem.Env, (assignEach [tg] env).map (·.2) = [assign tg env] := by intro _; rfl) : SS G N sc fn k (.Assign [tg] a pos) (sUnp sl gf f) := fun X C T W tk hp =>
  PS.imp (ps_asg (he X C W tk false) (hg X C) (hs _ X.env) (hw X.env) (h1 X.env)) fun D σ H h => by
    obtain ⟨ρ, ow, o, he, gd, post⟩ := h
    refine tE.goS gd he post fun d hd v H1 s1 r1 => ?_
    cases hz : gf d (clr ρ sl) with
    | none => rw [hz] at hd; cases hd
    | some ρ1 =>
      rw [hz] at hd
      cases hd
      have g1 := (gd.same s1).clr sl
      exact ⟨clr ρ sl, ow.clr sl, d, ρ1, Ow.clr_none, hz, g1, Rp.stp (gd.ok.same s1) (Ow.clr_stp ow sl H1) r1.rp, fun σ' g' _ _ => post _ σ' H1 ((Same.stp s1).trans (Ow.clr_stp ow sl H1)) g'⟩
theorem sw_const {x y : Str} {px py : Pos} {kt k2 j1 j2 : Nat} {pt pt2 : Pos} {c1 c2 : Const} (env : PySem.Env) :
    swappedStores [.Tuple [.Name x px, .Name y py] kt pt] (.Tuple [.Constant c1 j1 q1, .Constant c2 j2 q2] k2 pt2) env = pure none := by
  unfold swappedStores
  simp [foldedForSure]
/-! ### a, b = e1, e2 -/
def sPar (i j : Nat) (f g : EF) : SF := fun ρ => bndS (f false ρ) fun x => bndS (g false ρ) fun y => if i < ρ.length then some (.nx ((ρ.set i (some (.sh x))).set j (some (.sh y)))) else none
theorem sw_par {x y : Str} {px py : Pos} {kt k2 : Nat} {pt pt2 : Pos} {env : PySem.Env} (hk : env.scope.kind = .function) (hx : env.scope.names.lookup x = some .local) (hy : env.scope.names.lookup y = some .local) (hl : (px.line == py.line) = true) (hxy : (x == y) = false)
    (hst : ([a, b].any fun | .Starred .. => true | _ => false) = false) (hc : [a, b].all (constantsAlone 8) = false) (hf : [a, b].all (foldedForSure 8) = false) :
    swappedStores [.Tuple [.Name x px, .Name y py] kt pt] (.Tuple [a, b] k2 pt2) env = pure (some [x, y]) := by
  have hb : env.blockKind = .function := by unfold Env.blockKind; rw [hk]; rfl
  have kx : env.kindOf x = some .local := hx
  have ky : env.kindOf y = some .local := hy
  have e1 : px.line = py.line := by simpa using hl
  have hne : x ≠ y := by simpa using hxy
  have hne2 : (y == x) = false := by simp; exact fun e => hne e.symm
  unfold swappedStores
  simp only [hc, hf, hb, kx, ky, e1]
  simp [List.eraseDups_cons, hxy, hne2, kx, ky, e1, Expr.pos]
  intro hq
  simp only [List.any_cons, List.any_nil, Bool.or_false, Bool.or_eq_false_iff] at hst
  rcases hq with hq | hq
  · exact absurd ((hst.1.symm.trans hq : false = true)) (by decide)
  · exact absurd ((hst.2.symm.trans hq : false = true)) (by decide)
theorem tPar_of {K : PySem.W.Frag} {mg : Str → Option Value} {W : WX} {i j : Nat} {D : Ends} {σ : L2.St} {H : Hp} (h : tS K mg W (sPar i j f g) D σ H) : tPar i j (tCons (tE K mg W false f) (tCons (tE K mg W false g) tNil)) D σ H := by
  obtain ⟨ρ, ow, o, he, gd, post⟩ := h
  refine tE.goS gd he post fun d hd v H1 s1 r1 => ?_
  refine tE.goS (gd.same s1) hd (post.stp (Same.stp s1)) fun d2 hd2 v2 H2 s2 r2 => ?_
  split at hd2
  · cases hd2
    refine ⟨v, v2, rfl, ?_⟩
    have g1 := ((gd.same (s1.trans s2)).setA (i := i) (Rp.same s2 r1.rp))
    have g2 := g1.setA (i := j) (Rp.stp (gd.ok.same (s1.trans s2)) (Ow.clr_stp ow [i] H2) r2.rp)
    exact post _ _ H2 (((Same.stp (s1.trans s2)).trans (Ow.clr_stp ow [i] H2)).trans (Ow.clr_stp (ow.clr [i]) [j] H2)) g2
  · cases hd2
theorem ss_par (i j : Nat) {x y : Str} {px py : Pos} {kt k2 : Nat} {pt pt2 : Pos} (ha : SE G N sc fn k a f) (hb : SE G N sc fn k b g) (hi : N[i]? = some x := by rfl) (hj : N[j]? = some y := by rfl) (hij : i ≠ j := by decide)
    (hk : sc.kind = .function := by rfl) (hx : sc.names.lookup x = some .local := by rfl) (hy : sc.names.lookup y = some .local := by rfl) (hl : (px.line == py.line) = true := by rfl) (hxy : (x == y) = false := by decide)
    (hst : ([a, b].any fun | .Starred .. => true | _ => false) = false := by rfl) (hc : [a, b].all (constantsAlone 8) = false := by rfl) (hf : [a, b].all (foldedForSure 8) = false := by rfl)
    (hs : ∀ (l : Nat) (env : PySem.Env), swapsWithSole [.Tuple [.Name x px, .Name y py] kt pt] (.Tuple [a, b] k2 pt2) l env = pure false := by intro _ _; rfl) (ns : NS a := by intro _ _; rfl) (ns2 : NS b := by intro _ _; rfl) :
    SS G N sc fn k (.Assign [.Tuple [.Name x px, .Name y py] kt pt] (.Tuple [a, b] k2 pt2) pos) (sPar i j f g) := fun X C T W tk hp =>
  PS.imp (ps_par C.calm (by rw [C.hN]; exact C.nd) (by rw [C.hN]; exact hi) (by rw [C.hN]; exact hj) hij (by rw [C.hsc]; exact hx) (by rw [C.hsc]; exact hy) (pa_cons (ha X C W tk false) (pa_cons (hb X C W tk false) pa_nil (ns2 _ X.env)) (ns _ X.env))
    (sw_par (by rw [C.hsc]; exact hk) (by rw [C.hsc]; exact hx) (by rw [C.hsc]; exact hy) hl hxy hst hc hf) (hs _ X.env)) fun D σ H h => tPar_of h
/-- a, b = [..], e: a new list, and data -/
def sParO (i j : Nat) (f g : EF) : SF := fun ρ => bndS (f true ρ) fun x => bndS (g false ρ) fun y => match x with
  | .list ds => if i < ρ.length then some (.nx ((ρ.set i (some (.own ds))).set j (some (.sh y)))) else none
  | _ => none
theorem List_set_two {α : Type} (l : List α) {i j : Nat} (h : i ≠ j) (x y : α) : (l.set i x).set j y = (l.set j y).set i x := List.set_comm _ _ h
/-! ### x op= e (ints) -/
def sAug (i : Nat) (op : Dt → Dt → Option Dt) (f : EF) : SF := fun ρ => match ρ[i]? with
  | some (some (.sh x)) => bndS (f true ρ) fun y => (op x y).map fun z => .nx (ρ.set i (some (.sh z)))
  | _ => none
theorem ss_aug (i : Nat) {y : Str} {op : Operator} {r : R2} {dop : Dt → Dt → Option Dt} (ho : ∀ X : Cx, OpR X (inplaceOp op) r) (hd : ∀ K, RD K r dop) (ha : SE G N sc fn k a f) (hi : N[i]? = some y) (hx : Loc sc y) (hf : fn y = true ∨ sc.names.lookup y = some .local) :
    SS G N sc fn k (.AugAssign (.Name y p) op a pos) (sAug i dop f) := fun X C T W tk hp =>
  PS.imp (ps_aug (ti := r) (by rw [C.hN]; exact C.nd) (by rw [C.hN]; exact hi) (by rw [C.hsc]; exact hx) (ha X C W tk true) (fun pins s σ H x y v u Q I rx ry q => ho X pins s σ H x y v u Q I rx ry q) (by rw [C.hfn, C.hsc]; exact hf)) fun D σ H h => by
    obtain ⟨ρ, ow, o, he, gd, post⟩ := h
    unfold sAug at he
    split at he
    · rename_i x hx
      obtain ⟨v, hv, rv⟩ := gd.slot i _ hx
      refine ⟨v, hv, tE.goS gd he post fun d hd1 v1 H1 s1 r1 => ?_⟩
      cases hz : dop x d with
      | none => rw [hz] at hd1; cases hd1
      | some z =>
        rw [hz] at hd1
        cases hd1
        exact hd X.K v v1 H1 _ ow x d z (gd.ok.same s1) (.inl (Rp.same s1 rv)) r1 hz fun v' H' s' q => post _ _ H' ((Same.stp (s1.trans s')).trans (Ow.clr_stp ow [i] H')) ((gd.same (s1.trans s')).setA q)
    · cases he
def dAddI : Dt → Dt → Option Dt
  | .int i, .int j => some (.int (i + j))
  | _, _ => none
theorem rd_addI (K : PySem.W.Frag) : RD K (rI0 fun i j => .int (i + j)) dAddI := by
  intro x y H Q ow dx dy dz ok rx ry e post
  unfold dAddI at e
  split at e
  · cases e
    obtain rfl := rx.int
    obtain rfl := ry.int
    exact ⟨_, _, rfl, rfl, post _ H (Same.refl H) (.int _)⟩
  · cases e
def dMulI : Dt → Dt → Option Dt := dI (fun i j => sml i || sml j) fun i j => i * j
def dDivI : Dt → Dt → Option Dt := dI (fun _ j => decide (0 < j) && decide (j < 1073741824)) fun i j => i / j
theorem ss_augAdd (i : Nat) {y : Str} (ha : SE G N sc fn k a f) (hi : N[i]? = some y := by rfl) (hx : Loc sc y := by first | exact Or.inl rfl | exact Or.inr rfl) (hf : fn y = true ∨ sc.names.lookup y = some .local := by first | exact .inl rfl | exact .inr rfl) : SS G N sc fn k (.AugAssign (.Name y p) .Add a pos) (sAug i dAddI f) :=
  ss_aug i (fun X => iop_add) rd_addI ha hi hx hf
theorem ss_augMul (i : Nat) {y : Str} (ha : SE G N sc fn k a f) (hi : N[i]? = some y := by rfl) (hx : Loc sc y := by first | exact Or.inl rfl | exact Or.inr rfl) (hf : fn y = true ∨ sc.names.lookup y = some .local := by first | exact .inl rfl | exact .inr rfl) : SS G N sc fn k (.AugAssign (.Name y p) .Mult a pos) (sAug i dMulI f) :=
  ss_aug i (fun X => iop_mul) (fun K => rd_I fun i j h => by simpa [sml, CMul] using h) ha hi hx hf
theorem ss_augDiv (i : Nat) {y : Str} (ha : SE G N sc fn k a f) (hi : N[i]? = some y := by rfl) (hx : Loc sc y := by first | exact Or.inl rfl | exact Or.inr rfl) (hf : fn y = true ∨ sc.names.lookup y = some .local := by first | exact .inl rfl | exact .inr rfl) : SS G N sc fn k (.AugAssign (.Name y p) .FloorDiv a pos) (sAug i dDivI f) :=
  ss_aug i (fun X => iop_fdiv) (fun K => rd_I fun i j h => by simpa [CDiv] using h) ha hi hx hf
/-! ### lists that a slot owns: append, extend, xs[i] = e -/
def sApp (i : Nat) (f : EF) : SF := fun ρ => match ρ[i]? with
  | some (some (.own xs)) => bndS (f false ρ) fun d => if xs.length < lim then some (.nx (ρ.set i (some (.own (xs ++ [d]))))) else none
  | _ => none
theorem own_at {K : PySem.W.Frag} {ow : Ow} {ρ : En} {σ : L2.St} {H : Hp} {i : Nat} {xs : List Dt} (gd : Good K ow ρ σ H) (h : ρ[i]? = some (some (.own xs))) : ∃ a vs, σ[i]? = some (some (.ref a)) ∧ ow.f i = some a ∧ H a = some (.lst vs) ∧ RpAll K (OA ow) H vs xs := by
  obtain ⟨v, hv, a, vs, rfl, h2, h3, h4⟩ := gd.slot i _ h
  exact ⟨a, vs, hv, h2, h3, h4⟩
theorem pe_vr {X : Cx} (C : Ctx G N sc fn k X) (i : Nat) {x : Str} {q : Pos} (hN : N[i]? = some x) (hv : Vis sc x) (hd : (x == ("__debug__" : Str)) = false) (hcd : (x == ("__classdict__" : Str)) = false) : PE X (.Name x q) (tVar i) :=
  pe_var (by rw [C.hN]; exact hN) (by rw [C.hsc]; exact hv) hd hcd
theorem ss_app (i : Nat) {x : Str} (ha : SE G N sc fn k a f) (hN : N[i]? = some x := by rfl) (hv : Vis sc x := by first | exact Or.inl rfl | exact Or.inr (Or.inl rfl) | exact Or.inr (Or.inr rfl)) (hd : (x == ("__debug__" : Str)) = false := by decide) (hcd : (x == ("__classdict__" : Str)) = false := by decide)
    (ns : NS a := by intro _ _; rfl) (hb : ∀ env : PySem.Env, attributeBase (.Name x q1) "append" env (eval (.Name x q1) env) = eval (.Name x q1) env := by intro _; rfl) (hln : (q2.endLine == q3.line) = true := by rfl) :
    SS G N sc fn k (.Expr (.Call (.Attribute (.Name x q1) "append" q2) [a] [] q3) pos) (sApp i f) := fun X C T W tk hp =>
  PS.imp (ps_expr (pe_bm PySem.F.plainAttrs_list PySem.F.slot_list_append PySem.F.type_list_append mt_append (pe_vr C i hN hv hd hcd) (pa_cons (ha X C W tk false) pa_nil (ns _ X.env)) (hb X.env) (by rw [ns [] X.env]; rfl) hln (ns _ X.env) rfl)) fun D σ H h => by
    obtain ⟨ρ, ow, o, he, gd, post⟩ := h
    unfold sApp at he
    split at he
    · rename_i xs hx
      obtain ⟨a', vs, hs, ho, hH, rv⟩ := own_at gd hx
      refine ⟨_, hs, .inl ⟨rfl, vs, SqL.of hH⟩, tE.goS gd he post fun d hd1 v1 H1 s1 r1 => ?_⟩
      split at hd1
      · rename_i hz
        cases hd1
        refine ⟨a', vs, v1, rfl, rfl, s1 _ _ hH, by rw [rv.length]; exact Nat.lt_of_lt_of_le hz (by decide), ?_⟩
        exact post ow σ _ ((Same.stp s1).trans (Ow.mut_stp ho)) ((gd.same s1).mut ho (RpAll.snoc (RpAll.same s1 rv) r1.rp))
      · cases hd1
    · cases he
def sExt (i : Nat) (f : EF) : SF := fun ρ => match ρ[i]? with
  | some (some (.own xs)) => bndS (f true ρ) fun d => (match d with
    | .list ys => if xs.length + ys.length ≤ lim then some (.nx (ρ.set i (some (.own (xs ++ ys))))) else none
    | _ => none)
  | _ => none
theorem ss_ext (i : Nat) {x : Str} (ha : SE G N sc fn k a f) (hN : N[i]? = some x := by rfl) (hv : Vis sc x := by first | exact Or.inl rfl | exact Or.inr (Or.inl rfl) | exact Or.inr (Or.inr rfl)) (hd : (x == ("__debug__" : Str)) = false := by decide) (hcd : (x == ("__classdict__" : Str)) = false := by decide)
    (ns : NS a := by intro _ _; rfl) (hb : ∀ env : PySem.Env, attributeBase (.Name x q1) "extend" env (eval (.Name x q1) env) = eval (.Name x q1) env := by intro _; rfl) (hln : (q2.endLine == q3.line) = true := by rfl) :
    SS G N sc fn k (.Expr (.Call (.Attribute (.Name x q1) "extend" q2) [a] [] q3) pos) (sExt i f) := fun X C T W tk hp =>
  PS.imp (ps_expr (pe_bm PySem.F.plainAttrs_list PySem.F.slot_list_extend PySem.F.type_list_extend mt_extend (pe_vr C i hN hv hd hcd) (pa_cons (ha X C W tk true) pa_nil (ns _ X.env)) (hb X.env) (by rw [ns [] X.env]; rfl) hln (ns _ X.env) rfl)) fun D σ H h => by
    obtain ⟨ρ, ow, o, he, gd, post⟩ := h
    unfold sExt at he
    split at he
    · rename_i xs hx
      obtain ⟨a', vs, hs, ho, hH, rv⟩ := own_at gd hx
      refine ⟨_, hs, .inl ⟨rfl, vs, SqL.of hH⟩, tE.goS gd he post fun d hd1 v1 H1 s1 r1 => ?_⟩
      split at hd1
      · split at hd1
        · rename_i ys hz
          cases hd1
          obtain ⟨b', ws, rfl, hb, rw'⟩ := r1.list
          refine ⟨a', b', vs, ws, rfl, rfl, s1 _ _ hH, hb, by rw [rv.length, rw'.length]; exact lim_le hz, ?_⟩
          exact post ow σ _ ((Same.stp s1).trans (Ow.mut_stp ho)) ((gd.same s1).mut ho ((RpAll.same s1 rv).append rw'))
        · cases hd1
      · cases hd1
    · cases he
/-- x[e1] = e2, x owned; e2 first, then e1 -/
def sPut (i : Nat) (f g : EF) : SF := fun ρ => match ρ[i]? with
  | some (some (.own xs)) => bndS (g false ρ) fun d => bndS (f true ρ) fun j => (match j with
    | .int m => (match ixN xs.length m with
      | some n => some (.nx (ρ.set i (some (.own (xs.set n d)))))
      | none => none)
    | _ => none)
  | _ => none
theorem ss_put (i : Nat) {x : Str} (ha : SE G N sc fn k a f) (hb : SE G N sc fn k b g) (hN : N[i]? = some x := by rfl) (hv : Vis sc x := by first | exact Or.inl rfl | exact Or.inr (Or.inl rfl) | exact Or.inr (Or.inr rfl)) (hd : (x == ("__debug__" : Str)) = false := by decide) (hcd : (x == ("__classdict__" : Str)) = false := by decide)
    (hsa : ∀ (env : PySem.Env) v, assign (.Subscript (.Name x q1) a q2) env v = (do
      let ov ← holding [v] (eval (.Name x q1) env)
      let iv ← holding [v, ov] (eval a env)
      standAt q2
      holding [v, ov, iv] (setItem ov iv v)
      release [v, ov, iv] []) := by intro _ _; rfl)
    (hs : ∀ (l : Nat) (env : PySem.Env), swapsWithSole [.Subscript (.Name x q1) a q2] b l env = pure false := by intro _ _; rfl) (hw : ∀ env : PySem.Env, swappedStores [.Subscript (.Name x q1) a q2] b env = pure none := by intro _; rfl)
    (h1 : ∀ env : PySem.Env, (assignEach [.Subscript (.Name x q1) a q2] env).map (·.2) = [assign (.Subscript (.Name x q1) a q2) env] := by intro _; rfl) :
    SS G N sc fn k (.Assign [.Subscript (.Name x q1) a q2] b pos) (sPut i f g) := fun X C T W tk hp =>
  PS.imp (ps_asg (hb X C W tk false) (pg_sub (pe_vr C i hN hv hd hcd) (ha X C W tk true) set_list (hsa X.env)) (hs _ X.env) (hw X.env) (h1 X.env)) fun D σ H h => by
    obtain ⟨ρ, ow, o, he, gd, post⟩ := h
    unfold sPut at he
    split at he
    · rename_i xs hx
      obtain ⟨a', vs, hs, ho, hH, rv⟩ := own_at gd hx
      refine tE.goS gd he post fun d hd1 v1 H1 s1 r1 => ⟨_, hs, tE.goS (gd.same s1) hd1 (post.stp (Same.stp s1)) fun d2 hd2 v2 H2 s2 r2 => ?_⟩
      split at hd2
      · split at hd2
        · rename_i m _ n hn
          cases hd2
          obtain rfl := r2.int
          refine ⟨a', vs, m, n, rfl, rfl, s2 _ _ (s1 _ _ hH), by rw [rv.length]; exact hn, ?_⟩
          exact post ow σ _ ((Same.stp (s1.trans s2)).trans (Ow.mut_stp ho)) ((gd.same (s1.trans s2)).mut ho (RpAll.set (Rp.same s2 r1.rp) n (RpAll.same (s1.trans s2) rv)))
        · cases hd2
      · cases hd2
    · cases he
/-! ### e; return e; raise; if -/
def sDo (f : EF) : SF := fun ρ => bndS (f true ρ) fun _ => some (.nx ρ)
theorem ss_do (ha : SE G N sc fn k a f) (hs : ∀ (l : Nat) (env : PySem.Env), swapsWith a none l env = pure false := by intro _ _; rfl) : SS G N sc fn k (.Expr a pos) (sDo f) := fun X C T W tk hp =>
  PS.imp (ps_expr (ha X C W tk true) (hs _ X.env)) fun D σ H h => by
    obtain ⟨ρ, ow, o, he, gd, post⟩ := h
    refine tE.goS gd he post fun d hd v H1 s1 r1 => ?_
    cases hd
    exact post ow σ H1 (Same.stp s1) (gd.same s1)
def sRet (f : EF) : SF := fun ρ => bndS (f true ρ) fun d => some (.rt d)
theorem ss_ret (ha : SE G N sc fn k a f) : SS G N sc fn k (.Return (some a) pos) (sRet f) := fun X C T W tk hp =>
  PS.imp (ps_ret (ha X C W tk true)) fun D σ H h => by
    obtain ⟨ρ, ow, o, he, gd, post⟩ := h
    refine tE.goS gd he post fun d hd v H1 s1 r1 => ?_
    cases hd
    exact post v H1 (Same.kp s1) r1.out
/-- an own exception class without an own __init__ -/
def ExcC (G : Gc) (x : Str) : Prop := ∃ C, G.mg x = some (.ref C) ∧ PySem.W.excIn G.K C [.type "ValueError", .type "Exception", .type "BaseException", .type "object"] "ValueError.__new__" = true ∧ PySem.W.keepIn G.K (.ref C) = true ∧ PySem.W.subIn G.K (.ref C) (.type "BaseException") = some true ∧ PySem.W.typeIn G.K (.ref C) = some (.type "type")
def sRaise (x : Str) : SF := fun _ => some (.ex x none)
theorem ss_raise {x m : Str} {j : Nat} {q : Pos} (E : ExcC G x) (hg : GL sc x := by rfl) (hdb : (x == ("__debug__" : Str)) = false := by decide) : SS G N sc fn k (.Raise (some (.Call (.Name x p) [.Constant (.str m) j p2] [] q)) none pos) (sRaise x) := fun X C T W tk hp => by
  obtain ⟨A, h1, h2, h3, h4, h5⟩ := E
  refine PS.imp (ps_raise C.calm tk (pmk_own PySem.F.excBase_ValueError (by rw [C.hK]; exact h2) (by rw [C.hmg]; exact h1) (by rw [C.hK]; exact h3) (raises_own (by rw [C.hK]; exact h4) (by rw [C.hK]; exact h5)) (C.gl hg) hdb)) fun D σ H h => ?_
  obtain ⟨ρ, ow, o, he, gd, post⟩ := h
  cases he
  exact post _ _ σ H (by rw [C.hmg]; exact h1) (Same.kp (Same.refl H)) rfl
def sIf (c : EF) (g h : SF) : SF := fun ρ => bndS (c true ρ) fun x => match tru x with
  | some true => g ρ
  | some false => h ρ
  | none => none
theorem ss_if {as bs : List Stmt} (hc : ST G N sc fn k c f) (ha : SB G N sc fn k as s1) (hb : SB G N sc fn k bs s2) : SS G N sc fn k (.If c as bs pos) (sIf f s1 s2) := fun X C T W tk hp =>
  PS.imp (ps_if (hc X C W tk) (ha X C T W tk hp) (hb X C T W tk hp)) fun D σ H h => by
    obtain ⟨ρ, ow, o, he, gd, post⟩ := h
    refine tT.goS gd he post fun d hd => ?_
    split at hd
    · rename_i hc
      exact ⟨true, hc, fun H1 s1 => by rw [if_pos rfl]; exact ⟨ρ, ow, o, hd, gd.same s1, post.stp (Same.stp s1)⟩⟩
    · rename_i hc
      exact ⟨false, hc, fun H1 s1 => by rw [if_neg Bool.false_ne_true]; exact ⟨ρ, ow, o, hd, gd.same s1, post.stp (Same.stp s1)⟩⟩
    · cases hd
/-! ### for -/
def forL (sl : List Nat) (tg : GF) (body : SF) : List Dt → En → Option Out
  | [], ρ => some (.nx ρ)
  | x :: xs, ρ => match tg x (clr ρ sl) with
    | none => none
    | some ρ1 => match body ρ1 with
      | some (.nx ρ2) => forL sl tg body xs ρ2
      | y => y
def sFor (sl : List Nat) (tg : GF) (it : IF) (body : SF) : SF := fun ρ => match it false ρ with
  | some (.it xs) => forL sl tg body xs ρ
  | some (.exc n pl) => some (.ex n pl)
  | none => none
theorem ss_for {tg iter : Expr} {body : List Stmt} {sl : List Nat} {gf : GF} {it : IF} (hi : SI G N sc fn k tg iter it) (hg : SG G N sc fn k tg sl gf) (hb : SB G N sc fn k body s1) (hs : ∀ (env : PySem.Env) x, foldedSetIterable iter env x = pure x := by intro _ _; rfl) :
    SS G N sc fn k (.For tg iter body [] pos) (sFor sl gf it s1) := fun X C T W tk hp =>
  PS.imp (ps_for hp C.calm (hi X C W tk false) (hg X C) (hb X C T W tk hp) (hs X.env)) fun D σ H h => by
    obtain ⟨ρ, ow, o, he, gd, post⟩ := h
    unfold sFor at he
    cases h1 : it false ρ with
    | none => rw [h1] at he; cases he
    | some ir =>
      rw [h1] at he
      cases ir with
      | exc n pl => cases he; exact ⟨ρ, ow, _, h1, gd, post.exp⟩
      | it xs =>
        simp only at he
        refine ⟨ρ, ow, _, h1, gd, fun J H1 sH1 wd => ?_⟩
        have post1 := post.stp (Same.stp sH1)
        let Wv : Nat → Nat → L2.St → Hp → Prop := fun i m σ' H' => m = xs.length - i ∧ i ≤ xs.length ∧ ∃ ρ' ow', forL sl gf s1 (xs.drop i) ρ' = some o ∧ Stp ow H1 ow' H' ∧ Good X.K ow' ρ' σ' H'
        refine ⟨Wv, ⟨xs.length, by simp, Nat.zero_le _, ρ, ow, by simpa using he, Stp.refl ow H1, gd.same sH1⟩, ?_⟩
        rintro i m σ' H' ⟨rfl, hi, ρ', ow', hf, st', g'⟩
        have wd1 := wd ow' H' st' g'.ok
        by_cases hlt : i < xs.length
        · right
          rw [List.drop_eq_getElem_cons hlt] at hf
          refine ⟨wd1.go i hlt, fun σ2 H2 => Wv (i + 1) (xs.length - (i + 1)) σ2 H2, fun σ2 H2 h => ⟨_, by omega, h⟩, fun x H2 y => ?_⟩
          obtain ⟨s2, d, hd, rx⟩ := wd1.yld i x H2 hlt y
          have hd' : xs[i] = d := by rw [List.getElem?_eq_getElem hlt] at hd; exact Option.some.inj hd
          rw [hd'] at hf
          unfold forL at hf
          have g2 := g'.same s2
          cases ht : gf d (clr ρ' sl) with
          | none => rw [ht] at hf; cases hf
          | some ρ1 =>
            rw [ht] at hf
            simp only at hf
            refine ⟨clr ρ' sl, ow'.clr sl, d, ρ1, Ow.clr_none, ht, g2.clr sl, Rp.stp g2.ok (Ow.clr_stp ow' sl H2) rx, fun σ3 g3 _ _ => ?_⟩
            cases hbd : s1 ρ1 with
            | none => rw [hbd] at hf; cases hf
            | some o1 =>
              rw [hbd] at hf
              have st3 : Stp ow H1 (ow'.clr sl) H2 := (st'.trans (Same.stp s2)).trans (Ow.clr_stp ow' sl H2)
              refine ⟨ρ1, ow'.clr sl, o1, hbd, g3, ?_⟩
              cases o1 with
              | nx ρ2 => exact fun ow4 σ4 H4 st4 g4 => ⟨rfl, hlt, ρ2, ow4, hf, st3.trans st4, g4⟩
              | rt dd => cases hf; exact post1.stp st3
              | ex n pl => cases hf; exact post1.stp st3
        · left
          have e : i = xs.length := by omega
          subst e
          rw [List.drop_length] at hf
          cases hf
          exact ⟨wd1.stop, post1 ow' σ' H' st' g'⟩
/-! ### while -/
def whl (c : EF) (body : SF) : Nat → En → Option Out
  | 0, _ => none
  | n + 1, ρ => bndS (c true ρ) fun x => match tru x with
    | some true => (match body ρ with
      | some (.nx ρ') => whl c body n ρ'
      | y => y)
    | some false => some (.nx ρ)
    | none => none
def sWhile (m : Nat) (c : EF) (body : SF) : SF := whl c body m
theorem ss_while (m : Nat) {body : List Stmt} (hc : ST G N sc fn k c f) (hb : SB G N sc fn k body s1) : SS G N sc fn k (.While c body [] pos) (sWhile m f s1) := fun X C T W tk hp =>
  PS.imp (ps_while hp (hc X C W tk) (hb X C T W tk hp)) fun D σ H h => by
    obtain ⟨ρ, ow, o, he, gd, post⟩ := h
    refine ⟨fun n σ' H' => ∃ ρ' ow', whl f s1 n ρ' = some o ∧ Stp ow H ow' H' ∧ Good X.K ow' ρ' σ' H', ⟨m, ρ, ow, he, Stp.refl ow H, gd⟩, ?_⟩
    rintro n σ' H' ⟨ρ', ow', hw, st', g'⟩
    cases n with
    | zero => cases hw
    | succ n =>
      unfold whl at hw
      refine tT.goS g' hw (post.stp st') fun d hd => ?_
      split at hd
      · rename_i hc
        refine ⟨true, hc, fun H1 s1' => ?_⟩
        rw [if_pos rfl]
        refine ⟨fun σ2 H2 => ∃ ρ' ow', whl f s1 n ρ' = some o ∧ Stp ow H ow' H2 ∧ Good X.K ow' ρ' σ2 H2, fun σ2 H2 h => ⟨n, Nat.lt_succ_self n, h⟩, ?_⟩
        cases hbd : s1 ρ' with
        | none => rw [hbd] at hd; cases hd
        | some o1 =>
          rw [hbd] at hd
          have st1 := st'.trans (Same.stp s1')
          refine ⟨ρ', ow', o1, hbd, g'.same s1', ?_⟩
          cases o1 with
          | nx ρ2 => exact fun ow4 σ4 H4 st4 g4 => ⟨ρ2, ow4, hd, st1.trans st4, g4⟩
          | rt dd => cases hd; exact post.stp st1
          | ex n pl => cases hd; exact post.stp st1
      · rename_i hc
        cases hd
        refine ⟨false, hc, fun H1 s1' => ?_⟩
        rw [if_neg Bool.false_ne_true]
        exact post ow' σ' H1 (st'.trans (Same.stp s1')) (g'.same s1')
      · cases hd
end

/-! ## a def -/
def start0 (n : Nat) (ds : List Dt) : En := ds.map (fun d => some (.sh d)) ++ List.replicate (n - ds.length) none
def runB (n : Nat) (g : SF) (ds : List Dt) : Option Rs := match g (start0 n ds) with
  | some (.rt d) => some (.val d)
  | some (.nx _) => some (.val .none)
  | some (.ex n pl) => some (.exc n pl)
  | none => none
theorem RpAll.start {K : PySem.W.Frag} {O : Addr → Prop} {H : Hp} {ow : Ow} (hO : OA ow = O) : ∀ {vs : List V} {ds : List Dt}, RpAll K O H vs ds → ∀ (i : Nat) (s : SV), (ds.map (fun d => some (SV.sh d)))[i]? = some (some s) → ∃ v, (vs.map some)[i]? = some (some v) ∧ SlotOk K ow i H v s := by
  intro vs ds r i s h
  rw [List.getElem?_map] at h
  cases e : ds[i]? with
  | none => rw [e] at h; cases h
  | some d =>
    rw [e] at h
    cases h
    obtain ⟨v, hv, q⟩ := r.get e
    exact ⟨v, by rw [List.getElem?_map, hv]; rfl, by show Rp K (OA ow) H v d; rw [hO]; exact q⟩
theorem good0 {K : PySem.W.Frag} {O : Addr → Prop} {H : Hp} {vs : List V} {ds : List Dt} {N : List Str} (hO : ∀ a, O a → H a ≠ none) (r : RpAll K O H vs ds) : Good K ⟨fun _ => none, O⟩ (start0 N.length ds) (L2.start N vs) H := by
  have hOA : OA ⟨fun _ => none, O⟩ = O := by
    funext a
    apply propext
    constructor
    · rintro (⟨i, hi⟩ | h)
      · cases hi
      · exact h
    · exact fun h => .inr h
  refine ⟨?_, fun i j a h => (nomatch h), ⟨fun i a h => (nomatch h), hO⟩, fun i a h => (nomatch h), fun i s h => ?_, fun i a h => (nomatch h)⟩
  · unfold start0 L2.start
    rw [List.length_append, List.length_append, List.length_map, List.length_map, List.length_replicate, List.length_replicate, r.length]
  · unfold start0 at h
    unfold L2.start
    by_cases hi : i < ds.length
    · rw [List.getElem?_append_left (by rw [List.length_map]; exact hi)] at h
      obtain ⟨v, hv, q⟩ := r.start hOA i s h
      exact ⟨v, by rw [List.getElem?_append_left (by rw [List.length_map, r.length]; exact hi)]; exact hv, q⟩
    · rw [List.getElem?_append_right (by rw [List.length_map]; omega)] at h
      rw [List.getElem?_replicate] at h
      split at h
      · cases h
      · cases h
theorem fn_okD {G : Gc} {x qual : Str} {params : Arguments} {body : List Stmt} {scope : Scope} {f : Addr} {fd : FuncData} {N ps : List Str} {k : Nat} {g : SF} {F : List Dt → Option Rs} (Fu : FunD G.K x qual params body scope [] [] f fd) (S : FnScope N ps scope)
    (hB : SB G N scope (fun x => true) k body g) (hF : ∀ ds r, ds.length = ps.length → F ds = some r → runB N.length g ds = some r) : FnOk G.P G.w G.K G.mg G.base (L2.CX G.P G.w) (k + 1) f fd ps (spF G.K G.mg ps.length F) := by
  refine Fu.ok S (fun vs H Q E h => h.1) fun cdv A outer s H vs Q E hr h => ?_
  obtain ⟨hl, O, ds, r, hO, rv, hFd, post⟩ := h
  refine ⟨_, hB _ ⟨rfl, rfl, rfl, rfl, rfl, rfl, S.nd, rfl, rfl, rfl, hr⟩ ⟨rfl, rfl⟩ _ (takes_of (E := E) rfl rfl rfl rfl) (passes_of rfl), ?_⟩
  have hrun := hF ds r (by rw [← rv.length]; exact hl) hFd
  unfold runB at hrun
  cases hg : g (start0 N.length ds) with
  | none => rw [hg] at hrun; cases hrun
  | some o =>
    rw [hg] at hrun
    refine ⟨start0 N.length ds, ⟨fun _ => none, O⟩, o, hg, good0 hO rv, ?_⟩
    have hk : ∀ {H' : Hp}, Kp ⟨fun _ => none, O⟩ H H' → Same H H' := fun kp a o h => kp.keep a o h fun ⟨i, hi⟩ => by cases hi
    cases o with
    | nx ρ' => cases hrun; exact fun ow' σ' H' st' g' => post .non H' (hk st'.kp) .non
    | rt d => cases hrun; exact fun v H' kp r' => post v H' (hk kp) r'
    | ex n pl => cases hrun; exact fun cls d σ' H' hc kp pk => post cls d H' hc (hk kp) pk
theorem fn_is {G : Gc} {x qual : Str} {params : Arguments} {body : List Stmt} {scope : Scope} {f : Addr} {fd : FuncData} {N ps : List Str} {k : Nat} {g : SF} {F : List Dt → Option Rs} (hm : G.mg x = some (.ref f)) (Fu : FunD G.K x qual params body scope [] [] f fd) (S : FnScope N ps scope) (hb : Binds G.K fd ps [])
    (hB : SB G N scope (fun x => true) k body g) (hF : ∀ ds r, ds.length = ps.length → F ds = some r → runB N.length g ds = some r) : FnIs G x (k + 1) ps.length F :=
  ⟨f, fd, ps, hm, Fu.kp, hb, rfl, fn_okD Fu S hB hF⟩
/-! ## the law's promise -/
theorem law_sp {K : PySem.W.Frag} {mg : Str → Option Value} {F : List Dt → Option Rs} (hF : ∀ ns : List Int, ns.length ≤ 63 → F [scr ns] = some (.val (.bool true))) (H : Hp) (a : Addr) (ns : List Int) (hl : ns.length ≤ 63) (hO : Only H) (hS : SqL K H a (ns.map V.int)) :
    spF K mg 1 F [.ref a] H (fun v _ => v = .bl true) fun _ _ _ => False := by
  have hs : ScrAt K H a ns := by
    rcases hS with (h | ⟨o, h⟩) | h
    · rcases hO a with z | ⟨o, xs, z⟩
      · rw [z] at h; cases h
      · rw [z] at h; cases h
    · exact .inl ⟨o, h⟩
    · exact .inr h
  refine ⟨rfl, NoO, [scr ns], _, fun _ z => z.elim, .cons (.scr hs) .nil, hF ns hl, fun v H' s' r' => ?_⟩
  cases r'
  rfl
end PT

namespace PT
open PySem PySem.Spec PyProof.Rows L2

/-! ## zip and enumerate over lists and tuples, in any mix -/
def SIt (k : Bool) (h : Heap) (it a : Addr) (i : Nat) : Prop := match k with
  | true => h.IsListIter it a i
  | false => h.IsTupleIter it a i
def SHp (k : Bool) (h : Heap) (a : Addr) (its : Array Value) : Prop := match k with
  | true => h.IsList a its
  | false => h.IsTuple a its
def SAt (k : Bool) (K : PySem.W.Frag) (H : Hp) (a : Addr) (xs : List V) : Prop := match k with
  | true => SqL K H a xs
  | false => SqT K H a xs
def sOb (k : Bool) (a : Addr) : Obj := match k with
  | true => { cls := .type "list_iterator", data := .fields #[.ref a, .int 0 0] }
  | false => { cls := .type "tuple_iterator", data := .fields #[.ref a, .int 0 0] }
theorem draws {prog : Program} {w : World} {A : Around} (hh : A.handled = none) (k : Bool) (it a : Addr) (hne : a ≠ it) (items : Array Value) :
    Draws prog w A it [it, a] items.size (fun i v => items[i]? = some v) (fun i h => SIt k h it a i ∧ SHp k h a items) := by
  cases k
  · exact Draws.tuple hh it a hne items
  · exact Draws.list hh it a hne items
theorem begins (k : Bool) (a : Addr) (items : Array Value) : Begins (.ref a) (sOb k a) fun h => SHp k h a items := by
  cases k
  · exact begins_tuple a items
  · exact begins_list a items
theorem SIt.at {k : Bool} {h h' : Heap} {it a : Addr} {i : Nat} (s : SIt k h it a i) (e : ∀ o, h.get? it = some o → h'.get? it = some o) : SIt k h' it a i := by
  cases k
  · have s : h.IsTupleIter it a i := s
    exact s.at e
  · have s : h.IsListIter it a i := s
    exact s.at e
theorem SIt.new {k : Bool} {h : Heap} {it a : Addr} (e : h.get? it = some (sOb k a)) : SIt k h it a 0 := by
  cases k
  · exact ⟨_, e, rfl, rfl⟩
  · exact ⟨_, e, rfl, rfl⟩
theorem SIt.obj {k : Bool} {h : Heap} {it a : Addr} {i : Nat} (s : SIt k h it a i) : ∃ o, h.get? it = some o ∧ ∀ v, o.data ≠ .cell v := by
  cases k
  · obtain ⟨o, e, _, d⟩ := (show h.IsTupleIter it a i from s); exact ⟨o, e, fun v z => by rw [d] at z; cases z⟩
  · obtain ⟨o, e, _, d⟩ := (show h.IsListIter it a i from s); exact ⟨o, e, fun v z => by rw [d] at z; cases z⟩
theorem SHp.lt {k : Bool} {h : Heap} {a : Addr} {its : Array Value} (s : SHp k h a its) : a < h.objs.size := by
  cases k
  · obtain ⟨o, e, _⟩ := (show h.IsTuple a its from s); exact Heap.lt_size e
  · obtain ⟨o, e, _⟩ := (show h.IsList a its from s); exact Heap.lt_size e
section
variable {X : Cx} {pins : List (Addr × Obj)} {σ : L2.St} {H : Hp} {s : Shared} {a : Addr} {xs ys : List V}
theorem src_at (I : Inv X pins σ H s) {k : Bool} (h : SAt k X.K H a xs) : ∃ its : List Value, Vals xs its ∧ SHp k s.heap a its.toArray ∧ xs.length ≤ sizeLine := by
  cases k
  · obtain ⟨its, r, p, z⟩ := I.tuple h; exact ⟨its, r, p, z⟩
  · obtain ⟨its, r, p, z⟩ := I.list h; exact ⟨its, r, p.isList, z⟩
theorem src_inj (I : Inv X pins σ H s) {k : Bool} (h : SAt k X.K H a xs) (h' : SAt k X.K H a ys) : xs = ys := by
  cases k
  · exact I.tuple_inj h h'
  · exact I.list_inj h h'
end
/-- zip -/
def Izm (k1 k2 : Bool) (K : PySem.W.Frag) (a b : Addr) : It :=
  ⟨fun i H => ∃ (xs ys : List V) (x y : V), SAt k1 K H a xs ∧ SAt k2 K H b ys ∧ xs[i]? = some x ∧ ys[i]? = some y,
    fun i H v H' => ∃ T x y, v = .ref T ∧ H T = none ∧ H' = upd H T (.tup [x, y]) ∧ (∀ xs, SAt k1 K H a xs → xs[i]? = some x) ∧ ∀ ys, SAt k2 K H b ys → ys[i]? = some y,
    fun i H => ∃ xs ys : List V, SAt k1 K H a xs ∧ SAt k2 K H b ys ∧ i = min xs.length ys.length⟩
theorem turn_zm {P : Program} {w : World} {K : PySem.W.Frag} {elts : List Expr} {kk : Nat} {tpos : Pos} (k1 k2 : Bool) {a b z TI TO i1 i2 : Addr} (S : ZipSep2 z TI TO i1 i2 [i1, a] [i2, b]) (ne1 : a ≠ i1) (ne2 : b ≠ i2) :
    Turn P w K (.Tuple elts kk tpos) (Izm k1 k2 K a b) [z, TI, TO, i1, i2] z (fun i h => IsZip h z TI TO .none ∧ IsTupOf2 h TI (.ref i1) (.ref i2) ∧ (∃ x y, IsTupOf2 h TO x y) ∧ SIt k1 h i1 a i ∧ SIt k2 h i2 b i) where
  mem := by simp
  obj := fun i h st c hc => by
    obtain ⟨hz, hTI, ⟨x, y, hTO⟩, h1, h2⟩ := st
    have e' : c = z ∨ c = TI ∨ c = TO ∨ c = i1 ∨ c = i2 := by simpa using hc
    rcases e' with q | q | q | q | q
    · rw [q]; exact ⟨_, hz, fun v q => nomatch q⟩
    · rw [q]; exact ⟨_, hTI, fun v q => nomatch q⟩
    · rw [q]; exact ⟨_, hTO, fun v q => nomatch q⟩
    · rw [q]; exact h1.obj
    · rw [q]; exact h2.obj
  keep := fun i h h' st k => by
    obtain ⟨hz, hTI, ⟨x, y, hTO⟩, h1, h2⟩ := st
    exact ⟨k z (by simp) _ hz, k TI (by simp) _ hTI, ⟨x, y, k TO (by simp) _ hTO⟩, h1.at fun o q => k i1 (by simp) o q, h2.at fun o q => k i2 (by simp) o q⟩
  item := by
    intro X hP hw hK hc i pins s σ H E I hf st hg
    subst hP hw hK
    obtain ⟨hz, hTI, hTO, h1, h2⟩ := st
    obtain ⟨xs, ys, x, y, hqx, hqy, hx, hy⟩ := hg
    obtain ⟨its, rv, p, _⟩ := src_at I hqx
    obtain ⟨its2, rv2, p2, _⟩ := src_at I hqy
    obtain ⟨u, hu, ru⟩ := rv.get hx
    obtain ⟨u2, hu2, ru2⟩ := rv2.get hy
    have hh : X.A.in1.handled = none := I.ok.hd hc
    have W := GoesN.zip2 (elts := elts) (x1 := kk) (pos := tpos) S (draws (prog := X.prog) (w := X.w) hh k1 i1 a ne1 its.toArray) (draws hh k2 i2 b ne2 its2.toArray)
    have hi1 : i < its.length := (List.getElem?_eq_some_iff.mp hu).1
    have hi2 : i < its2.length := (List.getElem?_eq_some_iff.mp hu2).1
    refine W.goes i s _ _ (by simp; omega) ⟨hz, hTI, hTO, ⟨h1, p⟩, ⟨h2, p2⟩⟩ fun v h' tk hY st' hk htk => ?_
    obtain ⟨T, ux, uy, rfl, hT, hux, huy, hTT⟩ := hY
    obtain ⟨hz', hTI', hTO', ⟨h1', _⟩, ⟨h2', _⟩⟩ := st'
    have ex : ux = u := by
      have q : its[i]? = some ux := by simpa using hux
      rw [hu] at q; exact (Option.some.inj q).symm
    have ey : uy = u2 := by
      have q : its2[i]? = some uy := by simpa using huy
      rw [hu2] at q; exact (Option.some.inj q).symm
    subst ex ey
    have new : ObjOk X.prog X.w (upd H T (.tup [x, y])) h' T (.tup [x, y]) :=
      ⟨by show 2 ≤ sizeLine; decide, [ux, uy], .cons ru (.cons ru2 .nil), hTT⟩
    have I1 : Inv X pins σ (upd H T (.tup [x, y])) { s with heap := h', toks := tk } :=
      I.turnedNew (t' := tk) (ch := [z, TI, TO, i1, i2]) (fun c o hb q => hk c o (fun q' => hb (by
        have e' : c = z ∨ c = TO ∨ c = i1 ∨ c = i2 := by simpa using q'
        rcases e' with q | q | q | q <;> simp [q])) q) hf hT new
    refine ⟨.ref T, _, I1, rfl, ⟨T, x, y, rfl, I.hok.fresh hT, rfl, fun l hl => by rw [src_inj I hl hqx]; exact hx, fun l hl => by rw [src_inj I hl hqy]; exact hy⟩, ⟨hz', hTI', hTO', h1', h2'⟩, fun c hcm => ?_⟩
    have hlt : c < s.heap.objs.size := by
      have e' : c = z ∨ c = TI ∨ c = TO ∨ c = i1 ∨ c = i2 := by simpa using hcm
      rcases e' with q | q | q | q | q
      · rw [q]; exact Heap.lt_size hz
      · rw [q]; exact Heap.lt_size hTI
      · obtain ⟨_, _, hTO⟩ := hTO; rw [q]; exact Heap.lt_size hTO
      · obtain ⟨_, e1, _⟩ := h1.obj; rw [q]; exact Heap.lt_size e1
      · obtain ⟨_, e1, _⟩ := h2.obj; rw [q]; exact Heap.lt_size e1
    rw [upd_ne (Nat.ne_of_lt (Nat.lt_of_lt_of_le hlt hT))]
    exact (hf c hcm).1
  done := by
    intro X hP hw hK hc i pins s σ H E I hf st hg
    subst hP hw hK
    obtain ⟨hz, hTI, hTO, h1, h2⟩ := st
    obtain ⟨xs, ys, hqx, hqy, hend⟩ := hg
    obtain ⟨its, rv, p, _⟩ := src_at I hqx
    obtain ⟨its2, rv2, p2, _⟩ := src_at I hqy
    have hh : X.A.in1.handled = none := I.ok.hd hc
    have W := GoesN.zip2 (elts := elts) (x1 := kk) (pos := tpos) S (draws (prog := X.prog) (w := X.w) hh k1 i1 a ne1 its.toArray) (draws hh k2 i2 b ne2 its2.toArray)
    have hn : i = min its.toArray.size its2.toArray.size := by simp [hend, rv.length, rv2.length]
    subst hn
    refine W.stops s (fun s1 => Inv X pins σ H s1) E ⟨hz, hTI, hTO, ⟨h1, p⟩, ⟨h2, p2⟩⟩ fun h' tk hk htk => ?_
    exact I.turnedL (t' := tk) (ch := [z, TI, TO, i1, i2]) (fun c o hb q => hk c o (fun q' => hb (by
        have e' : c = z ∨ c = TO ∨ c = i1 ∨ c = i2 := by simpa using q'
        rcases e' with q | q | q | q <;> simp [q])) q) hf
  self := fun A i s Q E st h => wpAny_pyIter_zip st.1 h
theorem ne_off {n k m : Nat} (h : m < n) : m ≠ n + k := by omega
theorem sep_of {n a b : Nat} (ha : a < n) (hb : b < n) : ZipSep2 (n + 4) (n + 2) (n + 3) n (n + 1) [n, a] [n + 1, b] :=
  zip_sep2 (fp1 := [a]) (fp2 := [b]) (fun c hc => by rw [List.mem_singleton.mp hc]; exact ha) fun c hc => by rw [List.mem_singleton.mp hc]; exact hb
def iZm (K : PySem.W.Frag) (ta : TA) : TI := fun σ H R => ta σ H fun vs H1 => ∃ a b k1 k2 xs ys, vs = [.ref a, .ref b] ∧ SAt k1 K H1 a xs ∧ SAt k2 K H1 b ys ∧ R (Izm k1 k2 K a b) H1
theorem pi_zm {X : Cx} {e e2 : Expr} {ta : TA} {p pos tpos : Pos} {elts : List Expr} {kk : Nat} (hg : Gl X "zip") (hm : X.mg "zip" = none) (ha : PA X [e, e2] ta)
    (hs : starEach [e, e2] X.env = (false, eval e X.env) :: starEach [e2] X.env) (hpl : (backTo pos (starEach [e2] X.env)).any (·.1) = false) :
    PI X (.Tuple elts kk tpos) (.Call (.Name "zip" p) [e, e2] [] pos) (iZm X.K ta) := by
  refine ⟨fun pins s σ H R I h => ?_⟩
  refine Call_ (ld_blt I hg hm PyProof.Rows.boot_zip (PyProof.Rows.callWith_type1 (thn (ha.run pos pins s σ H _ I h) fun us s1 ⟨vs, H1, I1, r1, q1⟩ => ?_) hs hpl))
  obtain ⟨a, b, k1, k2, xs, ys, ex, hqx, hqy, q⟩ := q1
  subst ex
  cases r1 with
  | cons r rr =>
    cases rr with
    | cons r' rr =>
      cases rr
      cases r
      cases r'
      obtain ⟨its, rv, p1, _⟩ := src_at I1 hqx
      obtain ⟨its2, rv2, p2, _⟩ := src_at I1 hqy
      have la : a < s1.heap.objs.size := p1.lt
      have lb : b < s1.heap.objs.size := p2.lt
      refine zip_begins2 (begins k1 a its.toArray) (begins k2 b its2.toArray) p1 p2 fun h' hz hTI hTO g1 g2 hsz hk => wpAny_pyIter_zip hz ?_
      have I2 : Inv X pins σ H1 { s1 with heap := h' } := I1.kept (t' := s1.toks) hk
      refine ⟨s1.heap.objs.size + 4, [s1.heap.objs.size + 4, s1.heap.objs.size + 2, s1.heap.objs.size + 3, s1.heap.objs.size, s1.heap.objs.size + 1], _, _, H1, rfl, I2, turn_zm k1 k2 (sep_of la lb) (Nat.ne_of_lt la) (ne_off lb), ⟨hz, hTI, ⟨_, _, hTO⟩, SIt.new g1, SIt.new g2⟩, fun c hcm => ?_, q⟩
      have e' : c = s1.heap.objs.size + 4 ∨ c = s1.heap.objs.size + 2 ∨ c = s1.heap.objs.size + 3 ∨ c = s1.heap.objs.size ∨ c = s1.heap.objs.size + 1 := by simpa using hcm
      have hle : s1.heap.objs.size ≤ c := by
        rcases e' with z | z | z | z | z
        · rw [z]; exact Nat.le_add_right _ _
        · rw [z]; exact Nat.le_add_right _ _
        · rw [z]; exact Nat.le_add_right _ _
        · rw [z]; exact Nat.le_refl _
        · rw [z]; exact Nat.le_add_right _ _
      exact I1.fpOk hle (I1.hok.fresh hle)
/-- enumerate -/
def Iem (k : Bool) (K : PySem.W.Frag) (a : Addr) : It :=
  ⟨fun i H => ∃ (xs : List V) (x : V), SAt k K H a xs ∧ xs[i]? = some x,
    fun i H v H' => ∃ T x, v = .ref T ∧ H T = none ∧ H' = upd H T (.tup [.int (i : Nat), x]) ∧ (∀ xs, SAt k K H a xs → xs[i]? = some x),
    fun i H => ∃ xs : List V, SAt k K H a xs ∧ i = xs.length⟩
theorem turn_em {P : Program} {w : World} {K : PySem.W.Frag} {elts : List Expr} {kk : Nat} {tpos : Pos} (k : Bool) {a e it : Addr} (nei : e ≠ it) (nea : e ≠ a) (nai : a ≠ it) :
    Turn P w K (.Tuple elts kk tpos) (Iem k K a) [e, it] e (fun i h => (∃ old, IsEnum h e it (i : Int) old) ∧ SIt k h it a i) where
  mem := by simp
  obj := fun i h st c hc => by
    obtain ⟨⟨old, he⟩, h1⟩ := st
    have e' : c = e ∨ c = it := by simpa using hc
    rcases e' with q | q
    · rw [q]; exact ⟨_, he, fun v q => nomatch q⟩
    · rw [q]; exact h1.obj
  keep := fun i h h' st k => by
    obtain ⟨⟨old, he⟩, h1⟩ := st
    exact ⟨⟨old, k e (by simp) _ he⟩, h1.at fun o q => k it (by simp) o q⟩
  item := by
    intro X hP hw hK hc i pins s σ H E I hf st hg
    subst hP hw hK
    obtain ⟨⟨old, he⟩, h1⟩ := st
    obtain ⟨xs, x, hqx, hx⟩ := hg
    obtain ⟨its, rv, p, _⟩ := src_at I hqx
    obtain ⟨u, hu, ru⟩ := rv.get hx
    have hh : X.A.in1.handled = none := I.ok.hd hc
    have W := GoesN.enumFrom (elts := elts) (x1 := kk) (pos := tpos) 0 (draws (prog := X.prog) (w := X.w) hh k it a nai its.toArray) e nei (by simp; exact ⟨nei, nea⟩) (by simp)
    have hi1 : i < its.length := (List.getElem?_eq_some_iff.mp hu).1
    refine W.goes i s _ _ (by simp; omega) ⟨⟨old, by rw [Int.zero_add]; exact he⟩, ⟨h1, p⟩⟩ fun v h' tk hY st' hk htk => ?_
    obtain ⟨T, t, ux, rfl, hT, hux, hTT⟩ := hY
    obtain ⟨⟨old', he'⟩, ⟨h1', _⟩⟩ := st'
    rw [Int.zero_add] at he' hTT
    have ex : ux = u := by
      have q : its[i]? = some ux := by simpa using hux
      rw [hu] at q; exact (Option.some.inj q).symm
    subst ex
    have new : ObjOk X.prog X.w (upd H T (.tup [.int (i : Nat), x])) h' T (.tup [.int (i : Nat), x]) :=
      ⟨by show 2 ≤ sizeLine; decide, [.int (i : Nat) t, ux], .cons ⟨t, rfl⟩ (.cons ru .nil), hTT⟩
    have I1 : Inv X pins σ (upd H T (.tup [.int (i : Nat), x])) { s with heap := h', toks := tk } :=
      I.turnedNew (t' := tk) (ch := [e, it]) (fun c o hb q => hk c o hb q) hf hT new
    refine ⟨.ref T, _, I1, rfl, ⟨T, x, rfl, I.hok.fresh hT, rfl, fun l hl => by rw [src_inj I hl hqx]; exact hx⟩, ⟨⟨old', he'⟩, h1'⟩, fun c hcm => ?_⟩
    have hlt : c < s.heap.objs.size := by
      have e' : c = e ∨ c = it := by simpa using hcm
      rcases e' with q | q
      · rw [q]; exact Heap.lt_size he
      · obtain ⟨_, e1, _⟩ := h1.obj; rw [q]; exact Heap.lt_size e1
    rw [upd_ne (Nat.ne_of_lt (Nat.lt_of_lt_of_le hlt hT))]
    exact (hf c hcm).1
  done := by
    intro X hP hw hK hc i pins s σ H E I hf st hg
    subst hP hw hK
    obtain ⟨⟨old, he⟩, h1⟩ := st
    obtain ⟨xs, hqx, hend⟩ := hg
    obtain ⟨its, rv, p, _⟩ := src_at I hqx
    have hh : X.A.in1.handled = none := I.ok.hd hc
    have W := GoesN.enumFrom (elts := elts) (x1 := kk) (pos := tpos) 0 (draws (prog := X.prog) (w := X.w) hh k it a nai its.toArray) e nei (by simp; exact ⟨nei, nea⟩) (by simp)
    have hn : i = its.toArray.size := by simp [hend, rv.length]
    subst hn
    refine W.stops s (fun s1 => Inv X pins σ H s1) E ⟨⟨old, by rw [Int.zero_add]; exact he⟩, ⟨h1, p⟩⟩ fun h' tk hk htk => ?_
    exact I.turnedL (t' := tk) (ch := [e, it]) (fun c o hb q => hk c o hb q) hf
  self := fun A i s Q E st h => by
    obtain ⟨⟨old, he⟩, _⟩ := st
    exact wpAny_pyIter_enum he h
set_option maxHeartbeats 1000000 in
theorem meets_enum1 {v : Value} {o : Obj} {H : Heap → Prop} (B : Begins v o H) :
    Meets (Builtin.«enumerate.__new__» ⟨[.type "enumerate", v], []⟩) (fun _ R s => H s.heap ∧
      R (.ok (.ret (.ref (s.heap.push o).objs.size))) { s with heap := (s.heap.push o).push { cls := .type "enumerate", data := .fields #[.none, .bool false, .ref s.heap.objs.size, rawInt 0, .none, .none] } }) :=
  .of_wp fun prog w A R s h => by
    obtain ⟨hp, g, d, tk, os⟩ := s; obtain ⟨h1, h⟩ := h
    have hsub := sub_enumerate
    have q1 : ∀ {A' : Around} {E : Value → Shared → Prop} {Q : Value → Shared → Prop}, Q (.ref hp.objs.size) ⟨hp.push o, g, d, tk, os⟩ → wpAny (model prog w) A' (pyIter v) Q E ⟨hp, g, d, tk, os⟩ :=
      fun q => B.iter prog w _ _ ⟨hp, g, d, tk, os⟩ _ h1 q
    wp_walk using q1
    refine wpAny_stack_any fun st => wpAny_pure ?_
    split
    · rename_i c _ _ _ _ _
      cases (c == Value.type "enumerate")
      · wp_walk using q1
        exact ⟨_, rfl, h⟩
      · wp_walk using q1
        exact ⟨_, rfl, h⟩
    · wp_walk using q1
      exact ⟨_, rfl, h⟩
theorem enum_begins1 {prog : Program} {w : World} {A : Around} {E : Value → Shared → Prop} {s : Shared} {v : Value} {o : Obj} {H : Heap → Prop} {Q : Value → Shared → Prop} (B : Begins v o H) (h1 : H s.heap)
    (h : ∀ h', IsEnum h' (s.heap.objs.size + 1) s.heap.objs.size 0 .none → h'.get? s.heap.objs.size = some o → h'.objs.size = s.heap.objs.size + 2 →
      (∀ b o, s.heap.get? b = some o → h'.get? b = some o) → Q (.ref (s.heap.objs.size + 1)) { s with heap := h' }) :
    wpAny (model prog w) A (call (.type "enumerate") [v]) Q E s := by
  refine callType_new F.called_enumerate (by decide) (F.typeCall_enumerate_1 _) (F.newCall_enumerate_1 _) (fun obj => F.args_object_init_2 obj _) F.entry_enumerate_new
    (meets_enum1 B) ⟨h1, ?_⟩
  have hz : (s.heap.push o).objs.size = s.heap.objs.size + 1 := Heap.size_push ..
  show _ ∧ _
  rw [hz]
  have he : IsEnum ((s.heap.push o).push { cls := .type "enumerate", data := .fields #[.none, .bool false, .ref s.heap.objs.size, rawInt 0, .none, .none] }) (s.heap.objs.size + 1) s.heap.objs.size 0 .none := by
    have := Heap.get?_push_size (s.heap.push o) (o := { cls := .type "enumerate", data := .fields #[.none, .bool false, .ref s.heap.objs.size, rawInt 0, .none, .none] }) rfl
    rw [hz] at this; exact this
  exact ⟨⟨_, he, rfl⟩, h _ he (Heap.get?_push_of_some _ (Heap.get?_push_size _ B.free)) (by rw [Heap.size_push, hz]) fun b o x => Heap.get?_push_of_some _ (Heap.get?_push_of_some _ x)⟩
def iEm (K : PySem.W.Frag) (te : TE) : TI := fun σ H R => te σ H fun v H1 => ∃ a k xs, v = .ref a ∧ SAt k K H1 a xs ∧ R (Iem k K a) H1
theorem pi_em {X : Cx} {e : Expr} {te : TE} {p pos tpos : Pos} {elts : List Expr} {kk : Nat} (hg : Gl X "enumerate") (hm : X.mg "enumerate" = none) (ha : PE X e te) (hs : starEach [e] X.env = (false, eval e X.env) :: starEach [] X.env) :
    PI X (.Tuple elts kk tpos) (.Call (.Name "enumerate" p) [e] [] pos) (iEm X.K te) := by
  refine ⟨fun pins s σ H R I h => ?_⟩
  have hA : PA X [e] (tCons te tNil) := pa_cons ha pa_nil hs
  refine Call_ (ld_blt I hg hm boot_enumerate (PyProof.Rows.callWith_type1 (thn (hA.run pos pins s σ H (fun vs H1 => ∃ v, vs = [v] ∧ ∃ a k xs, v = .ref a ∧ SAt k X.K H1 a xs ∧ R (Iem k X.K a) H1) I ?_) fun us s1 ⟨vs, H1, I1, r1, q1⟩ => ?_) hs rfl))
  · have h : te σ H fun v H1 => ∃ a k xs, v = .ref a ∧ SAt k X.K H1 a xs ∧ R (Iem k X.K a) H1 := h
    have e : (fun v H1 => ∃ a k xs, v = .ref a ∧ SAt k X.K H1 a xs ∧ R (Iem k X.K a) H1) = fun (v : V) (H1 : Hp) => tNil σ H1 fun xs H2 => ∃ w, v :: xs = [w] ∧ ∃ a k xs, w = .ref a ∧ SAt k X.K H2 a xs ∧ R (Iem k X.K a) H2 := by
      funext v H1
      apply propext
      constructor
      · exact fun q => ⟨v, rfl, q⟩
      · rintro ⟨w, e, q⟩; cases e; exact q
    show te σ H _
    rw [← e]
    exact h
  · obtain ⟨v, rfl, a, k, xs, rfl, hqx, q⟩ := q1
    cases r1 with
    | cons r rr =>
      cases rr
      cases r
      obtain ⟨its, rv, p1, _⟩ := src_at I1 hqx
      have la : a < s1.heap.objs.size := p1.lt
      refine enum_begins1 (begins k a its.toArray) p1 fun h' he g1 hsz hk => wpAny_pyIter_enum he ?_
      have I2 : Inv X pins σ H1 { s1 with heap := h' } := I1.kept (t' := s1.toks) hk
      refine ⟨s1.heap.objs.size + 1, [s1.heap.objs.size + 1, s1.heap.objs.size], _, _, H1, rfl, I2, turn_em k (Nat.succ_ne_self _) (Ne.symm (ne_off la)) (Nat.ne_of_lt la), ⟨⟨_, he⟩, SIt.new g1⟩, fun c hcm => ?_, q⟩
      have e' : c = s1.heap.objs.size + 1 ∨ c = s1.heap.objs.size := by simpa using hcm
      have hle : s1.heap.objs.size ≤ c := by
        rcases e' with z | z
        · rw [z]; exact Nat.le_add_right _ _
        · rw [z]; exact Nat.le_refl _
      exact I1.fpOk hle (I1.hok.fresh hle)
/-! ### by data -/
def seqOf : Dt → Option (Bool × List Dt)
  | .list xs => some (true, xs)
  | .tuple xs => some (false, xs)
  | _ => none
theorem RpB.src {b : Bool} {K : PySem.W.Frag} {ow : Ow} {H : Hp} {v : V} {d : Dt} {k : Bool} {xs : List Dt} (h : RpB b K ow H v d) (e : seqOf d = some (k, xs)) : ∃ a vs, v = .ref a ∧ SAt k K H a vs ∧ RpAll K (OA ow) H vs xs := by
  unfold seqOf at e
  split at e
  · cases e; obtain ⟨a, vs, rfl, h1, r⟩ := h.list; exact ⟨a, vs, rfl, SqL.of h1, r⟩
  · cases e; obtain ⟨a, vs, rfl, h1, r⟩ := h.tuple; exact ⟨a, vs, rfl, SqT.of h1, r⟩
  · cases e
theorem RpB.seq_stp {b : Bool} {K : PySem.W.Frag} {ow ow1 : Ow} {H H1 : Hp} {v : V} {d : Dt} {k : Bool} {xs : List Dt} (e : seqOf d = some (k, xs)) (ok : OkO ow H) (h : RpB b K ow H v d) (r : Rel b ow H ow1 H1) : RpB b K ow1 H1 v d := by
  unfold seqOf at e
  split at e
  · exact h.list_stp ok r
  · exact h.tup_stp ok r
  · cases e
/-- the list that is read there is one -/
theorem src_one {b : Bool} {K : PySem.W.Frag} {ow : Ow} {H : Hp} {a : Addr} {d : Dt} {k : Bool} {xs : List Dt} (h : RpB b K ow H (.ref a) d) (e : seqOf d = some (k, xs)) : ∃ vs, SAt k K H a vs ∧ RpAll K (OA ow) H vs xs := by
  obtain ⟨a', vs, e', h1, r⟩ := h.src e
  cases e'
  exact ⟨vs, h1, r⟩
def zipD (xs ys : List Dt) : List Dt := List.zipWith (fun x y => .tuple [x, y]) xs ys
theorem wd_zm {b : Bool} {K : PySem.W.Frag} {ow : Ow} {H : Hp} {a a2 : Addr} {d d2 : Dt} {k k2 : Bool} {xs ys : List Dt} (ok : OkO ow H) (h : RpB b K ow H (.ref a) d) (e : seqOf d = some (k, xs)) (h2 : RpB b K ow H (.ref a2) d2) (e2 : seqOf d2 = some (k2, ys)) :
    WD b K ow H (Izm k k2 K a a2) (zipD xs ys) := fun ow1 H1 r ok1 => by
  obtain ⟨vs, s1, r1⟩ := src_one (h.seq_stp e ok r) e
  obtain ⟨ws, s2, r2⟩ := src_one (h2.seq_stp e2 ok r) e2
  have hl : (zipD xs ys).length = min xs.length ys.length := by unfold zipD; rw [List.length_zipWith]
  refine ⟨fun i hi => ?_, ⟨vs, ws, s1, s2, by rw [hl, r1.length, r2.length]⟩, fun i x H2 hi y => ?_⟩
  · rw [hl] at hi
    have i1 : i < vs.length := by rw [r1.length]; omega
    have i2 : i < ws.length := by rw [r2.length]; omega
    exact ⟨vs, ws, vs[i], ws[i], s1, s2, by simp [i1], by simp [i2]⟩
  · rw [hl] at hi
    obtain ⟨T, x, y, rfl, hT, rfl, hx, hy⟩ := y
    have i1 : i < xs.length := by omega
    have i2 : i < ys.length := by omega
    obtain ⟨v1, hv1, q1⟩ := r1.get (i := i) (d := xs[i]) (by simp [i1])
    obtain ⟨v2, hv2, q2⟩ := r2.get (i := i) (d := ys[i]) (by simp [i2])
    rw [hx vs s1] at hv1
    rw [hy ws s2] at hv2
    cases hv1
    cases hv2
    refine ⟨Same.upd hT, .tuple [xs[i], ys[i]], ?_, .tup upd_same (RpAll.same (Same.upd hT) (.cons q1 (.cons q2 .nil)))⟩
    unfold zipD
    rw [List.getElem?_zipWith]
    simp [i1, i2]
def enumD (xs : List Dt) : List Dt := List.zipWith (fun x y => .tuple [x, y]) (rgL 0 xs.length) xs
theorem wd_em {b : Bool} {K : PySem.W.Frag} {ow : Ow} {H : Hp} {a : Addr} {d : Dt} {k : Bool} {xs : List Dt} (ok : OkO ow H) (h : RpB b K ow H (.ref a) d) (e : seqOf d = some (k, xs)) : WD b K ow H (Iem k K a) (enumD xs) := fun ow1 H1 r ok1 => by
  obtain ⟨vs, s1, r1⟩ := src_one (h.seq_stp e ok r) e
  have hl : (enumD xs).length = xs.length := by unfold enumD; rw [List.length_zipWith, rgL_length]; omega
  refine ⟨fun i hi => ?_, ⟨vs, s1, by rw [hl, r1.length]⟩, fun i x H2 hi y => ?_⟩
  · rw [hl] at hi
    have i1 : i < vs.length := by rw [r1.length]; omega
    exact ⟨vs, vs[i], s1, by simp [i1]⟩
  · rw [hl] at hi
    obtain ⟨T, x, rfl, hT, rfl, hx⟩ := y
    obtain ⟨v1, hv1, q1⟩ := r1.get (i := i) (d := xs[i]) (by simp [hi])
    rw [hx vs s1] at hv1
    cases hv1
    refine ⟨Same.upd hT, .tuple [.int (i : Nat), xs[i]], ?_, .tup upd_same (.cons (.int _) (.cons (Rp.same (Same.upd hT) q1) .nil))⟩
    unfold enumD
    rw [List.getElem?_zipWith, rgL_get hi]
    simp [hi]
section
variable {G : Gc} {N : List Str} {sc : Scope} {fn : Str → Bool} {k : Nat} {pos p p2 tpos : Pos} {a b c : Expr} {f g h : EF} {elts : List Expr} {kk : Nat}
def iZip (f g : EF) : IF := fun bb ρ => bndI (f bb ρ) fun x => bndI (g bb ρ) fun y => match seqOf x, seqOf y with
  | some (_, xs), some (_, ys) => some (.it (zipD xs ys))
  | _, _ => none
theorem si_zip (B : Bi G) (ha : SE G N sc fn k a f) (hb : SE G N sc fn k b g) (hg : GL sc "zip" := by rfl) (ns : NS a := by intro _ _; rfl) (ns2 : NS b := by intro _ _; rfl) : SI G N sc fn k (.Tuple elts kk tpos) (.Call (.Name "zip" p) [a, b] [] pos) (iZip f g) := fun X C W tk b' =>
  PI.imp (pi_zm (C.gl hg) (by rw [C.hmg]; exact B.zip) (pa_cons (ha X C W tk b') (pa_cons (hb X C W tk b') pa_nil (ns2 [] X.env)) (ns [b] X.env)) (ns [b] X.env) (noStar _ _ _ fun e he => by rw [List.mem_singleton.mp he]; exact ns2)) fun σ H R h => by
    obtain ⟨ρ, ow, r, he, gd, post⟩ := h
    refine tE.goI gd he (fun n pl e => by subst e; exact post) fun d hd v H1 s1 r1 => ?_
    refine tE.goI (gd.same s1) hd (fun n pl e => by subst e; exact ExP.same post s1) fun d2 hd2 v2 H2 s2 r2 => ?_
    split at hd2
    · rename_i k1 xs k2 ys e1 e2
      cases hd2
      have r1' := r1.same s2
      obtain ⟨a1, vs, rfl, q1, w1⟩ := r1'.src e1
      obtain ⟨a2, ws, rfl, q2, w2⟩ := r2.src e2
      exact ⟨a1, a2, k1, k2, vs, ws, rfl, q1, q2, post _ H2 (s1.trans s2) (wd_zm (gd.ok.same (s1.trans s2)) r1' e1 r2 e2)⟩
    · cases hd2
def iEnum (f : EF) : IF := fun bb ρ => bndI (f bb ρ) fun x => match seqOf x with
  | some (_, xs) => some (.it (enumD xs))
  | _ => none
theorem si_enum (B : Bi G) (ha : SE G N sc fn k a f) (hg : GL sc "enumerate" := by rfl) (ns : NS a := by intro _ _; rfl) : SI G N sc fn k (.Tuple elts kk tpos) (.Call (.Name "enumerate" p) [a] [] pos) (iEnum f) := fun X C W tk b' =>
  PI.imp (pi_em (C.gl hg) (by rw [C.hmg]; exact B.enumerate) (ha X C W tk b') (ns [] X.env)) fun σ H R h => by
    obtain ⟨ρ, ow, r, he, gd, post⟩ := h
    refine tE.goI gd he (fun n pl e => by subst e; exact post) fun d hd v H1 s1 r1 => ?_
    split at hd
    · rename_i k1 xs e1
      cases hd
      obtain ⟨a1, vs, rfl, q1, w1⟩ := r1.src e1
      exact ⟨a1, k1, vs, rfl, q1, post _ H1 s1 (wd_em (gd.ok.same s1) r1 e1)⟩
    · cases hd
def iRev (f : EF) : IF := fun bb ρ => bndI (f bb ρ) fun x => match seqOf x with
  | some (_, xs) => some (.it xs.reverse)
  | _ => none
theorem si_rev {tg : Expr} (B : Bi G) (ha : SE G N sc fn k a f) (hg : GL sc "reversed" := by rfl) (ns : NS a := by intro _ _; rfl) : SI G N sc fn k tg (.Call (.Name "reversed" p) [a] [] pos) (iRev f) := fun X C W tk b' =>
  PI.imp (RT.pi_revA (C.gl hg) (by rw [C.hmg]; exact B.reversed) (ha X C W tk b') (ns [] X.env)) fun σ H R h => by
    obtain ⟨ρ, ow, r, he, gd, post⟩ := h
    refine tE.goI gd he (fun n pl e => by subst e; exact post) fun d hd v H1 s1 r1 => ?_
    cases d with
    | list xs =>
      cases hd
      obtain ⟨a1, vs, rfl, q1, w1⟩ := r1.list
      refine ⟨a1, vs, rfl, .inl ⟨SqL.of q1, post _ H1 s1 fun ow1 H2 r ok1 => ?_⟩⟩
      obtain ⟨us, t1, w2⟩ := src_one (k := true) (r1.list_stp (gd.ok.same s1) r) rfl
      have hn : us.length = vs.length := by rw [w2.length, w1.length]
      have hx : xs.length = vs.length := w1.length.symm
      refine ⟨fun i hi => ?_, by rw [List.length_reverse, hx]; exact Nat.le_refl _, fun i x H3 hi y => ?_⟩
      · rw [List.length_reverse, hx] at hi
        exact ⟨hi, us, us[vs.length - 1 - i]'(by omega), t1, by simp [show vs.length - 1 - i < us.length by omega]⟩
      · rw [List.length_reverse, hx] at hi
        obtain ⟨rfl, y⟩ := y
        refine ⟨Same.refl _, xs[vs.length - 1 - i]'(by omega), ?_, ?_⟩
        · rw [List.getElem?_reverse (by omega), List.getElem?_eq_getElem (by omega)]
          simp [hx]
        · obtain ⟨v, hv, q⟩ := w2.get (i := vs.length - 1 - i) (d := xs[vs.length - 1 - i]'(by omega)) (by simp [show vs.length - 1 - i < xs.length by omega])
          rw [y us t1] at hv
          cases hv
          exact q
    | tuple xs =>
      cases hd
      obtain ⟨a1, vs, rfl, q1, w1⟩ := r1.tuple
      refine ⟨a1, vs, rfl, .inr ⟨SqT.of q1, post _ H1 s1 fun ow1 H2 r ok1 => ?_⟩⟩
      obtain ⟨us, t1, w2⟩ := src_one (k := false) (r1.tup_stp (gd.ok.same s1) r) rfl
      have hn : us.length = vs.length := by rw [w2.length, w1.length]
      have hx : xs.length = vs.length := w1.length.symm
      refine ⟨fun i hi => ?_, by rw [List.length_reverse, hx]; exact Nat.le_refl _, fun i x H3 hi y => ?_⟩
      · rw [List.length_reverse, hx] at hi
        exact ⟨hi, us, us[vs.length - 1 - i]'(by omega), t1, by simp [show vs.length - 1 - i < us.length by omega]⟩
      · rw [List.length_reverse, hx] at hi
        obtain ⟨rfl, y⟩ := y
        refine ⟨Same.refl _, xs[vs.length - 1 - i]'(by omega), ?_, ?_⟩
        · rw [List.getElem?_reverse (by omega), List.getElem?_eq_getElem (by omega)]
          simp [hx]
        · obtain ⟨v, hv, q⟩ := w2.get (i := vs.length - 1 - i) (d := xs[vs.length - 1 - i]'(by omega)) (by simp [show vs.length - 1 - i < xs.length by omega])
          rw [y us t1] at hv
          cases hv
          exact q
    | none => cases hd
    | bool _ => cases hd
    | int _ => cases hd
    | str _ => cases hd
    | dict _ => cases hd
end
end PT

namespace PT
open PySem PySem.Spec PyProof.Rows L2

/-! ## sorted: insertion, by a plain order -/
mutual
def dlt : Dt → Dt → Bool
  | .int a, .int b => decide (a < b)
  | .tuple xs, .tuple ys => dltAll xs ys
  | _, _ => false
def dltAll : List Dt → List Dt → Bool
  | x :: xs, y :: ys => if PyData.eqv x y then dltAll xs ys else dlt x y
  | [], _ :: _ => true
  | _, _ => false
end
def dle (a b : Dt) : Bool := !dlt b a
def ins (x : Dt) : List Dt → List Dt
  | [] => [x]
  | y :: ys => if dle x y then x :: y :: ys else y :: ins x ys
def isort : List Dt → List Dt
  | [] => []
  | x :: xs => ins x (isort xs)
def isI : Dt → Bool
  | .int _ => true
  | _ => false
def isTI : Dt → Bool
  | .tuple (x :: r) => isI x && r.all isI
  | _ => false
def okS (ds : List Dt) : Bool := ds.all isI || ds.all isTI
theorem isI_out {d : Dt} (h : isI d = true) : ∃ i, d = .int i := by
  cases d with
  | int i => exact ⟨i, rfl⟩
  | _ => cases h
theorem allI_out : ∀ {ds : List Dt}, ds.all isI = true → ∃ ns : List Int, ds = ns.map .int
  | [], _ => ⟨[], rfl⟩
  | d :: ds, h => by
    simp only [List.all_cons, Bool.and_eq_true] at h
    obtain ⟨i, rfl⟩ := isI_out h.1
    obtain ⟨ns, rfl⟩ := allI_out h.2
    exact ⟨i :: ns, rfl⟩
theorem isTI_out {d : Dt} (h : isTI d = true) : ∃ (i : Int) (ns : List Int), d = .tuple (.int i :: ns.map .int) := by
  cases d with
  | tuple xs =>
    cases xs with
    | nil => cases h
    | cons x r =>
      simp only [isTI, Bool.and_eq_true] at h
      obtain ⟨i, rfl⟩ := isI_out h.1
      obtain ⟨ns, rfl⟩ := allI_out h.2
      exact ⟨i, ns, rfl⟩
  | _ => cases h
theorem eqv_int (a b : Int) : PyData.eqv (.int a) (.int b) = decide (a = b) := by simp [PyData.eqv]; rfl
theorem toksI (x : Int) (r : List Dt) : PySem.W.keyToksAll (.int x :: r) = .inl 1 :: (.inl x :: PySem.W.keyToksAll r) := by
  unfold PySem.W.keyToksAll
  rw [PySem.W.keyToks]
  cases r <;> rfl
theorem dlt_ints : ∀ xs ys : List Int, dltAll (xs.map .int) (ys.map .int) = lexLt itemOrd (PySem.W.keyToksAll (xs.map .int)) (PySem.W.keyToksAll (ys.map .int))
  | [], [] => by
    show false = _
    exact (lex_irrefl (O := itemOrd) _).symm
  | [], y :: ys => by
    simp only [List.map_nil, List.map_cons, dltAll]
    rw [toksI]
    show true = lexLt itemOrd [.inl 0] _
    rw [PySem.W.lex_atom (by simp), PySem.W.lex_one]
    rfl
  | x :: xs, [] => by
    simp only [List.map_nil, List.map_cons, dltAll]
    rw [toksI]
    show false = lexLt itemOrd _ [.inl 0]
    rw [PySem.W.lex_atom (by simp), PySem.W.lex_one]
    rfl
  | x :: xs, y :: ys => by
    simp only [List.map_cons, dltAll]
    cases e : PyData.eqv (.int x) (.int y) with
    | true => rw [if_pos rfl, PySem.W.dataLt_all_yes (by simp [PySem.W.alike]) e, dlt_ints]
    | false =>
      rw [if_neg Bool.false_ne_true, PySem.W.dataLt_all_no (by simp [PySem.W.alike]) e, PySem.W.dataLt_int]
      rfl
theorem dlt_ok {ds : List Dt} (h : okS ds = true) : ∀ a ∈ ds, ∀ b ∈ ds, dle a b = PySem.W.dataLe false (fun d : Dt => d) a b := by
  intro a ha b hb
  show (!dlt b a) = (!PySem.W.dataLt b a)
  unfold okS at h
  rw [Bool.or_eq_true] at h
  rcases h with h | h
  · obtain ⟨i, rfl⟩ := isI_out (List.all_eq_true.mp h a ha)
    obtain ⟨j, rfl⟩ := isI_out (List.all_eq_true.mp h b hb)
    rw [PySem.W.dataLt_int]; rfl
  · obtain ⟨i, ns, rfl⟩ := isTI_out (List.all_eq_true.mp h a ha)
    obtain ⟨j, ms, rfl⟩ := isTI_out (List.all_eq_true.mp h b hb)
    rw [PySem.W.dataLt_tuple]
    exact congrArg _ (dlt_ints (j :: ms) (i :: ns))
theorem ins_perm (x : Dt) : ∀ l, (ins x l).Perm (x :: l)
  | [] => .refl _
  | y :: ys => by
    unfold ins
    split
    · exact .refl _
    · exact ((ins_perm x ys).cons y).trans (.swap x y ys)
theorem isort_perm : ∀ l, (isort l).Perm l
  | [] => .refl _
  | x :: xs => (ins_perm x _).trans ((isort_perm xs).cons x)
section
variable {le : Dt → Dt → Bool} (T : PySem.W.TotalLe le)
include T
theorem ins_sorted {x : Dt} : ∀ {l : List Dt}, (∀ a ∈ x :: l, ∀ b ∈ x :: l, dle a b = le a b) → l.Pairwise (fun a b => le a b = true) → (ins x l).Pairwise (fun a b => le a b = true)
  | [], _, _ => List.pairwise_singleton _ _
  | y :: ys, hq, h => by
    have hxy := hq x List.mem_cons_self y (List.mem_cons_of_mem _ List.mem_cons_self)
    unfold ins
    split
    · rename_i hc
      rw [hxy] at hc
      refine List.pairwise_cons.mpr ⟨fun z hz => ?_, h⟩
      rcases List.mem_cons.mp hz with e | hz
      · rw [e]; exact hc
      · exact T.trans _ _ _ hc ((List.pairwise_cons.mp h).1 z hz)
    · rename_i hc
      rw [hxy] at hc
      have hyx : le y x = true := (T.total x y).resolve_left hc
      refine List.pairwise_cons.mpr ⟨fun z hz => ?_, ins_sorted (fun a ha b hb => hq a ?_ b ?_) (List.pairwise_cons.mp h).2⟩
      · rcases List.mem_cons.mp ((ins_perm x ys).mem_iff.mp hz) with e | hz
        · rw [e]; exact hyx
        · exact (List.pairwise_cons.mp h).1 z hz
      · rcases List.mem_cons.mp ha with e | e
        · rw [e]; exact List.mem_cons_self
        · exact List.mem_cons_of_mem _ (List.mem_cons_of_mem _ e)
      · rcases List.mem_cons.mp hb with e | e
        · rw [e]; exact List.mem_cons_self
        · exact List.mem_cons_of_mem _ (List.mem_cons_of_mem _ e)
theorem ins_stable {x : Dt} (c : Dt) : ∀ {l : List Dt}, (∀ a ∈ x :: l, ∀ b ∈ x :: l, dle a b = le a b) → (ins x l).filter (PySem.W.sameRank le c) = (x :: l).filter (PySem.W.sameRank le c)
  | [], _ => rfl
  | y :: ys, hq => by
    have hxy := hq x List.mem_cons_self y (List.mem_cons_of_mem _ List.mem_cons_self)
    unfold ins
    split
    · rfl
    · rename_i hc
      rw [hxy] at hc
      have ih := ins_stable c (x := x) (l := ys) (fun a ha b hb => hq a (by
        rcases List.mem_cons.mp ha with e | e
        · rw [e]; exact List.mem_cons_self
        · exact List.mem_cons_of_mem _ (List.mem_cons_of_mem _ e)) b (by
        rcases List.mem_cons.mp hb with e | e
        · rw [e]; exact List.mem_cons_self
        · exact List.mem_cons_of_mem _ (List.mem_cons_of_mem _ e)))
      rw [List.filter_cons, ih]
      simp only [List.filter_cons]
      cases e1 : PySem.W.sameRank le c y with
      | false => rw [if_neg Bool.false_ne_true, if_neg Bool.false_ne_true]
      | true =>
        cases e2 : PySem.W.sameRank le c x with
        | false => rw [if_neg Bool.false_ne_true, if_neg Bool.false_ne_true]
        | true =>
          exfalso
          apply hc
          simp only [PySem.W.sameRank, Bool.and_eq_true] at e1 e2
          exact T.trans _ _ _ e2.2 e1.1
theorem isort_sorted : ∀ {l : List Dt}, (∀ a ∈ l, ∀ b ∈ l, dle a b = le a b) → (isort l).Pairwise (fun a b => le a b = true)
  | [], _ => List.Pairwise.nil
  | x :: xs, h => ins_sorted T (fun a ha b hb => h a (((isort_perm xs).cons x).mem_iff.mp ha) b (((isort_perm xs).cons x).mem_iff.mp hb)) (isort_sorted fun a ha b hb => h a (List.mem_cons_of_mem _ ha) b (List.mem_cons_of_mem _ hb))
theorem isort_stable (c : Dt) : ∀ {l : List Dt}, (∀ a ∈ l, ∀ b ∈ l, dle a b = le a b) → (isort l).filter (PySem.W.sameRank le c) = l.filter (PySem.W.sameRank le c)
  | [], _ => rfl
  | x :: xs, h => by
    show (ins x (isort xs)).filter _ = _
    rw [ins_stable T c (fun a ha b hb => h a (((isort_perm xs).cons x).mem_iff.mp ha) b (((isort_perm xs).cons x).mem_iff.mp hb)), List.filter_cons, isort_stable c (fun a ha b hb => h a (List.mem_cons_of_mem _ ha) b (List.mem_cons_of_mem _ hb)), ← List.filter_cons]
theorem isort_merge {l : List Dt} (h : ∀ a ∈ l, ∀ b ∈ l, dle a b = le a b) : isort l = l.mergeSort le := PySem.W.sort_unique T (isort_sorted T h) fun c => isort_stable T c h
end
theorem isort_data {ds : List Dt} (h : okS ds = true) : ds.mergeSort (PySem.W.dataLe false fun d : Dt => d) = isort ds := (isort_merge (PySem.W.sortLe_total _ _ _) (dlt_ok h)).symm
theorem okS_alike {ds : List Dt} (h : okS ds = true) : PySem.W.AllAlike (ds.map fun d => d) := by
  intro a ha b hb
  rw [List.map_id'] at ha hb
  unfold okS at h
  rw [Bool.or_eq_true] at h
  rcases h with h | h
  · obtain ⟨i, rfl⟩ := isI_out (List.all_eq_true.mp h a ha)
    obtain ⟨j, rfl⟩ := isI_out (List.all_eq_true.mp h b hb)
    simp [PySem.W.alike]
  · obtain ⟨i, ns, rfl⟩ := isTI_out (List.all_eq_true.mp h a ha)
    obtain ⟨j, ms, rfl⟩ := isTI_out (List.all_eq_true.mp h b hb)
    rw [PySem.W.alike]
    exact PySem.W.alike_ints (i :: ns) (j :: ms)
theorem okS_sortable {ds : List Dt} (h : okS ds = true) : PySem.W.Sortable (ds.map fun d => d) := by
  rw [List.map_id']
  unfold okS at h
  rw [Bool.or_eq_true] at h
  rcases h with h | h
  · refine .inr fun d hd => ?_
    obtain ⟨i, rfl⟩ := isI_out (List.all_eq_true.mp h d hd)
    refine ⟨fun z => ?_, fun _ z => ?_⟩ <;> cases z
  · refine .inl fun d hd => ?_
    obtain ⟨i, ns, rfl⟩ := isTI_out (List.all_eq_true.mp h d hd)
    exact ⟨_, _, rfl⟩
theorem okS_depth {ds : List Dt} (h : okS ds = true) : ∀ d ∈ ds, d.depth ≤ 1 := by
  intro d hd
  unfold okS at h
  rw [Bool.or_eq_true] at h
  rcases h with h | h
  · obtain ⟨i, rfl⟩ := isI_out (List.all_eq_true.mp h d hd)
    simp [PyData.depth]
  · obtain ⟨i, ns, rfl⟩ := isTI_out (List.all_eq_true.mp h d hd)
    rw [PyData.depth]
    have := PySem.W.depth_ints (i :: ns)
    rw [List.map_cons] at this
    rw [this]
    decide
theorem plainI : ∀ ns : List Int, PyData.plainAll (ns.map .int) = true
  | [] => by simp [PyData.plainAll]
  | x :: xs => by
    rw [List.map_cons, PyData.plainAll, plainI xs]
    simp [PyData.plain]
theorem okS_plain {ds : List Dt} (h : okS ds = true) : ∀ d ∈ ds, d.plain = true := by
  intro d hd
  unfold okS at h
  rw [Bool.or_eq_true] at h
  rcases h with h | h
  · obtain ⟨i, rfl⟩ := isI_out (List.all_eq_true.mp h d hd)
    simp [PyData.plain]
  · obtain ⟨i, ns, rfl⟩ := isTI_out (List.all_eq_true.mp h d hd)
    rw [PyData.plain]
    exact plainI (i :: ns)
def PE2 (R : V → Dt → Prop) : List V → List Dt → Prop := PySem.W.EachIs R
def rSortedD (K : PySem.W.Frag) : List V → Hp → VK → Prop := fun vs H Q => ∃ (a : Addr) (xs : List V) (ds : List Dt) (R : V → Dt → Prop), vs = [.ref a] ∧ SqL K H a xs ∧ okS ds = true ∧ PySem.W.EachIs (fun v d => R v d ∧ Dp K H v d) xs ds ∧
  ∀ ys p, PySem.W.EachIs R ys (isort ds) → H p = none → Q (.ref p) (upd H p (.lst ys))
theorem each_vals {R : V → Dt → Prop} : ∀ {xs : List V} {us : List Value} {ds : List Dt}, Vals xs us → PySem.W.EachIs R xs ds → PySem.W.EachIs (fun u d => ∃ v, RelV v u ∧ R v d) us ds
  | _, _, _, .nil, .nil => .nil
  | _, _, _, .cons r t, .cons h hs => .cons ⟨_, r, h⟩ (each_vals t hs)
theorem vals_each {R : V → Dt → Prop} : ∀ {us : List Value} {ds : List Dt}, PySem.W.EachIs (fun u d => ∃ v, RelV v u ∧ R v d) us ds → ∃ xs, Vals xs us ∧ PySem.W.EachIs R xs ds
  | _, _, .nil => ⟨[], .nil, .nil⟩
  | _, _, .cons ⟨v, r, h⟩ t => let ⟨xs, h1, h2⟩ := vals_each t; ⟨v :: xs, .cons r h1, .cons h h2⟩
theorem cr_sortedD {X : Cx} (hu : X.A.units + 64 < cLine) : CallR X (.builtin "sorted") (rSortedD X.K) := by
  intro pins s σ H vs us Q I r h
  obtain ⟨a, xs, ds, R, rfl, hs, hok, he, q⟩ := h
  obtain ⟨its, rv, hl, hz⟩ := I.list hs
  rw [Vals.ref1 r]
  have e2 := each_vals rv he
  refine PySem.W.sorted_data (enc := fun d : Dt => d) (R := fun u d => ∃ v, RelV v u ∧ R v d) hl.isList (e2.mono fun u d ⟨v, h1, h2, _⟩ => ⟨v, h1, h2⟩) (e2.mono fun u d ⟨v, h1, _, h2⟩ => Dp.reads I d v u h2 h1) (okS_alike hok) (okS_sortable hok) (by rw [← e2.length, ← rv.length]; exact hz) (fun b hb => by have := okS_depth hok b hb; omega) fun out h1 h2 => ?_
  rw [isort_data hok] at h2
  obtain ⟨ys, hv, hy⟩ := vals_each h2
  obtain ⟨ep, he'⟩ := PyProof.Rows.sortedAll_at s.heap its out.toArray
  have hlen : ys.length ≤ sizeLine := by
    rw [hv.length, h1, ← e2.length, ← rv.length]
    exact hz
  exact ⟨.ref _, upd H (s.heap.objs.size + 1) (.lst ys), I.laid (t' := s.toks) (fun _ _ => PyProof.Rows.sortedAll_old) (Nat.le_succ _) ⟨hlen, out, ep, hv, he'⟩, rfl, q _ _ hy (I.hok.fresh (Nat.le_succ _))⟩
theorem RpAll.each {K : PySem.W.Frag} {O : Addr → Prop} {H : Hp} : ∀ {vs : List V} {ds : List Dt}, RpAll K O H vs ds → (∀ d ∈ ds, d.plain = true) → PySem.W.EachIs (fun v d => Rp K O H v d ∧ Dp K H v d) vs ds
  | _, _, .nil, _ => .nil
  | _, _, .cons h t, hp => .cons ⟨h, h.dp (hp _ List.mem_cons_self)⟩ (RpAll.each t fun d hd => hp d (List.mem_cons_of_mem _ hd))
theorem each_rp {K : PySem.W.Frag} {O : Addr → Prop} {H : Hp} : ∀ {vs : List V} {ds : List Dt}, PySem.W.EachIs (fun v d => Rp K O H v d) vs ds → RpAll K O H vs ds
  | _, _, .nil => .nil
  | _, _, .cons h t => .cons h (each_rp t)
def dSorted : Dt → Option Dt
  | .list ds => if okS ds then some (.list (isort ds)) else none
  | _ => none
theorem cd_sorted (K : PySem.W.Frag) : CD1 K (rSortedD K) dSorted := by
  intro x H Q ow dx dz ok rx e post
  unfold dSorted at e
  split at e
  · split at e
    · rename_i hok
      cases e
      obtain ⟨a, vs, rfl, h1, r⟩ := rx.list
      exact ⟨a, vs, _, _, rfl, SqL.of h1, hok, r.each (okS_plain hok), fun ys p hy hp => post _ _ (Same.upd hp) (.lst upd_same (ok.new hp) (RpAll.same (Same.upd hp) (each_rp hy)))⟩
    · cases e
  · cases e
/-! ### set(t) of a tuple of ints, under sorted and len -/
def ddup : List Int → List Int
  | [] => []
  | x :: xs => if xs.contains x then ddup xs else x :: ddup xs
theorem ddup_mem : ∀ {l : List Int} {k : Int}, k ∈ ddup l ↔ k ∈ l
  | [], _ => Iff.rfl
  | x :: xs, k => by
    unfold ddup
    split
    · rename_i h
      rw [ddup_mem, List.mem_cons]
      exact ⟨.inr, fun z => z.elim (fun e => by rw [e]; simpa using h) id⟩
    · rw [List.mem_cons, List.mem_cons, ddup_mem]
theorem ddup_nodup : ∀ l : List Int, (ddup l).Nodup
  | [] => List.nodup_nil
  | x :: xs => by
    unfold ddup
    split
    · exact ddup_nodup xs
    · rename_i h
      exact List.nodup_cons.mpr ⟨fun z => h (by simpa using ddup_mem.mp z), ddup_nodup xs⟩
theorem nodup_len : ∀ {a b : List Int}, a.Nodup → (∀ k, k ∈ a → k ∈ b) → a.length ≤ b.length := by
  intro a
  induction a with
  | nil => exact fun _ _ => Nat.zero_le _
  | cons x xs ih =>
    intro b hn h
    have hx : x ∈ b := h x List.mem_cons_self
    have hl := List.length_erase_of_mem hx
    have hp := List.length_pos_of_mem hx
    have := ih (b := b.erase x) (List.nodup_cons.mp hn).2 fun k hk => (List.mem_erase_of_ne (fun (e : k = x) => (List.nodup_cons.mp hn).1 (by rw [← e]; exact hk))).mpr (h k (List.mem_cons_of_mem _ hk))
    simp only [List.length_cons]
    omega
theorem setR_len {w : World} {h : Heap} {a : Addr} {ns : List Int} {c : Nat} (R : SetR w h a (fun j => decide (j ∈ ns)) c) : c = (ddup ns).length := by
  obtain ⟨o, es, ep, t, ho, hx, hd, hg, hn, hm, hb, hf, hc, _⟩ := R
  have e1 : (es.toList.map keyOf).length = c := by rw [List.length_map, Array.length_toList]; exact hc
  have hq : ∀ k, k ∈ es.toList.map keyOf ↔ k ∈ ddup ns := fun k => by rw [← hm k, ddup_mem, decide_eq_true_eq]
  have a1 := nodup_len hn fun k hk => (hq k).mp hk
  have a2 := nodup_len (ddup_nodup ns) fun k hk => (hq k).mpr hk
  omega
def rSetT (K : PySem.W.Frag) (w : World) : List V → Hp → VK → Prop := fun vs H Q => ∃ (p : Addr) (ns : List Int), vs = [.ref p] ∧ SqT K H p (ns.map V.int) ∧ ns.length ≤ 1000 ∧ ∀ l, H l = none → Q (.ref l) (upd H l (SetO w l (fun j => decide (j ∈ ns)) (ddup ns).length))
theorem cr_setT {X : Cx} (hc : X.calm = true) : CallR X (.type "set") (rSetT X.K X.w) := by
  intro pins s σ H vs us Q I r h
  obtain ⟨p, ns, rfl, hq, hl, q⟩ := h
  obtain ⟨its, rv, pt, hz⟩ := I.tuple hq
  rw [Vals.ref1 r]
  refine call_set_tupI ns (I.ok.hd hc) pt (by simpa using rv.ints) (by unfold scanBound; omega) fun h' tk c R hcn kk => ?_
  have e := setR_len R
  subst e
  exact ⟨.ref _, _, I.laid (t' := tk) kk (Nat.le_refl _) (setO_new R), rfl, q _ (I.hok.fresh (Nat.le_refl _))⟩
def rLenSetO (w : World) : List V → Hp → VK → Prop := fun vs H Q => ∃ (a : Addr) (S : Int → Bool) (n : Nat), vs = [V.ref a] ∧ H a = some (SetO w a S n) ∧ Q (.int n) H
theorem cr_lenSetO {X : Cx} : CallR X (.builtin "len") (rLenSetO X.w) := by
  intro pins s σ H vs us Q I r h
  obtain ⟨a, S, n, rfl, ha, q⟩ := h
  obtain ⟨o, es, ep, t, ho, hx, hd, hg, hn, hm, hb, hf, hc, _⟩ := setO_get I ha
  rw [Vals.ref1 r]
  exact call_len_set ho hx hd hf (by unfold scanBound at hb; omega) ⟨.int n, H, I.tok _, ⟨_, by rw [hc]⟩, q⟩
def unI : List Dt → Option (List Int)
  | [] => some []
  | .int i :: r => (unI r).map (i :: ·)
  | _ :: _ => none
theorem unI_eq : ∀ {ds : List Dt} {ns : List Int}, unI ds = some ns → ds = ns.map .int
  | [], _, h => by cases h; rfl
  | d :: ds, ns, h => by
    cases d with
    | int i =>
      simp only [unI] at h
      cases e : unI ds with
      | none => rw [e] at h; cases h
      | some m => rw [e] at h; cases h; rw [unI_eq e]; rfl
    | _ => cases h
theorem unI_map (ns : List Int) : unI (ns.map .int) = some ns := by
  induction ns with
  | nil => rfl
  | cons n ns ih => simp [unI, ih]
theorem RpAll.ints {K : PySem.W.Frag} {O : Addr → Prop} {H : Hp} : ∀ {ns : List Int} {vs : List V}, RpAll K O H vs (ns.map .int) → vs = ns.map V.int
  | [], _, .nil => rfl
  | n :: ns, _, .cons h t => by
    rw [RpAll.ints t]
    cases h
    rfl
theorem rp_ints {K : PySem.W.Frag} {O : Addr → Prop} {H : Hp} (ns : List Int) : RpAll K O H (ns.map V.int) (ns.map .int) := rp_map _ _ ns fun x _ => .int x
/-- the members in order -/
def sset (ns : List Int) : List Dt := isort ((ddup ns).map .int)
def dSortSet : Dt → Option Dt
  | .tuple ds => match unI ds with
    | some ns => if ns.length < 64 then some (.list (sset ns)) else none
    | none => none
  | _ => none
def dLenSet : Dt → Option Dt
  | .tuple ds => match unI ds with
    | some ns => if ns.length < 64 then some (.int (ddup ns).length) else none
    | none => none
  | _ => none
theorem dlt_int (a b : Int) : dlt (.int a) (.int b) = decide (a < b) := by rw [dlt]
theorem ins_int (x : Int) : ∀ l : List Int, ∃ m : List Int, ins (.int x) (l.map .int) = m.map .int
  | [] => ⟨[x], rfl⟩
  | y :: ys => by
    simp only [List.map_cons, ins]
    split
    · exact ⟨x :: y :: ys, rfl⟩
    · obtain ⟨m, hm⟩ := ins_int x ys
      exact ⟨y :: m, by rw [hm]; rfl⟩
theorem isort_int : ∀ l : List Int, ∃ m : List Int, isort (l.map .int) = m.map .int
  | [] => ⟨[], rfl⟩
  | x :: xs => by
    obtain ⟨m, hm⟩ := isort_int xs
    show ∃ m, ins (.int x) (isort (xs.map .int)) = _
    rw [hm]
    exact ins_int x m
theorem lt_unique : ∀ {a b : List Int}, a.Pairwise (· < ·) → b.Pairwise (· < ·) → (∀ k, k ∈ a ↔ k ∈ b) → a = b
  | [], [], _, _, _ => rfl
  | [], y :: ys, _, _, h => absurd ((h y).mpr List.mem_cons_self) (by simp)
  | x :: xs, [], _, _, h => absurd ((h x).mp List.mem_cons_self) (by simp)
  | x :: xs, y :: ys, ha, hb, h => by
    have pa := List.pairwise_cons.mp ha
    have pb := List.pairwise_cons.mp hb
    have e : x = y := by
      rcases List.mem_cons.mp ((h x).mp List.mem_cons_self) with e | e
      · exact e
      · rcases List.mem_cons.mp ((h y).mpr List.mem_cons_self) with e2 | e2
        · exact e2.symm
        · have := pb.1 x e
          have := pa.1 y e2
          omega
    subst e
    rw [lt_unique pa.2 pb.2 fun k => ?_]
    constructor
    · intro hk
      rcases List.mem_cons.mp ((h k).mp (List.mem_cons_of_mem _ hk)) with e | e
      · have := pa.1 k hk; omega
      · exact e
    · intro hk
      rcases List.mem_cons.mp ((h k).mpr (List.mem_cons_of_mem _ hk)) with e | e
      · have := pb.1 k hk; omega
      · exact e
theorem map_int_inj {a b : List Int} (h : a.map PyData.int = b.map PyData.int) : a = b := by
  have := congrArg unI h
  rw [unI_map, unI_map] at this
  exact Option.some.inj this
def toI : Dt → Option Int
  | .int i => some i
  | _ => none
theorem sset_eq (ns ms : List Int) (h1 : ms.Pairwise (· < ·)) (h2 : ∀ k, k ∈ ms ↔ k ∈ ns) : sset ns = ms.map .int := by
  obtain ⟨m, hm⟩ := isort_int (ddup ns)
  unfold sset
  rw [hm]
  have hok : okS ((ddup ns).map .int) = true := by
    unfold okS
    rw [Bool.or_eq_true]
    left
    rw [List.all_eq_true]
    intro d hd
    obtain ⟨i, _, rfl⟩ := List.mem_map.mp hd
    rfl
  have hs := isort_sorted (PySem.W.sortLe_total _ _ _) (dlt_ok hok)
  have hp := isort_perm ((ddup ns).map .int)
  rw [hm] at hs hp
  have hs2 : m.Pairwise (· ≤ ·) := by
    refine (List.pairwise_map.mp hs).imp fun {x y} h => ?_
    have h' : (!PySem.W.dataLt (.int y) (.int x)) = true := h
    rw [PySem.W.dataLt_int] at h'
    simpa using h'
  have hp2 : m.Perm (ddup ns) := by
    have e := hp.filterMap toI
    rw [List.filterMap_map, List.filterMap_map] at e
    have f : toI ∘ PyData.int = (some : Int → Option Int) := rfl
    rw [f, List.filterMap_some, List.filterMap_some] at e
    exact e
  have hn : m.Nodup := hp2.nodup_iff.mpr (ddup_nodup ns)
  rw [lt_unique (lt_of_le_nodup m hs2 hn) h1 fun k => by rw [hp2.mem_iff, ddup_mem, h2]]
section
variable {G : Gc} {N : List Str} {sc : Scope} {fn : Str → Bool} {k : Nat} {pos p p2 q1 q2 : Pos} {a b c : Expr} {f g h : EF}
theorem se_sorted (B : Bi G) (ha : SE G N sc fn k a f) (hg : GL sc "sorted" := by rfl) (ns : NS a := by intro _ _; rfl) : SE G N sc fn k (.Call (.Name "sorted" p) [a] [] pos) (eUn dSorted f) := fun X C W tk b' =>
  PE.imp (pe_callB (cr_sortedD C.room.units) (C.gl hg) (by rw [C.hmg]; exact B.sorted) PyProof.Rows.boot_sorted (pa_cons (ha X C W tk true) pa_nil (ns [] X.env)) (by decide) (by decide) (ns [] X.env) rfl) fun σ H Q h => tCB_of (cd_sorted X.K) h
theorem se_sortSet (B : Bi G) (ha : SE G N sc fn k a f) (hg : GL sc "sorted" := by rfl) (hg2 : GL sc "set" := by rfl) (ns : NS a := by intro _ _; rfl) : SE G N sc fn k (.Call (.Name "sorted" p) [.Call (.Name "set" p2) [a] [] q1] [] pos) (eUn dSortSet f) := fun X C W tk b' =>
  PE.imp (pe_callB (cr_sortedSet C.calm) (C.gl hg) (by rw [C.hmg]; exact B.sorted) PyProof.Rows.boot_sorted (pa_cons (pe_callTy (cr_setT C.calm) (C.gl hg2) (by rw [C.hmg]; exact B.set) PyProof.Rows.boot_set (pa_cons (ha X C W tk true) pa_nil (ns [] X.env)) (by decide) (by decide) (ns [] X.env) rfl) pa_nil rfl) (by decide) (by decide) rfl rfl) fun σ H Q h => by
    obtain ⟨ρ, ow, rs, he, gd, post⟩ := h
    refine tE.go gd he (fun n pl e => by subst e; exact post) fun d hd1 v H1 s1 r1 => ?_
    cases d with
    | tuple ds =>
      simp only [dSortSet] at hd1
      split at hd1
      · rename_i ns hns
        split at hd1
        · rename_i hl
          cases hd1
          obtain ⟨t, vs, rfl, hT, rr⟩ := r1.tuple
          obtain rfl := unI_eq hns
          obtain rfl := RpAll.ints rr
          refine ⟨t, ns, rfl, SqT.of hT, by omega, fun l hl0 => ⟨l, _, _, rfl, upd_same, ?_, fun ms p' h1 h2 _ hp' => ?_⟩⟩
          · have := nodup_len (ddup_nodup ns) (b := ns) fun k hk => ddup_mem.mp hk
            omega
          · have e := sset_eq ns ms h1 fun k => by rw [h2 k, decide_eq_true_eq]
            have s3 := (s1.trans (Same.upd hl0)).trans (Same.upd (o := .lst (ms.map V.int)) hp')
            refine post _ _ s3 (.inl ?_)
            rw [e]
            exact .lst upd_same ((gd.ok.same (s1.trans (Same.upd hl0))).new hp') (rp_ints ms)
        · cases hd1
      · cases hd1
    | _ => cases hd1
theorem se_lenSet (B : Bi G) (ha : SE G N sc fn k a f) (hg : GL sc "len" := by rfl) (hg2 : GL sc "set" := by rfl) (ns : NS a := by intro _ _; rfl) : SE G N sc fn k (.Call (.Name "len" p) [.Call (.Name "set" p2) [a] [] q1] [] pos) (eUn dLenSet f) := fun X C W tk b' =>
  PE.imp (pe_callB cr_lenSetO (C.gl hg) (by rw [C.hmg]; exact B.len) PySem.boot_len (pa_cons (pe_callTy (cr_setT C.calm) (C.gl hg2) (by rw [C.hmg]; exact B.set) PyProof.Rows.boot_set (pa_cons (ha X C W tk true) pa_nil (ns [] X.env)) (by decide) (by decide) (ns [] X.env) rfl) pa_nil rfl) (by decide) (by decide) rfl rfl) fun σ H Q h => by
    obtain ⟨ρ, ow, rs, he, gd, post⟩ := h
    refine tE.go gd he (fun n pl e => by subst e; exact post) fun d hd1 v H1 s1 r1 => ?_
    cases d with
    | tuple ds =>
      simp only [dLenSet] at hd1
      split at hd1
      · rename_i ns hns
        split at hd1
        · rename_i hl
          cases hd1
          obtain ⟨t, vs, rfl, hT, rr⟩ := r1.tuple
          obtain rfl := unI_eq hns
          obtain rfl := RpAll.ints rr
          refine ⟨t, ns, rfl, SqT.of hT, by omega, fun l hl0 => ⟨l, _, _, rfl, upd_same, ?_⟩⟩
          exact post _ _ (s1.trans (Same.upd hl0)) (.inl (.int _))
        · cases hd1
      · cases hd1
    | _ => cases hd1
end
end PT

namespace PT
open PySem PySem.Spec PyProof.Rows L2
theorem kit_int : KitOk "int" := by intro K d; cases d <;> kernel_rfl
theorem kit_bool : KitOk "bool" := by intro K d; cases d <;> kernel_rfl
theorem kit_tuple : KitOk "tuple" := by intro K d; cases d <;> kernel_rfl
theorem kit_str : KitOk "str" := by intro K d; cases d <;> kernel_rfl
theorem kit_list : KitOk "list" := by intro K d; cases d <;> kernel_rfl
section
variable {G : Gc} {N : List Str} {sc : Scope} {fn : Str → Bool} {k : Nat} {pos p p2 q1 q2 : Pos} {st : Stmt} {rest : List Stmt} {a b c : Expr} {f g h : EF} {s1 s2 : SF}
def sUn (i : Nat) (s : SF) : SF := fun ρ => s (unown i ρ)
theorem ss_un (i : Nat) (h : SS G N sc fn k st s1) : SS G N sc fn k st (sUn i s1) := ss_unown i h
/-! a comprehension given to a name that a comprehension holds on to -/
theorem sw_cell {elt : Expr} {gs : List Comprehension} {scope : Scope} {y : Str} {py : Pos} {l : Nat} {env : PySem.Env} (hy : env.scope.names.lookup y = some .cell) : swapsWith (.ListComp elt gs scope pos) (some (.Name y py)) l env = pure false := by
  have ky : env.kindOf y = some .cell := hy
  unfold swapsWith
  simp only [ky]
  have : (some NameKind.cell == some NameKind.local) = false := by decide
  rw [this]
  simp
theorem ag_ofC (i : Nat) {y : Str} {elt : Expr} {gs : List Comprehension} {scope : Scope} (he : SE G N sc fn k (.ListComp elt gs scope pos) f) (hi : N[i]? = some y := by rfl) (hx : sc.names.lookup y = some .cell := by rfl) (hf : fn y = true := by rfl) : SAg G N sc fn k y i (.ListComp elt gs scope pos) f := fun X C W tk py spos =>
  ps_set (by rw [C.hN]; exact C.nd) (by rw [C.hN]; exact hi) (by rw [C.hsc]; exact .inr hx) (he X C W tk false) (sw_cell (by rw [C.hsc]; exact hx)) (by rw [C.hfn, C.hsc]; exact .inl hf)
theorem agL_ofC (i : Nat) {y : Str} {elt : Expr} {gs : List Comprehension} {scope : Scope} (he : SL G N sc fn k (.ListComp elt gs scope pos) f) (hi : N[i]? = some y := by rfl) (hx : sc.names.lookup y = some .cell := by rfl) (hf : fn y = true := by rfl) : SAgL G N sc fn k y i (.ListComp elt gs scope pos) f := fun X C W tk py spos =>
  ps_set (by rw [C.hN]; exact C.nd) (by rw [C.hN]; exact hi) (by rw [C.hsc]; exact .inr hx) (he X C W tk) (sw_cell (by rw [C.hsc]; exact hx)) (by rw [C.hfn, C.hsc]; exact .inl hf)
end
/-! ## the end: the law's promise, exceptions by world -/
theorem walk_pt {l : PySem.W.OpenLaw} {n k : Nat} {q : Program} {loose : List Str} {XP : (Str → Option Value) → Heap → Prop} {YP : World → Heap → Prop} {d : DefRec} {CX : World → CXT} {x : Str} (hn : l.most = some n) (hn2 : n ≤ sizeLine) (hdf : d.params.defaults = []) (hr : Room k callerA)
    (F : ∀ (w : World) (mg : Str → Option Value) (f : Addr) (h : Heap), YP w h → h.Ns mainGlobals mg → mg d.name = some (.ref f) →
      ∃ (K : PySem.W.Frag) (fd : FuncData) (sp : Sp), K.In h ∧ (∀ (s : Shared) (u : Value), BindsTo s fd ⟨[u], []⟩ [(x, u)]) ∧
        (∀ (H : Hp) (a : Addr) (ns : List Int), ns.length ≤ n → Only H → SqL K H a (ns.map V.int) → sp [.ref a] H (fun v _ => v = .bl true) fun _ _ _ => False) ∧
        ∀ base : Heap, K.In base → base.Ns mainGlobals mg → FnOk l.prog w K mg base (CX w) k f fd [x] sp)
    (hX : ∀ (w : World) (H : Hp) (s : Shared) (e : Value) (s2 : Shared), CX w [] H s (fun _ _ _ => False) e s2 → False) : PySem.W.WalkO q loose XP YP l.row.toRowW d [] (fun f vs => PySem.call f vs) := by
  refine Att.attach_call hn hdf fun w s0 s1 mg mb f o pm cd doc a us ns G Y ho hd hcd hm hob hin hle hg => ?_
  obtain ⟨K, fd, sp, kx, hb, hq, hF⟩ := F w mg f _ Y G.T.g hm
  exact law_call kx G.T.g G.T.b G.T.builtins G.T.nolimit hg hob hin (Nat.le_trans hle hn2) hr hF hb (fun H hO hS => hq H a ns hle hO hS) fun H e s2 => hX w H s1 e s2
end PT

namespace PT
open PySem PySem.Spec PyProof.Rows L2
/-! ## plain working-out of the combinators -/
section
variable {b : Bool} {ρ : En} {f g h : EF} {d : Dt} {i : Nat}
@[simp] theorem w_bnd (d : Dt) (k : Dt → Option Rs) : bnd (some (.val d)) k = k d := rfl
@[simp] theorem w_bndX (n : Str) (pl : Option Dt) (k : Dt → Option Rs) : bnd (some (.exc n pl)) k = some (.exc n pl) := rfl
@[simp] theorem w_bndN (k : Dt → Option Rs) : bnd none k = none := rfl
@[simp] theorem w_bndS (d : Dt) (k : Dt → Option Out) : bndS (some (.val d)) k = k d := rfl
@[simp] theorem w_bndSX (n : Str) (pl : Option Dt) (k : Dt → Option Out) : bndS (some (.exc n pl)) k = some (.ex n pl) := rfl
@[simp] theorem w_bndSN (k : Dt → Option Out) : bndS none k = none := rfl
@[simp] theorem w_bndI (d : Dt) (k : Dt → Option Irs) : bndI (some (.val d)) k = k d := rfl
@[simp] theorem w_bndA (d : List Dt) (k : List Dt → Option Rs) : bndA (some (.vals d)) k = k d := rfl
@[simp] theorem w_c : eC d b ρ = some (.val d) := rfl
@[simp] theorem w_bin (op : Dt → Dt → Option Dt) : eBin op f g b ρ = bnd (f true ρ) fun x => bnd (g true ρ) fun y => (op x y).map .val := rfl
@[simp] theorem w_un (op : Dt → Option Dt) : eUn op f b ρ = bnd (f true ρ) fun x => (op x).map .val := rfl
@[simp] theorem w_nil : aNil ρ = some (.vals []) := rfl
@[simp] theorem w_cons (f : EF) (g : AF) : aCons f g ρ = (match f false ρ with
  | some (.val d) => (match g ρ with
    | some (.vals ds) => some (.vals (d :: ds))
    | y => y)
  | some (.exc n pl) => some (.exc n pl)
  | none => none) := rfl
@[simp] theorem w_fn (n : Nat) (F : List Dt → Option Rs) (g : AF) : eFn n F g b ρ = bndA (g ρ) fun ds => if ds.length = n then F ds else none := rfl
@[simp] theorem w_seq (s1 s2 : SF) : sSeq s1 s2 ρ = (match s1 ρ with
  | some (.nx ρ') => s2 ρ'
  | y => y) := rfl
@[simp] theorem w_nop : sNop ρ = some (.nx ρ) := rfl
@[simp] theorem w_set : sSet i f ρ = bndS (f false ρ) fun d => some (.nx (ρ.set i (some (.sh d)))) := rfl
@[simp] theorem w_setO : sSetO i f ρ = bndS (f true ρ) fun d => match d with
  | .list ds => if i < ρ.length then some (.nx (ρ.set i (some (.own ds)))) else none
  | _ => none := rfl
@[simp] theorem w_ret : sRet f ρ = bndS (f true ρ) fun d => some (.rt d) := rfl
@[simp] theorem w_do : sDo f ρ = bndS (f true ρ) fun _ => some (.nx ρ) := rfl
@[simp] theorem w_if (s1 s2 : SF) : sIf f s1 s2 ρ = bndS (f true ρ) fun x => match tru x with
  | some true => s1 ρ
  | some false => s2 ρ
  | none => none := rfl
end
section
variable {b : Bool} {ρ : En} {f g h : EF} {d : Dt} {i n : Nat} {x y : Int}
@[simp] theorem w_v0 : eVar 0 b (some (.sh d) :: ρ) = some (.val d) := rfl
@[simp] theorem w_o0 (xs : List Dt) : eVar 0 true (some (.own xs) :: ρ) = some (.val (.list xs)) := rfl
@[simp] theorem w_o0f (xs : List Dt) : eVar 0 false (some (.own xs) :: ρ) = none := rfl
@[simp] theorem w_vs (s : Option SV) : eVar (n + 1) b (s :: ρ) = eVar n b ρ := rfl
@[simp] theorem w_clr0 : clr ρ [] = ρ := rfl
@[simp] theorem w_clrs (v : Nat) (vs : List Nat) : clr ρ (v :: vs) = (clr ρ vs).set v none := rfl
@[simp] theorem w_nm : gNm i d ρ = some (ρ.set i (some (.sh d))) := rfl
@[simp] theorem w_pr (g1 g2 : GF) (p q : Dt) : gPr g1 g2 (.tuple [p, q]) ρ = (g1 p ρ).bind (g2 q) := rfl
@[simp] theorem w_add : dAdd (.int x) (.int y) = some (.int (x + y)) := rfl
@[simp] theorem w_sub : dSub (.int x) (.int y) = some (.int (x - y)) := rfl
@[simp] theorem w_mul : dMul (.int x) (.int y) = if sml x || sml y then some (.int (x * y)) else none := rfl
theorem w_mulI : dMulI (.int x) (.int y) = if sml x || sml y then some (.int (x * y)) else none := rfl
@[simp] theorem w_addI : dAddI (.int x) (.int y) = some (.int (x + y)) := rfl
theorem w_mod (h : 0 < y) : dMod (.int x) (.int y) = some (.int (x % y)) := by
  have e : (decide (y ≠ 0)) = true := decide_eq_true (by omega)
  show (if (decide (y ≠ 0)) = true then some (PyData.int (x.fmod y)) else none) = _
  rw [if_pos e, Int.fmod_eq_emod_of_nonneg x (by omega)]
theorem w_div (h : 0 < y) (h2 : y < 1073741824) : dDiv (.int x) (.int y) = some (.int (x / y)) := by
  have e : (decide (y ≠ 0) && decide (y.natAbs < 1073741824)) = true := by
    rw [Bool.and_eq_true]
    exact ⟨decide_eq_true (by omega), decide_eq_true (by omega)⟩
  show (if (decide (y ≠ 0) && decide (y.natAbs < 1073741824)) = true then some (PyData.int (x.fdiv y)) else none) = _
  rw [if_pos e, Int.fdiv_eq_ediv_of_nonneg x (by omega)]
@[simp] theorem w_lt : dLt (.int x) (.int y) = some (.bool (decide (x < y))) := rfl
@[simp] theorem w_le : dLe (.int x) (.int y) = some (.bool (decide (x ≤ y))) := rfl
@[simp] theorem w_gt : dGt (.int x) (.int y) = some (.bool (decide (y < x))) := rfl
@[simp] theorem w_ge : dGe (.int x) (.int y) = some (.bool (decide (y ≤ x))) := rfl
@[simp] theorem w_truB (c : Bool) : tru (.bool c) = some c := rfl
@[simp] theorem w_truI : tru (.int x) = some (x != 0) := rfl
@[simp] theorem w_truL (xs : List Dt) : tru (.list xs) = some (!xs.isEmpty) := rfl
@[simp] theorem w_truT (xs : List Dt) : tru (.tuple xs) = some (!xs.isEmpty) := rfl
@[simp] theorem w_truN : tru .none = some false := rfl
@[simp] theorem w_lenL (xs : List Dt) : dLen (.list xs) = some (.int xs.length) := rfl
@[simp] theorem w_lenT (xs : List Dt) : dLen (.tuple xs) = some (.int xs.length) := rfl
@[simp] theorem w_tupL (xs : List Dt) : dTuple (.list xs) = some (.tuple xs) := rfl
@[simp] theorem w_listT (xs : List Dt) : dList (.tuple xs) = some (.list xs) := rfl
@[simp] theorem w_listL (xs : List Dt) : dList (.list xs) = some (.list xs) := rfl
@[simp] theorem w_app0 (xs : List Dt) : sApp 0 f (some (.own xs) :: ρ) = bndS (f false (some (.own xs) :: ρ)) fun d => if xs.length < lim then some (.nx (some (.own (xs ++ [d])) :: ρ)) else none := rfl
theorem w_app : sApp i f ρ = match ρ[i]? with
  | some (some (.own xs)) => bndS (f false ρ) fun d => if xs.length < lim then some (.nx (ρ.set i (some (.own (xs ++ [d]))))) else none
  | _ => none := rfl
theorem w_aug (op : Dt → Dt → Option Dt) : sAug i op f ρ = match ρ[i]? with
  | some (some (.sh x)) => bndS (f true ρ) fun y => (op x y).map fun z => .nx (ρ.set i (some (.sh z)))
  | _ => none := rfl
theorem w_for (sl : List Nat) (tg : GF) (it : IF) (body : SF) : sFor sl tg it body ρ = match it false ρ with
  | some (.it xs) => forL sl tg body xs ρ
  | some (.exc n pl) => some (.ex n pl)
  | none => none := rfl
end
theorem ixN_nat {n k : Nat} (h : k < n) : ixN n (k : Int) = some k := by
  unfold ixN
  rw [if_pos (Int.natCast_nonneg k), if_pos (by omega)]
  simp
/-- one turn of a loop -/
def turn (sl : List Nat) (tg : GF) (body : SF) (x : Dt) (ρ : En) : Option Out := (tg x (clr ρ sl)).bind body
theorem forL_cons {sl : List Nat} {tg : GF} {body : SF} {x : Dt} {xs : List Dt} {ρ ρ2 : En} (h : turn sl tg body x ρ = some (.nx ρ2)) : forL sl tg body (x :: xs) ρ = forL sl tg body xs ρ2 := by
  unfold turn at h
  rw [forL]
  cases h1 : tg x (clr ρ sl) with
  | none => rw [h1] at h; cases h
  | some ρ1 =>
    rw [h1] at h
    have h' : body ρ1 = some (.nx ρ2) := h
    simp only [h']
theorem forL_stop {sl : List Nat} {tg : GF} {body : SF} {x : Dt} {xs : List Dt} {ρ : En} {d : Dt} (h : turn sl tg body x ρ = some (.rt d)) : forL sl tg body (x :: xs) ρ = some (.rt d) := by
  unfold turn at h
  rw [forL]
  cases h1 : tg x (clr ρ sl) with
  | none => rw [h1] at h; cases h
  | some ρ1 =>
    rw [h1] at h
    have h' : body ρ1 = some (.rt d) := h
    simp only [h']
theorem forL_inv {sl : List Nat} {tg : GF} {body : SF} (P : Nat → En → Prop) : ∀ (xs : List Dt) (i : Nat) (ρ : En), P i ρ → (∀ j x ρ, xs[j]? = some x → P (i + j) ρ → ∃ ρ2, turn sl tg body x ρ = some (.nx ρ2) ∧ P (i + j + 1) ρ2) →
    ∃ ρ', forL sl tg body xs ρ = some (.nx ρ') ∧ P (i + xs.length) ρ'
  | [], i, ρ, h0, _ => ⟨ρ, rfl, h0⟩
  | x :: xs, i, ρ, h0, hs => by
    obtain ⟨ρ2, h1, h3⟩ := hs 0 x ρ rfl h0
    obtain ⟨ρ', h4, h5⟩ := forL_inv P xs (i + 1) ρ2 h3 fun j y ρ hy hp => by
      have e : i + 1 + j = i + (j + 1) := by omega
      rw [e] at hp ⊢
      exact hs (j + 1) y ρ (by simpa using hy) hp
    refine ⟨ρ', ?_, ?_⟩
    · rw [forL_cons h1]
      exact h4
    · have e : i + (x :: xs).length = i + 1 + xs.length := by simp; omega
      rw [e]; exact h5

theorem lcL_filter {c e : EF} {tg : GF} {ρ : En} (p : Dt → Bool) (h : Dt → Dt) : ∀ (xs : List Dt), (∀ x ∈ xs, ∃ ρ1 d, tg x ρ = some ρ1 ∧ c true ρ1 = some (.val d) ∧ tru d = some (p x) ∧ (p x = true → e false ρ1 = some (.val (h x)))) → lcL c e tg ρ xs = some ((xs.filter p).map h)
  | [], _ => rfl
  | x :: xs, H => by
    obtain ⟨ρ1, d, h1, h2, h3, h4⟩ := H x List.mem_cons_self
    have ih := lcL_filter p h xs fun y hy => H y (List.mem_cons_of_mem _ hy)
    unfold lcL
    simp only [h1, h2, h3]
    cases hp : p x with
    | true => simp only [h4 hp, ih, List.filter_cons, hp, if_true, Option.map_some, List.map_cons]
    | false => simp [ih, List.filter_cons, hp]
theorem lcL_map {e : EF} {tg : GF} {ρ : En} (h : Dt → Dt) (xs : List Dt) (H : ∀ x ∈ xs, ∃ ρ1, tg x ρ = some ρ1 ∧ e false ρ1 = some (.val (h x))) : lcL (eC (.bool true)) e tg ρ xs = some (xs.map h) := by
  have := lcL_filter (c := eC (.bool true)) (e := e) (tg := tg) (ρ := ρ) (fun _ => true) h xs fun x hx => by
    obtain ⟨ρ1, h1, h2⟩ := H x hx
    exact ⟨ρ1, _, h1, rfl, rfl, fun _ => h2⟩
  rw [this, List.filter_eq_self.mpr fun _ _ => rfl]
theorem sml_of {x : Int} (h1 : -1000000 ≤ x) (h2 : x ≤ 1000000) : sml x = true := by
  unfold sml
  rw [Bool.and_eq_true]
  exact ⟨decide_eq_true (by omega), decide_eq_true (by omega)⟩
theorem w_rg1 {f : EF} {b : Bool} {ρ : En} {n : Nat} (h : f true ρ = some (.val (.int (n : Int)))) (hn : n ≤ 1000000) : iRg1 f b ρ = some (.it (rgL 0 n)) := by
  unfold iRg1
  rw [h]
  show (if (n : Int) ≤ 1000000 ∧ -1000000 ≤ (n : Int) then some (Irs.it (rgL 0 (n : Int).toNat)) else none) = _
  rw [if_pos (by omega)]
  rfl
theorem w_rg2 {f g : EF} {b : Bool} {ρ : En} {lo hi : Int} (h : f true ρ = some (.val (.int lo))) (h' : g true ρ = some (.val (.int hi))) (h1 : -1000000 ≤ lo) (h2 : lo ≤ 1000000) (h3 : -1000000 ≤ hi) (h4 : hi ≤ 1000000) : iRg2 f g b ρ = some (.it (rgL lo (hi - lo).toNat)) := by
  unfold iRg2
  rw [h, h']
  show (if _ then _ else none) = _
  rw [if_pos (by omega)]
theorem rgL_mem {lo : Int} {n : Nat} {x : Dt} (h : x ∈ rgL lo n) : ∃ i : Nat, i < n ∧ x = .int (lo + i) := by
  unfold rgL at h
  obtain ⟨i, hi, e⟩ := List.mem_map.mp h
  exact ⟨i, List.mem_range.mp hi, e.symm⟩
theorem rgL_at {lo : Int} {n j : Nat} {x : Dt} (h : (rgL lo n)[j]? = some x) : j < n ∧ x = .int (lo + j) := by
  have hj : j < n := by
    have := (List.getElem?_eq_some_iff.mp h).1
    rw [rgL_length] at this
    exact this
  rw [rgL_get hj] at h
  exact ⟨hj, (Option.some.inj h).symm⟩
theorem w_ixL {xs : List Dt} {i : Nat} {d : Dt} (h : xs[i]? = some d) : dIx (.list xs) (.int (i : Int)) = some d := atI_of (ixN_nat (List.getElem?_eq_some_iff.mp h).1) h
theorem w_ixT {xs : List Dt} {i : Nat} {d : Dt} (h : xs[i]? = some d) : dIx (.tuple xs) (.int (i : Int)) = some d := atI_of (ixN_nat (List.getElem?_eq_some_iff.mp h).1) h
theorem get_map_int {l : List Int} {i : Nat} (h : i < l.length) : (l.map PyData.int)[i]? = some (.int (l.getD i 0)) := by
  rw [List.getElem?_map, List.getElem?_eq_getElem h, List.getD_eq_getElem?_getD, List.getElem?_eq_getElem h]; rfl
theorem w_lc {sl : List Nat} {tg : GF} {it : IF} {c e : EF} {b : Bool} {ρ : En} {xs ys : List Dt} (h1 : it true ρ = some (.it xs)) (h2 : noOwn ρ sl = true) (h3 : xs.length ≤ lim) (h4 : lcL c e tg (clr ρ sl) xs = some ys) : eLc sl tg it c e b ρ = some (.val (.list ys)) := by
  unfold eLc
  rw [h1]
  simp only [h2, decide_eq_true h3, h4]
  rfl
theorem w_seqL {f : EF} {b : Bool} {ρ : En} {xs : List Dt} (h : f b ρ = some (.val (.list xs))) : iSeq f b ρ = some (.it xs) := by
  unfold iSeq
  rw [h]
  rfl
theorem w_seqT {f : EF} {b : Bool} {ρ : En} {xs : List Dt} (h : f b ρ = some (.val (.tuple xs))) : iSeq f b ρ = some (.it xs) := by
  unfold iSeq
  rw [h]
  rfl
theorem w_addL {xs ys : List Dt} (h : xs.length + ys.length ≤ lim) : dAdd (.list xs) (.list ys) = some (.list (xs ++ ys)) := by
  show (if xs.length + ys.length ≤ lim then some (PyData.list (xs ++ ys)) else none) = _
  rw [if_pos h]
theorem w_addT {xs ys : List Dt} (h : xs.length + ys.length ≤ lim) : dAdd (.tuple xs) (.tuple ys) = some (.tuple (xs ++ ys)) := by
  show (if xs.length + ys.length ≤ lim then some (PyData.tuple (xs ++ ys)) else none) = _
  rw [if_pos h]
theorem w_eqI (x y : Int) : dEq (.int x) (.int y) = some (.bool (decide (x = y))) := by
  have e1 : dEq (.int x) (.int y) = some (.bool (PyData.eqv (.int x) (.int y))) := rfl
  rw [e1, eqv_int]
theorem w_neI (x y : Int) : dNe (.int x) (.int y) = some (.bool (!decide (x = y))) := by
  have e1 : dNe (.int x) (.int y) = some (.bool (!PyData.eqv (.int x) (.int y))) := rfl
  rw [e1, eqv_int]
theorem sset_len (ns : List Int) : (sset ns).length = (ddup ns).length := by
  unfold sset
  rw [(isort_perm _).length_eq, List.length_map]
/-- a tuple of whole numbers -/
abbrev tI' (l : List Int) : Dt := .tuple (l.map .int)
end PT

namespace PT
open PySem PySem.Spec PyProof.Rows L2
def top (i : Nat) : Stmt := PySem.Challenge.pw_polytables_k19_whole_count_permutations.main.body.getD i (.Pass ⟨0, 0, 0, 0⟩)
/-! ### in_range -/
abbrev st_in_range : Stmt := top 5
abbrev N_in_range : List Str := ["value", "low", "high"]
def g_in_range : SF := sRet (eAnd (eIsi "int" (eVar 0)) (eAnd (eNot (eIsi "bool" (eVar 0))) (eChain (eVar 1) (eVar 0) (eVar 2))))
def F_in_range : List Dt → Option Rs := runB 3 g_in_range
theorem sc_in_range : FnScope N_in_range ["value", "low", "high"] (defScope st_in_range) := ⟨rfl, rfl, rfl, by decide +kernel, rfl, by decide +kernel, by decide +kernel⟩
theorem b_in_range {G : Gc} (B : Bi G) : SB G N_in_range (defScope st_in_range) (fun _ => true) 0 (defBody st_in_range) g_in_range := by
  unfold g_in_range
  exact sb_one (ss_ret (se_and (se_isi B kit_int (se_var 0) B.int PyProof.Rows.boot_int) (se_and (se_not (se_isi B kit_bool (se_var 0) B.bool PyProof.Rows.boot_bool)) (se_one (se_chain (se_var 1) (se_var 0) (se_var 2))))))
theorem fn_in_range {G : Gc} {f : Addr} {fd : FuncData} (B : Bi G) (hm : G.mg "in_range" = some (.ref f)) (Fu : FunD G.K "in_range" "in_range" (defArgs st_in_range) (defBody st_in_range) (defScope st_in_range) [] [] f fd) : FnIs G "in_range" 1 3 F_in_range :=
  fn_is hm Fu sc_in_range (FunD.bindsN (ps := ["value", "low", "high"]) Fu fun _ _ _ _ _ _ us hl => match us, hl with | [_, _, _], _ => rfl) (b_in_range B ) (fun _ _ _ h => h)
/-! ### check_modulus -/
abbrev st_check_modulus : Stmt := top 6
abbrev N_check_modulus : List Str := ["modulus"]
def g_check_modulus : SF := sIf (eNot (eFn 3 F_in_range (aCons (eVar 0) (aCons (eC (.int 2)) (aCons (eC (.int 12)) (aNil)))))) (sRaise "InvalidModulus") (sNop)
def F_check_modulus : List Dt → Option Rs := runB 1 g_check_modulus
theorem sc_check_modulus : FnScope N_check_modulus ["modulus"] (defScope st_check_modulus) := ⟨rfl, rfl, rfl, by decide +kernel, rfl, by decide +kernel, by decide +kernel⟩
theorem b_check_modulus {G : Gc} (B : Bi G) (h_in_range : FnIs G "in_range" 1 3 F_in_range) (h_MAX_MODULUS : ∃ t, G.mg "MAX_MODULUS" = some (.int 12 t)) (h_InvalidModulus : ExcC G "InvalidModulus") : SB G N_check_modulus (defScope st_check_modulus) (fun _ => true) 1 (defBody st_check_modulus) g_check_modulus := by
  unfold g_check_modulus
  exact sb_one (ss_if (st_not (st_val (se_fn h_in_range (sa_cons (se_var 0) (sa_cons (se_int) (sa_cons (se_gint h_MAX_MODULUS) (sa_nil))))))) (sb_one (ss_raise h_InvalidModulus)) (sb_nil))
theorem fn_check_modulus {G : Gc} {f : Addr} {fd : FuncData} (B : Bi G) (h_in_range : FnIs G "in_range" 1 3 F_in_range) (h_MAX_MODULUS : ∃ t, G.mg "MAX_MODULUS" = some (.int 12 t)) (h_InvalidModulus : ExcC G "InvalidModulus") (hm : G.mg "check_modulus" = some (.ref f)) (Fu : FunD G.K "check_modulus" "check_modulus" (defArgs st_check_modulus) (defBody st_check_modulus) (defScope st_check_modulus) [] [] f fd) : FnIs G "check_modulus" 2 1 F_check_modulus :=
  fn_is hm Fu sc_check_modulus (FunD.bindsN (ps := ["modulus"]) Fu fun _ _ _ _ _ _ us hl => match us, hl with | [_], _ => rfl) (b_check_modulus B h_in_range h_MAX_MODULUS h_InvalidModulus) (fun _ _ _ h => h)
/-! ### greatest_divisor -/
abbrev st_greatest_divisor : Stmt := top 7
abbrev N_greatest_divisor : List Str := ["one", "other"]
def b1_greatest_divisor : SF := sPar 0 1 (eVar 1) (eBin dMod (eVar 0) (eVar 1))
def t1_greatest_divisor : SF := sRet (eVar 0)
def g_greatest_divisor : SF := sSeq (sWhile 1000 (eVar 1) (b1_greatest_divisor)) t1_greatest_divisor
def F_greatest_divisor : List Dt → Option Rs := runB 2 g_greatest_divisor
theorem sc_greatest_divisor : FnScope N_greatest_divisor ["one", "other"] (defScope st_greatest_divisor) := ⟨rfl, rfl, rfl, by decide +kernel, rfl, by decide +kernel, by decide +kernel⟩
theorem b_greatest_divisor {G : Gc} (B : Bi G) : SB G N_greatest_divisor (defScope st_greatest_divisor) (fun _ => true) 0 (defBody st_greatest_divisor) g_greatest_divisor := by
  unfold g_greatest_divisor
  exact sb_cons (ss_while 1000 (st_val (se_var 1)) (sb_one (ss_par 0 1 (se_var 1) (se_mod (se_var 0) (se_var 1)))))
    (sb_one (ss_ret (se_var 0)))
theorem fn_greatest_divisor {G : Gc} {f : Addr} {fd : FuncData} (B : Bi G) (hm : G.mg "greatest_divisor" = some (.ref f)) (Fu : FunD G.K "greatest_divisor" "greatest_divisor" (defArgs st_greatest_divisor) (defBody st_greatest_divisor) (defScope st_greatest_divisor) [] [] f fd) : FnIs G "greatest_divisor" 1 2 F_greatest_divisor :=
  fn_is hm Fu sc_greatest_divisor (FunD.bindsN (ps := ["one", "other"]) Fu fun _ _ _ _ _ _ us hl => match us, hl with | [_, _], _ => rfl) (b_greatest_divisor B ) (fun _ _ _ h => h)
/-! ### divisors -/
abbrev st_divisors : Stmt := top 8
abbrev N_divisors : List Str := ["modulus", "result", "product", "order"]
def b1_divisors : SF := sSeq (sAug 2 dMulI (eBin dMax2 (eVar 3) (eC (.int 1))))
  (sApp 1 (eFn 2 F_greatest_divisor (aCons (eVar 2) (aCons (eVar 0) (aNil)))))
def t3_divisors : SF := sRet (eVar 1)
def t2_divisors : SF := sSeq (sFor [3] (gNm 3) (iRg1 (eVar 0)) (b1_divisors)) t3_divisors
def t1_divisors : SF := sSeq (sSet 2 (eC (.int 1))) t2_divisors
def g_divisors : SF := sSeq (sSetO 1 (eLst (aNil))) t1_divisors
def F_divisors : List Dt → Option Rs := runB 4 g_divisors
theorem sc_divisors : FnScope N_divisors ["modulus"] (defScope st_divisors) := ⟨rfl, rfl, rfl, by decide +kernel, rfl, by decide +kernel, by decide +kernel⟩
theorem b_divisors {G : Gc} (B : Bi G) (h_greatest_divisor : FnIs G "greatest_divisor" 1 2 F_greatest_divisor) : SB G N_divisors (defScope st_divisors) (fun _ => true) 1 (defBody st_divisors) g_divisors := by
  unfold g_divisors
  exact sb_cons (ss_setO (agL_of 1 (sl_lst (sa_nil))))
    (sb_cons (ss_set (ag_of 2 (se_int)))
    (sb_cons (ss_for (si_rg1 B (se_var 0)) (sg_nm 3) (sb_cons (ss_augMul 2 (se_max2 B (se_var 3) (se_int)))
    (sb_one (ss_app 1 (se_fn h_greatest_divisor (sa_cons (se_var 2) (sa_cons (se_var 0) (sa_nil))))))))
    (sb_one (ss_ret (se_var 1)))))
theorem fn_divisors {G : Gc} {f : Addr} {fd : FuncData} (B : Bi G) (h_greatest_divisor : FnIs G "greatest_divisor" 1 2 F_greatest_divisor) (hm : G.mg "divisors" = some (.ref f)) (Fu : FunD G.K "divisors" "divisors" (defArgs st_divisors) (defBody st_divisors) (defScope st_divisors) [] [] f fd) : FnIs G "divisors" 2 1 F_divisors :=
  fn_is hm Fu sc_divisors (FunD.bindsN (ps := ["modulus"]) Fu fun _ _ _ _ _ _ us hl => match us, hl with | [_], _ => rfl) (b_divisors B h_greatest_divisor) (fun _ _ _ h => h)
/-! ### sizes_of -/
abbrev st_sizes_of : Stmt := top 10
abbrev N_sizes_of : List Str := ["modulus", "divisor"]
def g_sizes_of : SF := sRet (eLc [1] (gNm 1) (iSeq (eFn 1 F_divisors (aCons (eVar 0) (aNil)))) (eBin dLt (eVar 1) (eVar 0)) (eBin dDiv (eVar 0) (eVar 1)))
def F_sizes_of : List Dt → Option Rs := runB 2 g_sizes_of
theorem sc_sizes_of : FnScope N_sizes_of ["modulus"] (defScope st_sizes_of) := ⟨rfl, rfl, rfl, by decide +kernel, rfl, by decide +kernel, by decide +kernel⟩
theorem b_sizes_of {G : Gc} (B : Bi G) (h_divisors : FnIs G "divisors" 2 1 F_divisors) : SB G N_sizes_of (defScope st_sizes_of) (fun _ => true) 2 (defBody st_sizes_of) g_sizes_of := by
  unfold g_sizes_of
  exact sb_one (ss_ret (se_lc (own := [("divisor", 1)]) (si_seq (se_fn h_divisors (sa_cons (se_var 0) (sa_nil)))) (by decide +kernel) (sg_nm 1) (sts_one (st_lt (se_var 1) (se_var 0))) (se_div (se_var 0) (se_var 1))))
theorem fn_sizes_of {G : Gc} {f : Addr} {fd : FuncData} (B : Bi G) (h_divisors : FnIs G "divisors" 2 1 F_divisors) (hm : G.mg "sizes_of" = some (.ref f)) (Fu : FunD G.K "sizes_of" "sizes_of" (defArgs st_sizes_of) (defBody st_sizes_of) (defScope st_sizes_of) [] [] f fd) : FnIs G "sizes_of" 3 1 F_sizes_of :=
  fn_is hm Fu sc_sizes_of (FunD.bindsN (ps := ["modulus"]) Fu fun _ _ _ _ _ _ us hl => match us, hl with | [_], _ => rfl) (b_sizes_of B h_divisors) (fun _ _ _ h => h)
/-! ### sizes -/
abbrev st_sizes : Stmt := top 11
abbrev N_sizes : List Str := ["modulus"]
def t1_sizes : SF := sRet (eFn 1 F_sizes_of (aCons (eVar 0) (aNil)))
def g_sizes : SF := sSeq (sDo (eFn 1 F_check_modulus (aCons (eVar 0) (aNil)))) t1_sizes
def F_sizes : List Dt → Option Rs := runB 1 g_sizes
theorem sc_sizes : FnScope N_sizes ["modulus"] (defScope st_sizes) := ⟨rfl, rfl, rfl, by decide +kernel, rfl, by decide +kernel, by decide +kernel⟩
theorem b_sizes {G : Gc} (B : Bi G) (h_check_modulus : FnIs G "check_modulus" 2 1 F_check_modulus) (h_sizes_of : FnIs G "sizes_of" 3 1 F_sizes_of) : SB G N_sizes (defScope st_sizes) (fun _ => true) 3 (defBody st_sizes) g_sizes := by
  unfold g_sizes
  exact sb_cons (ss_do (se_fn h_check_modulus (sa_cons (se_var 0) (sa_nil))))
    (sb_one (ss_ret (se_fn h_sizes_of (sa_cons (se_var 0) (sa_nil)))))
theorem fn_sizes {G : Gc} {f : Addr} {fd : FuncData} (B : Bi G) (h_check_modulus : FnIs G "check_modulus" 2 1 F_check_modulus) (h_sizes_of : FnIs G "sizes_of" 3 1 F_sizes_of) (hm : G.mg "sizes" = some (.ref f)) (Fu : FunD G.K "sizes" "sizes" (defArgs st_sizes) (defBody st_sizes) (defScope st_sizes) [] [] f fd) : FnIs G "sizes" 4 1 F_sizes :=
  fn_is hm Fu sc_sizes (FunD.bindsN (ps := ["modulus"]) Fu fun _ _ _ _ _ _ us hl => match us, hl with | [_], _ => rfl) (b_sizes B h_check_modulus h_sizes_of) (fun _ _ _ h => h)
/-! ### count_tables -/
abbrev st_count_tables : Stmt := top 12
abbrev N_count_tables : List Str := ["modulus", "result", "size"]
def b1_count_tables : SF := sAug 1 dMulI (eVar 2)
def t2_count_tables : SF := sRet (eVar 1)
def t1_count_tables : SF := sSeq (sFor [2] (gNm 2) (iSeq (eFn 1 F_sizes (aCons (eVar 0) (aNil)))) (b1_count_tables)) t2_count_tables
def g_count_tables : SF := sSeq (sSet 1 (eC (.int 1))) t1_count_tables
def F_count_tables : List Dt → Option Rs := runB 3 g_count_tables
theorem sc_count_tables : FnScope N_count_tables ["modulus"] (defScope st_count_tables) := ⟨rfl, rfl, rfl, by decide +kernel, rfl, by decide +kernel, by decide +kernel⟩
theorem b_count_tables {G : Gc} (B : Bi G) (h_sizes : FnIs G "sizes" 4 1 F_sizes) : SB G N_count_tables (defScope st_count_tables) (fun _ => true) 4 (defBody st_count_tables) g_count_tables := by
  unfold g_count_tables
  exact sb_cons (ss_set (ag_of 1 (se_int)))
    (sb_cons (ss_for (si_seq (se_fn h_sizes (sa_cons (se_var 0) (sa_nil)))) (sg_nm 2) (sb_one (ss_augMul 1 (se_var 2))))
    (sb_one (ss_ret (se_var 1))))
theorem fn_count_tables {G : Gc} {f : Addr} {fd : FuncData} (B : Bi G) (h_sizes : FnIs G "sizes" 4 1 F_sizes) (hm : G.mg "count_tables" = some (.ref f)) (Fu : FunD G.K "count_tables" "count_tables" (defArgs st_count_tables) (defBody st_count_tables) (defScope st_count_tables) [] [] f fd) : FnIs G "count_tables" 5 1 F_count_tables :=
  fn_is hm Fu sc_count_tables (FunD.bindsN (ps := ["modulus"]) Fu fun _ _ _ _ _ _ us hl => match us, hl with | [_], _ => rfl) (b_count_tables B h_sizes) (fun _ _ _ h => h)
/-! ### powers_of -/
abbrev st_powers_of : Stmt := top 14
abbrev N_powers_of : List Str := ["modulus", "result", "rest", "prime", "power"]
def b1_powers_of : SF := sSeq (sAug 4 dMulI (eVar 3))
  (sAug 2 dDivI (eVar 3))
def b2_powers_of : SF := sSeq (sSet 4 (eC (.int 1)))
  (sSeq (sWhile 1000 (eBin dEq (eBin dMod (eVar 2) (eVar 3)) (eC (.int 0))) (b1_powers_of))
  (sIf (eBin dGt (eVar 4) (eC (.int 1))) (sApp 1 (eTup (aCons (eVar 4) (aCons (eVar 3) (aNil))))) (sNop)))
def t3_powers_of : SF := sRet (eUn dSorted (eVar 1))
def t2_powers_of : SF := sSeq (sFor [3] (gNm 3) (iSeq (eTup (aCons (eC (.int 2)) (aCons (eC (.int 3)) (aCons (eC (.int 5)) (aCons (eC (.int 7)) (aCons (eC (.int 11)) (aNil)))))))) (b2_powers_of)) t3_powers_of
def t1_powers_of : SF := sSeq (sSet 2 (eVar 0)) t2_powers_of
def g_powers_of : SF := sSeq (sSetO 1 (eLst (aNil))) t1_powers_of
def F_powers_of : List Dt → Option Rs := runB 5 g_powers_of
theorem sc_powers_of : FnScope N_powers_of ["modulus"] (defScope st_powers_of) := ⟨rfl, rfl, rfl, by decide +kernel, rfl, by decide +kernel, by decide +kernel⟩
theorem b_powers_of {G : Gc} (B : Bi G) : SB G N_powers_of (defScope st_powers_of) (fun _ => true) 0 (defBody st_powers_of) g_powers_of := by
  unfold g_powers_of
  exact sb_cons (ss_setO (agL_of 1 (sl_lst (sa_nil))))
    (sb_cons (ss_set (ag_of 2 (se_var 0)))
    (sb_cons (ss_for (si_seq (se_tup (sa_cons (se_int) (sa_cons (se_int) (sa_cons (se_int) (sa_cons (se_int) (sa_cons (se_int) (sa_nil)))))))) (sg_nm 3) (sb_cons (ss_set (ag_of 4 (se_int)))
    (sb_cons (ss_while 1000 (st_eq (se_mod (se_var 2) (se_var 3)) (se_int)) (sb_cons (ss_augMul 4 (se_var 3))
    (sb_one (ss_augDiv 2 (se_var 3)))))
    (sb_one (ss_if (st_gt (se_var 4) (se_int)) (sb_one (ss_app 1 (se_tup (sa_cons (se_var 4) (sa_cons (se_var 3) (sa_nil)))))) (sb_nil))))))
    (sb_one (ss_ret (se_sorted B (se_var 1))))))
theorem fn_powers_of {G : Gc} {f : Addr} {fd : FuncData} (B : Bi G) (hm : G.mg "powers_of" = some (.ref f)) (Fu : FunD G.K "powers_of" "powers_of" (defArgs st_powers_of) (defBody st_powers_of) (defScope st_powers_of) [] [] f fd) : FnIs G "powers_of" 1 1 F_powers_of :=
  fn_is hm Fu sc_powers_of (FunD.bindsN (ps := ["modulus"]) Fu fun _ _ _ _ _ _ us hl => match us, hl with | [_], _ => rfl) (b_powers_of B ) (fun _ _ _ h => h)
/-! ### permutations_of -/
abbrev st_permutations_of : Stmt := top 15
abbrev N_permutations_of : List Str := ["power", "prime", "result", "number", "time"]
def b1_permutations_of : SF := sAug 2 dMulI (eVar 3)
def b2_permutations_of : SF := sSet 2 (eBin dDiv (eBin dMul (eVar 2) (eBin dSub (eVar 1) (eC (.int 1)))) (eBin dMul (eVar 1) (eVar 1)))
def t5_permutations_of : SF := sRet (eVar 2)
def t4_permutations_of : SF := sSeq (sFor [4] (gNm 4) (iRg1 (eVar 1)) (b2_permutations_of)) t5_permutations_of
def t3_permutations_of : SF := sSeq (sAug 2 dMulI (eFn 1 F_count_tables (aCons (eVar 0) (aNil)))) t4_permutations_of
def t2_permutations_of : SF := sSeq (sIf (eBin dEq (eVar 0) (eVar 1)) (sRet (eVar 2)) (sNop)) t3_permutations_of
def t1_permutations_of : SF := sSeq (sFor [3] (gNm 3) (iRg2 (eC (.int 1)) (eBin dAdd (eVar 1) (eC (.int 1)))) (b1_permutations_of)) t2_permutations_of
def g_permutations_of : SF := sSeq (sSet 2 (eC (.int 1))) t1_permutations_of
def F_permutations_of : List Dt → Option Rs := runB 5 g_permutations_of
theorem sc_permutations_of : FnScope N_permutations_of ["power", "prime"] (defScope st_permutations_of) := ⟨rfl, rfl, rfl, by decide +kernel, rfl, by decide +kernel, by decide +kernel⟩
theorem b_permutations_of {G : Gc} (B : Bi G) (h_count_tables : FnIs G "count_tables" 5 1 F_count_tables) : SB G N_permutations_of (defScope st_permutations_of) (fun _ => true) 5 (defBody st_permutations_of) g_permutations_of := by
  unfold g_permutations_of
  exact sb_cons (ss_set (ag_of 2 (se_int)))
    (sb_cons (ss_for (si_rg2 B (se_int) (se_add (se_var 1) (se_int))) (sg_nm 3) (sb_one (ss_augMul 2 (se_var 3))))
    (sb_cons (ss_if (st_eq (se_var 0) (se_var 1)) (sb_one (ss_ret (se_var 2))) (sb_nil))
    (sb_cons (ss_augMul 2 (se_fn h_count_tables (sa_cons (se_var 0) (sa_nil))))
    (sb_cons (ss_for (si_rg1 B (se_var 1)) (sg_nm 4) (sb_one (ss_set (ag_of 2 (se_div (se_mul (se_var 2) (se_sub (se_var 1) (se_int))) (se_mul (se_var 1) (se_var 1)))))))
    (sb_one (ss_ret (se_var 2)))))))
theorem fn_permutations_of {G : Gc} {f : Addr} {fd : FuncData} (B : Bi G) (h_count_tables : FnIs G "count_tables" 5 1 F_count_tables) (hm : G.mg "permutations_of" = some (.ref f)) (Fu : FunD G.K "permutations_of" "permutations_of" (defArgs st_permutations_of) (defBody st_permutations_of) (defScope st_permutations_of) [] [] f fd) : FnIs G "permutations_of" 6 2 F_permutations_of :=
  fn_is hm Fu sc_permutations_of (FunD.bindsN (ps := ["power", "prime"]) Fu fun _ _ _ _ _ _ us hl => match us, hl with | [_, _], _ => rfl) (b_permutations_of B h_count_tables) (fun _ _ _ h => h)
/-! ### count_permutations -/
abbrev st_count_permutations : Stmt := top 16
abbrev N_count_permutations : List Str := ["modulus", "result", "power", "prime"]
def b1_count_permutations : SF := sAug 1 dMulI (eFn 2 F_permutations_of (aCons (eVar 2) (aCons (eVar 3) (aNil))))
def t3_count_permutations : SF := sRet (eVar 1)
def t2_count_permutations : SF := sSeq (sFor [2, 3] (gPr (gNm 2) (gNm 3)) (iSeq (eFn 1 F_powers_of (aCons (eVar 0) (aNil)))) (b1_count_permutations)) t3_count_permutations
def t1_count_permutations : SF := sSeq (sSet 1 (eC (.int 1))) t2_count_permutations
def g_count_permutations : SF := sSeq (sDo (eFn 1 F_check_modulus (aCons (eVar 0) (aNil)))) t1_count_permutations
def F_count_permutations : List Dt → Option Rs := runB 4 g_count_permutations
theorem sc_count_permutations : FnScope N_count_permutations ["modulus"] (defScope st_count_permutations) := ⟨rfl, rfl, rfl, by decide +kernel, rfl, by decide +kernel, by decide +kernel⟩
theorem b_count_permutations {G : Gc} (B : Bi G) (h_check_modulus : FnIs G "check_modulus" 2 1 F_check_modulus) (h_powers_of : FnIs G "powers_of" 1 1 F_powers_of) (h_permutations_of : FnIs G "permutations_of" 6 2 F_permutations_of) : SB G N_count_permutations (defScope st_count_permutations) (fun _ => true) 6 (defBody st_count_permutations) g_count_permutations := by
  unfold g_count_permutations
  exact sb_cons (ss_do (se_fn h_check_modulus (sa_cons (se_var 0) (sa_nil))))
    (sb_cons (ss_set (ag_of 1 (se_int)))
    (sb_cons (ss_for (si_seq (se_fn h_powers_of (sa_cons (se_var 0) (sa_nil)))) (sg_pr (sg_nm 2) (sg_nm 3)) (sb_one (ss_augMul 1 (se_fn h_permutations_of (sa_cons (se_var 2) (sa_cons (se_var 3) (sa_nil)))))))
    (sb_one (ss_ret (se_var 1)))))
theorem fn_count_permutations {G : Gc} {f : Addr} {fd : FuncData} (B : Bi G) (h_check_modulus : FnIs G "check_modulus" 2 1 F_check_modulus) (h_powers_of : FnIs G "powers_of" 1 1 F_powers_of) (h_permutations_of : FnIs G "permutations_of" 6 2 F_permutations_of) (hm : G.mg "count_permutations" = some (.ref f)) (Fu : FunD G.K "count_permutations" "count_permutations" (defArgs st_count_permutations) (defBody st_count_permutations) (defScope st_count_permutations) [] [] f fd) : FnIs G "count_permutations" 7 1 F_count_permutations :=
  fn_is hm Fu sc_count_permutations (FunD.bindsN (ps := ["modulus"]) Fu fun _ _ _ _ _ _ us hl => match us, hl with | [_], _ => rfl) (b_count_permutations B h_check_modulus h_powers_of h_permutations_of) (fun _ _ _ h => h)
/-! ### _law_cell -/
abbrev st__law_cell : Stmt := top 18
abbrev N__law_cell : List Str := ["script", "k"]
def t1__law_cell : SF := sRet (eC (.int 0))
def g__law_cell : SF := sSeq (sIf (eBin dLt (eVar 1) (eUn dLen (eVar 0))) (sRet (eBin dIx (eVar 0) (eVar 1))) (sNop)) t1__law_cell
def F__law_cell : List Dt → Option Rs := runB 2 g__law_cell
theorem sc__law_cell : FnScope N__law_cell ["script", "k"] (defScope st__law_cell) := ⟨rfl, rfl, rfl, by decide +kernel, rfl, by decide +kernel, by decide +kernel⟩
theorem b__law_cell {G : Gc} (B : Bi G) : SB G N__law_cell (defScope st__law_cell) (fun _ => true) 0 (defBody st__law_cell) g__law_cell := by
  unfold g__law_cell
  exact sb_cons (ss_if (st_lt (se_var 1) (se_len B (se_var 0))) (sb_one (ss_ret (se_ix (se_var 0) (se_var 1)))) (sb_nil))
    (sb_one (ss_ret (se_int)))
theorem fn__law_cell {G : Gc} {f : Addr} {fd : FuncData} (B : Bi G) (hm : G.mg "_law_cell" = some (.ref f)) (Fu : FunD G.K "_law_cell" "_law_cell" (defArgs st__law_cell) (defBody st__law_cell) (defScope st__law_cell) [] [] f fd) : FnIs G "_law_cell" 1 2 F__law_cell :=
  fn_is hm Fu sc__law_cell (FunD.bindsN (ps := ["script", "k"]) Fu fun _ _ _ _ _ _ us hl => match us, hl with | [_, _], _ => rfl) (b__law_cell B ) (fun _ _ _ h => h)
/-! ### _law_row -/
abbrev st__law_row : Stmt := top 19
abbrev N__law_row : List Str := ["script", "at", "cell", "found", "time"]
def b1__law_row : SF := sIf (eBin dLt (eFn 2 F__law_cell (aCons (eVar 0) (aCons (eVar 1) (aNil)))) (eBin dPow (eC (.int 10)) (eC (.int 18)))) (sSeq (sSet 2 (eBin dMod (eBin dAdd (eBin dAdd (eBin dAdd (eBin dMul (eVar 2) (eC (.int 48271))) (eBin dMul (eC (.int 131)) (eVar 4))) (eC (.int 7))) (eFn 2 F__law_cell (aCons (eVar 0) (aCons (eBin dMod (eBin dAdd (eBin dAdd (eVar 1) (eC (.int 1))) (eVar 4)) (eC (.int 20))) (aNil))))) (eC (.int 2147483647))))
  (sApp 3 (eBin dMod (eBin dDiv (eVar 2) (eC (.int 11))) (eC (.int 1000))))) (sSeq (sApp 3 (eBin dMod (eVar 2) (eC (.int 1000))))
  (sSet 2 (eBin dDiv (eVar 2) (eC (.int 1000)))))
def t3__law_row : SF := sRet (eVar 3)
def t2__law_row : SF := sSeq (sFor [4] (gNm 4) (iRg1 (eC (.int 60))) (b1__law_row)) t3__law_row
def t1__law_row : SF := sSeq (sSetO 3 (eLst (aNil))) t2__law_row
def g__law_row : SF := sSeq (sSet 2 (eFn 2 F__law_cell (aCons (eVar 0) (aCons (eVar 1) (aNil))))) t1__law_row
def F__law_row : List Dt → Option Rs := runB 5 g__law_row
theorem sc__law_row : FnScope N__law_row ["script", "at"] (defScope st__law_row) := ⟨rfl, rfl, rfl, by decide +kernel, rfl, by decide +kernel, by decide +kernel⟩
theorem b__law_row {G : Gc} (B : Bi G) (h__law_cell : FnIs G "_law_cell" 1 2 F__law_cell) : SB G N__law_row (defScope st__law_row) (fun _ => true) 1 (defBody st__law_row) g__law_row := by
  unfold g__law_row
  exact sb_cons (ss_set (ag_of 2 (se_fn h__law_cell (sa_cons (se_var 0) (sa_cons (se_var 1) (sa_nil))))))
    (sb_cons (ss_setO (agL_of 3 (sl_lst (sa_nil))))
    (sb_cons (ss_for (si_rg1 B (se_int)) (sg_nm 4) (sb_one (ss_if (st_lt (se_fn h__law_cell (sa_cons (se_var 0) (sa_cons (se_var 1) (sa_nil)))) (se_pow (se_int) (se_int))) (sb_cons (ss_set (ag_of 2 (se_mod (se_add (se_add (se_add (se_mul (se_var 2) (se_int)) (se_mul (se_int) (se_var 4))) (se_int)) (se_fn h__law_cell (sa_cons (se_var 0) (sa_cons (se_mod (se_add (se_add (se_var 1) (se_int)) (se_var 4)) (se_int)) (sa_nil))))) (se_int))))
    (sb_one (ss_app 3 (se_mod (se_div (se_var 2) (se_int)) (se_int))))) (sb_cons (ss_app 3 (se_mod (se_var 2) (se_int)))
    (sb_one (ss_set (ag_of 2 (se_div (se_var 2) (se_int)))))))))
    (sb_one (ss_ret (se_var 3)))))
theorem fn__law_row {G : Gc} {f : Addr} {fd : FuncData} (B : Bi G) (h__law_cell : FnIs G "_law_cell" 1 2 F__law_cell) (hm : G.mg "_law_row" = some (.ref f)) (Fu : FunD G.K "_law_row" "_law_row" (defArgs st__law_row) (defBody st__law_row) (defScope st__law_row) [] [] f fd) : FnIs G "_law_row" 2 2 F__law_row :=
  fn_is hm Fu sc__law_row (FunD.bindsN (ps := ["script", "at"]) Fu fun _ _ _ _ _ _ us hl => match us, hl with | [_, _], _ => rfl) (b__law_row B h__law_cell) (fun _ _ _ h => h)
/-! ### _law_gcd -/
abbrev st__law_gcd : Stmt := top 20
abbrev N__law_gcd : List Str := ["one", "other"]
def b1__law_gcd : SF := sPar 0 1 (eVar 1) (eBin dMod (eVar 0) (eVar 1))
def t1__law_gcd : SF := sRet (eVar 0)
def g__law_gcd : SF := sSeq (sWhile 1000 (eBin dNe (eVar 1) (eC (.int 0))) (b1__law_gcd)) t1__law_gcd
def F__law_gcd : List Dt → Option Rs := runB 2 g__law_gcd
theorem sc__law_gcd : FnScope N__law_gcd ["one", "other"] (defScope st__law_gcd) := ⟨rfl, rfl, rfl, by decide +kernel, rfl, by decide +kernel, by decide +kernel⟩
theorem b__law_gcd {G : Gc} (B : Bi G) : SB G N__law_gcd (defScope st__law_gcd) (fun _ => true) 0 (defBody st__law_gcd) g__law_gcd := by
  unfold g__law_gcd
  exact sb_cons (ss_while 1000 (st_ne (se_var 1) (se_int)) (sb_one (ss_par 0 1 (se_var 1) (se_mod (se_var 0) (se_var 1)))))
    (sb_one (ss_ret (se_var 0)))
theorem fn__law_gcd {G : Gc} {f : Addr} {fd : FuncData} (B : Bi G) (hm : G.mg "_law_gcd" = some (.ref f)) (Fu : FunD G.K "_law_gcd" "_law_gcd" (defArgs st__law_gcd) (defBody st__law_gcd) (defScope st__law_gcd) [] [] f fd) : FnIs G "_law_gcd" 1 2 F__law_gcd :=
  fn_is hm Fu sc__law_gcd (FunD.bindsN (ps := ["one", "other"]) Fu fun _ _ _ _ _ _ us hl => match us, hl with | [_, _], _ => rfl) (b__law_gcd B ) (fun _ _ _ h => h)
/-! ### _law_divisor -/
abbrev st__law_divisor : Stmt := top 21
abbrev N__law_divisor : List Str := ["modulus", "order", "product", "number"]
def b1__law_divisor : SF := sSet 2 (eBin dMul (eVar 2) (eVar 3))
def t2__law_divisor : SF := sRet (eFn 2 F__law_gcd (aCons (eVar 2) (aCons (eVar 0) (aNil))))
def t1__law_divisor : SF := sSeq (sFor [3] (gNm 3) (iRg2 (eC (.int 1)) (eBin dAdd (eVar 1) (eC (.int 1)))) (b1__law_divisor)) t2__law_divisor
def g__law_divisor : SF := sSeq (sSet 2 (eC (.int 1))) t1__law_divisor
def F__law_divisor : List Dt → Option Rs := runB 4 g__law_divisor
theorem sc__law_divisor : FnScope N__law_divisor ["modulus", "order"] (defScope st__law_divisor) := ⟨rfl, rfl, rfl, by decide +kernel, rfl, by decide +kernel, by decide +kernel⟩
theorem b__law_divisor {G : Gc} (B : Bi G) (h__law_gcd : FnIs G "_law_gcd" 1 2 F__law_gcd) : SB G N__law_divisor (defScope st__law_divisor) (fun _ => true) 1 (defBody st__law_divisor) g__law_divisor := by
  unfold g__law_divisor
  exact sb_cons (ss_set (ag_of 2 (se_int)))
    (sb_cons (ss_for (si_rg2 B (se_int) (se_add (se_var 1) (se_int))) (sg_nm 3) (sb_one (ss_set (ag_of 2 (se_mul (se_var 2) (se_var 3))))))
    (sb_one (ss_ret (se_fn h__law_gcd (sa_cons (se_var 2) (sa_cons (se_var 0) (sa_nil)))))))
theorem fn__law_divisor {G : Gc} {f : Addr} {fd : FuncData} (B : Bi G) (h__law_gcd : FnIs G "_law_gcd" 1 2 F__law_gcd) (hm : G.mg "_law_divisor" = some (.ref f)) (Fu : FunD G.K "_law_divisor" "_law_divisor" (defArgs st__law_divisor) (defBody st__law_divisor) (defScope st__law_divisor) [] [] f fd) : FnIs G "_law_divisor" 2 2 F__law_divisor :=
  fn_is hm Fu sc__law_divisor (FunD.bindsN (ps := ["modulus", "order"]) Fu fun _ _ _ _ _ _ us hl => match us, hl with | [_, _], _ => rfl) (b__law_divisor B h__law_gcd) (fun _ _ _ h => h)
/-! ### _law_sizes -/
abbrev st__law_sizes : Stmt := top 22
abbrev N__law_sizes : List Str := ["modulus", "found", "order", "size"]
def t1__law_sizes : SF := sRet (eLc [3] (gNm 3) (iSeq (eVar 1)) (eBin dGt (eVar 3) (eC (.int 1))) (eVar 3))
def g__law_sizes : SF := sSeq (sSet 1 (eLc [2] (gNm 2) (iRg1 (eVar 0)) (eC (.bool true)) (eBin dDiv (eVar 0) (eFn 2 F__law_divisor (aCons (eVar 0) (aCons (eVar 2) (aNil))))))) t1__law_sizes
def F__law_sizes : List Dt → Option Rs := runB 4 g__law_sizes
theorem sc__law_sizes : FnScope N__law_sizes ["modulus"] (defScope st__law_sizes) := ⟨rfl, rfl, rfl, by decide +kernel, rfl, by decide +kernel, by decide +kernel⟩
theorem b__law_sizes {G : Gc} (B : Bi G) (h__law_divisor : FnIs G "_law_divisor" 2 2 F__law_divisor) : SB G N__law_sizes (defScope st__law_sizes) (fun _ => true) 2 (defBody st__law_sizes) g__law_sizes := by
  unfold g__law_sizes
  exact sb_cons (ag_lc 1 (own := [("order", 2)]) (si_rg1 B (se_var 0)) (by decide +kernel) (sg_nm 2) (sts_nil) (se_div (se_var 0) (se_fn h__law_divisor (sa_cons (se_var 0) (sa_cons (se_var 2) (sa_nil))))))
    (sb_one (ss_ret (se_lc (own := [("size", 3)]) (si_seq (se_var 1)) (by decide +kernel) (sg_nm 3) (sts_one (st_gt (se_var 3) (se_int))) (se_var 3))))
theorem fn__law_sizes {G : Gc} {f : Addr} {fd : FuncData} (B : Bi G) (h__law_divisor : FnIs G "_law_divisor" 2 2 F__law_divisor) (hm : G.mg "_law_sizes" = some (.ref f)) (Fu : FunD G.K "_law_sizes" "_law_sizes" (defArgs st__law_sizes) (defBody st__law_sizes) (defScope st__law_sizes) [] [] f fd) : FnIs G "_law_sizes" 3 1 F__law_sizes :=
  fn_is hm Fu sc__law_sizes (FunD.bindsN (ps := ["modulus"]) Fu fun _ _ _ _ _ _ us hl => match us, hl with | [_], _ => rfl) (b__law_sizes B h__law_divisor) (fun _ _ _ h => h)
/-! ### _law_built -/
abbrev st__law_built : Stmt := top 23
abbrev N__law_built : List Str := ["modulus", "form", "found", "place", "total", "product", "order"]
def b1__law_built : SF := sSeq (sSet 4 (eBin dAdd (eVar 4) (eBin dMul (eBin dIx (eVar 1) (eVar 6)) (eVar 5))))
  (sSet 5 (eBin dMul (eVar 5) (eBin dSub (eVar 3) (eVar 6))))
def b2__law_built : SF := sSeq (sUnp [4, 5] (gPr (gNm 4) (gNm 5)) (eTup (aCons (eC (.int 0)) (aCons (eC (.int 1)) (aNil)))))
  (sSeq (sFor [6] (gNm 6) (iRg1 (eUn dLen (eVar 1))) (b1__law_built))
  (sApp 2 (eBin dMod (eVar 4) (eVar 0))))
def t2__law_built : SF := sRet (eUn dTuple (eVar 2))
def t1__law_built : SF := sSeq (sFor [3] (gNm 3) (iRg1 (eVar 0)) (b2__law_built)) t2__law_built
def g__law_built : SF := sSeq (sSetO 2 (eLst (aNil))) t1__law_built
def F__law_built : List Dt → Option Rs := runB 7 g__law_built
theorem sc__law_built : FnScope N__law_built ["modulus", "form"] (defScope st__law_built) := ⟨rfl, rfl, rfl, by decide +kernel, rfl, by decide +kernel, by decide +kernel⟩
theorem b__law_built {G : Gc} (B : Bi G) : SB G N__law_built (defScope st__law_built) (fun _ => true) 0 (defBody st__law_built) g__law_built := by
  unfold g__law_built
  exact sb_cons (ss_setO (agL_of 2 (sl_lst (sa_nil))))
    (sb_cons (ss_for (si_rg1 B (se_var 0)) (sg_nm 3) (sb_cons (ss_unp (se_tup (sa_cons (se_int) (sa_cons (se_int) (sa_nil)))) (sg_pr (sg_nm 4) (sg_nm 5)) (hw := sw_const))
    (sb_cons (ss_for (si_rg1 B (se_len B (se_var 1))) (sg_nm 6) (sb_cons (ss_set (ag_of 4 (se_add (se_var 4) (se_mul (se_ix (se_var 1) (se_var 6)) (se_var 5)))))
    (sb_one (ss_set (ag_of 5 (se_mul (se_var 5) (se_sub (se_var 3) (se_var 6))))))))
    (sb_one (ss_app 2 (se_mod (se_var 4) (se_var 0)))))))
    (sb_one (ss_ret (se_tuple B (se_var 2)))))
theorem fn__law_built {G : Gc} {f : Addr} {fd : FuncData} (B : Bi G) (hm : G.mg "_law_built" = some (.ref f)) (Fu : FunD G.K "_law_built" "_law_built" (defArgs st__law_built) (defBody st__law_built) (defScope st__law_built) [] [] f fd) : FnIs G "_law_built" 1 2 F__law_built :=
  fn_is hm Fu sc__law_built (FunD.bindsN (ps := ["modulus", "form"]) Fu fun _ _ _ _ _ _ us hl => match us, hl with | [_, _], _ => rfl) (b__law_built B ) (fun _ _ _ h => h)
/-! ### _law_all -/
abbrev st__law_all : Stmt := top 24
abbrev N__law_all : List Str := ["modulus", "found", "size", "longer", "one", "form", "factor"]
def b1__law_all : SF := sSet 3 (eBin dAdd (eVar 3) (eLc [6] (gNm 6) (iRg1 (eVar 2)) (eC (.bool true)) (eBin dAdd (eVar 4) (eTup (aCons (eVar 6) (aNil))))))
def b2__law_all : SF := sSeq (sSet 3 (eLst (aNil)))
  (sSeq (sFor [4] (gNm 4) (iSeq (eVar 1)) (b1__law_all))
  (sSet 1 (eVar 3)))
def t2__law_all : SF := sRet (eUn dSorted (eLc [5] (gNm 5) (iSeq (eVar 1)) (eC (.bool true)) (eFn 2 F__law_built (aCons (eVar 0) (aCons (eVar 5) (aNil))))))
def t1__law_all : SF := sSeq (sFor [2] (gNm 2) (iSeq (eFn 1 F__law_sizes (aCons (eVar 0) (aNil)))) (b2__law_all)) t2__law_all
def g__law_all : SF := sSeq (sSet 1 (eLst (aCons (eTup (aNil)) (aNil)))) t1__law_all
def F__law_all : List Dt → Option Rs := runB 7 g__law_all
theorem sc__law_all : FnScope N__law_all ["modulus"] (defScope st__law_all) := ⟨rfl, rfl, rfl, by decide +kernel, rfl, by decide +kernel, by decide +kernel⟩
theorem b__law_all {G : Gc} (B : Bi G) (h__law_sizes : FnIs G "_law_sizes" 3 1 F__law_sizes) (h__law_built : FnIs G "_law_built" 1 2 F__law_built) : SB G N__law_all (defScope st__law_all) (fun _ => true) 3 (defBody st__law_all) g__law_all := by
  unfold g__law_all
  exact sb_cons (ss_set (ag_of 1 (se_lst (sa_cons (se_tup (sa_nil)) (sa_nil)))))
    (sb_cons (ss_for (si_seq (se_fn h__law_sizes (sa_cons (se_var 0) (sa_nil)))) (sg_nm 2) (sb_cons (ss_set (ag_of 3 (se_lst (sa_nil))))
    (sb_cons (ss_for (si_seq (se_var 1)) (sg_nm 4) (sb_one (ss_set (ag_of 3 (se_add (se_var 3) (se_lc (own := [("factor", 6)]) (si_rg1 B (se_var 2)) (by decide +kernel) (sg_nm 6) (sts_nil) (se_add (se_var 4) (se_tup (sa_cons (se_var 6) (sa_nil))))))))))
    (sb_one (ss_set (ag_of 1 (se_var 3)))))))
    (sb_one (ss_ret (se_sorted B (se_lc (own := [("form", 5)]) (si_seq (se_var 1)) (by decide +kernel) (sg_nm 5) (sts_nil) (se_fn h__law_built (sa_cons (se_var 0) (sa_cons (se_var 5) (sa_nil)))))))))
theorem fn__law_all {G : Gc} {f : Addr} {fd : FuncData} (B : Bi G) (h__law_sizes : FnIs G "_law_sizes" 3 1 F__law_sizes) (h__law_built : FnIs G "_law_built" 1 2 F__law_built) (hm : G.mg "_law_all" = some (.ref f)) (Fu : FunD G.K "_law_all" "_law_all" (defArgs st__law_all) (defBody st__law_all) (defScope st__law_all) [] [] f fd) : FnIs G "_law_all" 4 1 F__law_all :=
  fn_is hm Fu sc__law_all (FunD.bindsN (ps := ["modulus"]) Fu fun _ _ _ _ _ _ us hl => match us, hl with | [_], _ => rfl) (b__law_all B h__law_sizes h__law_built) (fun _ _ _ h => h)
/-! ### _law_powers -/
abbrev st__law_powers : Stmt := top 25
abbrev N__law_powers : List Str := ["modulus", "found", "prime", "power"]
def b1__law_powers : SF := sSet 3 (eBin dMul (eVar 3) (eVar 2))
def b2__law_powers : SF := sSeq (sSet 3 (eC (.int 1)))
  (sSeq (sWhile 1000 (eBin dEq (eBin dMod (eVar 0) (eBin dMul (eVar 3) (eVar 2))) (eC (.int 0))) (b1__law_powers))
  (sSet 1 (eBin dAdd (eVar 1) (eBin dMul (eLst (aCons (eVar 3) (aNil))) (eUn dInt (eBin dGt (eVar 3) (eC (.int 1))))))))
def t2__law_powers : SF := sRet (eUn dSorted (eVar 1))
def t1__law_powers : SF := sSeq (sFor [2] (gNm 2) (iSeq (eTup (aCons (eC (.int 2)) (aCons (eC (.int 3)) (aCons (eC (.int 5)) (aCons (eC (.int 7)) (aCons (eC (.int 11)) (aNil)))))))) (b2__law_powers)) t2__law_powers
def g__law_powers : SF := sSeq (sSet 1 (eLst (aNil))) t1__law_powers
def F__law_powers : List Dt → Option Rs := runB 4 g__law_powers
theorem sc__law_powers : FnScope N__law_powers ["modulus"] (defScope st__law_powers) := ⟨rfl, rfl, rfl, by decide +kernel, rfl, by decide +kernel, by decide +kernel⟩
theorem b__law_powers {G : Gc} (B : Bi G) : SB G N__law_powers (defScope st__law_powers) (fun _ => true) 0 (defBody st__law_powers) g__law_powers := by
  unfold g__law_powers
  exact sb_cons (ss_set (ag_of 1 (se_lst (sa_nil))))
    (sb_cons (ss_for (si_seq (se_tup (sa_cons (se_int) (sa_cons (se_int) (sa_cons (se_int) (sa_cons (se_int) (sa_cons (se_int) (sa_nil)))))))) (sg_nm 2) (sb_cons (ss_set (ag_of 3 (se_int)))
    (sb_cons (ss_while 1000 (st_eq (se_mod (se_var 0) (se_mul (se_var 3) (se_var 2))) (se_int)) (sb_one (ss_set (ag_of 3 (se_mul (se_var 3) (se_var 2))))))
    (sb_one (ss_set (ag_of 1 (se_add (se_var 1) (se_mul (se_lst (sa_cons (se_var 3) (sa_nil))) (se_intC B (se_gt (se_var 3) (se_int)))))))))))
    (sb_one (ss_ret (se_sorted B (se_var 1)))))
theorem fn__law_powers {G : Gc} {f : Addr} {fd : FuncData} (B : Bi G) (hm : G.mg "_law_powers" = some (.ref f)) (Fu : FunD G.K "_law_powers" "_law_powers" (defArgs st__law_powers) (defBody st__law_powers) (defScope st__law_powers) [] [] f fd) : FnIs G "_law_powers" 1 1 F__law_powers :=
  fn_is hm Fu sc__law_powers (FunD.bindsN (ps := ["modulus"]) Fu fun _ _ _ _ _ _ us hl => match us, hl with | [_], _ => rfl) (b__law_powers B ) (fun _ _ _ h => h)
/-! ### law -/
abbrev st_law : Stmt := top 26
abbrev N_law : List Str := ["script", "modulus", "found", "due", "power", "every", "number", "table"]
def b1_law : SF := sSet 3 (eBin dMul (eVar 3) (eVar 6))
def b2_law : SF := sIf (eBin dIn (eVar 4) (eTup (aCons (eC (.int 2)) (aCons (eC (.int 3)) (aCons (eC (.int 5)) (aCons (eC (.int 7)) (aCons (eC (.int 11)) (aNil)))))))) (sFor [6] (gNm 6) (iRg2 (eC (.int 2)) (eBin dAdd (eVar 4) (eC (.int 1)))) (b1_law)) (sSet 3 (eBin dMul (eVar 3) (eFn 1 F_count_permutations (aCons (eVar 4) (aNil)))))
def t6_law : SF := sRet (eBin dEq (eVar 2) (eVar 3))
def t5_law : SF := sSeq (sIf (eBin dEq (eVar 1) (eC (.int 9))) (sRet (eBin dEq (eVar 2) (eBin dDiv (eBin dMul (eBin dMul (eC (.int 6)) (eC (.int 8))) (eC (.int 19683))) (eC (.int 729))))) (sNop)) t6_law
def t4_law : SF := sSeq (sFor [4] (gNm 4) (iSeq (eFn 1 F__law_powers (aCons (eVar 1) (aNil)))) (b2_law)) t5_law
def t3_law : SF := sSeq (sSet 3 (eC (.int 1))) t4_law
def t2_law : SF := sSeq (sIf (eBin dIn (eVar 1) (eTup (aCons (eC (.int 2)) (aCons (eC (.int 3)) (aCons (eC (.int 4)) (aCons (eC (.int 6)) (aCons (eC (.int 8)) (aNil)))))))) (sSeq (sSet 5 (eFn 1 F__law_all (aCons (eVar 1) (aNil))))
  (sRet (eBin dEq (eVar 2) (eUn dLen (eLc [7] (gNm 7) (iSeq (eVar 5)) (eBin dEq (eUn dLen (eUn dSortSet (eVar 7))) (eVar 1)) (eVar 7)))))) (sNop)) t3_law
def t1_law : SF := sSeq (sSet 2 (eFn 1 F_count_permutations (aCons (eVar 1) (aNil)))) t2_law
def g_law : SF := sSeq (sSet 1 (eBin dAdd (eC (.int 2)) (eBin dMod (eBin dIx (eFn 2 F__law_row (aCons (eVar 0) (aCons (eC (.int 5)) (aNil)))) (eC (.int 0))) (eC (.int 11))))) t1_law
def F_law : List Dt → Option Rs := runB 8 g_law
theorem sc_law : FnScope N_law ["script"] (defScope st_law) := ⟨rfl, rfl, rfl, by decide +kernel, rfl, by decide +kernel, by decide +kernel⟩
theorem b_law {G : Gc} (B : Bi G) (h__law_row : FnIs G "_law_row" 2 2 F__law_row) (h_count_permutations : FnIs G "count_permutations" 7 1 F_count_permutations) (h__law_all : FnIs G "_law_all" 4 1 F__law_all) (h__law_powers : FnIs G "_law_powers" 1 1 F__law_powers) : SB G N_law (defScope st_law) (fun _ => true) 7 (defBody st_law) g_law := by
  unfold g_law
  exact sb_cons (ss_set (ag_of 1 (se_add (se_int) (se_mod (se_ix (se_fn h__law_row (sa_cons (se_var 0) (sa_cons (se_int) (sa_nil)))) (se_int)) (se_int)))))
    (sb_cons (ss_set (ag_of 2 (se_fn h_count_permutations (sa_cons (se_var 1) (sa_nil)))))
    (sb_cons (ss_if (st_in (se_var 1) (se_tup (sa_cons (se_int) (sa_cons (se_int) (sa_cons (se_int) (sa_cons (se_int) (sa_cons (se_int) (sa_nil)))))))) (sb_cons (ss_set (ag_of 5 (se_fn h__law_all (sa_cons (se_var 1) (sa_nil)))))
    (sb_one (ss_ret (se_eq (se_var 2) (se_len B (se_lc (own := [("table", 7)]) (si_seq (se_var 5)) (by decide +kernel) (sg_nm 7) (sts_one (st_eq (se_len B (se_sortSet B (se_var 7))) (se_var 1))) (se_var 7))))))) (sb_nil))
    (sb_cons (ss_set (ag_of 3 (se_int)))
    (sb_cons (ss_for (si_seq (se_fn h__law_powers (sa_cons (se_var 1) (sa_nil)))) (sg_nm 4) (sb_one (ss_if (st_in (se_var 4) (se_tup (sa_cons (se_int) (sa_cons (se_int) (sa_cons (se_int) (sa_cons (se_int) (sa_cons (se_int) (sa_nil)))))))) (sb_one (ss_for (si_rg2 B (se_int) (se_add (se_var 4) (se_int))) (sg_nm 6) (sb_one (ss_set (ag_of 3 (se_mul (se_var 3) (se_var 6))))))) (sb_one (ss_set (ag_of 3 (se_mul (se_var 3) (se_fn h_count_permutations (sa_cons (se_var 4) (sa_nil))))))))))
    (sb_cons (ss_if (st_eq (se_var 1) (se_int)) (sb_one (ss_ret (se_eq (se_var 2) (se_div (se_mul (se_mul (se_int) (se_int)) (se_int)) (se_int))))) (sb_nil))
    (sb_one (ss_ret (se_eq (se_var 2) (se_var 3)))))))))
theorem fn_law {G : Gc} {f : Addr} {fd : FuncData} (B : Bi G) (h__law_row : FnIs G "_law_row" 2 2 F__law_row) (h_count_permutations : FnIs G "count_permutations" 7 1 F_count_permutations) (h__law_all : FnIs G "_law_all" 4 1 F__law_all) (h__law_powers : FnIs G "_law_powers" 1 1 F__law_powers) (hm : G.mg "law" = some (.ref f)) (Fu : FunD G.K "law" "law" (defArgs st_law) (defBody st_law) (defScope st_law) [] [] f fd) : FnIs G "law" 8 1 F_law :=
  fn_is hm Fu sc_law (FunD.bindsN (ps := ["script"]) Fu fun _ _ _ _ _ _ us hl => match us, hl with | [_], _ => rfl) (b_law B h__law_row h_count_permutations h__law_all h__law_powers) (fun _ _ _ h => h)
end PT

namespace PT
open PySem PySem.Spec PyProof.Rows L2
/-! ## the drawn numbers -/
theorem w_cell (ns : List Int) (k : Nat) : F__law_cell [scr ns, .int (k : Int)] = some (.val (.int (ns.getD k 0))) := by
  show runB 2 g__law_cell [scr ns, .int (k : Int)] = _
  have e1 : g__law_cell (start0 2 [scr ns, .int (k : Int)]) = (match decide ((k : Int) < ((ns.map fun i => ((.int i : PyData), (.none : PyData))).length : Nat)) with
    | true => (match ((atI (ns.map fun i => ((.int i : PyData), (.none : PyData))) (k : Int)).map (·.1)).map Rs.val with
      | some (.val d) => some (.rt d)
      | some (.exc n pl) => some (.ex n pl)
      | none => none)
    | false => some (.rt (.int 0))) := by
    unfold g__law_cell t1__law_cell
    simp only [w_seq, w_if, w_bin, w_un]
    show (match bndS (some (Rs.val (.bool (decide ((k : Int) < ((ns.map fun i => ((.int i : PyData), (.none : PyData))).length : Nat)))))) _ with | some (.nx ρ') => _ | y => y) = _
    rw [w_bndS]
    cases decide ((k : Int) < ((ns.map fun i => ((.int i : PyData), (.none : PyData))).length : Nat)) with
    | false => rfl
    | true =>
      show (match sRet (eBin dIx (eVar 0) (eVar 1)) (start0 2 [scr ns, .int (k : Int)]) with | some (.nx ρ') => _ | y => y) = _
      have : sRet (eBin dIx (eVar 0) (eVar 1)) (start0 2 [scr ns, .int (k : Int)]) = bndS (((atI (ns.map fun i => ((.int i : PyData), (.none : PyData))) (k : Int)).map (·.1)).map Rs.val) (fun d => some (.rt d)) := rfl
      rw [this]
      cases ((atI (ns.map fun i => ((.int i : PyData), (.none : PyData))) (k : Int)).map (·.1)).map Rs.val with
      | none => rfl
      | some r => cases r <;> rfl
  unfold runB
  rw [e1]
  by_cases hk : k < ns.length
  · have h1 : decide ((k : Int) < ((ns.map fun i => ((.int i : PyData), (.none : PyData))).length : Nat)) = true := by
      rw [List.length_map]; exact decide_eq_true (by omega)
    rw [h1]
    have h2 : atI (ns.map fun i => ((.int i : PyData), (.none : PyData))) (k : Int) = some (.int ns[k], .none) := by
      refine atI_of (j := k) ?_ ?_
      · rw [List.length_map]; exact ixN_nat hk
      · rw [List.getElem?_map, List.getElem?_eq_getElem hk]; rfl
    rw [h2]
    have h3 : ns.getD k 0 = ns[k] := by rw [List.getD_eq_getElem?_getD, List.getElem?_eq_getElem hk]; rfl
    rw [h3]
    rfl
  · have h1 : decide ((k : Int) < ((ns.map fun i => ((.int i : PyData), (.none : PyData))).length : Nat)) = false := by
      rw [List.length_map]; exact decide_eq_false (by omega)
    rw [h1]
    have h3 : ns.getD k 0 = 0 := by rw [List.getD_eq_getElem?_getD, List.getElem?_eq_none (by omega)]; rfl
    rw [h3]

theorem w_row (ns : List Int) (a : Nat) : ∃ L : List Int, F__law_row [scr ns, .int (a : Int)] = some (.val (.list (L.map .int))) ∧ L.length = 60 ∧ ∀ x ∈ L, 0 ≤ x ∧ x < 1000 := by
  let P : Nat → En → Prop := fun i ρ => ∃ (c : Int) (L : List Int) (t : Option SV), ρ = [some (.sh (scr ns)), some (.sh (.int (a : Int))), some (.sh (.int c)), some (.own (L.map .int)), t] ∧ L.length = i ∧ ∀ x ∈ L, 0 ≤ x ∧ x < 1000
  have key : ∀ (j : Nat) (c : Int) (L : List Int) (x : Int), L.length = 0 + j → (∀ y ∈ L, 0 ≤ y ∧ y < 1000) → ∀ t : Option SV, P (0 + j + 1) [some (.sh (scr ns)), some (.sh (.int (a : Int))), some (.sh (.int c)), some (.own (L.map .int ++ [.int (x % 1000)])), t] := fun j c L x hl h t =>
    ⟨c, L ++ [x % 1000], t, by rw [List.map_append]; rfl, by simp; omega, fun y hy => (List.mem_append.mp hy).elim (h y) fun e => by rw [List.mem_singleton.mp e]; omega⟩
  have hc := w_cell ns a
  obtain ⟨ρ', h1, c, L, t, h2, h3, h4⟩ := forL_inv (sl := [4]) (tg := gNm 4) (body := b1__law_row) P (rgL 0 60) 0 [some (.sh (scr ns)), some (.sh (.int (a : Int))), some (.sh (.int (ns.getD a 0))), some (.own []), none] ⟨_, [], none, rfl, rfl, fun _ z => nomatch z⟩ (by
    rintro j x ρ hx ⟨c, L, t, rfl, hl, hL⟩
    have hj : j < 60 := by
      have := (List.getElem?_eq_some_iff.mp hx).1
      rw [rgL_length] at this
      exact this
    rw [rgL_get hj] at hx
    cases hx
    have hm : (↑a + 1 + ↑j : Int) % 20 = (((a + 1 + j) % 20 : Nat) : Int) := by omega
    have hq := w_cell ns ((a + 1 + j) % 20)
    have hlim : L.length < lim := by unfold lim; omega
    have s1 : sml 48271 = true := by decide
    have s2 : sml 131 = true := by decide
    have hp : dPow (.int 10) (.int 18) = some (.int 1000000000000000000) := by kernel_rfl
    by_cases hlt : ns.getD a 0 < 1000000000000000000
    · refine ⟨[some (.sh (scr ns)), some (.sh (.int (a : Int))), some (.sh (.int ((c * 48271 + 131 * (j : Int) + 7 + ns.getD ((a + 1 + j) % 20) 0) % 2147483647))), some (.own (L.map .int ++ [.int ((c * 48271 + 131 * (j : Int) + 7 + ns.getD ((a + 1 + j) % 20) 0) % 2147483647 / 11 % 1000)])), some (.sh (.int (j : Int)))], ?_, key _ _ _ _ hl hL _⟩
      unfold turn b1__law_row
      simp only [w_bnd, w_bndX, w_bndN, w_bndS, w_bndSX, w_bndSN, w_bndI, w_bndA, w_c, w_bin, w_un, w_nil, w_cons, w_fn, w_seq, w_nop, w_set, w_setO, w_ret, w_do, w_if, w_v0, w_o0, w_o0f, w_vs, w_clr0, w_clrs, w_nm, w_pr, w_add, w_sub, w_mul, w_addI, w_mulI, w_lt, w_le, w_gt, w_ge, w_truB, w_truI, w_truL, w_truT, w_truN, w_lenL, w_lenT, w_tupL, w_listT, w_listL, w_app, w_aug, w_for, List.set_cons_zero, List.set_cons_succ, List.getElem?_cons_zero, List.getElem?_cons_succ, List.length_cons, List.length_nil, Option.map_some, Option.map_none, Option.bind_some, Bool.or_true, Bool.true_or, eq_self, ite_true, ite_false, decide_true, decide_false, Int.reduceLT, Int.reduceLE, Int.reduceAdd, Int.reduceSub, Int.reduceMul, Int.reduceNeg, Nat.reduceAdd, Nat.reduceLT, Nat.reduceLeDiff, Nat.reduceEqDiff, reduceIte, w_mod, w_div, hc, hp, hm, hq, s1, s2, hlim, hlt, Int.zero_add, List.length_map]
    · refine ⟨[some (.sh (scr ns)), some (.sh (.int (a : Int))), some (.sh (.int (c / 1000))), some (.own (L.map .int ++ [.int (c % 1000)])), some (.sh (.int (j : Int)))], ?_, key _ _ _ _ hl hL _⟩
      unfold turn b1__law_row
      simp only [w_bnd, w_bndX, w_bndN, w_bndS, w_bndSX, w_bndSN, w_bndI, w_bndA, w_c, w_bin, w_un, w_nil, w_cons, w_fn, w_seq, w_nop, w_set, w_setO, w_ret, w_do, w_if, w_v0, w_o0, w_o0f, w_vs, w_clr0, w_clrs, w_nm, w_pr, w_add, w_sub, w_mul, w_addI, w_mulI, w_lt, w_le, w_gt, w_ge, w_truB, w_truI, w_truL, w_truT, w_truN, w_lenL, w_lenT, w_tupL, w_listT, w_listL, w_app, w_aug, w_for, List.set_cons_zero, List.set_cons_succ, List.getElem?_cons_zero, List.getElem?_cons_succ, List.length_cons, List.length_nil, Option.map_some, Option.map_none, Option.bind_some, Bool.or_true, Bool.true_or, eq_self, ite_true, ite_false, decide_true, decide_false, Int.reduceLT, Int.reduceLE, Int.reduceAdd, Int.reduceSub, Int.reduceMul, Int.reduceNeg, Nat.reduceAdd, Nat.reduceLT, Nat.reduceLeDiff, Nat.reduceEqDiff, reduceIte, w_mod, w_div, hc, hp, hm, hq, s1, s2, hlim, hlt, Int.zero_add, List.length_map])
  refine ⟨L, ?_, by simpa [rgL_length] using h3, h4⟩
  subst h2
  unfold F__law_row runB g__law_row t1__law_row t2__law_row t3__law_row
  have e : iRg1 (eC (.int 60)) false [some (.sh (scr ns)), some (.sh (.int (a : Int))), some (.sh (.int (ns.getD a 0))), some (.own []), none] = some (.it (rgL 0 60)) := rfl
  have e2 : start0 5 [scr ns, .int (a : Int)] = [some (.sh (scr ns)), some (.sh (.int (a : Int))), none, none, none] := rfl
  have e3 : ∀ ρ, eLst aNil true ρ = some (.val (.list [])) := fun _ => rfl
  simp only [w_bnd, w_bndX, w_bndN, w_bndS, w_bndSX, w_bndSN, w_bndI, w_bndA, w_c, w_bin, w_un, w_nil, w_cons, w_fn, w_seq, w_nop, w_set, w_setO, w_ret, w_do, w_if, w_v0, w_o0, w_o0f, w_vs, w_clr0, w_clrs, w_nm, w_pr, w_add, w_sub, w_mul, w_addI, w_mulI, w_lt, w_le, w_gt, w_ge, w_truB, w_truI, w_truL, w_truT, w_truN, w_lenL, w_lenT, w_tupL, w_listT, w_listL, w_app, w_aug, w_for, List.set_cons_zero, List.set_cons_succ, List.getElem?_cons_zero, List.getElem?_cons_succ, List.length_cons, List.length_nil, Option.map_some, Option.map_none, Option.bind_some, Bool.or_true, Bool.true_or, eq_self, ite_true, ite_false, decide_true, decide_false, Int.reduceLT, Int.reduceLE, Int.reduceAdd, Int.reduceSub, Int.reduceMul, Int.reduceNeg, Nat.reduceAdd, Nat.reduceLT, Nat.reduceLeDiff, Nat.reduceEqDiff, reduceIte, e2, hc, e, h1, e3]
/-! ## _law_built, plain -/
def bst (form : List Int) (x : Int) : Nat → Int × Int
  | 0 => (0, 1)
  | i + 1 => ((bst form x i).1 + form.getD i 0 * (bst form x i).2, (bst form x i).2 * (x - i))
def bval (m : Int) (form : List Int) (x : Int) : Int := (bst form x form.length).1 % m
theorem w_lbuilt (m : Nat) (form : List Int) (hm0 : 1 ≤ m) (hm : m ≤ 1000) (hf : form.length ≤ 1000) (hs : ∀ i, i < form.length → sml (form.getD i 0) = true) :
    F__law_built [.int m, .tuple (form.map .int)] = some (.val (.tuple ((List.range m).map fun x => .int (bval m form (x : Nat))))) := by
  have inner : ∀ (fo : List Dt) (x : Nat) (j : Option SV), x < m → ∃ j2, forL [6] (gNm 6) b1__law_built (rgL 0 form.length) [some (.sh (.int m)), some (.sh (.tuple (form.map .int))), some (.own fo), some (.sh (.int x)), some (.sh (.int 0)), some (.sh (.int 1)), j]
      = some (.nx [some (.sh (.int m)), some (.sh (.tuple (form.map .int))), some (.own fo), some (.sh (.int x)), some (.sh (.int (bst form x form.length).1)), some (.sh (.int (bst form x form.length).2)), j2]) := by
    intro fo x j hx
    obtain ⟨ρ', h1, j2, h2⟩ := forL_inv (sl := [6]) (tg := gNm 6) (body := b1__law_built) (fun i ρ => ∃ j2, ρ = [some (.sh (.int m)), some (.sh (.tuple (form.map .int))), some (.own fo), some (.sh (.int x)), some (.sh (.int (bst form x i).1)), some (.sh (.int (bst form x i).2)), j2]) (rgL 0 form.length) 0 _ ⟨j, rfl⟩ (by
      rintro i y ρ hy ⟨j2, rfl⟩
      obtain ⟨hi, rfl⟩ := rgL_at hy
      have e1 : dIx (.tuple (form.map .int)) (.int (i : Int)) = some (.int (form.getD i 0)) := w_ixT (get_map_int hi)
      have e2 : sml ((x : Int) - i) = true := sml_of (by omega) (by omega)
      refine ⟨_, ?_, some (.sh (.int i)), rfl⟩
      unfold turn b1__law_built
      simp only [w_bnd, w_bndX, w_bndN, w_bndS, w_bndSX, w_bndSN, w_bndI, w_bndA, w_c, w_bin, w_un, w_nil, w_cons, w_fn, w_seq, w_nop, w_set, w_setO, w_ret, w_do, w_if, w_v0, w_o0, w_o0f, w_vs, w_clr0, w_clrs, w_nm, w_pr, w_add, w_sub, w_mul, w_addI, w_mulI, w_lt, w_le, w_gt, w_ge, w_truB, w_truI, w_truL, w_truT, w_truN, w_lenL, w_lenT, w_tupL, w_listT, w_listL, w_app, w_aug, w_for, List.set_cons_zero, List.set_cons_succ, List.getElem?_cons_zero, List.getElem?_cons_succ, List.length_cons, List.length_nil, Option.map_some, Option.map_none, Option.bind_some, Bool.or_true, Bool.true_or, eq_self, ite_true, ite_false, decide_true, decide_false, Int.reduceLT, Int.reduceLE, Int.reduceAdd, Int.reduceSub, Int.reduceMul, Int.reduceNeg, Nat.reduceAdd, Nat.reduceLT, Nat.reduceLeDiff, Nat.reduceEqDiff, reduceIte, Int.zero_add, Nat.zero_add, e1, e2, hs i hi, bst])
    rw [rgL_length, Nat.zero_add] at h2
    exact ⟨j2, by rw [← h2]; exact h1⟩
  obtain ⟨ρ', h1, j1, j2, j3, j4, h3⟩ := forL_inv (sl := [3]) (tg := gNm 3) (body := b2__law_built) (fun i ρ => ∃ (j1 j2 j3 j4 : Option SV), ρ = [some (.sh (.int m)), some (.sh (.tuple (form.map .int))), some (.own ((List.range i).map fun x => .int (bval m form (x : Nat)))), j1, j2, j3, j4])
    (rgL 0 m) 0 [some (.sh (.int m)), some (.sh (.tuple (form.map .int))), some (.own []), none, none, none, none] ⟨_, _, _, _, rfl⟩ (by
    rintro i y ρ hy ⟨j1, j2, j3, j4, rfl⟩
    obtain ⟨hi, rfl⟩ := rgL_at hy
    obtain ⟨j5, h⟩ := inner ((List.range i).map fun x => .int (bval m form (x : Nat))) i j4 hi
    have hl : i < lim := by unfold lim; omega
    have hmp : (0 : Int) < m := by omega
    have hr : ∀ ρ, iRg1 (eUn dLen (eVar 1)) false (some (.sh (.int m)) :: some (.sh (.tuple (form.map .int))) :: ρ) = some (.it (rgL 0 form.length)) := fun ρ => by
      refine w_rg1 ?_ (by omega)
      simp only [w_bnd, w_bndX, w_bndN, w_bndS, w_bndSX, w_bndSN, w_bndI, w_bndA, w_c, w_bin, w_un, w_nil, w_cons, w_fn, w_seq, w_nop, w_set, w_setO, w_ret, w_do, w_if, w_v0, w_o0, w_o0f, w_vs, w_clr0, w_clrs, w_nm, w_pr, w_add, w_sub, w_mul, w_addI, w_mulI, w_lt, w_le, w_gt, w_ge, w_truB, w_truI, w_truL, w_truT, w_truN, w_lenL, w_lenT, w_tupL, w_listT, w_listL, w_app, w_aug, w_for, List.set_cons_zero, List.set_cons_succ, List.getElem?_cons_zero, List.getElem?_cons_succ, List.length_cons, List.length_nil, Option.map_some, Option.map_none, Option.bind_some, Bool.or_true, Bool.true_or, eq_self, ite_true, ite_false, decide_true, decide_false, Int.reduceLT, Int.reduceLE, Int.reduceAdd, Int.reduceSub, Int.reduceMul, Int.reduceNeg, Nat.reduceAdd, Nat.reduceLT, Nat.reduceLeDiff, Nat.reduceEqDiff, reduceIte, List.length_map]
    refine ⟨_, ?_, some (.sh (.int i)), some (.sh (.int (bst form i form.length).1)), some (.sh (.int (bst form i form.length).2)), j5, rfl⟩
    unfold turn b2__law_built
    have hbv : ∀ x : Int, (bst form x form.length).1 % (m : Int) = bval m form x := fun _ => rfl
    have hu : ∀ ρ : En, sUnp [4, 5] (gPr (gNm 4) (gNm 5)) (eTup (aCons (eC (.int 0)) (aCons (eC (.int 1)) (aNil)))) ρ = some (.nx ((((ρ.set 5 none).set 4 none).set 4 (some (.sh (.int 0)))).set 5 (some (.sh (.int 1))))) := fun ρ => rfl
    simp only [w_bnd, w_bndX, w_bndN, w_bndS, w_bndSX, w_bndSN, w_bndI, w_bndA, w_c, w_bin, w_un, w_nil, w_cons, w_fn, w_seq, w_nop, w_set, w_setO, w_ret, w_do, w_if, w_v0, w_o0, w_o0f, w_vs, w_clr0, w_clrs, w_nm, w_pr, w_add, w_sub, w_mul, w_addI, w_mulI, w_lt, w_le, w_gt, w_ge, w_truB, w_truI, w_truL, w_truT, w_truN, w_lenL, w_lenT, w_tupL, w_listT, w_listL, w_app, w_aug, w_for, List.set_cons_zero, List.set_cons_succ, List.getElem?_cons_zero, List.getElem?_cons_succ, List.length_cons, List.length_nil, Option.map_some, Option.map_none, Option.bind_some, Bool.or_true, Bool.true_or, eq_self, ite_true, ite_false, decide_true, decide_false, Int.reduceLT, Int.reduceLE, Int.reduceAdd, Int.reduceSub, Int.reduceMul, Int.reduceNeg, Nat.reduceAdd, Nat.reduceLT, Nat.reduceLeDiff, Nat.reduceEqDiff, reduceIte, Int.zero_add, Nat.zero_add, hu, hr, h, hl, List.length_map, List.length_range, w_mod hmp, List.range_succ, List.map_append, List.map_cons, List.map_nil, hbv])
  subst h3
  unfold F__law_built runB g__law_built t1__law_built t2__law_built
  have hr : ∀ ρ, iRg1 (eVar 0) false (some (.sh (.int m)) :: ρ) = some (.it (rgL 0 m)) := fun ρ => w_rg1 rfl (by omega)
  have e2 : start0 7 [.int m, .tuple (form.map .int)] = [some (.sh (.int m)), some (.sh (.tuple (form.map .int))), none, none, none, none, none] := rfl
  have e3 : ∀ ρ, eLst aNil true ρ = some (.val (.list [])) := fun _ => rfl
  simp only [w_bnd, w_bndX, w_bndN, w_bndS, w_bndSX, w_bndSN, w_bndI, w_bndA, w_c, w_bin, w_un, w_nil, w_cons, w_fn, w_seq, w_nop, w_set, w_setO, w_ret, w_do, w_if, w_v0, w_o0, w_o0f, w_vs, w_clr0, w_clrs, w_nm, w_pr, w_add, w_sub, w_mul, w_addI, w_mulI, w_lt, w_le, w_gt, w_ge, w_truB, w_truI, w_truL, w_truT, w_truN, w_lenL, w_lenT, w_tupL, w_listT, w_listL, w_app, w_aug, w_for, List.set_cons_zero, List.set_cons_succ, List.getElem?_cons_zero, List.getElem?_cons_succ, List.length_cons, List.length_nil, Option.map_some, Option.map_none, Option.bind_some, Bool.or_true, Bool.true_or, eq_self, ite_true, ite_false, decide_true, decide_false, Int.reduceLT, Int.reduceLE, Int.reduceAdd, Int.reduceSub, Int.reduceMul, Int.reduceNeg, Nat.reduceAdd, Nat.reduceLT, Nat.reduceLeDiff, Nat.reduceEqDiff, reduceIte, e2, e3, hr, h1, rgL_length, Nat.zero_add]
/-! ## _law_all, plain -/
def ext (s : Nat) (found : List (List Int)) : List (List Int) := found.flatMap fun o => (List.range s).map fun f => o ++ [((f : Nat) : Int)]
def formsOf : List Nat → List (List Int) → List (List Int)
  | [], acc => acc
  | s :: ss, acc => formsOf ss (ext s acc)
abbrev tups (l : List (List Int)) : List Dt := l.map tI'
theorem ext_len (s : Nat) (found : List (List Int)) : (ext s found).length = found.length * s := by
  unfold ext
  induction found with
  | nil => simp
  | cons o r ih => rw [List.flatMap_cons, List.length_append, ih, List.length_map, List.length_range, List.length_cons, Nat.succ_mul]; omega
theorem ext_mem {s : Nat} {found : List (List Int)} {f : List Int} (h : f ∈ ext s found) : ∃ o ∈ found, ∃ x : Nat, x < s ∧ f = o ++ [(x : Int)] := by
  unfold ext at h
  obtain ⟨o, ho, h⟩ := List.mem_flatMap.mp h
  obtain ⟨x, hx, rfl⟩ := List.mem_map.mp h
  exact ⟨o, ho, x, List.mem_range.mp hx, rfl⟩
theorem w_lext (m : Dt) (s : Nat) (found : List (List Int)) (j4 : Option SV) (hs : s ≤ 1000) (hl : found.length * s ≤ 100000) (hw : ∀ f ∈ found, f.length ≤ 1000) (fo : Dt) :
    ∃ j, forL [4] (gNm 4) b1__law_all (tups found) [some (.sh m), some (.sh fo), some (.sh (.int s)), some (.sh (.list [])), j4, none, none]
      = some (.nx [some (.sh m), some (.sh fo), some (.sh (.int s)), some (.sh (.list (tups (ext s found)))), j, none, none]) := by
  obtain ⟨ρ', h1, j, h2⟩ := forL_inv (sl := [4]) (tg := gNm 4) (body := b1__law_all) (fun i ρ => ∃ j, ρ = [some (.sh m), some (.sh fo), some (.sh (.int s)), some (.sh (.list (tups (ext s (found.take i))))), j, none, none]) (tups found) 0 [some (.sh m), some (.sh fo), some (.sh (.int s)), some (.sh (.list [])), j4, none, none] ⟨j4, rfl⟩ (by
    rintro i x ρ hx ⟨j, rfl⟩
    rw [Nat.zero_add] at *
    unfold tups at hx
    rw [List.getElem?_map] at hx
    cases ho : found[i]? with
    | none => rw [ho] at hx; cases hx
    | some o =>
      rw [ho] at hx
      cases hx
      have hom : o ∈ found := List.mem_of_getElem? ho
      have hi : i < found.length := (List.getElem?_eq_some_iff.mp ho).1
      have ht : found.take (i + 1) = found.take i ++ [o] := by rw [List.take_add_one, ho]; rfl
      have hc : ∀ L, eLc [6] (gNm 6) (iRg1 (eVar 2)) (eC (.bool true)) (eBin dAdd (eVar 4) (eTup (aCons (eVar 6) (aNil)))) true [some (.sh m), some (.sh fo), some (.sh (.int s)), some (.sh (.list L)), some (.sh (tI' o)), none, none] = some (.val (.list (tups ((List.range s).map fun f => o ++ [((f : Nat) : Int)])))) := fun L => by
        refine w_lc (w_rg1 rfl (by omega)) rfl (by rw [rgL_length]; unfold lim; omega) ?_
        have e : tups ((List.range s).map fun f => o ++ [((f : Nat) : Int)]) = (rgL 0 s).map fun d => match d with
          | .int i => tI' (o ++ [i])
          | y => y := by
          unfold tups rgL
          rw [List.map_map, List.map_map]
          refine List.map_congr_left fun f _ => ?_
          show tI' (o ++ [((f : Nat) : Int)]) = tI' (o ++ [0 + ((f : Nat) : Int)])
          rw [Int.zero_add]
        rw [e]
        refine lcL_map _ _ fun d hd => ?_
        obtain ⟨f, hf, rfl⟩ := rgL_mem hd
        refine ⟨_, rfl, ?_⟩
        have hT : ∀ ρ : En, eTup (aCons (eVar 6) aNil) true [some (.sh m), some (.sh fo), some (.sh (.int s)), some (.sh (.list L)), some (.sh (tI' o)), none, some (.sh (.int (0 + f : Int)))] = some (.val (.tuple [.int (0 + f : Int)])) := fun _ => rfl
        have hlo : o.length + 1 ≤ lim := by have := hw o hom; unfold lim; omega
        have ha : dAdd (tI' o) (.tuple [.int (0 + f : Int)]) = some (tI' (o ++ [(0 + f : Int)])) := by
          rw [w_addT (by rw [List.length_map]; exact hlo)]
          show _ = some (PyData.tuple ((o ++ [(0 + f : Int)]).map .int))
          rw [List.map_append]
          rfl
        show bnd (some (.val (tI' o))) (fun x => bnd (some (.val (.tuple [.int (0 + f : Int)]))) fun y => (dAdd x y).map .val) = _
        rw [w_bnd, w_bnd, ha]
        rfl
      have hadd : dAdd (.list (tups (ext s (found.take i)))) (.list (tups ((List.range s).map fun f => o ++ [((f : Nat) : Int)]))) = some (.list (tups (ext s (found.take (i + 1))))) := by
        rw [w_addL]
        · rw [ht]
          unfold tups ext
          rw [List.flatMap_append, List.map_append]
          simp
        · unfold tups
          rw [List.length_map, List.length_map, List.length_map, List.length_range, ext_len, List.length_take, Nat.min_eq_left (by omega)]
          have : i * s ≤ found.length * s := Nat.mul_le_mul_right s (by omega)
          unfold lim
          omega
      refine ⟨_, ?_, some (.sh (tI' o)), rfl⟩
      unfold turn b1__law_all
      simp only [w_bnd, w_bndX, w_bndN, w_bndS, w_bndSX, w_bndSN, w_bndI, w_bndA, w_c, w_bin, w_un, w_nil, w_cons, w_fn, w_seq, w_nop, w_set, w_setO, w_ret, w_do, w_if, w_v0, w_o0, w_o0f, w_vs, w_clr0, w_clrs, w_nm, w_pr, w_add, w_sub, w_mul, w_addI, w_mulI, w_lt, w_le, w_gt, w_ge, w_truB, w_truI, w_truL, w_truT, w_truN, w_lenL, w_lenT, w_tupL, w_listT, w_listL, w_app, w_aug, w_for, List.set_cons_zero, List.set_cons_succ, List.getElem?_cons_zero, List.getElem?_cons_succ, List.length_cons, List.length_nil, Option.map_some, Option.map_none, Option.bind_some, Bool.or_true, Bool.true_or, eq_self, ite_true, ite_false, decide_true, decide_false, Int.reduceLT, Int.reduceLE, Int.reduceAdd, Int.reduceSub, Int.reduceMul, Int.reduceNeg, Nat.reduceAdd, Nat.reduceLT, Nat.reduceLeDiff, Nat.reduceEqDiff, reduceIte, hc, hadd])
  unfold tups at h2
  rw [List.length_map, Nat.zero_add, List.take_length] at h2
  exact ⟨j, by rw [← h2]; exact h1⟩
theorem w_lforms (m : Dt) : ∀ (ss : List Nat) (acc : List (List Int)) (j2 j3 j4 : Option SV), (∀ s ∈ ss, 1 ≤ s ∧ s ≤ 1000) → (formsOf ss acc).length ≤ 100000 → (∀ f ∈ acc, f.length + ss.length ≤ 1000) →
    ∃ k2 k3 k4, forL [2] (gNm 2) b2__law_all (ss.map fun s => .int (s : Nat)) [some (.sh m), some (.sh (.list (tups acc))), j2, j3, j4, none, none] = some (.nx [some (.sh m), some (.sh (.list (tups (formsOf ss acc)))), k2, k3, k4, none, none])
  | [], acc, j2, j3, j4, _, _, _ => ⟨j2, j3, j4, rfl⟩
  | s :: ss, acc, j2, j3, j4, h1, h2, h3 => by
    have hs := h1 s List.mem_cons_self
    have hgrow : ∀ (ss : List Nat) (acc : List (List Int)), (∀ s ∈ ss, 1 ≤ s ∧ s ≤ 1000) → acc.length ≤ (formsOf ss acc).length := by
      intro ss
      induction ss with
      | nil => exact fun acc _ => Nat.le_refl _
      | cons s ss ih =>
        intro acc h
        have := ih (ext s acc) fun x hx => h x (List.mem_cons_of_mem _ hx)
        rw [ext_len] at this
        have h2 := (h s List.mem_cons_self).1
        have h3 : acc.length * 1 ≤ acc.length * s := Nat.mul_le_mul_left _ h2
        show acc.length ≤ (formsOf ss (ext s acc)).length
        omega
    have hl : acc.length * s ≤ 100000 := by
      have := hgrow ss (ext s acc) fun x hx => h1 x (List.mem_cons_of_mem _ hx)
      rw [ext_len] at this
      have h2' : (formsOf ss (ext s acc)).length ≤ 100000 := h2
      omega
    obtain ⟨j, hj⟩ := w_lext m s acc j4 hs.2 hl (fun f hf => by have := h3 f hf; simp at this; omega) (.list (tups acc))
    obtain ⟨k2, k3, k4, hk⟩ := w_lforms m ss (ext s acc) (some (.sh (.int (s : Nat)))) (some (.sh (.list (tups (ext s acc))))) j (fun x hx => h1 x (List.mem_cons_of_mem _ hx)) h2 (fun f hf => by
      obtain ⟨o, ho, x, _, rfl⟩ := ext_mem hf
      have := h3 o ho
      simp at this
      simp
      omega)
    refine ⟨k2, k3, k4, ?_⟩
    rw [List.map_cons, forL_cons (ρ2 := [some (.sh m), some (.sh (.list (tups (ext s acc)))), some (.sh (.int (s : Nat))), some (.sh (.list (tups (ext s acc)))), j, none, none])]
    · exact hk
    · unfold turn b2__law_all
      have e3 : ∀ ρ, eLst aNil false ρ = some (.val (.list [])) := fun _ => rfl
      have e4 : ∀ (x y : Option SV) (ρ : En), iSeq (eVar 1) false (x :: some (.sh (.list (tups acc))) :: ρ) = some (.it (tups acc)) := fun _ _ _ => rfl
      have e5 : iSeq (eVar 1) false [some (.sh m), some (.sh (.list (tups acc))), some (.sh (.int (s : Nat))), some (.sh (.list [])), j4, none, none] = some (.it (tups acc)) := rfl
      simp only [w_bnd, w_bndX, w_bndN, w_bndS, w_bndSX, w_bndSN, w_bndI, w_bndA, w_c, w_bin, w_un, w_nil, w_cons, w_fn, w_seq, w_nop, w_set, w_setO, w_ret, w_do, w_if, w_v0, w_o0, w_o0f, w_vs, w_clr0, w_clrs, w_nm, w_pr, w_add, w_sub, w_mul, w_addI, w_mulI, w_lt, w_le, w_gt, w_ge, w_truB, w_truI, w_truL, w_truT, w_truN, w_lenL, w_lenT, w_tupL, w_listT, w_listL, w_app, w_aug, w_for, List.set_cons_zero, List.set_cons_succ, List.getElem?_cons_zero, List.getElem?_cons_succ, List.length_cons, List.length_nil, Option.map_some, Option.map_none, Option.bind_some, Bool.or_true, Bool.true_or, eq_self, ite_true, ite_false, decide_true, decide_false, Int.reduceLT, Int.reduceLE, Int.reduceAdd, Int.reduceSub, Int.reduceMul, Int.reduceNeg, Nat.reduceAdd, Nat.reduceLT, Nat.reduceLeDiff, Nat.reduceEqDiff, reduceIte, e3, e5, hj]
theorem formsOf_mem : ∀ (ss : List Nat) (acc : List (List Int)) (n : Nat), (∀ s ∈ ss, s ≤ 1000) → (∀ f ∈ acc, f.length = n ∧ ∀ x ∈ f, 0 ≤ x ∧ x < 1000) → ∀ f ∈ formsOf ss acc, f.length = n + ss.length ∧ ∀ x ∈ f, 0 ≤ x ∧ x < 1000
  | [], acc, n, _, h, f, hf => h f hf
  | s :: ss, acc, n, h1, h, f, hf => by
    have := formsOf_mem ss (ext s acc) (n + 1) (fun x hx => h1 x (List.mem_cons_of_mem _ hx)) (fun g hg => by
      obtain ⟨o, ho, x, hx, rfl⟩ := ext_mem hg
      have h2 := h1 s List.mem_cons_self
      refine ⟨by rw [List.length_append, (h o ho).1]; rfl, fun y hy => ?_⟩
      rcases List.mem_append.mp hy with hy | hy
      · exact (h o ho).2 y hy
      · rw [List.mem_singleton.mp hy]; omega) f hf
    refine ⟨?_, this.2⟩
    rw [this.1, List.length_cons]
    omega
theorem formsOf_ok (ss : List Nat) (h : ∀ s ∈ ss, s ≤ 1000) (hl : ss.length ≤ 100) : ∀ f ∈ formsOf ss [[]], f.length ≤ 1000 ∧ ∀ i, i < f.length → sml (f.getD i 0) = true := fun f hf => by
  have := formsOf_mem ss [[]] 0 h (fun g hg => by rw [List.mem_singleton.mp hg]; exact ⟨rfl, fun _ z => nomatch z⟩) f hf
  refine ⟨by omega, fun i hi => ?_⟩
  rw [List.getD_eq_getElem?_getD, List.getElem?_eq_getElem hi]
  have h2 := this.2 f[i] (List.getElem_mem hi)
  exact sml_of (by show -1000000 ≤ f[i]; omega) (by show f[i] ≤ 1000000; omega)
/-- the tables of the forms -/
def tabOf (m : Nat) (f : List Int) : List Int := (List.range m).map fun x => bval m f ((x : Nat) : Int)
theorem tabOf_len (m : Nat) (f : List Int) : (tabOf m f).length = m := by unfold tabOf; rw [List.length_map, List.length_range]
theorem okT (l : List (List Int)) (m : Nat) (hm : 1 ≤ m) : okS (tups (l.map (tabOf m))) = true := by
  unfold okS
  rw [Bool.or_eq_true]
  right
  rw [List.all_eq_true]
  intro d hd
  obtain ⟨f, hf, rfl⟩ := List.mem_map.mp hd
  obtain ⟨g, hg, rfl⟩ := List.mem_map.mp hf
  have hl := tabOf_len m g
  cases e : tabOf m g with
  | nil => rw [e] at hl; simp at hl; omega
  | cons x xs =>
    show (true && (xs.map PyData.int).all isI) = true
    rw [Bool.true_and, List.all_eq_true]
    intro d hd
    obtain ⟨i, _, rfl⟩ := List.mem_map.mp hd
    rfl
theorem w_lall (m : Nat) (ss : List Nat) (hm0 : 1 ≤ m) (hm : m ≤ 1000) (hsz : F__law_sizes [.int m] = some (.val (.list (ss.map fun s => .int (s : Nat))))) (h1 : ∀ s ∈ ss, 1 ≤ s ∧ s ≤ 1000) (h2 : (formsOf ss [[]]).length ≤ 100000) (h3 : ss.length ≤ 100)
    (h4 : ∀ f ∈ formsOf ss [[]], f.length ≤ 1000 ∧ ∀ i, i < f.length → sml (f.getD i 0) = true) : F__law_all [.int m] = some (.val (.list (isort (tups ((formsOf ss [[]]).map (tabOf m)))))) := by
  obtain ⟨k2, k3, k4, hf⟩ := w_lforms (.int m) ss [[]] none none none h1 h2 (fun f hf => by rw [List.mem_singleton.mp hf]; simp; omega)
  have e2 : start0 7 [.int m] = [some (.sh (.int m)), none, none, none, none, none, none] := rfl
  have e3 : ∀ ρ, eLst (aCons (eTup aNil) aNil) false ρ = some (.val (.list (tups [[]]))) := fun _ => rfl
  have e4 : ∀ ρ, iSeq (eFn 1 F__law_sizes (aCons (eVar 0) aNil)) false (some (.sh (.int m)) :: ρ) = some (.it (ss.map fun s => .int (s : Nat))) := fun ρ => by
    refine w_seqL ?_
    simp only [w_bnd, w_bndX, w_bndN, w_bndS, w_bndSX, w_bndSN, w_bndI, w_bndA, w_c, w_bin, w_un, w_nil, w_cons, w_fn, w_seq, w_nop, w_set, w_setO, w_ret, w_do, w_if, w_v0, w_o0, w_o0f, w_vs, w_clr0, w_clrs, w_nm, w_pr, w_add, w_sub, w_mul, w_addI, w_mulI, w_lt, w_le, w_gt, w_ge, w_truB, w_truI, w_truL, w_truT, w_truN, w_lenL, w_lenT, w_tupL, w_listT, w_listL, w_app, w_aug, w_for, List.set_cons_zero, List.set_cons_succ, List.getElem?_cons_zero, List.getElem?_cons_succ, List.length_cons, List.length_nil, Option.map_some, Option.map_none, Option.bind_some, Bool.or_true, Bool.true_or, eq_self, ite_true, ite_false, decide_true, decide_false, Int.reduceLT, Int.reduceLE, Int.reduceAdd, Int.reduceSub, Int.reduceMul, Int.reduceNeg, Nat.reduceAdd, Nat.reduceLT, Nat.reduceLeDiff, Nat.reduceEqDiff, reduceIte, hsz]
  have e5 : eLc [5] (gNm 5) (iSeq (eVar 1)) (eC (.bool true)) (eFn 2 F__law_built (aCons (eVar 0) (aCons (eVar 5) aNil))) true [some (.sh (.int m)), some (.sh (.list (tups (formsOf ss [[]])))), k2, k3, k4, none, none] = some (.val (.list (tups ((formsOf ss [[]]).map (tabOf m))))) := by
    refine w_lc (w_seqL rfl) rfl (by unfold tups; rw [List.length_map]; unfold lim; omega) ?_
    have e : tups ((formsOf ss [[]]).map (tabOf m)) = (tups (formsOf ss [[]])).map fun d => match d with
      | .tuple ds => tI' (tabOf m ((unI ds).getD []))
      | y => y := by
      unfold tups
      rw [List.map_map, List.map_map]
      refine List.map_congr_left fun f _ => ?_
      show tI' (tabOf m f) = tI' (tabOf m ((unI (f.map .int)).getD []))
      rw [unI_map]
      rfl
    rw [e]
    refine lcL_map _ _ fun x hx => ?_
    obtain ⟨f, hf, rfl⟩ := List.mem_map.mp hx
    obtain ⟨h5, h6⟩ := h4 f hf
    refine ⟨_, rfl, ?_⟩
    have hb : F__law_built [.int m, tI' f] = some (.val (tI' (tabOf m f))) := by
      rw [w_lbuilt m f hm0 hm h5 h6]
      show _ = some (Rs.val (PyData.tuple ((tabOf m f).map .int)))
      unfold tabOf
      rw [List.map_map]
      rfl
    simp only [w_bnd, w_bndX, w_bndN, w_bndS, w_bndSX, w_bndSN, w_bndI, w_bndA, w_c, w_bin, w_un, w_nil, w_cons, w_fn, w_seq, w_nop, w_set, w_setO, w_ret, w_do, w_if, w_v0, w_o0, w_o0f, w_vs, w_clr0, w_clrs, w_nm, w_pr, w_add, w_sub, w_mul, w_addI, w_mulI, w_lt, w_le, w_gt, w_ge, w_truB, w_truI, w_truL, w_truT, w_truN, w_lenL, w_lenT, w_tupL, w_listT, w_listL, w_app, w_aug, w_for, List.set_cons_zero, List.set_cons_succ, List.getElem?_cons_zero, List.getElem?_cons_succ, List.length_cons, List.length_nil, Option.map_some, Option.map_none, Option.bind_some, Bool.or_true, Bool.true_or, eq_self, ite_true, ite_false, decide_true, decide_false, Int.reduceLT, Int.reduceLE, Int.reduceAdd, Int.reduceSub, Int.reduceMul, Int.reduceNeg, Nat.reduceAdd, Nat.reduceLT, Nat.reduceLeDiff, Nat.reduceEqDiff, reduceIte, hb, unI_map, Option.getD_some]
  have e6 : dSorted (.list (tups ((formsOf ss [[]]).map (tabOf m)))) = some (.list (isort (tups ((formsOf ss [[]]).map (tabOf m))))) := by
    show (if okS (tups ((formsOf ss [[]]).map (tabOf m))) = true then some (PyData.list (isort (tups ((formsOf ss [[]]).map (tabOf m))))) else none) = _
    rw [if_pos (okT _ m hm0)]
  show runB 7 g__law_all [.int m] = _
  unfold runB g__law_all t1__law_all t2__law_all
  simp only [w_bnd, w_bndX, w_bndN, w_bndS, w_bndSX, w_bndSN, w_bndI, w_bndA, w_c, w_bin, w_un, w_nil, w_cons, w_fn, w_seq, w_nop, w_set, w_setO, w_ret, w_do, w_if, w_v0, w_o0, w_o0f, w_vs, w_clr0, w_clrs, w_nm, w_pr, w_add, w_sub, w_mul, w_addI, w_mulI, w_lt, w_le, w_gt, w_ge, w_truB, w_truI, w_truL, w_truT, w_truN, w_lenL, w_lenT, w_tupL, w_listT, w_listL, w_app, w_aug, w_for, List.set_cons_zero, List.set_cons_succ, List.getElem?_cons_zero, List.getElem?_cons_succ, List.length_cons, List.length_nil, Option.map_some, Option.map_none, Option.bind_some, Bool.or_true, Bool.true_or, eq_self, ite_true, ite_false, decide_true, decide_false, Int.reduceLT, Int.reduceLE, Int.reduceAdd, Int.reduceSub, Int.reduceMul, Int.reduceNeg, Nat.reduceAdd, Nat.reduceLT, Nat.reduceLeDiff, Nat.reduceEqDiff, reduceIte, e2, e3, e4, hf, e5, e6]
/-! ## the law, modulus by modulus -/
abbrev at19 (ns : List Int) (m : Int) : En := [some (.sh (scr ns)), some (.sh (.int m)), none, none, none, none, none, none]
theorem k2 (ns : List Int) : t1_law (at19 ns 2) = some (.rt (.bool true)) := by kernel_rfl
theorem k3 (ns : List Int) : t1_law (at19 ns 3) = some (.rt (.bool true)) := by kernel_rfl
theorem k4 (ns : List Int) : t1_law (at19 ns 4) = some (.rt (.bool true)) := by kernel_rfl
theorem k5 (ns : List Int) : t1_law (at19 ns 5) = some (.rt (.bool true)) := by kernel_rfl
theorem k6 (ns : List Int) : t1_law (at19 ns 6) = some (.rt (.bool true)) := by kernel_rfl
theorem k7 (ns : List Int) : t1_law (at19 ns 7) = some (.rt (.bool true)) := by kernel_rfl
abbrev F8 : List (List Int) := formsOf [8, 8, 4, 4] [[]]
abbrev T8 : List Dt := tups (F8.map (tabOf 8))
theorem all8 : F__law_all [.int ((8 : Nat) : Int)] = some (.val (.list (isort T8))) := by
  refine w_lall 8 [8, 8, 4, 4] (by omega) (by omega) (by kernel_rfl) (by decide) ?_ (by decide) (formsOf_ok _ (by decide) (by decide))
  simp only [formsOf, ext_len, List.length_cons, List.length_nil]
  omega
def perm8 : Dt → Bool
  | .tuple ds => match unI ds with
    | some ns => (ddup ns).length == 8
    | none => false
  | _ => false
theorem perm8_eq (l : List Int) : perm8 (tI' l) = ((ddup l).length == 8) := by
  show (match unI (l.map .int) with
      | some ns => (ddup ns).length == 8
      | none => false) = _
  rw [unI_map]
theorem cnt8 : (F8.filter fun f => (ddup (tabOf 8 f)).length == 8).length = 128 := by kernel_rfl
theorem count8 : (T8.filter perm8).length = 128 := by
  have e : T8.filter perm8 = (F8.filter fun f => (ddup (tabOf 8 f)).length == 8).map fun f => tI' (tabOf 8 f) := by
    show ((F8.map (tabOf 8)).map tI').filter perm8 = _
    rw [List.map_map, List.filter_map]
    exact congrArg _ (List.filter_congr fun f _ => perm8_eq _)
  rw [e, List.length_map, cnt8]
theorem cond8 (f : List Int) : dSortSet (tI' (tabOf 8 f)) = some (.list (sset (tabOf 8 f))) := by
  unfold dSortSet
  simp only [unI_map]
  rw [if_pos (by rw [tabOf_len]; omega)]
theorem len8 : (isort T8).length ≤ lim := by
  rw [(isort_perm T8).length_eq]
  unfold lim
  rw [List.length_map, List.length_map]
  simp only [formsOf, ext_len, List.length_cons, List.length_nil]
  omega
theorem lc8 (ns : List Int) : lcL (eBin dEq (eUn dLen (eUn dSortSet (eVar 7))) (eVar 1)) (eVar 7) (gNm 7) [some (.sh (scr ns)), some (.sh (.int 8)), some (.sh (.int 128)), none, none, some (.sh (.list (isort T8))), none, none] (isort T8) = some ((isort T8).filter perm8) := by
  have := lcL_filter (c := eBin dEq (eUn dLen (eUn dSortSet (eVar 7))) (eVar 1)) (e := eVar 7) (tg := gNm 7) (ρ := [some (.sh (scr ns)), some (.sh (.int 8)), some (.sh (.int 128)), none, none, some (.sh (.list (isort T8))), none, none]) perm8 (fun x => x) (isort T8) fun x hx => by
    obtain ⟨g, hg, rfl⟩ := List.mem_map.mp ((isort_perm T8).mem_iff.mp hx)
    obtain ⟨f, hf, rfl⟩ := List.mem_map.mp hg
    refine ⟨_, .bool ((ddup (tabOf 8 f)).length == 8), rfl, ?_, ?_, fun _ => rfl⟩
    · have h2 : ∀ n : Nat, dEq (.int (n : Int)) (.int 8) = some (.bool (n == 8)) := fun n => by
        rw [w_eqI]
        congr 2
        rw [Bool.eq_iff_iff]
        simp
        omega
      simp only [w_bnd, w_bndX, w_bndN, w_bndS, w_bndSX, w_bndSN, w_bndI, w_bndA, w_c, w_bin, w_un, w_nil, w_cons, w_fn, w_seq, w_nop, w_set, w_setO, w_ret, w_do, w_if, w_v0, w_o0, w_o0f, w_vs, w_clr0, w_clrs, w_nm, w_pr, w_add, w_sub, w_mul, w_addI, w_mulI, w_lt, w_le, w_gt, w_ge, w_truB, w_truI, w_truL, w_truT, w_truN, w_lenL, w_lenT, w_tupL, w_listT, w_listL, w_app, w_aug, w_for, List.set_cons_zero, List.set_cons_succ, List.getElem?_cons_zero, List.getElem?_cons_succ, List.length_cons, List.length_nil, Option.map_some, Option.map_none, Option.bind_some, Bool.or_true, Bool.true_or, eq_self, ite_true, ite_false, decide_true, decide_false, Int.reduceLT, Int.reduceLE, Int.reduceAdd, Int.reduceSub, Int.reduceMul, Int.reduceNeg, Nat.reduceAdd, Nat.reduceLT, Nat.reduceLeDiff, Nat.reduceEqDiff, reduceIte, cond8, sset_len, h2]
    · rw [w_truB, perm8_eq]
  rw [this, List.map_id']
theorem c8a : F_count_permutations [.int 8] = some (.val (.int 128)) := by kernel_rfl
theorem c8b (b : Bool) (ρ : En) : eTup (aCons (eC (.int 2)) (aCons (eC (.int 3)) (aCons (eC (.int 4)) (aCons (eC (.int 6)) (aCons (eC (.int 8)) (aNil)))))) b ρ = some (.val (.tuple [.int 2, .int 3, .int 4, .int 6, .int 8])) := rfl
theorem c8c : dIn (.int 8) (.tuple [.int 2, .int 3, .int 4, .int 6, .int 8]) = some (.bool true) := by kernel_rfl
theorem c8d (ns : List Int) : eLc [7] (gNm 7) (iSeq (eVar 5)) (eBin dEq (eUn dLen (eUn dSortSet (eVar 7))) (eVar 1)) (eVar 7) true [some (.sh (scr ns)), some (.sh (.int 8)), some (.sh (.int 128)), none, none, some (.sh (.list (isort T8))), none, none] = some (.val (.list ((isort T8).filter perm8))) :=
  w_lc (w_seqL rfl) rfl len8 (lc8 ns)
theorem c8e : ((isort T8).filter perm8).length = 128 := by
  rw [((isort_perm T8).filter perm8).length_eq, count8]
theorem c8f : dEq (.int 128) (.int ((128 : Nat) : Int)) = some (.bool true) := by kernel_rfl
theorem c8g : F__law_all [.int 8] = some (.val (.list (isort T8))) := all8
theorem k8g (Fa Fc : List Dt → Option Rs) (t3 : SF) (p : Dt → Bool) (T : List Dt) (ns : List Int) (ea : Fc [.int 8] = some (.val (.int 128))) (e8 : Fa [.int 8] = some (.val (.list T)))
    (e5 : eLc [7] (gNm 7) (iSeq (eVar 5)) (eBin dEq (eUn dLen (eUn dSortSet (eVar 7))) (eVar 1)) (eVar 7) true [some (.sh (scr ns)), some (.sh (.int 8)), some (.sh (.int 128)), none, none, some (.sh (.list T)), none, none] = some (.val (.list (T.filter p)))) (e6 : (T.filter p).length = 128) :
    sSeq (sSet 2 (eFn 1 Fc (aCons (eVar 1) (aNil)))) (sSeq (sIf (eBin dIn (eVar 1) (eTup (aCons (eC (.int 2)) (aCons (eC (.int 3)) (aCons (eC (.int 4)) (aCons (eC (.int 6)) (aCons (eC (.int 8)) (aNil)))))))) (sSeq (sSet 5 (eFn 1 Fa (aCons (eVar 1) (aNil))))
  (sRet (eBin dEq (eVar 2) (eUn dLen (eLc [7] (gNm 7) (iSeq (eVar 5)) (eBin dEq (eUn dLen (eUn dSortSet (eVar 7))) (eVar 1)) (eVar 7)))))) (sNop)) t3) (at19 ns 8) = some (.rt (.bool true)) := by
  simp only [w_bnd, w_bndX, w_bndN, w_bndS, w_bndSX, w_bndSN, w_bndI, w_bndA, w_c, w_bin, w_un, w_nil, w_cons, w_fn, w_seq, w_nop, w_set, w_setO, w_ret, w_do, w_if, w_v0, w_o0, w_o0f, w_vs, w_clr0, w_clrs, w_nm, w_pr, w_add, w_sub, w_mul, w_addI, w_mulI, w_lt, w_le, w_gt, w_ge, w_truB, w_truI, w_truL, w_truT, w_truN, w_lenL, w_lenT, w_tupL, w_listT, w_listL, w_app, w_aug, w_for, List.set_cons_zero, List.set_cons_succ, List.getElem?_cons_zero, List.getElem?_cons_succ, List.length_cons, List.length_nil, Option.map_some, Option.map_none, Option.bind_some, Bool.or_true, Bool.true_or, eq_self, ite_true, ite_false, decide_true, decide_false, Int.reduceLT, Int.reduceLE, Int.reduceAdd, Int.reduceSub, Int.reduceMul, Int.reduceNeg, Nat.reduceAdd, Nat.reduceLT, Nat.reduceLeDiff, Nat.reduceEqDiff, reduceIte, ea, c8b, c8c, e8, e5, e6, c8f]
theorem k8 (ns : List Int) : t1_law (at19 ns 8) = some (.rt (.bool true)) := k8g F__law_all F_count_permutations t3_law perm8 (isort T8) ns c8a c8g (c8d ns) c8e
theorem k9 (ns : List Int) : t1_law (at19 ns 9) = some (.rt (.bool true)) := by kernel_rfl
theorem k10 (ns : List Int) : t1_law (at19 ns 10) = some (.rt (.bool true)) := by kernel_rfl
theorem k11 (ns : List Int) : t1_law (at19 ns 11) = some (.rt (.bool true)) := by kernel_rfl
theorem k12 (ns : List Int) : t1_law (at19 ns 12) = some (.rt (.bool true)) := by kernel_rfl
theorem law_plain (ns : List Int) : F_law [scr ns] = some (.val (.bool true)) := by
  obtain ⟨L, h, hl, hb⟩ := w_row ns 5
  cases L with
  | nil => cases hl
  | cons x L =>
    have hx : dIx (.list ((x :: L).map .int)) (.int 0) = some (.int x) := by
      show atI (PyData.int x :: L.map .int) ((0 : Nat) : Int) = _
      exact atI_of (j := 0) (ixN_nat (by simp)) rfl
    have e2 : start0 8 [scr ns] = [some (.sh (scr ns)), none, none, none, none, none, none, none] := rfl
    have h' : F__law_row [scr ns, .int 5] = some (.val (.list ((x :: L).map .int))) := h
    have key : t1_law (at19 ns (2 + x % 11)) = some (.rt (.bool true)) := by
      have : x % 11 = 0 ∨ x % 11 = 1 ∨ x % 11 = 2 ∨ x % 11 = 3 ∨ x % 11 = 4 ∨ x % 11 = 5 ∨ x % 11 = 6 ∨ x % 11 = 7 ∨ x % 11 = 8 ∨ x % 11 = 9 ∨ x % 11 = 10 := by omega
      rcases this with e | e | e | e | e | e | e | e | e | e | e <;> rw [e]
      · exact k2 ns
      · exact k3 ns
      · exact k4 ns
      · exact k5 ns
      · exact k6 ns
      · exact k7 ns
      · exact k8 ns
      · exact k9 ns
      · exact k10 ns
      · exact k11 ns
      · exact k12 ns
    unfold F_law runB g_law
    simp only [w_bnd, w_bndX, w_bndN, w_bndS, w_bndSX, w_bndSN, w_bndI, w_bndA, w_c, w_bin, w_un, w_nil, w_cons, w_fn, w_seq, w_nop, w_set, w_setO, w_ret, w_do, w_if, w_v0, w_o0, w_o0f, w_vs, w_clr0, w_clrs, w_nm, w_pr, w_add, w_sub, w_mul, w_addI, w_mulI, w_lt, w_le, w_gt, w_ge, w_truB, w_truI, w_truL, w_truT, w_truN, w_lenL, w_lenT, w_tupL, w_listT, w_listL, w_app, w_aug, w_for, List.set_cons_zero, List.set_cons_succ, List.getElem?_cons_zero, List.getElem?_cons_succ, List.length_cons, List.length_nil, Option.map_some, Option.map_none, Option.bind_some, Bool.or_true, Bool.true_or, eq_self, ite_true, ite_false, decide_true, decide_false, Int.reduceLT, Int.reduceLE, Int.reduceAdd, Int.reduceSub, Int.reduceMul, Int.reduceNeg, Nat.reduceAdd, Nat.reduceLT, Nat.reduceLeDiff, Nat.reduceEqDiff, reduceIte, e2, h', hx, w_mod, key]
end PT

namespace PT
open PySem PySem.Spec PyProof.Rows L2
/-! ## the head -/
namespace Hd
def d_in_range : He.DefD := ⟨("in_range", none), "in_range", "in_range", defArgs st_in_range, defBody st_in_range, defScope st_in_range, [], []⟩
def d_greatest_divisor : He.DefD := ⟨("greatest_divisor", none), "greatest_divisor", "greatest_divisor", defArgs st_greatest_divisor, defBody st_greatest_divisor, defScope st_greatest_divisor, [], []⟩
def d_powers_of : He.DefD := ⟨("powers_of", none), "powers_of", "powers_of", defArgs st_powers_of, defBody st_powers_of, defScope st_powers_of, [], []⟩
def d__law_cell : He.DefD := ⟨("_law_cell", none), "_law_cell", "_law_cell", defArgs st__law_cell, defBody st__law_cell, defScope st__law_cell, [], []⟩
def d__law_gcd : He.DefD := ⟨("_law_gcd", none), "_law_gcd", "_law_gcd", defArgs st__law_gcd, defBody st__law_gcd, defScope st__law_gcd, [], []⟩
def d__law_built : He.DefD := ⟨("_law_built", none), "_law_built", "_law_built", defArgs st__law_built, defBody st__law_built, defScope st__law_built, [], []⟩
def d__law_powers : He.DefD := ⟨("_law_powers", none), "_law_powers", "_law_powers", defArgs st__law_powers, defBody st__law_powers, defScope st__law_powers, [], []⟩
def d_check_modulus : He.DefD := ⟨("check_modulus", none), "check_modulus", "check_modulus", defArgs st_check_modulus, defBody st_check_modulus, defScope st_check_modulus, [], []⟩
def d_divisors : He.DefD := ⟨("divisors", none), "divisors", "divisors", defArgs st_divisors, defBody st_divisors, defScope st_divisors, [], []⟩
def d__law_row : He.DefD := ⟨("_law_row", none), "_law_row", "_law_row", defArgs st__law_row, defBody st__law_row, defScope st__law_row, [], []⟩
def d__law_divisor : He.DefD := ⟨("_law_divisor", none), "_law_divisor", "_law_divisor", defArgs st__law_divisor, defBody st__law_divisor, defScope st__law_divisor, [], []⟩
def d_sizes_of : He.DefD := ⟨("sizes_of", none), "sizes_of", "sizes_of", defArgs st_sizes_of, defBody st_sizes_of, defScope st_sizes_of, [], []⟩
def d__law_sizes : He.DefD := ⟨("_law_sizes", none), "_law_sizes", "_law_sizes", defArgs st__law_sizes, defBody st__law_sizes, defScope st__law_sizes, [], []⟩
def d_sizes : He.DefD := ⟨("sizes", none), "sizes", "sizes", defArgs st_sizes, defBody st_sizes, defScope st_sizes, [], []⟩
def d__law_all : He.DefD := ⟨("_law_all", none), "_law_all", "_law_all", defArgs st__law_all, defBody st__law_all, defScope st__law_all, [], []⟩
def d_count_tables : He.DefD := ⟨("count_tables", none), "count_tables", "count_tables", defArgs st_count_tables, defBody st_count_tables, defScope st_count_tables, [], []⟩
def d_permutations_of : He.DefD := ⟨("permutations_of", none), "permutations_of", "permutations_of", defArgs st_permutations_of, defBody st_permutations_of, defScope st_permutations_of, [], []⟩
def d_count_permutations : He.DefD := ⟨("count_permutations", none), "count_permutations", "count_permutations", defArgs st_count_permutations, defBody st_count_permutations, defScope st_count_permutations, [], []⟩
def d_law : He.DefD := ⟨("law", none), "law", "law", defArgs st_law, defBody st_law, defScope st_law, [], []⟩
def fnL : List He.DefD := [d_in_range, d_greatest_divisor, d_powers_of, d__law_cell, d__law_gcd, d__law_built, d__law_powers, d_check_modulus, d_divisors, d__law_row, d__law_divisor, d_sizes_of, d__law_sizes, d_sizes, d__law_all, d_count_tables, d_permutations_of, d_count_permutations, d_law]
def faL : List He.Fa := [.free "len", .free "range", .free "isinstance", .free "int", .free "bool", .free "tuple", .free "list", .free "str", .free "set", .free "sorted", .free "max", .free "min", .free "zip", .free "enumerate", .free "reversed", .glo "in_range", .glo "greatest_divisor", .glo "powers_of", .glo "_law_cell", .glo "_law_gcd", .glo "_law_built", .glo "_law_powers", .glo "check_modulus", .glo "divisors", .glo "_law_row", .glo "_law_divisor", .glo "sizes_of", .glo "_law_sizes", .glo "sizes", .glo "_law_all", .glo "count_tables", .glo "permutations_of", .glo "count_permutations", .glo "law", .int "MAX_MODULUS" 12, .glo "InvalidModulus", .exc "InvalidModulus"]
abbrev R : PySem.W.OpenRow := PySem.W.OpenLaw.row PySem.Challenge.rw_polytables_k19_whole_count_permutations
abbrev hk : PySem.W.Hook := He.hookD 4 faL fnL
def ob (s : PySem.W.SharedT) : He.AlD := He.obsDG 4 faL fnL (HandSHeadRun.getT s)
theorem ob_eq (s : PySem.W.SharedT) : ob s = hk.obs s.abs := He.obsDG_eq (HandSHeadRun.getT_eq s)
def lo : List Str := (["TableError", "InvalidModulus", "MAX_MODULUS", "in_range", "check_modulus", "greatest_divisor", "divisors", "sizes_of", "sizes", "count_tables", "powers_of", "permutations_of", "count_permutations", "_law_cell", "_law_row", "_law_gcd", "_law_divisor", "_law_sizes", "_law_built", "_law_all", "_law_powers"] : List Str)
theorem run (w : World) : HandSHeadRun.RunEq R (PySem.W.view R.prog [26]) hk ob 40000 lo w := by
  intro os
  kernel_rfl
variable {P : Program} {w : World} {K : PySem.W.Frag} {h base : Heap} {mg : Str → Option Value}
theorem bi (X : K.In h) (G : h.Ns mainGlobals mg) (c : He.SaysD faL fnL K) : Bi ⟨P, w, K, mg, base⟩ := ⟨He.free_ok X G (c.fact 0), He.free_ok X G (c.fact 1), He.free_ok X G (c.fact 2), He.free_ok X G (c.fact 3), He.free_ok X G (c.fact 4), He.free_ok X G (c.fact 5), He.free_ok X G (c.fact 6), He.free_ok X G (c.fact 7), He.free_ok X G (c.fact 8), He.free_ok X G (c.fact 9), He.free_ok X G (c.fact 10), He.free_ok X G (c.fact 11), He.free_ok X G (c.fact 12), He.free_ok X G (c.fact 13), He.free_ok X G (c.fact 14)⟩
theorem facts (X : K.In h) (G : h.Ns mainGlobals mg) (c : He.SaysD faL fnL K) : ∃ fd : FuncData, (∀ (s : Shared) (v : Value), BindsTo s fd ⟨[v], []⟩ [("script", v)]) ∧ ∀ base : Heap, FnOk P w K mg base (L2.CX P w) 8 (He.ga K "law") fd ["script"] (spF K mg 1 F_law) := by
  obtain ⟨fd0, D0⟩ := c.def_ 0 (d := d_in_range) rfl
  obtain ⟨fd1, D1⟩ := c.def_ 1 (d := d_greatest_divisor) rfl
  obtain ⟨fd2, D2⟩ := c.def_ 2 (d := d_powers_of) rfl
  obtain ⟨fd3, D3⟩ := c.def_ 3 (d := d__law_cell) rfl
  obtain ⟨fd4, D4⟩ := c.def_ 4 (d := d__law_gcd) rfl
  obtain ⟨fd5, D5⟩ := c.def_ 5 (d := d__law_built) rfl
  obtain ⟨fd6, D6⟩ := c.def_ 6 (d := d__law_powers) rfl
  obtain ⟨fd7, D7⟩ := c.def_ 7 (d := d_check_modulus) rfl
  obtain ⟨fd8, D8⟩ := c.def_ 8 (d := d_divisors) rfl
  obtain ⟨fd9, D9⟩ := c.def_ 9 (d := d__law_row) rfl
  obtain ⟨fd10, D10⟩ := c.def_ 10 (d := d__law_divisor) rfl
  obtain ⟨fd11, D11⟩ := c.def_ 11 (d := d_sizes_of) rfl
  obtain ⟨fd12, D12⟩ := c.def_ 12 (d := d__law_sizes) rfl
  obtain ⟨fd13, D13⟩ := c.def_ 13 (d := d_sizes) rfl
  obtain ⟨fd14, D14⟩ := c.def_ 14 (d := d__law_all) rfl
  obtain ⟨fd15, D15⟩ := c.def_ 15 (d := d_count_tables) rfl
  obtain ⟨fd16, D16⟩ := c.def_ 16 (d := d_permutations_of) rfl
  obtain ⟨fd17, D17⟩ := c.def_ 17 (d := d_count_permutations) rfl
  obtain ⟨fd18, D18⟩ := c.def_ 18 (d := d_law) rfl
  have bb := FunD.bindsA (ps := ["script"]) D18 fun _ _ _ _ _ _ us hl => match us, hl with | [_], _ => rfl
  refine ⟨fd18, fun s v => bb s [v] rfl, fun base => ?_⟩
  have B : Bi ⟨P, w, K, mg, base⟩ := bi X G c
  have h_MAX_MODULUS := He.int_ok X G (c.fact 34 (f := .int "MAX_MODULUS" 12))
  have h_InvalidModulus : ExcC ⟨P, w, K, mg, base⟩ "InvalidModulus" := ⟨_, He.glo_ok X G (c.fact 35 (f := .glo "InvalidModulus")), He.exc_ok (c.fact 36 (f := .exc "InvalidModulus"))⟩
  have h_in_range : FnIs ⟨P, w, K, mg, base⟩ "in_range" 1 3 F_in_range := fn_in_range B  (He.glo_ok X G (c.fact 15 (f := .glo "in_range"))) D0
  have h_greatest_divisor : FnIs ⟨P, w, K, mg, base⟩ "greatest_divisor" 1 2 F_greatest_divisor := fn_greatest_divisor B  (He.glo_ok X G (c.fact 16 (f := .glo "greatest_divisor"))) D1
  have h_powers_of : FnIs ⟨P, w, K, mg, base⟩ "powers_of" 1 1 F_powers_of := fn_powers_of B  (He.glo_ok X G (c.fact 17 (f := .glo "powers_of"))) D2
  have h__law_cell : FnIs ⟨P, w, K, mg, base⟩ "_law_cell" 1 2 F__law_cell := fn__law_cell B  (He.glo_ok X G (c.fact 18 (f := .glo "_law_cell"))) D3
  have h__law_gcd : FnIs ⟨P, w, K, mg, base⟩ "_law_gcd" 1 2 F__law_gcd := fn__law_gcd B  (He.glo_ok X G (c.fact 19 (f := .glo "_law_gcd"))) D4
  have h__law_built : FnIs ⟨P, w, K, mg, base⟩ "_law_built" 1 2 F__law_built := fn__law_built B  (He.glo_ok X G (c.fact 20 (f := .glo "_law_built"))) D5
  have h__law_powers : FnIs ⟨P, w, K, mg, base⟩ "_law_powers" 1 1 F__law_powers := fn__law_powers B  (He.glo_ok X G (c.fact 21 (f := .glo "_law_powers"))) D6
  have h_check_modulus : FnIs ⟨P, w, K, mg, base⟩ "check_modulus" 2 1 F_check_modulus := fn_check_modulus B h_in_range h_MAX_MODULUS h_InvalidModulus (He.glo_ok X G (c.fact 22 (f := .glo "check_modulus"))) D7
  have h_divisors : FnIs ⟨P, w, K, mg, base⟩ "divisors" 2 1 F_divisors := fn_divisors B h_greatest_divisor (He.glo_ok X G (c.fact 23 (f := .glo "divisors"))) D8
  have h__law_row : FnIs ⟨P, w, K, mg, base⟩ "_law_row" 2 2 F__law_row := fn__law_row B h__law_cell (He.glo_ok X G (c.fact 24 (f := .glo "_law_row"))) D9
  have h__law_divisor : FnIs ⟨P, w, K, mg, base⟩ "_law_divisor" 2 2 F__law_divisor := fn__law_divisor B h__law_gcd (He.glo_ok X G (c.fact 25 (f := .glo "_law_divisor"))) D10
  have h_sizes_of : FnIs ⟨P, w, K, mg, base⟩ "sizes_of" 3 1 F_sizes_of := fn_sizes_of B h_divisors (He.glo_ok X G (c.fact 26 (f := .glo "sizes_of"))) D11
  have h__law_sizes : FnIs ⟨P, w, K, mg, base⟩ "_law_sizes" 3 1 F__law_sizes := fn__law_sizes B h__law_divisor (He.glo_ok X G (c.fact 27 (f := .glo "_law_sizes"))) D12
  have h_sizes : FnIs ⟨P, w, K, mg, base⟩ "sizes" 4 1 F_sizes := fn_sizes B h_check_modulus h_sizes_of (He.glo_ok X G (c.fact 28 (f := .glo "sizes"))) D13
  have h__law_all : FnIs ⟨P, w, K, mg, base⟩ "_law_all" 4 1 F__law_all := fn__law_all B h__law_sizes h__law_built (He.glo_ok X G (c.fact 29 (f := .glo "_law_all"))) D14
  have h_count_tables : FnIs ⟨P, w, K, mg, base⟩ "count_tables" 5 1 F_count_tables := fn_count_tables B h_sizes (He.glo_ok X G (c.fact 30 (f := .glo "count_tables"))) D15
  have h_permutations_of : FnIs ⟨P, w, K, mg, base⟩ "permutations_of" 6 2 F_permutations_of := fn_permutations_of B h_count_tables (He.glo_ok X G (c.fact 31 (f := .glo "permutations_of"))) D16
  have h_count_permutations : FnIs ⟨P, w, K, mg, base⟩ "count_permutations" 7 1 F_count_permutations := fn_count_permutations B h_check_modulus h_powers_of h_permutations_of (He.glo_ok X G (c.fact 32 (f := .glo "count_permutations"))) D17
  exact fn_okD (G := ⟨P, w, K, mg, base⟩) D18 sc_law (b_law B h__law_row h_count_permutations h__law_all h__law_powers) (fun _ _ _ h => h)
end Hd
end PT
open PySem PySem.W PySem.Calls PyProof.Rows
theorem PySem.Challenge.cw_polytables_k19_whole_count_permutations_holds : PySem.Challenge.rw_polytables_k19_whole_count_permutations.Holds := by
  w_on; o_law
  refine HandSHeadRun.head_any (r := OpenLaw.row PySem.Challenge.rw_polytables_k19_whole_count_permutations) (q := view (OpenLaw.row PySem.Challenge.rw_polytables_k19_whole_count_permutations).prog [26]) (H := PT.Hd.hk) (ob := PT.Hd.ob) (M := 40000) (loose := PT.Hd.lo) (d := HandSHeadRun.topDef (OpenLaw.row PySem.Challenge.rw_polytables_k19_whole_count_permutations).prog 26) (kwd := []) PT.Hd.ob_eq
    (by kernel_rfl) (fun s => by kernel_rfl) PT.Hd.run (by kernel_rfl) (by kernel_rfl) (by kernel_rfl) (by rfl) (by first | assumption | decide +kernel) (by decide +kernel) ⟨rfl, rfl, rfl, rfl, rfl, by decide +kernel⟩ ?hw ?hc
  case hw => w_witness2
  case hc =>
    refine PT.walk_pt (l := PySem.Challenge.rw_polytables_k19_whole_count_permutations) (n := 63) (k := 8) (x := "script") (CX := fun w => L2.CX (PySem.Challenge.rw_polytables_k19_whole_count_permutations).prog w) rfl (by decide) (by kernel_rfl) ⟨rfl, by decide, by decide⟩ ?F (fun w H s e s2 z => ?_)
    case F =>
      intro w mg f h Y G hm0
      obtain ⟨K, KX, c⟩ := Y
      have hm : mg ("law" : PySem.Str) = some (.ref f) := by
        have e : (HandSHeadRun.topDef (OpenLaw.row PySem.Challenge.rw_polytables_k19_whole_count_permutations).prog 26).name = ("law" : PySem.Str) := by kernel_rfl
        rw [← e]
        exact hm0
      have e := hm.symm.trans (He.glo_ok KX G (c.fact 33 (f := .glo "law")))
      cases e
      obtain ⟨fd, hb, hF⟩ := PT.Hd.facts (P := (PySem.Challenge.rw_polytables_k19_whole_count_permutations).prog) (w := w) KX G c
      exact ⟨K, fd, _, KX, hb, fun H a ns hl hO hS => PT.law_sp (fun ns _ => PT.law_plain ns) H a ns hl hO hS, fun base _ _ => hF base⟩
    obtain ⟨_, _, _, _, _, _, _, _, _, _, _, _, z⟩ := z
    exact z
