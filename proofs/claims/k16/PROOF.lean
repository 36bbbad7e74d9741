import PyProof.Rows.All
import Wide.All
import OpenK.AllK
import Wide.FinOn
import HandS.ForMost
import HandS.ForExc
import HandS.Walk
import HandS.Zip
import HandS.Rev
import HandS.TupAny
import HandS.TupMul
import HandS.IsInst
import HandS.Deep
import HandS.Flow
import HandS.Conv
import HandS.CallSlots
import HandS.TryMany
import HandS.SortInts
import HandS.Strs
import HandS.TupSets
import HandS.Wide
import KE.DataEq
import KE.KStateDown
import KE.GoesNew
import KE.KDictZip
import HandS.Defaults
import HandS.Head0
import HandS.Head1
import HandS.Head2
import HandS.HeadEnd
import HandS.HeadHook1
import HandS.HeadHook2
import HandS.SetFor
import KE.SortData
import HandS.ExcIs
import KE.DataFind
import HandS.SortKw
import HandS.Text
import HandS.FStr
import KE.KIndexOf
import HandS.Iter
import HandS.ExcInit
import HandS.ExcField
import HandS.ClsMeth
import KE.KExcIs
import KE.KCallOwn
import HandS.RaiseMore
import PyProof.InstNe
import PySem.Challenge.RW_polytables_k16_whole_two_sheets
set_option Elab.async false
set_option linter.all false
set_option maxRecDepth 100000
set_option maxHeartbeats 4000000
namespace PT
open PySem PySem.Spec PyProof.Rows L2

/-! ## data, environments, results -/
abbrev Dt := PyData
/-- a slot: a list that this slot alone holds, or any data; a sheet that this slot alone holds -/
inductive SV where
  | own (xs : List Dt)
  | sh (d : Dt)
  | sht (m : Int) (es hs : List Dt)
abbrev En := List (Option SV)
inductive Rs where
  | val (d : Dt)
  | exc (n : Str) (pl : Option Dt)
abbrev EF := Bool → En → Option Rs
def bnd (x : Option Rs) (k : Dt → Option Rs) : Option Rs :=
  match x with
  | some (.val d) => k d
  | y => y
/-- what is owned: by a slot (f: its list, g: its sheet), and by those around (x) -/
structure Ow where
  f : Nat → Option Addr
  x : Addr → Prop
  g : Nat → Addr → Prop
/-- owned by those around alone -/
def Ow.out (O : Addr → Prop) : Ow := ⟨fun _ => none, O, fun _ _ => False⟩
def OI (ow : Ow) (a : Addr) : Prop := ∃ i, ow.f i = some a ∨ ow.g i a
def OA (ow : Ow) (a : Addr) : Prop := OI ow a ∨ ow.x a

/-! ## what a value stands for -/
/-- the script, as data: no list of the program's own -/
def scr (ns : List Int) : Dt := .dict (ns.map fun i => (.int i, .none))
/-- the script: locked, or of the written part -/
def ScrAt (K : PySem.W.Frag) (H : Hp) (a : Addr) (ns : List Int) : Prop := (∃ o, H a = some (.frz o (.lst (ns.map V.int)))) ∨
  ∃ (o : Obj) (its : Array Value) (n : Nat), K.lookup a = some o ∧ o.cls = .type "list" ∧ o.dict = none ∧ o.data = .seq its n ∧ its.size ≤ sizeLine ∧ Vals (ns.map V.int) its.toList
theorem ScrAt.sq {K : PySem.W.Frag} {H : Hp} {a : Addr} {ns : List Int} (h : ScrAt K H a ns) : SqL K H a (ns.map V.int) := by
  rcases h with ⟨o, h⟩ | h
  · exact .inl (.inr ⟨o, h⟩)
  · exact .inr h
theorem ScrAt.imp {K : PySem.W.Frag} {H H' : Hp} {a : Addr} {ns : List Int} (e : ∀ o u, H a = some (.frz o u) → H' a = some (.frz o u)) (h : ScrAt K H a ns) : ScrAt K H' a ns := by
  rcases h with ⟨o, h⟩ | h
  · exact .inl ⟨o, e _ _ h⟩
  · exact .inr h
/-- a tuple made by the program: known to the object, which has no dict -/
def FT (H : Hp) (a : Addr) (xs : List V) : Prop := ∃ o : Obj, H a = some (.frz o (.tup xs)) ∧ o.dict = none
theorem FT.sq {K : PySem.W.Frag} {H : Hp} {a : Addr} {xs : List V} (h : FT H a xs) : SqT K H a xs := let ⟨o, h, _⟩ := h; .inl (.inr ⟨o, h⟩)
/-- a sheet, as data -/
def shD (m : Int) (es hs : List Dt) : Dt := .dict [(.none, .tuple [.int m, .list es, .list hs])]
/-- the names of the methods -/
def shM : List Str := ["state", "enter", "options", "undo", "duplicate"]
/-- the fields of the sheet at a -/
def ShF (K : PySem.W.Frag) (H : Hp) (a : Addr) (m : Int) (e h : Addr) : Prop := ∃ dx fs, H a = some (.ins (He.ga K "Sheet") dx fs) ∧ fs.length < 100 ∧ fs.lookup ("modulus" : Str) = some (V.int m) ∧ fs.lookup ("entries" : Str) = some (V.ref e) ∧ fs.lookup ("history" : Str) = some (V.ref h) ∧ ∀ n ∈ shM, fs.lookup n = none
theorem ShF.imp {K : PySem.W.Frag} {H H' : Hp} {a : Addr} {m : Int} {e h : Addr} (k : ∀ o, H a = some o → H' a = some o) (s : ShF K H a m e h) : ShF K H' a m e h := let ⟨dx, fs, h1, r⟩ := s; ⟨dx, fs, k _ h1, r⟩
mutual
inductive Rp (K : PySem.W.Frag) (O : Addr → Prop) (H : Hp) : V → Dt → Prop
  | non : Rp K O H .non .none
  | bl (b : Bool) : Rp K O H (.bl b) (.bool b)
  | int (i : Int) : Rp K O H (.int i) (.int i)
  | str (x : Str) : Rp K O H (.str x) (.str x)
  | lst {a : Addr} {xs : List V} {ds : List Dt} : H a = some (.lst xs) → ¬ O a → RpAll K O H xs ds → Rp K O H (.ref a) (.list ds)
  | tup {a : Addr} {xs : List V} {ds : List Dt} : FT H a xs → RpAll K O H xs ds → Rp K O H (.ref a) (.tuple ds)
  | scr {a : Addr} {ns : List Int} : ScrAt K H a ns → Rp K O H (.ref a) (.dict (ns.map fun i => (.int i, .none)))
  | sht {a e h : Addr} {m : Int} {vs ws : List V} {ds hs : List Dt} : ShF K H a m e h → H e = some (.lst vs) → H h = some (.lst ws) → ¬ O a → ¬ O e → ¬ O h → RpAll K O H vs ds → RpAll K O H ws hs → Rp K O H (.ref a) (.dict [(.none, .tuple [.int m, .list ds, .list hs])])
inductive RpAll (K : PySem.W.Frag) (O : Addr → Prop) (H : Hp) : List V → List Dt → Prop
  | nil : RpAll K O H [] []
  | cons {v : V} {vs : List V} {d : Dt} {ds : List Dt} : Rp K O H v d → RpAll K O H vs ds → RpAll K O H (v :: vs) (d :: ds)
end
abbrev NoO : Addr → Prop := fun _ => False
/-- every owned address bears a list -/
structure OkO (ow : Ow) (H : Hp) : Prop where
  lst : ∀ i a, ow.f i = some a → ∃ ys, H a = some (.lst ys)
  ext : ∀ a, ow.x a → H a ≠ none
  gs : ∀ i a, ow.g i a → (∃ ys, H a = some (.lst ys)) ∨ ∃ C dx fs, H a = some (.ins C dx fs)
/-- what stood and is not owned by a slot stands -/
structure Kp (ow : Ow) (H H' : Hp) : Prop where
  keep : ∀ a o, H a = some o → ¬ OI ow a → H' a = some o
  dom : ∀ a, H a ≠ none → H' a ≠ none
structure Stp (ow : Ow) (H : Hp) (ow' : Ow) (H' : Hp) : Prop where
  kp : Kp ow H H'
  new : ∀ a, OI ow' a → OI ow a ∨ H a = none
  ext : ow'.x = ow.x
theorem Same.dom {H H' : Hp} (e : Same H H') (a : Addr) (h : H a ≠ none) : H' a ≠ none := by
  cases q : H a with
  | none => exact absurd q h
  | some o => rw [e a o q]; exact fun z => nomatch z
theorem Same.kp {ow : Ow} {H H' : Hp} (e : Same H H') : Kp ow H H' := ⟨fun a o h _ => e a o h, Same.dom e⟩
theorem Same.stp {ow : Ow} {H H' : Hp} (e : Same H H') : Stp ow H ow H' := ⟨Same.kp e, fun _ h => .inl h, rfl⟩
theorem Stp.refl (ow : Ow) (H : Hp) : Stp ow H ow H := Same.stp (Same.refl H)
theorem Stp.kp2 {ow ow1 : Ow} {H H1 H2 : Hp} (a : Stp ow H ow1 H1) (b : Kp ow1 H1 H2) : Kp ow H H2 :=
  ⟨fun x o h n => b.keep x o (a.kp.keep x o h n) fun q => (a.new x q).elim n (fun z => by rw [z] at h; cases h), fun x h => b.dom x (a.kp.dom x h)⟩
theorem Stp.trans {ow ow1 ow2 : Ow} {H H1 H2 : Hp} (a : Stp ow H ow1 H1) (b : Stp ow1 H1 ow2 H2) : Stp ow H ow2 H2 :=
  ⟨a.kp2 b.kp, fun x q => (b.new x q).elim (fun z => a.new x z) fun z => by
    cases e : H x with
    | none => exact .inr rfl
    | some o => exact absurd z (a.kp.dom x (by rw [e]; exact fun z => nomatch z)), b.ext.trans a.ext⟩
theorem Same.upd {H : Hp} {p : Addr} {o : HO} (h : H p = none) : Same H (upd H p o) := fun a u e => by
  rw [upd_ne (ne_of_none e h)]
  exact e
theorem OkO.not {ow : Ow} {H : Hp} {a : Addr} {o : HO} (ok : OkO ow H) (e : H a = some o) (n : ∀ ys, o ≠ .lst ys) (n2 : ∀ C dx fs, o ≠ .ins C dx fs) : ¬ OI ow a := fun ⟨i, hi⟩ => by
  rcases hi with hi | hi
  · obtain ⟨ys, hy⟩ := ok.lst i a hi
    rw [e] at hy
    exact n ys (Option.some.inj hy)
  · rcases ok.gs i a hi with ⟨ys, hy⟩ | ⟨C, dx, fs, hy⟩
    · rw [e] at hy
      exact n ys (Option.some.inj hy)
    · rw [e] at hy
      exact n2 C dx fs (Option.some.inj hy)
theorem OkO.new {ow : Ow} {H : Hp} {a : Addr} (ok : OkO ow H) (e : H a = none) : ¬ OA ow a := fun q => by
  rcases q with ⟨i, hi | hi⟩ | q
  · obtain ⟨ys, hy⟩ := ok.lst i a hi
    rw [e] at hy; cases hy
  · rcases ok.gs i a hi with ⟨ys, hy⟩ | ⟨C, dx, fs, hy⟩ <;> rw [e] at hy <;> cases hy
  · exact ok.ext a q e
theorem OkO.at_ {ow : Ow} {H : Hp} {a : Addr} (ok : OkO ow H) (h : OA ow a) : H a ≠ none := fun e => ok.new e h
theorem Stp.notOA {ow ow' : Ow} {H H' : Hp} (s : Stp ow H ow' H') {a : Addr} {o : HO} (h : H a = some o) (n : ¬ OA ow a) : ¬ OA ow' a := fun q => q.elim (fun q => (s.new _ q).elim (fun z => n (.inl z)) fun z => by rw [z] at h; cases h) fun q => n (.inr (by rw [← s.ext]; exact q))
mutual
theorem Rp.stp {K : PySem.W.Frag} {ow ow' : Ow} {H H' : Hp} (ok : OkO ow H) (s : Stp ow H ow' H') : ∀ {v : V} {d : Dt}, Rp K (OA ow) H v d → Rp K (OA ow') H' v d
  | _, _, .non => .non
  | _, _, .bl b => .bl b
  | _, _, .int i => .int i
  | _, _, .str x => .str x
  | _, _, .lst h n r => .lst (s.kp.keep _ _ h fun z => n (.inl z)) (fun q => q.elim (fun q => (s.new _ q).elim (fun z => n (.inl z)) fun z => by rw [z] at h; cases h) fun q => n (.inr (by rw [← s.ext]; exact q))) (RpAll.stp ok s r)
  | _, _, .tup ⟨o, h, hd⟩ r => .tup ⟨o, s.kp.keep _ _ h (ok.not h (fun _ z => by cases z) fun _ _ _ z => by cases z), hd⟩ (RpAll.stp ok s r)
  | _, _, .scr h => .scr (h.imp fun _ _ h => s.kp.keep _ _ h (ok.not h (fun _ z => by cases z) fun _ _ _ z => by cases z))
  | _, _, .sht f he hh n1 n2 n3 r1 r2 => .sht (f.imp fun o q => s.kp.keep _ _ q fun z => n1 (.inl z)) (s.kp.keep _ _ he fun z => n2 (.inl z)) (s.kp.keep _ _ hh fun z => n3 (.inl z)) (let ⟨_, _, q, _⟩ := f; s.notOA q n1) (s.notOA he n2) (s.notOA hh n3) (RpAll.stp ok s r1) (RpAll.stp ok s r2)
theorem RpAll.stp {K : PySem.W.Frag} {ow ow' : Ow} {H H' : Hp} (ok : OkO ow H) (s : Stp ow H ow' H') : ∀ {vs : List V} {ds : List Dt}, RpAll K (OA ow) H vs ds → RpAll K (OA ow') H' vs ds
  | _, _, .nil => .nil
  | _, _, .cons a r => .cons (Rp.stp ok s a) (RpAll.stp ok s r)
end
mutual
theorem Rp.fresh {K : PySem.W.Frag} {O O' : Addr → Prop} {H : Hp} (n : ∀ a o, H a = some o → ¬ O a → ¬ O' a) : ∀ {v : V} {d : Dt}, Rp K O H v d → Rp K O' H v d
  | _, _, .non => .non
  | _, _, .bl b => .bl b
  | _, _, .int i => .int i
  | _, _, .str x => .str x
  | _, _, .lst h q r => .lst h (n _ _ h q) (RpAll.fresh n r)
  | _, _, .tup h r => .tup h (RpAll.fresh n r)
  | _, _, .scr h => .scr h
  | _, _, .sht f he hh n1 n2 n3 r1 r2 => .sht f he hh (let ⟨_, _, q, _⟩ := f; n _ _ q n1) (n _ _ he n2) (n _ _ hh n3) (RpAll.fresh n r1) (RpAll.fresh n r2)
theorem RpAll.fresh {K : PySem.W.Frag} {O O' : Addr → Prop} {H : Hp} (n : ∀ a o, H a = some o → ¬ O a → ¬ O' a) : ∀ {vs : List V} {ds : List Dt}, RpAll K O H vs ds → RpAll K O' H vs ds
  | _, _, .nil => .nil
  | _, _, .cons a r => .cons (Rp.fresh n a) (RpAll.fresh n r)
end
theorem Rp.noO {K : PySem.W.Frag} {O : Addr → Prop} {H : Hp} {v : V} {d : Dt} (h : Rp K O H v d) : Rp K NoO H v d := Rp.fresh (fun _ _ _ _ z => z) h
theorem RpAll.noO {K : PySem.W.Frag} {O : Addr → Prop} {H : Hp} {v : List V} {d : List Dt} (h : RpAll K O H v d) : RpAll K NoO H v d := RpAll.fresh (fun _ _ _ _ z => z) h
mutual
theorem Rp.same {K : PySem.W.Frag} {O : Addr → Prop} {H H' : Hp} (e : Same H H') : ∀ {v : V} {d : Dt}, Rp K O H v d → Rp K O H' v d
  | _, _, .non => .non
  | _, _, .bl b => .bl b
  | _, _, .int i => .int i
  | _, _, .str x => .str x
  | _, _, .lst h q r => .lst (e _ _ h) q (RpAll.same e r)
  | _, _, .tup ⟨o, h, hd⟩ r => .tup ⟨o, e _ _ h, hd⟩ (RpAll.same e r)
  | _, _, .scr h => .scr (h.imp fun _ _ h => e _ _ h)
  | _, _, .sht f he hh n1 n2 n3 r1 r2 => .sht (f.imp fun o q => e _ _ q) (e _ _ he) (e _ _ hh) n1 n2 n3 (RpAll.same e r1) (RpAll.same e r2)
theorem RpAll.same {K : PySem.W.Frag} {O : Addr → Prop} {H H' : Hp} (e : Same H H') : ∀ {vs : List V} {ds : List Dt}, RpAll K O H vs ds → RpAll K O H' vs ds
  | _, _, .nil => .nil
  | _, _, .cons a r => .cons (Rp.same e a) (RpAll.same e r)
end
/-! no script within: PyData.plain -/
mutual
theorem Rp.dp {K : PySem.W.Frag} {O : Addr → Prop} {H : Hp} : ∀ {v : V} {d : Dt}, Rp K O H v d → PyData.plain d = true → Dp K H v d
  | _, _, .non, _ => .non
  | _, _, .bl b, _ => .bl b
  | _, _, .int i, _ => .int i
  | _, _, .str x, _ => .str x
  | _, _, .lst h _ r, q => .lst (SqL.of h) (RpAll.dp r q)
  | _, _, .tup h r, q => .tup h.sq (RpAll.dp r q)
  | _, _, .scr h, q => by cases q
  | _, _, .sht .., q => by cases q
theorem RpAll.dp {K : PySem.W.Frag} {O : Addr → Prop} {H : Hp} : ∀ {vs : List V} {ds : List Dt}, RpAll K O H vs ds → PyData.plainAll ds = true → DpAll K H vs ds
  | _, _, .nil, _ => .nil
  | _, _, .cons a r, q => by
    unfold PyData.plainAll at q
    rw [Bool.and_eq_true] at q
    exact .cons (Rp.dp a q.1) (RpAll.dp r q.2)
end
theorem RpAll.length {K : PySem.W.Frag} {O : Addr → Prop} {H : Hp} : ∀ {vs : List V} {ds : List Dt}, RpAll K O H vs ds → vs.length = ds.length
  | _, _, .nil => rfl
  | _, _, .cons _ r => by simp [RpAll.length r]
theorem RpAll.get {K : PySem.W.Frag} {O : Addr → Prop} {H : Hp} : ∀ {vs : List V} {ds : List Dt} {i : Nat} {d : Dt}, RpAll K O H vs ds → ds[i]? = some d → ∃ v, vs[i]? = some v ∧ Rp K O H v d
  | _, _, _, _, .nil, e => by simp at e
  | _, _, 0, _, .cons a _, e => by simp at e; subst e; exact ⟨_, rfl, a⟩
  | _, _, i + 1, d, .cons _ r, e => by
    obtain ⟨v, h1, h2⟩ := RpAll.get (i := i) (d := d) r (by simpa using e)
    exact ⟨v, by simpa using h1, h2⟩
theorem RpAll.append {K : PySem.W.Frag} {O : Addr → Prop} {H : Hp} : ∀ {vs vs' : List V} {ds ds' : List Dt}, RpAll K O H vs ds → RpAll K O H vs' ds' → RpAll K O H (vs ++ vs') (ds ++ ds')
  | _, _, _, _, .nil, s => s
  | _, _, _, _, .cons a r, s => .cons a (RpAll.append r s)
theorem RpAll.take {K : PySem.W.Frag} {O : Addr → Prop} {H : Hp} : ∀ {vs : List V} {ds : List Dt} (n : Nat), RpAll K O H vs ds → RpAll K O H (vs.take n) (ds.take n)
  | _, _, 0, _ => .nil
  | _, _, _ + 1, .nil => .nil
  | _, _, n + 1, .cons a r => .cons a (RpAll.take n r)
theorem RpAll.drop {K : PySem.W.Frag} {O : Addr → Prop} {H : Hp} : ∀ {vs : List V} {ds : List Dt} (n : Nat), RpAll K O H vs ds → RpAll K O H (vs.drop n) (ds.drop n)
  | _, _, 0, r => r
  | _, _, _ + 1, .nil => .nil
  | _, _, n + 1, .cons _ r => RpAll.drop n r
theorem RpAll.set {K : PySem.W.Frag} {O : Addr → Prop} {H : Hp} {v : V} {d : Dt} (q : Rp K O H v d) : ∀ {vs : List V} {ds : List Dt} (i : Nat), RpAll K O H vs ds → RpAll K O H (vs.set i v) (ds.set i d)
  | _, _, _, .nil => .nil
  | _, _, 0, .cons _ r => .cons q r
  | _, _, i + 1, .cons a r => .cons a (RpAll.set q i r)

/-! ## the environment and the slots -/
def SlotOk (K : PySem.W.Frag) (ow : Ow) (i : Nat) (H : Hp) (v : V) : SV → Prop
  | .sh d => Rp K (OA ow) H v d
  | .own xs => ∃ a vs, v = .ref a ∧ ow.f i = some a ∧ H a = some (.lst vs) ∧ RpAll K (OA ow) H vs xs
  | .sht m es hs => ∃ a e h vs ws, v = .ref a ∧ ow.g i a ∧ ow.g i e ∧ ow.g i h ∧ e ≠ h ∧ ShF K H a m e h ∧ H e = some (.lst vs) ∧ H h = some (.lst ws) ∧ RpAll K (OA ow) H vs es ∧ RpAll K (OA ow) H ws hs
structure Good (K : PySem.W.Frag) (ow : Ow) (ρ : En) (σ : L2.St) (H : Hp) : Prop where
  len : ρ.length = σ.length
  inj : ∀ i j a, ow.f i = some a → ow.f j = some a → i = j
  ok : OkO ow H
  disj : ∀ i a, ow.f i = some a → ¬ ow.x a
  slot : ∀ i s, ρ[i]? = some (some s) → ∃ v, σ[i]? = some (some v) ∧ SlotOk K ow i H v s
  has : ∀ i a, ow.f i = some a → ∃ xs, ρ[i]? = some (some (.own xs))
  ginj : ∀ i j a, ow.g i a → ow.g j a → i = j
  gf : ∀ i j a, ow.g i a → ow.f j = some a → False
  gx : ∀ i a, ow.g i a → ¬ ow.x a
  ghas : ∀ i a, ow.g i a → ∃ m es hs, ρ[i]? = some (some (.sht m es hs))
theorem OkO.same {ow : Ow} {H H' : Hp} (h : OkO ow H) (e : Same H H') : OkO ow H' := ⟨fun i a q => let ⟨ys, z⟩ := h.lst i a q; ⟨ys, e _ _ z⟩, fun a q => Same.dom e a (h.ext a q), fun i a q => (h.gs i a q).elim (fun ⟨ys, z⟩ => .inl ⟨ys, e _ _ z⟩) fun ⟨C, dx, fs, z⟩ => .inr ⟨C, dx, fs, e _ _ z⟩⟩
theorem Good.same {K : PySem.W.Frag} {ow : Ow} {ρ : En} {σ : L2.St} {H H' : Hp} (g : Good K ow ρ σ H) (e : Same H H') : Good K ow ρ σ H' := by
  refine ⟨g.len, g.inj, g.ok.same e, g.disj, fun i s h => ?_, g.has, g.ginj, g.gf, g.gx, g.ghas⟩
  obtain ⟨v, hv, q⟩ := g.slot i s h
  refine ⟨v, hv, ?_⟩
  cases s with
  | sh d => exact Rp.same e q
  | own xs =>
    obtain ⟨a, vs, h1, h2, h3, h4⟩ := q
    exact ⟨a, vs, h1, h2, e _ _ h3, RpAll.same e h4⟩
  | sht m es hs =>
    obtain ⟨a, e1, h1, vs, ws, q1, q2, q3, q4, q5, q6, q7, q8, q9, q10⟩ := q
    exact ⟨a, e1, h1, vs, ws, q1, q2, q3, q4, q5, q6.imp fun o z => e _ _ z, e _ _ q7, e _ _ q8, RpAll.same e q9, RpAll.same e q10⟩
/-- as a borrowed thing: data, or a list whose own address may be owned -/
def RpB (b : Bool) (K : PySem.W.Frag) (ow : Ow) (H : Hp) (v : V) (d : Dt) : Prop :=
  Rp K (OA ow) H v d ∨ (b = true ∧ ∃ a vs ds, v = .ref a ∧ d = .list ds ∧ H a = some (.lst vs) ∧ ¬ ow.x a ∧ RpAll K (OA ow) H vs ds)
theorem RpB.same {b : Bool} {K : PySem.W.Frag} {ow : Ow} {H H' : Hp} {v : V} {d : Dt} (e : Same H H') (h : RpB b K ow H v d) : RpB b K ow H' v d := by
  rcases h with h | ⟨hb, a, vs, ds, h1, h2, h3, h4, h5⟩
  · exact .inl (Rp.same e h)
  · exact .inr ⟨hb, a, vs, ds, h1, h2, e _ _ h3, h4, RpAll.same e h5⟩
theorem RpB.of {b : Bool} {K : PySem.W.Frag} {ow : Ow} {H : Hp} {v : V} {d : Dt} (h : Rp K (OA ow) H v d) : RpB b K ow H v d := .inl h
theorem RpB.rp {K : PySem.W.Frag} {ow : Ow} {H : Hp} {v : V} {d : Dt} (h : RpB false K ow H v d) : Rp K (OA ow) H v d := by
  rcases h with h | ⟨hb, _⟩
  · exact h
  · cases hb
theorem RpB.dp {b : Bool} {K : PySem.W.Frag} {ow : Ow} {H : Hp} {v : V} {d : Dt} (h : RpB b K ow H v d) (q : PyData.plain d = true) : Dp K H v d := by
  rcases h with h | ⟨hb, a, vs, ds, rfl, rfl, h3, h5, h4⟩
  · exact h.dp q
  · exact .lst (SqL.of h3) (h4.dp q)
/-- what is handed out -/
theorem RpB.out {b : Bool} {K : PySem.W.Frag} {ow : Ow} {H : Hp} {v : V} {d : Dt} (h : RpB b K ow H v d) : Rp K ow.x H v d := by
  rcases h with h | ⟨hb, a, vs, ds, rfl, rfl, h3, h5, h4⟩
  · exact Rp.fresh (fun _ _ _ n z => n (.inr z)) h
  · exact .lst h3 h5 (RpAll.fresh (fun _ _ _ n z => n (.inr z)) h4)
/-! what a borrowed list, a tuple, is -/
theorem RpB.list {b : Bool} {K : PySem.W.Frag} {ow : Ow} {H : Hp} {v : V} {ds : List Dt} (h : RpB b K ow H v (.list ds)) : ∃ a vs, v = .ref a ∧ H a = some (.lst vs) ∧ RpAll K (OA ow) H vs ds := by
  rcases h with h | ⟨hb, a, vs, ds', rfl, e, h3, h5, h4⟩
  · cases h with
    | lst h _ r => exact ⟨_, _, rfl, h, r⟩
  · cases e; exact ⟨a, vs, rfl, h3, h4⟩
theorem RpB.tuple {b : Bool} {K : PySem.W.Frag} {ow : Ow} {H : Hp} {v : V} {ds : List Dt} (h : RpB b K ow H v (.tuple ds)) : ∃ a vs, v = .ref a ∧ FT H a vs ∧ RpAll K (OA ow) H vs ds := by
  rcases h with h | ⟨hb, a, vs, ds', rfl, e, h3, h5, h4⟩
  · cases h with
    | tup h r => exact ⟨_, _, rfl, h, r⟩
  · cases e
theorem RpB.int {b : Bool} {K : PySem.W.Frag} {ow : Ow} {H : Hp} {v : V} {i : Int} (h : RpB b K ow H v (.int i)) : v = .int i := by
  rcases h with h | ⟨hb, a, vs, ds', rfl, e, h3, h5, h4⟩
  · cases h; rfl
  · cases e
theorem RpB.bool {b : Bool} {K : PySem.W.Frag} {ow : Ow} {H : Hp} {v : V} {i : Bool} (h : RpB b K ow H v (.bool i)) : v = .bl i := by
  rcases h with h | ⟨hb, a, vs, ds', rfl, e, h3, h5, h4⟩
  · cases h; rfl
  · cases e
theorem RpB.str {b : Bool} {K : PySem.W.Frag} {ow : Ow} {H : Hp} {v : V} {i : Str} (h : RpB b K ow H v (.str i)) : v = .str i := by
  rcases h with h | ⟨hb, a, vs, ds', rfl, e, h3, h5, h4⟩
  · cases h; rfl
  · cases e
theorem RpB.none {b : Bool} {K : PySem.W.Frag} {ow : Ow} {H : Hp} {v : V} (h : RpB b K ow H v .none) : v = .non := by
  rcases h with h | ⟨hb, a, vs, ds', rfl, e, h3, h5, h4⟩
  · cases h; rfl
  · cases e
theorem RpB.script {b : Bool} {K : PySem.W.Frag} {ow : Ow} {H : Hp} {v : V} {kv : List (PyData × PyData)} (h : RpB b K ow H v (.dict kv)) :
    (∃ (a : Addr) (ns : List Int), v = .ref a ∧ kv = ns.map (fun i => ((.int i : PyData), (.none : PyData))) ∧ ScrAt K H a ns) ∨ ∃ (a : Addr) (d : Dt), v = .ref a ∧ kv = [(.none, d)] ∧ ∃ dx fs, H a = some (.ins (He.ga K "Sheet") dx fs) := by
  rcases h with h | ⟨hb, a, vs, ds', rfl, e, h3, h5, h4⟩
  · generalize hd : (PyData.dict kv) = d at h
    cases h with
    | scr h => injection hd with hd; exact .inl ⟨_, _, rfl, hd, h⟩
    | sht f _ _ _ _ _ _ _ => injection hd with hd; exact .inr ⟨_, _, rfl, hd, let ⟨dx, fs, q, _⟩ := f; ⟨dx, fs, q⟩⟩
    | _ => cases hd
  · cases e

/-! ## the context of a piece of code -/
structure Gc where
  P : Program
  w : World
  K : PySem.W.Frag
  mg : Str → Option Value
  base : Heap
structure Ctx (G : Gc) (N : List Str) (sc : Scope) (fn : Str → Bool) (k : Nat) (X : Cx) : Prop where
  hP : X.prog = G.P
  hw : X.w = G.w
  hK : X.K = G.K
  hmg : X.mg = G.mg
  hb : X.base = G.base
  hN : X.N = N
  nd : N.Nodup
  hsc : X.env.scope = sc
  hfn : X.fn = fn
  calm : X.calm = true
  room : Room k X.A
def PayOk (K : PySem.W.Frag) (H : Hp) (d : Option Addr) : Option Dt → Prop
  | .none => d = .none
  | some x => ∃ a v, d = some a ∧ H a = some (.xd [((Str.ofString "line"), v)]) ∧ Rp K NoO H v x
/-- what is wished of an exception -/
def ExP (K : PySem.W.Frag) (mg : Str → Option Value) (W : WX) (σ : L2.St) (H : Hp) (n : Str) (pl : Option Dt) : Prop :=
  ∀ cls d H', mg n = some cls → Same H H' → PayOk K H' d pl → W cls d σ H'
theorem ExP.same {K : PySem.W.Frag} {mg : Str → Option Value} {W : WX} {σ : L2.St} {H H' : Hp} {n : Str} {pl : Option Dt} (h : ExP K mg W σ H n pl) (e : Same H H') : ExP K mg W σ H' n pl :=
  fun cls d H2 h1 h2 h3 => h cls d H2 h1 (e.trans h2) h3
/-- the reading of an expression by data -/
def tE (K : PySem.W.Frag) (mg : Str → Option Value) (W : WX) (b : Bool) (f : EF) : TE := fun σ H Q =>
  ∃ ρ ow r, f b ρ = some r ∧ Good K ow ρ σ H ∧ match r with
    | .val d => ∀ v H', Same H H' → RpB b K ow H' v d → Q v H'
    | .exc n pl => ExP K mg W σ H n pl
def SE (G : Gc) (N : List Str) (sc : Scope) (fn : Str → Bool) (k : Nat) (e : Expr) (f : EF) : Prop :=
  ∀ X, Ctx G N sc fn k X → ∀ W, Takes X W → ∀ b, PE X e (tE X.K X.mg W b f)
theorem PE.imp {X : Cx} {e : Expr} {t t' : TE} (h : PE X e t) (i : ∀ σ H Q, t' σ H Q → t σ H Q) : PE X e t' := ⟨fun pins s σ H Q I q => h.run pins s σ H Q I (i σ H Q q)⟩
theorem PT.imp {X : Cx} {e : Expr} {t t' : TT} (h : PT X e t) (i : ∀ σ H Q, t' σ H Q → t σ H Q) : PT X e t' := ⟨fun pins s σ H Q I q => h.run pins s σ H Q I (i σ H Q q)⟩
theorem PA.imp {X : Cx} {e : List Expr} {t t' : TA} (h : PA X e t) (i : ∀ σ H Q, t' σ H Q → t σ H Q) : PA X e t' := ⟨fun pos pins s σ H Q I q => h.run pos pins s σ H Q I (i σ H Q q)⟩
theorem PSs.imp {X : Cx} {e : List Stmt} {t t' : TS} (h : PSs X e t) (i : ∀ D σ H, t' D σ H → t D σ H) : PSs X e t' := ⟨fun pins s σ H D I q => h.run pins s σ H D I (i D σ H q)⟩
theorem PS.imp {X : Cx} {e : Stmt} {t t' : TS} (h : PS X e t) (i : ∀ D σ H, t' D σ H → t D σ H) : PS X e t' := ⟨fun pins s σ H D I q => h.run pins s σ H D I (i D σ H q)⟩
/-- one part evaluated, then the rest: the shape of most proofs below -/
theorem tE.go {K : PySem.W.Frag} {mg : Str → Option Value} {W : WX} {b : Bool} {f : EF} {ρ : En} {ow : Ow} {σ : L2.St} {H : Hp} {Q : VK} {k : Dt → Option Rs} {r : Rs} (g : Good K ow ρ σ H)
    (e : bnd (f b ρ) k = some r)
    (hx : ∀ n pl, r = .exc n pl → ExP K mg W σ H n pl)
    (hv : ∀ d, k d = some r → ∀ v H', Same H H' → RpB b K ow H' v d → Q v H') : tE K mg W b f σ H Q := by
  cases h : f b ρ with
  | none => rw [h] at e; cases e
  | some q =>
    rw [h] at e
    cases q with
    | val d => exact ⟨ρ, ow, .val d, h, g, fun v H' s q => hv d e v H' s q⟩
    | exc n pl => exact ⟨ρ, ow, .exc n pl, h, g, hx n pl (Option.some.inj e).symm⟩
end PT

namespace PT
open PySem PySem.Spec PyProof.Rows L2

/-! ## operators by data -/
def RD (K : PySem.W.Frag) (r : R2) (op : Dt → Dt → Option Dt) : Prop :=
  ∀ (x y : V) (H : Hp) (Q : VK) (ow : Ow) (dx dy dz : Dt), OkO ow H → RpB true K ow H x dx → RpB true K ow H y dy → op dx dy = some dz →
    (∀ v H', Same H H' → Rp K (OA ow) H' v dz → Q v H') → r x y H Q
def eBin (op : Dt → Dt → Option Dt) (f g : EF) : EF := fun _ ρ => bnd (f true ρ) fun x => bnd (g true ρ) fun y => (op x y).map .val
theorem Same.exp {K : PySem.W.Frag} {mg : Str → Option Value} {W : WX} {σ : L2.St} {H H' : Hp} {n : Str} {pl : Option Dt} (e : Same H H') (h : ExP K mg W σ H n pl) : ExP K mg W σ H' n pl := h.same e
/-- two parts, then an operation by data -/
theorem tOp_of {K : PySem.W.Frag} {mg : Str → Option Value} {W : WX} {b : Bool} {op : Dt → Dt → Option Dt} {f g : EF} {r : R2} {σ : L2.St} {H : Hp} {Q : VK} (hd : RD K r op)
    (h : tE K mg W b (eBin op f g) σ H Q) : tOp r (tE K mg W true f) (tE K mg W true g) σ H Q := by
  obtain ⟨ρ, ow, rs, he, gd, post⟩ := h
  refine tE.go gd he (fun n pl e => by subst e; exact post) fun d hd1 v H1 s1 r1 => ?_
  refine tE.go (gd.same s1) hd1 (fun n pl e => by subst e; exact post.same s1) fun d2 hd2 v2 H2 s2 r2 => ?_
  cases hz : op d d2 with
  | none => rw [hz] at hd2; cases hd2
  | some dz =>
    rw [hz] at hd2
    cases hd2
    exact hd v v2 H2 Q ow d d2 dz (gd.ok.same (s1.trans s2)) (r1.same s2) r2 hz fun v' H' s' q => post v' H' ((s1.trans s2).trans s') (.inl q)
theorem Takes.use {X : Cx} {W : WX} (t : Takes X W) : Takes X W := t

section
variable {G : Gc} {N : List Str} {sc : Scope} {fn : Str → Bool} {k : Nat} {pos : Pos}

/-! ### names, constants -/
def eVar (i : Nat) : EF := fun b ρ => match ρ[i]? with
  | some (some (.sh d)) => some (.val d)
  | some (some (.own xs)) => if b then some (.val (.list xs)) else none
  | _ => none
def eC (d : Dt) : EF := fun _ _ => some (.val d)
theorem se_var (i : Nat) {x : Str} (hN : N[i]? = some x := by rfl) (hv : Vis sc x := by first | exact Or.inl rfl | exact Or.inr (Or.inl rfl) | exact Or.inr (Or.inr rfl))
    (hd : (x == ("__debug__" : Str)) = false := by decide) (hcd : (x == ("__classdict__" : Str)) = false := by decide) : SE G N sc fn k (.Name x pos) (eVar i) := fun X C W tk b => by
  refine PE.imp (pe_var (by rw [C.hN]; exact hN) (by rw [C.hsc]; exact hv) hd hcd) fun σ H Q h => ?_
  obtain ⟨ρ, ow, r, he, gd, post⟩ := h
  unfold eVar at he
  split at he
  · rename_i d hi
    cases he
    obtain ⟨v, hv, q⟩ := gd.slot i _ hi
    exact ⟨v, hv, post v H (Same.refl H) (.inl q)⟩
  · rename_i xs hi
    cases b with
    | false => cases he
    | true =>
      cases he
      obtain ⟨v, hv, a, vs, rfl, h2, h3, h4⟩ := gd.slot i _ hi
      exact ⟨_, hv, post _ H (Same.refl H) (.inr ⟨rfl, a, vs, xs, rfl, rfl, h3, gd.disj _ _ h2, h4⟩)⟩
  · cases he
theorem tC_of {K : PySem.W.Frag} {mg : Str → Option Value} {W : WX} {b : Bool} {d : Dt} {v : V} {σ : L2.St} {H : Hp} {Q : VK} (hr : ∀ O, Rp K O H v d) (h : tE K mg W b (eC d) σ H Q) : tC v σ H Q := by
  obtain ⟨ρ, ow, r, he, gd, post⟩ := h
  cases he
  exact post v H (Same.refl H) (.inl (hr _))
theorem se_int {i : Int} {j : Nat} : SE G N sc fn k (.Constant (.int i) j pos) (eC (.int i)) := fun X C W tk b => PE.imp pe_int fun σ H Q h => tC_of (fun _ => .int i) h
theorem se_bl {i : Bool} {j : Nat} : SE G N sc fn k (.Constant (.bool i) j pos) (eC (.bool i)) := fun X C W tk b => PE.imp pe_bl fun σ H Q h => tC_of (fun _ => .bl i) h
theorem se_non {j : Nat} : SE G N sc fn k (.Constant .none j pos) (eC .none) := fun X C W tk b => PE.imp pe_non fun σ H Q h => tC_of (fun _ => .non) h
theorem se_str {i : Str} {j : Nat} : SE G N sc fn k (.Constant (.str i) j pos) (eC (.str i)) := fun X C W tk b => PE.imp pe_str fun σ H Q h => tC_of (fun _ => .str i) h
/-- a module's constant that is an int -/
theorem se_gint {x : Str} {i : Int} (hm : ∃ t, G.mg x = some (.int i t)) (hg : sc.names.lookup x = some .globalImplicit := by rfl) (hd : (x == ("__debug__" : Str)) = false := by decide) : SE G N sc fn k (.Name x pos) (eC (.int i)) := fun X C W tk b => by
  obtain ⟨t, hm⟩ := hm
  exact PE.imp (pe_glob (v := .int i) (by show X.env.scope.names.lookup x = _; rw [C.hsc]; exact hg) (by rw [C.hmg]; exact hm) ⟨t, rfl⟩ hd) fun σ H Q h => tC_of (fun _ => .int i) h
theorem se_gstr {x : Str} {i : Str} (hm : ∃ t, G.mg x = some (.str i t)) (hg : sc.names.lookup x = some .globalImplicit := by rfl) (hd : (x == ("__debug__" : Str)) = false := by decide) : SE G N sc fn k (.Name x pos) (eC (.str i)) := fun X C W tk b => by
  obtain ⟨t, hm⟩ := hm
  exact PE.imp (pe_glob (v := .str i) (by show X.env.scope.names.lookup x = _; rw [C.hsc]; exact hg) (by rw [C.hmg]; exact hm) ⟨t, rfl⟩ hd) fun σ H Q h => tC_of (fun _ => .str i) h

/-! ### new tuples -/
def nT (its : Array Value) : Obj := { cls := .type "tuple", data := .seq its }
theorem layT {X : Cx} {pins : List (Addr × Obj)} {σ : L2.St} {H : Hp} {s : Shared} {xs : List V} {its : List Value} (I : Inv X pins σ H s) (r : Vals xs its) (hz : xs.length ≤ sizeLine) (t : Nat) :
    Inv X pins σ (upd H s.heap.objs.size (.frz (nT its.toArray) (.tup xs))) { s with heap := s.heap.push (nT its.toArray), toks := t } :=
  I.laid (t' := t) (fun b ob q => Heap.get?_push_of_some _ q) (Nat.le_refl _) (show ObjOk X.prog X.w _ _ _ (.frz (nT its.toArray) (.tup xs)) from ⟨Heap.get?_push_size _ rfl, hz, its, r, IsTup.new _ _⟩)
def rCatF (K : PySem.W.Frag) : R2 := fun x y H Q => ∃ a b xs ys, x = .ref a ∧ y = .ref b ∧ SqT K H a xs ∧ SqT K H b ys ∧ xs.length + ys.length ≤ sizeLine ∧
  (xs = [] → Q (.ref b) H) ∧ (xs ≠ [] → ys = [] → Q (.ref a) H) ∧ (xs ≠ [] → ys ≠ [] → ∀ p o, H p = none → o.dict = none → Q (.ref p) (upd H p (.frz o (.tup (xs ++ ys)))))
theorem op_catF {X : Cx} : OpR X (binaryOp .Add) (rCatF X.K) := by
  intro pins s σ H x y v u Q I rx ry h
  obtain ⟨a, b, xs, ys, rfl, rfl, ha, hb, hz, q0, q1, q2⟩ := h
  by_cases hx : xs = []
  · subst hx
    cases rx
    cases ry
    obtain ⟨its, r1, p1, _⟩ := I.tuple ha
    obtain ⟨its2, r2, p2, _⟩ := I.tuple hb
    cases r1
    exact cat_tup0 p1 p2 ⟨.ref b, H, I, rfl, q0 rfl⟩
  · cases rx
    cases ry
    obtain ⟨its, r1, p1, _⟩ := I.tuple ha
    obtain ⟨its2, r2, p2, _⟩ := I.tuple hb
    refine HT.cat_tup p1 p2 (fun z => hx (r1.nil_iff.mp z)) (fun z => ⟨.ref a, H, I, rfl, q1 hx (r2.nil_iff.mp z)⟩) (fun z => ?_) (by rw [← r1.length, ← r2.length]; exact hz)
    exact ⟨.ref s.heap.objs.size, _, layT I (r1.append r2) (by rw [List.length_append]; exact hz) s.toks, rfl, q2 hx (fun w => z (r2.nil_iff.mpr w)) _ _ (I.hok.fresh (Nat.le_refl _)) rfl⟩
def rRepF (K : PySem.W.Frag) : R2 := fun x y H Q => ∃ l k xs, x = .ref l ∧ y = .int k ∧ SqT K H l xs ∧ xs ≠ [] ∧ 2 ≤ k ∧ k ≤ 1000 ∧ xs.length ≤ 1000 ∧ ∀ p o, H p = none → o.dict = none → Q (.ref p) (upd H p (.frz o (.tup (List.replicate k.toNat xs).flatten)))
theorem op_repF {X : Cx} : OpR X (binaryOp .Mult) (rRepF X.K) := by
  intro pins s σ H x y v u Q I rx ry h
  obtain ⟨l, k, xs, rfl, rfl, hT, hne, h1, h2, hz, q⟩ := h
  cases rx
  obtain ⟨t, rfl⟩ := ry
  obtain ⟨its, r, ⟨⟨cls, dd, data, sl⟩, ho, hc, n, hd⟩, hs⟩ := I.tuple hT
  simp only at hc hd
  subst hc hd
  have hle : its.length = xs.length := r.length.symm
  have hn : its ≠ [] := fun e => hne (by
    rw [e] at hle
    exact List.eq_nil_of_length_eq_zero hle.symm)
  have hi : its.toArray.isEmpty = false := by
    cases its with
    | nil => exact absurd rfl hn
    | cons a b => rfl
  have hsz0 : its.toArray.size = xs.length := by rw [List.size_toArray, hle]
  have hm : ((its.toArray.size : Nat) : Int) * k ≤ 1000000 := by
    rw [hsz0]
    have a1 : ((xs.length : Nat) : Int) * k ≤ 1000 * k := Int.mul_le_mul_of_nonneg_right (by omega) (by omega)
    omega
  have flen : (List.replicate k.toNat its).flatten.length ≤ sizeLine := by
    rw [PyProof.Rows.lm_len_rep_flat, hle, sizeLine_eq]
    have a1 : k.toNat * xs.length ≤ 1000 * 1000 := Nat.mul_le_mul (by omega) hz
    omega
  have c0 : (decide (k < -(2 ^ 63)) || decide (k ≥ 2 ^ 63)) = false := by
    rw [decide_eq_false (by omega), decide_eq_false (by omega)] <;> rfl
  have c1 : (its.toArray.isEmpty || k == 1) = false := by
    rw [hi, Bool.false_or]
    exact beq_eq_false_iff_ne.mpr (by omega)
  have c2 : (decide (k ≤ 0) || its.toArray.isEmpty) = false := by
    rw [hi, Bool.or_false]
    exact decide_eq_false (by omega)
  have c4 : Builtin.Tuple.tupleTooMany (((its.toArray.size : Nat) : Int) * k) = false := by
    unfold Builtin.Tuple.tupleTooMany
    rw [sizeLine_eq]
    exact decide_eq_false (by omega)
  refine wpAny_binaryOp_repeat_ref (T := "tuple") (U := "int") (by decide) ⟨_, ho, rfl⟩ (fun s' => typeIs_int s' k t) noFill_tuple_mul F.fills_int_mul F.slot_int_rmul repeat_tuple F.slot_int_index.lookup
    (call_meets F.slot_int_rmul (typeIs_int s k t) F.entry_int_rmul (F.args_int_rmul_2 _ _) (int_rmul_tuple k t l its.toArray n dd sl)
      ⟨ho, rfl, ⟨_, ho, rfl⟩, call_meets F.slot_tuple_mul ⟨_, ho, rfl⟩ F.entry_tuple_mul (F.args_tuple_mul_2 _ _) (tuple_mulW l its.toArray n dd sl k t c0 c1 c2 (by omega) c4 (by rw [size_rep, List.size_toArray]; exact flen)) ⟨ho, ?_⟩⟩)
  rw [size_rep]
  exact ⟨.ref s.heap.objs.size, _, layT I (r.rep k.toNat) (by rw [PyProof.Rows.lm_len_rep_flat, sizeLine_eq]; have a1 : k.toNat * xs.length ≤ 1000 * 1000 := Nat.mul_le_mul (by omega) hz; omega) s.toks, rfl, q _ _ (I.hok.fresh (Nat.le_refl _)) rfl⟩
/-! ### arithmetic -/
variable {a b c : Expr} {f g h : EF}
theorem se_bin {op : Operator} {r : PySem.W.Frag → R2} {dop : Dt → Dt → Option Dt} (ho : ∀ X : Cx, OpR X (binaryOp op) (r X.K)) (hd : ∀ K, RD K (r K) dop) (ha : SE G N sc fn k a f) (hb : SE G N sc fn k b g) :
    SE G N sc fn k (.BinOp a op b pos) (eBin dop f g) := fun X C W tk b' => PE.imp (pe_op (ho X) (ha X C W tk true) (hb X C W tk true)) fun σ H Q h => tOp_of (hd X.K) h
def lim : Nat := 1000000
theorem lim_le {n : Nat} (h : n ≤ lim) : n ≤ sizeLine := Nat.le_trans h (by decide)
def dAdd : Dt → Dt → Option Dt
  | .int i, .int j => some (.int (i + j))
  | .tuple xs, .tuple ys => if xs.length + ys.length ≤ lim then some (.tuple (xs ++ ys)) else none
  | .list xs, .list ys => if xs.length + ys.length ≤ lim then some (.list (xs ++ ys)) else none
  | .str x, .str y => if x.length + y.length ≤ lim then some (.str (x ++ y)) else none
  | _, _ => none
def rAddD (K : PySem.W.Frag) : R2 := fun x y H Q => rI0 (fun i j => .int (i + j)) x y H Q ∨ (rCatF K x y H Q ∨ (rCat x y H Q ∨ (∃ i j, x = .str i ∧ y = .str j ∧ i.length + j.length ≤ sizeLine ∧ Q (.str (i ++ j)) H)))
theorem rd_add (K : PySem.W.Frag) : RD K (rAddD K) dAdd := by
  intro x y H Q ow dx dy dz ok rx ry e post
  unfold dAdd at e
  split at e
  · cases e
    obtain rfl := rx.int
    obtain rfl := ry.int
    exact .inl ⟨_, _, rfl, rfl, post _ H (Same.refl H) (.int _)⟩
  · rename_i xs ys
    split at e
    · rename_i hz
      cases e
      obtain ⟨a, vs, rfl, h1, r1⟩ := rx.tuple
      obtain ⟨b, ws, rfl, h2, r2⟩ := ry.tuple
      refine .inr (.inl ⟨a, b, vs, ws, rfl, rfl, h1.sq, h2.sq, by rw [r1.length, r2.length]; exact lim_le hz, fun e => ?_, fun e1 e2 => ?_, fun e1 e2 p o hp ho => ?_⟩)
      · subst e
        cases r1
        exact post _ H (Same.refl H) (.tup h2 r2)
      · subst e2
        cases r2
        rw [List.append_nil] at post
        exact post _ H (Same.refl H) (.tup h1 r1)
      · exact post _ _ (Same.upd hp) (.tup ⟨o, upd_same, ho⟩ (RpAll.same (Same.upd hp) (r1.append r2)))
    · cases e
  · rename_i xs ys
    split at e
    · rename_i hz
      cases e
      obtain ⟨a, vs, rfl, h1, r1⟩ := rx.list
      obtain ⟨b, ws, rfl, h2, r2⟩ := ry.list
      exact .inr (.inr (.inl ⟨a, b, vs, ws, rfl, rfl, h1, h2, by rw [r1.length, r2.length]; exact lim_le hz, fun p hp =>
        post _ _ (Same.upd hp) (.lst upd_same (ok.new hp) (RpAll.same (Same.upd hp) (r1.append r2)))⟩))
    · cases e
  · rename_i x' y'
    split at e
    · rename_i hz
      cases e
      obtain rfl := rx.str
      obtain rfl := ry.str
      exact .inr (.inr (.inr ⟨_, _, rfl, rfl, lim_le hz, post _ H (Same.refl H) (.str _)⟩))
    · cases e
  · cases e
theorem se_add (ha : SE G N sc fn k a f) (hb : SE G N sc fn k b g) : SE G N sc fn k (.BinOp a .Add b pos) (eBin dAdd f g) :=
  se_bin (r := rAddD) (fun X => op_add.or (op_catF.or (op_cat.or op_add_str))) rd_add ha hb
/-- ints alone -/
def dI (C : Int → Int → Bool) (o : Int → Int → Int) : Dt → Dt → Option Dt
  | .int i, .int j => if C i j then some (.int (o i j)) else none
  | _, _ => none
theorem rd_I {K : PySem.W.Frag} {C : Int → Int → Bool} {C' : Int → Int → Prop} {o : Int → Int → Int} (hc : ∀ i j, C i j = true → C' i j) : RD K (rI C' fun i j => .int (o i j)) (dI C o) := by
  intro x y H Q ow dx dy dz ok rx ry e post
  unfold dI at e
  split at e
  · split at e
    · rename_i i j hcc
      cases e
      obtain rfl := rx.int
      obtain rfl := ry.int
      exact ⟨_, _, rfl, rfl, hc _ _ hcc, post _ H (Same.refl H) (.int _)⟩
    · cases e
  · cases e
def dSub : Dt → Dt → Option Dt
  | .int i, .int j => some (.int (i - j))
  | _, _ => none
theorem rd_sub (K : PySem.W.Frag) : RD K (rI0 fun i j => .int (i - j)) dSub := by
  intro x y H Q ow dx dy dz ok rx ry e post
  unfold dSub at e
  split at e
  · cases e
    obtain rfl := rx.int
    obtain rfl := ry.int
    exact ⟨_, _, rfl, rfl, post _ H (Same.refl H) (.int _)⟩
  · cases e
theorem se_sub (ha : SE G N sc fn k a f) (hb : SE G N sc fn k b g) : SE G N sc fn k (.BinOp a .Sub b pos) (eBin dSub f g) :=
  se_bin (r := fun _ => rI0 fun i j => .int (i - j)) (fun X => op_sub) rd_sub ha hb
/-! guards that a kernel does not unroll -/
def sml : Int → Bool
  | .ofNat n => Nat.blt n 18446744073709551616
  | .negSucc n => Nat.blt n 18446744073709551615
theorem sml_iff {i : Int} : sml i = true ↔ -(2 ^ 64) < i ∧ i < 2 ^ 64 := by
  cases i with
  | ofNat n =>
    show Nat.blt n 18446744073709551616 = true ↔ _
    rw [Nat.blt_eq]
    show n < 18446744073709551616 ↔ -(2 ^ 64) < (n : Int) ∧ (n : Int) < 2 ^ 64
    omega
  | negSucc n =>
    show Nat.blt n 18446744073709551615 = true ↔ _
    rw [Nat.blt_eq]
    have : Int.negSucc n = -((n : Int) + 1) := rfl
    rw [this]
    omega
def okI : Int → Bool
  | .ofNat n => Nat.ble n 1000000
  | .negSucc n => Nat.ble n 999999
theorem okI_iff {i : Int} : okI i = true ↔ i ≤ 1000000 ∧ -1000000 ≤ i := by
  cases i with
  | ofNat n =>
    show Nat.ble n 1000000 = true ↔ _
    rw [Nat.ble_eq]
    show n ≤ 1000000 ↔ (n : Int) ≤ 1000000 ∧ -1000000 ≤ (n : Int)
    omega
  | negSucc n =>
    show Nat.ble n 999999 = true ↔ _
    rw [Nat.ble_eq]
    have : Int.negSucc n = -((n : Int) + 1) := rfl
    rw [this]
    omega
def okM : Int → Bool
  | .ofNat n => Nat.ble 2 n && Nat.ble n 1000
  | .negSucc _ => false
theorem okM_iff {i : Int} : okM i = true ↔ 2 ≤ i ∧ i ≤ 1000 := by
  cases i with
  | ofNat n =>
    show (Nat.ble 2 n && Nat.ble n 1000) = true ↔ _
    rw [Bool.and_eq_true, Nat.ble_eq, Nat.ble_eq]
    show 2 ≤ n ∧ n ≤ 1000 ↔ 2 ≤ (n : Int) ∧ (n : Int) ≤ 1000
    omega
  | negSucc n =>
    have : Int.negSucc n = -((n : Int) + 1) := rfl
    show false = true ↔ _
    rw [this]
    simp
    omega
def dMul : Dt → Dt → Option Dt
  | .int i, .int j => if sml i || sml j then some (.int (i * j)) else none
  | .list xs, .int j => if xs.length * j.toNat ≤ lim ∧ okI j = true then some (.list (List.replicate j.toNat xs).flatten) else none
  | .tuple xs, .int j => if xs ≠ [] ∧ okM j = true ∧ xs.length ≤ 1000 then some (.tuple (List.replicate j.toNat xs).flatten) else none
  | _, _ => none
theorem RpAll.rep {K : PySem.W.Frag} {O : Addr → Prop} {H : Hp} {vs : List V} {ds : List Dt} (r : RpAll K O H vs ds) : ∀ n : Nat, RpAll K O H (List.replicate n vs).flatten (List.replicate n ds).flatten
  | 0 => .nil
  | n + 1 => by
    rw [List.replicate_succ, List.replicate_succ, List.flatten_cons, List.flatten_cons]
    exact r.append (RpAll.rep r n)
def rMulD (K : PySem.W.Frag) : R2 := fun x y H Q => rI CMul (fun i j => .int (i * j)) x y H Q ∨ (rRep x y H Q ∨ rRepF K x y H Q)
theorem rd_mul (K : PySem.W.Frag) : RD K (rMulD K) dMul := by
  intro x y H Q ow dx dy dz ok rx ry e post
  unfold dMul at e
  split at e
  · split at e
    · rename_i i j hz
      cases e
      obtain rfl := rx.int
      obtain rfl := ry.int
      refine .inl ⟨_, _, rfl, rfl, ?_, post _ H (Same.refl H) (.int _)⟩
      rw [Bool.or_eq_true, sml_iff, sml_iff] at hz
      exact hz
    · cases e
  · split at e
    · rename_i xs j hz
      cases e
      obtain ⟨a, vs, rfl, h1, r1⟩ := rx.list
      obtain rfl := ry.int
      have hz2 := okI_iff.mp hz.2
      exact .inr (.inl ⟨a, j, vs, rfl, rfl, h1, by omega, by omega, by rw [r1.length]; exact lim_le hz.1, fun p hp =>
        post _ _ (Same.upd hp) (.lst upd_same (ok.new hp) (RpAll.same (Same.upd hp) (r1.rep _)))⟩)
    · cases e
  · split at e
    · rename_i xs j hz
      cases e
      obtain ⟨a, vs, rfl, h1, r1⟩ := rx.tuple
      obtain rfl := ry.int
      refine .inr (.inr ⟨a, j, vs, rfl, rfl, h1.sq, fun z => ?_, (okM_iff.mp hz.2.1).1, (okM_iff.mp hz.2.1).2, by rw [r1.length]; exact hz.2.2, fun p o hp ho =>
        post _ _ (Same.upd hp) (.tup ⟨o, upd_same, ho⟩ (RpAll.same (Same.upd hp) (r1.rep _)))⟩)
      subst z
      cases r1
      exact hz.1 rfl
    · cases e
  · cases e
theorem se_mul (ha : SE G N sc fn k a f) (hb : SE G N sc fn k b g) : SE G N sc fn k (.BinOp a .Mult b pos) (eBin dMul f g) :=
  se_bin (r := rMulD) (fun X => op_mul.or (op_rep.or op_repF)) rd_mul ha hb
def dDiv : Dt → Dt → Option Dt := dI (fun _ j => decide (j ≠ 0) && decide (j.natAbs < 1073741824)) fun i j => i.fdiv j
theorem se_div (ha : SE G N sc fn k a f) (hb : SE G N sc fn k b g) : SE G N sc fn k (.BinOp a .FloorDiv b pos) (eBin dDiv f g) :=
  se_bin (r := fun _ => rI CDivN fun i j => .int (i.fdiv j)) (fun X => op_fdivN) (fun K => rd_I fun i j h => by simpa [CDivN] using h) ha hb
def dMod : Dt → Dt → Option Dt := dI (fun _ j => decide (j ≠ 0)) fun i j => i.fmod j
theorem se_mod (ha : SE G N sc fn k a f) (hb : SE G N sc fn k b g) : SE G N sc fn k (.BinOp a .Mod b pos) (eBin dMod f g) :=
  se_bin (r := fun _ => rI (fun _ j => j ≠ 0) fun i j => .int (i.fmod j)) (fun X => op_modN) (fun K => rd_I fun i j h => by simpa using h) ha hb
def dPow : Dt → Dt → Option Dt := dI (fun i j => decide (0 ≤ j) && okI j && decide (i.natAbs < 2 ^ 64)) fun i j => i ^ j.toNat
theorem se_pow (ha : SE G N sc fn k a f) (hb : SE G N sc fn k b g) : SE G N sc fn k (.BinOp a .Pow b pos) (eBin dPow f g) :=
  se_bin (r := fun _ => rI CPow fun i j => .int (i ^ j.toNat)) (fun X => op_pow) (fun K => rd_I fun i j h => by
    rw [Bool.and_eq_true, Bool.and_eq_true, decide_eq_true_eq, decide_eq_true_eq, okI_iff] at h
    unfold CPow
    exact ⟨h.1.1, h.1.2.1, h.2⟩) ha hb
def eUn (op : Dt → Option Dt) (f : EF) : EF := fun _ ρ => bnd (f true ρ) fun x => (op x).map .val
def dNeg : Dt → Option Dt
  | .int i => some (.int (-i))
  | _ => none
theorem se_neg (ha : SE G N sc fn k a f) : SE G N sc fn k (.UnaryOp .USub a pos) (eUn dNeg f) := fun X C W tk b => PE.imp (pe_un un_neg (ha X C W tk true)) fun σ H Q h => by
  obtain ⟨ρ, ow, rs, he, gd, post⟩ := h
  refine tE.go gd he (fun n pl e => by subst e; exact post) fun d hd1 v H1 s1 r1 => ?_
  unfold dNeg at hd1
  split at hd1
  · cases hd1
    obtain rfl := r1.int
    exact ⟨_, rfl, post _ H1 s1 (.inl (.int _))⟩
  · cases hd1
end
end PT

namespace PT
open PySem PySem.Spec PyProof.Rows L2

/-! ## comparisons -/
def dep (d : Dt) : Bool := decide (d.depth ≤ 60)
def dEq (x y : Dt) : Option Dt := if x.plain && y.plain && (dep x || dep y) then some (.bool (PyData.eqv x y)) else none
def dNe (x y : Dt) : Option Dt := if x.plain && y.plain && (dep x || dep y) then some (.bool (!PyData.eqv x y)) else none
def rEqP (K : PySem.W.Frag) : R2 := fun x y H Q => ∃ d e, Dp K H x d ∧ Dp K H y e ∧ d.plain = true ∧ e.plain = true ∧ (d.depth ≤ 60 ∨ e.depth ≤ 60) ∧ Q (.bl (PyData.eqv d e)) H
def rNeP (K : PySem.W.Frag) : R2 := fun x y H Q => ∃ d e, Dp K H x d ∧ Dp K H y e ∧ d.plain = true ∧ e.plain = true ∧ (d.depth ≤ 60 ∨ e.depth ≤ 60) ∧ Q (.bl (!PyData.eqv d e)) H
theorem op_eqP {X : Cx} (hu : X.A.units + 64 < cLine) : OpR X (compareOp .Eq) (rEqP X.K) := by
  intro pins s σ H x y v u Q I rx ry h
  obtain ⟨d, e, hd, he, sd, se, hm, q⟩ := h
  obtain ⟨as, r1⟩ := Dp.reads I d x v hd rx
  obtain ⟨bs, r2⟩ := Dp.reads I e y u he ry
  exact SeqAt.eq_plain r1 r2 sd se (by omega) ⟨.bl _, H, I, rfl, q⟩
theorem op_neP {X : Cx} (hu : X.A.units + 64 < cLine) : OpR X (compareOp .NotEq) (rNeP X.K) := by
  intro pins s σ H x y v u Q I rx ry h
  obtain ⟨d, e, hd, he, sd, se, hm, q⟩ := h
  obtain ⟨as, r1⟩ := Dp.reads I d x v hd rx
  obtain ⟨bs, r2⟩ := Dp.reads I e y u he ry
  exact SeqAt.ne_plain r1 r2 sd se (by omega) ⟨.bl _, H, I, rfl, q⟩
theorem rd_eq (K : PySem.W.Frag) : RD K (rEqP K) dEq := by
  intro x y H Q ow dx dy dz ok rx ry e post
  unfold dEq at e
  split at e
  · rename_i hc
    cases e
    simp only [Bool.and_eq_true, Bool.or_eq_true, dep, decide_eq_true_eq] at hc
    exact ⟨dx, dy, rx.dp hc.1.1, ry.dp hc.1.2, hc.1.1, hc.1.2, hc.2, post _ H (Same.refl H) (.bl _)⟩
  · cases e
theorem rd_ne (K : PySem.W.Frag) : RD K (rNeP K) dNe := by
  intro x y H Q ow dx dy dz ok rx ry e post
  unfold dNe at e
  split at e
  · rename_i hc
    cases e
    simp only [Bool.and_eq_true, Bool.or_eq_true, dep, decide_eq_true_eq] at hc
    exact ⟨dx, dy, rx.dp hc.1.1, ry.dp hc.1.2, hc.1.1, hc.1.2, hc.2, post _ H (Same.refl H) (.bl _)⟩
  · cases e
def dCmp (p : Int → Int → Bool) : Dt → Dt → Option Dt
  | .int i, .int j => some (.bool (p i j))
  | _, _ => none
theorem rd_cmp {K : PySem.W.Frag} {p : Int → Int → Bool} : RD K (rI0 fun i j => .bl (p i j)) (dCmp p) := by
  intro x y H Q ow dx dy dz ok rx ry e post
  unfold dCmp at e
  split at e
  · cases e
    obtain rfl := rx.int
    obtain rfl := ry.int
    exact ⟨_, _, rfl, rfl, post _ H (Same.refl H) (.bl _)⟩
  · cases e
abbrev dLt := dCmp fun i j => decide (i < j)
abbrev dLe := dCmp fun i j => decide (i ≤ j)
abbrev dGt := dCmp fun i j => decide (j < i)
abbrev dGe := dCmp fun i j => decide (j ≤ i)
def isN : Dt → Bool
  | .none => true
  | _ => false
def dIsN : Dt → Dt → Option Dt
  | x, .none => some (.bool (isN x))
  | _, _ => none
def dNotN : Dt → Dt → Option Dt
  | x, .none => some (.bool (!isN x))
  | _, _ => none
theorem RpB.isN {b : Bool} {K : PySem.W.Frag} {ow : Ow} {H : Hp} {v : V} {d : Dt} (h : RpB b K ow H v d) : decide (v = .non) = isN d := by
  cases d with
  | none => rw [h.none]; rfl
  | bool b => rw [h.bool]; rfl
  | int b => rw [h.int]; rfl
  | str b => rw [h.str]; rfl
  | list b => obtain ⟨a, vs, rfl, _⟩ := h.list; rfl
  | tuple b => obtain ⟨a, vs, rfl, _⟩ := h.tuple; rfl
  | dict b => rcases h.script with ⟨a, ns, rfl, _⟩ | ⟨a, d, rfl, _⟩ <;> rfl
theorem rd_isN (K : PySem.W.Frag) : RD K (fun x y H Q => y = .non ∧ Q (.bl (decide (x = .non))) H) dIsN := by
  intro x y H Q ow dx dy dz ok rx ry e post
  unfold dIsN at e
  split at e
  · cases e
    refine ⟨ry.none, ?_⟩
    rw [rx.isN]
    exact post _ H (Same.refl H) (.bl _)
  · cases e
theorem rd_notN (K : PySem.W.Frag) : RD K (fun x y H Q => y = .non ∧ Q (.bl (!decide (x = .non))) H) dNotN := by
  intro x y H Q ow dx dy dz ok rx ry e post
  unfold dNotN at e
  split at e
  · cases e
    refine ⟨ry.none, ?_⟩
    rw [rx.isN]
    exact post _ H (Same.refl H) (.bl _)
  · cases e
/-! ### in, not in -/
def dIn : Dt → Dt → Option Dt
  | x, .list ys => if x.plain && PyData.plainAll ys && dep x then some (.bool (ys.any fun y => PyData.eqv y x)) else none
  | x, .tuple ys => if x.plain && PyData.plainAll ys && dep x then some (.bool (ys.any fun y => PyData.eqv y x)) else none
  | .str i, .str j => some (.bool (!(Builtin.Str.occurrences j i 0 j.length 1).isEmpty))
  | _, _ => none
def dNotIn : Dt → Dt → Option Dt
  | x, .list ys => if x.plain && PyData.plainAll ys && dep x then some (.bool (!ys.any fun y => PyData.eqv y x)) else none
  | x, .tuple ys => if x.plain && PyData.plainAll ys && dep x then some (.bool (!ys.any fun y => PyData.eqv y x)) else none
  | .str i, .str j => some (.bool (!(!(Builtin.Str.occurrences j i 0 j.length 1).isEmpty)))
  | _, _ => none
def rInD (K : PySem.W.Frag) (neg : Bool) : R2 := fun x y H Q => ∃ d ds, Dp K H x d ∧ (Dp K H y (.list ds) ∨ Dp K H y (.tuple ds)) ∧ d.plain = true ∧ PyData.plainAll ds = true ∧ d.depth ≤ 60 ∧
  Q (.bl (if neg then !ds.any fun y => PyData.eqv y d else ds.any fun y => PyData.eqv y d)) H
theorem op_inD {X : Cx} (hu : X.A.units + 64 < cLine) : OpR X (compareOp .In) (rInD X.K false) := by
  intro pins s σ H x y v u Q I rx ry h
  obtain ⟨d, ds, hd, he, sd, se, hm, q⟩ := h
  obtain ⟨as, r1⟩ := Dp.reads I d x v hd rx
  rcases he with he | he
  · obtain ⟨bs, r2⟩ := Dp.reads I _ y u he ry
    exact SeqAt.in_list_data r2 r1 se sd (by omega) ⟨.bl _, H, I, rfl, q⟩
  · obtain ⟨bs, r2⟩ := Dp.reads I _ y u he ry
    exact SeqAt.in_tuple_data r2 r1 se sd (by omega) ⟨.bl _, H, I, rfl, q⟩
theorem op_notInD {X : Cx} (hu : X.A.units + 64 < cLine) : OpR X (compareOp .NotIn) (rInD X.K true) := by
  intro pins s σ H x y v u Q I rx ry h
  obtain ⟨d, ds, hd, he, sd, se, hm, q⟩ := h
  obtain ⟨as, r1⟩ := Dp.reads I d x v hd rx
  rcases he with he | he
  · obtain ⟨bs, r2⟩ := Dp.reads I _ y u he ry
    exact SeqAt.notIn_list_data r2 r1 se sd (by omega) ⟨.bl _, H, I, rfl, q⟩
  · obtain ⟨bs, r2⟩ := Dp.reads I _ y u he ry
    exact SeqAt.notIn_tuple_data r2 r1 se sd (by omega) ⟨.bl _, H, I, rfl, q⟩
def rInA (K : PySem.W.Frag) : R2 := fun x y H Q => rInD K false x y H Q ∨ (∃ i j, x = .str i ∧ y = .str j ∧ Q (.bl (!(Builtin.Str.occurrences j i 0 j.length 1).isEmpty)) H)
def rNotInA (K : PySem.W.Frag) : R2 := fun x y H Q => rInD K true x y H Q ∨ (∃ i j, x = .str i ∧ y = .str j ∧ Q (.bl (!(!(Builtin.Str.occurrences j i 0 j.length 1).isEmpty))) H)
theorem rd_in (K : PySem.W.Frag) : RD K (rInA K) dIn := by
  intro x y H Q ow dx dy dz ok rx ry e post
  unfold dIn at e
  split at e
  · split at e
    · rename_i hc
      cases e
      simp only [Bool.and_eq_true, dep, decide_eq_true_eq] at hc
      exact .inl ⟨_, _, rx.dp hc.1.1, .inl (ry.dp hc.1.2), hc.1.1, hc.1.2, hc.2, post _ H (Same.refl H) (.bl _)⟩
    · cases e
  · split at e
    · rename_i hc
      cases e
      simp only [Bool.and_eq_true, dep, decide_eq_true_eq] at hc
      exact .inl ⟨_, _, rx.dp hc.1.1, .inr (ry.dp hc.1.2), hc.1.1, hc.1.2, hc.2, post _ H (Same.refl H) (.bl _)⟩
    · cases e
  · cases e
    exact .inr ⟨_, _, rx.str, ry.str, post _ H (Same.refl H) (.bl _)⟩
  · cases e
theorem rd_notIn (K : PySem.W.Frag) : RD K (rNotInA K) dNotIn := by
  intro x y H Q ow dx dy dz ok rx ry e post
  unfold dNotIn at e
  split at e
  · split at e
    · rename_i hc
      cases e
      simp only [Bool.and_eq_true, dep, decide_eq_true_eq] at hc
      exact .inl ⟨_, _, rx.dp hc.1.1, .inl (ry.dp hc.1.2), hc.1.1, hc.1.2, hc.2, post _ H (Same.refl H) (.bl _)⟩
    · cases e
  · split at e
    · rename_i hc
      cases e
      simp only [Bool.and_eq_true, dep, decide_eq_true_eq] at hc
      exact .inl ⟨_, _, rx.dp hc.1.1, .inr (ry.dp hc.1.2), hc.1.1, hc.1.2, hc.2, post _ H (Same.refl H) (.bl _)⟩
    · cases e
  · cases e
    exact .inr ⟨_, _, rx.str, ry.str, post _ H (Same.refl H) (.bl _)⟩
  · cases e

/-! ## tests -/
def tru : Dt → Option Bool
  | .none => some false
  | .bool b => some b
  | .int i => some (i != 0)
  | .str s => if s.length ≤ lim then some ((s.length : Int) != 0) else none
  | .list xs => some (!xs.isEmpty)
  | .tuple xs => some (!xs.isEmpty)
  | .dict _ => none
def tT (K : PySem.W.Frag) (mg : Str → Option Value) (W : WX) (f : EF) : TT := fun σ H Q =>
  ∃ ρ ow r, f true ρ = some r ∧ Good K ow ρ σ H ∧ match r with
    | .val d => ∃ c, tru d = some c ∧ ∀ H', Same H H' → Q c H'
    | .exc n pl => ExP K mg W σ H n pl
def ST (G : Gc) (N : List Str) (sc : Scope) (fn : Str → Bool) (k : Nat) (e : Expr) (f : EF) : Prop :=
  ∀ X, Ctx G N sc fn k X → ∀ W, Takes X W → PT X e (tT X.K X.mg W f)
theorem isEmptyA {K : PySem.W.Frag} {O : Addr → Prop} {H : Hp} {vs : List V} {ds : List Dt} (r : RpAll K O H vs ds) : (!vs.isEmpty) = !ds.isEmpty := by
  cases r <;> rfl
theorem RpB.tru {b : Bool} {K : PySem.W.Frag} {ow : Ow} {H : Hp} {v : V} {d : Dt} {c : Bool} (h : RpB b K ow H v d) (e : tru d = some c) : TruV K v H c := by
  cases d with
  | none => rw [h.none]; cases e; rfl
  | bool b => rw [h.bool]; cases e; rfl
  | int b => rw [h.int]; cases e; rfl
  | str b =>
    rw [h.str]
    simp only [PT.tru] at e
    split at e
    · rename_i hz; cases e; exact ⟨lim_le hz, rfl⟩
    · cases e
  | list b => obtain ⟨a, vs, rfl, h1, r⟩ := h.list; cases e; exact .inl ⟨vs, SqL.of h1, (isEmptyA r).symm⟩
  | tuple b => obtain ⟨a, vs, rfl, h1, r⟩ := h.tuple; cases e; exact .inr (.inl ⟨vs, h1.sq, (isEmptyA r).symm⟩)
  | dict b => cases e
theorem tT.go {K : PySem.W.Frag} {mg : Str → Option Value} {W : WX} {f : EF} {ρ : En} {ow : Ow} {σ : L2.St} {H : Hp} {Q : Bool → Hp → Prop} {k : Dt → Option Rs} {r : Rs} (g : Good K ow ρ σ H)
    (e : bnd (f true ρ) k = some r)
    (hx : ∀ n pl, r = .exc n pl → ExP K mg W σ H n pl)
    (hv : ∀ d, k d = some r → ∃ c, tru d = some c ∧ ∀ H', Same H H' → Q c H') : tT K mg W f σ H Q := by
  cases h : f true ρ with
  | none => rw [h] at e; cases e
  | some q =>
    rw [h] at e
    cases q with
    | val d => exact ⟨ρ, ow, .val d, h, g, hv d e⟩
    | exc n pl => exact ⟨ρ, ow, .exc n pl, h, g, hx n pl (Option.some.inj e).symm⟩

section
variable {G : Gc} {N : List Str} {sc : Scope} {fn : Str → Bool} {k : Nat} {pos : Pos} {a b c : Expr} {f g h : EF}
/-- any expression whose test is its value's truth -/
theorem st_val (ha : SE G N sc fn k a f) (he : ∀ env whole, isTrue a env whole = (do let v ← whole; standAt a.pos; holding [v] (truthy v)) := by intros; rfl) : ST G N sc fn k a f := fun X C W tk =>
  PT.imp (pt_truth (ha X C W tk true) (he X.env)) fun σ H Q h => by
    obtain ⟨ρ, ow, r, he, gd, post⟩ := h
    refine ⟨ρ, ow, r, he, gd, ?_⟩
    cases r with
    | exc n pl => exact post
    | val d =>
      obtain ⟨c, hc, q⟩ := post
      exact fun v H' s' r' => ⟨c, r'.tru hc, q H' s'⟩
theorem tB_of {K : PySem.W.Frag} {mg : Str → Option Value} {W : WX} {op : Dt → Dt → Option Dt} {f g : EF} {r : R2} {σ : L2.St} {H : Hp} {Q : Bool → Hp → Prop} (hd : RD K r op) (hbl : ∀ x y z, op x y = some z → ∃ c, z = .bool c)
    (h : tT K mg W (eBin op f g) σ H Q) : tTest (tOp r (tE K mg W true f) (tE K mg W true g)) σ H Q := by
  obtain ⟨ρ, ow, rs, he, gd, post⟩ := h
  refine tOp_of (b := true) hd ⟨ρ, ow, rs, he, gd, ?_⟩
  cases rs with
  | exc n pl => exact post
  | val d =>
    obtain ⟨c, hc, q⟩ := post
    obtain ⟨c', rfl⟩ : ∃ c, d = .bool c := by
      unfold eBin at he
      cases h1 : f true ρ with
      | none => rw [h1] at he; cases he
      | some r1 =>
        cases r1 with
        | exc n pl => rw [h1] at he; cases he
        | val x =>
          cases h2 : g true ρ with
          | none => rw [h1, h2] at he; cases he
          | some r2 =>
            cases r2 with
            | exc n pl => rw [h1, h2] at he; cases he
            | val y =>
              rw [h1, h2] at he
              cases hz : op x y with
              | none => simp [bnd, hz] at he
              | some z =>
                simp [bnd, hz] at he
                subst he
                exact hbl x y z hz
    cases hc
    exact fun v H' s' r' => ⟨_, r'.bool, q H' s'⟩
/-- a comparison as a value, as a test -/
theorem se_cmp {op : CmpOp} {r : PySem.W.Frag → R2} {dop : Dt → Dt → Option Dt} (ho : ∀ X : Cx, X.A.units + 64 < cLine → OpR X (compareOp op) (r X.K)) (hd : ∀ K, RD K (r K) dop) (ha : SE G N sc fn k a f) (hb : SE G N sc fn k b g)
    (hm : behindInMarks op b = false) : SE G N sc fn k (.Compare a [op] [b] pos) (eBin dop f g) := fun X C W tk b' => PE.imp (pe_cmpR (ho X C.room.units) (ha X C W tk true) (hb X C W tk true) hm) fun σ H Q h => tOp_of (hd X.K) h
theorem st_cmp {op : CmpOp} {r : PySem.W.Frag → R2} {dop : Dt → Dt → Option Dt} (ho : ∀ X : Cx, X.A.units + 64 < cLine → OpR X (compareOp op) (r X.K)) (hd : ∀ K, RD K (r K) dop) (hbl : ∀ x y z, dop x y = some z → ∃ c, z = .bool c) (ha : SE G N sc fn k a f) (hb : SE G N sc fn k b g)
    (hm : behindInMarks op b = false) : ST G N sc fn k (.Compare a [op] [b] pos) (eBin dop f g) := fun X C W tk => PT.imp (pt_cmpR (ho X C.room.units) (ha X C W tk true) (hb X C W tk true) hm) fun σ H Q h => tB_of (hd X.K) hbl h
theorem bl_cmp {p : Int → Int → Bool} : ∀ x y z, dCmp p x y = some z → ∃ c, z = .bool c := fun x y z e => by
  unfold dCmp at e
  split at e
  · cases e; exact ⟨_, rfl⟩
  · cases e
theorem bl_eq : ∀ x y z, dEq x y = some z → ∃ c, z = .bool c := fun x y z e => by
  unfold dEq at e
  split at e
  · cases e; exact ⟨_, rfl⟩
  · cases e
theorem bl_ne : ∀ x y z, dNe x y = some z → ∃ c, z = .bool c := fun x y z e => by
  unfold dNe at e
  split at e
  · cases e; exact ⟨_, rfl⟩
  · cases e
theorem bl_isN : ∀ x y z, dIsN x y = some z → ∃ c, z = .bool c := fun x y z e => by
  unfold dIsN at e
  split at e
  · cases e; exact ⟨_, rfl⟩
  · cases e
theorem bl_notN : ∀ x y z, dNotN x y = some z → ∃ c, z = .bool c := fun x y z e => by
  unfold dNotN at e
  split at e
  · cases e; exact ⟨_, rfl⟩
  · cases e
theorem bl_in : ∀ x y z, dIn x y = some z → ∃ c, z = .bool c := fun x y z e => by
  unfold dIn at e
  split at e
  · split at e
    · cases e; exact ⟨_, rfl⟩
    · cases e
  · split at e
    · cases e; exact ⟨_, rfl⟩
    · cases e
  · cases e; exact ⟨_, rfl⟩
  · cases e
theorem bl_notIn : ∀ x y z, dNotIn x y = some z → ∃ c, z = .bool c := fun x y z e => by
  unfold dNotIn at e
  split at e
  · split at e
    · cases e; exact ⟨_, rfl⟩
    · cases e
  · split at e
    · cases e; exact ⟨_, rfl⟩
    · cases e
  · cases e; exact ⟨_, rfl⟩
  · cases e
theorem se_eq (ha : SE G N sc fn k a f) (hb : SE G N sc fn k b g) : SE G N sc fn k (.Compare a [.Eq] [b] pos) (eBin dEq f g) := se_cmp (r := rEqP) (fun _ hu => op_eqP hu) rd_eq ha hb (nomark _)
theorem st_eq (ha : SE G N sc fn k a f) (hb : SE G N sc fn k b g) : ST G N sc fn k (.Compare a [.Eq] [b] pos) (eBin dEq f g) := st_cmp (r := rEqP) (fun _ hu => op_eqP hu) rd_eq bl_eq ha hb (nomark _)
theorem se_ne (ha : SE G N sc fn k a f) (hb : SE G N sc fn k b g) : SE G N sc fn k (.Compare a [.NotEq] [b] pos) (eBin dNe f g) := se_cmp (r := rNeP) (fun _ hu => op_neP hu) rd_ne ha hb (nomark _)
theorem st_ne (ha : SE G N sc fn k a f) (hb : SE G N sc fn k b g) : ST G N sc fn k (.Compare a [.NotEq] [b] pos) (eBin dNe f g) := st_cmp (r := rNeP) (fun _ hu => op_neP hu) rd_ne bl_ne ha hb (nomark _)
theorem se_lt (ha : SE G N sc fn k a f) (hb : SE G N sc fn k b g) : SE G N sc fn k (.Compare a [.Lt] [b] pos) (eBin dLt f g) := se_cmp (r := fun _ => _) (fun _ hu => op_lt) (fun _ => rd_cmp) ha hb (nomark _)
theorem st_lt (ha : SE G N sc fn k a f) (hb : SE G N sc fn k b g) : ST G N sc fn k (.Compare a [.Lt] [b] pos) (eBin dLt f g) := st_cmp (r := fun _ => _) (fun _ hu => op_lt) (fun _ => rd_cmp) bl_cmp ha hb (nomark _)
theorem se_le (ha : SE G N sc fn k a f) (hb : SE G N sc fn k b g) : SE G N sc fn k (.Compare a [.LtE] [b] pos) (eBin dLe f g) := se_cmp (r := fun _ => _) (fun _ hu => op_le) (fun _ => rd_cmp) ha hb (nomark _)
theorem st_le (ha : SE G N sc fn k a f) (hb : SE G N sc fn k b g) : ST G N sc fn k (.Compare a [.LtE] [b] pos) (eBin dLe f g) := st_cmp (r := fun _ => _) (fun _ hu => op_le) (fun _ => rd_cmp) bl_cmp ha hb (nomark _)
theorem se_gt (ha : SE G N sc fn k a f) (hb : SE G N sc fn k b g) : SE G N sc fn k (.Compare a [.Gt] [b] pos) (eBin dGt f g) := se_cmp (r := fun _ => _) (fun _ hu => op_gt) (fun _ => rd_cmp) ha hb (nomark _)
theorem st_gt (ha : SE G N sc fn k a f) (hb : SE G N sc fn k b g) : ST G N sc fn k (.Compare a [.Gt] [b] pos) (eBin dGt f g) := st_cmp (r := fun _ => _) (fun _ hu => op_gt) (fun _ => rd_cmp) bl_cmp ha hb (nomark _)
theorem se_ge (ha : SE G N sc fn k a f) (hb : SE G N sc fn k b g) : SE G N sc fn k (.Compare a [.GtE] [b] pos) (eBin dGe f g) := se_cmp (r := fun _ => _) (fun _ hu => op_ge) (fun _ => rd_cmp) ha hb (nomark _)
theorem st_ge (ha : SE G N sc fn k a f) (hb : SE G N sc fn k b g) : ST G N sc fn k (.Compare a [.GtE] [b] pos) (eBin dGe f g) := st_cmp (r := fun _ => _) (fun _ hu => op_ge) (fun _ => rd_cmp) bl_cmp ha hb (nomark _)
theorem se_isN (ha : SE G N sc fn k a f) (hb : SE G N sc fn k b g) : SE G N sc fn k (.Compare a [.Is] [b] pos) (eBin dIsN f g) := se_cmp (r := fun _ => _) (fun _ hu => op_isN) rd_isN ha hb (nomark _)
theorem st_isN (ha : SE G N sc fn k a f) (hb : SE G N sc fn k b g) : ST G N sc fn k (.Compare a [.Is] [b] pos) (eBin dIsN f g) := st_cmp (r := fun _ => _) (fun _ hu => op_isN) rd_isN bl_isN ha hb (nomark _)
theorem se_notN (ha : SE G N sc fn k a f) (hb : SE G N sc fn k b g) : SE G N sc fn k (.Compare a [.IsNot] [b] pos) (eBin dNotN f g) := se_cmp (r := fun _ => _) (fun _ hu => op_notN) rd_notN ha hb (nomark _)
theorem st_notN (ha : SE G N sc fn k a f) (hb : SE G N sc fn k b g) : ST G N sc fn k (.Compare a [.IsNot] [b] pos) (eBin dNotN f g) := st_cmp (r := fun _ => _) (fun _ hu => op_notN) rd_notN bl_notN ha hb (nomark _)
theorem se_in (ha : SE G N sc fn k a f) (hb : SE G N sc fn k b g) (hm : behindInMarks .In b = false := by rfl) : SE G N sc fn k (.Compare a [.In] [b] pos) (eBin dIn f g) := se_cmp (r := rInA) (fun _ hu => (op_inD hu).or op_in_str) rd_in ha hb hm
theorem st_in (ha : SE G N sc fn k a f) (hb : SE G N sc fn k b g) (hm : behindInMarks .In b = false := by rfl) : ST G N sc fn k (.Compare a [.In] [b] pos) (eBin dIn f g) := st_cmp (r := rInA) (fun _ hu => (op_inD hu).or op_in_str) rd_in bl_in ha hb hm
theorem se_notIn (ha : SE G N sc fn k a f) (hb : SE G N sc fn k b g) (hm : behindInMarks .NotIn b = false := by rfl) : SE G N sc fn k (.Compare a [.NotIn] [b] pos) (eBin dNotIn f g) := se_cmp (r := rNotInA) (fun _ hu => (op_notInD hu).or op_notin_str) rd_notIn ha hb hm
theorem st_notIn (ha : SE G N sc fn k a f) (hb : SE G N sc fn k b g) (hm : behindInMarks .NotIn b = false := by rfl) : ST G N sc fn k (.Compare a [.NotIn] [b] pos) (eBin dNotIn f g) := st_cmp (r := rNotInA) (fun _ hu => (op_notInD hu).or op_notin_str) rd_notIn bl_notIn ha hb hm
/-! ### a <= b <= c (ints) -/
def eChain (f g h : EF) : EF := fun _ ρ => bnd (f true ρ) fun x => bnd (g true ρ) fun y => match x, y with
  | .int i, .int j => if i ≤ j then bnd (h true ρ) fun z => (match z with | .int l => some (.val (.bool (decide (j ≤ l)))) | _ => none) else some (.val (.bool false))
  | _, _ => none
theorem tChain_of {K : PySem.W.Frag} {mg : Str → Option Value} {W : WX} {b : Bool} {f g h : EF} {σ : L2.St} {H : Hp} {Q : VK} (hh : tE K mg W b (eChain f g h) σ H Q) :
    tChain (rI0 fun i j => .bl (decide (i ≤ j))) (rI0 fun i j => .bl (decide (i ≤ j))) (tE K mg W true f) (tE K mg W true g) (tE K mg W true h) σ H Q := by
  obtain ⟨ρ, ow, rs, he, gd, post⟩ := hh
  refine tE.go gd he (fun n pl e => by subst e; exact post) fun d hd1 v H1 s1 r1 => ?_
  refine tE.go (gd.same s1) hd1 (fun n pl e => by subst e; exact post.same s1) fun d2 hd2 v2 H2 s2 r2 => ?_
  split at hd2
  · rename_i i j
    obtain rfl := r1.int
    obtain rfl := r2.int
    refine ⟨i, j, rfl, rfl, decide (i ≤ j), rfl, ?_⟩
    by_cases hij : i ≤ j
    · rw [if_pos (decide_eq_true hij)]
      rw [if_pos hij] at hd2
      refine tE.go (gd.same (s1.trans s2)) hd2 (fun n pl e => by subst e; exact post.same (s1.trans s2)) fun d3 hd3 v3 H3 s3 r3 => ?_
      split at hd3
      · cases hd3
        obtain rfl := r3.int
        exact ⟨j, _, rfl, rfl, post _ H3 ((s1.trans s2).trans s3) (.inl (.bl _))⟩
      · cases hd3
    · rw [if_neg (by rw [decide_eq_false hij]; decide)]
      rw [if_neg hij] at hd2
      cases hd2
      exact post _ H2 (s1.trans s2) (.inl (.bl _))
  · cases hd2
theorem chain_bl {f g h : EF} {b : Bool} {ρ : En} {d : Dt} (he : eChain f g h b ρ = some (.val d)) : ∃ c, d = .bool c := by
  unfold eChain at he
  cases h1 : f true ρ with
  | none => rw [h1] at he; cases he
  | some r1 =>
    cases r1 with
    | exc n pl => rw [h1] at he; cases he
    | val x =>
      rw [h1] at he
      cases h2 : g true ρ with
      | none => rw [h2] at he; cases he
      | some r2 =>
        cases r2 with
        | exc n pl => rw [h2] at he; cases he
        | val y =>
          rw [h2] at he
          simp only [bnd] at he
          split at he
          · split at he
            · cases h3 : h true ρ with
              | none => rw [h3] at he; cases he
              | some r3 =>
                cases r3 with
                | exc n pl => rw [h3] at he; cases he
                | val z =>
                  rw [h3] at he
                  simp only at he
                  split at he
                  · cases he; exact ⟨_, rfl⟩
                  · cases he
            · cases he; exact ⟨_, rfl⟩
          · cases he
theorem se_chain (ha : SE G N sc fn k a f) (hb : SE G N sc fn k b g) (hc : SE G N sc fn k c h) (hm : lastMarks [.LtE, .LtE] [b, c] = false := by with_unfolding_all rfl) : SE G N sc fn k (.Compare a [.LtE, .LtE] [b, c] pos) (eChain f g h) := fun X C W tk b' =>
  PE.imp (pe_chain op_le op_le (ha X C W tk true) (hb X C W tk true) (hc X C W tk true) hm) fun σ H Q h => tChain_of h
theorem st_chain (ha : SE G N sc fn k a f) (hb : SE G N sc fn k b g) (hc : SE G N sc fn k c h) (hm : lastMarks [.LtE, .LtE] [b, c] = false := by with_unfolding_all rfl) : ST G N sc fn k (.Compare a [.LtE, .LtE] [b, c] pos) (eChain f g h) := fun X C W tk =>
  PT.imp (pt_chain op_le op_le (ha X C W tk true) (hb X C W tk true) (hc X C W tk true) hm) fun σ H Q hh => by
    obtain ⟨ρ, ow, rs, he, gd, post⟩ := hh
    refine tChain_of (b := true) ⟨ρ, ow, rs, he, gd, ?_⟩
    cases rs with
    | exc n pl => exact post
    | val d =>
      obtain ⟨c, hc, q⟩ := post
      obtain ⟨c', rfl⟩ := chain_bl he
      cases hc
      exact fun v H' s' r' => ⟨_, r'.bool, q H' s'⟩
/-! ### and, or, not, if-else -/
def eAnd (f g : EF) : EF := fun b ρ => bnd (f true ρ) fun x => match x with
  | .bool true => g b ρ
  | .bool false => some (.val (.bool false))
  | _ => none
def eOr (f g : EF) : EF := fun b ρ => bnd (f true ρ) fun x => match x with
  | .bool true => some (.val (.bool true))
  | .bool false => g b ρ
  | _ => none
def eAndT (f g : EF) : EF := fun b ρ => bnd (f true ρ) fun x => match tru x with
  | some true => g b ρ
  | some false => some (.val (.bool false))
  | none => none
def eOrT (f g : EF) : EF := fun b ρ => bnd (f true ρ) fun x => match tru x with
  | some true => some (.val (.bool true))
  | some false => g b ρ
  | none => none
def eNot (f : EF) : EF := fun _ ρ => bnd (f true ρ) fun x => (tru x).map fun c => .val (.bool (!c))
def eIf (c f g : EF) : EF := fun b ρ => bnd (c true ρ) fun x => match tru x with
  | some true => f b ρ
  | some false => g b ρ
  | none => none
variable {rest : List Expr}
theorem se_one {op : BoolOp} (ha : SE G N sc fn k a f) : SE G N sc fn k (.BoolOp op [a] pos) f := fun X C W tk b' => pe_one (ha X C W tk b')
theorem se_and (ha : SE G N sc fn k a f) (hb : SE G N sc fn k (.BoolOp .And (b :: rest) pos) g) : SE G N sc fn k (.BoolOp .And (a :: b :: rest) pos) (eAnd f g) := fun X C W tk b' =>
  PE.imp (pe_and (ha X C W tk true) (hb X C W tk b')) fun σ H Q h => by
    obtain ⟨ρ, ow, rs, he, gd, post⟩ := h
    refine tE.go gd he (fun n pl e => by subst e; exact post) fun d hd1 v H1 s1 r1 => ?_
    split at hd1
    · obtain rfl := r1.bool
      refine ⟨true, rfl, ?_⟩
      rw [if_pos rfl]
      refine ⟨ρ, ow, rs, hd1, gd.same s1, ?_⟩
      cases rs with
      | val d => exact fun v' H' s' r' => post v' H' (s1.trans s') r'
      | exc n pl => exact post.same s1
    · obtain rfl := r1.bool
      cases hd1
      refine ⟨false, rfl, ?_⟩
      rw [if_neg Bool.false_ne_true]
      exact post _ H1 s1 (.inl (.bl _))
    · cases hd1
theorem se_or (ha : SE G N sc fn k a f) (hb : SE G N sc fn k (.BoolOp .Or (b :: rest) pos) g) : SE G N sc fn k (.BoolOp .Or (a :: b :: rest) pos) (eOr f g) := fun X C W tk b' =>
  PE.imp (pe_or (ha X C W tk true) (hb X C W tk b')) fun σ H Q h => by
    obtain ⟨ρ, ow, rs, he, gd, post⟩ := h
    refine tE.go gd he (fun n pl e => by subst e; exact post) fun d hd1 v H1 s1 r1 => ?_
    split at hd1
    · obtain rfl := r1.bool
      cases hd1
      refine ⟨true, rfl, ?_⟩
      rw [if_pos rfl]
      exact post _ H1 s1 (.inl (.bl _))
    · obtain rfl := r1.bool
      refine ⟨false, rfl, ?_⟩
      rw [if_neg Bool.false_ne_true]
      refine ⟨ρ, ow, rs, hd1, gd.same s1, ?_⟩
      cases rs with
      | val d => exact fun v' H' s' r' => post v' H' (s1.trans s') r'
      | exc n pl => exact post.same s1
    · cases hd1
theorem se_not (ha : SE G N sc fn k a f) : SE G N sc fn k (.UnaryOp .Not a pos) (eNot f) := fun X C W tk b' =>
  PE.imp (pe_notT (ha X C W tk true)) fun σ H Q h => by
    obtain ⟨ρ, ow, rs, he, gd, post⟩ := h
    refine tE.go gd he (fun n pl e => by subst e; exact post) fun d hd1 v H1 s1 r1 => ?_
    cases hc : tru d with
    | none => rw [hc] at hd1; cases hd1
    | some c =>
      rw [hc] at hd1
      cases hd1
      exact ⟨c, r1.tru hc, post _ H1 s1 (.inl (.bl _))⟩
theorem se_if (hc : ST G N sc fn k c h) (ha : SE G N sc fn k a f) (hb : SE G N sc fn k b g) : SE G N sc fn k (.IfExp c a b pos) (eIf h f g) := fun X C W tk b' =>
  PE.imp (pe_ifExp (hc X C W tk) (ha X C W tk b') (hb X C W tk b')) fun σ H Q h => by
    obtain ⟨ρ, ow, rs, he, gd, post⟩ := h
    refine tT.go gd he (fun n pl e => by subst e; exact post) fun d hd1 => ?_
    split at hd1
    · rename_i hc
      refine ⟨true, hc, fun H1 s1 => ?_⟩
      rw [if_pos rfl]
      refine ⟨ρ, ow, rs, hd1, gd.same s1, ?_⟩
      cases rs with
      | val d => exact fun v' H' s' r' => post v' H' (s1.trans s') r'
      | exc n pl => exact post.same s1
    · rename_i hc
      refine ⟨false, hc, fun H1 s1 => ?_⟩
      rw [if_neg Bool.false_ne_true]
      refine ⟨ρ, ow, rs, hd1, gd.same s1, ?_⟩
      cases rs with
      | val d => exact fun v' H' s' r' => post v' H' (s1.trans s') r'
      | exc n pl => exact post.same s1
    · cases hd1
/-! as tests -/
def SW (G : Gc) (N : List Str) (sc : Scope) (fn : Str → Bool) (k : Nat) (e : Expr) (f : EF) : Prop :=
  ∀ X, Ctx G N sc fn k X → ∀ W, Takes X W → PW X e (tT X.K X.mg W f)
theorem PW.imp {X : Cx} {e : Expr} {t t' : TT} (h : PW X e t) (i : ∀ σ H Q, t' σ H Q → t σ H Q) : PW X e t' := ⟨fun wh pins s σ H Q I q => h.run wh pins s σ H Q I (i σ H Q q)⟩
theorem st_w {e : Expr} (h : SW G N sc fn k e f) : ST G N sc fn k e f := fun X C W tk => (h X C W tk).pt
theorem sw_and1 (ha : ST G N sc fn k a f) : SW G N sc fn k (.BoolOp .And [a] pos) f := fun X C W tk => pw_and1 (ha X C W tk)
theorem sw_or1 (ha : ST G N sc fn k a f) : SW G N sc fn k (.BoolOp .Or [a] pos) f := fun X C W tk => pw_or1 (ha X C W tk)
theorem sw_and (ha : ST G N sc fn k a f) (hb : SW G N sc fn k (.BoolOp .And (b :: rest) pos) g) : SW G N sc fn k (.BoolOp .And (a :: b :: rest) pos) (eAndT f g) := fun X C W tk =>
  PW.imp (pw_and (ha X C W tk) (hb X C W tk)) fun σ H Q h => by
    obtain ⟨ρ, ow, rs, he, gd, post⟩ := h
    refine tT.go gd he (fun n pl e => by subst e; exact post) fun d hd1 => ?_
    split at hd1
    · rename_i hc
      refine ⟨true, hc, fun H1 s1 => ?_⟩
      rw [if_pos rfl]
      refine ⟨ρ, ow, rs, hd1, gd.same s1, ?_⟩
      cases rs with
      | val d => obtain ⟨c, hc, q⟩ := post; exact ⟨c, hc, fun H' s' => q H' (s1.trans s')⟩
      | exc n pl => exact post.same s1
    · rename_i hc
      cases hd1
      obtain ⟨c, hc', q⟩ := post
      cases hc'
      exact ⟨false, hc, fun H1 s1 => by rw [if_neg Bool.false_ne_true]; exact q H1 s1⟩
    · cases hd1
theorem sw_or (ha : ST G N sc fn k a f) (hb : SW G N sc fn k (.BoolOp .Or (b :: rest) pos) g) : SW G N sc fn k (.BoolOp .Or (a :: b :: rest) pos) (eOrT f g) := fun X C W tk =>
  PW.imp (pw_or (ha X C W tk) (hb X C W tk)) fun σ H Q h => by
    obtain ⟨ρ, ow, rs, he, gd, post⟩ := h
    refine tT.go gd he (fun n pl e => by subst e; exact post) fun d hd1 => ?_
    split at hd1
    · rename_i hc
      cases hd1
      obtain ⟨c, hc', q⟩ := post
      cases hc'
      exact ⟨true, hc, fun H1 s1 => by rw [if_pos rfl]; exact q H1 s1⟩
    · rename_i hc
      refine ⟨false, hc, fun H1 s1 => ?_⟩
      rw [if_neg Bool.false_ne_true]
      refine ⟨ρ, ow, rs, hd1, gd.same s1, ?_⟩
      cases rs with
      | val d => obtain ⟨c, hc, q⟩ := post; exact ⟨c, hc, fun H' s' => q H' (s1.trans s')⟩
      | exc n pl => exact post.same s1
    · cases hd1
theorem st_not (ha : ST G N sc fn k a f) : ST G N sc fn k (.UnaryOp .Not a pos) (eNot f) := fun X C W tk =>
  PT.imp (pt_not (ha X C W tk)) fun σ H Q h => by
    obtain ⟨ρ, ow, rs, he, gd, post⟩ := h
    refine tT.go gd he (fun n pl e => by subst e; exact post) fun d hd1 => ?_
    cases hc : tru d with
    | none => rw [hc] at hd1; cases hd1
    | some c =>
      rw [hc] at hd1
      cases hd1
      obtain ⟨c', hc', q⟩ := post
      cases hc'
      exact ⟨c, rfl, fun H1 s1 => q H1 s1⟩
end
end PT

namespace PT
open PySem PySem.Spec PyProof.Rows L2

/-! ## argument lists, displays -/
inductive Rss where
  | vals (ds : List Dt)
  | exc (n : Str) (pl : Option Dt)
abbrev AF := En → Option Rss
def bndA (x : Option Rss) (k : List Dt → Option Rs) : Option Rs :=
  match x with
  | some (.vals d) => k d
  | some (.exc n pl) => some (.exc n pl)
  | none => none
def aNil : AF := fun _ => some (.vals [])
def aCons (f : EF) (g : AF) : AF := fun ρ => match f false ρ with
  | some (.val d) => (match g ρ with
    | some (.vals ds) => some (.vals (d :: ds))
    | y => y)
  | some (.exc n pl) => some (.exc n pl)
  | none => none
def tA (K : PySem.W.Frag) (mg : Str → Option Value) (W : WX) (f : AF) : TA := fun σ H Q =>
  ∃ ρ ow r, f ρ = some r ∧ Good K ow ρ σ H ∧ match r with
    | .vals ds => ∀ vs H', Same H H' → RpAll K (OA ow) H' vs ds → Q vs H'
    | .exc n pl => ExP K mg W σ H n pl
def SA (G : Gc) (N : List Str) (sc : Scope) (fn : Str → Bool) (k : Nat) (es : List Expr) (f : AF) : Prop :=
  ∀ X, Ctx G N sc fn k X → ∀ W, Takes X W → PA X es (tA X.K X.mg W f)
theorem tA.go {K : PySem.W.Frag} {mg : Str → Option Value} {W : WX} {f : AF} {ρ : En} {ow : Ow} {σ : L2.St} {H : Hp} {Q : List V → Hp → Prop} {k : List Dt → Option Rs} {r : Rs} (g : Good K ow ρ σ H)
    (e : bndA (f ρ) k = some r)
    (hx : ∀ n pl, r = .exc n pl → ExP K mg W σ H n pl)
    (hv : ∀ ds, k ds = some r → ∀ vs H', Same H H' → RpAll K (OA ow) H' vs ds → Q vs H') : tA K mg W f σ H Q := by
  cases h : f ρ with
  | none => rw [h] at e; cases e
  | some q =>
    rw [h] at e
    cases q with
    | vals d => exact ⟨ρ, ow, .vals d, h, g, fun v H' s q => hv d e v H' s q⟩
    | exc n pl => exact ⟨ρ, ow, .exc n pl, h, g, hx n pl (Option.some.inj e).symm⟩
abbrev GL (sc : Scope) (x : Str) : Prop := sc.names.lookup x = some .globalImplicit
abbrev NS (e : Expr) : Prop := ∀ (es : List Expr) (env : PySem.Env), starEach (e :: es) env = (false, eval e env) :: starEach es env
theorem noStar : ∀ (es : List Expr) (env : PySem.Env) (pos : Pos), (∀ e ∈ es, NS e) → (backTo pos (starEach es env)).any (·.1) = false
  | [], env, pos, _ => rfl
  | e :: es, env, pos, h => by
    rw [h e List.mem_cons_self es env]
    have ih := noStar es env pos fun x hx => h x (List.mem_cons_of_mem _ hx)
    simpa [backTo] using ih
structure SAs (G : Gc) (N : List Str) (sc : Scope) (fn : Str → Bool) (k : Nat) (es : List Expr) (f : AF) : Prop where
  pa : SA G N sc fn k es f
  ns : ∀ e ∈ es, NS e
section
variable {G : Gc} {N : List Str} {sc : Scope} {fn : Str → Bool} {k : Nat} {pos p p2 : Pos} {a b c : Expr} {f g h : EF} {es : List Expr} {ar : AF}
theorem sa_nil : SAs G N sc fn k [] aNil := ⟨fun X C W tk => PA.imp pa_nil fun σ H Q h => by
  obtain ⟨ρ, ow, rs, he, gd, post⟩ := h
  cases he
  exact post [] H (Same.refl H) .nil, fun _ z => nomatch z⟩
theorem sa_cons (ha : SE G N sc fn k a f) (hr : SAs G N sc fn k es ar) (ns : NS a := by intro _ _; rfl) : SAs G N sc fn k (a :: es) (aCons f ar) := ⟨fun X C W tk => PA.imp (pa_cons (ha X C W tk false) (hr.pa X C W tk) (ns es X.env)) fun σ H Q h => by
  obtain ⟨ρ, ow, rs, he, gd, post⟩ := h
  unfold aCons at he
  cases h1 : f false ρ with
  | none => rw [h1] at he; cases he
  | some r1 =>
    cases r1 with
    | exc n pl => rw [h1] at he; cases he; exact ⟨ρ, ow, _, h1, gd, post⟩
    | val d =>
      rw [h1] at he
      refine ⟨ρ, ow, _, h1, gd, fun v H1 s1 q1 => ?_⟩
      cases h2 : ar ρ with
      | none => rw [h2] at he; cases he
      | some r2 =>
        rw [h2] at he
        cases r2 with
        | exc n pl => cases he; exact ⟨ρ, ow, _, h2, gd.same s1, ExP.same post s1⟩
        | vals ds =>
          cases he
          exact ⟨ρ, ow, _, h2, gd.same s1, fun vs H2 s2 q2 => post _ H2 (s1.trans s2) (.cons (Rp.same s2 q1.rp) q2)⟩,
  fun e he => (List.mem_cons.mp he).elim (fun z => by rw [z]; exact ns) (hr.ns e)⟩
/-- one borrowed argument -/
def a1 (f : EF) : AF := fun ρ => match f true ρ with
  | some (.val d) => some (.vals [d])
  | some (.exc n pl) => some (.exc n pl)
  | none => none
def eTup (g : AF) : EF := fun _ ρ => bndA (g ρ) fun ds => if ds.length ≤ lim then some (.val (.tuple ds)) else none
def eLst (g : AF) : EF := fun _ ρ => bndA (g ρ) fun ds => if ds.length ≤ lim then some (.val (.list ds)) else none
def tTupF (t : TA) : TE := fun σ H Q => t σ H fun xs H1 => xs.length ≤ sizeLine ∧ ∀ p o, H1 p = none → o.dict = none → Q (.ref p) (upd H1 p (.frz o (.tup xs)))
theorem pe_tupF {X : Cx} {t : TA} {x1} (h : PA X es t) : PE X (.Tuple es x1 pos) (tTupF t) := by
  refine ⟨fun pins s σ H Q I hq => ?_⟩
  refine wpAny_Tuple_spliced (thn (h.run pos pins s σ H _ I hq) fun us s1 ⟨xs, H1, I1, r, z, q⟩ => ⟨by rw [← r.length]; exact z, ?_⟩)
  have hf : H1 s1.heap.objs.size = none := I1.hok.fresh (Nat.le_refl _)
  exact ⟨.ref s1.heap.objs.size, _, layT I1 r z s1.toks, rfl, q _ _ hf rfl⟩
theorem se_tup {x1 : Nat} (h : SAs G N sc fn k es ar) : SE G N sc fn k (.Tuple es x1 pos) (eTup ar) := fun X C W tk b' => PE.imp (pe_tupF (h.pa X C W tk)) fun σ H Q h => by
  obtain ⟨ρ, ow, rs, he, gd, post⟩ := h
  refine tA.go gd he (fun n pl e => by subst e; exact post) fun ds hd vs H1 s1 r1 => ?_
  split at hd
  · rename_i hz
    cases hd
    exact ⟨by rw [r1.length]; exact lim_le hz, fun p o hp ho => post _ _ (s1.trans (Same.upd hp)) (.inl (.tup ⟨o, upd_same, ho⟩ (RpAll.same (Same.upd hp) r1)))⟩
  · cases hd
theorem se_lst (h : SAs G N sc fn k es ar) : SE G N sc fn k (.List es pos) (eLst ar) := fun X C W tk b' => PE.imp (pe_lst (h.pa X C W tk)) fun σ H Q h => by
  obtain ⟨ρ, ow, rs, he, gd, post⟩ := h
  refine tA.go gd he (fun n pl e => by subst e; exact post) fun ds hd vs H1 s1 r1 => ?_
  split at hd
  · rename_i hz
    cases hd
    exact ⟨by rw [r1.length]; exact lim_le hz, fun p hp => post _ _ (s1.trans (Same.upd hp)) (.inl (.lst upd_same ((gd.ok.same s1).new hp) (RpAll.same (Same.upd hp) r1)))⟩
  · cases hd

/-! ## subscripts and slices -/
def dIx : Dt → Dt → Option Dt
  | .list xs, .int i => atI xs i
  | .tuple xs, .int i => atI xs i
  | .dict kv, .int i => match atI kv i with
    | some (.int j, _) => some (.int j)
    | _ => none
  | _, _ => none
theorem atI_some {α : Type} {xs : List α} {i : Int} {d : α} (h : atI xs i = some d) : ∃ j, ixN xs.length i = some j ∧ xs[j]? = some d := by
  unfold atI at h
  cases e : ixN xs.length i with
  | none => rw [e] at h; cases h
  | some j => rw [e] at h; exact ⟨j, rfl, h⟩
theorem atI_of {α : Type} {xs : List α} {i : Int} {j : Nat} {d : α} (h : ixN xs.length i = some j) (h2 : xs[j]? = some d) : atI xs i = some d := by
  unfold atI
  rw [h]
  exact h2
def rIxA (K : PySem.W.Frag) : R2 := fun x y H Q => rIxL K x y H Q ∨ rIxT K x y H Q
theorem rd_ix (K : PySem.W.Frag) : RD K (rIxA K) dIx := by
  intro x y H Q ow dx dy dz ok rx ry e post
  unfold dIx at e
  split at e
  · obtain ⟨a, vs, rfl, h1, r1⟩ := rx.list
    obtain rfl := ry.int
    obtain ⟨j, hj, hd⟩ := atI_some e
    obtain ⟨v, hv, rv⟩ := r1.get hd
    exact .inl ⟨a, vs, _, v, rfl, rfl, SqL.of h1, atI_of (by rw [r1.length]; exact hj) hv, post v H (Same.refl H) rv⟩
  · obtain ⟨a, vs, rfl, h1, r1⟩ := rx.tuple
    obtain rfl := ry.int
    obtain ⟨j, hj, hd⟩ := atI_some e
    obtain ⟨v, hv, rv⟩ := r1.get hd
    exact .inr ⟨a, vs, _, v, rfl, rfl, h1.sq, atI_of (by rw [r1.length]; exact hj) hv, post v H (Same.refl H) rv⟩
  · rename_i kv i
    split at e
    · rename_i j0 w0 e1
      cases e
      obtain ⟨j, hj, hd⟩ := atI_some e1
      obtain rfl := ry.int
      rcases rx.script with ⟨a, ns, rfl, rfl, h1⟩ | ⟨a, d, _, rfl, _⟩
      · rw [List.getElem?_map] at hd
        rw [List.length_map] at hj
        cases e2 : ns[j]? with
        | none => rw [e2] at hd; cases hd
        | some n =>
          rw [e2] at hd
          cases hd
          exact .inl ⟨a, ns.map V.int, _, .int _, rfl, rfl, h1.sq, atI_of (by rw [List.length_map]; exact hj) (by rw [List.getElem?_map, e2]; rfl), post _ H (Same.refl H) (.int _)⟩
      · cases j with
        | zero => cases hd
        | succ j => cases hd
    · cases e
  · cases e
theorem se_ix (ha : SE G N sc fn k a f) (hb : SE G N sc fn k b g) (hs : PlainIx b := by intro _ _; rfl) : SE G N sc fn k (.Subscript a b pos) (eBin dIx f g) := fun X C W tk b' =>
  PE.imp (pe_ix (ix_list.or ix_tup) (ha X C W tk true) (hb X C W tk true) hs) fun σ H Q h => tOp_of (rd_ix X.K) h
/-- a part of a slice -/
abbrev OF := En → Option (Option Int × Option Rs)
def oNo : En → Option (Option Int) := fun _ => some none
def oSo (f : EF) : En → Option (Option Int) := fun ρ => match f true ρ with
  | some (.val (.int i)) => some (some i)
  | _ => none
def tO (K : PySem.W.Frag) (f : En → Option (Option Int)) : TO := fun σ H Q => ∃ ρ ow o, f ρ = some o ∧ Good K ow ρ σ H ∧ ∀ H', Same H H' → Q o H'
def SO (G : Gc) (N : List Str) (sc : Scope) (fn : Str → Bool) (k : Nat) (e : Option Expr) (f : En → Option (Option Int)) : Prop :=
  ∀ X, Ctx G N sc fn k X → ∀ W, Takes X W → PO X e (tO X.K f)
theorem PO.imp {X : Cx} {e : Option Expr} {t t' : TO} (h : PO X e t) (i : ∀ σ H Q, t' σ H Q → t σ H Q) : PO X e t' := ⟨fun pins s σ H Q I q => h.run pins s σ H Q I (i σ H Q q)⟩
theorem so_none : SO G N sc fn k none oNo := fun X C W tk => PO.imp po_none fun σ H Q h => by
  obtain ⟨ρ, ow, o, he, gd, post⟩ := h
  cases he
  exact post H (Same.refl H)
theorem so_some (ha : SE G N sc fn k a f) : SO G N sc fn k (some a) (oSo f) := fun X C W tk => PO.imp (po_some (ha X C W tk true)) fun σ H Q h => by
  obtain ⟨ρ, ow, o, he, gd, post⟩ := h
  unfold oSo at he
  split at he
  · rename_i i hi
    cases he
    exact ⟨ρ, ow, _, hi, gd, fun v H' s' r' => ⟨i, r'.int, post H' s'⟩⟩
  · cases he
def cut {α : Type} (xs : List α) (lo hi : Option Int) : List α := (xs.drop (HT.sIx xs.length 0 lo)).take (HT.sIx xs.length xs.length hi - HT.sIx xs.length 0 lo)
def dSl : Dt → Option Int → Option Int → Option Dt
  | .list xs, lo, hi => some (.list (cut xs lo hi))
  | .tuple xs, lo, hi => some (.tuple (cut xs lo hi))
  | .str z, lo, hi => if z.length ≤ lim then some (.str (cutS z lo hi)) else none
  | _, _, _ => none
def eSl (f : EF) (lo hi : En → Option (Option Int)) : EF := fun _ ρ => bnd (f true ρ) fun x => match lo ρ, hi ρ with
  | some l, some u => (dSl x l u).map .val
  | _, _ => none
def rSlF (K : PySem.W.Frag) : V → Option Int → Option Int → Hp → VK → Prop := fun x lo hi H Q => ∃ a xs, x = .ref a ∧ SqT K H a xs ∧
  (HT.sIx xs.length 0 lo = 0 ∧ HT.sIx xs.length xs.length hi = xs.length → Q (.ref a) H) ∧ (¬ (HT.sIx xs.length 0 lo = 0 ∧ HT.sIx xs.length xs.length hi = xs.length) → ∀ p o, H p = none → o.dict = none → Q (.ref p) (upd H p (.frz o (.tup (cutV xs lo hi)))))
theorem sl_tupF {X : Cx} : SlR X (rSlF X.K) := by
  intro pins s σ H x v vl vu lo hi sl Q I rx hs pl pu h
  obtain ⟨a, xs, rfl, hx, q1, q2⟩ := h
  cases rx
  obtain ⟨its, r, ht, hz⟩ := I.tuple hx
  have hlen : its.toArray.size = xs.length := by rw [List.size_toArray]; exact r.length.symm
  refine ⟨"tuple", _, PyProof.Rows.slot_tuple_getitem.lookup, ht.typeIs, ?_⟩
  by_cases hw : HT.sIx xs.length 0 lo = 0 ∧ HT.sIx xs.length xs.length hi = xs.length
  · exact getItem_tuple_whole ht hs pl pu (by rw [hlen]; exact hw) ⟨.ref a, H, I, rfl, q1 hw⟩
  · refine HT.getItem_tuple_cut ht hs pl pu (by rw [hlen]; exact hw) ?_ (by rw [hlen]; exact hz)
    rw [hlen]
    exact ⟨.ref s.heap.objs.size, _, layT I ((r.drop (HT.sIx xs.length 0 lo)).take (HT.sIx xs.length xs.length hi - HT.sIx xs.length 0 lo)) (Nat.le_trans (cutV_length xs lo hi) hz) s.toks, rfl, q2 hw _ _ (I.hok.fresh (Nat.le_refl _)) rfl⟩
def rSlD (K : PySem.W.Frag) : V → Option Int → Option Int → Hp → VK → Prop := fun x lo hi H Q => rSlL K x lo hi H Q ∨ (rSlF K x lo hi H Q ∨ rSlS x lo hi H Q)
theorem RpAll.cut {K : PySem.W.Frag} {O : Addr → Prop} {H : Hp} {vs : List V} {ds : List Dt} (r : RpAll K O H vs ds) (lo hi : Option Int) : RpAll K O H (cutV vs lo hi) (PT.cut ds lo hi) := by
  unfold cutV PT.cut
  rw [r.length]
  exact (r.drop _).take _
theorem cut_all {α : Type} {xs : List α} {lo hi : Option Int} (h : HT.sIx xs.length 0 lo = 0 ∧ HT.sIx xs.length xs.length hi = xs.length) : cut xs lo hi = xs := by
  unfold cut
  rw [h.1, h.2]
  simp
theorem se_sl {lo hi : Option Expr} {ol oh : En → Option (Option Int)} (ha : SE G N sc fn k a f) (hl : SO G N sc fn k lo ol) (hh : SO G N sc fn k hi oh) : SE G N sc fn k (.Subscript a (.Slice lo hi none p2) pos) (eSl f ol oh) := fun X C W tk b' =>
  PE.imp (pe_slice (sl_list.or (sl_tupF.or sl_str)) (ha X C W tk true) (hl X C W tk) (hh X C W tk)) fun σ H Q h => by
    obtain ⟨ρ, ow, rs, he, gd, post⟩ := h
    refine tE.go gd he (fun n pl e => by subst e; exact post) fun d hd1 v H1 s1 r1 => ?_
    split at hd1
    · rename_i l u hl hu
      refine ⟨ρ, ow, l, hl, gd.same s1, fun H2 s2 => ⟨ρ, ow, u, hu, gd.same (s1.trans s2), fun H3 s3 => ?_⟩⟩
      have r3 := r1.same (s2.trans s3)
      have s13 := (s1.trans s2).trans s3
      have ok3 := gd.ok.same s13
      cases d with
      | list xs =>
        cases hd1
        obtain ⟨a, vs, rfl, h1, r⟩ := r3.list
        exact .inl ⟨a, vs, rfl, SqL.of h1, fun p hp => post _ _ (s13.trans (Same.upd hp)) (.inl (.lst upd_same (ok3.new hp) (RpAll.same (Same.upd hp) (r.cut l u))))⟩
      | tuple xs =>
        cases hd1
        obtain ⟨a, vs, rfl, h1, r⟩ := r3.tuple
        refine .inr (.inl ⟨a, vs, rfl, h1.sq, fun hw => ?_, fun hw p o hp ho => post _ _ (s13.trans (Same.upd hp)) (.inl (.tup ⟨o, upd_same, ho⟩ (RpAll.same (Same.upd hp) (r.cut l u))))⟩)
        rw [cut_all (by rw [← r.length]; exact hw)] at post
        exact post _ _ s13 (.inl (.tup h1 r))
      | str z =>
        simp only [dSl] at hd1
        split at hd1
        · rename_i hz
          cases hd1
          obtain rfl := r3.str
          exact .inr (.inr ⟨z, rfl, lim_le hz, post _ _ s13 (.inl (.str _))⟩)
        · cases hd1
      | none => cases hd1
      | bool _ => cases hd1
      | int _ => cases hd1
      | dict _ => cases hd1
    · cases hd1

/-! ## calls of built-ins -/
/-- what is known of the class Sheet -/
structure ShK (K : PySem.W.Frag) : Prop where
  cl : Cls K (He.ga K "Sheet")
  ha : PySem.W.findIn K (.ref (He.ga K "Sheet")) "__class__" = some (some (.builtin "object.__class__"))
  hn : PySem.W.specialIn K (.builtin "object.__class__") "__get__" = some (some (.builtin "getset_descriptor.__get__"))
  ht : PySem.W.takesIn K (.builtin "object.__class__") = some true
  hm : PySem.W.mroIn K (He.ga K "Sheet") (.type "object") = some true
  no : ∀ T ∈ ["int", "bool", "str", "tuple", "list"], PySem.W.kitOne K (.ref (He.ga K "Sheet")) (.type T) = some false
structure Bi (G : Gc) : Prop where
  len : G.mg "len" = none
  range : G.mg "range" = none
  isinstance : G.mg "isinstance" = none
  int : G.mg "int" = none
  bool : G.mg "bool" = none
  tuple : G.mg "tuple" = none
  list : G.mg "list" = none
  str : G.mg "str" = none
  set : G.mg "set" = none
  sorted : G.mg "sorted" = none
  max : G.mg "max" = none
  min : G.mg "min" = none
  zip : G.mg "zip" = none
  enumerate : G.mg "enumerate" = none
  reversed : G.mg "reversed" = none
  sht : ShK G.K
/-- a call's rule on one borrowed value -/
def CD1 (K : PySem.W.Frag) (r : List V → Hp → VK → Prop) (op : Dt → Option Dt) : Prop :=
  ∀ (x : V) (H : Hp) (Q : VK) (ow : Ow) (dx dz : Dt), OkO ow H → RpB true K ow H x dx → op dx = some dz → (∀ v H', Same H H' → Rp K (OA ow) H' v dz → Q v H') → r [x] H Q
theorem tCB_of {K : PySem.W.Frag} {mg : Str → Option Value} {W : WX} {b : Bool} {op : Dt → Option Dt} {f : EF} {r : List V → Hp → VK → Prop} {σ : L2.St} {H : Hp} {Q : VK} (hd : CD1 K r op)
    (h : tE K mg W b (eUn op f) σ H Q) : tCB r (tCons (tE K mg W true f) tNil) σ H Q := by
  obtain ⟨ρ, ow, rs, he, gd, post⟩ := h
  refine tE.go gd he (fun n pl e => by subst e; exact post) fun d hd1 v H1 s1 r1 => ?_
  cases hz : op d with
  | none => rw [hz] at hd1; cases hd1
  | some dz =>
    rw [hz] at hd1
    cases hd1
    exact hd v H1 Q ow d dz (gd.ok.same s1) r1 hz fun v' H' s' q => post v' H' (s1.trans s') (.inl q)
theorem Ctx.gl {X : Cx} (C : Ctx G N sc fn k X) {x : Str} (h : GL sc x) : Gl X x := by
  show X.env.scope.names.lookup x = _
  rw [C.hsc]; exact h
theorem se_b1 {x : Str} {id : String} {r : PySem.W.Frag → List V → Hp → VK → Prop} {op : Dt → Option Dt} (hc : ∀ X : Cx, X.calm = true → CallR X (.builtin id) (r X.K)) (hd : ∀ K, CD1 K (r K) op) (hm : G.mg x = none) (hv : bootBuiltins x = some (.builtin id)) (ha : SE G N sc fn k a f)
    (hg : GL sc x) (hn : x ≠ "__name__") (hdb : (x == ("__debug__" : Str)) = false) (ns : NS a) : SE G N sc fn k (.Call (.Name x p) [a] [] pos) (eUn op f) := fun X C W tk b' =>
  PE.imp (pe_callB (hc X C.calm) (C.gl hg) (by rw [C.hmg]; exact hm) hv (pa_cons (ha X C W tk true) pa_nil (ns [] X.env)) hn hdb (ns [] X.env) rfl) fun σ H Q h => tCB_of (hd X.K) h
theorem se_t1 {x : Str} {id : String} {r : PySem.W.Frag → List V → Hp → VK → Prop} {op : Dt → Option Dt} (hc : ∀ X : Cx, X.calm = true → CallR X (.type id) (r X.K)) (hd : ∀ K, CD1 K (r K) op) (hm : G.mg x = none) (hv : bootBuiltins x = some (.type id)) (ha : SE G N sc fn k a f)
    (hg : GL sc x) (hn : x ≠ "__name__") (hdb : (x == ("__debug__" : Str)) = false) (ns : NS a) : SE G N sc fn k (.Call (.Name x p) [a] [] pos) (eUn op f) := fun X C W tk b' =>
  PE.imp (pe_callTy (hc X C.calm) (C.gl hg) (by rw [C.hmg]; exact hm) hv (pa_cons (ha X C W tk true) pa_nil (ns [] X.env)) hn hdb (ns [] X.env) rfl) fun σ H Q h => tCB_of (hd X.K) h
/-- the script's shape -/
def isScr : List (Dt × Dt) → Bool
  | (.none, _) :: _ => false
  | _ => true
def dLen : Dt → Option Dt
  | .list xs => some (.int xs.length)
  | .tuple xs => some (.int xs.length)
  | .dict kv => if isScr kv = true then some (.int kv.length) else none
  | .str z => if z.length ≤ lim then some (.int z.length) else none
  | _ => none
theorem cd_len (K : PySem.W.Frag) : CD1 K (fun xs H Q => ∃ x n, xs = [x] ∧ LenV K x H n ∧ Q (.int n) H) dLen := by
  intro x H Q ow dx dz ok rx e post
  unfold dLen at e
  split at e
  · cases e
    obtain ⟨a, vs, rfl, h1, r⟩ := rx.list
    refine ⟨_, vs.length, rfl, .inl ⟨vs, SqL.of h1, rfl⟩, ?_⟩
    rw [r.length]
    exact post _ H (Same.refl H) (.int _)
  · cases e
    obtain ⟨a, vs, rfl, h1, r⟩ := rx.tuple
    refine ⟨_, vs.length, rfl, .inr ⟨vs, h1.sq, rfl⟩, ?_⟩
    rw [r.length]
    exact post _ H (Same.refl H) (.int _)
  · split at e
    · rename_i hsc
      cases e
      rcases rx.script with ⟨a, ns, rfl, rfl, h1⟩ | ⟨a, d, _, rfl, _⟩
      · refine ⟨_, ns.length, rfl, .inl ⟨ns.map V.int, h1.sq, by rw [List.length_map]⟩, ?_⟩
        rw [List.length_map] at post
        exact post _ H (Same.refl H) (.int _)
      · cases hsc
    · cases e
  · split at e
    · rename_i hz
      cases e
      obtain rfl := rx.str
      exact ⟨_, _, rfl, ⟨lim_le hz, rfl⟩, post _ H (Same.refl H) (.int _)⟩
    · cases e
  · cases e
theorem se_len (B : Bi G) (ha : SE G N sc fn k a f) (hg : GL sc "len" := by rfl) (ns : NS a := by intro _ _; rfl) : SE G N sc fn k (.Call (.Name "len" p) [a] [] pos) (eUn dLen f) :=
  se_b1 (r := fun K xs H Q => ∃ x n, xs = [x] ∧ LenV K x H n ∧ Q (.int n) H) (fun X _ => call_len) cd_len B.len PySem.boot_len ha hg (by decide) (by decide) ns
def dTuple : Dt → Option Dt
  | .list xs => some (.tuple xs)
  | .tuple xs => some (.tuple xs)
  | _ => none
theorem call_tuple_F {X : Cx} : CallR X (.type "tuple") (fun xs H Q => ∃ p ys, xs = [.ref p] ∧ ((SqL X.K H p ys ∧ ∀ l o, H l = none → o.dict = none → Q (.ref l) (upd H l (.frz o (.tup ys)))) ∨ (SqT X.K H p ys ∧ Q (.ref p) H))) := by
  intro pins s σ H xs us Q I r h
  obtain ⟨p, ys, rfl, h⟩ := h
  obtain ⟨u, rfl, rx⟩ := vals1 r
  cases rx
  rcases h with ⟨hq, q⟩ | ⟨hq, q⟩
  · obtain ⟨its, r', pl, hz⟩ := I.list hq
    have hlen := r'.length
    refine call_tuple_list pl.isList (fun h' kp => ?_) (by simp only [List.size_toArray] <;> omega)
    have I1 : Inv X pins σ H { s with heap := h' } := I.kept (t' := s.toks) kp
    exact ⟨.ref h'.objs.size, _, layT I1 r' hz s.toks, rfl, q _ _ (I1.hok.fresh (Nat.le_refl _)) rfl⟩
  · obtain ⟨its, r', pl, hz⟩ := I.tuple hq
    exact call_tuple_same pl ⟨.ref p, H, I, rfl, q⟩
theorem cd_tuple (K : PySem.W.Frag) : CD1 K (fun xs H Q => ∃ p ys, xs = [.ref p] ∧ ((SqL K H p ys ∧ ∀ l o, H l = none → o.dict = none → Q (.ref l) (upd H l (.frz o (.tup ys)))) ∨ (SqT K H p ys ∧ Q (.ref p) H))) dTuple := by
  intro x H Q ow dx dz ok rx e post
  unfold dTuple at e
  split at e
  · cases e
    obtain ⟨a, vs, rfl, h1, r⟩ := rx.list
    exact ⟨a, vs, rfl, .inl ⟨SqL.of h1, fun l o hl ho => post _ _ (Same.upd hl) (.tup ⟨o, upd_same, ho⟩ (RpAll.same (Same.upd hl) r))⟩⟩
  · cases e
    obtain ⟨a, vs, rfl, h1, r⟩ := rx.tuple
    exact ⟨a, vs, rfl, .inr ⟨h1.sq, post _ H (Same.refl H) (.tup h1 r)⟩⟩
  · cases e
theorem se_tuple (B : Bi G) (ha : SE G N sc fn k a f) (hg : GL sc "tuple" := by rfl) (ns : NS a := by intro _ _; rfl) : SE G N sc fn k (.Call (.Name "tuple" p) [a] [] pos) (eUn dTuple f) :=
  se_t1 (r := fun K xs H Q => ∃ p ys, xs = [.ref p] ∧ ((SqL K H p ys ∧ ∀ l o, H l = none → o.dict = none → Q (.ref l) (upd H l (.frz o (.tup ys)))) ∨ (SqT K H p ys ∧ Q (.ref p) H))) (fun X _ => call_tuple_F) cd_tuple B.tuple PyProof.Rows.boot_tuple ha hg (by decide) (by decide) ns
def dList : Dt → Option Dt
  | .list xs => some (.list xs)
  | .tuple xs => some (.list xs)
  | _ => none
theorem cd_list (K : PySem.W.Frag) : CD1 K (fun xs H Q => ∃ p ys, xs = [.ref p] ∧ (SqL K H p ys ∨ SqT K H p ys) ∧ ∀ l, H l = none → Q (.ref l) (upd H l (.lst ys))) dList := by
  intro x H Q ow dx dz ok rx e post
  unfold dList at e
  split at e
  · cases e
    obtain ⟨a, vs, rfl, h1, r⟩ := rx.list
    exact ⟨a, vs, rfl, .inl (SqL.of h1), fun l hl => post _ _ (Same.upd hl) (.lst upd_same (ok.new hl) (RpAll.same (Same.upd hl) r))⟩
  · cases e
    obtain ⟨a, vs, rfl, h1, r⟩ := rx.tuple
    exact ⟨a, vs, rfl, .inr (h1.sq), fun l hl => post _ _ (Same.upd hl) (.lst upd_same (ok.new hl) (RpAll.same (Same.upd hl) r))⟩
  · cases e
theorem se_list (B : Bi G) (ha : SE G N sc fn k a f) (hg : GL sc "list" := by rfl) (ns : NS a := by intro _ _; rfl) : SE G N sc fn k (.Call (.Name "list" p) [a] [] pos) (eUn dList f) :=
  se_t1 (r := fun K xs H Q => ∃ p ys, xs = [.ref p] ∧ (SqL K H p ys ∨ SqT K H p ys) ∧ ∀ l, H l = none → Q (.ref l) (upd H l (.lst ys))) (fun X _ => call_list_of) cd_list B.list PyProof.Rows.boot_list ha hg (by decide) (by decide) ns
/-! tuple(range(n)), list(range(n)) -/
def rgD (n : Int) : List Dt := (List.range n.toNat).map fun i => .int (i : Nat)
def dTupRg : Dt → Option Dt
  | .int n => if okI n = true then some (.tuple (rgD n)) else none
  | _ => none
def dLstRg : Dt → Option Dt
  | .int n => if okI n = true then some (.list (rgD n)) else none
  | _ => none
theorem rp_map {K : PySem.W.Frag} {O : Addr → Prop} {H : Hp} {α : Type} (v : α → V) (d : α → Dt) : ∀ l : List α, (∀ x ∈ l, Rp K O H (v x) (d x)) → RpAll K O H (l.map v) (l.map d)
  | [], _ => .nil
  | x :: l, h => .cons (h x List.mem_cons_self) (rp_map v d l fun y hy => h y (List.mem_cons_of_mem _ hy))
theorem rp_rg {K : PySem.W.Frag} {O : Addr → Prop} {H : Hp} (n : Int) : RpAll K O H (rgV 0 n) (rgD n) := by
  unfold rgV rgD
  rw [Int.sub_zero]
  refine rp_map _ _ _ fun i _ => ?_
  rw [Int.zero_add]
  exact .int _
def tTupRgF (te : L2.St → Hp → (Int → Int → Hp → Prop) → Prop) : TE := fun σ H Q => te σ H fun a b H1 => RgOk a b ∧ ∀ q o, H1 q = none → o.dict = none → Q (.ref q) (upd H1 q (.frz o (.tup (rgV a b))))
theorem pe_tupRgF {X : Cx} {e : Expr} {te : L2.St → Hp → (Int → Int → Hp → Prop) → Prop} {p pos : Pos} (hc : X.calm = true) (hg : Gl X "tuple") (hm : X.mg "tuple" = none) (he : PRg X e te) (na : starEach [e] X.env = (false, eval e X.env) :: starEach [] X.env := by rfl) : PE X (.Call (.Name "tuple" p) [e] [] pos) (tTupRgF te) := by
  refine ⟨fun pins s σ H Q I h => ?_⟩
  refine Call_ (ld_blt I hg hm boot_tuple (PyProof.Rows.callWith_type1 (args_cons (thn (he pins s σ H _ I h) fun x s1 ⟨r, a, b, t, u, v, H1, ex, hr, I1, ok, q⟩ => args_nil ?_) na) na))
  subst ex
  obtain ⟨b1, b2, b3, b4, b5⟩ := ok
  refine call_tuple_range (n := (b - a).toNat) (I1.ok.hd hc) hr (small_one b1 b2 b3 b4) (rangeSize_nat a b) b5 fun h' tk acc hk hi => ?_
  have I2 : Inv X pins σ H1 { s1 with heap := h', toks := tk } := I1.kept hk
  have hl := layT I2 (vals_rg hi) (by rw [rgV_length, sizeLine_eq]; omega) tk
  rw [Array.toArray_toList] at hl
  exact ⟨.ref h'.objs.size, _, hl, rfl, q _ _ (I2.hok.fresh (Nat.le_refl _)) rfl⟩
theorem se_tupRg (B : Bi G) (ha : SE G N sc fn k a f) (hg : GL sc "tuple" := by rfl) (hg2 : GL sc "range" := by rfl) (ns : NS a := by intro _ _; rfl) : SE G N sc fn k (.Call (.Name "tuple" p) [.Call (.Name "range" p2) [a] [] pos] [] pos) (eUn dTupRg f) := fun X C W tk b' =>
  PE.imp (pe_tupRgF C.calm (C.gl hg) (by rw [C.hmg]; exact B.tuple) (prg_1 (C.gl hg2) (by rw [C.hmg]; exact B.range) (ha X C W tk true) (ns [] X.env))) fun σ H Q h => by
    obtain ⟨ρ, ow, rs, he, gd, post⟩ := h
    refine tE.go gd he (fun n pl e => by subst e; exact post) fun d hd1 v H1 s1 r1 => ?_
    unfold dTupRg at hd1
    split at hd1
    · split at hd1
      · rename_i n hn
        rw [okI_iff] at hn
        cases hd1
        exact ⟨n, r1.int, ⟨by omega, by omega, by omega, by omega, by omega⟩, fun q o hq ho => post _ _ (s1.trans (Same.upd hq)) (.inl (.tup ⟨o, upd_same, ho⟩ (rp_rg n)))⟩
      · cases hd1
    · cases hd1
theorem se_lstRg (B : Bi G) (ha : SE G N sc fn k a f) (hg : GL sc "list" := by rfl) (hg2 : GL sc "range" := by rfl) (ns : NS a := by intro _ _; rfl) {q1 : Pos} : SE G N sc fn k (.Call (.Name "list" p) [.Call (.Name "range" p2) [a] [] q1] [] pos) (eUn dLstRg f) := fun X C W tk b' =>
  PE.imp (pe_listRg C.calm (C.gl hg) (by rw [C.hmg]; exact B.list) (prg_1 (C.gl hg2) (by rw [C.hmg]; exact B.range) (ha X C W tk true) (ns [] X.env))) fun σ H Q h => by
    obtain ⟨ρ, ow, rs, he, gd, post⟩ := h
    refine tE.go gd he (fun n pl e => by subst e; exact post) fun d hd1 v H1 s1 r1 => ?_
    unfold dLstRg at hd1
    split at hd1
    · split at hd1
      · rename_i n hn
        rw [okI_iff] at hn
        cases hd1
        exact ⟨n, r1.int, ⟨by omega, by omega, by omega, by omega, by omega⟩, fun q hq => post _ _ (s1.trans (Same.upd hq)) (.inl (.lst upd_same ((gd.ok.same s1).new hq) (rp_rg n)))⟩
      · cases hd1
    · cases hd1
/-! isinstance(x, T) -/
def tyN : Dt → String
  | .none => "NoneType"
  | .bool _ => "bool"
  | .int _ => "int"
  | .str _ => "str"
  | .list _ => "list"
  | .tuple _ => "tuple"
  | .dict kv => if isScr kv = true then "list" else "Sheet"
def dIsi (T : String) (d : Dt) : Bool := tyN d == T || (T == "int" && tyN d == "bool")
def eIsi (T : String) (f : EF) : EF := fun _ ρ => bnd (f true ρ) fun x => some (.val (.bool (dIsi T x)))
theorem isScr_map (ns : List Int) : isScr (ns.map fun i => ((.int i : PyData), (.none : PyData))) = true := by cases ns <;> rfl
def isSht : Dt → Bool
  | .dict kv => !isScr kv
  | _ => false
def KitOk (T : String) : Prop := T ∈ ["int", "bool", "str", "tuple", "list"] ∧ ∀ (K : PySem.W.Frag) (d : Dt), isSht d = false → PySem.W.kitOne K (.type (tyN d)) (.type T) = some (dIsi T d)
theorem dIsi_sht {T : String} (h : T ∈ ["int", "bool", "str", "tuple", "list"]) (d : Dt) : dIsi T (.dict [(.none, d)]) = false := by
  simp only [List.mem_cons, List.not_mem_nil, or_false] at h
  rcases h with rfl | rfl | rfl | rfl | rfl <;> rfl
theorem RpB.ty {T : String} {b : Bool} {K : PySem.W.Frag} {ow : Ow} {H : Hp} {v : V} {d : Dt} (S : ShK K) (hk : KitOk T) (h : RpB b K ow H v d) : ∃ t, TyX K H v t ∧ PySem.W.kitOne K t (.type T) = some (dIsi T d) := by
  have go : ∀ {d : Dt}, isSht d = false → TyX K H v (.type (tyN d)) → ∃ t, TyX K H v t ∧ PySem.W.kitOne K t (.type T) = some (dIsi T d) := fun {d} hs h => ⟨_, h, hk.2 K d hs⟩
  cases d with
  | none => refine go rfl ?_; rw [h.none]; exact .base .non
  | bool b => refine go rfl ?_; rw [h.bool]; exact .base (.bl b)
  | int b => refine go rfl ?_; rw [h.int]; exact .base (.int b)
  | str b => refine go rfl ?_; rw [h.str]; exact .base (.str b)
  | list b => refine go rfl ?_; obtain ⟨a, vs, rfl, h1, _⟩ := h.list; exact .base (.lst h1)
  | tuple b => refine go rfl ?_; obtain ⟨a, vs, rfl, ⟨o, h1, _⟩, _⟩ := h.tuple; exact .fTuple h1
  | dict b =>
    rcases h.script with ⟨a, ns, rfl, rfl, h1⟩ | ⟨a, d, rfl, rfl, dx, fs, h1⟩
    · refine go (by show (!isScr _) = false; rw [isScr_map]; rfl) ?_
      have e : tyN (.dict (ns.map fun i => ((.int i : PyData), (.none : PyData)))) = "list" := by
        show (if isScr _ = true then "list" else "Sheet") = _
        rw [isScr_map]; rfl
      rw [e]
      rcases h1 with ⟨o, h1⟩ | ⟨o, its, n, h1, h2, _⟩
      · exact .base (.frz h1)
      · exact .kList h1 h2
    · exact ⟨_, .base (.ins h1 S.cl S.ha S.hn S.ht S.hm), by rw [dIsi_sht hk.1]; exact S.no T hk.1⟩
theorem se_isi {T : String} {x : Str} (B : Bi G) (hk : KitOk T) (ha : SE G N sc fn k a f) (hm : G.mg x = none) (hv : bootBuiltins x = some (.type T)) (hg : GL sc "isinstance" := by rfl) (hg2 : GL sc x := by rfl)
    (hn : x ≠ "__name__" := by decide) (hdb : (x == ("__debug__" : Str)) = false := by decide) (ns : NS a := by intro _ _; rfl) : SE G N sc fn k (.Call (.Name "isinstance" p) [a, .Name x p2] [] pos) (eIsi T f) := fun X C W tk b' =>
  PE.imp (pe_callB call_isi (C.gl hg) (by rw [C.hmg]; exact B.isinstance) boot_isinstance (pa_cons (ha X C W tk true) (pa_cons (pe_bltn (v := .ty T) (C.gl hg2) (by rw [C.hmg]; exact hm) hv rfl hn hdb) pa_nil) (ns _ X.env)) (by decide) (by decide) (ns _ X.env) rfl) fun σ H Q h => by
    obtain ⟨ρ, ow, rs, he, gd, post⟩ := h
    refine tE.go gd he (fun n pl e => by subst e; exact post) fun d hd1 v H1 s1 r1 => ?_
    cases hd1
    obtain ⟨t, h1, h2⟩ := r1.ty (T := T) (by rw [C.hK]; exact B.sht) hk
    exact ⟨v, .ty T, _, _, _, rfl, .ty T, h1, h2, post _ H1 s1 (.inl (.bl _))⟩
/-! int(flag), int(n), str(n), max(m, n) -/
def dInt : Dt → Option Dt
  | .int i => some (.int i)
  | .bool b => some (.int (if b then 1 else 0))
  | _ => none
theorem cd_int (K : PySem.W.Frag) : CD1 K (fun xs H Q => (∃ i, xs = [.int i] ∧ Q (.int i) H) ∨ ∃ k, xs = [.bl k] ∧ Q (.int (if k then 1 else 0)) H) dInt := by
  intro x H Q ow dx dz ok rx e post
  unfold dInt at e
  split at e
  · cases e
    obtain rfl := rx.int
    exact .inl ⟨_, rfl, post _ H (Same.refl H) (.int _)⟩
  · cases e
    obtain rfl := rx.bool
    exact .inr ⟨_, rfl, post _ H (Same.refl H) (.int _)⟩
  · cases e
theorem se_intC (B : Bi G) (ha : SE G N sc fn k a f) (hg : GL sc "int" := by rfl) (ns : NS a := by intro _ _; rfl) : SE G N sc fn k (.Call (.Name "int" p) [a] [] pos) (eUn dInt f) :=
  se_t1 (r := fun K xs H Q => (∃ i, xs = [.int i] ∧ Q (.int i) H) ∨ ∃ k, xs = [.bl k] ∧ Q (.int (if k then 1 else 0)) H) (fun X _ => call_int1) cd_int B.int PyProof.Rows.boot_int ha hg (by decide) (by decide) ns
def dStr : Dt → Option Dt
  | .int i => if i.natAbs.log2 < 1920 then some (.str (toString i)) else none
  | _ => none
theorem cd_str (K : PySem.W.Frag) : CD1 K (fun xs H Q => ∃ i, xs = [.int i] ∧ i.natAbs.log2 < 1920 ∧ Q (.str (toString i)) H) dStr := by
  intro x H Q ow dx dz ok rx e post
  unfold dStr at e
  split at e
  · split at e
    · rename_i hz
      cases e
      obtain rfl := rx.int
      exact ⟨_, rfl, hz, post _ H (Same.refl H) (.str _)⟩
    · cases e
  · cases e
theorem se_strC (B : Bi G) (ha : SE G N sc fn k a f) (hg : GL sc "str" := by rfl) (ns : NS a := by intro _ _; rfl) : SE G N sc fn k (.Call (.Name "str" p) [a] [] pos) (eUn dStr f) :=
  se_t1 (r := fun K xs H Q => ∃ i, xs = [.int i] ∧ i.natAbs.log2 < 1920 ∧ Q (.str (toString i)) H) (fun X _ => call_str_int) cd_str B.str PyProof.Rows.boot_str ha hg (by decide) (by decide) ns
def dMax2 : Dt → Dt → Option Dt
  | .int i, .int j => some (.int (if j > i then j else i))
  | _, _ => none
theorem se_max2 (B : Bi G) (ha : SE G N sc fn k a f) (hb : SE G N sc fn k b g) (hg : GL sc "max" := by rfl) (ns : NS a := by intro _ _; rfl) (ns2 : NS b := by intro _ _; rfl) : SE G N sc fn k (.Call (.Name "max" p) [a, b] [] pos) (eBin dMax2 f g) := fun X C W tk b' =>
  PE.imp (pe_callB (call_max2 C.calm) (C.gl hg) (by rw [C.hmg]; exact B.max) boot_max (pa_cons (ha X C W tk true) (pa_cons (hb X C W tk true) pa_nil (ns2 _ X.env)) (ns _ X.env)) (by decide) (by decide) (ns _ X.env) (noStar _ _ _ fun e he => by rw [List.mem_singleton.mp he]; exact ns2)) fun σ H Q h => by
    obtain ⟨ρ, ow, rs, he, gd, post⟩ := h
    refine tE.go gd he (fun n pl e => by subst e; exact post) fun d hd1 v H1 s1 r1 => ?_
    refine tE.go (gd.same s1) hd1 (fun n pl e => by subst e; exact post.same s1) fun d2 hd2 v2 H2 s2 r2 => ?_
    unfold dMax2 at hd2
    split at hd2
    · cases hd2
      obtain rfl := r1.int
      obtain rfl := r2.int
      exact ⟨_, _, rfl, post _ H2 (s1.trans s2) (.inl (.int _))⟩
    · cases hd2

/-! ## calls of own defs -/
def spF (K : PySem.W.Frag) (mg : Str → Option Value) (n : Nat) (F : List Dt → Option Rs) : Sp := fun vs H Q E =>
  vs.length = n ∧ ∃ (O : Addr → Prop) (ds : List Dt) (r : Rs), (∀ a, O a → H a ≠ none) ∧ RpAll K O H vs ds ∧ F ds = some r ∧ match r with
    | .val d => ∀ v H', Same H H' → Rp K O H' v d → Q v H'
    | .exc n pl => ∀ cls d H', mg n = some cls → Same H H' → PayOk K H' d pl → E cls d H'
/-- the def of that name computes F, at level j -/
def FnIs (G : Gc) (x : Str) (j n : Nat) (F : List Dt → Option Rs) : Prop :=
  ∃ f fd ps, G.mg x = some (.ref f) ∧ PySem.W.keepIn G.K (.ref f) = true ∧ Binds G.K fd ps [] ∧ ps.length = n ∧ FnOk G.P G.w G.K G.mg G.base (L2.CX G.P G.w) j f fd ps (spF G.K G.mg n F)
def eFn (n : Nat) (F : List Dt → Option Rs) (g : AF) : EF := fun _ ρ => bndA (g ρ) fun ds => if ds.length = n then F ds else none
theorem se_fn {x : Str} {j n : Nat} {F : List Dt → Option Rs} (hF : FnIs G x j n F) (hr : SAs G N sc fn k (a :: es) ar) (hj : j ≤ k := by decide) (hg : GL sc x := by rfl) (hdb : (x == ("__debug__" : Str)) = false := by decide) :
    SE G N sc fn k (.Call (.Name x p) (a :: es) [] pos) (eFn n F ar) := fun X C W tk b' => by
  obtain ⟨f, fd, ps, hm, hkp, hb, hl, hok⟩ := hF
  rw [← C.hP, ← C.hw, ← C.hK, ← C.hmg, ← C.hb] at hok
  rw [← C.hK] at hkp hb
  rw [← C.hmg] at hm
  have na := hr.ns a List.mem_cons_self
  refine PE.imp (pe_callS (E := WE W) hok (C.room.mono hj) (C.gl hg) hm hkp hb (fun σ => passAt tk σ) (hr.pa X C W tk) hdb (na es X.env) (noStar _ _ _ fun e he => hr.ns e (List.mem_cons_of_mem _ he))) fun σ H Q h => ?_
  obtain ⟨ρ, ow, rs, he, gd, post⟩ := h
  refine tA.go gd he (fun n pl e => by subst e; exact post) fun ds hd vs H1 s1 r1 => ?_
  split at hd
  · rename_i hn
    refine ⟨by rw [r1.length]; exact hn, OA ow, ds, rs, fun q hq => ?_, r1, hd, ?_⟩
    · exact (gd.ok.same s1).at_ hq
    · cases rs with
      | val d => exact fun v H' s' r' => post v H' (s1.trans s') (.inl r')
      | exc n pl => exact fun cls d H' hc s' pk => post cls d H' hc (s1.trans s') pk
  · cases hd
end
end PT

namespace PT
open PySem PySem.Spec PyProof.Rows L2

/-! ## slots cleared, slots set -/
def clr (ρ : En) : List Nat → En
  | [] => ρ
  | v :: vs => (clr ρ vs).set v none
theorem clr_length (ρ : En) : ∀ vs : List Nat, (clr ρ vs).length = ρ.length
  | [] => rfl
  | v :: vs => by unfold clr; rw [List.length_set, clr_length ρ vs]
theorem clr_some {ρ : En} {i : Nat} {x : SV} : ∀ {vs : List Nat}, (clr ρ vs)[i]? = some (some x) → ρ[i]? = some (some x) ∧ i ∉ vs
  | [], h => ⟨h, by simp⟩
  | v :: vs, h => by
    unfold clr at h
    by_cases hi : v = i
    · subst hi
      by_cases hv : v < (clr ρ vs).length
      · rw [List.getElem?_set_self hv] at h; cases h
      · rw [List.getElem?_eq_none (by simpa using hv)] at h; cases h
    · rw [List.getElem?_set_ne hi] at h
      obtain ⟨h1, h2⟩ := clr_some h
      exact ⟨h1, by simp only [List.mem_cons, not_or]; exact ⟨fun e => hi e.symm, h2⟩⟩
theorem clr_ne {ρ : En} {i : Nat} : ∀ {vs : List Nat}, i ∉ vs → (clr ρ vs)[i]? = ρ[i]?
  | [], _ => rfl
  | v :: vs, h => by
    simp only [List.mem_cons, not_or] at h
    unfold clr
    rw [List.getElem?_set_ne (fun e => h.1 e.symm)]
    exact clr_ne h.2
theorem wipe_ne {σ : L2.St} {i : Nat} : ∀ {vs : List Nat}, i ∉ vs → (wipe σ vs)[i]? = σ[i]?
  | [], _ => rfl
  | v :: vs, h => by
    simp only [List.mem_cons, not_or] at h
    unfold wipe
    rw [List.getElem?_set_ne (fun e => h.1 e.symm)]
    exact wipe_ne h.2
theorem wipe_at {σ : L2.St} {i : Nat} : ∀ {vs : List Nat}, i ∈ vs → i < σ.length → (wipe σ vs)[i]? = some none
  | v :: vs, h, hl => by
    unfold wipe
    by_cases e : v = i
    · subst e
      exact List.getElem?_set_self (by rw [wipe_length]; exact hl)
    · rw [List.getElem?_set_ne e]
      exact wipe_at ((List.mem_cons.mp h).elim (fun z => absurd z.symm e) id) hl
theorem wipe_eq {σ σ' : L2.St} {vs : List Nat} (hl : σ'.length = σ.length) (h : ∀ j, j ∉ vs → σ'[j]? = σ[j]?) : wipe σ' vs = wipe σ vs := by
  apply List.ext_getElem?
  intro i
  by_cases hi : i ∈ vs
  · by_cases hlt : i < σ.length
    · rw [wipe_at hi hlt, wipe_at hi (by omega)]
    · rw [List.getElem?_eq_none (by rw [wipe_length]; omega), List.getElem?_eq_none (by rw [wipe_length]; omega)]
  · rw [wipe_ne hi, wipe_ne hi, h i hi]
def Ow.clr (ow : Ow) (sl : List Nat) : Ow := { ow with f := fun i => if i ∈ sl then none else ow.f i, g := fun i a => i ∉ sl ∧ ow.g i a }
theorem Ow.clr_some {ow : Ow} {sl : List Nat} {i : Nat} {a : Addr} (h : (ow.clr sl).f i = some a) : ow.f i = some a ∧ i ∉ sl := by
  have h : (if i ∈ sl then none else ow.f i) = some a := h
  split at h
  · cases h
  · rename_i hn; exact ⟨h, hn⟩
theorem Ow.clr_stp (ow : Ow) (sl : List Nat) (H : Hp) : Stp ow H (ow.clr sl) H := ⟨(Stp.refl ow H).kp, fun a ⟨i, hi⟩ => .inl ⟨i, hi.elim (fun hi => .inl (Ow.clr_some hi).1) fun hi => .inr hi.2⟩, rfl⟩
theorem Ow.clr_none {ow : Ow} {sl : List Nat} : ∀ j ∈ sl, (ow.clr sl).f j = none ∧ ∀ a, ¬ (ow.clr sl).g j a := fun j hj => by
  refine ⟨?_, fun a h => h.1 hj⟩
  show (if j ∈ sl then none else ow.f j) = none
  rw [if_pos hj]
section
variable {K : PySem.W.Frag} {ow : Ow} {ρ : En} {σ : L2.St} {H : Hp}
theorem SlotOk.stp {ow' : Ow} {H' : Hp} {i : Nat} {v : V} {s : SV} (ok : OkO ow H) (st : Stp ow H ow' H') (he : ∀ xs, s = .own xs → ow'.f i = ow.f i) (hk : ∀ a, ow.f i = some a → ∀ o, H a = some o → H' a = some o) (h : SlotOk K ow i H v s) (hg : ∀ a, ow.g i a → ow'.g i a ∧ ∀ o, H a = some o → H' a = some o) : SlotOk K ow' i H' v s := by
  cases s with
  | sh d => exact Rp.stp ok st h
  | own xs =>
    obtain ⟨a, vs, h1, h2, h3, h4⟩ := h
    exact ⟨a, vs, h1, by rw [he xs rfl]; exact h2, hk a h2 _ h3, RpAll.stp ok st h4⟩
  | sht m es hs =>
    obtain ⟨a, e, h, vs, ws, q1, q2, q3, q4, q5, q6, q7, q8, q9, q10⟩ := h
    exact ⟨a, e, h, vs, ws, q1, (hg a q2).1, (hg e q3).1, (hg h q4).1, q5, q6.imp (hg a q2).2, (hg e q3).2 _ q7, (hg h q4).2 _ q8, RpAll.stp ok st q9, RpAll.stp ok st q10⟩
theorem Good.clr (g : Good K ow ρ σ H) (sl : List Nat) : Good K (ow.clr sl) (PT.clr ρ sl) σ H := by
  refine ⟨by rw [clr_length]; exact g.len, fun i j a h1 h2 => g.inj i j a (Ow.clr_some h1).1 (Ow.clr_some h2).1, ⟨fun i a h => g.ok.lst i a (Ow.clr_some h).1, g.ok.ext, fun i a h => g.ok.gs i a h.2⟩, fun i a h => g.disj i a (Ow.clr_some h).1, fun i s h => ?_, fun i a h => ?_, fun i j a h1 h2 => g.ginj i j a h1.2 h2.2, fun i j a h1 h2 => g.gf i j a h1.2 (Ow.clr_some h2).1, fun i a h => g.gx i a h.2, fun i a h => by rw [clr_ne h.1]; exact g.ghas i a h.2⟩
  · obtain ⟨h1, h2⟩ := clr_some h
    obtain ⟨v, hv, q⟩ := g.slot i s h1
    exact ⟨v, hv, q.stp g.ok (Ow.clr_stp ow sl H) (fun _ _ => by show (if i ∈ sl then none else ow.f i) = _; rw [if_neg h2]) (fun _ _ _ e => e) fun a ha => ⟨⟨h2, ha⟩, fun _ e => e⟩⟩
  · obtain ⟨h1, h2⟩ := Ow.clr_some h
    rw [clr_ne h2]
    exact g.has i a h1
/-- within a comprehension's block -/
theorem Good.blk {vs : List Nat} (g : Good K ow ρ σ H) (hn : ∀ j ∈ vs, ow.f j = none ∧ ∀ a, ¬ ow.g j a) : Good K ow (PT.clr ρ vs) (wipe σ vs) H := by
  refine ⟨by rw [clr_length, wipe_length]; exact g.len, g.inj, g.ok, g.disj, fun i s h => ?_, fun i a h => ?_, g.ginj, g.gf, g.gx, fun i a h => by rw [clr_ne fun z => (hn i z).2 a h]; exact g.ghas i a h⟩
  · obtain ⟨h1, h2⟩ := clr_some h
    obtain ⟨v, hv, q⟩ := g.slot i s h1
    exact ⟨v, by rw [wipe_ne h2]; exact hv, q⟩
  · have h2 : i ∉ vs := fun z => by rw [(hn i z).1] at h; cases h
    rw [clr_ne h2]
    exact g.has i a h
def noOwn (ρ : En) (sl : List Nat) : Bool := sl.all fun i => match ρ[i]? with
  | some (some (.own _)) => false
  | some (some (.sht ..)) => false
  | _ => true
theorem noOwn_of {sl : List Nat} (g : Good K ow ρ σ H) (h : noOwn ρ sl = true) : ∀ j ∈ sl, ow.f j = none ∧ ∀ a, ¬ ow.g j a := fun j hj => by
  have := List.all_eq_true.mp h j hj
  refine ⟨?_, fun a ha => ?_⟩
  · cases e : ow.f j with
    | none => rfl
    | some a =>
      obtain ⟨xs, hx⟩ := g.has j a e
      rw [hx] at this
      cases this
  · obtain ⟨m, es, hs, hx⟩ := g.ghas j a ha
    rw [hx] at this
    cases this
theorem Good.set {i : Nat} {v : V} {d : Dt} (g : Good K ow ρ σ H) (hn : ow.f i = none ∧ ∀ a, ¬ ow.g i a) (r : Rp K (OA ow) H v d) : Good K ow (ρ.set i (some (.sh d))) (σ.set i (some v)) H := by
  refine ⟨by rw [List.length_set, List.length_set]; exact g.len, g.inj, g.ok, g.disj, fun j s h => ?_, fun j a h => ?_, g.ginj, g.gf, g.gx, fun j a h => by rw [List.getElem?_set_ne fun e => hn.2 a (by rw [e]; exact h)]; exact g.ghas j a h⟩
  · by_cases hj : i = j
    · subst hj
      by_cases hi : i < ρ.length
      · rw [List.getElem?_set_self hi] at h
        cases h
        exact ⟨v, List.getElem?_set_self (by rw [← g.len]; exact hi), r⟩
      · rw [List.getElem?_eq_none (by simpa using hi)] at h; cases h
    · rw [List.getElem?_set_ne hj] at h
      rw [List.getElem?_set_ne hj]
      exact g.slot j s h
  · by_cases hj : i = j
    · subst hj; rw [hn.1] at h; cases h
    · rw [List.getElem?_set_ne hj]; exact g.has j a h
end

/-! ## targets -/
abbrev GF := Dt → En → Option En
/-- what an iterable hands out: data, or a pair made for the turn alone -/
inductive Shp where
  | d
  | p (s t : Shp)
def RpS (K : PySem.W.Frag) (O : Addr → Prop) (H : Hp) : Shp → V → Dt → Prop
  | .d, v, d => Rp K O H v d
  | .p s t, v, d => ∃ a x y dx dy, v = .ref a ∧ H a = some (.tup [x, y]) ∧ d = .tuple [dx, dy] ∧ RpS K O H s x dx ∧ RpS K O H t y dy
theorem RpS.stp {K : PySem.W.Frag} {ow ow' : Ow} {H H' : Hp} (ok : OkO ow H) (s : Stp ow H ow' H') : ∀ {sh : Shp} {v : V} {d : Dt}, RpS K (OA ow) H sh v d → RpS K (OA ow') H' sh v d
  | .d, _, _, h => Rp.stp ok s h
  | .p _ _, _, _, ⟨a, x, y, dx, dy, e1, h, e2, r1, r2⟩ => ⟨a, x, y, dx, dy, e1, s.kp.keep _ _ h (ok.not h (fun _ z => by cases z) fun _ _ _ z => by cases z), e2, RpS.stp ok s r1, RpS.stp ok s r2⟩
def tG (sh : Shp) (K : PySem.W.Frag) (sl : List Nat) (f : GF) : TG := fun v σ H Q => ∃ ρ ow d ρ', (∀ j ∈ sl, ow.f j = none ∧ ∀ a, ¬ ow.g j a) ∧ f d ρ = some ρ' ∧ Good K ow ρ σ H ∧ RpS K (OA ow) H sh v d ∧
  ∀ σ', Good K ow ρ' σ' H → σ'.length = σ.length → (∀ j, j ∉ sl → σ'[j]? = σ[j]?) → Q σ' H
theorem PG.imp {X : Cx} {e : Expr} {t t' : TG} (h : PG X e t) (i : ∀ v σ H Q, t' v σ H Q → t v σ H Q) : PG X e t' := ⟨fun pins s σ H v u Q I r q => h.run pins s σ H v u Q I r (i v σ H Q q)⟩
def SG (G : Gc) (N : List Str) (sc : Scope) (fn : Str → Bool) (k : Nat) (sh : Shp) (e : Expr) (sl : List Nat) (f : GF) : Prop := ∀ X, Ctx G N sc fn k X → PG X e (tG sh X.K sl f)
def gNm (i : Nat) : GF := fun d ρ => some (ρ.set i (some (.sh d)))
def gPr (f g : GF) : GF := fun d ρ => match d with
  | .tuple [x, y] => (f x ρ).bind (g y)
  | _ => none
section
variable {G : Gc} {N : List Str} {sc : Scope} {fn : Str → Bool} {k : Nat} {pos p p2 : Pos}
theorem sg_nm (i : Nat) {x : Str} (hi : N[i]? = some x := by rfl) (hx : Loc sc x := by first | exact Or.inl rfl | exact Or.inr rfl) (hf : fn x = true ∨ sc.names.lookup x = some .local := by first | exact .inl rfl | exact .inr rfl) : SG G N sc fn k .d (.Name x pos) [i] (gNm i) := fun X C =>
  PG.imp (pg_name (by rw [C.hN]; exact C.nd) (by rw [C.hN]; exact hi) (by rw [C.hsc]; exact hx) (by rw [C.hfn, C.hsc]; exact hf)) fun v σ H Q h => by
    obtain ⟨ρ, ow, d, ρ', hn, he, gd, r, post⟩ := h
    cases he
    refine post _ (gd.set (hn i List.mem_cons_self) r) (List.length_set ..) fun j hj => ?_
    exact List.getElem?_set_ne fun e => hj (by rw [e]; exact List.mem_cons_self)
theorem sg_pr {e1 e2 : Expr} {kk : Nat} {sl1 sl2 : List Nat} {f g : GF} (h1 : SG G N sc fn k .d e1 sl1 f) (h2 : SG G N sc fn k .d e2 sl2 g)
    (hn : ∀ env, (assignEach [e1, e2] env).length = 2 := by intro _; rfl) (hst : ∀ env, (assignEach [e1, e2] env).findIdx? (·.1) = none := by intro _; rfl)
    (hs : ∀ env, (assignEach (e1 :: [e2]) env).map (·.2) = assign e1 env :: (assignEach [e2] env).map (·.2) := by intro _; rfl) (hs2 : ∀ env, (assignEach (e2 :: []) env).map (·.2) = assign e2 env :: (assignEach [] env).map (·.2) := by intro _; rfl) :
    SG G N sc fn k .d (.Tuple [e1, e2] kk pos) (sl1 ++ sl2) (gPr f g) := fun X C =>
  PG.imp (pg_tup (n := 2) C.calm (pgs_cons (h1 X C) (pgs_cons (h2 X C) pgs_nil (hs2 X.env)) (hs X.env)) (hn X.env) (hst X.env)) fun v σ H Q h => by
    obtain ⟨ρ, ow, d, ρ', hn, he, gd, r, post⟩ := h
    unfold gPr at he
    split at he
    · rename_i x y
      have r : Rp X.K (OA ow) H v (.tuple [x, y]) := r
      cases r with
      | tup ha ra =>
        cases ra with
        | cons rx rr =>
          cases rr with
          | cons ry rn =>
            cases rn
            rename_i a vx vy
            cases h1 : f x ρ with
            | none => rw [h1] at he; cases he
            | some ρ1 =>
              rw [h1] at he
              refine ⟨a, [vx, vy], rfl, ha.sq, rfl, vx, [vy], rfl, ρ, ow, x, ρ1, fun j hj => hn j (List.mem_append_left _ hj), h1, gd, rx, fun σ1 g1 l1 a1 => ?_⟩
              refine ⟨vy, [], rfl, ρ1, ow, y, ρ', fun j hj => hn j (List.mem_append_right _ hj), he, g1, ry, fun σ2 g2 l2 a2 => ⟨rfl, ?_⟩⟩
              refine post σ2 g2 (l2.trans l1) fun j hj => ?_
              rw [List.mem_append, not_or] at hj
              rw [a2 j hj.2, a1 j hj.1]
    · cases he
end

section
variable {G : Gc} {N : List Str} {sc : Scope} {fn : Str → Bool} {k : Nat} {pos p p2 : Pos}
theorem sg_prR {e1 e2 : Expr} {kk : Nat} {sl1 sl2 : List Nat} {f g : GF} {s1 s2 : Shp} (h1 : SG G N sc fn k s1 e1 sl1 f) (h2 : SG G N sc fn k s2 e2 sl2 g)
    (hn : ∀ env, (assignEach [e1, e2] env).length = 2 := by intro _; rfl) (hst : ∀ env, (assignEach [e1, e2] env).findIdx? (·.1) = none := by intro _; rfl)
    (hs : ∀ env, (assignEach (e1 :: [e2]) env).map (·.2) = assign e1 env :: (assignEach [e2] env).map (·.2) := by intro _; rfl) (hs2 : ∀ env, (assignEach (e2 :: []) env).map (·.2) = assign e2 env :: (assignEach [] env).map (·.2) := by intro _; rfl) :
    SG G N sc fn k (.p s1 s2) (.Tuple [e1, e2] kk pos) (sl1 ++ sl2) (gPr f g) := fun X C =>
  PG.imp (pg_tup (n := 2) C.calm (pgs_cons (h1 X C) (pgs_cons (h2 X C) pgs_nil (hs2 X.env)) (hs X.env)) (hn X.env) (hst X.env)) fun v σ H Q h => by
    obtain ⟨ρ, ow, d, ρ', hn, he, gd, r, post⟩ := h
    obtain ⟨a, vx, vy, x, y, rfl, ha, rfl, rx, ry⟩ := r
    have he : (f x ρ).bind (g y) = some ρ' := he
    cases h1 : f x ρ with
    | none => rw [h1] at he; cases he
    | some ρ1 =>
      rw [h1] at he
      refine ⟨a, [vx, vy], rfl, SqT.of ha, rfl, vx, [vy], rfl, ρ, ow, x, ρ1, fun j hj => hn j (List.mem_append_left _ hj), h1, gd, rx, fun σ1 g1 l1 a1 => ?_⟩
      refine ⟨vy, [], rfl, ρ1, ow, y, ρ', fun j hj => hn j (List.mem_append_right _ hj), he, g1, ry, fun σ2 g2 l2 a2 => ⟨rfl, ?_⟩⟩
      refine post σ2 g2 (l2.trans l1) fun j hj => ?_
      rw [List.mem_append, not_or] at hj
      rw [a2 j hj.2, a1 j hj.1]
end

/-! ## what is walked -/
inductive Irs where
  | it (xs : List Dt)
  | exc (n : Str) (pl : Option Dt)
abbrev IF := Bool → En → Option Irs
/-- a new address is owned by those around -/
def Ow.addx (ow : Ow) (D : Addr) : Ow := { ow with x := fun a => ow.x a ∨ a = D }
def RelT (ow : Ow) (H : Hp) (ow1 : Ow) (H1 : Hp) : Prop := (ow1.f = ow.f ∧ ow1.g = ow.g) ∧ (∀ a, ow1.x a → ow.x a ∨ H a = none) ∧ Same H H1
def Rel (b : Bool) (ow : Ow) (H : Hp) (ow1 : Ow) (H1 : Hp) : Prop := if b = true then RelT ow H ow1 H1 else Stp ow H ow1 H1
theorem RelT.notOA {ow ow1 : Ow} {H H1 : Hp} (r : RelT ow H ow1 H1) : ∀ a o, H a = some o → ¬ OA ow a → ¬ OA ow1 a := fun a o h n q => by
  rcases q with ⟨i, hi⟩ | q
  · exact n (.inl ⟨i, by rw [← r.1.1, ← r.1.2]; exact hi⟩)
  · exact (r.2.1 a q).elim (fun z => n (.inr z)) fun z => by rw [z] at h; cases h
theorem Rel.rp {b : Bool} {K : PySem.W.Frag} {ow ow1 : Ow} {H H1 : Hp} {v : V} {d : Dt} (ok : OkO ow H) (h : Rel b ow H ow1 H1) (r : Rp K (OA ow) H v d) : Rp K (OA ow1) H1 v d := by
  cases b with
  | true => have h : RelT ow H ow1 H1 := h; exact Rp.same h.2.2 (Rp.fresh h.notOA r)
  | false => exact Rp.stp ok h r
/-- what does not reach D, without D -/
def dropH (H : Hp) (D : Addr) : Hp := fun b => if b = D then none else H b
theorem dropH_ne {H : Hp} {D b : Addr} (h : b ≠ D) : dropH H D b = H b := by unfold dropH; rw [if_neg h]
mutual
theorem Rp.drp {K : PySem.W.Frag} {O : Addr → Prop} {H : Hp} {D : Addr} {xs : List V} (hD : H D = some (.lst xs)) (hO : O D) : ∀ {v : V} {d : Dt}, Rp K O H v d → Rp K O (dropH H D) v d
  | _, _, .non => .non
  | _, _, .bl b => .bl b
  | _, _, .int i => .int i
  | _, _, .str x => .str x
  | _, _, .lst h q r => .lst (by rw [dropH_ne (fun e => q (by rw [e]; exact hO))]; exact h) q (RpAll.drp hD hO r)
  | _, _, .tup ⟨o, h, hd⟩ r => .tup ⟨o, by rw [dropH_ne (ne_of h hD (by intro z; cases z))]; exact h, hd⟩ (RpAll.drp hD hO r)
  | _, _, .scr h => .scr (h.imp fun _ _ h => by rw [dropH_ne (ne_of h hD (by intro z; cases z))]; exact h)
  | _, _, .sht f he hh n1 n2 n3 r1 r2 => .sht (f.imp fun o q => by rw [dropH_ne (fun e => n1 (by rw [e]; exact hO))]; exact q) (by rw [dropH_ne (fun e => n2 (by rw [e]; exact hO))]; exact he) (by rw [dropH_ne (fun e => n3 (by rw [e]; exact hO))]; exact hh) n1 n2 n3 (RpAll.drp hD hO r1) (RpAll.drp hD hO r2)
theorem RpAll.drp {K : PySem.W.Frag} {O : Addr → Prop} {H : Hp} {D : Addr} {xs : List V} (hD : H D = some (.lst xs)) (hO : O D) : ∀ {vs : List V} {ds : List Dt}, RpAll K O H vs ds → RpAll K O (dropH H D) vs ds
  | _, _, .nil => .nil
  | _, _, .cons a r => .cons (Rp.drp hD hO a) (RpAll.drp hD hO r)
end
theorem OA.addx {ow : Ow} {D a : Addr} (h : OA ow a) : OA (ow.addx D) a := h.elim (fun z => .inl z) fun z => .inr (.inl z)
theorem notOA_addx {ow : Ow} {D a : Addr} (h : ¬ OA ow a) (hn : a ≠ D) : ¬ OA (ow.addx D) a := fun q => by
  rcases q with q | q | q
  · exact h (.inl q)
  · exact h (.inr q)
  · exact hn q
theorem Good.addx {K : PySem.W.Frag} {ow : Ow} {ρ : En} {σ : L2.St} {H1 H : Hp} {D : Addr} {o : HO} (g : Good K ow ρ σ H1) (hD : H1 D = none) (s : Same H1 H) (hH : H D = some o) : Good K (ow.addx D) ρ σ H := by
  have nn : ∀ a u, H1 a = some u → ¬ OA ow a → ¬ OA (ow.addx D) a := fun a u h n => notOA_addx n (ne_of_none h hD)
  refine ⟨g.len, g.inj, ⟨(g.ok.same s).lst, fun a q => ?_, (g.ok.same s).gs⟩, fun i a h q => ?_, fun i sv h => ?_, g.has, g.ginj, g.gf, fun i a h q => ?_, g.ghas⟩
  · rcases q with q | q
    · exact (g.ok.same s).ext a q
    · rw [q, hH]; exact fun z => nomatch z
  · rcases q with q | q
    · exact g.disj i a h q
    · obtain ⟨ys, hy⟩ := g.ok.lst i a h
      exact ne_of_none hy hD q
  · obtain ⟨v, hv, q⟩ := g.slot i sv h
    refine ⟨v, hv, ?_⟩
    cases sv with
    | sh d => exact Rp.same s (Rp.fresh nn q)
    | own xs =>
      obtain ⟨a, vs, h1, h2, h3, h4⟩ := q
      exact ⟨a, vs, h1, h2, s _ _ h3, RpAll.same s (RpAll.fresh nn h4)⟩
    | sht m es hs =>
      obtain ⟨a, e1, h1, vs, ws, q1, q2, q3, q4, q5, q6, q7, q8, q9, q10⟩ := q
      exact ⟨a, e1, h1, vs, ws, q1, q2, q3, q4, q5, q6.imp fun o z => s _ _ z, s _ _ q7, s _ _ q8, RpAll.same s (RpAll.fresh nn q9), RpAll.same s (RpAll.fresh nn q10)⟩
  · rcases q with q | q
    · exact g.gx i a h q
    · subst q
      exact g.ok.new hD (.inl ⟨i, .inr h⟩)
structure WD1 (sh : Shp) (K : PySem.W.Frag) (ow1 : Ow) (H1 : Hp) (J : It) (xs : List Dt) : Prop where
  go : ∀ i, i < xs.length → J.go i H1
  stop : J.stop xs.length H1
  yld : ∀ i x H2, i < xs.length → J.yld i H1 x H2 → Same H1 H2 ∧ ∃ d, xs[i]? = some d ∧ RpS K (OA ow1) H2 sh x d
def WD (sh : Shp) (b : Bool) (K : PySem.W.Frag) (ow : Ow) (H : Hp) (J : It) (xs : List Dt) : Prop := ∀ ow1 H1, Rel b ow H ow1 H1 → OkO ow1 H1 → WD1 sh K ow1 H1 J xs
def tI (sh : Shp) (K : PySem.W.Frag) (mg : Str → Option Value) (W : WX) (b : Bool) (f : IF) : TI := fun σ H R => ∃ ρ ow r, f b ρ = some r ∧ Good K ow ρ σ H ∧ match r with
  | .it xs => ∀ J H', Same H H' → WD sh b K ow H' J xs → R J H'
  | .exc n pl => ExP K mg W σ H n pl
def SI (G : Gc) (N : List Str) (sc : Scope) (fn : Str → Bool) (k : Nat) (sh : Shp) (tg e : Expr) (f : IF) : Prop :=
  ∀ X, Ctx G N sc fn k X → ∀ W, Takes X W → ∀ b, PI X tg e (tI sh X.K X.mg W b f)
theorem PI.imp {X : Cx} {tg e : Expr} {t t' : TI} (h : PI X tg e t) (i : ∀ σ H R, t' σ H R → t σ H R) : PI X tg e t' := ⟨fun pins s σ H R I q => h.run pins s σ H R I (i σ H R q)⟩
def bndI (x : Option Rs) (k : Dt → Option Irs) : Option Irs :=
  match x with
  | some (.val d) => k d
  | some (.exc n pl) => some (.exc n pl)
  | none => none
theorem tE.goI {K : PySem.W.Frag} {mg : Str → Option Value} {W : WX} {b : Bool} {f : EF} {ρ : En} {ow : Ow} {σ : L2.St} {H : Hp} {Q : VK} {k : Dt → Option Irs} {r : Irs} (g : Good K ow ρ σ H)
    (e : bndI (f b ρ) k = some r)
    (hx : ∀ n pl, r = .exc n pl → ExP K mg W σ H n pl)
    (hv : ∀ d, k d = some r → ∀ v H', Same H H' → RpB b K ow H' v d → Q v H') : tE K mg W b f σ H Q := by
  cases h : f b ρ with
  | none => rw [h] at e; cases e
  | some q =>
    rw [h] at e
    cases q with
    | val d => exact ⟨ρ, ow, .val d, h, g, fun v H' s q => hv d e v H' s q⟩
    | exc n pl => exact ⟨ρ, ow, .exc n pl, h, g, hx n pl (Option.some.inj e).symm⟩
/-- a list that is read: it stands as long as nothing that is owned changes it -/
theorem RpB.list_stp {b : Bool} {K : PySem.W.Frag} {ow ow1 : Ow} {H H1 : Hp} {v : V} {ds : List Dt} (ok : OkO ow H) (h : RpB b K ow H v (.list ds)) (r : Rel b ow H ow1 H1) : RpB b K ow1 H1 v (.list ds) := by
  rcases h with h | ⟨hb, a, vs, ds', rfl, e, h3, h5, h4⟩
  · exact .inl (r.rp ok h)
  · subst hb
    have r : RelT ow H ow1 H1 := r
    exact .inr ⟨rfl, a, vs, ds', rfl, e, r.2.2 _ _ h3, fun q => (r.2.1 a q).elim h5 (fun z => by rw [z] at h3; cases h3), RpAll.same r.2.2 (RpAll.fresh r.notOA h4)⟩
theorem RpB.tup_stp {b : Bool} {K : PySem.W.Frag} {ow ow1 : Ow} {H H1 : Hp} {v : V} {ds : List Dt} (ok : OkO ow H) (h : RpB b K ow H v (.tuple ds)) (r : Rel b ow H ow1 H1) : RpB b K ow1 H1 v (.tuple ds) := by
  rcases h with h | ⟨hb, a, vs, ds', rfl, e, h3, h5, h4⟩
  · exact .inl (r.rp ok h)
  · cases e
theorem wd_list {b : Bool} {K : PySem.W.Frag} {ow : Ow} {H : Hp} {a : Addr} {xs : List Dt} (ok : OkO ow H) (h : RpB b K ow H (.ref a) (.list xs)) : WD .d b K ow H (Itl K a) xs := fun ow1 H1 r ok1 => by
  obtain ⟨a', vs, e, h1, r1⟩ := (h.list_stp ok r).list
  cases e
  refine ⟨fun i hi => ⟨vs, vs[i]'(by rw [r1.length]; exact hi), SqL.of h1, by simp [show i < vs.length by rw [r1.length]; exact hi]⟩, ⟨vs, SqL.of h1, by rw [r1.length]; exact Nat.le_refl _⟩, fun i x H2 hi y => ?_⟩
  obtain ⟨rfl, y⟩ := y
  refine ⟨Same.refl _, xs[i], by simp [hi], ?_⟩
  obtain ⟨v, hv, q⟩ := r1.get (i := i) (d := xs[i]) (by simp [hi])
  rw [y vs (SqL.of h1)] at hv
  cases hv
  exact q
theorem wd_tup {b : Bool} {K : PySem.W.Frag} {ow : Ow} {H : Hp} {a : Addr} {xs : List Dt} (ok : OkO ow H) (h : RpB b K ow H (.ref a) (.tuple xs)) : WD .d b K ow H (Itt K a) xs := fun ow1 H1 r ok1 => by
  obtain ⟨a', vs, e, h1, r1⟩ := (h.tup_stp ok r).tuple
  cases e
  refine ⟨fun i hi => ⟨vs, vs[i]'(by rw [r1.length]; exact hi), h1.sq, by simp [show i < vs.length by rw [r1.length]; exact hi]⟩, ⟨vs, h1.sq, by rw [r1.length]; exact Nat.le_refl _⟩, fun i x H2 hi y => ?_⟩
  obtain ⟨rfl, y⟩ := y
  refine ⟨Same.refl _, xs[i], by simp [hi], ?_⟩
  obtain ⟨v, hv, q⟩ := r1.get (i := i) (d := xs[i]) (by simp [hi])
  rw [y vs (h1.sq)] at hv
  cases hv
  exact q
def rgL (lo : Int) (n : Nat) : List Dt := (List.range n).map fun i => .int (lo + (i : Nat))
theorem rgL_length (lo : Int) (n : Nat) : (rgL lo n).length = n := by unfold rgL; rw [List.length_map, List.length_range]
theorem rgL_get {lo : Int} {n i : Nat} (h : i < n) : (rgL lo n)[i]? = some (.int (lo + (i : Nat))) := by
  unfold rgL
  rw [List.getElem?_map, List.getElem?_range h]
  rfl
theorem wd_rg {b : Bool} {K : PySem.W.Frag} {ow : Ow} {H : Hp} {lo : Int} {n : Nat} : WD .d b K ow H (Itr lo n) (rgL lo n) := fun ow1 H1 r ok1 => by
  refine ⟨fun i hi => by rw [rgL_length] at hi; exact hi, by rw [rgL_length]; exact Nat.le_refl _, fun i x H2 hi y => ?_⟩
  obtain ⟨rfl, rfl⟩ := y
  rw [rgL_length] at hi
  exact ⟨Same.refl _, _, rgL_get hi, .int _⟩
section
variable {G : Gc} {N : List Str} {sc : Scope} {fn : Str → Bool} {k : Nat} {pos p p2 : Pos} {tg a b c : Expr} {f g h : EF}
def iSeq (f : EF) : IF := fun b ρ => bndI (f b ρ) fun x => match x with
  | .list xs => some (.it xs)
  | .tuple xs => some (.it xs)
  | _ => none
theorem si_seq (ha : SE G N sc fn k a f) : SI G N sc fn k .d tg a (iSeq f) := fun X C W tk b => ⟨fun pins s σ H R I h => by
  obtain ⟨ρ, ow, r, he, gd, post⟩ := h
  cases h1 : f b ρ with
  | none => simp [iSeq, h1, bndI] at he
  | some r1 =>
    cases r1 with
    | exc n pl =>
      have e1 := he
      simp [iSeq, h1, bndI] at e1
      subst e1
      exact (pi_list (ha X C W tk b)).run pins s σ H R I ⟨ρ, ow, _, h1, gd, post⟩
    | val d =>
      have e1 := he
      simp only [iSeq, h1, bndI] at e1
      split at e1
      · cases e1
        refine (pi_list (ha X C W tk b)).run pins s σ H R I ⟨ρ, ow, _, h1, gd, fun v H' s' r' => ?_⟩
        obtain ⟨a', vs, rfl, q1, q2⟩ := r'.list
        exact ⟨a', rfl, ⟨vs, SqL.of q1⟩, post _ H' s' (wd_list (gd.ok.same s') r')⟩
      · cases e1
        refine (pi_tup (ha X C W tk b)).run pins s σ H R I ⟨ρ, ow, _, h1, gd, fun v H' s' r' => ?_⟩
        obtain ⟨a', vs, rfl, q1, q2⟩ := r'.tuple
        exact ⟨a', rfl, ⟨vs, q1.sq⟩, post _ H' s' (wd_tup (gd.ok.same s') r')⟩
      · cases e1⟩
def iRg1 (f : EF) : IF := fun _ ρ => bndI (f true ρ) fun x => match x with
  | .int n => if okI n = true then some (.it (rgL 0 n.toNat)) else none
  | _ => none
theorem si_rg1 (B : Bi G) (ha : SE G N sc fn k a f) (hg : GL sc "range" := by rfl) (ns : NS a := by intro _ _; rfl) : SI G N sc fn k .d tg (.Call (.Name "range" p) [a] [] pos) (iRg1 f) := fun X C W tk b =>
  PI.imp (pi_range1 (C.gl hg) (by rw [C.hmg]; exact B.range) (pa_cons (ha X C W tk true) pa_nil (ns [] X.env)) (by rw [ns [] X.env]; rfl)) fun σ H R h => by
    obtain ⟨ρ, ow, r, he, gd, post⟩ := h
    refine tE.goI gd he (fun n pl e => by subst e; exact post) fun d hd v H' s' r' => ?_
    split at hd
    · split at hd
      · rename_i n hn
        rw [okI_iff] at hn
        cases hd
        obtain rfl := r'.int
        exact ⟨n, rfl, by omega, by omega, post _ H' s' wd_rg⟩
      · cases hd
    · cases hd
def iRg2 (f g : EF) : IF := fun _ ρ => bndI (f true ρ) fun x => bndI (g true ρ) fun y => match x, y with
  | .int i, .int j => if okI i = true ∧ okI j = true then some (.it (rgL i (j - i).toNat)) else none
  | _, _ => none
theorem si_rg2 (B : Bi G) (ha : SE G N sc fn k a f) (hb : SE G N sc fn k b g) (hg : GL sc "range" := by rfl) (ns : NS a := by intro _ _; rfl) (ns2 : NS b := by intro _ _; rfl) : SI G N sc fn k .d tg (.Call (.Name "range" p) [a, b] [] pos) (iRg2 f g) := fun X C W tk b' =>
  PI.imp (pi_range2 (C.gl hg) (by rw [C.hmg]; exact B.range) (pa_cons (ha X C W tk true) (pa_cons (hb X C W tk true) pa_nil (ns2 [] X.env)) (ns [b] X.env)) (by rw [ns [b] X.env, ns2 [] X.env]; rfl) (by rw [ns2 [] X.env]; rfl)) fun σ H R h => by
    obtain ⟨ρ, ow, r, he, gd, post⟩ := h
    refine tE.goI gd he (fun n pl e => by subst e; exact post) fun d hd v H1 s1 r1 => ?_
    refine tE.goI (gd.same s1) hd (fun n pl e => by subst e; exact ExP.same post s1) fun d2 hd2 v2 H2 s2 r2 => ?_
    split at hd2
    · split at hd2
      · rename_i i j hn
        rw [okI_iff, okI_iff] at hn
        cases hd2
        obtain rfl := r1.int
        obtain rfl := r2.int
        exact ⟨i, j, rfl, ⟨by omega, by omega, by omega, by omega⟩, post _ H2 (s1.trans s2) wd_rg⟩
      · cases hd2
    · cases hd2

/-! ## comprehensions -/
def lcL (c e : EF) (tg : GF) (ρ : En) : List Dt → Option (List Dt)
  | [] => some []
  | x :: xs => match tg x ρ with
    | none => none
    | some ρ1 => match c true ρ1 with
      | some (.val d) => (match tru d with
        | some true => (match e false ρ1 with
          | some (.val y) => (lcL c e tg ρ xs).map (y :: ·)
          | _ => none)
        | some false => lcL c e tg ρ xs
        | none => none)
      | _ => none
def eLc (sl : List Nat) (tg : GF) (it : IF) (c e : EF) : EF := fun _ ρ => match it true ρ with
  | some (.it xs) => if noOwn ρ sl && decide (xs.length ≤ lim) then (lcL c e tg (clr ρ sl) xs).map fun ys => .val (.list ys) else none
  | some (.exc n pl) => some (.exc n pl)
  | none => none
/-- the tests of a clause -/
def STs (G : Gc) (N : List Str) (sc : Scope) (fn : Str → Bool) (k : Nat) (es : List Expr) (f : EF) : Prop :=
  ∀ X, Ctx G N sc fn k X → ∀ W, Takes X W → PTs X es (tT X.K X.mg W f)
theorem PTs.imp {X : Cx} {e : List Expr} {t t' : TT} (h : PTs X e t) (i : ∀ σ H Q, t' σ H Q → t σ H Q) : PTs X e t' := ⟨fun pins s σ H Q I q => h.run pins s σ H Q I (i σ H Q q)⟩
theorem sts_nil : STs G N sc fn k [] (eC (.bool true)) := fun X C W tk => PTs.imp pts_nil fun σ H Q h => by
  obtain ⟨ρ, ow, r, he, gd, post⟩ := h
  cases he
  obtain ⟨c, hc, q⟩ := post
  cases hc
  exact q H (Same.refl H)
theorem sts_one (ha : ST G N sc fn k a f) : STs G N sc fn k [a] f := fun X C W tk => pts_one (ha X C W tk)
theorem Ctx.blk {X : Cx} (C : Ctx G N sc fn k X) (s : Shared) (H : Hp) (scope : Scope) (C' : Addr) (cl : List (Str × Addr)) (fp : List Addr) :
    Ctx G N (relS scope sc) (fun x => scope.names.lookup x == some .cell) k (X.blk s H scope (compEnvC scope cl C' X.env) fp) :=
  ⟨C.hP, C.hw, C.hK, C.hmg, C.hb, C.hN, C.nd, by show relS scope X.env.scope = _; rw [C.hsc], rfl, C.calm, C.room⟩
/-- what the comprehension's new list is: for expressions whose value is a new list -/
def tL (K : PySem.W.Frag) (mg : Str → Option Value) (W : WX) (f : EF) : TE := fun σ H Q =>
  ∃ ρ ow r, f true ρ = some r ∧ Good K ow ρ σ H ∧ match r with
    | .val d => ∃ ds, d = .list ds ∧ ∀ p vs H1, Same H H1 → H1 p = none → RpAll K (OA ow) H1 vs ds → Q (.ref p) (upd H1 p (.lst vs))
    | .exc n pl => ExP K mg W σ H n pl
theorem RpAll.snoc {K : PySem.W.Frag} {O : Addr → Prop} {H : Hp} {vs : List V} {ds : List Dt} {v : V} {d : Dt} (r : RpAll K O H vs ds) (q : Rp K O H v d) : RpAll K O H (vs ++ [v]) (ds ++ [d]) := r.append (.cons q .nil)
/-- the list at D so far, everything else as it was -/
structure Cw (K : PySem.W.Frag) (ow : Ow) (H1 : Hp) (D : Addr) (ys : List Dt) (H : Hp) : Prop where
  ex : ∃ vs H2, H = upd H2 D (.lst vs) ∧ Same H1 H2 ∧ H2 D = none ∧ RpAll K (OA ow) H2 vs ys
theorem lc_sound {sh : Shp} {K : PySem.W.Frag} {W0 : WX} {mg : Str → Option Value} {sl : List Nat} {tg : GF} {c e : EF} {ρ : En} {ow : Ow} {σ : L2.St} {H1 : Hp} {J : It} {xs ys : List Dt} {Q : VK} (gd : Good K ow ρ σ H1) (hn : ∀ j ∈ sl, ow.f j = none ∧ ∀ a, ¬ ow.g j a)
    (wd : WD sh true K ow H1 J xs) (hl : lcL c e tg (clr ρ sl) xs = some ys) (hz : xs.length ≤ lim)
    (post : ∀ p vs H2, Same H1 H2 → H2 p = none → RpAll K (OA ow) H2 vs ys → Q (.ref p) (upd H2 p (.lst vs))) :
    ∀ D, H1 D = none → ∃ Wv : Nat → Nat → Hp → Prop, (∃ m, Wv 0 m (upd H1 D (.lst []))) ∧ ∀ i m H, Wv i m H →
      (J.stop i H ∧ Q (.ref D) H) ∨ (J.go i H ∧ ∃ Nx : Hp → Prop, (∀ H', Nx H' → ∃ m', m' < m ∧ Wv (i + 1) m' H') ∧ ∀ x H', J.yld i H x H' → tG sh K sl tg x (wipe σ sl) H' fun σ2 H2 => wipe σ2 sl = wipe σ sl ∧ tT K mg W0 c σ2 H2 fun b H3 =>
        if b = true then tE K mg W0 false e σ2 H3 fun y H4 => ∃ acc, H4 D = some (.lst acc) ∧ acc.length < sizeLine ∧ Nx (upd H4 D (.lst (acc ++ [y]))) else Nx H3) := by
  intro D hD
  -- what is made of the first i items, and the rest
  let Wv : Nat → Nat → Hp → Prop := fun i m H => m = xs.length - i ∧ i ≤ xs.length ∧ ∃ zs ws, ys = zs ++ ws ∧ zs.length ≤ i ∧ lcL c e tg (clr ρ sl) (xs.drop i) = some ws ∧ Cw K ow H1 D zs H
  refine ⟨Wv, ⟨xs.length, by simp, Nat.zero_le _, [], ys, rfl, Nat.le_refl _, by simpa using hl, ⟨[], H1, rfl, Same.refl H1, hD, .nil⟩⟩, ?_⟩
  rintro i m H ⟨rfl, hi, zs, ws, hys, hzl, hws, ⟨vs, H2, rfl, s2, hD2, rv⟩⟩
  have sD : Same H1 (upd H2 D (.lst vs)) := s2.trans (Same.upd hD2)
  have gD : ∀ {H : Hp}, Same (upd H2 D (.lst vs)) H → Good K (ow.addx D) ρ σ H := fun {H} s => gd.addx hD (sD.trans s) (s D _ upd_same)
  have wd1 := wd (ow.addx D) _ (show Rel true ow H1 (ow.addx D) (upd H2 D (.lst vs)) from ⟨⟨rfl, rfl⟩, fun a q => q.elim .inl fun e => .inr (by rw [e]; exact hD), sD⟩) (gD (Same.refl _)).ok
  have hOD : OA (ow.addx D) D := .inr (.inr rfl)
  by_cases hlt : i < xs.length
  · right
    rw [List.drop_eq_getElem_cons hlt] at hws
    refine ⟨wd1.go i hlt, fun H => Wv (i + 1) (xs.length - (i + 1)) H, fun H' h => ⟨_, by omega, h⟩, fun x H' y => ?_⟩
    obtain ⟨sH', d, hd, rx⟩ := wd1.yld i x H' hlt y
    have hd' : xs[i] = d := by rw [List.getElem?_eq_getElem hlt] at hd; exact Option.some.inj hd
    rw [hd'] at hws
    unfold lcL at hws
    cases ht : tg d (clr ρ sl) with
    | none => rw [ht] at hws; cases hws
    | some ρ1 =>
      rw [ht] at hws
      simp only at hws
      refine ⟨clr ρ sl, ow.addx D, d, ρ1, hn, ht, (gD sH').blk hn, rx, fun σ2 g2 l2 a2 => ⟨?_, ?_⟩⟩
      · rw [wipe_eq (σ := wipe σ sl) l2 a2]
        exact wipe_eq (wipe_length _ _) fun j hj => wipe_ne hj
      · cases hc : c true ρ1 with
        | none => rw [hc] at hws; cases hws
        | some rc =>
          rw [hc] at hws
          cases rc with
          | exc n pl => cases hws
          | val dc =>
            simp only at hws
            cases htr : tru dc with
            | none => rw [htr] at hws; cases hws
            | some bb =>
              rw [htr] at hws
              refine ⟨ρ1, ow.addx D, _, hc, g2, bb, htr, fun H3 s3 => ?_⟩
              -- the list at D stands in H3
              have hH3 : H3 D = some (.lst vs) := (sH'.trans s3) D _ upd_same
              have s13 : Same H1 H3 := (sD.trans sH').trans s3
              have sd : ∀ {H4 : Hp}, Same H3 H4 → Same H1 (dropH H4 D) ∧ Same H2 (dropH H4 D) ∧ H4 D = some (.lst vs) := fun {H4} s4 => by
                refine ⟨fun b o hb => ?_, fun b o hb => ?_, s4 D _ hH3⟩
                · rw [dropH_ne (ne_of_none hb hD)]; exact s4 b o (s13 b o hb)
                · rw [dropH_ne (ne_of_none hb hD2)]; exact s4 b o ((sH'.trans s3) b o (by rw [upd_ne (ne_of_none hb hD2)]; exact hb))
              have hdrop : ∀ {H4 : Hp} {o : HO}, upd (dropH H4 D) D o = upd H4 D o := fun {H4 o} => by
                funext b
                by_cases hb : b = D
                · subst hb; rw [upd_same, upd_same]
                · rw [upd_ne hb, upd_ne hb, dropH_ne hb]
              have hself : ∀ {H4 : Hp}, H4 D = some (.lst vs) → upd (dropH H4 D) D (.lst vs) = H4 := fun {H4} h4 => by
                funext b
                by_cases hb : b = D
                · subst hb; rw [upd_same, h4]
                · rw [upd_ne hb, dropH_ne hb]
              have dN : ∀ {H4 : Hp}, dropH H4 D D = none := fun {H4} => by unfold dropH; rw [if_pos rfl]
              cases bb with
              | false =>
                show Wv (i + 1) (xs.length - (i + 1)) H3
                obtain ⟨q1, q2, q3⟩ := sd (Same.refl H3)
                exact ⟨rfl, hlt, zs, ws, hys, by omega, hws, ⟨vs, dropH H3 D, (hself q3).symm, q1, dN, RpAll.same q2 rv⟩⟩
              | true =>
                show tE K mg W0 false e σ2 H3 _
                cases hev : e false ρ1 with
                | none => rw [hev] at hws; cases hws
                | some re =>
                  rw [hev] at hws
                  cases re with
                  | exc n pl => cases hws
                  | val dy =>
                    simp only at hws
                    cases hrec : lcL c e tg (clr ρ sl) (xs.drop (i + 1)) with
                    | none => rw [hrec] at hws; cases hws
                    | some ws' =>
                      rw [hrec] at hws
                      have hws' : ws = dy :: ws' := (Option.some.inj hws).symm
                      subst hws'
                      refine ⟨ρ1, ow.addx D, _, hev, g2.same s3, fun y H4 s4 ry => ?_⟩
                      obtain ⟨q1, q2, q3⟩ := sd s4
                      refine ⟨vs, q3, by rw [rv.length]; exact Nat.lt_of_le_of_lt (Nat.le_trans hzl (Nat.le_trans (Nat.le_of_lt hlt) hz)) (by decide), rfl, hlt, zs ++ [dy], ws', by rw [hys]; simp, by simp; omega, hrec, ⟨vs ++ [y], dropH H4 D, hdrop.symm, q1, dN, ?_⟩⟩
                      exact RpAll.snoc (RpAll.same q2 rv) (Rp.fresh (fun _ _ _ n z => n (OA.addx z)) (Rp.drp q3 hOD ry.rp))
  · left
    have e : i = xs.length := by omega
    subst e
    rw [List.drop_length] at hws
    cases hws
    rw [List.append_nil] at hys
    subst hys
    exact ⟨wd1.stop, post D vs H2 s2 hD2 rv⟩
/-- [e for target in iter if c], as a value -/
theorem se_lc {sh : Shp} {elt iter : Expr} {ifs : List Expr} {scope : Scope} {own : List (Str × Nat)} {it : IF} {gf : GF} {c e : EF} (hi : SI G N sc fn k sh tg iter it) (ok : blkC N sc scope own = true) (hg : SG G N (relS scope sc) (fun x => scope.names.lookup x == some .cell) k sh tg (own.map (·.2)) gf)
    (ht : STs G N (relS scope sc) (fun x => scope.names.lookup x == some .cell) k ifs c) (he : SE G N (relS scope sc) (fun x => scope.names.lookup x == some .cell) k elt e) (hs : ∀ env x, foldedSetIterable iter env x = pure x := by intro _ _; rfl) :
    SE G N sc fn k (.ListComp elt [⟨tg, iter, ifs, 0⟩] scope pos) (eLc (own.map (·.2)) gf it c e) := fun X C W tk b => by
  have ok' := blkOk_by ok
  refine PE.imp (pe_lc (own := own) (g := tG sh X.K (own.map (·.2)) gf) (tt := tT X.K X.mg (fun _ _ _ _ => False) c) (te := tE X.K X.mg (fun _ _ _ _ => False) false e) C.calm (by rw [C.hN]; exact C.nd) (hi X C W tk true) (by rw [C.hN, C.hsc]; exact ok') (fun s H C' cl fp => hg _ (C.blk s H scope C' cl fp)) (fun s H C' cl fp => ht _ (C.blk s H scope C' cl fp) (fun _ _ _ _ => False) takes0)
    (fun s H C' cl fp => he _ (C.blk s H scope C' cl fp) (fun _ _ _ _ => False) takes0 false) (hs X.env)) fun σ H Q h => ?_
  obtain ⟨ρ, ow, r, he', gd, post⟩ := h
  unfold eLc at he'
  cases h1 : it true ρ with
  | none => rw [h1] at he'; cases he'
  | some ir =>
    rw [h1] at he'
    cases ir with
    | exc n pl => cases he'; exact ⟨ρ, ow, _, h1, gd, post⟩
    | it xs =>
      simp only at he'
      split at he'
      · rename_i hc
        rw [Bool.and_eq_true, decide_eq_true_eq] at hc
        cases h2 : lcL c e gf (clr ρ (own.map (·.2))) xs with
        | none => rw [h2] at he'; cases he'
        | some ys =>
          rw [h2] at he'
          cases he'
          refine ⟨ρ, ow, _, h1, gd, fun J H' s' wd => ?_⟩
          exact lc_sound (gd.same s') (noOwn_of gd hc.1) wd h2 hc.2 fun p vs H2 s2 hp rv => post _ _ ((s'.trans s2).trans (Same.upd hp)) (.inl (.lst upd_same ((gd.ok.same (s'.trans s2)).new hp) (RpAll.same (Same.upd hp) rv)))
      · cases he'
end
end PT

namespace PT
open PySem PySem.Spec PyProof.Rows L2

/-! ## statements -/
inductive Out where
  | nx (ρ : En)
  | rt (d : Dt)
  | ex (n : Str) (pl : Option Dt)
abbrev SF := En → Option Out
def PostS (K : PySem.W.Frag) (mg : Str → Option Value) (W : WX) (D : Ends) (ow : Ow) (H : Hp) : Out → Prop
  | .nx ρ' => ∀ ow' σ' H', Stp ow H ow' H' → Good K ow' ρ' σ' H' → D.nx σ' H'
  | .rt d => ∀ v H', Kp ow H H' → Rp K ow.x H' v d → D.rt v H'
  | .ex n pl => ∀ cls d σ' H', mg n = some cls → Kp ow H H' → PayOk K H' d pl → W cls d σ' H'
def tS (K : PySem.W.Frag) (mg : Str → Option Value) (W : WX) (g : SF) : TS := fun D σ H => ∃ ρ ow o, g ρ = some o ∧ Good K ow ρ σ H ∧ PostS K mg W D ow H o
theorem PostS.stp {K : PySem.W.Frag} {mg : Str → Option Value} {W : WX} {D : Ends} {ow ow' : Ow} {H H' : Hp} {o : Out} (h : PostS K mg W D ow H o) (s : Stp ow H ow' H') : PostS K mg W D ow' H' o := by
  cases o with
  | nx ρ' => exact fun ow2 σ2 H2 s2 g2 => h ow2 σ2 H2 (s.trans s2) g2
  | rt d => exact fun v H2 k2 r2 => h v H2 (s.kp2 k2) (by rw [← s.ext]; exact r2)
  | ex n pl => exact fun cls d σ2 H2 hc k2 p2 => h cls d σ2 H2 hc (s.kp2 k2) p2
theorem PostS.exp {K : PySem.W.Frag} {mg : Str → Option Value} {W : WX} {D : Ends} {ow : Ow} {H : Hp} {σ : L2.St} {n : Str} {pl : Option Dt} (h : PostS K mg W D ow H (.ex n pl)) : ExP K mg W σ H n pl :=
  fun cls d H' hc s p => h cls d σ H' hc (Same.kp s) p
/-- X is a def's own body (no comprehension's block) -/
structure TopX (X : Cx) : Prop where
  stk : X.stack = X.env :: X.outer
  fr : X.env.frame = some X.env.locals
def SB (G : Gc) (N : List Str) (sc : Scope) (fn : Str → Bool) (k : Nat) (st : List Stmt) (g : SF) : Prop :=
  ∀ X, Ctx G N sc fn k X → TopX X → ∀ W, Takes X W → PassesOwn (model X.prog X.w) X.A X.env X.xe → PSs X st (tS X.K X.mg W g)
def SS (G : Gc) (N : List Str) (sc : Scope) (fn : Str → Bool) (k : Nat) (st : Stmt) (g : SF) : Prop :=
  ∀ X, Ctx G N sc fn k X → TopX X → ∀ W, Takes X W → PassesOwn (model X.prog X.w) X.A X.env X.xe → PS X st (tS X.K X.mg W g)
def sNop : SF := fun ρ => some (.nx ρ)
def sSeq (g h : SF) : SF := fun ρ => match g ρ with
  | some (.nx ρ') => h ρ'
  | y => y
/-- from a value to a statement's end -/
def bndS (x : Option Rs) (k : Dt → Option Out) : Option Out :=
  match x with
  | some (.val d) => k d
  | some (.exc n pl) => some (.ex n pl)
  | none => none
theorem tE.goS {K : PySem.W.Frag} {mg : Str → Option Value} {W : WX} {b : Bool} {f : EF} {ρ : En} {ow : Ow} {σ : L2.St} {H : Hp} {Q : VK} {k : Dt → Option Out} {o : Out} {D : Ends} (g : Good K ow ρ σ H)
    (e : bndS (f b ρ) k = some o) (post : PostS K mg W D ow H o)
    (hv : ∀ d, k d = some o → ∀ v H', Same H H' → RpB b K ow H' v d → Q v H') : tE K mg W b f σ H Q := by
  cases h : f b ρ with
  | none => rw [h] at e; cases e
  | some q =>
    rw [h] at e
    cases q with
    | val d => exact ⟨ρ, ow, .val d, h, g, fun v H' s q => hv d e v H' s q⟩
    | exc n pl =>
      cases e
      exact ⟨ρ, ow, .exc n pl, h, g, post.exp⟩
theorem tT.goS {K : PySem.W.Frag} {mg : Str → Option Value} {W : WX} {f : EF} {ρ : En} {ow : Ow} {σ : L2.St} {H : Hp} {Q : Bool → Hp → Prop} {k : Dt → Option Out} {o : Out} {D : Ends} (g : Good K ow ρ σ H)
    (e : bndS (f true ρ) k = some o) (post : PostS K mg W D ow H o)
    (hv : ∀ d, k d = some o → ∃ c, tru d = some c ∧ ∀ H', Same H H' → Q c H') : tT K mg W f σ H Q := by
  cases h : f true ρ with
  | none => rw [h] at e; cases e
  | some q =>
    rw [h] at e
    cases q with
    | val d => exact ⟨ρ, ow, .val d, h, g, hv d e⟩
    | exc n pl =>
      cases e
      exact ⟨ρ, ow, .exc n pl, h, g, post.exp⟩

/-! ### slots that own -/
def Ow.put (ow : Ow) (i : Nat) (p : Addr) : Ow := { ow with f := fun j => if j = i then some p else ow.f j, g := fun j a => j ≠ i ∧ ow.g j a }
theorem Ow.put_self (ow : Ow) (i : Nat) (p : Addr) : (ow.put i p).f i = some p := by show (if i = i then some p else ow.f i) = _; rw [if_pos rfl]
theorem Ow.put_ne {ow : Ow} {i j : Nat} {p : Addr} (h : j ≠ i) : (ow.put i p).f j = ow.f j := by show (if j = i then some p else ow.f j) = _; rw [if_neg h]
section
variable {K : PySem.W.Frag} {ow : Ow} {ρ : En} {σ : L2.St} {H : Hp}
theorem Ow.put_stp {i : Nat} {p : Addr} {o : HO} (hp : H p = none) : Stp ow H (ow.put i p) (upd H p o) := by
  refine ⟨Same.kp (Same.upd hp), fun a ⟨j, hj⟩ => ?_, rfl⟩
  rcases hj with hj | hj
  · by_cases e : j = i
    · subst e; rw [Ow.put_self] at hj; cases hj; exact .inr hp
    · rw [Ow.put_ne e] at hj; exact .inl ⟨j, .inl hj⟩
  · exact .inl ⟨j, .inr hj.2⟩
theorem Good.setO {i : Nat} {p : Addr} {vs : List V} {ds : List Dt} (g : Good K ow ρ σ H) (hi : i < ρ.length) (hp : H p = none) (r : RpAll K (OA ow) H vs ds) : Good K (ow.put i p) (ρ.set i (some (.own ds))) (σ.set i (some (.ref p))) (upd H p (.lst vs)) := by
  have st : Stp ow H (ow.put i p) (upd H p (.lst vs)) := Ow.put_stp hp
  have tr : ∀ j a, ow.f j = some a → a ≠ p := fun j a h => by
    obtain ⟨ys, hy⟩ := g.ok.lst j a h
    exact ne_of_none hy hp
  have trg : ∀ j a, ow.g j a → a ≠ p := fun j a h e => g.ok.new hp (.inl ⟨j, .inr (by rw [← e]; exact h)⟩)
  refine ⟨by rw [List.length_set, List.length_set]; exact g.len, fun j l a h1 h2 => ?_, ⟨fun j a h => ?_, fun a h => Same.dom (Same.upd hp) a (g.ok.ext a h), fun j a h => by rw [upd_ne (trg j a h.2)]; exact g.ok.gs j a h.2⟩, fun j a h q => ?_, fun j s h => ?_, fun j a h => ?_,
    fun j l a h1 h2 => g.ginj j l a h1.2 h2.2, fun j l a h1 h2 => ?_, fun j a h => g.gx j a h.2, fun j a h => by rw [List.getElem?_set_ne fun e => h.1 e.symm]; exact g.ghas j a h.2⟩
  · by_cases e1 : j = i <;> by_cases e2 : l = i
    · rw [e1, e2]
    · subst e1; rw [Ow.put_self] at h1; cases h1; rw [Ow.put_ne e2] at h2; exact absurd rfl (tr l _ h2)
    · subst e2; rw [Ow.put_self] at h2; cases h2; rw [Ow.put_ne e1] at h1; exact absurd rfl (tr j _ h1)
    · rw [Ow.put_ne e1] at h1; rw [Ow.put_ne e2] at h2; exact g.inj j l a h1 h2
  · by_cases e1 : j = i
    · subst e1; rw [Ow.put_self] at h; cases h; exact ⟨vs, upd_same⟩
    · rw [Ow.put_ne e1] at h
      obtain ⟨ys, hy⟩ := g.ok.lst j a h
      exact ⟨ys, by rw [upd_ne (tr j a h)]; exact hy⟩
  · by_cases e1 : j = i
    · subst e1; rw [Ow.put_self] at h; cases h; exact g.ok.ext _ q hp
    · rw [Ow.put_ne e1] at h; exact g.disj j a h q
  · by_cases e1 : i = j
    · subst e1
      rw [List.getElem?_set_self hi] at h
      cases h
      exact ⟨.ref p, List.getElem?_set_self (by rw [← g.len]; exact hi), p, vs, rfl, Ow.put_self .., upd_same, RpAll.stp g.ok st r⟩
    · rw [List.getElem?_set_ne e1] at h
      rw [List.getElem?_set_ne e1]
      obtain ⟨v, hv, q⟩ := g.slot j s h
      exact ⟨v, hv, q.stp g.ok st (fun _ _ => Ow.put_ne fun e => e1 e.symm) (fun a ha o e => by rw [upd_ne (tr j a ha)]; exact e) fun a ha => ⟨⟨fun e => e1 e.symm, ha⟩, fun o e => by rw [upd_ne (trg j a ha)]; exact e⟩⟩
  · by_cases e1 : i = j
    · subst e1; exact ⟨ds, List.getElem?_set_self hi⟩
    · rw [Ow.put_ne fun e => e1 e.symm] at h
      rw [List.getElem?_set_ne e1]
      exact g.has j a h
  · by_cases e1 : l = i
    · subst e1; rw [Ow.put_self] at h2; cases h2; exact trg j _ h1.2 rfl
    · rw [Ow.put_ne e1] at h2; exact g.gf j l a h1.2 h2
/-- an owned list changes -/
theorem Ow.mut_stp {i : Nat} {a : Addr} {o : HO} (hi : ow.f i = some a) : Stp ow H ow (upd H a o) := by
  refine ⟨⟨fun b u h n => ?_, fun b h => ?_⟩, fun b h => .inl h, rfl⟩
  · rw [upd_ne fun e => n ⟨i, .inl (by rw [e]; exact hi)⟩]; exact h
  · by_cases e : b = a
    · rw [e, upd_same]; exact fun z => nomatch z
    · rw [upd_ne e]; exact h
theorem Good.mut {i : Nat} {a : Addr} {vs : List V} {ds : List Dt} (g : Good K ow ρ σ H) (ha : ow.f i = some a) (r : RpAll K (OA ow) H vs ds) : Good K ow (ρ.set i (some (.own ds))) σ (upd H a (.lst vs)) := by
  have st : Stp ow H ow (upd H a (.lst vs)) := Ow.mut_stp ha
  have hi : i < ρ.length := by
    obtain ⟨xs, hx⟩ := g.has i a ha
    exact (List.getElem?_eq_some_iff.mp hx).1
  have trg : ∀ j b, ow.g j b → b ≠ a := fun j b h e => g.gf j i b h (by rw [e]; exact ha)
  refine ⟨by rw [List.length_set]; exact g.len, g.inj, ⟨fun j b h => ?_, fun b h => st.kp.dom b (g.ok.ext b h), fun j b h => by rw [upd_ne (trg j b h)]; exact g.ok.gs j b h⟩, g.disj, fun j s h => ?_, fun j b h => ?_, g.ginj, g.gf, g.gx, fun j b h => ?_⟩
  · by_cases e : b = a
    · subst e; exact ⟨vs, upd_same⟩
    · obtain ⟨ys, hy⟩ := g.ok.lst j b h
      exact ⟨ys, by rw [upd_ne e]; exact hy⟩
  · by_cases e1 : i = j
    · subst e1
      rw [List.getElem?_set_self hi] at h
      cases h
      obtain ⟨xs, hx⟩ := g.has i a ha
      obtain ⟨v, hv, a', vs', rfl, h2, h3, h4⟩ := g.slot i _ hx
      rw [ha] at h2
      cases h2
      exact ⟨_, hv, a, vs, rfl, ha, upd_same, RpAll.stp g.ok st r⟩
    · rw [List.getElem?_set_ne e1] at h
      obtain ⟨v, hv, q⟩ := g.slot j s h
      refine ⟨v, hv, q.stp g.ok st (fun _ _ => rfl) (fun b hb o e => ?_) fun b hb => ⟨hb, fun o e => by rw [upd_ne (trg j b hb)]; exact e⟩⟩
      rw [upd_ne fun z => e1 (g.inj i j a ha (by rw [← z]; exact hb))]
      exact e
  · by_cases e1 : i = j
    · subst e1; exact ⟨ds, List.getElem?_set_self hi⟩
    · rw [List.getElem?_set_ne e1]; exact g.has j b h
  · have e1 : i ≠ j := fun e => by
      subst e
      obtain ⟨xs, hx⟩ := g.has i a ha
      obtain ⟨m, es, hs, hy⟩ := g.ghas i b h
      rw [hx] at hy
      cases hy
    rw [List.getElem?_set_ne e1]
    exact g.ghas j b h
/-- a slot gives up what it owns -/
def unown (i : Nat) (ρ : En) : En := match ρ[i]? with
  | some (some (.own xs)) => ρ.set i (some (.sh (.list xs)))
  | _ => ρ
/-- only what a slot's list is -/
def Ow.clf (ow : Ow) (i : Nat) : Ow := { ow with f := fun j => if j = i then none else ow.f j }
theorem Good.unown (g : Good K ow ρ σ H) (i : Nat) (hg : ∀ a, ¬ ow.g i a) : Good K (ow.clr [i]) (PT.unown i ρ) σ H := by
  have st := Ow.clr_stp ow [i] H
  unfold PT.unown
  split
  · rename_i xs hx
    have hi : i < ρ.length := (List.getElem?_eq_some_iff.mp hx).1
    refine ⟨by rw [List.length_set]; exact g.len, fun j l a h1 h2 => g.inj j l a (Ow.clr_some h1).1 (Ow.clr_some h2).1, ⟨fun j a h => g.ok.lst j a (Ow.clr_some h).1, g.ok.ext, fun j a h => g.ok.gs j a h.2⟩, fun j a h => g.disj j a (Ow.clr_some h).1, fun j s h => ?_, fun j a h => ?_,
      fun j l a h1 h2 => g.ginj j l a h1.2 h2.2, fun j l a h1 h2 => g.gf j l a h1.2 (Ow.clr_some h2).1, fun j a h => g.gx j a h.2, fun j a h => by rw [List.getElem?_set_ne fun e => h.1 (by rw [e]; exact List.mem_cons_self)]; exact g.ghas j a h.2⟩
    · by_cases e1 : i = j
      · subst e1
        rw [List.getElem?_set_self hi] at h
        cases h
        obtain ⟨v, hv, a, vs, rfl, h2, h3, h4⟩ := g.slot i _ hx
        refine ⟨_, hv, .lst h3 (fun q => ?_) (RpAll.stp g.ok st h4)⟩
        rcases q with ⟨j, hj | hj⟩ | q
        · obtain ⟨h5, h6⟩ := Ow.clr_some hj
          exact h6 (by rw [g.inj j i a h5 h2]; exact List.mem_cons_self)
        · exact g.gf j i a hj.2 h2
        · exact g.disj i a h2 q
      · rw [List.getElem?_set_ne e1] at h
        obtain ⟨v, hv, q⟩ := g.slot j s h
        exact ⟨v, hv, q.stp g.ok st (fun _ _ => by show (if j ∈ [i] then none else ow.f j) = _; rw [if_neg (by simp; exact fun e => e1 e.symm)]) (fun _ _ _ e => e) fun a ha => ⟨⟨by simp; exact fun e => e1 e.symm, ha⟩, fun _ e => e⟩⟩
    · obtain ⟨h1, h2⟩ := Ow.clr_some h
      have : i ≠ j := fun e => h2 (by rw [e]; exact List.mem_cons_self)
      rw [List.getElem?_set_ne this]
      exact g.has j a h1
  · rename_i hn
    have hf : ow.f i = none := by
      cases e : ow.f i with
      | none => rfl
      | some a => obtain ⟨xs, hx⟩ := g.has i a e; exact absurd hx (hn xs)
    refine ⟨g.len, fun j l a h1 h2 => g.inj j l a (Ow.clr_some h1).1 (Ow.clr_some h2).1, ⟨fun j a h => g.ok.lst j a (Ow.clr_some h).1, g.ok.ext, fun j a h => g.ok.gs j a h.2⟩, fun j a h => g.disj j a (Ow.clr_some h).1, fun j s h => ?_, fun j a h => g.has j a (Ow.clr_some h).1,
      fun j l a h1 h2 => g.ginj j l a h1.2 h2.2, fun j l a h1 h2 => g.gf j l a h1.2 (Ow.clr_some h2).1, fun j a h => g.gx j a h.2, fun j a h => g.ghas j a h.2⟩
    obtain ⟨v, hv, q⟩ := g.slot j s h
    refine ⟨v, hv, q.stp g.ok st (fun xs e => ?_) (fun _ _ _ e => e) fun a ha => ⟨⟨fun z => hg a (by rw [← List.mem_singleton.mp z]; exact ha), ha⟩, fun _ e => e⟩⟩
    have : j ≠ i := fun z => by subst z; subst e; exact hn xs h
    show (if j ∈ [i] then none else ow.f j) = _
    rw [if_neg (by simpa using this)]
theorem Good.unownE (g : Good K ow ρ σ H) (i : Nat) : ∃ ow', Stp ow H ow' H ∧ Good K ow' (PT.unown i ρ) σ H := by
  by_cases hg : ∃ a, ow.g i a
  · obtain ⟨a, ha⟩ := hg
    obtain ⟨m, es, hs, hx⟩ := g.ghas i a ha
    refine ⟨ow, Stp.refl ow H, ?_⟩
    unfold PT.unown
    rw [hx]
    exact g
  · exact ⟨_, Ow.clr_stp ow [i] H, g.unown i fun a ha => hg ⟨a, ha⟩⟩
/-- a slot is given data -/
theorem Good.setA {i : Nat} {v : V} {d : Dt} (g : Good K ow ρ σ H) (r : Rp K (OA ow) H v d) : Good K (ow.clr [i]) (ρ.set i (some (.sh d))) (σ.set i (some v)) H := by
  have g1 := g.clr [i]
  have r1 : Rp K (OA (ow.clr [i])) H v d := Rp.stp g.ok (Ow.clr_stp ow [i] H) r
  have g2 := g1.set (i := i) (Ow.clr_none i List.mem_cons_self) r1
  have e : (PT.clr ρ [i]).set i (some (.sh d)) = ρ.set i (some (.sh d)) := by
    show (ρ.set i none).set i (some (SV.sh d)) = _
    rw [List.set_set]
  rw [e] at g2
  exact g2
end

section
variable {G : Gc} {N : List Str} {sc : Scope} {fn : Str → Bool} {k : Nat} {pos p p2 : Pos} {st : Stmt} {rest : List Stmt} {a b c : Expr} {f g h : EF} {s1 s2 : SF}
theorem sb_nil : SB G N sc fn k [] sNop := fun X C T W tk hp => PSs.imp pss_nil fun D σ H h => by
  obtain ⟨ρ, ow, o, he, gd, post⟩ := h
  cases he
  exact post ow σ H (Stp.refl ow H) gd
theorem sb_cons (h1 : SS G N sc fn k st s1) (h2 : SB G N sc fn k rest s2) : SB G N sc fn k (st :: rest) (sSeq s1 s2) := fun X C T W tk hp => PSs.imp (pss_cons (h1 X C T W tk hp) (h2 X C T W tk hp)) fun D σ H h => by
  obtain ⟨ρ, ow, o, he, gd, post⟩ := h
  unfold sSeq at he
  cases h1 : s1 ρ with
  | none => rw [h1] at he; cases he
  | some o1 =>
    rw [h1] at he
    refine ⟨ρ, ow, o1, h1, gd, ?_⟩
    cases o1 with
    | nx ρ1 => exact fun ow' σ' H' st' g' => ⟨ρ1, ow', o, he, g', post.stp st'⟩
    | rt d => cases he; exact post
    | ex n pl => cases he; exact post
theorem sb_one (h1 : SS G N sc fn k st s1) : SB G N sc fn k [st] s1 := fun X C T W tk hp => pss_one (h1 X C T W tk hp)
theorem ss_pass : SS G N sc fn k (.Pass pos) sNop := fun X C T W tk hp => PS.imp ps_pass fun D σ H h => by
  obtain ⟨ρ, ow, o, he, gd, post⟩ := h
  cases he
  exact post ow σ H (Stp.refl ow H) gd
theorem ss_unown (i : Nat) (h : SS G N sc fn k st s1) : SS G N sc fn k st (fun ρ => s1 (unown i ρ)) := fun X C T W tk hp => PS.imp (h X C T W tk hp) fun D σ H h => by
  obtain ⟨ρ, ow, o, he, gd, post⟩ := h
  obtain ⟨ow', st', g'⟩ := gd.unownE i
  exact ⟨_, _, o, he, g', post.stp st'⟩
/-! ### x = e -/
def SAg (G : Gc) (N : List Str) (sc : Scope) (fn : Str → Bool) (k : Nat) (y : Str) (i : Nat) (e : Expr) (f : EF) : Prop :=
  ∀ X, Ctx G N sc fn k X → ∀ W, Takes X W → ∀ py spos, PS X (.Assign [.Name y py] e spos) (tAsg (tE X.K X.mg W false f) (gName i))
def SAgL (G : Gc) (N : List Str) (sc : Scope) (fn : Str → Bool) (k : Nat) (y : Str) (i : Nat) (e : Expr) (f : EF) : Prop :=
  ∀ X, Ctx G N sc fn k X → ∀ W, Takes X W → ∀ py spos, PS X (.Assign [.Name y py] e spos) (tAsg (tL X.K X.mg W f) (gName i))
def SL (G : Gc) (N : List Str) (sc : Scope) (fn : Str → Bool) (k : Nat) (e : Expr) (f : EF) : Prop :=
  ∀ X, Ctx G N sc fn k X → ∀ W, Takes X W → PE X e (tL X.K X.mg W f)
theorem ag_of (i : Nat) {y : Str} (he : SE G N sc fn k a f) (hi : N[i]? = some y := by rfl) (hx : Loc sc y := by first | exact Or.inl rfl | exact Or.inr rfl) (hf : fn y = true ∨ sc.names.lookup y = some .local := by first | exact .inl rfl | exact .inr rfl)
    (hs : ∀ (py : Pos) (l : Nat) (env : PySem.Env), swapsWith a (some (.Name y py)) l env = pure false := by intro _ _ _; rfl) : SAg G N sc fn k y i a f := fun X C W tk py spos =>
  ps_set (by rw [C.hN]; exact C.nd) (by rw [C.hN]; exact hi) (by rw [C.hsc]; exact hx) (he X C W tk false) (hs py spos.line X.env) (by rw [C.hfn, C.hsc]; exact hf)
theorem agL_of (i : Nat) {y : Str} (he : SL G N sc fn k a f) (hi : N[i]? = some y := by rfl) (hx : Loc sc y := by first | exact Or.inl rfl | exact Or.inr rfl) (hf : fn y = true ∨ sc.names.lookup y = some .local := by first | exact .inl rfl | exact .inr rfl)
    (hs : ∀ (py : Pos) (l : Nat) (env : PySem.Env), swapsWith a (some (.Name y py)) l env = pure false := by intro _ _ _; rfl) : SAgL G N sc fn k y i a f := fun X C W tk py spos =>
  ps_set (by rw [C.hN]; exact C.nd) (by rw [C.hN]; exact hi) (by rw [C.hsc]; exact hx) (he X C W tk) (hs py spos.line X.env) (by rw [C.hfn, C.hsc]; exact hf)
def sSet (i : Nat) (f : EF) : SF := fun ρ => bndS (f false ρ) fun d => some (.nx (ρ.set i (some (.sh d))))
def sSetO (i : Nat) (f : EF) : SF := fun ρ => bndS (f true ρ) fun d => match d with
  | .list ds => if i < ρ.length then some (.nx (ρ.set i (some (.own ds)))) else none
  | _ => none
theorem ss_set {i : Nat} {y : Str} (h : SAg G N sc fn k y i a f) : SS G N sc fn k (.Assign [.Name y p] a pos) (sSet i f) := fun X C T W tk hp => PS.imp (h X C W tk p pos) fun D σ H h => by
  obtain ⟨ρ, ow, o, he, gd, post⟩ := h
  refine tE.goS gd he post fun d hd v H1 s1 r1 => ?_
  cases hd
  exact post (ow.clr [i]) _ H1 ((Same.stp s1).trans (Ow.clr_stp ow [i] H1)) ((gd.same s1).setA r1.rp)
theorem ss_setO {i : Nat} {y : Str} (h : SAgL G N sc fn k y i a f) : SS G N sc fn k (.Assign [.Name y p] a pos) (sSetO i f) := fun X C T W tk hp => PS.imp (h X C W tk p pos) fun D σ H h => by
  obtain ⟨ρ, ow, o, he, gd, post⟩ := h
  unfold sSetO at he
  cases h1 : f true ρ with
  | none => rw [h1] at he; cases he
  | some r1 =>
    rw [h1] at he
    cases r1 with
    | exc n pl => cases he; exact ⟨ρ, ow, _, h1, gd, post.exp⟩
    | val d =>
      simp only [bndS] at he
      split at he
      · rename_i ds
        split at he
        · rename_i hi
          cases he
          exact ⟨ρ, ow, _, h1, gd, ds, rfl, fun q vs H1 s1 hq r1 => post _ _ _ ((Same.stp s1).trans (Ow.put_stp hq)) ((gd.same s1).setO hi hq r1)⟩
        · cases he
      · cases he
/-! fresh lists -/
theorem sl_lst {es : List Expr} {ar : AF} (h : SAs G N sc fn k es ar) : SL G N sc fn k (.List es pos) (eLst ar) := fun X C W tk => PE.imp (pe_lst (h.pa X C W tk)) fun σ H Q h => by
  obtain ⟨ρ, ow, rs, he, gd, post⟩ := h
  refine tA.go gd he (fun n pl e => by subst e; exact post) fun ds hd vs H1 s1 r1 => ?_
  split at hd
  · rename_i hz
    cases hd
    obtain ⟨ds', e, post⟩ := post
    cases e
    exact ⟨by rw [r1.length]; exact lim_le hz, fun p hp => post p vs H1 s1 hp r1⟩
  · cases hd
theorem sl_list (B : Bi G) (ha : SE G N sc fn k a f) (hg : GL sc "list" := by rfl) (ns : NS a := by intro _ _; rfl) : SL G N sc fn k (.Call (.Name "list" p) [a] [] pos) (eUn dList f) := fun X C W tk =>
  PE.imp (pe_callTy call_list_of (C.gl hg) (by rw [C.hmg]; exact B.list) PyProof.Rows.boot_list (pa_cons (ha X C W tk true) pa_nil (ns [] X.env)) (by decide) (by decide) (ns [] X.env) rfl) fun σ H Q h => by
    obtain ⟨ρ, ow, rs, he, gd, post⟩ := h
    refine tE.go gd he (fun n pl e => by subst e; exact post) fun d hd1 v H1 s1 r1 => ?_
    unfold dList at hd1
    split at hd1
    · cases hd1
      obtain ⟨ds', e, post⟩ := post
      cases e
      obtain ⟨q, vs, rfl, h1, r⟩ := r1.list
      exact ⟨q, vs, rfl, .inl (SqL.of h1), fun l hl => post l vs H1 s1 hl r⟩
    · cases hd1
      obtain ⟨ds', e, post⟩ := post
      cases e
      obtain ⟨q, vs, rfl, h1, r⟩ := r1.tuple
      exact ⟨q, vs, rfl, .inr (h1.sq), fun l hl => post l vs H1 s1 hl r⟩
    · cases hd1
theorem tL_op {K : PySem.W.Frag} {mg : Str → Option Value} {W : WX} {op : Dt → Dt → Option Dt} {r : R2} {σ : L2.St} {H : Hp} {Q : VK} (h : tL K mg W (eBin op f g) σ H Q)
    (hr : ∀ x y H1 ow dx dy ds, RpB true K ow H1 x dx → RpB true K ow H1 y dy → op dx dy = some (.list ds) → (∀ p vs, H1 p = none → RpAll K (OA ow) H1 vs ds → Q (.ref p) (upd H1 p (.lst vs))) → r x y H1 Q) : tOp r (tE K mg W true f) (tE K mg W true g) σ H Q := by
  obtain ⟨ρ, ow, rs, he, gd, post⟩ := h
  refine tE.go gd he (fun n pl e => by subst e; exact post) fun d hd1 v H1 s1 r1 => ?_
  refine tE.go (gd.same s1) hd1 (fun n pl e => by subst e; exact ExP.same post s1) fun d2 hd2 v2 H2 s2 r2 => ?_
  cases hz : op d d2 with
  | none => rw [hz] at hd2; cases hd2
  | some dz =>
    rw [hz] at hd2
    cases hd2
    obtain ⟨ds, rfl, post⟩ := post
    exact hr v v2 H2 ow d d2 ds (r1.same s2) r2 hz fun p vs hp rv => post p vs H2 (s1.trans s2) hp rv
theorem sl_add (ha : SE G N sc fn k a f) (hb : SE G N sc fn k b g) : SL G N sc fn k (.BinOp a .Add b pos) (eBin dAdd f g) := fun X C W tk => PE.imp (pe_op op_cat (ha X C W tk true) (hb X C W tk true)) fun σ H Q h => tL_op h fun x y H1 ow dx dy ds rx ry e post => by
  unfold dAdd at e
  split at e
  · cases e
  · split at e <;> cases e
  · split at e
    · rename_i hz
      cases e
      obtain ⟨a, vs, rfl, h1, r1⟩ := rx.list
      obtain ⟨b, ws, rfl, h2, r2⟩ := ry.list
      exact ⟨a, b, vs, ws, rfl, rfl, h1, h2, by rw [r1.length, r2.length]; exact lim_le hz, fun p hp => post p _ hp (r1.append r2)⟩
    · cases e
  · split at e <;> cases e
  · cases e
theorem sl_mul (ha : SE G N sc fn k a f) (hb : SE G N sc fn k b g) : SL G N sc fn k (.BinOp a .Mult b pos) (eBin dMul f g) := fun X C W tk => PE.imp (pe_op op_rep (ha X C W tk true) (hb X C W tk true)) fun σ H Q h => tL_op h fun x y H1 ow dx dy ds rx ry e post => by
  unfold dMul at e
  split at e
  · split at e <;> cases e
  · split at e
    · rename_i xs j hz
      cases e
      obtain ⟨a, vs, rfl, h1, r1⟩ := rx.list
      obtain rfl := ry.int
      have hz2 := okI_iff.mp hz.2
      exact ⟨a, j, vs, rfl, rfl, h1, by omega, by omega, by rw [r1.length]; exact lim_le hz.1, fun p hp => post p _ hp (r1.rep _)⟩
    · cases e
  · split at e <;> cases e
  · cases e
theorem sl_sl {lo hi : Option Expr} {ol oh : En → Option (Option Int)} (ha : SE G N sc fn k a f) (hl : SO G N sc fn k lo ol) (hh : SO G N sc fn k hi oh) : SL G N sc fn k (.Subscript a (.Slice lo hi none p2) pos) (eSl f ol oh) := fun X C W tk =>
  PE.imp (pe_slice L2.sl_list (ha X C W tk true) (hl X C W tk) (hh X C W tk)) fun σ H Q h => by
    obtain ⟨ρ, ow, rs, he, gd, post⟩ := h
    refine tE.go gd he (fun n pl e => by subst e; exact post) fun d hd1 v H1 s1 r1 => ?_
    split at hd1
    · rename_i l u hl hu
      refine ⟨ρ, ow, l, hl, gd.same s1, fun H2 s2 => ⟨ρ, ow, u, hu, gd.same (s1.trans s2), fun H3 s3 => ?_⟩⟩
      have r3 := r1.same (s2.trans s3)
      cases d with
      | list xs =>
        cases hd1
        obtain ⟨ds, e, post⟩ := post
        cases e
        obtain ⟨a, vs, rfl, h1, r⟩ := r3.list
        exact ⟨a, vs, rfl, SqL.of h1, fun p hp => post p _ H3 ((s1.trans s2).trans s3) hp (r.cut l u)⟩
      | tuple xs => cases hd1; obtain ⟨ds, e, post⟩ := post; cases e
      | str z =>
        simp only [dSl] at hd1
        split at hd1
        · cases hd1; obtain ⟨ds, e, post⟩ := post; cases e
        · cases hd1
      | none => cases hd1
      | bool _ => cases hd1
      | int _ => cases hd1
      | dict _ => cases hd1
    · cases hd1
/-! a comprehension given to a name -/
section
variable {elt iter tg : Expr} {ifs : List Expr} {scope : Scope} {own : List (Str × Nat)} {it : IF} {gf : GF} {cf ef : EF} {y : Str} {py spos : Pos}
theorem tLc_val {X : Cx} {W : WX} {σ : L2.St} {H : Hp} {Q : VK} {ρ : En} {ow : Ow} {r : Rs} (he' : eLc (own.map (·.2)) gf it cf ef false ρ = some r) (gd : Good X.K ow ρ σ H)
    (hx : ∀ n pl, r = .exc n pl → ExP X.K X.mg W σ H n pl)
    (hv : ∀ ys, r = .val (.list ys) → ∀ p vs H2, Same H H2 → H2 p = none → RpAll X.K (OA ow) H2 vs ys → Q (.ref p) (upd H2 p (.lst vs))) :
    tLc (tI sh X.K X.mg W true it) (tG sh X.K (own.map (·.2)) gf) (tT X.K X.mg (fun _ _ _ _ => False) cf) (tE X.K X.mg (fun _ _ _ _ => False) false ef) (own.map (·.2)) σ H Q := by
  unfold eLc at he'
  cases h1 : it true ρ with
  | none => rw [h1] at he'; cases he'
  | some ir =>
    rw [h1] at he'
    cases ir with
    | exc n pl => cases he'; exact ⟨ρ, ow, _, h1, gd, hx n pl rfl⟩
    | it xs =>
      simp only at he'
      split at he'
      · rename_i hc
        rw [Bool.and_eq_true, decide_eq_true_eq] at hc
        cases h2 : lcL cf ef gf (clr ρ (own.map (·.2))) xs with
        | none => rw [h2] at he'; cases he'
        | some ys =>
          rw [h2] at he'
          cases he'
          refine ⟨ρ, ow, _, h1, gd, fun J H' s' wd => ?_⟩
          exact lc_sound (gd.same s') (noOwn_of gd hc.1) wd h2 hc.2 fun p vs H2 s2 hp rv => hv ys rfl p vs H2 (s'.trans s2) hp rv
      · cases he'
theorem eLc_val {sl : List Nat} {b : Bool} {ρ : En} {d : Dt} (h : eLc sl gf it cf ef b ρ = some (.val d)) : ∃ ys, d = .list ys := by
  unfold eLc at h
  split at h
  · split at h
    · cases e : lcL cf ef gf (clr ρ sl) _ with
      | none => rw [e] at h; cases h
      | some ys => rw [e] at h; cases h; exact ⟨ys, rfl⟩
    · cases h
  · cases h
  · cases h
theorem ag_lc (i : Nat) (hi : SI G N sc fn k sh tg iter it) (ok : blkC N sc scope own = true) (hg : SG G N (relS scope sc) (fun x => scope.names.lookup x == some .cell) k sh tg (own.map (·.2)) gf)
    (ht : STs G N (relS scope sc) (fun x => scope.names.lookup x == some .cell) k ifs cf) (he : SE G N (relS scope sc) (fun x => scope.names.lookup x == some .cell) k elt ef)
    (hy : N[i]? = some y := by rfl) (hyl : sc.names.lookup y = some .local := by rfl) (hk : sc.kind = .function := by rfl) (ha : (scope.names.any fun (n, k) => n == y && (k == .local || k == .cell)) = false := by decide +kernel) (hln : (p.line == pos.line) = true := by rfl) (hs : ∀ env x, foldedSetIterable iter env x = pure x := by intro _ _; rfl) :
    SS G N sc fn k (.Assign [.Name y p] (.ListComp elt [⟨tg, iter, ifs, 0⟩] scope pos) spos) (sSet i (eLc (own.map (·.2)) gf it cf ef)) := fun X C T W tk hp => by
  have ok' := blkOk_by ok
  refine PS.imp (ps_setLc (i := i) (own := own) (g := tG sh X.K (own.map (·.2)) gf) (tt := tT X.K X.mg (fun _ _ _ _ => False) cf) (te := tE X.K X.mg (fun _ _ _ _ => False) false ef) C.calm (by rw [C.hN]; exact C.nd) (by rw [C.hN]; exact hy) (by rw [C.hsc]; exact hyl)
    (sw_true (by rw [C.hsc]; exact hk) (by rw [C.hsc]; exact hyl) hln ha) (hi X C W tk true) (by rw [C.hN, C.hsc]; exact ok') (fun s H C' cl fp => hg _ (C.blk s H scope C' cl fp)) (fun s H C' cl fp => ht _ (C.blk s H scope C' cl fp) (fun _ _ _ _ => False) takes0)
    (fun s H C' cl fp => he _ (C.blk s H scope C' cl fp) (fun _ _ _ _ => False) takes0 false) (hs X.env)) fun D σ H h => ?_
  obtain ⟨ρ, ow, o, he', gd, post⟩ := h
  unfold sSet at he'
  cases h1 : eLc (own.map (·.2)) gf it cf ef false ρ with
  | none => rw [h1] at he'; cases he'
  | some r =>
    rw [h1] at he'
    refine tLc_val (W := W) h1 gd (fun n pl e => ?_) fun ys e p vs H2 s2 hp rv => ?_
    · subst e; cases he'; exact post.exp
    · subst e
      cases he'
      have s3 : Same H (upd H2 p (.lst vs)) := s2.trans (Same.upd hp)
      exact post (ow.clr [i]) _ _ ((Same.stp s3).trans (Ow.clr_stp ow [i] _)) ((gd.same s3).setA (.lst upd_same ((gd.ok.same s2).new hp) (RpAll.same (Same.upd hp) rv)))
theorem ag_lcO (i : Nat) (hi : SI G N sc fn k sh tg iter it) (ok : blkC N sc scope own = true) (hg : SG G N (relS scope sc) (fun x => scope.names.lookup x == some .cell) k sh tg (own.map (·.2)) gf)
    (ht : STs G N (relS scope sc) (fun x => scope.names.lookup x == some .cell) k ifs cf) (he : SE G N (relS scope sc) (fun x => scope.names.lookup x == some .cell) k elt ef)
    (hy : N[i]? = some y := by rfl) (hyl : sc.names.lookup y = some .local := by rfl) (hk : sc.kind = .function := by rfl) (ha : (scope.names.any fun (n, k) => n == y && (k == .local || k == .cell)) = false := by decide +kernel) (hln : (p.line == pos.line) = true := by rfl) (hs : ∀ env x, foldedSetIterable iter env x = pure x := by intro _ _; rfl) :
    SS G N sc fn k (.Assign [.Name y p] (.ListComp elt [⟨tg, iter, ifs, 0⟩] scope pos) spos) (sSetO i (eLc (own.map (·.2)) gf it cf ef)) := fun X C T W tk hp => by
  have ok' := blkOk_by ok
  refine PS.imp (ps_setLc (i := i) (own := own) (g := tG sh X.K (own.map (·.2)) gf) (tt := tT X.K X.mg (fun _ _ _ _ => False) cf) (te := tE X.K X.mg (fun _ _ _ _ => False) false ef) C.calm (by rw [C.hN]; exact C.nd) (by rw [C.hN]; exact hy) (by rw [C.hsc]; exact hyl)
    (sw_true (by rw [C.hsc]; exact hk) (by rw [C.hsc]; exact hyl) hln ha) (hi X C W tk true) (by rw [C.hN, C.hsc]; exact ok') (fun s H C' cl fp => hg _ (C.blk s H scope C' cl fp)) (fun s H C' cl fp => ht _ (C.blk s H scope C' cl fp) (fun _ _ _ _ => False) takes0)
    (fun s H C' cl fp => he _ (C.blk s H scope C' cl fp) (fun _ _ _ _ => False) takes0 false) (hs X.env)) fun D σ H h => ?_
  obtain ⟨ρ, ow, o, he', gd, post⟩ := h
  unfold sSetO at he'
  cases h1 : eLc (own.map (·.2)) gf it cf ef true ρ with
  | none => rw [h1] at he'; cases he'
  | some r =>
    rw [h1] at he'
    refine tLc_val (W := W) h1 gd (fun n pl e => ?_) fun ys e p vs H2 s2 hp rv => ?_
    · subst e; cases he'; exact post.exp
    · subst e
      simp only [bndS] at he'
      split at he'
      · rename_i hi
        cases he'
        exact post _ _ _ ((Same.stp s2).trans (Ow.put_stp hp)) ((gd.same s2).setO hi hp rv)
      · cases he'
end
end
end PT

namespace PT
open PySem PySem.Spec PyProof.Rows L2
section
variable {G : Gc} {N : List Str} {sc : Scope} {fn : Str → Bool} {k : Nat} {pos p p2 q1 q2 q3 : Pos} {st : Stmt} {rest : List Stmt} {a b c : Expr} {f g h : EF} {s1 s2 : SF}
/-! ### unpacking a tuple -/
def sUnp (sl : List Nat) (gf : GF) (f : EF) : SF := fun ρ => bndS (f false ρ) fun d => (gf d (clr ρ sl)).map .nx
theorem ss_unp {tg : Expr} {sl : List Nat} {gf : GF} (he : SE G N sc fn k a f) (hg : SG G N sc fn k .d tg sl gf)
    (hs : ∀ (l : Nat) (env : PySem.Env), swapsWithSole [tg] a l env = pure false := by intro _ _; rfl) (hw : ∀ env : PySem.Env, swappedStores [tg] a env = pure none := by intro _; rfl)
    (h1 : ∀ env : PySem.Env, (assignEach [tg] env).map (·.2) = [assign tg env] := by intro _; rfl) : SS G N sc fn k (.Assign [tg] a pos) (sUnp sl gf f) := fun X C T W tk hp =>
  PS.imp (ps_asg (he X C W tk false) (hg X C) (hs _ X.env) (hw X.env) (h1 X.env)) fun D σ H h => by
    obtain ⟨ρ, ow, o, he, gd, post⟩ := h
    refine tE.goS gd he post fun d hd v H1 s1 r1 => ?_
    cases hz : gf d (clr ρ sl) with
    | none => rw [hz] at hd; cases hd
    | some ρ1 =>
      rw [hz] at hd
      cases hd
      have g1 := (gd.same s1).clr sl
      exact ⟨clr ρ sl, ow.clr sl, d, ρ1, Ow.clr_none, hz, g1, Rp.stp (gd.ok.same s1) (Ow.clr_stp ow sl H1) r1.rp, fun σ' g' _ _ => post _ σ' H1 ((Same.stp s1).trans (Ow.clr_stp ow sl H1)) g'⟩
theorem sw_const {x y : Str} {px py : Pos} {kt k2 j1 j2 : Nat} {pt pt2 : Pos} {c1 c2 : Const} (env : PySem.Env) :
    swappedStores [.Tuple [.Name x px, .Name y py] kt pt] (.Tuple [.Constant c1 j1 q1, .Constant c2 j2 q2] k2 pt2) env = pure none := by
  unfold swappedStores
  simp [foldedForSure]
/-! ### a, b = e1, e2 -/
def sPar (i j : Nat) (f g : EF) : SF := fun ρ => bndS (f false ρ) fun x => bndS (g false ρ) fun y => if i < ρ.length then some (.nx ((ρ.set i (some (.sh x))).set j (some (.sh y)))) else none
theorem sw_par {x y : Str} {px py : Pos} {kt k2 : Nat} {pt pt2 : Pos} {env : PySem.Env} (hk : env.scope.kind = .function) (hx : env.scope.names.lookup x = some .local) (hy : env.scope.names.lookup y = some .local) (hl : (px.line == py.line) = true) (hxy : (x == y) = false)
    (hst : ([a, b].any fun | .Starred .. => true | _ => false) = false) (hc : [a, b].all (constantsAlone 8) = false) (hf : [a, b].all (foldedForSure 8) = false) :
    swappedStores [.Tuple [.Name x px, .Name y py] kt pt] (.Tuple [a, b] k2 pt2) env = pure (some [x, y]) := by
  have hb : env.blockKind = .function := by unfold Env.blockKind; rw [hk]; rfl
  have kx : env.kindOf x = some .local := hx
  have ky : env.kindOf y = some .local := hy
  have e1 : px.line = py.line := by simpa using hl
  have hne : x ≠ y := by simpa using hxy
  have hne2 : (y == x) = false := by simp; exact fun e => hne e.symm
  unfold swappedStores
  simp only [hc, hf, hb, kx, ky, e1]
  simp [List.eraseDups_cons, hxy, hne2, kx, ky, e1, Expr.pos]
  intro hq
  simp only [List.any_cons, List.any_nil, Bool.or_false, Bool.or_eq_false_iff] at hst
  rcases hq with hq | hq
  · exact absurd ((hst.1.symm.trans hq : false = true)) (by decide)
  · exact absurd ((hst.2.symm.trans hq : false = true)) (by decide)
theorem tPar_of {K : PySem.W.Frag} {mg : Str → Option Value} {W : WX} {i j : Nat} {D : Ends} {σ : L2.St} {H : Hp} (h : tS K mg W (sPar i j f g) D σ H) : tPar i j (tCons (tE K mg W false f) (tCons (tE K mg W false g) tNil)) D σ H := by
  obtain ⟨ρ, ow, o, he, gd, post⟩ := h
  refine tE.goS gd he post fun d hd v H1 s1 r1 => ?_
  refine tE.goS (gd.same s1) hd (post.stp (Same.stp s1)) fun d2 hd2 v2 H2 s2 r2 => ?_
  split at hd2
  · cases hd2
    refine ⟨v, v2, rfl, ?_⟩
    have g1 := ((gd.same (s1.trans s2)).setA (i := i) (Rp.same s2 r1.rp))
    have g2 := g1.setA (i := j) (Rp.stp (gd.ok.same (s1.trans s2)) (Ow.clr_stp ow [i] H2) r2.rp)
    exact post _ _ H2 (((Same.stp (s1.trans s2)).trans (Ow.clr_stp ow [i] H2)).trans (Ow.clr_stp (ow.clr [i]) [j] H2)) g2
  · cases hd2
theorem ss_par (i j : Nat) {x y : Str} {px py : Pos} {kt k2 : Nat} {pt pt2 : Pos} (ha : SE G N sc fn k a f) (hb : SE G N sc fn k b g) (hi : N[i]? = some x := by rfl) (hj : N[j]? = some y := by rfl) (hij : i ≠ j := by decide)
    (hk : sc.kind = .function := by rfl) (hx : sc.names.lookup x = some .local := by rfl) (hy : sc.names.lookup y = some .local := by rfl) (hl : (px.line == py.line) = true := by rfl) (hxy : (x == y) = false := by decide)
    (hst : ([a, b].any fun | .Starred .. => true | _ => false) = false := by rfl) (hc : [a, b].all (constantsAlone 8) = false := by rfl) (hf : [a, b].all (foldedForSure 8) = false := by rfl)
    (hs : ∀ (l : Nat) (env : PySem.Env), swapsWithSole [.Tuple [.Name x px, .Name y py] kt pt] (.Tuple [a, b] k2 pt2) l env = pure false := by intro _ _; rfl) (ns : NS a := by intro _ _; rfl) (ns2 : NS b := by intro _ _; rfl) :
    SS G N sc fn k (.Assign [.Tuple [.Name x px, .Name y py] kt pt] (.Tuple [a, b] k2 pt2) pos) (sPar i j f g) := fun X C T W tk hp =>
  PS.imp (ps_par C.calm (by rw [C.hN]; exact C.nd) (by rw [C.hN]; exact hi) (by rw [C.hN]; exact hj) hij (by rw [C.hsc]; exact hx) (by rw [C.hsc]; exact hy) (pa_cons (ha X C W tk false) (pa_cons (hb X C W tk false) pa_nil (ns2 _ X.env)) (ns _ X.env))
    (sw_par (by rw [C.hsc]; exact hk) (by rw [C.hsc]; exact hx) (by rw [C.hsc]; exact hy) hl hxy hst hc hf) (hs _ X.env)) fun D σ H h => tPar_of h
/-- a, b = [..], e: a new list, and data -/
def sParO (i j : Nat) (f g : EF) : SF := fun ρ => bndS (f true ρ) fun x => bndS (g false ρ) fun y => match x with
  | .list ds => if i < ρ.length then some (.nx ((ρ.set i (some (.own ds))).set j (some (.sh y)))) else none
  | _ => none
theorem List_set_two {α : Type} (l : List α) {i j : Nat} (h : i ≠ j) (x y : α) : (l.set i x).set j y = (l.set j y).set i x := List.set_comm _ _ h
/-! ### x op= e (ints) -/
def sAug (i : Nat) (op : Dt → Dt → Option Dt) (f : EF) : SF := fun ρ => match ρ[i]? with
  | some (some (.sh x)) => bndS (f true ρ) fun y => (op x y).map fun z => .nx (ρ.set i (some (.sh z)))
  | _ => none
theorem ss_aug (i : Nat) {y : Str} {op : Operator} {r : R2} {dop : Dt → Dt → Option Dt} (ho : ∀ X : Cx, OpR X (inplaceOp op) r) (hd : ∀ K, RD K r dop) (ha : SE G N sc fn k a f) (hi : N[i]? = some y) (hx : Loc sc y) (hf : fn y = true ∨ sc.names.lookup y = some .local) :
    SS G N sc fn k (.AugAssign (.Name y p) op a pos) (sAug i dop f) := fun X C T W tk hp =>
  PS.imp (ps_aug (ti := r) (by rw [C.hN]; exact C.nd) (by rw [C.hN]; exact hi) (by rw [C.hsc]; exact hx) (ha X C W tk true) (fun pins s σ H x y v u Q I rx ry q => ho X pins s σ H x y v u Q I rx ry q) (by rw [C.hfn, C.hsc]; exact hf)) fun D σ H h => by
    obtain ⟨ρ, ow, o, he, gd, post⟩ := h
    unfold sAug at he
    split at he
    · rename_i x hx
      obtain ⟨v, hv, rv⟩ := gd.slot i _ hx
      refine ⟨v, hv, tE.goS gd he post fun d hd1 v1 H1 s1 r1 => ?_⟩
      cases hz : dop x d with
      | none => rw [hz] at hd1; cases hd1
      | some z =>
        rw [hz] at hd1
        cases hd1
        exact hd X.K v v1 H1 _ ow x d z (gd.ok.same s1) (.inl (Rp.same s1 rv)) r1 hz fun v' H' s' q => post _ _ H' ((Same.stp (s1.trans s')).trans (Ow.clr_stp ow [i] H')) ((gd.same (s1.trans s')).setA q)
    · cases he
def dAddI : Dt → Dt → Option Dt
  | .int i, .int j => some (.int (i + j))
  | _, _ => none
theorem rd_addI (K : PySem.W.Frag) : RD K (rI0 fun i j => .int (i + j)) dAddI := by
  intro x y H Q ow dx dy dz ok rx ry e post
  unfold dAddI at e
  split at e
  · cases e
    obtain rfl := rx.int
    obtain rfl := ry.int
    exact ⟨_, _, rfl, rfl, post _ H (Same.refl H) (.int _)⟩
  · cases e
def dMulI : Dt → Dt → Option Dt := dI (fun i j => sml i || sml j) fun i j => i * j
def dDivI : Dt → Dt → Option Dt := dI (fun _ j => decide (0 < j) && decide (j < 1073741824)) fun i j => i / j
theorem ss_augAdd (i : Nat) {y : Str} (ha : SE G N sc fn k a f) (hi : N[i]? = some y := by rfl) (hx : Loc sc y := by first | exact Or.inl rfl | exact Or.inr rfl) (hf : fn y = true ∨ sc.names.lookup y = some .local := by first | exact .inl rfl | exact .inr rfl) : SS G N sc fn k (.AugAssign (.Name y p) .Add a pos) (sAug i dAddI f) :=
  ss_aug i (fun X => iop_add) rd_addI ha hi hx hf
theorem ss_augMul (i : Nat) {y : Str} (ha : SE G N sc fn k a f) (hi : N[i]? = some y := by rfl) (hx : Loc sc y := by first | exact Or.inl rfl | exact Or.inr rfl) (hf : fn y = true ∨ sc.names.lookup y = some .local := by first | exact .inl rfl | exact .inr rfl) : SS G N sc fn k (.AugAssign (.Name y p) .Mult a pos) (sAug i dMulI f) :=
  ss_aug i (fun X => iop_mul) (fun K => rd_I fun i j h => by rw [Bool.or_eq_true, sml_iff, sml_iff] at h; exact h) ha hi hx hf
theorem ss_augDiv (i : Nat) {y : Str} (ha : SE G N sc fn k a f) (hi : N[i]? = some y := by rfl) (hx : Loc sc y := by first | exact Or.inl rfl | exact Or.inr rfl) (hf : fn y = true ∨ sc.names.lookup y = some .local := by first | exact .inl rfl | exact .inr rfl) : SS G N sc fn k (.AugAssign (.Name y p) .FloorDiv a pos) (sAug i dDivI f) :=
  ss_aug i (fun X => iop_fdiv) (fun K => rd_I fun i j h => by simpa [CDiv] using h) ha hi hx hf
/-! ### lists that a slot owns: append, extend, xs[i] = e -/
def sApp (i : Nat) (f : EF) : SF := fun ρ => match ρ[i]? with
  | some (some (.own xs)) => bndS (f false ρ) fun d => if xs.length < lim then some (.nx (ρ.set i (some (.own (xs ++ [d]))))) else none
  | _ => none
theorem own_at {K : PySem.W.Frag} {ow : Ow} {ρ : En} {σ : L2.St} {H : Hp} {i : Nat} {xs : List Dt} (gd : Good K ow ρ σ H) (h : ρ[i]? = some (some (.own xs))) : ∃ a vs, σ[i]? = some (some (.ref a)) ∧ ow.f i = some a ∧ H a = some (.lst vs) ∧ RpAll K (OA ow) H vs xs := by
  obtain ⟨v, hv, a, vs, rfl, h2, h3, h4⟩ := gd.slot i _ h
  exact ⟨a, vs, hv, h2, h3, h4⟩
theorem pe_vr {X : Cx} (C : Ctx G N sc fn k X) (i : Nat) {x : Str} {q : Pos} (hN : N[i]? = some x) (hv : Vis sc x) (hd : (x == ("__debug__" : Str)) = false) (hcd : (x == ("__classdict__" : Str)) = false) : PE X (.Name x q) (tVar i) :=
  pe_var (by rw [C.hN]; exact hN) (by rw [C.hsc]; exact hv) hd hcd
theorem ss_app (i : Nat) {x : Str} (ha : SE G N sc fn k a f) (hN : N[i]? = some x := by rfl) (hv : Vis sc x := by first | exact Or.inl rfl | exact Or.inr (Or.inl rfl) | exact Or.inr (Or.inr rfl)) (hd : (x == ("__debug__" : Str)) = false := by decide) (hcd : (x == ("__classdict__" : Str)) = false := by decide)
    (ns : NS a := by intro _ _; rfl) (hb : ∀ env : PySem.Env, attributeBase (.Name x q1) "append" env (eval (.Name x q1) env) = eval (.Name x q1) env := by intro _; rfl) (hln : (q2.endLine == q3.line) = true := by rfl) :
    SS G N sc fn k (.Expr (.Call (.Attribute (.Name x q1) "append" q2) [a] [] q3) pos) (sApp i f) := fun X C T W tk hp =>
  PS.imp (ps_expr (pe_bm PySem.F.plainAttrs_list PySem.F.slot_list_append PySem.F.type_list_append mt_append (pe_vr C i hN hv hd hcd) (pa_cons (ha X C W tk false) pa_nil (ns _ X.env)) (hb X.env) (by rw [ns [] X.env]; rfl) hln (ns _ X.env) rfl)) fun D σ H h => by
    obtain ⟨ρ, ow, o, he, gd, post⟩ := h
    unfold sApp at he
    split at he
    · rename_i xs hx
      obtain ⟨a', vs, hs, ho, hH, rv⟩ := own_at gd hx
      refine ⟨_, hs, .inl ⟨rfl, vs, SqL.of hH⟩, tE.goS gd he post fun d hd1 v1 H1 s1 r1 => ?_⟩
      split at hd1
      · rename_i hz
        cases hd1
        refine ⟨a', vs, v1, rfl, rfl, s1 _ _ hH, by rw [rv.length]; exact Nat.lt_of_lt_of_le hz (by decide), ?_⟩
        exact post ow σ _ ((Same.stp s1).trans (Ow.mut_stp ho)) ((gd.same s1).mut ho (RpAll.snoc (RpAll.same s1 rv) r1.rp))
      · cases hd1
    · cases he
def sExt (i : Nat) (f : EF) : SF := fun ρ => match ρ[i]? with
  | some (some (.own xs)) => bndS (f true ρ) fun d => (match d with
    | .list ys => if xs.length + ys.length ≤ lim then some (.nx (ρ.set i (some (.own (xs ++ ys))))) else none
    | _ => none)
  | _ => none
theorem ss_ext (i : Nat) {x : Str} (ha : SE G N sc fn k a f) (hN : N[i]? = some x := by rfl) (hv : Vis sc x := by first | exact Or.inl rfl | exact Or.inr (Or.inl rfl) | exact Or.inr (Or.inr rfl)) (hd : (x == ("__debug__" : Str)) = false := by decide) (hcd : (x == ("__classdict__" : Str)) = false := by decide)
    (ns : NS a := by intro _ _; rfl) (hb : ∀ env : PySem.Env, attributeBase (.Name x q1) "extend" env (eval (.Name x q1) env) = eval (.Name x q1) env := by intro _; rfl) (hln : (q2.endLine == q3.line) = true := by rfl) :
    SS G N sc fn k (.Expr (.Call (.Attribute (.Name x q1) "extend" q2) [a] [] q3) pos) (sExt i f) := fun X C T W tk hp =>
  PS.imp (ps_expr (pe_bm PySem.F.plainAttrs_list PySem.F.slot_list_extend PySem.F.type_list_extend mt_extend (pe_vr C i hN hv hd hcd) (pa_cons (ha X C W tk true) pa_nil (ns _ X.env)) (hb X.env) (by rw [ns [] X.env]; rfl) hln (ns _ X.env) rfl)) fun D σ H h => by
    obtain ⟨ρ, ow, o, he, gd, post⟩ := h
    unfold sExt at he
    split at he
    · rename_i xs hx
      obtain ⟨a', vs, hs, ho, hH, rv⟩ := own_at gd hx
      refine ⟨_, hs, .inl ⟨rfl, vs, SqL.of hH⟩, tE.goS gd he post fun d hd1 v1 H1 s1 r1 => ?_⟩
      split at hd1
      · split at hd1
        · rename_i ys hz
          cases hd1
          obtain ⟨b', ws, rfl, hb, rw'⟩ := r1.list
          refine ⟨a', b', vs, ws, rfl, rfl, s1 _ _ hH, hb, by rw [rv.length, rw'.length]; exact lim_le hz, ?_⟩
          exact post ow σ _ ((Same.stp s1).trans (Ow.mut_stp ho)) ((gd.same s1).mut ho ((RpAll.same s1 rv).append rw'))
        · cases hd1
      · cases hd1
    · cases he
/-- x[e1] = e2, x owned; e2 first, then e1 -/
def sPut (i : Nat) (f g : EF) : SF := fun ρ => match ρ[i]? with
  | some (some (.own xs)) => bndS (g false ρ) fun d => bndS (f true ρ) fun j => (match j with
    | .int m => (match ixN xs.length m with
      | some n => some (.nx (ρ.set i (some (.own (xs.set n d)))))
      | none => none)
    | _ => none)
  | _ => none
theorem ss_put (i : Nat) {x : Str} (ha : SE G N sc fn k a f) (hb : SE G N sc fn k b g) (hN : N[i]? = some x := by rfl) (hv : Vis sc x := by first | exact Or.inl rfl | exact Or.inr (Or.inl rfl) | exact Or.inr (Or.inr rfl)) (hd : (x == ("__debug__" : Str)) = false := by decide) (hcd : (x == ("__classdict__" : Str)) = false := by decide)
    (hsa : ∀ (env : PySem.Env) v, assign (.Subscript (.Name x q1) a q2) env v = (do
      let ov ← holding [v] (eval (.Name x q1) env)
      let iv ← holding [v, ov] (eval a env)
      standAt q2
      holding [v, ov, iv] (setItem ov iv v)
      release [v, ov, iv] []) := by intro _ _; rfl)
    (hs : ∀ (l : Nat) (env : PySem.Env), swapsWithSole [.Subscript (.Name x q1) a q2] b l env = pure false := by intro _ _; rfl) (hw : ∀ env : PySem.Env, swappedStores [.Subscript (.Name x q1) a q2] b env = pure none := by intro _; rfl)
    (h1 : ∀ env : PySem.Env, (assignEach [.Subscript (.Name x q1) a q2] env).map (·.2) = [assign (.Subscript (.Name x q1) a q2) env] := by intro _; rfl) :
    SS G N sc fn k (.Assign [.Subscript (.Name x q1) a q2] b pos) (sPut i f g) := fun X C T W tk hp =>
  PS.imp (ps_asg (hb X C W tk false) (pg_sub (pe_vr C i hN hv hd hcd) (ha X C W tk true) set_list (hsa X.env)) (hs _ X.env) (hw X.env) (h1 X.env)) fun D σ H h => by
    obtain ⟨ρ, ow, o, he, gd, post⟩ := h
    unfold sPut at he
    split at he
    · rename_i xs hx
      obtain ⟨a', vs, hs, ho, hH, rv⟩ := own_at gd hx
      refine tE.goS gd he post fun d hd1 v1 H1 s1 r1 => ⟨_, hs, tE.goS (gd.same s1) hd1 (post.stp (Same.stp s1)) fun d2 hd2 v2 H2 s2 r2 => ?_⟩
      split at hd2
      · split at hd2
        · rename_i m _ n hn
          cases hd2
          obtain rfl := r2.int
          refine ⟨a', vs, m, n, rfl, rfl, s2 _ _ (s1 _ _ hH), by rw [rv.length]; exact hn, ?_⟩
          exact post ow σ _ ((Same.stp (s1.trans s2)).trans (Ow.mut_stp ho)) ((gd.same (s1.trans s2)).mut ho (RpAll.set (Rp.same s2 r1.rp) n (RpAll.same (s1.trans s2) rv)))
        · cases hd2
      · cases hd2
    · cases he
/-! ### e; return e; raise; if -/
def sDo (f : EF) : SF := fun ρ => bndS (f true ρ) fun _ => some (.nx ρ)
theorem ss_do (ha : SE G N sc fn k a f) (hs : ∀ (l : Nat) (env : PySem.Env), swapsWith a none l env = pure false := by intro _ _; rfl) : SS G N sc fn k (.Expr a pos) (sDo f) := fun X C T W tk hp =>
  PS.imp (ps_expr (ha X C W tk true) (hs _ X.env)) fun D σ H h => by
    obtain ⟨ρ, ow, o, he, gd, post⟩ := h
    refine tE.goS gd he post fun d hd v H1 s1 r1 => ?_
    cases hd
    exact post ow σ H1 (Same.stp s1) (gd.same s1)
def sRet (f : EF) : SF := fun ρ => bndS (f true ρ) fun d => some (.rt d)
theorem ss_ret (ha : SE G N sc fn k a f) : SS G N sc fn k (.Return (some a) pos) (sRet f) := fun X C T W tk hp =>
  PS.imp (ps_ret (ha X C W tk true)) fun D σ H h => by
    obtain ⟨ρ, ow, o, he, gd, post⟩ := h
    refine tE.goS gd he post fun d hd v H1 s1 r1 => ?_
    cases hd
    exact post v H1 (Same.kp s1) r1.out
/-- an own exception class without an own __init__ -/
def ExcC (G : Gc) (x : Str) : Prop := ∃ C, G.mg x = some (.ref C) ∧ PySem.W.excIn G.K C [.type "ValueError", .type "Exception", .type "BaseException", .type "object"] "ValueError.__new__" = true ∧ PySem.W.keepIn G.K (.ref C) = true ∧ PySem.W.subIn G.K (.ref C) (.type "BaseException") = some true ∧ PySem.W.typeIn G.K (.ref C) = some (.type "type")
def sRaise (x : Str) : SF := fun _ => some (.ex x none)
theorem ss_raise {x m : Str} {j : Nat} {q : Pos} (E : ExcC G x) (hg : GL sc x := by rfl) (hdb : (x == ("__debug__" : Str)) = false := by decide) : SS G N sc fn k (.Raise (some (.Call (.Name x p) [.Constant (.str m) j p2] [] q)) none pos) (sRaise x) := fun X C T W tk hp => by
  obtain ⟨A, h1, h2, h3, h4, h5⟩ := E
  refine PS.imp (ps_raise C.calm tk (pmk_own PySem.F.excBase_ValueError (by rw [C.hK]; exact h2) (by rw [C.hmg]; exact h1) (by rw [C.hK]; exact h3) (raises_own (by rw [C.hK]; exact h4) (by rw [C.hK]; exact h5)) (C.gl hg) hdb)) fun D σ H h => ?_
  obtain ⟨ρ, ow, o, he, gd, post⟩ := h
  cases he
  exact post _ _ σ H (by rw [C.hmg]; exact h1) (Same.kp (Same.refl H)) rfl
def sIf (c : EF) (g h : SF) : SF := fun ρ => bndS (c true ρ) fun x => match tru x with
  | some true => g ρ
  | some false => h ρ
  | none => none
theorem ss_if {as bs : List Stmt} (hc : ST G N sc fn k c f) (ha : SB G N sc fn k as s1) (hb : SB G N sc fn k bs s2) : SS G N sc fn k (.If c as bs pos) (sIf f s1 s2) := fun X C T W tk hp =>
  PS.imp (ps_if (hc X C W tk) (ha X C T W tk hp) (hb X C T W tk hp)) fun D σ H h => by
    obtain ⟨ρ, ow, o, he, gd, post⟩ := h
    refine tT.goS gd he post fun d hd => ?_
    split at hd
    · rename_i hc
      exact ⟨true, hc, fun H1 s1 => by rw [if_pos rfl]; exact ⟨ρ, ow, o, hd, gd.same s1, post.stp (Same.stp s1)⟩⟩
    · rename_i hc
      exact ⟨false, hc, fun H1 s1 => by rw [if_neg Bool.false_ne_true]; exact ⟨ρ, ow, o, hd, gd.same s1, post.stp (Same.stp s1)⟩⟩
    · cases hd
/-! ### for -/
def forL (sl : List Nat) (tg : GF) (body : SF) : List Dt → En → Option Out
  | [], ρ => some (.nx ρ)
  | x :: xs, ρ => match tg x (clr ρ sl) with
    | none => none
    | some ρ1 => match body ρ1 with
      | some (.nx ρ2) => forL sl tg body xs ρ2
      | y => y
def sFor (sl : List Nat) (tg : GF) (it : IF) (body : SF) : SF := fun ρ => match it false ρ with
  | some (.it xs) => forL sl tg body xs ρ
  | some (.exc n pl) => some (.ex n pl)
  | none => none
theorem ss_for {sh : Shp} {tg iter : Expr} {body : List Stmt} {sl : List Nat} {gf : GF} {it : IF} (hi : SI G N sc fn k sh tg iter it) (hg : SG G N sc fn k sh tg sl gf) (hb : SB G N sc fn k body s1) (hs : ∀ (env : PySem.Env) x, foldedSetIterable iter env x = pure x := by intro _ _; rfl) :
    SS G N sc fn k (.For tg iter body [] pos) (sFor sl gf it s1) := fun X C T W tk hp =>
  PS.imp (ps_for hp C.calm (hi X C W tk false) (hg X C) (hb X C T W tk hp) (hs X.env)) fun D σ H h => by
    obtain ⟨ρ, ow, o, he, gd, post⟩ := h
    unfold sFor at he
    cases h1 : it false ρ with
    | none => rw [h1] at he; cases he
    | some ir =>
      rw [h1] at he
      cases ir with
      | exc n pl => cases he; exact ⟨ρ, ow, _, h1, gd, post.exp⟩
      | it xs =>
        simp only at he
        refine ⟨ρ, ow, _, h1, gd, fun J H1 sH1 wd => ?_⟩
        have post1 := post.stp (Same.stp sH1)
        let Wv : Nat → Nat → L2.St → Hp → Prop := fun i m σ' H' => m = xs.length - i ∧ i ≤ xs.length ∧ ∃ ρ' ow', forL sl gf s1 (xs.drop i) ρ' = some o ∧ Stp ow H1 ow' H' ∧ Good X.K ow' ρ' σ' H'
        refine ⟨Wv, ⟨xs.length, by simp, Nat.zero_le _, ρ, ow, by simpa using he, Stp.refl ow H1, gd.same sH1⟩, ?_⟩
        rintro i m σ' H' ⟨rfl, hi, ρ', ow', hf, st', g'⟩
        have wd1 := wd ow' H' st' g'.ok
        by_cases hlt : i < xs.length
        · right
          rw [List.drop_eq_getElem_cons hlt] at hf
          refine ⟨wd1.go i hlt, fun σ2 H2 => Wv (i + 1) (xs.length - (i + 1)) σ2 H2, fun σ2 H2 h => ⟨_, by omega, h⟩, fun x H2 y => ?_⟩
          obtain ⟨s2, d, hd, rx⟩ := wd1.yld i x H2 hlt y
          have hd' : xs[i] = d := by rw [List.getElem?_eq_getElem hlt] at hd; exact Option.some.inj hd
          rw [hd'] at hf
          unfold forL at hf
          have g2 := g'.same s2
          cases ht : gf d (clr ρ' sl) with
          | none => rw [ht] at hf; cases hf
          | some ρ1 =>
            rw [ht] at hf
            simp only at hf
            refine ⟨clr ρ' sl, ow'.clr sl, d, ρ1, Ow.clr_none, ht, g2.clr sl, RpS.stp g2.ok (Ow.clr_stp ow' sl H2) rx, fun σ3 g3 _ _ => ?_⟩
            cases hbd : s1 ρ1 with
            | none => rw [hbd] at hf; cases hf
            | some o1 =>
              rw [hbd] at hf
              have st3 : Stp ow H1 (ow'.clr sl) H2 := (st'.trans (Same.stp s2)).trans (Ow.clr_stp ow' sl H2)
              refine ⟨ρ1, ow'.clr sl, o1, hbd, g3, ?_⟩
              cases o1 with
              | nx ρ2 => exact fun ow4 σ4 H4 st4 g4 => ⟨rfl, hlt, ρ2, ow4, hf, st3.trans st4, g4⟩
              | rt dd => cases hf; exact post1.stp st3
              | ex n pl => cases hf; exact post1.stp st3
        · left
          have e : i = xs.length := by omega
          subst e
          rw [List.drop_length] at hf
          cases hf
          exact ⟨wd1.stop, post1 ow' σ' H' st' g'⟩
/-! ### while -/
def whl (c : EF) (body : SF) : Nat → En → Option Out
  | 0, _ => none
  | n + 1, ρ => bndS (c true ρ) fun x => match tru x with
    | some true => (match body ρ with
      | some (.nx ρ') => whl c body n ρ'
      | y => y)
    | some false => some (.nx ρ)
    | none => none
def sWhile (m : Nat) (c : EF) (body : SF) : SF := whl c body m
theorem ss_while (m : Nat) {body : List Stmt} (hc : ST G N sc fn k c f) (hb : SB G N sc fn k body s1) : SS G N sc fn k (.While c body [] pos) (sWhile m f s1) := fun X C T W tk hp =>
  PS.imp (ps_while hp (hc X C W tk) (hb X C T W tk hp)) fun D σ H h => by
    obtain ⟨ρ, ow, o, he, gd, post⟩ := h
    refine ⟨fun n σ' H' => ∃ ρ' ow', whl f s1 n ρ' = some o ∧ Stp ow H ow' H' ∧ Good X.K ow' ρ' σ' H', ⟨m, ρ, ow, he, Stp.refl ow H, gd⟩, ?_⟩
    rintro n σ' H' ⟨ρ', ow', hw, st', g'⟩
    cases n with
    | zero => cases hw
    | succ n =>
      unfold whl at hw
      refine tT.goS g' hw (post.stp st') fun d hd => ?_
      split at hd
      · rename_i hc
        refine ⟨true, hc, fun H1 s1' => ?_⟩
        rw [if_pos rfl]
        refine ⟨fun σ2 H2 => ∃ ρ' ow', whl f s1 n ρ' = some o ∧ Stp ow H ow' H2 ∧ Good X.K ow' ρ' σ2 H2, fun σ2 H2 h => ⟨n, Nat.lt_succ_self n, h⟩, ?_⟩
        cases hbd : s1 ρ' with
        | none => rw [hbd] at hd; cases hd
        | some o1 =>
          rw [hbd] at hd
          have st1 := st'.trans (Same.stp s1')
          refine ⟨ρ', ow', o1, hbd, g'.same s1', ?_⟩
          cases o1 with
          | nx ρ2 => exact fun ow4 σ4 H4 st4 g4 => ⟨ρ2, ow4, hd, st1.trans st4, g4⟩
          | rt dd => cases hd; exact post.stp st1
          | ex n pl => cases hd; exact post.stp st1
      · rename_i hc
        cases hd
        refine ⟨false, hc, fun H1 s1' => ?_⟩
        rw [if_neg Bool.false_ne_true]
        exact post ow' σ' H1 (st'.trans (Same.stp s1')) (g'.same s1')
      · cases hd
end

/-! ## a def -/
def start0 (n : Nat) (ds : List Dt) : En := ds.map (fun d => some (.sh d)) ++ List.replicate (n - ds.length) none
def runB (n : Nat) (g : SF) (ds : List Dt) : Option Rs := match g (start0 n ds) with
  | some (.rt d) => some (.val d)
  | some (.nx _) => some (.val .none)
  | some (.ex n pl) => some (.exc n pl)
  | none => none
theorem RpAll.start {K : PySem.W.Frag} {O : Addr → Prop} {H : Hp} {ow : Ow} (hO : OA ow = O) : ∀ {vs : List V} {ds : List Dt}, RpAll K O H vs ds → ∀ (i : Nat) (s : SV), (ds.map (fun d => some (SV.sh d)))[i]? = some (some s) → ∃ v, (vs.map some)[i]? = some (some v) ∧ SlotOk K ow i H v s := by
  intro vs ds r i s h
  rw [List.getElem?_map] at h
  cases e : ds[i]? with
  | none => rw [e] at h; cases h
  | some d =>
    rw [e] at h
    cases h
    obtain ⟨v, hv, q⟩ := r.get e
    exact ⟨v, by rw [List.getElem?_map, hv]; rfl, by show Rp K (OA ow) H v d; rw [hO]; exact q⟩
theorem good0 {K : PySem.W.Frag} {O : Addr → Prop} {H : Hp} {vs : List V} {ds : List Dt} {N : List Str} (hO : ∀ a, O a → H a ≠ none) (r : RpAll K O H vs ds) : Good K (Ow.out O) (start0 N.length ds) (L2.start N vs) H := by
  have hOA : OA (Ow.out O) = O := by
    funext a
    apply propext
    constructor
    · rintro (⟨i, hi | hi⟩ | h)
      · cases hi
      · exact hi.elim
      · exact h
    · exact fun h => .inr h
  refine ⟨?_, fun i j a h => (nomatch h), ⟨fun i a h => (nomatch h), hO, fun _ _ h => h.elim⟩, fun i a h => (nomatch h), fun i s h => ?_, fun i a h => (nomatch h), fun _ _ _ h => h.elim, fun _ _ _ h => h.elim, fun _ _ h => h.elim, fun _ _ h => h.elim⟩
  · unfold start0 L2.start
    rw [List.length_append, List.length_append, List.length_map, List.length_map, List.length_replicate, List.length_replicate, r.length]
  · unfold start0 at h
    unfold L2.start
    by_cases hi : i < ds.length
    · rw [List.getElem?_append_left (by rw [List.length_map]; exact hi)] at h
      obtain ⟨v, hv, q⟩ := r.start hOA i s h
      exact ⟨v, by rw [List.getElem?_append_left (by rw [List.length_map, r.length]; exact hi)]; exact hv, q⟩
    · rw [List.getElem?_append_right (by rw [List.length_map]; omega)] at h
      rw [List.getElem?_replicate] at h
      split at h
      · cases h
      · cases h
theorem fn_okD {G : Gc} {x qual : Str} {params : Arguments} {body : List Stmt} {scope : Scope} {f : Addr} {fd : FuncData} {N ps : List Str} {k : Nat} {g : SF} {F : List Dt → Option Rs} (Fu : FunD G.K x qual params body scope [] [] f fd) (S : FnScope N ps scope)
    (hB : SB G N scope (fun x => true) k body g) (hF : ∀ ds r, ds.length = ps.length → F ds = some r → runB N.length g ds = some r) : FnOk G.P G.w G.K G.mg G.base (L2.CX G.P G.w) (k + 1) f fd ps (spF G.K G.mg ps.length F) := by
  refine Fu.ok S (fun vs H Q E h => h.1) fun cdv A outer s H vs Q E hr h => ?_
  obtain ⟨hl, O, ds, r, hO, rv, hFd, post⟩ := h
  refine ⟨_, hB _ ⟨rfl, rfl, rfl, rfl, rfl, rfl, S.nd, rfl, rfl, rfl, hr⟩ ⟨rfl, rfl⟩ _ (takes_of (E := E) rfl rfl rfl rfl) (passes_of rfl), ?_⟩
  have hrun := hF ds r (by rw [← rv.length]; exact hl) hFd
  unfold runB at hrun
  cases hg : g (start0 N.length ds) with
  | none => rw [hg] at hrun; cases hrun
  | some o =>
    rw [hg] at hrun
    refine ⟨start0 N.length ds, Ow.out O, o, hg, good0 hO rv, ?_⟩
    have hk : ∀ {H' : Hp}, Kp (Ow.out O) H H' → Same H H' := fun kp a o h => kp.keep a o h fun ⟨i, hi⟩ => hi.elim (fun z => by cases z) fun z => z
    cases o with
    | nx ρ' => cases hrun; exact fun ow' σ' H' st' g' => post .non H' (hk st'.kp) .non
    | rt d => cases hrun; exact fun v H' kp r' => post v H' (hk kp) r'
    | ex n pl => cases hrun; exact fun cls d σ' H' hc kp pk => post cls d H' hc (hk kp) pk
theorem fn_is {G : Gc} {x qual : Str} {params : Arguments} {body : List Stmt} {scope : Scope} {f : Addr} {fd : FuncData} {N ps : List Str} {k : Nat} {g : SF} {F : List Dt → Option Rs} (hm : G.mg x = some (.ref f)) (Fu : FunD G.K x qual params body scope [] [] f fd) (S : FnScope N ps scope) (hb : Binds G.K fd ps [])
    (hB : SB G N scope (fun x => true) k body g) (hF : ∀ ds r, ds.length = ps.length → F ds = some r → runB N.length g ds = some r) : FnIs G x (k + 1) ps.length F :=
  ⟨f, fd, ps, hm, Fu.kp, hb, rfl, fn_okD Fu S hB hF⟩
/-! ## the law's promise -/
theorem law_sp {K : PySem.W.Frag} {mg : Str → Option Value} {F : List Dt → Option Rs} (hF : ∀ ns : List Int, ns.length ≤ 63 → F [scr ns] = some (.val (.bool true))) (H : Hp) (a : Addr) (ns : List Int) (hl : ns.length ≤ 63) (hO : Only H) (hS : SqL K H a (ns.map V.int)) :
    spF K mg 1 F [.ref a] H (fun v _ => v = .bl true) fun _ _ _ => False := by
  have hs : ScrAt K H a ns := by
    rcases hS with (h | ⟨o, h⟩) | h
    · rcases hO a with z | ⟨o, xs, z⟩
      · rw [z] at h; cases h
      · rw [z] at h; cases h
    · exact .inl ⟨o, h⟩
    · exact .inr h
  refine ⟨rfl, NoO, [scr ns], _, fun _ z => z.elim, .cons (.scr hs) .nil, hF ns hl, fun v H' s' r' => ?_⟩
  cases r'
  rfl
end PT

namespace PT
open PySem PySem.Spec PyProof.Rows L2

/-! ## zip and enumerate over lists and tuples, in any mix -/
def SIt (k : Bool) (h : Heap) (it a : Addr) (i : Nat) : Prop := match k with
  | true => h.IsListIter it a i
  | false => h.IsTupleIter it a i
def SHp (k : Bool) (h : Heap) (a : Addr) (its : Array Value) : Prop := match k with
  | true => h.IsList a its
  | false => h.IsTuple a its
def SAt (k : Bool) (K : PySem.W.Frag) (H : Hp) (a : Addr) (xs : List V) : Prop := match k with
  | true => SqL K H a xs
  | false => SqT K H a xs
def sOb (k : Bool) (a : Addr) : Obj := match k with
  | true => { cls := .type "list_iterator", data := .fields #[.ref a, .int 0 0] }
  | false => { cls := .type "tuple_iterator", data := .fields #[.ref a, .int 0 0] }
theorem draws {prog : Program} {w : World} {A : Around} (hh : A.handled = none) (k : Bool) (it a : Addr) (hne : a ≠ it) (items : Array Value) :
    Draws prog w A it [it, a] items.size (fun i v => items[i]? = some v) (fun i h => SIt k h it a i ∧ SHp k h a items) := by
  cases k
  · exact Draws.tuple hh it a hne items
  · exact Draws.list hh it a hne items
theorem begins (k : Bool) (a : Addr) (items : Array Value) : Begins (.ref a) (sOb k a) fun h => SHp k h a items := by
  cases k
  · exact begins_tuple a items
  · exact begins_list a items
theorem SIt.at {k : Bool} {h h' : Heap} {it a : Addr} {i : Nat} (s : SIt k h it a i) (e : ∀ o, h.get? it = some o → h'.get? it = some o) : SIt k h' it a i := by
  cases k
  · have s : h.IsTupleIter it a i := s
    exact s.at e
  · have s : h.IsListIter it a i := s
    exact s.at e
theorem SIt.new {k : Bool} {h : Heap} {it a : Addr} (e : h.get? it = some (sOb k a)) : SIt k h it a 0 := by
  cases k
  · exact ⟨_, e, rfl, rfl⟩
  · exact ⟨_, e, rfl, rfl⟩
theorem SIt.obj {k : Bool} {h : Heap} {it a : Addr} {i : Nat} (s : SIt k h it a i) : ∃ o, h.get? it = some o ∧ ∀ v, o.data ≠ .cell v := by
  cases k
  · obtain ⟨o, e, _, d⟩ := (show h.IsTupleIter it a i from s); exact ⟨o, e, fun v z => by rw [d] at z; cases z⟩
  · obtain ⟨o, e, _, d⟩ := (show h.IsListIter it a i from s); exact ⟨o, e, fun v z => by rw [d] at z; cases z⟩
theorem SHp.lt {k : Bool} {h : Heap} {a : Addr} {its : Array Value} (s : SHp k h a its) : a < h.objs.size := by
  cases k
  · obtain ⟨o, e, _⟩ := (show h.IsTuple a its from s); exact Heap.lt_size e
  · obtain ⟨o, e, _⟩ := (show h.IsList a its from s); exact Heap.lt_size e
section
variable {X : Cx} {pins : List (Addr × Obj)} {σ : L2.St} {H : Hp} {s : Shared} {a : Addr} {xs ys : List V}
theorem src_at (I : Inv X pins σ H s) {k : Bool} (h : SAt k X.K H a xs) : ∃ its : List Value, Vals xs its ∧ SHp k s.heap a its.toArray ∧ xs.length ≤ sizeLine := by
  cases k
  · obtain ⟨its, r, p, z⟩ := I.tuple h; exact ⟨its, r, p, z⟩
  · obtain ⟨its, r, p, z⟩ := I.list h; exact ⟨its, r, p.isList, z⟩
theorem src_inj (I : Inv X pins σ H s) {k : Bool} (h : SAt k X.K H a xs) (h' : SAt k X.K H a ys) : xs = ys := by
  cases k
  · exact I.tuple_inj h h'
  · exact I.list_inj h h'
end
/-- zip -/
def Izm (k1 k2 : Bool) (K : PySem.W.Frag) (a b : Addr) : It :=
  ⟨fun i H => ∃ (xs ys : List V) (x y : V), SAt k1 K H a xs ∧ SAt k2 K H b ys ∧ xs[i]? = some x ∧ ys[i]? = some y,
    fun i H v H' => ∃ T x y, v = .ref T ∧ H T = none ∧ H' = upd H T (.tup [x, y]) ∧ (∀ xs, SAt k1 K H a xs → xs[i]? = some x) ∧ ∀ ys, SAt k2 K H b ys → ys[i]? = some y,
    fun i H => ∃ xs ys : List V, SAt k1 K H a xs ∧ SAt k2 K H b ys ∧ i = min xs.length ys.length⟩
theorem turn_zm {P : Program} {w : World} {K : PySem.W.Frag} {elts : List Expr} {kk : Nat} {tpos : Pos} (k1 k2 : Bool) {a b z TI TO i1 i2 : Addr} (S : ZipSep2 z TI TO i1 i2 [i1, a] [i2, b]) (ne1 : a ≠ i1) (ne2 : b ≠ i2) :
    Turn P w K (.Tuple elts kk tpos) (Izm k1 k2 K a b) [z, TI, TO, i1, i2] z (fun i h => IsZip h z TI TO .none ∧ IsTupOf2 h TI (.ref i1) (.ref i2) ∧ (∃ x y, IsTupOf2 h TO x y) ∧ SIt k1 h i1 a i ∧ SIt k2 h i2 b i) where
  mem := by simp
  obj := fun i h st c hc => by
    obtain ⟨hz, hTI, ⟨x, y, hTO⟩, h1, h2⟩ := st
    have e' : c = z ∨ c = TI ∨ c = TO ∨ c = i1 ∨ c = i2 := by simpa using hc
    rcases e' with q | q | q | q | q
    · rw [q]; exact ⟨_, hz, fun v q => nomatch q⟩
    · rw [q]; exact ⟨_, hTI, fun v q => nomatch q⟩
    · rw [q]; exact ⟨_, hTO, fun v q => nomatch q⟩
    · rw [q]; exact h1.obj
    · rw [q]; exact h2.obj
  keep := fun i h h' st k => by
    obtain ⟨hz, hTI, ⟨x, y, hTO⟩, h1, h2⟩ := st
    exact ⟨k z (by simp) _ hz, k TI (by simp) _ hTI, ⟨x, y, k TO (by simp) _ hTO⟩, h1.at fun o q => k i1 (by simp) o q, h2.at fun o q => k i2 (by simp) o q⟩
  item := by
    intro X hP hw hK hc i pins s σ H E I hf st hg
    subst hP hw hK
    obtain ⟨hz, hTI, hTO, h1, h2⟩ := st
    obtain ⟨xs, ys, x, y, hqx, hqy, hx, hy⟩ := hg
    obtain ⟨its, rv, p, _⟩ := src_at I hqx
    obtain ⟨its2, rv2, p2, _⟩ := src_at I hqy
    obtain ⟨u, hu, ru⟩ := rv.get hx
    obtain ⟨u2, hu2, ru2⟩ := rv2.get hy
    have hh : X.A.in1.handled = none := I.ok.hd hc
    have W := GoesN.zip2 (elts := elts) (x1 := kk) (pos := tpos) S (draws (prog := X.prog) (w := X.w) hh k1 i1 a ne1 its.toArray) (draws hh k2 i2 b ne2 its2.toArray)
    have hi1 : i < its.length := (List.getElem?_eq_some_iff.mp hu).1
    have hi2 : i < its2.length := (List.getElem?_eq_some_iff.mp hu2).1
    refine W.goes i s _ _ (by simp; omega) ⟨hz, hTI, hTO, ⟨h1, p⟩, ⟨h2, p2⟩⟩ fun v h' tk hY st' hk htk => ?_
    obtain ⟨T, ux, uy, rfl, hT, hux, huy, hTT⟩ := hY
    obtain ⟨hz', hTI', hTO', ⟨h1', _⟩, ⟨h2', _⟩⟩ := st'
    have ex : ux = u := by
      have q : its[i]? = some ux := by simpa using hux
      rw [hu] at q; exact (Option.some.inj q).symm
    have ey : uy = u2 := by
      have q : its2[i]? = some uy := by simpa using huy
      rw [hu2] at q; exact (Option.some.inj q).symm
    subst ex ey
    have new : ObjOk X.prog X.w (upd H T (.tup [x, y])) h' T (.tup [x, y]) :=
      ⟨by show 2 ≤ sizeLine; decide, [ux, uy], .cons ru (.cons ru2 .nil), hTT⟩
    have I1 : Inv X pins σ (upd H T (.tup [x, y])) { s with heap := h', toks := tk } :=
      I.turnedNew (t' := tk) (ch := [z, TI, TO, i1, i2]) (fun c o hb q => hk c o (fun q' => hb (by
        have e' : c = z ∨ c = TO ∨ c = i1 ∨ c = i2 := by simpa using q'
        rcases e' with q | q | q | q <;> simp [q])) q) hf hT new
    refine ⟨.ref T, _, I1, rfl, ⟨T, x, y, rfl, I.hok.fresh hT, rfl, fun l hl => by rw [src_inj I hl hqx]; exact hx, fun l hl => by rw [src_inj I hl hqy]; exact hy⟩, ⟨hz', hTI', hTO', h1', h2'⟩, fun c hcm => ?_⟩
    have hlt : c < s.heap.objs.size := by
      have e' : c = z ∨ c = TI ∨ c = TO ∨ c = i1 ∨ c = i2 := by simpa using hcm
      rcases e' with q | q | q | q | q
      · rw [q]; exact Heap.lt_size hz
      · rw [q]; exact Heap.lt_size hTI
      · obtain ⟨_, _, hTO⟩ := hTO; rw [q]; exact Heap.lt_size hTO
      · obtain ⟨_, e1, _⟩ := h1.obj; rw [q]; exact Heap.lt_size e1
      · obtain ⟨_, e1, _⟩ := h2.obj; rw [q]; exact Heap.lt_size e1
    rw [upd_ne (Nat.ne_of_lt (Nat.lt_of_lt_of_le hlt hT))]
    exact (hf c hcm).1
  done := by
    intro X hP hw hK hc i pins s σ H E I hf st hg
    subst hP hw hK
    obtain ⟨hz, hTI, hTO, h1, h2⟩ := st
    obtain ⟨xs, ys, hqx, hqy, hend⟩ := hg
    obtain ⟨its, rv, p, _⟩ := src_at I hqx
    obtain ⟨its2, rv2, p2, _⟩ := src_at I hqy
    have hh : X.A.in1.handled = none := I.ok.hd hc
    have W := GoesN.zip2 (elts := elts) (x1 := kk) (pos := tpos) S (draws (prog := X.prog) (w := X.w) hh k1 i1 a ne1 its.toArray) (draws hh k2 i2 b ne2 its2.toArray)
    have hn : i = min its.toArray.size its2.toArray.size := by simp [hend, rv.length, rv2.length]
    subst hn
    refine W.stops s (fun s1 => Inv X pins σ H s1) E ⟨hz, hTI, hTO, ⟨h1, p⟩, ⟨h2, p2⟩⟩ fun h' tk hk htk => ?_
    exact I.turnedL (t' := tk) (ch := [z, TI, TO, i1, i2]) (fun c o hb q => hk c o (fun q' => hb (by
        have e' : c = z ∨ c = TO ∨ c = i1 ∨ c = i2 := by simpa using q'
        rcases e' with q | q | q | q <;> simp [q])) q) hf
  self := fun A i s Q E st h => wpAny_pyIter_zip st.1 h
theorem ne_off {n k m : Nat} (h : m < n) : m ≠ n + k := by omega
theorem sep_of {n a b : Nat} (ha : a < n) (hb : b < n) : ZipSep2 (n + 4) (n + 2) (n + 3) n (n + 1) [n, a] [n + 1, b] :=
  zip_sep2 (fp1 := [a]) (fp2 := [b]) (fun c hc => by rw [List.mem_singleton.mp hc]; exact ha) fun c hc => by rw [List.mem_singleton.mp hc]; exact hb
def iZm (K : PySem.W.Frag) (ta : TA) : TI := fun σ H R => ta σ H fun vs H1 => ∃ a b k1 k2 xs ys, vs = [.ref a, .ref b] ∧ SAt k1 K H1 a xs ∧ SAt k2 K H1 b ys ∧ R (Izm k1 k2 K a b) H1
theorem pi_zm {X : Cx} {e e2 : Expr} {ta : TA} {p pos tpos : Pos} {elts : List Expr} {kk : Nat} (hg : Gl X "zip") (hm : X.mg "zip" = none) (ha : PA X [e, e2] ta)
    (hs : starEach [e, e2] X.env = (false, eval e X.env) :: starEach [e2] X.env) (hpl : (backTo pos (starEach [e2] X.env)).any (·.1) = false) :
    PI X (.Tuple elts kk tpos) (.Call (.Name "zip" p) [e, e2] [] pos) (iZm X.K ta) := by
  refine ⟨fun pins s σ H R I h => ?_⟩
  refine Call_ (ld_blt I hg hm PyProof.Rows.boot_zip (PyProof.Rows.callWith_type1 (thn (ha.run pos pins s σ H _ I h) fun us s1 ⟨vs, H1, I1, r1, q1⟩ => ?_) hs hpl))
  obtain ⟨a, b, k1, k2, xs, ys, ex, hqx, hqy, q⟩ := q1
  subst ex
  cases r1 with
  | cons r rr =>
    cases rr with
    | cons r' rr =>
      cases rr
      cases r
      cases r'
      obtain ⟨its, rv, p1, _⟩ := src_at I1 hqx
      obtain ⟨its2, rv2, p2, _⟩ := src_at I1 hqy
      have la : a < s1.heap.objs.size := p1.lt
      have lb : b < s1.heap.objs.size := p2.lt
      refine zip_begins2 (begins k1 a its.toArray) (begins k2 b its2.toArray) p1 p2 fun h' hz hTI hTO g1 g2 hsz hk => wpAny_pyIter_zip hz ?_
      have I2 : Inv X pins σ H1 { s1 with heap := h' } := I1.kept (t' := s1.toks) hk
      refine ⟨s1.heap.objs.size + 4, [s1.heap.objs.size + 4, s1.heap.objs.size + 2, s1.heap.objs.size + 3, s1.heap.objs.size, s1.heap.objs.size + 1], _, _, H1, rfl, I2, turn_zm k1 k2 (sep_of la lb) (Nat.ne_of_lt la) (ne_off lb), ⟨hz, hTI, ⟨_, _, hTO⟩, SIt.new g1, SIt.new g2⟩, fun c hcm => ?_, q⟩
      have e' : c = s1.heap.objs.size + 4 ∨ c = s1.heap.objs.size + 2 ∨ c = s1.heap.objs.size + 3 ∨ c = s1.heap.objs.size ∨ c = s1.heap.objs.size + 1 := by simpa using hcm
      have hle : s1.heap.objs.size ≤ c := by
        rcases e' with z | z | z | z | z
        · rw [z]; exact Nat.le_add_right _ _
        · rw [z]; exact Nat.le_add_right _ _
        · rw [z]; exact Nat.le_add_right _ _
        · rw [z]; exact Nat.le_refl _
        · rw [z]; exact Nat.le_add_right _ _
      exact I1.fpOk hle (I1.hok.fresh hle)
/-- enumerate -/
def Iem (k : Bool) (K : PySem.W.Frag) (a : Addr) : It :=
  ⟨fun i H => ∃ (xs : List V) (x : V), SAt k K H a xs ∧ xs[i]? = some x,
    fun i H v H' => ∃ T x, v = .ref T ∧ H T = none ∧ H' = upd H T (.tup [.int (i : Nat), x]) ∧ (∀ xs, SAt k K H a xs → xs[i]? = some x),
    fun i H => ∃ xs : List V, SAt k K H a xs ∧ i = xs.length⟩
theorem turn_em {P : Program} {w : World} {K : PySem.W.Frag} {elts : List Expr} {kk : Nat} {tpos : Pos} (k : Bool) {a e it : Addr} (nei : e ≠ it) (nea : e ≠ a) (nai : a ≠ it) :
    Turn P w K (.Tuple elts kk tpos) (Iem k K a) [e, it] e (fun i h => (∃ old, IsEnum h e it (i : Int) old) ∧ SIt k h it a i) where
  mem := by simp
  obj := fun i h st c hc => by
    obtain ⟨⟨old, he⟩, h1⟩ := st
    have e' : c = e ∨ c = it := by simpa using hc
    rcases e' with q | q
    · rw [q]; exact ⟨_, he, fun v q => nomatch q⟩
    · rw [q]; exact h1.obj
  keep := fun i h h' st k => by
    obtain ⟨⟨old, he⟩, h1⟩ := st
    exact ⟨⟨old, k e (by simp) _ he⟩, h1.at fun o q => k it (by simp) o q⟩
  item := by
    intro X hP hw hK hc i pins s σ H E I hf st hg
    subst hP hw hK
    obtain ⟨⟨old, he⟩, h1⟩ := st
    obtain ⟨xs, x, hqx, hx⟩ := hg
    obtain ⟨its, rv, p, _⟩ := src_at I hqx
    obtain ⟨u, hu, ru⟩ := rv.get hx
    have hh : X.A.in1.handled = none := I.ok.hd hc
    have W := GoesN.enumFrom (elts := elts) (x1 := kk) (pos := tpos) 0 (draws (prog := X.prog) (w := X.w) hh k it a nai its.toArray) e nei (by simp; exact ⟨nei, nea⟩) (by simp)
    have hi1 : i < its.length := (List.getElem?_eq_some_iff.mp hu).1
    refine W.goes i s _ _ (by simp; omega) ⟨⟨old, by rw [Int.zero_add]; exact he⟩, ⟨h1, p⟩⟩ fun v h' tk hY st' hk htk => ?_
    obtain ⟨T, t, ux, rfl, hT, hux, hTT⟩ := hY
    obtain ⟨⟨old', he'⟩, ⟨h1', _⟩⟩ := st'
    rw [Int.zero_add] at he' hTT
    have ex : ux = u := by
      have q : its[i]? = some ux := by simpa using hux
      rw [hu] at q; exact (Option.some.inj q).symm
    subst ex
    have new : ObjOk X.prog X.w (upd H T (.tup [.int (i : Nat), x])) h' T (.tup [.int (i : Nat), x]) :=
      ⟨by show 2 ≤ sizeLine; decide, [.int (i : Nat) t, ux], .cons ⟨t, rfl⟩ (.cons ru .nil), hTT⟩
    have I1 : Inv X pins σ (upd H T (.tup [.int (i : Nat), x])) { s with heap := h', toks := tk } :=
      I.turnedNew (t' := tk) (ch := [e, it]) (fun c o hb q => hk c o hb q) hf hT new
    refine ⟨.ref T, _, I1, rfl, ⟨T, x, rfl, I.hok.fresh hT, rfl, fun l hl => by rw [src_inj I hl hqx]; exact hx⟩, ⟨⟨old', he'⟩, h1'⟩, fun c hcm => ?_⟩
    have hlt : c < s.heap.objs.size := by
      have e' : c = e ∨ c = it := by simpa using hcm
      rcases e' with q | q
      · rw [q]; exact Heap.lt_size he
      · obtain ⟨_, e1, _⟩ := h1.obj; rw [q]; exact Heap.lt_size e1
    rw [upd_ne (Nat.ne_of_lt (Nat.lt_of_lt_of_le hlt hT))]
    exact (hf c hcm).1
  done := by
    intro X hP hw hK hc i pins s σ H E I hf st hg
    subst hP hw hK
    obtain ⟨⟨old, he⟩, h1⟩ := st
    obtain ⟨xs, hqx, hend⟩ := hg
    obtain ⟨its, rv, p, _⟩ := src_at I hqx
    have hh : X.A.in1.handled = none := I.ok.hd hc
    have W := GoesN.enumFrom (elts := elts) (x1 := kk) (pos := tpos) 0 (draws (prog := X.prog) (w := X.w) hh k it a nai its.toArray) e nei (by simp; exact ⟨nei, nea⟩) (by simp)
    have hn : i = its.toArray.size := by simp [hend, rv.length]
    subst hn
    refine W.stops s (fun s1 => Inv X pins σ H s1) E ⟨⟨old, by rw [Int.zero_add]; exact he⟩, ⟨h1, p⟩⟩ fun h' tk hk htk => ?_
    exact I.turnedL (t' := tk) (ch := [e, it]) (fun c o hb q => hk c o hb q) hf
  self := fun A i s Q E st h => by
    obtain ⟨⟨old, he⟩, _⟩ := st
    exact wpAny_pyIter_enum he h
set_option maxHeartbeats 1000000 in
theorem meets_enum1 {v : Value} {o : Obj} {H : Heap → Prop} (B : Begins v o H) :
    Meets (Builtin.«enumerate.__new__» ⟨[.type "enumerate", v], []⟩) (fun _ R s => H s.heap ∧
      R (.ok (.ret (.ref (s.heap.push o).objs.size))) { s with heap := (s.heap.push o).push { cls := .type "enumerate", data := .fields #[.none, .bool false, .ref s.heap.objs.size, rawInt 0, .none, .none] } }) :=
  .of_wp fun prog w A R s h => by
    obtain ⟨hp, g, d, tk, os⟩ := s; obtain ⟨h1, h⟩ := h
    have hsub := sub_enumerate
    have q1 : ∀ {A' : Around} {E : Value → Shared → Prop} {Q : Value → Shared → Prop}, Q (.ref hp.objs.size) ⟨hp.push o, g, d, tk, os⟩ → wpAny (model prog w) A' (pyIter v) Q E ⟨hp, g, d, tk, os⟩ :=
      fun q => B.iter prog w _ _ ⟨hp, g, d, tk, os⟩ _ h1 q
    wp_walk using q1
    refine wpAny_stack_any fun st => wpAny_pure ?_
    split
    · rename_i c _ _ _ _ _
      cases (c == Value.type "enumerate")
      · wp_walk using q1
        exact ⟨_, rfl, h⟩
      · wp_walk using q1
        exact ⟨_, rfl, h⟩
    · wp_walk using q1
      exact ⟨_, rfl, h⟩
theorem enum_begins1 {prog : Program} {w : World} {A : Around} {E : Value → Shared → Prop} {s : Shared} {v : Value} {o : Obj} {H : Heap → Prop} {Q : Value → Shared → Prop} (B : Begins v o H) (h1 : H s.heap)
    (h : ∀ h', IsEnum h' (s.heap.objs.size + 1) s.heap.objs.size 0 .none → h'.get? s.heap.objs.size = some o → h'.objs.size = s.heap.objs.size + 2 →
      (∀ b o, s.heap.get? b = some o → h'.get? b = some o) → Q (.ref (s.heap.objs.size + 1)) { s with heap := h' }) :
    wpAny (model prog w) A (call (.type "enumerate") [v]) Q E s := by
  refine callType_new F.called_enumerate (by decide) (F.typeCall_enumerate_1 _) (F.newCall_enumerate_1 _) (fun obj => F.args_object_init_2 obj _) F.entry_enumerate_new
    (meets_enum1 B) ⟨h1, ?_⟩
  have hz : (s.heap.push o).objs.size = s.heap.objs.size + 1 := Heap.size_push ..
  show _ ∧ _
  rw [hz]
  have he : IsEnum ((s.heap.push o).push { cls := .type "enumerate", data := .fields #[.none, .bool false, .ref s.heap.objs.size, rawInt 0, .none, .none] }) (s.heap.objs.size + 1) s.heap.objs.size 0 .none := by
    have := Heap.get?_push_size (s.heap.push o) (o := { cls := .type "enumerate", data := .fields #[.none, .bool false, .ref s.heap.objs.size, rawInt 0, .none, .none] }) rfl
    rw [hz] at this; exact this
  exact ⟨⟨_, he, rfl⟩, h _ he (Heap.get?_push_of_some _ (Heap.get?_push_size _ B.free)) (by rw [Heap.size_push, hz]) fun b o x => Heap.get?_push_of_some _ (Heap.get?_push_of_some _ x)⟩
def iEm (K : PySem.W.Frag) (te : TE) : TI := fun σ H R => te σ H fun v H1 => ∃ a k xs, v = .ref a ∧ SAt k K H1 a xs ∧ R (Iem k K a) H1
theorem pi_em {X : Cx} {e : Expr} {te : TE} {p pos tpos : Pos} {elts : List Expr} {kk : Nat} (hg : Gl X "enumerate") (hm : X.mg "enumerate" = none) (ha : PE X e te) (hs : starEach [e] X.env = (false, eval e X.env) :: starEach [] X.env) :
    PI X (.Tuple elts kk tpos) (.Call (.Name "enumerate" p) [e] [] pos) (iEm X.K te) := by
  refine ⟨fun pins s σ H R I h => ?_⟩
  have hA : PA X [e] (tCons te tNil) := pa_cons ha pa_nil hs
  refine Call_ (ld_blt I hg hm boot_enumerate (PyProof.Rows.callWith_type1 (thn (hA.run pos pins s σ H (fun vs H1 => ∃ v, vs = [v] ∧ ∃ a k xs, v = .ref a ∧ SAt k X.K H1 a xs ∧ R (Iem k X.K a) H1) I ?_) fun us s1 ⟨vs, H1, I1, r1, q1⟩ => ?_) hs rfl))
  · have h : te σ H fun v H1 => ∃ a k xs, v = .ref a ∧ SAt k X.K H1 a xs ∧ R (Iem k X.K a) H1 := h
    have e : (fun v H1 => ∃ a k xs, v = .ref a ∧ SAt k X.K H1 a xs ∧ R (Iem k X.K a) H1) = fun (v : V) (H1 : Hp) => tNil σ H1 fun xs H2 => ∃ w, v :: xs = [w] ∧ ∃ a k xs, w = .ref a ∧ SAt k X.K H2 a xs ∧ R (Iem k X.K a) H2 := by
      funext v H1
      apply propext
      constructor
      · exact fun q => ⟨v, rfl, q⟩
      · rintro ⟨w, e, q⟩; cases e; exact q
    show te σ H _
    rw [← e]
    exact h
  · obtain ⟨v, rfl, a, k, xs, rfl, hqx, q⟩ := q1
    cases r1 with
    | cons r rr =>
      cases rr
      cases r
      obtain ⟨its, rv, p1, _⟩ := src_at I1 hqx
      have la : a < s1.heap.objs.size := p1.lt
      refine enum_begins1 (begins k a its.toArray) p1 fun h' he g1 hsz hk => wpAny_pyIter_enum he ?_
      have I2 : Inv X pins σ H1 { s1 with heap := h' } := I1.kept (t' := s1.toks) hk
      refine ⟨s1.heap.objs.size + 1, [s1.heap.objs.size + 1, s1.heap.objs.size], _, _, H1, rfl, I2, turn_em k (Nat.succ_ne_self _) (Ne.symm (ne_off la)) (Nat.ne_of_lt la), ⟨⟨_, he⟩, SIt.new g1⟩, fun c hcm => ?_, q⟩
      have e' : c = s1.heap.objs.size + 1 ∨ c = s1.heap.objs.size := by simpa using hcm
      have hle : s1.heap.objs.size ≤ c := by
        rcases e' with z | z
        · rw [z]; exact Nat.le_add_right _ _
        · rw [z]; exact Nat.le_refl _
      exact I1.fpOk hle (I1.hok.fresh hle)
/-! ### by data -/
def seqOf : Dt → Option (Bool × List Dt)
  | .list xs => some (true, xs)
  | .tuple xs => some (false, xs)
  | _ => none
theorem RpB.src {b : Bool} {K : PySem.W.Frag} {ow : Ow} {H : Hp} {v : V} {d : Dt} {k : Bool} {xs : List Dt} (h : RpB b K ow H v d) (e : seqOf d = some (k, xs)) : ∃ a vs, v = .ref a ∧ SAt k K H a vs ∧ RpAll K (OA ow) H vs xs := by
  unfold seqOf at e
  split at e
  · cases e; obtain ⟨a, vs, rfl, h1, r⟩ := h.list; exact ⟨a, vs, rfl, SqL.of h1, r⟩
  · cases e; obtain ⟨a, vs, rfl, h1, r⟩ := h.tuple; exact ⟨a, vs, rfl, h1.sq, r⟩
  · cases e
theorem RpB.seq_stp {b : Bool} {K : PySem.W.Frag} {ow ow1 : Ow} {H H1 : Hp} {v : V} {d : Dt} {k : Bool} {xs : List Dt} (e : seqOf d = some (k, xs)) (ok : OkO ow H) (h : RpB b K ow H v d) (r : Rel b ow H ow1 H1) : RpB b K ow1 H1 v d := by
  unfold seqOf at e
  split at e
  · exact h.list_stp ok r
  · exact h.tup_stp ok r
  · cases e
/-- the list that is read there is one -/
theorem src_one {b : Bool} {K : PySem.W.Frag} {ow : Ow} {H : Hp} {a : Addr} {d : Dt} {k : Bool} {xs : List Dt} (h : RpB b K ow H (.ref a) d) (e : seqOf d = some (k, xs)) : ∃ vs, SAt k K H a vs ∧ RpAll K (OA ow) H vs xs := by
  obtain ⟨a', vs, e', h1, r⟩ := h.src e
  cases e'
  exact ⟨vs, h1, r⟩
def zipD (xs ys : List Dt) : List Dt := List.zipWith (fun x y => .tuple [x, y]) xs ys
theorem wd_zm {b : Bool} {K : PySem.W.Frag} {ow : Ow} {H : Hp} {a a2 : Addr} {d d2 : Dt} {k k2 : Bool} {xs ys : List Dt} (ok : OkO ow H) (h : RpB b K ow H (.ref a) d) (e : seqOf d = some (k, xs)) (h2 : RpB b K ow H (.ref a2) d2) (e2 : seqOf d2 = some (k2, ys)) :
    WD (.p .d .d) b K ow H (Izm k k2 K a a2) (zipD xs ys) := fun ow1 H1 r ok1 => by
  obtain ⟨vs, s1, r1⟩ := src_one (h.seq_stp e ok r) e
  obtain ⟨ws, s2, r2⟩ := src_one (h2.seq_stp e2 ok r) e2
  have hl : (zipD xs ys).length = min xs.length ys.length := by unfold zipD; rw [List.length_zipWith]
  refine ⟨fun i hi => ?_, ⟨vs, ws, s1, s2, by rw [hl, r1.length, r2.length]⟩, fun i x H2 hi y => ?_⟩
  · rw [hl] at hi
    have i1 : i < vs.length := by rw [r1.length]; omega
    have i2 : i < ws.length := by rw [r2.length]; omega
    exact ⟨vs, ws, vs[i], ws[i], s1, s2, by simp [i1], by simp [i2]⟩
  · rw [hl] at hi
    obtain ⟨T, x, y, rfl, hT, rfl, hx, hy⟩ := y
    have i1 : i < xs.length := by omega
    have i2 : i < ys.length := by omega
    obtain ⟨v1, hv1, q1⟩ := r1.get (i := i) (d := xs[i]) (by simp [i1])
    obtain ⟨v2, hv2, q2⟩ := r2.get (i := i) (d := ys[i]) (by simp [i2])
    rw [hx vs s1] at hv1
    rw [hy ws s2] at hv2
    cases hv1
    cases hv2
    refine ⟨Same.upd hT, .tuple [xs[i], ys[i]], ?_, T, _, _, _, _, rfl, upd_same, rfl, Rp.same (Same.upd hT) q1, Rp.same (Same.upd hT) q2⟩
    unfold zipD
    rw [List.getElem?_zipWith]
    simp [i1, i2]
def enumD (xs : List Dt) : List Dt := List.zipWith (fun x y => .tuple [x, y]) (rgL 0 xs.length) xs
theorem wd_em {b : Bool} {K : PySem.W.Frag} {ow : Ow} {H : Hp} {a : Addr} {d : Dt} {k : Bool} {xs : List Dt} (ok : OkO ow H) (h : RpB b K ow H (.ref a) d) (e : seqOf d = some (k, xs)) : WD (.p .d .d) b K ow H (Iem k K a) (enumD xs) := fun ow1 H1 r ok1 => by
  obtain ⟨vs, s1, r1⟩ := src_one (h.seq_stp e ok r) e
  have hl : (enumD xs).length = xs.length := by unfold enumD; rw [List.length_zipWith, rgL_length]; omega
  refine ⟨fun i hi => ?_, ⟨vs, s1, by rw [hl, r1.length]⟩, fun i x H2 hi y => ?_⟩
  · rw [hl] at hi
    have i1 : i < vs.length := by rw [r1.length]; omega
    exact ⟨vs, vs[i], s1, by simp [i1]⟩
  · rw [hl] at hi
    obtain ⟨T, x, rfl, hT, rfl, hx⟩ := y
    obtain ⟨v1, hv1, q1⟩ := r1.get (i := i) (d := xs[i]) (by simp [hi])
    rw [hx vs s1] at hv1
    cases hv1
    refine ⟨Same.upd hT, .tuple [.int (i : Nat), xs[i]], ?_, T, _, _, _, _, rfl, upd_same, rfl, .int _, Rp.same (Same.upd hT) q1⟩
    unfold enumD
    rw [List.getElem?_zipWith, rgL_get hi]
    simp [hi]
section
variable {G : Gc} {N : List Str} {sc : Scope} {fn : Str → Bool} {k : Nat} {pos p p2 tpos : Pos} {a b c : Expr} {f g h : EF} {elts : List Expr} {kk : Nat}
def iZip (f g : EF) : IF := fun bb ρ => bndI (f bb ρ) fun x => bndI (g bb ρ) fun y => match seqOf x, seqOf y with
  | some (_, xs), some (_, ys) => some (.it (zipD xs ys))
  | _, _ => none
theorem si_zip (B : Bi G) (ha : SE G N sc fn k a f) (hb : SE G N sc fn k b g) (hg : GL sc "zip" := by rfl) (ns : NS a := by intro _ _; rfl) (ns2 : NS b := by intro _ _; rfl) : SI G N sc fn k (.p .d .d) (.Tuple elts kk tpos) (.Call (.Name "zip" p) [a, b] [] pos) (iZip f g) := fun X C W tk b' =>
  PI.imp (pi_zm (C.gl hg) (by rw [C.hmg]; exact B.zip) (pa_cons (ha X C W tk b') (pa_cons (hb X C W tk b') pa_nil (ns2 [] X.env)) (ns [b] X.env)) (ns [b] X.env) (noStar _ _ _ fun e he => by rw [List.mem_singleton.mp he]; exact ns2)) fun σ H R h => by
    obtain ⟨ρ, ow, r, he, gd, post⟩ := h
    refine tE.goI gd he (fun n pl e => by subst e; exact post) fun d hd v H1 s1 r1 => ?_
    refine tE.goI (gd.same s1) hd (fun n pl e => by subst e; exact ExP.same post s1) fun d2 hd2 v2 H2 s2 r2 => ?_
    split at hd2
    · rename_i k1 xs k2 ys e1 e2
      cases hd2
      have r1' := r1.same s2
      obtain ⟨a1, vs, rfl, q1, w1⟩ := r1'.src e1
      obtain ⟨a2, ws, rfl, q2, w2⟩ := r2.src e2
      exact ⟨a1, a2, k1, k2, vs, ws, rfl, q1, q2, post _ H2 (s1.trans s2) (wd_zm (gd.ok.same (s1.trans s2)) r1' e1 r2 e2)⟩
    · cases hd2
def iEnum (f : EF) : IF := fun bb ρ => bndI (f bb ρ) fun x => match seqOf x with
  | some (_, xs) => some (.it (enumD xs))
  | _ => none
theorem si_enum (B : Bi G) (ha : SE G N sc fn k a f) (hg : GL sc "enumerate" := by rfl) (ns : NS a := by intro _ _; rfl) : SI G N sc fn k (.p .d .d) (.Tuple elts kk tpos) (.Call (.Name "enumerate" p) [a] [] pos) (iEnum f) := fun X C W tk b' =>
  PI.imp (pi_em (C.gl hg) (by rw [C.hmg]; exact B.enumerate) (ha X C W tk b') (ns [] X.env)) fun σ H R h => by
    obtain ⟨ρ, ow, r, he, gd, post⟩ := h
    refine tE.goI gd he (fun n pl e => by subst e; exact post) fun d hd v H1 s1 r1 => ?_
    split at hd
    · rename_i k1 xs e1
      cases hd
      obtain ⟨a1, vs, rfl, q1, w1⟩ := r1.src e1
      exact ⟨a1, k1, vs, rfl, q1, post _ H1 s1 (wd_em (gd.ok.same s1) r1 e1)⟩
    · cases hd
def iRev (f : EF) : IF := fun bb ρ => bndI (f bb ρ) fun x => match seqOf x with
  | some (_, xs) => some (.it xs.reverse)
  | _ => none
theorem si_rev {tg : Expr} (B : Bi G) (ha : SE G N sc fn k a f) (hg : GL sc "reversed" := by rfl) (ns : NS a := by intro _ _; rfl) : SI G N sc fn k .d tg (.Call (.Name "reversed" p) [a] [] pos) (iRev f) := fun X C W tk b' =>
  PI.imp (RT.pi_revA (C.gl hg) (by rw [C.hmg]; exact B.reversed) (ha X C W tk b') (ns [] X.env)) fun σ H R h => by
    obtain ⟨ρ, ow, r, he, gd, post⟩ := h
    refine tE.goI gd he (fun n pl e => by subst e; exact post) fun d hd v H1 s1 r1 => ?_
    cases d with
    | list xs =>
      cases hd
      obtain ⟨a1, vs, rfl, q1, w1⟩ := r1.list
      refine ⟨a1, vs, rfl, .inl ⟨SqL.of q1, post _ H1 s1 fun ow1 H2 r ok1 => ?_⟩⟩
      obtain ⟨us, t1, w2⟩ := src_one (k := true) (r1.list_stp (gd.ok.same s1) r) rfl
      have hn : us.length = vs.length := by rw [w2.length, w1.length]
      have hx : xs.length = vs.length := w1.length.symm
      refine ⟨fun i hi => ?_, by rw [List.length_reverse, hx]; exact Nat.le_refl _, fun i x H3 hi y => ?_⟩
      · rw [List.length_reverse, hx] at hi
        exact ⟨hi, us, us[vs.length - 1 - i]'(by omega), t1, by simp [show vs.length - 1 - i < us.length by omega]⟩
      · rw [List.length_reverse, hx] at hi
        obtain ⟨rfl, y⟩ := y
        refine ⟨Same.refl _, xs[vs.length - 1 - i]'(by omega), ?_, ?_⟩
        · rw [List.getElem?_reverse (by omega), List.getElem?_eq_getElem (by omega)]
          simp [hx]
        · obtain ⟨v, hv, q⟩ := w2.get (i := vs.length - 1 - i) (d := xs[vs.length - 1 - i]'(by omega)) (by simp [show vs.length - 1 - i < xs.length by omega])
          rw [y us t1] at hv
          cases hv
          exact q
    | tuple xs =>
      cases hd
      obtain ⟨a1, vs, rfl, q1, w1⟩ := r1.tuple
      refine ⟨a1, vs, rfl, .inr ⟨q1.sq, post _ H1 s1 fun ow1 H2 r ok1 => ?_⟩⟩
      obtain ⟨us, t1, w2⟩ := src_one (k := false) (r1.tup_stp (gd.ok.same s1) r) rfl
      have hn : us.length = vs.length := by rw [w2.length, w1.length]
      have hx : xs.length = vs.length := w1.length.symm
      refine ⟨fun i hi => ?_, by rw [List.length_reverse, hx]; exact Nat.le_refl _, fun i x H3 hi y => ?_⟩
      · rw [List.length_reverse, hx] at hi
        exact ⟨hi, us, us[vs.length - 1 - i]'(by omega), t1, by simp [show vs.length - 1 - i < us.length by omega]⟩
      · rw [List.length_reverse, hx] at hi
        obtain ⟨rfl, y⟩ := y
        refine ⟨Same.refl _, xs[vs.length - 1 - i]'(by omega), ?_, ?_⟩
        · rw [List.getElem?_reverse (by omega), List.getElem?_eq_getElem (by omega)]
          simp [hx]
        · obtain ⟨v, hv, q⟩ := w2.get (i := vs.length - 1 - i) (d := xs[vs.length - 1 - i]'(by omega)) (by simp [show vs.length - 1 - i < xs.length by omega])
          rw [y us t1] at hv
          cases hv
          exact q
    | none => cases hd
    | bool _ => cases hd
    | int _ => cases hd
    | str _ => cases hd
    | dict _ => cases hd
end
end PT

namespace PT
open PySem PySem.Spec PyProof.Rows L2

/-! ## sorted: insertion, by a plain order -/
mutual
def dlt : Dt → Dt → Bool
  | .int a, .int b => decide (a < b)
  | .tuple xs, .tuple ys => dltAll xs ys
  | _, _ => false
def dltAll : List Dt → List Dt → Bool
  | x :: xs, y :: ys => if PyData.eqv x y then dltAll xs ys else dlt x y
  | [], _ :: _ => true
  | _, _ => false
end
def dle (a b : Dt) : Bool := !dlt b a
def ins (x : Dt) : List Dt → List Dt
  | [] => [x]
  | y :: ys => if dle x y then x :: y :: ys else y :: ins x ys
def isort : List Dt → List Dt
  | [] => []
  | x :: xs => ins x (isort xs)
def isI : Dt → Bool
  | .int _ => true
  | _ => false
def isTI : Dt → Bool
  | .tuple (x :: r) => isI x && r.all isI
  | _ => false
def okS (ds : List Dt) : Bool := ds.all isI || ds.all isTI
theorem isI_out {d : Dt} (h : isI d = true) : ∃ i, d = .int i := by
  cases d with
  | int i => exact ⟨i, rfl⟩
  | _ => cases h
theorem allI_out : ∀ {ds : List Dt}, ds.all isI = true → ∃ ns : List Int, ds = ns.map .int
  | [], _ => ⟨[], rfl⟩
  | d :: ds, h => by
    simp only [List.all_cons, Bool.and_eq_true] at h
    obtain ⟨i, rfl⟩ := isI_out h.1
    obtain ⟨ns, rfl⟩ := allI_out h.2
    exact ⟨i :: ns, rfl⟩
theorem isTI_out {d : Dt} (h : isTI d = true) : ∃ (i : Int) (ns : List Int), d = .tuple (.int i :: ns.map .int) := by
  cases d with
  | tuple xs =>
    cases xs with
    | nil => cases h
    | cons x r =>
      simp only [isTI, Bool.and_eq_true] at h
      obtain ⟨i, rfl⟩ := isI_out h.1
      obtain ⟨ns, rfl⟩ := allI_out h.2
      exact ⟨i, ns, rfl⟩
  | _ => cases h
theorem eqv_int (a b : Int) : PyData.eqv (.int a) (.int b) = decide (a = b) := by simp [PyData.eqv]; rfl
theorem toksI (x : Int) (r : List Dt) : PySem.W.keyToksAll (.int x :: r) = .inl 1 :: (.inl x :: PySem.W.keyToksAll r) := by
  unfold PySem.W.keyToksAll
  rw [PySem.W.keyToks]
  cases r <;> rfl
theorem dlt_ints : ∀ xs ys : List Int, dltAll (xs.map .int) (ys.map .int) = lexLt itemOrd (PySem.W.keyToksAll (xs.map .int)) (PySem.W.keyToksAll (ys.map .int))
  | [], [] => by
    show false = _
    exact (lex_irrefl (O := itemOrd) _).symm
  | [], y :: ys => by
    simp only [List.map_nil, List.map_cons, dltAll]
    rw [toksI]
    show true = lexLt itemOrd [.inl 0] _
    rw [PySem.W.lex_atom (by simp), PySem.W.lex_one]
    rfl
  | x :: xs, [] => by
    simp only [List.map_nil, List.map_cons, dltAll]
    rw [toksI]
    show false = lexLt itemOrd _ [.inl 0]
    rw [PySem.W.lex_atom (by simp), PySem.W.lex_one]
    rfl
  | x :: xs, y :: ys => by
    simp only [List.map_cons, dltAll]
    cases e : PyData.eqv (.int x) (.int y) with
    | true => rw [if_pos rfl, PySem.W.dataLt_all_yes (by simp [PySem.W.alike]) e, dlt_ints]
    | false =>
      rw [if_neg Bool.false_ne_true, PySem.W.dataLt_all_no (by simp [PySem.W.alike]) e, PySem.W.dataLt_int]
      rfl
theorem dlt_ok {ds : List Dt} (h : okS ds = true) : ∀ a ∈ ds, ∀ b ∈ ds, dle a b = PySem.W.dataLe false (fun d : Dt => d) a b := by
  intro a ha b hb
  show (!dlt b a) = (!PySem.W.dataLt b a)
  unfold okS at h
  rw [Bool.or_eq_true] at h
  rcases h with h | h
  · obtain ⟨i, rfl⟩ := isI_out (List.all_eq_true.mp h a ha)
    obtain ⟨j, rfl⟩ := isI_out (List.all_eq_true.mp h b hb)
    rw [PySem.W.dataLt_int]; rfl
  · obtain ⟨i, ns, rfl⟩ := isTI_out (List.all_eq_true.mp h a ha)
    obtain ⟨j, ms, rfl⟩ := isTI_out (List.all_eq_true.mp h b hb)
    rw [PySem.W.dataLt_tuple]
    exact congrArg _ (dlt_ints (j :: ms) (i :: ns))
theorem ins_perm (x : Dt) : ∀ l, (ins x l).Perm (x :: l)
  | [] => .refl _
  | y :: ys => by
    unfold ins
    split
    · exact .refl _
    · exact ((ins_perm x ys).cons y).trans (.swap x y ys)
theorem isort_perm : ∀ l, (isort l).Perm l
  | [] => .refl _
  | x :: xs => (ins_perm x _).trans ((isort_perm xs).cons x)
section
variable {le : Dt → Dt → Bool} (T : PySem.W.TotalLe le)
include T
theorem ins_sorted {x : Dt} : ∀ {l : List Dt}, (∀ a ∈ x :: l, ∀ b ∈ x :: l, dle a b = le a b) → l.Pairwise (fun a b => le a b = true) → (ins x l).Pairwise (fun a b => le a b = true)
  | [], _, _ => List.pairwise_singleton _ _
  | y :: ys, hq, h => by
    have hxy := hq x List.mem_cons_self y (List.mem_cons_of_mem _ List.mem_cons_self)
    unfold ins
    split
    · rename_i hc
      rw [hxy] at hc
      refine List.pairwise_cons.mpr ⟨fun z hz => ?_, h⟩
      rcases List.mem_cons.mp hz with e | hz
      · rw [e]; exact hc
      · exact T.trans _ _ _ hc ((List.pairwise_cons.mp h).1 z hz)
    · rename_i hc
      rw [hxy] at hc
      have hyx : le y x = true := (T.total x y).resolve_left hc
      refine List.pairwise_cons.mpr ⟨fun z hz => ?_, ins_sorted (fun a ha b hb => hq a ?_ b ?_) (List.pairwise_cons.mp h).2⟩
      · rcases List.mem_cons.mp ((ins_perm x ys).mem_iff.mp hz) with e | hz
        · rw [e]; exact hyx
        · exact (List.pairwise_cons.mp h).1 z hz
      · rcases List.mem_cons.mp ha with e | e
        · rw [e]; exact List.mem_cons_self
        · exact List.mem_cons_of_mem _ (List.mem_cons_of_mem _ e)
      · rcases List.mem_cons.mp hb with e | e
        · rw [e]; exact List.mem_cons_self
        · exact List.mem_cons_of_mem _ (List.mem_cons_of_mem _ e)
theorem ins_stable {x : Dt} (c : Dt) : ∀ {l : List Dt}, (∀ a ∈ x :: l, ∀ b ∈ x :: l, dle a b = le a b) → (ins x l).filter (PySem.W.sameRank le c) = (x :: l).filter (PySem.W.sameRank le c)
  | [], _ => rfl
  | y :: ys, hq => by
    have hxy := hq x List.mem_cons_self y (List.mem_cons_of_mem _ List.mem_cons_self)
    unfold ins
    split
    · rfl
    · rename_i hc
      rw [hxy] at hc
      have ih := ins_stable c (x := x) (l := ys) (fun a ha b hb => hq a (by
        rcases List.mem_cons.mp ha with e | e
        · rw [e]; exact List.mem_cons_self
        · exact List.mem_cons_of_mem _ (List.mem_cons_of_mem _ e)) b (by
        rcases List.mem_cons.mp hb with e | e
        · rw [e]; exact List.mem_cons_self
        · exact List.mem_cons_of_mem _ (List.mem_cons_of_mem _ e)))
      rw [List.filter_cons, ih]
      simp only [List.filter_cons]
      cases e1 : PySem.W.sameRank le c y with
      | false => rw [if_neg Bool.false_ne_true, if_neg Bool.false_ne_true]
      | true =>
        cases e2 : PySem.W.sameRank le c x with
        | false => rw [if_neg Bool.false_ne_true, if_neg Bool.false_ne_true]
        | true =>
          exfalso
          apply hc
          simp only [PySem.W.sameRank, Bool.and_eq_true] at e1 e2
          exact T.trans _ _ _ e2.2 e1.1
theorem isort_sorted : ∀ {l : List Dt}, (∀ a ∈ l, ∀ b ∈ l, dle a b = le a b) → (isort l).Pairwise (fun a b => le a b = true)
  | [], _ => List.Pairwise.nil
  | x :: xs, h => ins_sorted T (fun a ha b hb => h a (((isort_perm xs).cons x).mem_iff.mp ha) b (((isort_perm xs).cons x).mem_iff.mp hb)) (isort_sorted fun a ha b hb => h a (List.mem_cons_of_mem _ ha) b (List.mem_cons_of_mem _ hb))
theorem isort_stable (c : Dt) : ∀ {l : List Dt}, (∀ a ∈ l, ∀ b ∈ l, dle a b = le a b) → (isort l).filter (PySem.W.sameRank le c) = l.filter (PySem.W.sameRank le c)
  | [], _ => rfl
  | x :: xs, h => by
    show (ins x (isort xs)).filter _ = _
    rw [ins_stable T c (fun a ha b hb => h a (((isort_perm xs).cons x).mem_iff.mp ha) b (((isort_perm xs).cons x).mem_iff.mp hb)), List.filter_cons, isort_stable c (fun a ha b hb => h a (List.mem_cons_of_mem _ ha) b (List.mem_cons_of_mem _ hb)), ← List.filter_cons]
theorem isort_merge {l : List Dt} (h : ∀ a ∈ l, ∀ b ∈ l, dle a b = le a b) : isort l = l.mergeSort le := PySem.W.sort_unique T (isort_sorted T h) fun c => isort_stable T c h
end
theorem isort_data {ds : List Dt} (h : okS ds = true) : ds.mergeSort (PySem.W.dataLe false fun d : Dt => d) = isort ds := (isort_merge (PySem.W.sortLe_total _ _ _) (dlt_ok h)).symm
theorem okS_alike {ds : List Dt} (h : okS ds = true) : PySem.W.AllAlike (ds.map fun d => d) := by
  intro a ha b hb
  rw [List.map_id'] at ha hb
  unfold okS at h
  rw [Bool.or_eq_true] at h
  rcases h with h | h
  · obtain ⟨i, rfl⟩ := isI_out (List.all_eq_true.mp h a ha)
    obtain ⟨j, rfl⟩ := isI_out (List.all_eq_true.mp h b hb)
    simp [PySem.W.alike]
  · obtain ⟨i, ns, rfl⟩ := isTI_out (List.all_eq_true.mp h a ha)
    obtain ⟨j, ms, rfl⟩ := isTI_out (List.all_eq_true.mp h b hb)
    rw [PySem.W.alike]
    exact PySem.W.alike_ints (i :: ns) (j :: ms)
theorem okS_sortable {ds : List Dt} (h : okS ds = true) : PySem.W.Sortable (ds.map fun d => d) := by
  rw [List.map_id']
  unfold okS at h
  rw [Bool.or_eq_true] at h
  rcases h with h | h
  · refine .inr fun d hd => ?_
    obtain ⟨i, rfl⟩ := isI_out (List.all_eq_true.mp h d hd)
    refine ⟨fun z => ?_, fun _ z => ?_⟩ <;> cases z
  · refine .inl fun d hd => ?_
    obtain ⟨i, ns, rfl⟩ := isTI_out (List.all_eq_true.mp h d hd)
    exact ⟨_, _, rfl⟩
theorem okS_depth {ds : List Dt} (h : okS ds = true) : ∀ d ∈ ds, d.depth ≤ 1 := by
  intro d hd
  unfold okS at h
  rw [Bool.or_eq_true] at h
  rcases h with h | h
  · obtain ⟨i, rfl⟩ := isI_out (List.all_eq_true.mp h d hd)
    simp [PyData.depth]
  · obtain ⟨i, ns, rfl⟩ := isTI_out (List.all_eq_true.mp h d hd)
    rw [PyData.depth]
    have := PySem.W.depth_ints (i :: ns)
    rw [List.map_cons] at this
    rw [this]
    decide
theorem plainI : ∀ ns : List Int, PyData.plainAll (ns.map .int) = true
  | [] => by simp [PyData.plainAll]
  | x :: xs => by
    rw [List.map_cons, PyData.plainAll, plainI xs]
    simp [PyData.plain]
theorem okS_plain {ds : List Dt} (h : okS ds = true) : ∀ d ∈ ds, d.plain = true := by
  intro d hd
  unfold okS at h
  rw [Bool.or_eq_true] at h
  rcases h with h | h
  · obtain ⟨i, rfl⟩ := isI_out (List.all_eq_true.mp h d hd)
    simp [PyData.plain]
  · obtain ⟨i, ns, rfl⟩ := isTI_out (List.all_eq_true.mp h d hd)
    rw [PyData.plain]
    exact plainI (i :: ns)
def PE2 (R : V → Dt → Prop) : List V → List Dt → Prop := PySem.W.EachIs R
def rSortedD (K : PySem.W.Frag) : List V → Hp → VK → Prop := fun vs H Q => ∃ (a : Addr) (xs : List V) (ds : List Dt) (R : V → Dt → Prop), vs = [.ref a] ∧ SqL K H a xs ∧ okS ds = true ∧ PySem.W.EachIs (fun v d => R v d ∧ Dp K H v d) xs ds ∧
  ∀ ys p, PySem.W.EachIs R ys (isort ds) → H p = none → Q (.ref p) (upd H p (.lst ys))
theorem each_vals {R : V → Dt → Prop} : ∀ {xs : List V} {us : List Value} {ds : List Dt}, Vals xs us → PySem.W.EachIs R xs ds → PySem.W.EachIs (fun u d => ∃ v, RelV v u ∧ R v d) us ds
  | _, _, _, .nil, .nil => .nil
  | _, _, _, .cons r t, .cons h hs => .cons ⟨_, r, h⟩ (each_vals t hs)
theorem vals_each {R : V → Dt → Prop} : ∀ {us : List Value} {ds : List Dt}, PySem.W.EachIs (fun u d => ∃ v, RelV v u ∧ R v d) us ds → ∃ xs, Vals xs us ∧ PySem.W.EachIs R xs ds
  | _, _, .nil => ⟨[], .nil, .nil⟩
  | _, _, .cons ⟨v, r, h⟩ t => let ⟨xs, h1, h2⟩ := vals_each t; ⟨v :: xs, .cons r h1, .cons h h2⟩
theorem cr_sortedD {X : Cx} (hu : X.A.units + 64 < cLine) : CallR X (.builtin "sorted") (rSortedD X.K) := by
  intro pins s σ H vs us Q I r h
  obtain ⟨a, xs, ds, R, rfl, hs, hok, he, q⟩ := h
  obtain ⟨its, rv, hl, hz⟩ := I.list hs
  rw [Vals.ref1 r]
  have e2 := each_vals rv he
  refine PySem.W.sorted_data (enc := fun d : Dt => d) (R := fun u d => ∃ v, RelV v u ∧ R v d) hl.isList (e2.mono fun u d ⟨v, h1, h2, _⟩ => ⟨v, h1, h2⟩) (e2.mono fun u d ⟨v, h1, _, h2⟩ => Dp.reads I d v u h2 h1) (okS_alike hok) (okS_sortable hok) (by rw [← e2.length, ← rv.length]; exact hz) (fun b hb => by have := okS_depth hok b hb; omega) fun out h1 h2 => ?_
  rw [isort_data hok] at h2
  obtain ⟨ys, hv, hy⟩ := vals_each h2
  obtain ⟨ep, he'⟩ := PyProof.Rows.sortedAll_at s.heap its out.toArray
  have hlen : ys.length ≤ sizeLine := by
    rw [hv.length, h1, ← e2.length, ← rv.length]
    exact hz
  exact ⟨.ref _, upd H (s.heap.objs.size + 1) (.lst ys), I.laid (t' := s.toks) (fun _ _ => PyProof.Rows.sortedAll_old) (Nat.le_succ _) ⟨hlen, out, ep, hv, he'⟩, rfl, q _ _ hy (I.hok.fresh (Nat.le_succ _))⟩
theorem RpAll.each {K : PySem.W.Frag} {O : Addr → Prop} {H : Hp} : ∀ {vs : List V} {ds : List Dt}, RpAll K O H vs ds → (∀ d ∈ ds, d.plain = true) → PySem.W.EachIs (fun v d => Rp K O H v d ∧ Dp K H v d) vs ds
  | _, _, .nil, _ => .nil
  | _, _, .cons h t, hp => .cons ⟨h, h.dp (hp _ List.mem_cons_self)⟩ (RpAll.each t fun d hd => hp d (List.mem_cons_of_mem _ hd))
theorem each_rp {K : PySem.W.Frag} {O : Addr → Prop} {H : Hp} : ∀ {vs : List V} {ds : List Dt}, PySem.W.EachIs (fun v d => Rp K O H v d) vs ds → RpAll K O H vs ds
  | _, _, .nil => .nil
  | _, _, .cons h t => .cons h (each_rp t)
def dSorted : Dt → Option Dt
  | .list ds => if okS ds then some (.list (isort ds)) else none
  | _ => none
theorem cd_sorted (K : PySem.W.Frag) : CD1 K (rSortedD K) dSorted := by
  intro x H Q ow dx dz ok rx e post
  unfold dSorted at e
  split at e
  · split at e
    · rename_i hok
      cases e
      obtain ⟨a, vs, rfl, h1, r⟩ := rx.list
      exact ⟨a, vs, _, _, rfl, SqL.of h1, hok, r.each (okS_plain hok), fun ys p hy hp => post _ _ (Same.upd hp) (.lst upd_same (ok.new hp) (RpAll.same (Same.upd hp) (each_rp hy)))⟩
    · cases e
  · cases e
/-! ### set(t) of a tuple of ints, under sorted and len -/
def ddup : List Int → List Int
  | [] => []
  | x :: xs => if xs.contains x then ddup xs else x :: ddup xs
theorem ddup_mem : ∀ {l : List Int} {k : Int}, k ∈ ddup l ↔ k ∈ l
  | [], _ => Iff.rfl
  | x :: xs, k => by
    unfold ddup
    split
    · rename_i h
      rw [ddup_mem, List.mem_cons]
      exact ⟨.inr, fun z => z.elim (fun e => by rw [e]; simpa using h) id⟩
    · rw [List.mem_cons, List.mem_cons, ddup_mem]
theorem ddup_nodup : ∀ l : List Int, (ddup l).Nodup
  | [] => List.nodup_nil
  | x :: xs => by
    unfold ddup
    split
    · exact ddup_nodup xs
    · rename_i h
      exact List.nodup_cons.mpr ⟨fun z => h (by simpa using ddup_mem.mp z), ddup_nodup xs⟩
theorem nodup_len : ∀ {a b : List Int}, a.Nodup → (∀ k, k ∈ a → k ∈ b) → a.length ≤ b.length := by
  intro a
  induction a with
  | nil => exact fun _ _ => Nat.zero_le _
  | cons x xs ih =>
    intro b hn h
    have hx : x ∈ b := h x List.mem_cons_self
    have hl := List.length_erase_of_mem hx
    have hp := List.length_pos_of_mem hx
    have := ih (b := b.erase x) (List.nodup_cons.mp hn).2 fun k hk => (List.mem_erase_of_ne (fun (e : k = x) => (List.nodup_cons.mp hn).1 (by rw [← e]; exact hk))).mpr (h k (List.mem_cons_of_mem _ hk))
    simp only [List.length_cons]
    omega
theorem setR_len {w : World} {h : Heap} {a : Addr} {ns : List Int} {c : Nat} (R : SetR w h a (fun j => decide (j ∈ ns)) c) : c = (ddup ns).length := by
  obtain ⟨o, es, ep, t, ho, hx, hd, hg, hn, hm, hb, hf, hc, _⟩ := R
  have e1 : (es.toList.map keyOf).length = c := by rw [List.length_map, Array.length_toList]; exact hc
  have hq : ∀ k, k ∈ es.toList.map keyOf ↔ k ∈ ddup ns := fun k => by rw [← hm k, ddup_mem, decide_eq_true_eq]
  have a1 := nodup_len hn fun k hk => (hq k).mp hk
  have a2 := nodup_len (ddup_nodup ns) fun k hk => (hq k).mpr hk
  omega
def rSetT (K : PySem.W.Frag) (w : World) : List V → Hp → VK → Prop := fun vs H Q => ∃ (p : Addr) (ns : List Int), vs = [.ref p] ∧ SqT K H p (ns.map V.int) ∧ ns.length ≤ 1000 ∧ ∀ l, H l = none → Q (.ref l) (upd H l (SetO w l (fun j => decide (j ∈ ns)) (ddup ns).length))
theorem cr_setT {X : Cx} (hc : X.calm = true) : CallR X (.type "set") (rSetT X.K X.w) := by
  intro pins s σ H vs us Q I r h
  obtain ⟨p, ns, rfl, hq, hl, q⟩ := h
  obtain ⟨its, rv, pt, hz⟩ := I.tuple hq
  rw [Vals.ref1 r]
  refine call_set_tupI ns (I.ok.hd hc) pt (by simpa using rv.ints) (by unfold scanBound; omega) fun h' tk c R hcn kk => ?_
  have e := setR_len R
  subst e
  exact ⟨.ref _, _, I.laid (t' := tk) kk (Nat.le_refl _) (setO_new R), rfl, q _ (I.hok.fresh (Nat.le_refl _))⟩
def rLenSetO (w : World) : List V → Hp → VK → Prop := fun vs H Q => ∃ (a : Addr) (S : Int → Bool) (n : Nat), vs = [V.ref a] ∧ H a = some (SetO w a S n) ∧ Q (.int n) H
theorem cr_lenSetO {X : Cx} : CallR X (.builtin "len") (rLenSetO X.w) := by
  intro pins s σ H vs us Q I r h
  obtain ⟨a, S, n, rfl, ha, q⟩ := h
  obtain ⟨o, es, ep, t, ho, hx, hd, hg, hn, hm, hb, hf, hc, _⟩ := setO_get I ha
  rw [Vals.ref1 r]
  exact call_len_set ho hx hd hf (by unfold scanBound at hb; omega) ⟨.int n, H, I.tok _, ⟨_, by rw [hc]⟩, q⟩
def unI : List Dt → Option (List Int)
  | [] => some []
  | .int i :: r => (unI r).map (i :: ·)
  | _ :: _ => none
theorem unI_eq : ∀ {ds : List Dt} {ns : List Int}, unI ds = some ns → ds = ns.map .int
  | [], _, h => by cases h; rfl
  | d :: ds, ns, h => by
    cases d with
    | int i =>
      simp only [unI] at h
      cases e : unI ds with
      | none => rw [e] at h; cases h
      | some m => rw [e] at h; cases h; rw [unI_eq e]; rfl
    | _ => cases h
theorem unI_map (ns : List Int) : unI (ns.map .int) = some ns := by
  induction ns with
  | nil => rfl
  | cons n ns ih => simp [unI, ih]
theorem RpAll.ints {K : PySem.W.Frag} {O : Addr → Prop} {H : Hp} : ∀ {ns : List Int} {vs : List V}, RpAll K O H vs (ns.map .int) → vs = ns.map V.int
  | [], _, .nil => rfl
  | n :: ns, _, .cons h t => by
    rw [RpAll.ints t]
    cases h
    rfl
theorem rp_ints {K : PySem.W.Frag} {O : Addr → Prop} {H : Hp} (ns : List Int) : RpAll K O H (ns.map V.int) (ns.map .int) := rp_map _ _ ns fun x _ => .int x
/-- the members in order -/
def sset (ns : List Int) : List Dt := isort ((ddup ns).map .int)
def dSortSet : Dt → Option Dt
  | .tuple ds => match unI ds with
    | some ns => if ns.length < 64 then some (.list (sset ns)) else none
    | none => none
  | _ => none
def dLenSet : Dt → Option Dt
  | .tuple ds => match unI ds with
    | some ns => if ns.length < 64 then some (.int (ddup ns).length) else none
    | none => none
  | _ => none
theorem dlt_int (a b : Int) : dlt (.int a) (.int b) = decide (a < b) := by rw [dlt]
theorem ins_int (x : Int) : ∀ l : List Int, ∃ m : List Int, ins (.int x) (l.map .int) = m.map .int
  | [] => ⟨[x], rfl⟩
  | y :: ys => by
    simp only [List.map_cons, ins]
    split
    · exact ⟨x :: y :: ys, rfl⟩
    · obtain ⟨m, hm⟩ := ins_int x ys
      exact ⟨y :: m, by rw [hm]; rfl⟩
theorem isort_int : ∀ l : List Int, ∃ m : List Int, isort (l.map .int) = m.map .int
  | [] => ⟨[], rfl⟩
  | x :: xs => by
    obtain ⟨m, hm⟩ := isort_int xs
    show ∃ m, ins (.int x) (isort (xs.map .int)) = _
    rw [hm]
    exact ins_int x m
theorem lt_unique : ∀ {a b : List Int}, a.Pairwise (· < ·) → b.Pairwise (· < ·) → (∀ k, k ∈ a ↔ k ∈ b) → a = b
  | [], [], _, _, _ => rfl
  | [], y :: ys, _, _, h => absurd ((h y).mpr List.mem_cons_self) (by simp)
  | x :: xs, [], _, _, h => absurd ((h x).mp List.mem_cons_self) (by simp)
  | x :: xs, y :: ys, ha, hb, h => by
    have pa := List.pairwise_cons.mp ha
    have pb := List.pairwise_cons.mp hb
    have e : x = y := by
      rcases List.mem_cons.mp ((h x).mp List.mem_cons_self) with e | e
      · exact e
      · rcases List.mem_cons.mp ((h y).mpr List.mem_cons_self) with e2 | e2
        · exact e2.symm
        · have := pb.1 x e
          have := pa.1 y e2
          omega
    subst e
    rw [lt_unique pa.2 pb.2 fun k => ?_]
    constructor
    · intro hk
      rcases List.mem_cons.mp ((h k).mp (List.mem_cons_of_mem _ hk)) with e | e
      · have := pa.1 k hk; omega
      · exact e
    · intro hk
      rcases List.mem_cons.mp ((h k).mpr (List.mem_cons_of_mem _ hk)) with e | e
      · have := pb.1 k hk; omega
      · exact e
theorem map_int_inj {a b : List Int} (h : a.map PyData.int = b.map PyData.int) : a = b := by
  have := congrArg unI h
  rw [unI_map, unI_map] at this
  exact Option.some.inj this
def toI : Dt → Option Int
  | .int i => some i
  | _ => none
theorem sset_eq (ns ms : List Int) (h1 : ms.Pairwise (· < ·)) (h2 : ∀ k, k ∈ ms ↔ k ∈ ns) : sset ns = ms.map .int := by
  obtain ⟨m, hm⟩ := isort_int (ddup ns)
  unfold sset
  rw [hm]
  have hok : okS ((ddup ns).map .int) = true := by
    unfold okS
    rw [Bool.or_eq_true]
    left
    rw [List.all_eq_true]
    intro d hd
    obtain ⟨i, _, rfl⟩ := List.mem_map.mp hd
    rfl
  have hs := isort_sorted (PySem.W.sortLe_total _ _ _) (dlt_ok hok)
  have hp := isort_perm ((ddup ns).map .int)
  rw [hm] at hs hp
  have hs2 : m.Pairwise (· ≤ ·) := by
    refine (List.pairwise_map.mp hs).imp fun {x y} h => ?_
    have h' : (!PySem.W.dataLt (.int y) (.int x)) = true := h
    rw [PySem.W.dataLt_int] at h'
    simpa using h'
  have hp2 : m.Perm (ddup ns) := by
    have e := hp.filterMap toI
    rw [List.filterMap_map, List.filterMap_map] at e
    have f : toI ∘ PyData.int = (some : Int → Option Int) := rfl
    rw [f, List.filterMap_some, List.filterMap_some] at e
    exact e
  have hn : m.Nodup := hp2.nodup_iff.mpr (ddup_nodup ns)
  rw [lt_unique (lt_of_le_nodup m hs2 hn) h1 fun k => by rw [hp2.mem_iff, ddup_mem, h2]]
section
variable {G : Gc} {N : List Str} {sc : Scope} {fn : Str → Bool} {k : Nat} {pos p p2 q1 q2 : Pos} {a b c : Expr} {f g h : EF}
theorem se_sorted (B : Bi G) (ha : SE G N sc fn k a f) (hg : GL sc "sorted" := by rfl) (ns : NS a := by intro _ _; rfl) : SE G N sc fn k (.Call (.Name "sorted" p) [a] [] pos) (eUn dSorted f) := fun X C W tk b' =>
  PE.imp (pe_callB (cr_sortedD C.room.units) (C.gl hg) (by rw [C.hmg]; exact B.sorted) PyProof.Rows.boot_sorted (pa_cons (ha X C W tk true) pa_nil (ns [] X.env)) (by decide) (by decide) (ns [] X.env) rfl) fun σ H Q h => tCB_of (cd_sorted X.K) h
theorem se_sortSet (B : Bi G) (ha : SE G N sc fn k a f) (hg : GL sc "sorted" := by rfl) (hg2 : GL sc "set" := by rfl) (ns : NS a := by intro _ _; rfl) : SE G N sc fn k (.Call (.Name "sorted" p) [.Call (.Name "set" p2) [a] [] q1] [] pos) (eUn dSortSet f) := fun X C W tk b' =>
  PE.imp (pe_callB (cr_sortedSet C.calm) (C.gl hg) (by rw [C.hmg]; exact B.sorted) PyProof.Rows.boot_sorted (pa_cons (pe_callTy (cr_setT C.calm) (C.gl hg2) (by rw [C.hmg]; exact B.set) PyProof.Rows.boot_set (pa_cons (ha X C W tk true) pa_nil (ns [] X.env)) (by decide) (by decide) (ns [] X.env) rfl) pa_nil rfl) (by decide) (by decide) rfl rfl) fun σ H Q h => by
    obtain ⟨ρ, ow, rs, he, gd, post⟩ := h
    refine tE.go gd he (fun n pl e => by subst e; exact post) fun d hd1 v H1 s1 r1 => ?_
    cases d with
    | tuple ds =>
      simp only [dSortSet] at hd1
      split at hd1
      · rename_i ns hns
        split at hd1
        · rename_i hl
          cases hd1
          obtain ⟨t, vs, rfl, hT, rr⟩ := r1.tuple
          obtain rfl := unI_eq hns
          obtain rfl := RpAll.ints rr
          refine ⟨t, ns, rfl, hT.sq, by omega, fun l hl0 => ⟨l, _, _, rfl, upd_same, ?_, fun ms p' h1 h2 _ hp' => ?_⟩⟩
          · have := nodup_len (ddup_nodup ns) (b := ns) fun k hk => ddup_mem.mp hk
            omega
          · have e := sset_eq ns ms h1 fun k => by rw [h2 k, decide_eq_true_eq]
            have s3 := (s1.trans (Same.upd hl0)).trans (Same.upd (o := .lst (ms.map V.int)) hp')
            refine post _ _ s3 (.inl ?_)
            rw [e]
            exact .lst upd_same ((gd.ok.same (s1.trans (Same.upd hl0))).new hp') (rp_ints ms)
        · cases hd1
      · cases hd1
    | _ => cases hd1
theorem se_lenSet (B : Bi G) (ha : SE G N sc fn k a f) (hg : GL sc "len" := by rfl) (hg2 : GL sc "set" := by rfl) (ns : NS a := by intro _ _; rfl) : SE G N sc fn k (.Call (.Name "len" p) [.Call (.Name "set" p2) [a] [] q1] [] pos) (eUn dLenSet f) := fun X C W tk b' =>
  PE.imp (pe_callB cr_lenSetO (C.gl hg) (by rw [C.hmg]; exact B.len) PySem.boot_len (pa_cons (pe_callTy (cr_setT C.calm) (C.gl hg2) (by rw [C.hmg]; exact B.set) PyProof.Rows.boot_set (pa_cons (ha X C W tk true) pa_nil (ns [] X.env)) (by decide) (by decide) (ns [] X.env) rfl) pa_nil rfl) (by decide) (by decide) rfl rfl) fun σ H Q h => by
    obtain ⟨ρ, ow, rs, he, gd, post⟩ := h
    refine tE.go gd he (fun n pl e => by subst e; exact post) fun d hd1 v H1 s1 r1 => ?_
    cases d with
    | tuple ds =>
      simp only [dLenSet] at hd1
      split at hd1
      · rename_i ns hns
        split at hd1
        · rename_i hl
          cases hd1
          obtain ⟨t, vs, rfl, hT, rr⟩ := r1.tuple
          obtain rfl := unI_eq hns
          obtain rfl := RpAll.ints rr
          refine ⟨t, ns, rfl, hT.sq, by omega, fun l hl0 => ⟨l, _, _, rfl, upd_same, ?_⟩⟩
          exact post _ _ (s1.trans (Same.upd hl0)) (.inl (.int _))
        · cases hd1
      · cases hd1
    | _ => cases hd1
end
end PT

namespace PT
open PySem PySem.Spec PyProof.Rows L2
theorem kit_int : KitOk "int" := ⟨by decide, by
  intro K d hs
  cases d with
  | dict kv =>
    have e : isScr kv = true := by simpa [isSht] using hs
    have e1 : tyN (.dict kv) = "list" := by show (if isScr kv = true then "list" else "Sheet") = _; rw [e]; rfl
    have e2 : dIsi "int" (.dict kv) = dIsi "int" (.list []) := by unfold dIsi; rw [e1]; rfl
    rw [e1, e2]
    kernel_rfl
  | _ => kernel_rfl⟩
theorem kit_bool : KitOk "bool" := ⟨by decide, by
  intro K d hs
  cases d with
  | dict kv =>
    have e : isScr kv = true := by simpa [isSht] using hs
    have e1 : tyN (.dict kv) = "list" := by show (if isScr kv = true then "list" else "Sheet") = _; rw [e]; rfl
    have e2 : dIsi "bool" (.dict kv) = dIsi "bool" (.list []) := by unfold dIsi; rw [e1]; rfl
    rw [e1, e2]
    kernel_rfl
  | _ => kernel_rfl⟩
theorem kit_tuple : KitOk "tuple" := ⟨by decide, by
  intro K d hs
  cases d with
  | dict kv =>
    have e : isScr kv = true := by simpa [isSht] using hs
    have e1 : tyN (.dict kv) = "list" := by show (if isScr kv = true then "list" else "Sheet") = _; rw [e]; rfl
    have e2 : dIsi "tuple" (.dict kv) = dIsi "tuple" (.list []) := by unfold dIsi; rw [e1]; rfl
    rw [e1, e2]
    kernel_rfl
  | _ => kernel_rfl⟩
theorem kit_str : KitOk "str" := ⟨by decide, by
  intro K d hs
  cases d with
  | dict kv =>
    have e : isScr kv = true := by simpa [isSht] using hs
    have e1 : tyN (.dict kv) = "list" := by show (if isScr kv = true then "list" else "Sheet") = _; rw [e]; rfl
    have e2 : dIsi "str" (.dict kv) = dIsi "str" (.list []) := by unfold dIsi; rw [e1]; rfl
    rw [e1, e2]
    kernel_rfl
  | _ => kernel_rfl⟩
theorem kit_list : KitOk "list" := ⟨by decide, by
  intro K d hs
  cases d with
  | dict kv =>
    have e : isScr kv = true := by simpa [isSht] using hs
    have e1 : tyN (.dict kv) = "list" := by show (if isScr kv = true then "list" else "Sheet") = _; rw [e]; rfl
    have e2 : dIsi "list" (.dict kv) = dIsi "list" (.list []) := by unfold dIsi; rw [e1]; rfl
    rw [e1, e2]
    kernel_rfl
  | _ => kernel_rfl⟩
section
variable {G : Gc} {N : List Str} {sc : Scope} {fn : Str → Bool} {k : Nat} {pos p p2 q1 q2 : Pos} {st : Stmt} {rest : List Stmt} {a b c : Expr} {f g h : EF} {s1 s2 : SF}
def sUn (i : Nat) (s : SF) : SF := fun ρ => s (unown i ρ)
theorem ss_un (i : Nat) (h : SS G N sc fn k st s1) : SS G N sc fn k st (sUn i s1) := ss_unown i h
/-! a comprehension given to a name that a comprehension holds on to -/
theorem sw_cell {elt : Expr} {gs : List Comprehension} {scope : Scope} {y : Str} {py : Pos} {l : Nat} {env : PySem.Env} (hy : env.scope.names.lookup y = some .cell) : swapsWith (.ListComp elt gs scope pos) (some (.Name y py)) l env = pure false := by
  have ky : env.kindOf y = some .cell := hy
  unfold swapsWith
  simp only [ky]
  have : (some NameKind.cell == some NameKind.local) = false := by decide
  rw [this]
  simp
theorem ag_ofC (i : Nat) {y : Str} {elt : Expr} {gs : List Comprehension} {scope : Scope} (he : SE G N sc fn k (.ListComp elt gs scope pos) f) (hi : N[i]? = some y := by rfl) (hx : sc.names.lookup y = some .cell := by rfl) (hf : fn y = true := by rfl) : SAg G N sc fn k y i (.ListComp elt gs scope pos) f := fun X C W tk py spos =>
  ps_set (by rw [C.hN]; exact C.nd) (by rw [C.hN]; exact hi) (by rw [C.hsc]; exact .inr hx) (he X C W tk false) (sw_cell (by rw [C.hsc]; exact hx)) (by rw [C.hfn, C.hsc]; exact .inl hf)
theorem agL_ofC (i : Nat) {y : Str} {elt : Expr} {gs : List Comprehension} {scope : Scope} (he : SL G N sc fn k (.ListComp elt gs scope pos) f) (hi : N[i]? = some y := by rfl) (hx : sc.names.lookup y = some .cell := by rfl) (hf : fn y = true := by rfl) : SAgL G N sc fn k y i (.ListComp elt gs scope pos) f := fun X C W tk py spos =>
  ps_set (by rw [C.hN]; exact C.nd) (by rw [C.hN]; exact hi) (by rw [C.hsc]; exact .inr hx) (he X C W tk) (sw_cell (by rw [C.hsc]; exact hx)) (by rw [C.hfn, C.hsc]; exact .inl hf)
end
/-! ## the end: the law's promise, exceptions by world -/
theorem walk_pt {l : PySem.W.OpenLaw} {n k : Nat} {q : Program} {loose : List Str} {XP : (Str → Option Value) → Heap → Prop} {YP : World → Heap → Prop} {d : DefRec} {CX : World → CXT} {x : Str} (hn : l.most = some n) (hn2 : n ≤ sizeLine) (hdf : d.params.defaults = []) (hr : Room k callerA)
    (F : ∀ (w : World) (mg : Str → Option Value) (f : Addr) (h : Heap), YP w h → h.Ns mainGlobals mg → mg d.name = some (.ref f) →
      ∃ (K : PySem.W.Frag) (fd : FuncData) (sp : Sp), K.In h ∧ (∀ (s : Shared) (u : Value), BindsTo s fd ⟨[u], []⟩ [(x, u)]) ∧
        (∀ (H : Hp) (a : Addr) (ns : List Int), ns.length ≤ n → Only H → SqL K H a (ns.map V.int) → sp [.ref a] H (fun v _ => v = .bl true) fun _ _ _ => False) ∧
        ∀ base : Heap, K.In base → base.Ns mainGlobals mg → FnOk l.prog w K mg base (CX w) k f fd [x] sp)
    (hX : ∀ (w : World) (H : Hp) (s : Shared) (e : Value) (s2 : Shared), CX w [] H s (fun _ _ _ => False) e s2 → False) : PySem.W.WalkO q loose XP YP l.row.toRowW d [] (fun f vs => PySem.call f vs) := by
  refine Att.attach_call hn hdf fun w s0 s1 mg mb f o pm cd doc a us ns G Y ho hd hcd hm hob hin hle hg => ?_
  obtain ⟨K, fd, sp, kx, hb, hq, hF⟩ := F w mg f _ Y G.T.g hm
  exact law_call kx G.T.g G.T.b G.T.builtins G.T.nolimit hg hob hin (Nat.le_trans hle hn2) hr hF hb (fun H hO hS => hq H a ns hle hO hS) fun H e s2 => hX w H s1 e s2
end PT

namespace PT
open PySem PySem.Spec PyProof.Rows L2
/-! ## plain working-out of the combinators -/
section
variable {b : Bool} {ρ : En} {f g h : EF} {d : Dt} {i : Nat}
@[simp] theorem w_bnd (d : Dt) (k : Dt → Option Rs) : bnd (some (.val d)) k = k d := Eq.trans rfl rfl
@[simp] theorem w_bndX (n : Str) (pl : Option Dt) (k : Dt → Option Rs) : bnd (some (.exc n pl)) k = some (.exc n pl) := Eq.trans rfl rfl
@[simp] theorem w_bndN (k : Dt → Option Rs) : bnd none k = none := Eq.trans rfl rfl
@[simp] theorem w_bndS (d : Dt) (k : Dt → Option Out) : bndS (some (.val d)) k = k d := Eq.trans rfl rfl
@[simp] theorem w_bndSX (n : Str) (pl : Option Dt) (k : Dt → Option Out) : bndS (some (.exc n pl)) k = some (.ex n pl) := Eq.trans rfl rfl
@[simp] theorem w_bndSN (k : Dt → Option Out) : bndS none k = none := Eq.trans rfl rfl
@[simp] theorem w_bndI (d : Dt) (k : Dt → Option Irs) : bndI (some (.val d)) k = k d := Eq.trans rfl rfl
@[simp] theorem w_bndA (d : List Dt) (k : List Dt → Option Rs) : bndA (some (.vals d)) k = k d := Eq.trans rfl rfl
@[simp] theorem w_c : eC d b ρ = some (.val d) := Eq.trans rfl rfl
@[simp] theorem w_bin (op : Dt → Dt → Option Dt) : eBin op f g b ρ = bnd (f true ρ) fun x => bnd (g true ρ) fun y => (op x y).map .val := Eq.trans rfl rfl
@[simp] theorem w_un (op : Dt → Option Dt) : eUn op f b ρ = bnd (f true ρ) fun x => (op x).map .val := Eq.trans rfl rfl
@[simp] theorem w_nil : aNil ρ = some (.vals []) := Eq.trans rfl rfl
@[simp] theorem w_cons (f : EF) (g : AF) : aCons f g ρ = (match f false ρ with
  | some (.val d) => (match g ρ with
    | some (.vals ds) => some (.vals (d :: ds))
    | y => y)
  | some (.exc n pl) => some (.exc n pl)
  | none => none) := Eq.trans rfl rfl
@[simp] theorem w_fn (n : Nat) (F : List Dt → Option Rs) (g : AF) : eFn n F g b ρ = bndA (g ρ) fun ds => if ds.length = n then F ds else none := Eq.trans rfl rfl
@[simp] theorem w_seq (s1 s2 : SF) : sSeq s1 s2 ρ = (match s1 ρ with
  | some (.nx ρ') => s2 ρ'
  | y => y) := Eq.trans rfl rfl
@[simp] theorem w_nop : sNop ρ = some (.nx ρ) := Eq.trans rfl rfl
@[simp] theorem w_set : sSet i f ρ = bndS (f false ρ) fun d => some (.nx (ρ.set i (some (.sh d)))) := Eq.trans rfl rfl
@[simp] theorem w_setO : sSetO i f ρ = bndS (f true ρ) fun d => match d with
  | .list ds => if i < ρ.length then some (.nx (ρ.set i (some (.own ds)))) else none
  | _ => none := Eq.trans rfl rfl
@[simp] theorem w_ret : sRet f ρ = bndS (f true ρ) fun d => some (.rt d) := Eq.trans rfl rfl
@[simp] theorem w_do : sDo f ρ = bndS (f true ρ) fun _ => some (.nx ρ) := Eq.trans rfl rfl
@[simp] theorem w_if (s1 s2 : SF) : sIf f s1 s2 ρ = bndS (f true ρ) fun x => match tru x with
  | some true => s1 ρ
  | some false => s2 ρ
  | none => none := Eq.trans rfl rfl
end
section
variable {b : Bool} {ρ : En} {f g h : EF} {d : Dt} {i n : Nat} {x y : Int}
@[simp] theorem w_v0 : eVar 0 b (some (.sh d) :: ρ) = some (.val d) := Eq.trans rfl rfl
@[simp] theorem w_o0 (xs : List Dt) : eVar 0 true (some (.own xs) :: ρ) = some (.val (.list xs)) := Eq.trans rfl rfl
@[simp] theorem w_o0f (xs : List Dt) : eVar 0 false (some (.own xs) :: ρ) = none := Eq.trans rfl rfl
@[simp] theorem w_vs (s : Option SV) : eVar (n + 1) b (s :: ρ) = eVar n b ρ := Eq.trans rfl rfl
@[simp] theorem w_clr0 : clr ρ [] = ρ := Eq.trans rfl rfl
@[simp] theorem w_clrs (v : Nat) (vs : List Nat) : clr ρ (v :: vs) = (clr ρ vs).set v none := Eq.trans rfl rfl
@[simp] theorem w_nm : gNm i d ρ = some (ρ.set i (some (.sh d))) := Eq.trans rfl rfl
@[simp] theorem w_pr (g1 g2 : GF) (p q : Dt) : gPr g1 g2 (.tuple [p, q]) ρ = (g1 p ρ).bind (g2 q) := Eq.trans rfl rfl
@[simp] theorem w_add : dAdd (.int x) (.int y) = some (.int (x + y)) := Eq.trans rfl rfl
@[simp] theorem w_sub : dSub (.int x) (.int y) = some (.int (x - y)) := Eq.trans rfl rfl
@[simp] theorem w_mul : dMul (.int x) (.int y) = if sml x || sml y then some (.int (x * y)) else none := Eq.trans rfl rfl
theorem w_mulI : dMulI (.int x) (.int y) = if sml x || sml y then some (.int (x * y)) else none := Eq.trans rfl rfl
@[simp] theorem w_addI : dAddI (.int x) (.int y) = some (.int (x + y)) := Eq.trans rfl rfl
theorem w_mod (h : 0 < y) : dMod (.int x) (.int y) = some (.int (x % y)) := by
  have e : (decide (y ≠ 0)) = true := decide_eq_true (by omega)
  show (if (decide (y ≠ 0)) = true then some (PyData.int (x.fmod y)) else none) = _
  rw [if_pos e, Int.fmod_eq_emod_of_nonneg x (by omega)]
theorem w_div (h : 0 < y) (h2 : y < 1073741824) : dDiv (.int x) (.int y) = some (.int (x / y)) := by
  have e : (decide (y ≠ 0) && decide (y.natAbs < 1073741824)) = true := by
    rw [Bool.and_eq_true]
    exact ⟨decide_eq_true (by omega), decide_eq_true (by omega)⟩
  show (if (decide (y ≠ 0) && decide (y.natAbs < 1073741824)) = true then some (PyData.int (x.fdiv y)) else none) = _
  rw [if_pos e, Int.fdiv_eq_ediv_of_nonneg x (by omega)]
@[simp] theorem w_lt : dLt (.int x) (.int y) = some (.bool (decide (x < y))) := Eq.trans rfl rfl
@[simp] theorem w_le : dLe (.int x) (.int y) = some (.bool (decide (x ≤ y))) := Eq.trans rfl rfl
@[simp] theorem w_gt : dGt (.int x) (.int y) = some (.bool (decide (y < x))) := Eq.trans rfl rfl
@[simp] theorem w_ge : dGe (.int x) (.int y) = some (.bool (decide (y ≤ x))) := Eq.trans rfl rfl
@[simp] theorem w_truB (c : Bool) : tru (.bool c) = some c := Eq.trans rfl rfl
@[simp] theorem w_truI : tru (.int x) = some (x != 0) := Eq.trans rfl rfl
@[simp] theorem w_truL (xs : List Dt) : tru (.list xs) = some (!xs.isEmpty) := Eq.trans rfl rfl
@[simp] theorem w_truT (xs : List Dt) : tru (.tuple xs) = some (!xs.isEmpty) := Eq.trans rfl rfl
@[simp] theorem w_truN : tru .none = some false := Eq.trans rfl rfl
@[simp] theorem w_lenL (xs : List Dt) : dLen (.list xs) = some (.int xs.length) := Eq.trans rfl rfl
@[simp] theorem w_lenT (xs : List Dt) : dLen (.tuple xs) = some (.int xs.length) := Eq.trans rfl rfl
@[simp] theorem w_tupL (xs : List Dt) : dTuple (.list xs) = some (.tuple xs) := Eq.trans rfl rfl
@[simp] theorem w_listT (xs : List Dt) : dList (.tuple xs) = some (.list xs) := Eq.trans rfl rfl
@[simp] theorem w_listL (xs : List Dt) : dList (.list xs) = some (.list xs) := Eq.trans rfl rfl
@[simp] theorem w_app0 (xs : List Dt) : sApp 0 f (some (.own xs) :: ρ) = bndS (f false (some (.own xs) :: ρ)) fun d => if xs.length < lim then some (.nx (some (.own (xs ++ [d])) :: ρ)) else none := Eq.trans rfl rfl
theorem w_app : sApp i f ρ = match ρ[i]? with
  | some (some (.own xs)) => bndS (f false ρ) fun d => if xs.length < lim then some (.nx (ρ.set i (some (.own (xs ++ [d]))))) else none
  | _ => none := Eq.trans rfl rfl
theorem w_aug (op : Dt → Dt → Option Dt) : sAug i op f ρ = match ρ[i]? with
  | some (some (.sh x)) => bndS (f true ρ) fun y => (op x y).map fun z => .nx (ρ.set i (some (.sh z)))
  | _ => none := Eq.trans rfl rfl
theorem w_for (sl : List Nat) (tg : GF) (it : IF) (body : SF) : sFor sl tg it body ρ = match it false ρ with
  | some (.it xs) => forL sl tg body xs ρ
  | some (.exc n pl) => some (.ex n pl)
  | none => none := Eq.trans rfl rfl
end
theorem ixN_nat {n k : Nat} (h : k < n) : ixN n (k : Int) = some k := by
  unfold ixN
  rw [if_pos (Int.natCast_nonneg k), if_pos (by omega)]
  simp
/-- one turn of a loop -/
def turn (sl : List Nat) (tg : GF) (body : SF) (x : Dt) (ρ : En) : Option Out := (tg x (clr ρ sl)).bind body
theorem forL_cons {sl : List Nat} {tg : GF} {body : SF} {x : Dt} {xs : List Dt} {ρ ρ2 : En} (h : turn sl tg body x ρ = some (.nx ρ2)) : forL sl tg body (x :: xs) ρ = forL sl tg body xs ρ2 := by
  unfold turn at h
  rw [forL]
  cases h1 : tg x (clr ρ sl) with
  | none => rw [h1] at h; cases h
  | some ρ1 =>
    rw [h1] at h
    have h' : body ρ1 = some (.nx ρ2) := h
    simp only [h']
theorem forL_stop {sl : List Nat} {tg : GF} {body : SF} {x : Dt} {xs : List Dt} {ρ : En} {d : Dt} (h : turn sl tg body x ρ = some (.rt d)) : forL sl tg body (x :: xs) ρ = some (.rt d) := by
  unfold turn at h
  rw [forL]
  cases h1 : tg x (clr ρ sl) with
  | none => rw [h1] at h; cases h
  | some ρ1 =>
    rw [h1] at h
    have h' : body ρ1 = some (.rt d) := h
    simp only [h']
theorem forL_inv {sl : List Nat} {tg : GF} {body : SF} (P : Nat → En → Prop) : ∀ (xs : List Dt) (i : Nat) (ρ : En), P i ρ → (∀ j x ρ, xs[j]? = some x → P (i + j) ρ → ∃ ρ2, turn sl tg body x ρ = some (.nx ρ2) ∧ P (i + j + 1) ρ2) →
    ∃ ρ', forL sl tg body xs ρ = some (.nx ρ') ∧ P (i + xs.length) ρ'
  | [], i, ρ, h0, _ => ⟨ρ, rfl, h0⟩
  | x :: xs, i, ρ, h0, hs => by
    obtain ⟨ρ2, h1, h3⟩ := hs 0 x ρ rfl h0
    obtain ⟨ρ', h4, h5⟩ := forL_inv P xs (i + 1) ρ2 h3 fun j y ρ hy hp => by
      have e : i + 1 + j = i + (j + 1) := by omega
      rw [e] at hp ⊢
      exact hs (j + 1) y ρ (by simpa using hy) hp
    refine ⟨ρ', ?_, ?_⟩
    · rw [forL_cons h1]
      exact h4
    · have e : i + (x :: xs).length = i + 1 + xs.length := by simp; omega
      rw [e]; exact h5

theorem lcL_filter {c e : EF} {tg : GF} {ρ : En} (p : Dt → Bool) (h : Dt → Dt) : ∀ (xs : List Dt), (∀ x ∈ xs, ∃ ρ1 d, tg x ρ = some ρ1 ∧ c true ρ1 = some (.val d) ∧ tru d = some (p x) ∧ (p x = true → e false ρ1 = some (.val (h x)))) → lcL c e tg ρ xs = some ((xs.filter p).map h)
  | [], _ => rfl
  | x :: xs, H => by
    obtain ⟨ρ1, d, h1, h2, h3, h4⟩ := H x List.mem_cons_self
    have ih := lcL_filter p h xs fun y hy => H y (List.mem_cons_of_mem _ hy)
    unfold lcL
    simp only [h1, h2, h3]
    cases hp : p x with
    | true => simp only [h4 hp, ih, List.filter_cons, hp, if_true, Option.map_some, List.map_cons]
    | false => simp [ih, List.filter_cons, hp]
theorem lcL_map {e : EF} {tg : GF} {ρ : En} (h : Dt → Dt) (xs : List Dt) (H : ∀ x ∈ xs, ∃ ρ1, tg x ρ = some ρ1 ∧ e false ρ1 = some (.val (h x))) : lcL (eC (.bool true)) e tg ρ xs = some (xs.map h) := by
  have := lcL_filter (c := eC (.bool true)) (e := e) (tg := tg) (ρ := ρ) (fun _ => true) h xs fun x hx => by
    obtain ⟨ρ1, h1, h2⟩ := H x hx
    exact ⟨ρ1, _, h1, rfl, rfl, fun _ => h2⟩
  rw [this, List.filter_eq_self.mpr fun _ _ => rfl]
theorem sml_of {x : Int} (h1 : -1000000 ≤ x) (h2 : x ≤ 1000000) : sml x = true := by
  rw [sml_iff]
  omega
theorem w_rg1 {f : EF} {b : Bool} {ρ : En} {n : Nat} (h : f true ρ = some (.val (.int (n : Int)))) (hn : n ≤ 1000000) : iRg1 f b ρ = some (.it (rgL 0 n)) := by
  unfold iRg1
  rw [h]
  show (if okI (n : Int) = true then some (Irs.it (rgL 0 (n : Int).toNat)) else none) = _
  rw [if_pos (okI_iff.mpr (by omega))]
  rfl
theorem w_rg2 {f g : EF} {b : Bool} {ρ : En} {lo hi : Int} (h : f true ρ = some (.val (.int lo))) (h' : g true ρ = some (.val (.int hi))) (h1 : -1000000 ≤ lo) (h2 : lo ≤ 1000000) (h3 : -1000000 ≤ hi) (h4 : hi ≤ 1000000) : iRg2 f g b ρ = some (.it (rgL lo (hi - lo).toNat)) := by
  unfold iRg2
  rw [h, h']
  show (if okI lo = true ∧ okI hi = true then some (Irs.it (rgL lo (hi - lo).toNat)) else none) = _
  rw [if_pos ⟨okI_iff.mpr (by omega), okI_iff.mpr (by omega)⟩]
theorem rgL_mem {lo : Int} {n : Nat} {x : Dt} (h : x ∈ rgL lo n) : ∃ i : Nat, i < n ∧ x = .int (lo + i) := by
  unfold rgL at h
  obtain ⟨i, hi, e⟩ := List.mem_map.mp h
  exact ⟨i, List.mem_range.mp hi, e.symm⟩
theorem rgL_at {lo : Int} {n j : Nat} {x : Dt} (h : (rgL lo n)[j]? = some x) : j < n ∧ x = .int (lo + j) := by
  have hj : j < n := by
    have := (List.getElem?_eq_some_iff.mp h).1
    rw [rgL_length] at this
    exact this
  rw [rgL_get hj] at h
  exact ⟨hj, (Option.some.inj h).symm⟩
theorem w_ixL {xs : List Dt} {i : Nat} {d : Dt} (h : xs[i]? = some d) : dIx (.list xs) (.int (i : Int)) = some d := atI_of (ixN_nat (List.getElem?_eq_some_iff.mp h).1) h
theorem w_ixT {xs : List Dt} {i : Nat} {d : Dt} (h : xs[i]? = some d) : dIx (.tuple xs) (.int (i : Int)) = some d := atI_of (ixN_nat (List.getElem?_eq_some_iff.mp h).1) h
theorem get_map_int {l : List Int} {i : Nat} (h : i < l.length) : (l.map PyData.int)[i]? = some (.int (l.getD i 0)) := by
  rw [List.getElem?_map, List.getElem?_eq_getElem h, List.getD_eq_getElem?_getD, List.getElem?_eq_getElem h]; rfl
theorem w_lc {sl : List Nat} {tg : GF} {it : IF} {c e : EF} {b : Bool} {ρ : En} {xs ys : List Dt} (h1 : it true ρ = some (.it xs)) (h2 : noOwn ρ sl = true) (h3 : xs.length ≤ lim) (h4 : lcL c e tg (clr ρ sl) xs = some ys) : eLc sl tg it c e b ρ = some (.val (.list ys)) := by
  unfold eLc
  rw [h1]
  simp only [h2, decide_eq_true h3, h4]
  rfl
theorem w_seqL {f : EF} {b : Bool} {ρ : En} {xs : List Dt} (h : f b ρ = some (.val (.list xs))) : iSeq f b ρ = some (.it xs) := by
  unfold iSeq
  rw [h]
  rfl
theorem w_seqT {f : EF} {b : Bool} {ρ : En} {xs : List Dt} (h : f b ρ = some (.val (.tuple xs))) : iSeq f b ρ = some (.it xs) := by
  unfold iSeq
  rw [h]
  rfl
theorem w_addL {xs ys : List Dt} (h : xs.length + ys.length ≤ lim) : dAdd (.list xs) (.list ys) = some (.list (xs ++ ys)) := by
  show (if xs.length + ys.length ≤ lim then some (PyData.list (xs ++ ys)) else none) = _
  rw [if_pos h]
theorem w_addT {xs ys : List Dt} (h : xs.length + ys.length ≤ lim) : dAdd (.tuple xs) (.tuple ys) = some (.tuple (xs ++ ys)) := by
  show (if xs.length + ys.length ≤ lim then some (PyData.tuple (xs ++ ys)) else none) = _
  rw [if_pos h]
theorem w_eqI (x y : Int) : dEq (.int x) (.int y) = some (.bool (decide (x = y))) := by
  have e1 : dEq (.int x) (.int y) = some (.bool (PyData.eqv (.int x) (.int y))) := Eq.trans rfl rfl
  rw [e1, eqv_int]
theorem w_neI (x y : Int) : dNe (.int x) (.int y) = some (.bool (!decide (x = y))) := by
  have e1 : dNe (.int x) (.int y) = some (.bool (!PyData.eqv (.int x) (.int y))) := Eq.trans rfl rfl
  rw [e1, eqv_int]
theorem sset_len (ns : List Int) : (sset ns).length = (ddup ns).length := by
  unfold sset
  rw [(isort_perm _).length_eq, List.length_map]
/-- a tuple of whole numbers -/
abbrev tI' (l : List Int) : Dt := .tuple (l.map .int)
end PT

namespace PT
open PySem PySem.Spec PyProof.Rows L2

/-! ## enumerate(zip(list, list)): the zip's last tuple may be held or gone -/
abbrev ZS (h : Heap) (z TI TO : Addr) (f0 : Value) (f : Bool) : Prop :=
  h.get? z = some { cls := .type "zip", dict := none, data := .fields #[f0, .bool f, .bool false, .ref TI, .ref TO], slots := #[] }
def Z0 (v : Value) : Prop := v = .none ∨ ∃ T : Nat, v = rawInt (T : Int)
section
variable {prog : Program} {w : World} {A : Around} {E : Value → Shared → Prop} {s : Shared}
theorem z_free {z TI TO : Addr} {f0 : Value} {f : Bool} {Q : Bool → Shared → Prop} (hz : ZS s.heap z TI TO f0 f) (h0 : f0 = .none ∨ ∃ T : Nat, f0 = rawInt (T : Int) ∧ s.heap.get? T = none) (h : Q true s) : wpAny (model prog w) A (Builtin.SmallTypes.ownedTupleIsFree (.ref z)) Q E s := by
  unfold Builtin.SmallTypes.ownedTupleIsFree
  rcases h0 with rfl | ⟨T, rfl, hT⟩
  · exact wpAny_bind (wpAny_field hz rfl (x := .none) rfl (wpAny_pure h))
  · refine wpAny_bind (wpAny_field hz rfl (x := rawInt T) rfl ?_)
    show wpAny _ _ (loadIfAlive ((T : Int).toNat) >>= _) _ _ _
    rw [Int.toNat_natCast]
    have q : wpAny (model prog w) A (loadIfAlive T) (fun o s' => o = none ∧ s' = s) E s := fun _ _ _ => ⟨hT, rfl⟩
    refine wpAny_bind (wpAny_mono q (fun o s' h' => ?_) fun _ _ e => e)
    obtain ⟨rfl, rfl⟩ := h'
    exact wpAny_pure h
theorem z_item {z TI TO i1 i2 l1 l2 : Addr} {k1 k2 : Nat} {f0 : Value} {f : Bool} {xs ys : Array Value} {x y a b : Value} {Q : Value → Shared → Prop} (D : ZipApart z TI TO i1 i2 l1 l2)
    (hz : ZS s.heap z TI TO f0 f) (h0 : Z0 f0) (hTI : IsPair s.heap TI (.ref i1) (.ref i2)) (hTO : IsPair s.heap TO a b) (h1 : s.heap.IsListIter i1 l1 k1) (h2 : s.heap.IsListIter i2 l2 k2) (hl1 : s.heap.IsList l1 xs) (hl2 : s.heap.IsList l2 ys) (hx : xs[k1]? = some x) (hy : ys[k2]? = some y)
    (hQ : ∀ h' f0' f' a' b', ZS h' z TI TO f0' f' → Z0 f0' → IsPair h' TO a' b' → h'.IsListIter i1 l1 (k1 + 1) → h'.IsListIter i2 l2 (k2 + 1) → IsPair h' s.heap.objs.size x y → h'.objs.size = s.heap.objs.size + 1 →
      (∀ c o, c ≠ z → c ≠ TO → c ≠ i1 → c ≠ i2 → s.heap.get? c = some o → h'.get? c = some o) → Q (.ref s.heap.objs.size) { s with heap := h' }) :
    wpAny (model prog w) A (Builtin.«zip.__next__» ⟨[.ref z], []⟩) (fun fin s' => ∃ v, fin = .done (.ret v) ∧ Q v s') E s := by
  have free : (f0 = .none ∨ ∃ T : Nat, f0 = rawInt (T : Int) ∧ s.heap.get? T = none) → wpAny (model prog w) A (Builtin.«zip.__next__» ⟨[.ref z], []⟩) (fun fin s' => ∃ v, fin = .done (.ret v) ∧ Q v s') E s := fun hfr => by
    show wpAny _ _ (field (.ref z) 2 >>= _) _ _ _
    refine wpAny_bind (wpAny_field hz rfl (x := .bool false) rfl ?_)
    show wpAny _ _ (field (.ref z) 3 >>= _) _ _ _
    refine wpAny_bind (wpAny_field hz rfl (x := .ref TI) rfl ?_)
    refine wpAny_bind (wpAny_seqItems hTI rfl ?_)
    show wpAny _ _ (Builtin.SmallTypes.ownedTupleIsFree (.ref z) >>= _) _ _ _
    refine wpAny_bind (z_free hz hfr ?_)
    simp only [if_true]
    refine wpAny_bind (wpAny_rule ?_)
    refine wpAny_bind (wpAny_field hz rfl (x := .ref TO) rfl ?_)
    refine wpAny_bind (wpAny_setField_rec hz (by simp) fun ha za sa => ?_)
    replace za : ZS ha z TI TO .ellipsis f := za
    refine wpAny_bind ?_
    simp only [List.zipIdx_cons, List.zipIdx_nil, List.forIn_cons, List.forIn_nil]
    refine wpAny_bind (wpAny_bind (wpAny_onRaise ?_))
    show wpAny _ _ (Builtin.SmallTypes.nextOf (.ref i1) >>= _) _ _ _
    refine wpAny_bind (wpAny_nextOf_list_item (h1.extBut sa.extBut D.i1z) (hl1.extBut sa.extBut D.l1z) hx fun hb h1b sb => wpAny_pure ?_)
    have tb : IsPair hb TO a b := sb.extBut _ _ D.TOi1 (sa.extBut _ _ D.TOz hTO)
    refine wpAny_bind (wpAny_seqItems tb rfl ?_)
    refine wpAny_bind (wpAny_updateSeq_pair tb fun hc tc sc => ?_)
    replace tc : IsPair hc TO x b := tc
    refine wpAny_bind (wpAny_letGo (wpAny_pure ?_))
    refine wpAny_bind (wpAny_bind (wpAny_onRaise ?_))
    show wpAny _ _ (Builtin.SmallTypes.nextOf (.ref i2) >>= _) _ _ _
    refine wpAny_bind (wpAny_nextOf_list_item (((h2.extBut sa.extBut D.i2z).extBut sb.extBut D.i12.symm).extBut sc.extBut D.TOi2.symm) (((hl2.extBut sa.extBut D.l2z).extBut sb.extBut D.l2i1).extBut sc.extBut D.l2TO) hy fun hd h2d sd => wpAny_pure ?_)
    have td : IsPair hd TO x b := sd.extBut _ _ D.TOi2 tc
    refine wpAny_bind (wpAny_seqItems td rfl ?_)
    refine wpAny_bind (wpAny_updateSeq_pair td fun he te se => ?_)
    replace te : IsPair he TO x y := te
    refine wpAny_bind (wpAny_letGo (wpAny_pure (wpAny_pure ?_)))
    refine wpAny_bind (wpAny_seqItems te rfl ?_)
    refine wpAny_bind (wpAny_newTuple ?_)
    have hsz : he.objs.size = s.heap.objs.size := by rw [se.1, sd.1, sc.1, sb.1, sa.1]
    have ze : ZS he z TI TO .ellipsis f := se.extBut _ _ D.TOz.symm (sd.extBut _ _ D.i2z.symm (sc.extBut _ _ D.TOz.symm (sb.extBut _ _ D.i1z.symm za)))
    have kk : ∀ c o, c ≠ z → c ≠ TO → c ≠ i1 → c ≠ i2 → s.heap.get? c = some o → he.get? c = some o := fun c o c1 c2 c3 c4 e => se.extBut _ _ c2 (sd.extBut _ _ c4 (sc.extBut _ _ c2 (sb.extBut _ _ c3 (sa.extBut _ _ c1 e))))
    have h1e : he.IsListIter i1 l1 (k1 + 1) := ((h1b.extBut sc.extBut D.TOi1.symm).extBut sd.extBut D.i12).extBut se.extBut D.TOi1.symm
    have h2e : he.IsListIter i2 l2 (k2 + 1) := h2d.extBut se.extBut D.TOi2.symm
    have zl : z < he.objs.size := Heap.lt_size ze
    show wpAny _ _ (Builtin.SmallTypes.ownedTupleHandOut (.ref z) (.ref he.objs.size) >>= _) _ _ _
    refine wpAny_bind ?_
    unfold Builtin.SmallTypes.ownedTupleHandOut
    have zf : ZS (he.push { cls := .type "tuple", data := .seq #[x, y] }) z TI TO .ellipsis f := Heap.get?_push_of_some _ ze
    refine wpAny_bind (wpAny_setField_rec zf (by simp) fun hg zg sg => ?_)
    replace zg : ZS hg z TI TO (rawInt he.objs.size) f := zg
    refine wpAny_setField_rec zg (by simp) fun hi zi si => ?_
    replace zi : ZS hi z TI TO (rawInt he.objs.size) false := zi
    have up : ∀ c o, c ≠ z → he.get? c = some o → hi.get? c = some o := fun c o c1 e => si.extBut _ _ c1 (sg.extBut _ _ c1 (Heap.get?_push_of_some _ e))
    have ti : IsPair hi he.objs.size x y := si.extBut _ _ (Nat.ne_of_gt zl) (sg.extBut _ _ (Nat.ne_of_gt zl) (Heap.get?_push_size _ rfl))
    have zz : hi.objs.size = he.objs.size + 1 := by rw [si.1, sg.1, Heap.size_push]
    rw [hsz] at zi ti zz
    refine wpAny_pure ⟨_, rfl, ?_⟩
    show Q (.ref he.objs.size) _
    rw [hsz]
    exact hQ hi _ _ _ _ zi (.inr ⟨_, rfl⟩) (up _ _ D.TOz te) (h1e.at fun o e => up _ o D.i1z e) (h2e.at fun o e => up _ o D.i2z e) ti zz fun c o c1 c2 c3 c4 e => up c o c1 (kk c o c1 c2 c3 c4 e)
  rcases h0 with e0 | ⟨T, e0⟩
  · exact free (.inl e0)
  · cases hT : s.heap.get? T with
    | none => exact free (.inr ⟨T, e0, hT⟩)
    | some oT =>
      subst e0
      refine zip_next_item_held D hz hT hTI h1 h2 hl1 hl2 hx hy fun h' z' a1 a2 p' sz kp => ?_
      exact hQ h' _ _ _ _ z' (.inr ⟨T, rfl⟩) (kp _ _ D.TOz D.TOi1 D.TOi2 hTO) a1 a2 p' sz fun c o c1 _ c3 c4 e => kp c o c1 c3 c4 e
theorem z_end {z TI TO i1 i2 l1 l2 : Addr} {k1 k2 : Nat} {f0 : Value} {f : Bool} {xs ys : Array Value} {a b : Value} {Q : Fin → Shared → Prop} (hh : A.handled = none) (D : ZipApart z TI TO i1 i2 l1 l2)
    (hz : ZS s.heap z TI TO f0 f) (h0 : Z0 f0) (hTI : IsPair s.heap TI (.ref i1) (.ref i2)) (hTO : IsPair s.heap TO a b) (h1 : s.heap.IsListIter i1 l1 k1) (h2 : s.heap.IsListIter i2 l2 k2) (hl1 : s.heap.IsList l1 xs) (hl2 : s.heap.IsList l2 ys) (hend : xs[k1]? = none ∨ ys[k2]? = none)
    (hE : ∀ h' e, (∀ c o, c ≠ z → c ≠ TO → c ≠ i1 → c ≠ i2 → s.heap.get? c = some o → h'.get? c = some o) → (∃ o, h'.get? e = some o ∧ o.cls = .type "StopIteration") → E (.ref e) { s with heap := h' }) :
    wpAny (model prog w) A (Builtin.«zip.__next__» ⟨[.ref z], []⟩) Q E s := by
  have free : (f0 = .none ∨ ∃ T : Nat, f0 = rawInt (T : Int) ∧ s.heap.get? T = none) → wpAny (model prog w) A (Builtin.«zip.__next__» ⟨[.ref z], []⟩) Q E s := fun hfr => by
    show wpAny _ _ (field (.ref z) 2 >>= _) _ _ _
    refine wpAny_bind (wpAny_field hz rfl (x := .bool false) rfl ?_)
    show wpAny _ _ (field (.ref z) 3 >>= _) _ _ _
    refine wpAny_bind (wpAny_field hz rfl (x := .ref TI) rfl ?_)
    refine wpAny_bind (wpAny_seqItems hTI rfl ?_)
    show wpAny _ _ (Builtin.SmallTypes.ownedTupleIsFree (.ref z) >>= _) _ _ _
    refine wpAny_bind (z_free hz hfr ?_)
    simp only [if_true]
    refine wpAny_bind (wpAny_rule ?_)
    refine wpAny_bind (wpAny_field hz rfl (x := .ref TO) rfl ?_)
    refine wpAny_bind (wpAny_setField_rec hz (by simp) fun ha za sa => ?_)
    replace za : ZS ha z TI TO .ellipsis f := za
    refine wpAny_bind ?_
    simp only [List.zipIdx_cons, List.zipIdx_nil, List.forIn_cons, List.forIn_nil]
    refine wpAny_bind (wpAny_bind (wpAny_onRaise ?_))
    show wpAny _ _ (Builtin.SmallTypes.nextOf (.ref i1) >>= _) _ _ _
    cases hx : xs[k1]? with
    | none =>
      refine wpAny_bind (wpAny_nextOf_list_end hh (h1.extBut sa.extBut D.i1z) (hl1.extBut sa.extBut D.l1z) hx fun hb e sb he => ?_)
      obtain ⟨oe, hoe, hce⟩ := he
      have zb : ZS hb z TI TO .ellipsis f := sb _ _ D.i1z.symm za
      have ne : e ≠ z := fun q => by subst q; rw [zb] at hoe; cases hoe; simp at hce
      refine wpAny_setField_rec zb (by simp) fun hc _ sc => hE hc e (fun c o c1 _ c3 _ q => sc.extBut _ _ c1 (sb _ _ c3 (sa.extBut _ _ c1 q))) ⟨oe, sc.extBut _ _ ne hoe, hce⟩
    | some x =>
      have hy : ys[k2]? = none := hend.resolve_left (by rw [hx]; exact fun q => nomatch q)
      refine wpAny_bind (wpAny_nextOf_list_item (h1.extBut sa.extBut D.i1z) (hl1.extBut sa.extBut D.l1z) hx fun hb h1b sb => wpAny_pure ?_)
      have tb : IsPair hb TO a b := sb.extBut _ _ D.TOi1 (sa.extBut _ _ D.TOz hTO)
      refine wpAny_bind (wpAny_seqItems tb rfl ?_)
      refine wpAny_bind (wpAny_updateSeq_pair tb fun hc tc sc => ?_)
      refine wpAny_bind (wpAny_letGo (wpAny_pure ?_))
      refine wpAny_bind (wpAny_bind (wpAny_onRaise ?_))
      show wpAny _ _ (Builtin.SmallTypes.nextOf (.ref i2) >>= _) _ _ _
      refine wpAny_bind (wpAny_nextOf_list_end hh (((h2.extBut sa.extBut D.i2z).extBut sb.extBut D.i12.symm).extBut sc.extBut D.TOi2.symm) (((hl2.extBut sa.extBut D.l2z).extBut sb.extBut D.l2i1).extBut sc.extBut D.l2TO) hy fun hd e sd he => ?_)
      obtain ⟨oe, hoe, hce⟩ := he
      have zd : ZS hd z TI TO .ellipsis f := sd _ _ D.i2z.symm (sc.extBut _ _ D.TOz.symm (sb.extBut _ _ D.i1z.symm za))
      have ne : e ≠ z := fun q => by subst q; rw [zd] at hoe; cases hoe; simp at hce
      refine wpAny_setField_rec zd (by simp) fun hg _ sg => hE hg e (fun c o c1 c2 c3 c4 q => sg.extBut _ _ c1 (sd _ _ c4 (sc.extBut _ _ c2 (sb.extBut _ _ c3 (sa.extBut _ _ c1 q))))) ⟨oe, sg.extBut _ _ ne hoe, hce⟩
  rcases h0 with e0 | ⟨T, e0⟩
  · exact free (.inl e0)
  · cases hT : s.heap.get? T with
    | none => exact free (.inr ⟨T, e0, hT⟩)
    | some oT =>
      subst e0
      exact zip_next_end_held hh D hz hT hTI h1 h2 hl1 hl2 hend fun h' e kp he => hE h' e (fun c o c1 _ c3 c4 q => kp c o c1 c3 c4 q) he
theorem z_next {z TI TO i1 i2 l1 l2 : Addr} {k1 k2 : Nat} {f0 : Value} {f : Bool} {xs ys : Array Value} {x y a b : Value} {Q : Value → Shared → Prop} (D : ZipApart z TI TO i1 i2 l1 l2)
    (hz : ZS s.heap z TI TO f0 f) (h0 : Z0 f0) (hTI : IsPair s.heap TI (.ref i1) (.ref i2)) (hTO : IsPair s.heap TO a b) (h1 : s.heap.IsListIter i1 l1 k1) (h2 : s.heap.IsListIter i2 l2 k2) (hl1 : s.heap.IsList l1 xs) (hl2 : s.heap.IsList l2 ys) (hx : xs[k1]? = some x) (hy : ys[k2]? = some y)
    (hQ : ∀ h' f0' f' a' b', ZS h' z TI TO f0' f' → Z0 f0' → IsPair h' TO a' b' → h'.IsListIter i1 l1 (k1 + 1) → h'.IsListIter i2 l2 (k2 + 1) → IsPair h' s.heap.objs.size x y → h'.objs.size = s.heap.objs.size + 1 →
      (∀ c o, c ≠ z → c ≠ TO → c ≠ i1 → c ≠ i2 → s.heap.get? c = some o → h'.get? c = some o) → Q (.ref s.heap.objs.size) { s with heap := h' }) :
    wpAny (model prog w) A (Builtin.SmallTypes.nextOf (.ref z)) Q E s := by
  have ty : s.TypeIs (.ref z) "zip" := ⟨_, hz, rfl⟩
  unfold Builtin.SmallTypes.nextOf
  exact wpAny_bind (wpAny_callSpecial?_slot (name := Str.ofString "__next__") ty F.slot_zip_next (wpAny_call_entry F.slot_zip_next ty F.entry_zip_next
    (z_item D hz h0 hTI hTO h1 h2 hl1 hl2 hx hy fun h' f0' f' a' b' q1 q2 q3 q4 q5 q6 q7 q8 => wpAny_pure (hQ h' f0' f' a' b' q1 q2 q3 q4 q5 q6 q7 q8)) (F.args_zip_next_1 _)))
theorem z_stop {z TI TO i1 i2 l1 l2 : Addr} {k1 k2 : Nat} {f0 : Value} {f : Bool} {xs ys : Array Value} {a b : Value} {Q : Value → Shared → Prop} (hh : A.handled = none) (D : ZipApart z TI TO i1 i2 l1 l2)
    (hz : ZS s.heap z TI TO f0 f) (h0 : Z0 f0) (hTI : IsPair s.heap TI (.ref i1) (.ref i2)) (hTO : IsPair s.heap TO a b) (h1 : s.heap.IsListIter i1 l1 k1) (h2 : s.heap.IsListIter i2 l2 k2) (hl1 : s.heap.IsList l1 xs) (hl2 : s.heap.IsList l2 ys) (hend : xs[k1]? = none ∨ ys[k2]? = none)
    (hE : ∀ h' e, (∀ c o, c ≠ z → c ≠ TO → c ≠ i1 → c ≠ i2 → s.heap.get? c = some o → h'.get? c = some o) → (∃ o, h'.get? e = some o ∧ o.cls = .type "StopIteration") → E (.ref e) { s with heap := h' }) :
    wpAny (model prog w) A (Builtin.SmallTypes.nextOf (.ref z)) Q E s := by
  have ty : s.TypeIs (.ref z) "zip" := ⟨_, hz, rfl⟩
  unfold Builtin.SmallTypes.nextOf
  exact wpAny_bind (wpAny_callSpecial?_slot (name := Str.ofString "__next__") ty F.slot_zip_next (wpAny_call_entry F.slot_zip_next ty F.entry_zip_next (z_end hh D hz h0 hTI hTO h1 h2 hl1 hl2 hend hE) (F.args_zip_next_1 _)))
/-- the rest of a turn of enumerate, the item being at hand -/
theorem en_rest {e it : Addr} {c : Int} {old x : Value} {Q : Value → Shared → Prop} (he : IsEnum s.heap e it c old)
    (hx : wpAny (model prog w) A (Builtin.SmallTypes.nextOf (.ref it)) (fun v s1 => v = x ∧ ∃ h1, s1 = { s with heap := h1 } ∧ IsEnum h1 e it c old ∧
      ∀ h' tk, IsEnumOut h' e it (c + 1) x h1.objs.size → h'.get? h1.objs.size = some { cls := .type "tuple", data := .seq #[.int c tk, x] } → h'.objs.size = h1.objs.size + 1 → (∀ b o, b ≠ e → h1.get? b = some o → h'.get? b = some o) → Q (.ref h1.objs.size) { s with heap := h', toks := tk + 1 }) E s) :
    wpAny (model prog w) A (Builtin.«enumerate.__next__» ⟨[.ref e], []⟩) (fun fin s' => ∃ v, fin = .done (.ret v) ∧ Q v s') E s := by
  obtain ⟨hp, g, d, tk0, os⟩ := s
  show wpAny _ _ (field (.ref e) 2 >>= _) _ _ _
  refine wpAny_bind (wpAny_field he rfl (x := .ref it) rfl ?_)
  refine wpAny_bind (wpAny_mono hx (fun v s1 h => ?_) fun _ _ q => q)
  obtain ⟨rfl, h1, rfl, e1, hQ⟩ := h
  show wpAny _ _ (field (.ref e) 3 >>= _) _ _ ⟨h1, g, d, tk0, os⟩
  refine wpAny_bind (wpAny_field e1 rfl (x := rawInt c) rfl ?_)
  show wpAny _ _ (field (.ref e) 4 >>= _) _ _ ⟨h1, g, d, tk0, os⟩
  refine wpAny_bind (wpAny_field e1 rfl (x := .none) rfl ?_)
  show wpAny _ _ (mkInt c >>= _) _ _ ⟨h1, g, d, tk0, os⟩
  refine wpAny_bind (wpAny_mkInt ?_)
  show wpAny _ _ (setField (.ref e) 3 (rawInt (c + 1)) >>= _) _ _ ⟨h1, g, d, tk0 + 1, os⟩
  refine wpAny_bind (wpAny_setField_rec e1 (by simp) fun h2 e2 s2 => ?_)
  replace s2 : Heap.SameBut e h1 h2 := s2
  replace e2 : IsEnum h2 e it (c + 1) old := e2
  show wpAny _ _ (setField (.ref e) 4 .none >>= _) _ _ ⟨h2, g, d, tk0 + 1, os⟩
  refine wpAny_bind (wpAny_setField_rec e2 (by simp) fun h3 e3 s3 => ?_)
  replace s3 : Heap.SameBut e h2 h3 := s3
  replace e3 : IsEnum h3 e it (c + 1) old := e3
  show wpAny _ _ (newTuple [.int c tk0, v] >>= _) _ _ ⟨h3, g, d, tk0 + 1, os⟩
  refine wpAny_bind (wpAny_newTuple ?_)
  have e4 : IsEnum (h3.push { cls := .type "tuple", data := .seq #[.int c tk0, v] }) e it (c + 1) old := Heap.get?_push_of_some _ e3
  generalize q4 : h3.push { cls := .type "tuple", data := .seq #[.int c tk0, v] } = h4 at e4
  have hsz : h3.objs.size = h1.objs.size := by rw [s3.1, s2.1]
  have el : e < h1.objs.size := Heap.lt_size e1
  have t4 : h4.get? h1.objs.size = some { cls := .type "tuple", data := .seq #[.int c tk0, v] } := by rw [← q4, ← hsz]; exact Heap.get?_push_size _ rfl
  have z4 : h4.objs.size = h1.objs.size + 1 := by rw [← q4, Heap.size_push, hsz]
  have k4 : ∀ b o, b ≠ e → h1.get? b = some o → h4.get? b = some o := fun b o be hb => by
    rw [← q4]; exact Heap.get?_push_of_some _ (s3.extBut b o be (s2.extBut b o be hb))
  show wpAny _ _ (Builtin.SmallTypes.ownedTupleIsFree (.ref e) >>= _) _ _ ⟨h4, g, d, tk0 + 1, os⟩
  rw [hsz]
  refine wpAny_bind ?_
  unfold Builtin.SmallTypes.ownedTupleIsFree
  refine wpAny_bind (wpAny_field e4 rfl (x := .none) rfl (wpAny_pure ?_))
  simp only [if_true]
  refine wpAny_bind (wpAny_rule ?_)
  refine wpAny_bind (wpAny_field e4 rfl (x := old) rfl ?_)
  refine wpAny_bind (wpAny_setField_rec e4 (by simp) fun h5 e5 s5 => ?_)
  replace s5 : Heap.SameBut e h4 h5 := s5
  replace e5 : IsEnum h5 e it (c + 1) v := e5
  show wpAny _ _ (Builtin.SmallTypes.ownedTupleHandOut (.ref e) (.ref h1.objs.size) >>= _) _ _ ⟨h5, g, d, tk0 + 1, os⟩
  refine wpAny_bind ?_
  unfold Builtin.SmallTypes.ownedTupleHandOut
  refine wpAny_bind (wpAny_setField_rec e5 (by simp) fun h6 e6 s6 => ?_)
  replace s6 : Heap.SameBut e h5 h6 := s6
  replace e6 : IsEnumOut h6 e it (c + 1) v h1.objs.size := e6
  refine wpAny_setField_rec e6 (by simp) fun h7 e7 s7 => ?_
  replace s7 : Heap.SameBut e h6 h7 := s7
  replace e7 : IsEnumOut h7 e it (c + 1) v h1.objs.size := e7
  refine wpAny_bind (wpAny_letGo (wpAny_pure ⟨_, rfl, hQ h7 tk0 e7 ?_ ?_ ?_⟩))
  · exact s7.extBut _ _ (Nat.ne_of_gt el) (s6.extBut _ _ (Nat.ne_of_gt el) (s5.extBut _ _ (Nat.ne_of_gt el) t4))
  · rw [s7.1, s6.1, s5.1, z4]
  · exact fun b o be hb => s7.extBut b o be (s6.extBut b o be (s5.extBut b o be (k4 b o be hb)))
end
/-- the turns -/
def Iez (K : PySem.W.Frag) (a b : Addr) : It :=
  ⟨fun i H => ∃ (xs ys : List V) (x y : V), SqL K H a xs ∧ SqL K H b ys ∧ xs[i]? = some x ∧ ys[i]? = some y,
    fun i H v H' => ∃ T U x y, v = .ref U ∧ H T = none ∧ upd H T (.tup [x, y]) U = none ∧ H' = upd (upd H T (.tup [x, y])) U (.tup [.int (i : Nat), .ref T]) ∧ (∀ xs, SqL K H a xs → xs[i]? = some x) ∧ ∀ ys, SqL K H b ys → ys[i]? = some y,
    fun i H => ∃ xs ys : List V, SqL K H a xs ∧ SqL K H b ys ∧ i = min xs.length ys.length⟩
def ezSt (e z TI TO i1 i2 a b : Addr) (i : Nat) (h : Heap) : Prop := (∃ old, IsEnum h e z (i : Int) old) ∧ (∃ f0 f, ZS h z TI TO f0 f ∧ Z0 f0) ∧ IsPair h TI (.ref i1) (.ref i2) ∧ (∃ x y, IsPair h TO x y) ∧ h.IsListIter i1 a i ∧ h.IsListIter i2 b i
theorem mem6 {c e z TI TO i1 i2 : Addr} : c ∈ [e, z, TI, TO, i1, i2] ↔ c = e ∨ c = z ∨ c = TI ∨ c = TO ∨ c = i1 ∨ c = i2 := by simp
theorem turn_ez {P : Program} {w : World} {K : PySem.W.Frag} {elts : List Expr} {kk : Nat} {tpos : Pos} {a b e z TI TO i1 i2 : Addr} (D : ZipApart z TI TO i1 i2 a b) (ne : e ≠ z ∧ e ≠ TI ∧ e ≠ TO ∧ e ≠ i1 ∧ e ≠ i2) :
    Turn P w K (.Tuple elts kk tpos) (Iez K a b) [e, z, TI, TO, i1, i2] e (ezSt e z TI TO i1 i2 a b) where
  mem := by simp
  obj := fun i h st c hc => by
    obtain ⟨⟨old, he⟩, ⟨f0, f, hz, _⟩, hTI, ⟨x, y, hTO⟩, ⟨o1, q1, _, d1⟩, ⟨o2, q2, _, d2⟩⟩ := st
    rcases mem6.mp hc with q | q | q | q | q | q
    · rw [q]; exact ⟨_, he, fun v q => nomatch q⟩
    · rw [q]; exact ⟨_, hz, fun v q => nomatch q⟩
    · rw [q]; exact ⟨_, hTI, fun v q => nomatch q⟩
    · rw [q]; exact ⟨_, hTO, fun v q => nomatch q⟩
    · rw [q]; exact ⟨_, q1, fun v z => by rw [d1] at z; cases z⟩
    · rw [q]; exact ⟨_, q2, fun v z => by rw [d2] at z; cases z⟩
  keep := fun i h h' st k => by
    obtain ⟨⟨old, he⟩, ⟨f0, f, hz, h0⟩, hTI, ⟨x, y, hTO⟩, h1, h2⟩ := st
    exact ⟨⟨old, k e (by simp) _ he⟩, ⟨f0, f, k z (by simp) _ hz, h0⟩, k TI (by simp) _ hTI, ⟨x, y, k TO (by simp) _ hTO⟩, h1.at fun o q => k i1 (by simp) o q, h2.at fun o q => k i2 (by simp) o q⟩
  item := by
    intro X hP hw hK hc i pins s σ H E I hf st hg
    subst hP hw hK
    obtain ⟨⟨old, he⟩, ⟨f0, f, hz, h0⟩, hTI, ⟨ta, tb, hTO⟩, h1, h2⟩ := st
    obtain ⟨xs, ys, x, y, hqx, hqy, hx, hy⟩ := hg
    obtain ⟨its, rv, p, _⟩ := I.list hqx
    obtain ⟨its2, rv2, p2, _⟩ := I.list hqy
    obtain ⟨u, hu, ru⟩ := rv.get hx
    obtain ⟨u2, hu2, ru2⟩ := rv2.get hy
    have ty : s.TypeIs (.ref e) "enumerate" := ⟨_, he, rfl⟩
    have lts : ∀ c ∈ [e, z, TI, TO, i1, i2], c < s.heap.objs.size := fun c hcm => by
      obtain ⟨o1, q1, _⟩ := h1
      obtain ⟨o2, q2, _⟩ := h2
      rcases mem6.mp hcm with q | q | q | q | q | q
      · rw [q]; exact Heap.lt_size he
      · rw [q]; exact Heap.lt_size hz
      · rw [q]; exact Heap.lt_size hTI
      · rw [q]; exact Heap.lt_size hTO
      · rw [q]; exact Heap.lt_size q1
      · rw [q]; exact Heap.lt_size q2
    unfold pyNext
    refine wpAny_bind (wpAny_attempt (wpAny_callSpecial?_slot (name := Str.ofString "__next__") ty F.slot_enumerate_next (wpAny_call_entry F.slot_enumerate_next ty F.entry_enumerate_next
      (en_rest (x := .ref s.heap.objs.size) he (z_next D hz h0 hTI hTO h1 h2 p.isList p2.isList (x := u) (y := u2) (by simpa using hu) (by simpa using hu2) fun h' f0' f' a' b' g1 g2 g3 g4 g5 g6 g7 g8 => ⟨rfl, h', rfl, g8 e _ ne.1 ne.2.2.1 ne.2.2.2.1 ne.2.2.2.2 he, fun h2' tk w1 w2 w3 w4 => wpAny_pure ?_⟩)) (F.args_enumerate_next_1 _))))
    refine ⟨_, rfl, ?_⟩
    have key : ∀ h3 tk', IsEnum h3 e z ((i : Int) + 1) (.ref s.heap.objs.size) → (∀ c o, c ≠ e → h2'.get? c = some o → h3.get? c = some o) →
        ∃ x' H', Inv X pins σ H' { s with heap := h3, toks := tk' } ∧ RelV x' (.ref h'.objs.size) ∧ (Iez X.K a b).yld i H x' H' ∧ ezSt e z TI TO i1 i2 a b (i + 1) h3 ∧ ∀ c ∈ [e, z, TI, TO, i1, i2], H' c = none := fun h3 tk' w5 w6 => by
      have hm : ∀ c o, c ≠ e → h'.get? c = some o → h3.get? c = some o := fun c o ce q => w6 c o ce (w4 c o ce q)
      have le : e < s.heap.objs.size := lts e (by simp)
      have I1 : Inv X pins σ (upd H s.heap.objs.size (.tup [x, y])) { s with heap := s.heap.push { cls := .type "tuple", data := .seq #[u, u2] } } :=
        I.laid (t' := s.toks) (fun _ _ q => Heap.get?_push_of_some _ q) (Nat.le_refl _) ⟨by show 2 ≤ sizeLine; decide, [u, u2], .cons ru (.cons ru2 .nil), ⟨_, Heap.get?_push_size _ rfl, rfl, _, rfl⟩⟩
      have sz1 : (s.heap.push { cls := .type "tuple", data := .seq #[u, u2] }).objs.size = s.heap.objs.size + 1 := Heap.size_push ..
      have hU : upd H s.heap.objs.size (.tup [x, y]) h'.objs.size = none := by
        rw [upd_ne (by rw [g7]; exact Nat.succ_ne_self _)]
        exact I.hok.fresh (by rw [g7]; exact Nat.le_succ _)
      have tup : h3.get? h'.objs.size = some { cls := .type "tuple", data := .seq #[.int (i : Int) tk, .ref s.heap.objs.size] } := w6 _ _ (Nat.ne_of_gt (by rw [g7]; exact Nat.lt_succ_of_lt le)) w2
      have I2 : Inv X pins σ (upd (upd H s.heap.objs.size (.tup [x, y])) h'.objs.size (.tup [.int (i : Nat), .ref s.heap.objs.size])) { s with heap := h3, toks := tk' } := by
        refine I1.turnedNew (t' := tk') (ch := [e, z, TI, TO, i1, i2]) (fun c o hb q => ?_) (fun c hcm => ?_) (by rw [sz1, g7]; exact Nat.le_refl _) ⟨by show 2 ≤ sizeLine; decide, [.int (i : Int) tk, .ref s.heap.objs.size], .cons ⟨tk, rfl⟩ (.cons rfl .nil), ⟨_, tup, rfl, _, rfl⟩⟩
        · have ce : c ≠ e := fun z => hb (by simp [z])
          refine hm c o ce ?_
          by_cases hcs : c = s.heap.objs.size
          · subst hcs
            have q2 : (s.heap.push { cls := .type "tuple", data := .seq #[u, u2] }).get? s.heap.objs.size = some { cls := .type "tuple", data := .seq #[u, u2] } := Heap.get?_push_size _ rfl
            have q' : (s.heap.push { cls := .type "tuple", data := .seq #[u, u2] }).get? s.heap.objs.size = some o := q
            rw [q2] at q'
            cases q'
            exact g6
          · have hlt : c < s.heap.objs.size := by
              have := Heap.lt_size (show (s.heap.push { cls := .type "tuple", data := .seq #[u, u2] }).get? c = some o from q)
              rw [sz1] at this
              exact Nat.lt_of_le_of_ne (Nat.le_of_lt_succ this) hcs
            have q' : s.heap.get? c = some o := by
              have e1 := Heap.get?_push_ne s.heap c { cls := .type "tuple", data := .seq #[u, u2] } hcs
              rw [← e1]; exact q
            exact g8 c o (fun z => hb (by simp [z])) (fun z => hb (by simp [z])) (fun z => hb (by simp [z])) (fun z => hb (by simp [z])) q'
        · have q := hf c hcm
          refine ⟨?_, q.2⟩
          rw [upd_ne (Nat.ne_of_lt (lts c hcm))]
          exact q.1
      refine ⟨.ref h'.objs.size, _, I2, rfl, ⟨s.heap.objs.size, h'.objs.size, x, y, rfl, I.hok.fresh (Nat.le_refl _), hU, rfl, fun l hl => by rw [I.list_inj hl hqx]; exact hx, fun l hl => by rw [I.list_inj hl hqy]; exact hy⟩, ?_, fun c hcm => ?_⟩
      · exact ⟨⟨_, by have := w5; rw [← Int.natCast_succ] at this; exact this⟩, ⟨f0', f', hm _ _ ne.1.symm g1, g2⟩, hm _ _ ne.2.1.symm (g8 _ _ D.TIz D.TITO D.TIi1 D.TIi2 hTI), ⟨a', b', hm _ _ ne.2.2.1.symm g3⟩, g4.at fun o q => hm _ o ne.2.2.2.1.symm q, g5.at fun o q => hm _ o ne.2.2.2.2.symm q⟩
      · have hlt := lts c hcm
        rw [upd_ne (Nat.ne_of_lt (by rw [g7]; exact Nat.lt_succ_of_lt hlt)), upd_ne (Nat.ne_of_lt hlt)]
        exact (hf c hcm).1
    refine wpAny_letOwnedTupleGo_enum w1 fun h3 w5 w6 => ?_
    exact key h3 (tk + 1) w5 fun c o ce q => w6.extBut c o ce q
  done := by
    intro X hP hw hK hc i pins s σ H E I hf st hg
    subst hP hw hK
    obtain ⟨⟨old, he⟩, ⟨f0, f, hz, h0⟩, hTI, ⟨ta, tb, hTO⟩, h1, h2⟩ := st
    obtain ⟨xs, ys, hqx, hqy, hend⟩ := hg
    obtain ⟨its, rv, p, _⟩ := I.list hqx
    obtain ⟨its2, rv2, p2, _⟩ := I.list hqy
    have hh : X.A.in1.handled = none := I.ok.hd hc
    have ty : s.TypeIs (.ref e) "enumerate" := ⟨_, he, rfl⟩
    have hn : its.toArray[i]? = none ∨ its2.toArray[i]? = none := by
      have l1 := rv.length
      have l2 := rv2.length
      by_cases hc : xs.length ≤ ys.length
      · left; simp; omega
      · right; simp; omega
    unfold pyNext
    refine wpAny_bind (wpAny_attempt (wpAny_callSpecial?_slot (name := Str.ofString "__next__") ty F.slot_enumerate_next (wpAny_call_entry F.slot_enumerate_next ty F.entry_enumerate_next ?_ (F.args_enumerate_next_1 _))))
    show wpAny _ _ (field (.ref e) 2 >>= _) _ _ _
    refine wpAny_bind (wpAny_field he rfl (x := .ref z) rfl ?_)
    refine wpAny_bind (z_stop hh D hz h0 hTI hTO h1 h2 p.isList p2.isList hn fun h' ex kp hx => ?_)
    obtain ⟨o, ho, hc'⟩ := hx
    refine wpAny_bind (wpAny_isInstance (T := "StopIteration") (b := true) ⟨o, ho, hc'⟩ isSubtype_stop ?_)
    refine wpAny_pure ⟨rfl, ?_⟩
    exact I.turnedL (t' := s.toks) (ch := [e, z, TI, TO, i1, i2]) (fun c o hb q => kp c o (fun z => hb (by simp [z])) (fun z => hb (by simp [z])) (fun z => hb (by simp [z])) (fun z => hb (by simp [z])) q) hf
  self := fun A i s Q E st h => by
    obtain ⟨⟨old, he⟩, _⟩ := st
    exact wpAny_pyIter_enum he h
set_option maxHeartbeats 1000000 in
theorem meets_ez {z TI TO : Addr} :
    Meets (Builtin.«enumerate.__new__» ⟨[.type "enumerate", .ref z], []⟩) (fun _ R s => IsZip s.heap z TI TO .none ∧
      R (.ok (.ret (.ref s.heap.objs.size))) { s with heap := s.heap.push { cls := .type "enumerate", data := .fields #[.none, .bool false, .ref z, rawInt 0, .none, .none] } }) :=
  .of_wp fun prog w A R s h => by
    obtain ⟨hp, g, d, tk, os⟩ := s; obtain ⟨h1, h⟩ := h
    have hsub := sub_enumerate
    have q1 : ∀ {A' : Around} {E : Value → Shared → Prop} {Q : Value → Shared → Prop}, Q (.ref z) ⟨hp, g, d, tk, os⟩ → wpAny (model prog w) A' (pyIter (.ref z)) Q E ⟨hp, g, d, tk, os⟩ :=
      fun q => wpAny_pyIter_zip (s := ⟨hp, g, d, tk, os⟩) h1 q
    wp_walk using q1
    refine wpAny_stack_any fun st => wpAny_pure ?_
    split
    · rename_i c _ _ _ _ _
      cases (c == Value.type "enumerate")
      · wp_walk using q1
        exact ⟨_, rfl, h⟩
      · wp_walk using q1
        exact ⟨_, rfl, h⟩
    · wp_walk using q1
      exact ⟨_, rfl, h⟩
theorem ez_begins {prog : Program} {w : World} {A : Around} {E : Value → Shared → Prop} {s : Shared} {z TI TO : Addr} {Q : Value → Shared → Prop} (h1 : IsZip s.heap z TI TO .none)
    (h : ∀ h', IsEnum h' s.heap.objs.size z 0 .none → (∀ b o, s.heap.get? b = some o → h'.get? b = some o) → Q (.ref s.heap.objs.size) { s with heap := h' }) : wpAny (model prog w) A (call (.type "enumerate") [.ref z]) Q E s := by
  refine callType_new F.called_enumerate (by decide) (F.typeCall_enumerate_1 _) (F.newCall_enumerate_1 _) (fun obj => F.args_object_init_2 obj _) F.entry_enumerate_new
    meets_ez ⟨h1, ?_⟩
  have he : IsEnum (s.heap.push { cls := .type "enumerate", data := .fields #[.none, .bool false, .ref z, rawInt 0, .none, .none] }) s.heap.objs.size z 0 .none := Heap.get?_push_size _ rfl
  exact ⟨⟨_, he, rfl⟩, h _ he fun b o x => Heap.get?_push_of_some _ x⟩
def iEz (K : PySem.W.Frag) (ta : TA) : TI := fun σ H R => ta σ H fun vs H1 => ∃ a b xs ys, vs = [.ref a, .ref b] ∧ SqL K H1 a xs ∧ SqL K H1 b ys ∧ R (Iez K a b) H1
theorem apart_of {n a b : Nat} (ha : a < n) (hb : b < n) : ZipApart (n + 4) (n + 2) (n + 3) n (n + 1) a b := by
  constructor <;> (intro h; replace h : @Eq Nat _ _ := h; omega)
theorem five_ne {n : Nat} : @Ne Addr (n + 5) (n + 4) ∧ @Ne Addr (n + 5) (n + 2) ∧ @Ne Addr (n + 5) (n + 3) ∧ @Ne Addr (n + 5) n ∧ @Ne Addr (n + 5) (n + 1) := by
  refine ⟨?_, ?_, ?_, ?_, ?_⟩ <;> (intro h; replace h : @Eq Nat _ _ := h; omega)
theorem pi_ez {X : Cx} {e e2 : Expr} {ta : TA} {p p2 q1 pos tpos : Pos} {elts : List Expr} {kk : Nat} (hge : Gl X "enumerate") (hme : X.mg "enumerate" = none) (hg : Gl X "zip") (hm : X.mg "zip" = none) (ha : PA X [e, e2] ta)
    (hs : starEach [e, e2] X.env = (false, eval e X.env) :: starEach [e2] X.env) (hpl : (backTo q1 (starEach [e2] X.env)).any (·.1) = false) :
    PI X (.Tuple elts kk tpos) (.Call (.Name "enumerate" p) [.Call (.Name "zip" p2) [e, e2] [] q1] [] pos) (iEz X.K ta) := by
  refine ⟨fun pins s σ H R I h => ?_⟩
  refine Call_ (ld_blt I hge hme boot_enumerate ?_)
  refine PyProof.Rows.callWith_type1 (PyProof.Rows.args_cons ?_ rfl) rfl rfl
  refine Call_ (ld_blt I hg hm PyProof.Rows.boot_zip (PyProof.Rows.callWith_type1 (thn (ha.run q1 pins s σ H _ I h) fun us s1 ⟨vs, H1, I1, r1, w1⟩ => ?_) hs hpl))
  obtain ⟨a, b, xs, ys, ex, hqx, hqy, q⟩ := w1
  subst ex
  cases r1 with
  | cons r rr =>
    cases rr with
    | cons r' rr =>
      cases rr
      cases r
      cases r'
      obtain ⟨its, rv, p1, _⟩ := I1.list hqx
      obtain ⟨its2, rv2, p2, _⟩ := I1.list hqy
      have la : a < s1.heap.objs.size := by obtain ⟨o, e, _⟩ := p1.isList; exact Heap.lt_size e
      have lb : b < s1.heap.objs.size := by obtain ⟨o, e, _⟩ := p2.isList; exact Heap.lt_size e
      refine zip_begins2 (begins_list a its.toArray) (begins_list b its2.toArray) p1.isList p2.isList fun h' hz hTI hTO g1 g2 hsz hk => PyProof.Rows.args_nil ?_
      refine ez_begins (s := { s1 with heap := h' }) hz fun h2 he hk2 => wpAny_pyIter_enum he ?_
      have I2 : Inv X pins σ H1 { s1 with heap := h2 } := I1.kept (t' := s1.toks) fun c o q => hk2 c o (hk c o q)
      have esz : ({ s1 with heap := h' } : Shared).heap.objs.size = s1.heap.objs.size + 5 := hsz
      rw [esz] at he ⊢
      refine ⟨s1.heap.objs.size + 5, [s1.heap.objs.size + 5, s1.heap.objs.size + 4, s1.heap.objs.size + 2, s1.heap.objs.size + 3, s1.heap.objs.size, s1.heap.objs.size + 1], _, _, H1, rfl, I2, turn_ez (apart_of la lb) five_ne, ⟨⟨_, he⟩, ⟨_, _, hk2 _ _ hz, .inl rfl⟩, hk2 _ _ hTI, ⟨_, _, hk2 _ _ hTO⟩, ⟨_, hk2 _ _ g1, rfl, rfl⟩, ⟨_, hk2 _ _ g2, rfl, rfl⟩⟩, fun c hcm => ?_, q⟩
      have hle : s1.heap.objs.size ≤ c := by
        rcases mem6.mp hcm with z | z | z | z | z | z
        · rw [z]; exact Nat.le_add_right _ _
        · rw [z]; exact Nat.le_add_right _ _
        · rw [z]; exact Nat.le_add_right _ _
        · rw [z]; exact Nat.le_add_right _ _
        · rw [z]; exact Nat.le_refl _
        · rw [z]; exact Nat.le_add_right _ _
      exact I1.fpOk hle (I1.hok.fresh hle)
/-! ### by data -/
def enumZ (xs ys : List Dt) : List Dt := List.zipWith (fun x y => .tuple [x, y]) (rgL 0 (min xs.length ys.length)) (zipD xs ys)
theorem zipD_len (xs ys : List Dt) : (zipD xs ys).length = min xs.length ys.length := by unfold zipD; rw [List.length_zipWith]
theorem enumZ_len (xs ys : List Dt) : (enumZ xs ys).length = min xs.length ys.length := by
  unfold enumZ
  rw [List.length_zipWith, rgL_length, zipD_len]
  omega
theorem enumZ_get {xs ys : List Dt} {i : Nat} (h1 : i < xs.length) (h2 : i < ys.length) : (enumZ xs ys)[i]? = some (.tuple [.int (0 + (i : Nat)), .tuple [xs[i], ys[i]]]) := by
  unfold enumZ
  rw [List.getElem?_zipWith, rgL_get (by omega)]
  unfold zipD
  rw [List.getElem?_zipWith, List.getElem?_eq_getElem h1, List.getElem?_eq_getElem h2]
theorem wd_ez {b : Bool} {K : PySem.W.Frag} {ow : Ow} {H : Hp} {a a2 : Addr} {xs ys : List Dt} (ok : OkO ow H) (h : RpB b K ow H (.ref a) (.list xs)) (h2 : RpB b K ow H (.ref a2) (.list ys)) : WD (.p .d (.p .d .d)) b K ow H (Iez K a a2) (enumZ xs ys) := fun ow1 H1 r ok1 => by
  obtain ⟨vs, s1, r1⟩ := src_one (h.seq_stp (k := true) rfl ok r) rfl
  obtain ⟨ws, s2, r2⟩ := src_one (h2.seq_stp (k := true) rfl ok r) rfl
  refine ⟨fun i hi => ?_, ⟨vs, ws, s1, s2, by rw [enumZ_len, r1.length, r2.length]⟩, fun i x H2 hi y => ?_⟩
  · rw [enumZ_len] at hi
    have i1 : i < vs.length := by rw [r1.length]; omega
    have i2 : i < ws.length := by rw [r2.length]; omega
    exact ⟨vs, ws, vs[i], ws[i], s1, s2, by simp [i1], by simp [i2]⟩
  · rw [enumZ_len] at hi
    obtain ⟨T, U, x, y, rfl, hT, hU, rfl, hx, hy⟩ := y
    have i1 : i < xs.length := by omega
    have i2 : i < ys.length := by omega
    obtain ⟨v1, hv1, q1⟩ := r1.get (i := i) (d := xs[i]) (by simp [i1])
    obtain ⟨v2, hv2, q2⟩ := r2.get (i := i) (d := ys[i]) (by simp [i2])
    rw [hx vs s1] at hv1
    rw [hy ws s2] at hv2
    cases hv1
    cases hv2
    have sm : Same H1 (upd (upd H1 T (.tup [x, y])) U (.tup [.int (i : Nat), .ref T])) := (Same.upd hT).trans (Same.upd hU)
    refine ⟨sm, _, enumZ_get i1 i2, ?_⟩
    rw [Int.zero_add]
    exact ⟨U, _, _, _, _, rfl, upd_same, rfl, .int _, T, _, _, _, _, rfl, Same.upd hU _ _ upd_same, rfl, Rp.same sm q1, Rp.same sm q2⟩
section
variable {G : Gc} {N : List Str} {sc : Scope} {fn : Str → Bool} {k : Nat} {pos p p2 q1 tpos : Pos} {a b : Expr} {f g : EF} {elts : List Expr} {kk : Nat}
def iEnumZip (f g : EF) : IF := fun bb ρ => bndI (f bb ρ) fun x => bndI (g bb ρ) fun y => match x, y with
  | .list xs, .list ys => some (.it (enumZ xs ys))
  | _, _ => none
theorem si_enumZip (B : Bi G) (ha : SE G N sc fn k a f) (hb : SE G N sc fn k b g) (hge : GL sc "enumerate" := by rfl) (hg : GL sc "zip" := by rfl) (ns : NS a := by intro _ _; rfl) (ns2 : NS b := by intro _ _; rfl) : SI G N sc fn k (.p .d (.p .d .d)) (.Tuple elts kk tpos) (.Call (.Name "enumerate" p) [.Call (.Name "zip" p2) [a, b] [] q1] [] pos) (iEnumZip f g) := fun X C W tk b' =>
  PI.imp (pi_ez (C.gl hge) (by rw [C.hmg]; exact B.enumerate) (C.gl hg) (by rw [C.hmg]; exact B.zip) (pa_cons (ha X C W tk b') (pa_cons (hb X C W tk b') pa_nil (ns2 [] X.env)) (ns [b] X.env)) (ns [b] X.env) (noStar _ _ _ fun e he => by rw [List.mem_singleton.mp he]; exact ns2)) fun σ H R h => by
    obtain ⟨ρ, ow, r, he, gd, post⟩ := h
    refine tE.goI gd he (fun n pl e => by subst e; exact post) fun d hd v H1 s1 r1 => ?_
    refine tE.goI (gd.same s1) hd (fun n pl e => by subst e; exact ExP.same post s1) fun d2 hd2 v2 H2 s2 r2 => ?_
    split at hd2
    · cases hd2
      have r1' := r1.same s2
      obtain ⟨a1, vs, rfl, q1, w1⟩ := r1'.list
      obtain ⟨a2, ws, rfl, q2, w2⟩ := r2.list
      exact ⟨a1, a2, vs, ws, rfl, SqL.of q1, SqL.of q2, post _ H2 (s1.trans s2) (wd_ez (gd.ok.same (s1.trans s2)) r1' r2)⟩
    · cases hd2
end
end PT

namespace PT
open PySem PySem.Spec PyProof.Rows L2
section
variable {b : Bool} {ρ : En} {f g h : EF} {d : Dt} {i n : Nat} {x y : Int}
theorem w_lim : lim = 1000000 := Eq.trans rfl rfl
theorem w_tup (g : AF) : eTup g b ρ = bndA (g ρ) fun ds => if ds.length ≤ lim then some (.val (.tuple ds)) else none := Eq.trans rfl rfl
theorem w_lst (g : AF) : eLst g b ρ = bndA (g ρ) fun ds => if ds.length ≤ lim then some (.val (.list ds)) else none := Eq.trans rfl rfl
theorem w_unp (sl : List Nat) (gf : GF) : sUnp sl gf f ρ = bndS (f false ρ) fun d => (gf d (clr ρ sl)).map .nx := Eq.trans rfl rfl
theorem w_and : eAnd f g b ρ = bnd (f true ρ) fun x => match x with
  | .bool true => g b ρ
  | .bool false => some (.val (.bool false))
  | _ => none := Eq.trans rfl rfl
theorem w_or : eOr f g b ρ = bnd (f true ρ) fun x => match x with
  | .bool true => some (.val (.bool true))
  | .bool false => g b ρ
  | _ => none := Eq.trans rfl rfl
theorem w_andT : eAndT f g b ρ = bnd (f true ρ) fun x => match tru x with
  | some true => g b ρ
  | some false => some (.val (.bool false))
  | none => none := Eq.trans rfl rfl
theorem w_orT : eOrT f g b ρ = bnd (f true ρ) fun x => match tru x with
  | some true => some (.val (.bool true))
  | some false => g b ρ
  | none => none := Eq.trans rfl rfl
theorem w_not : eNot f b ρ = bnd (f true ρ) fun x => (tru x).map fun c => .val (.bool (!c)) := Eq.trans rfl rfl
theorem w_ife : eIf h f g b ρ = bnd (h true ρ) fun x => match tru x with
  | some true => f b ρ
  | some false => g b ρ
  | none => none := Eq.trans rfl rfl
theorem w_chain : eChain f g h b ρ = bnd (f true ρ) fun x => bnd (g true ρ) fun y => match x, y with
  | .int i, .int j => if i ≤ j then bnd (h true ρ) fun z => (match z with | .int l => some (.val (.bool (decide (j ≤ l)))) | _ => none) else some (.val (.bool false))
  | _, _ => none := Eq.trans rfl rfl
theorem w_isi (T : String) : eIsi T f b ρ = bnd (f true ρ) fun x => some (.val (.bool (dIsi T x))) := Eq.trans rfl rfl
theorem w_neg : dNeg (.int x) = some (.int (-x)) := Eq.trans rfl rfl
theorem w_isN (d : Dt) : dIsN d .none = some (.bool (isN d)) := Eq.trans rfl rfl
theorem w_notN (d : Dt) : dNotN d .none = some (.bool (!isN d)) := Eq.trans rfl rfl
theorem w_raise (n : Str) : sRaise n ρ = some (.ex n none) := Eq.trans rfl rfl
theorem w_put : sPut i f g ρ = match ρ[i]? with
  | some (some (.own xs)) => bndS (g false ρ) fun d => bndS (f true ρ) fun j => (match j with
    | .int m => (match ixN xs.length m with
      | some n => some (.nx (ρ.set i (some (.own (xs.set n d)))))
      | none => none)
    | _ => none)
  | _ => none := Eq.trans rfl rfl
theorem w_un0 (s : SF) : sUn i s ρ = s (unown i ρ) := Eq.trans rfl rfl
theorem w_max2 : dMax2 (.int x) (.int y) = some (.int (if y > x then y else x)) := Eq.trans rfl rfl
theorem w_intI : dInt (.int x) = some (.int x) := Eq.trans rfl rfl
theorem w_intB (c : Bool) : dInt (.bool c) = some (.int (if c then 1 else 0)) := Eq.trans rfl rfl
theorem w_par (i j : Nat) : sPar i j f g ρ = bndS (f false ρ) fun x => bndS (g false ρ) fun y => if i < ρ.length then some (.nx ((ρ.set i (some (.sh x))).set j (some (.sh y)))) else none := Eq.trans rfl rfl
end
theorem ixN_lt {n : Nat} {m : Int} (h0 : 0 ≤ m) (h1 : m < n) : ixN n m = some m.toNat := by
  unfold ixN
  rw [if_pos h0, if_pos h1]
/-- an index that is a whole number, not below 0 -/
theorem w_ixLi {l : List Int} {i : Int} (h0 : 0 ≤ i) (h1 : i < l.length) : dIx (.list (l.map .int)) (.int i) = some (.int (l.getD i.toNat 0)) := by
  have := w_ixL (xs := l.map .int) (i := i.toNat) (get_map_int (by omega))
  rw [Int.toNat_of_nonneg h0] at this
  exact this
theorem w_ixTi {l : List Int} {i : Int} (h0 : 0 ≤ i) (h1 : i < l.length) : dIx (tI' l) (.int i) = some (.int (l.getD i.toNat 0)) := by
  have := w_ixT (xs := l.map .int) (i := i.toNat) (get_map_int (by omega))
  rw [Int.toNat_of_nonneg h0] at this
  exact this
theorem getD_mem {l : List Int} {i : Nat} (h : i < l.length) : l.getD i 0 ∈ l := by
  rw [List.getD_eq_getElem?_getD, List.getElem?_eq_getElem h]
  exact List.getElem_mem h
theorem w_rg1i {f : EF} {b : Bool} {ρ : En} {n : Int} (h : f true ρ = some (.val (.int n))) (h0 : 0 ≤ n) (hn : n ≤ 1000000) : iRg1 f b ρ = some (.it (rgL 0 n.toNat)) := by
  refine w_rg1 ?_ (by omega)
  rw [h, Int.toNat_of_nonneg h0]
/-- a comprehension over a range, ints out -/
theorem lcL_rg {e : EF} {tg : GF} {ρ : En} (n : Nat) (v : Nat → Int) (H : ∀ i, i < n → ∃ ρ1, tg (.int (i : Int)) ρ = some ρ1 ∧ e false ρ1 = some (.val (.int (v i)))) : lcL (eC (.bool true)) e tg ρ (rgL 0 n) = some (((List.range n).map v).map .int) := by
  have e1 : ((List.range n).map v).map PyData.int = (rgL 0 n).map fun d => match d with
    | .int i => .int (v i.toNat)
    | y => y := by
    unfold rgL
    rw [List.map_map, List.map_map]
    refine List.map_congr_left fun i _ => ?_
    show PyData.int (v i) = PyData.int (v (0 + (i : Int)).toNat)
    congr 2
    omega
  rw [e1]
  refine lcL_map _ _ fun x hx => ?_
  obtain ⟨i, hi, rfl⟩ := rgL_mem hx
  obtain ⟨ρ1, h1, h2⟩ := H i hi
  refine ⟨ρ1, by rw [Int.zero_add]; exact h1, ?_⟩
  rw [h2]
  show _ = some (Rs.val (PyData.int (v (0 + (i : Int)).toNat)))
  congr 3
  rw [Int.zero_add]; rfl
/-- a loop that may end by a return -/
theorem forL_find {sl : List Nat} {tg : GF} {body : SF} (P : En → Prop) (p : Nat → Bool) (r : Nat → Dt) : ∀ (xs : List Dt) (i : Nat) (ρ : En), P ρ → (∀ j x ρ, xs[j]? = some x → P ρ → (p (i + j) = false ∧ ∃ ρ2, turn sl tg body x ρ = some (.nx ρ2) ∧ P ρ2) ∨ (p (i + j) = true ∧ turn sl tg body x ρ = some (.rt (r (i + j))))) →
    match (List.range' i xs.length).find? p with
    | some j => forL sl tg body xs ρ = some (.rt (r j))
    | none => ∃ ρ', forL sl tg body xs ρ = some (.nx ρ') ∧ P ρ'
  | [], i, ρ, h0, _ => ⟨ρ, rfl, h0⟩
  | x :: xs, i, ρ, h0, hs => by
    show match (List.range' i (xs.length + 1)).find? p with
    | some j => forL sl tg body (x :: xs) ρ = some (.rt (r j))
    | none => ∃ ρ', forL sl tg body (x :: xs) ρ = some (.nx ρ') ∧ P ρ'
    rw [List.range'_succ, List.find?_cons]
    rcases hs 0 x ρ rfl h0 with ⟨h1, ρ2, h2, h3⟩ | ⟨h1, h2⟩
    · rw [Nat.add_zero] at h1
      rw [h1]
      have ih := forL_find P p r xs (i + 1) ρ2 h3 fun j y ρ hy hp => by
        have e : i + 1 + j = i + (j + 1) := by omega
        rw [e]
        exact hs (j + 1) y ρ (by simpa using hy) hp
      rw [forL_cons h2]
      exact ih
    · rw [Nat.add_zero] at h1 h2
      rw [h1]
      exact forL_stop h2
theorem whl_step {c : EF} {body : SF} {n : Nat} {ρ ρ2 : En} {d : Dt} (h1 : c true ρ = some (.val d)) (h2 : tru d = some true) (h3 : body ρ = some (.nx ρ2)) : whl c body (n + 1) ρ = whl c body n ρ2 := by
  rw [whl, h1]
  simp only [w_bndS, h2, h3]
theorem whl_end {c : EF} {body : SF} {n : Nat} {ρ : En} {d : Dt} (h1 : c true ρ = some (.val d)) (h2 : tru d = some false) : whl c body (n + 1) ρ = some (.nx ρ) := by
  rw [whl, h1]
  simp only [w_bndS, h2]
theorem seq_nx {s1 s2 : SF} {ρ ρ' : En} (h : s1 ρ = some (.nx ρ')) : sSeq s1 s2 ρ = s2 ρ' := by rw [w_seq, h]
theorem seq_rt {s1 s2 : SF} {ρ : En} {d : Dt} (h : s1 ρ = some (.rt d)) : sSeq s1 s2 ρ = some (.rt d) := by rw [w_seq, h]
theorem seq_ex {s1 s2 : SF} {ρ : En} {n : Str} {pl : Option Dt} (h : s1 ρ = some (.ex n pl)) : sSeq s1 s2 ρ = some (.ex n pl) := by rw [w_seq, h]
theorem run_rt {n : Nat} {g : SF} {ds : List Dt} {d : Dt} (h : g (start0 n ds) = some (.rt d)) : runB n g ds = some (.val d) := by unfold runB; rw [h]
theorem run_nx {n : Nat} {g : SF} {ds : List Dt} {ρ : En} (h : g (start0 n ds) = some (.nx ρ)) : runB n g ds = some (.val .none) := by unfold runB; rw [h]
theorem run_ex {n : Nat} {g : SF} {ds : List Dt} {x : Str} {pl : Option Dt} (h : g (start0 n ds) = some (.ex x pl)) : runB n g ds = some (.exc x pl) := by unfold runB; rw [h]
theorem for_it {sl : List Nat} {tg : GF} {it : IF} {body : SF} {ρ : En} {xs : List Dt} (h : it false ρ = some (.it xs)) : sFor sl tg it body ρ = forL sl tg body xs ρ := by rw [w_for, h]
theorem set_v {i : Nat} {f : EF} {ρ : En} {d : Dt} (h : f false ρ = some (.val d)) : sSet i f ρ = some (.nx (ρ.set i (some (.sh d)))) := by rw [w_set, h, w_bndS]
theorem setO_v {i : Nat} {f : EF} {ρ : En} {ds : List Dt} (h : f true ρ = some (.val (.list ds))) (hi : i < ρ.length) : sSetO i f ρ = some (.nx (ρ.set i (some (.own ds)))) := by
  rw [w_setO, h, w_bndS]
  exact if_pos hi
theorem ret_v {f : EF} {ρ : En} {d : Dt} (h : f true ρ = some (.val d)) : sRet f ρ = some (.rt d) := by rw [w_ret, h, w_bndS]
theorem do_v {f : EF} {ρ : En} {d : Dt} (h : f true ρ = some (.val d)) : sDo f ρ = some (.nx ρ) := by rw [w_do, h, w_bndS]
theorem if_t {f : EF} {s1 s2 : SF} {ρ : En} {d : Dt} (h : f true ρ = some (.val d)) (ht : tru d = some true) : sIf f s1 s2 ρ = s1 ρ := by rw [w_if, h, w_bndS, ht]
theorem if_f {f : EF} {s1 s2 : SF} {ρ : En} {d : Dt} (h : f true ρ = some (.val d)) (ht : tru d = some false) : sIf f s1 s2 ρ = s2 ρ := by rw [w_if, h, w_bndS, ht]
end PT

namespace PT
open PySem PySem.Spec PyProof.Rows L2

/-! ## try, several clauses «except X as e» -/
abbrev Cl := Value × Nat × (Addr → Value → Option Addr → TS)
def endsAs (D : Ends) (i : Nat) : Ends := { nx := fun σ' H' => D.nx (σ'.set i none) H', rt := D.rt, bk := fun σ' H' => D.bk (σ'.set i none) H', ct := fun σ' H' => D.ct (σ'.set i none) H' }
def wAsM (K : PySem.W.Frag) (Wout : WX) (D : Ends) : List Cl → WX
  | [] => Wout
  | (c, i, ts) :: r => fun cls d σ H => ∃ b, PySem.W.exmOne K cls c = some b ∧ (b = true → i < σ.length → ∀ a, H a = none → ts a cls d (endsAs D i) (σ.set i (some (.ref a))) H) ∧ (b = false → wAsM K Wout D r cls d σ H)
inductive HdsAs (X : Cx) : List ExceptHandler → List Cl → Prop
  | nil : HdsAs X [] []
  | cons {x n : Str} {c : Value} {i : Nat} {ts : Addr → Value → Option Addr → TS} {b0 : Stmt} {suite : List Stmt} {np hp : Pos} {hds : List ExceptHandler} {l : List Cl} (hi : X.N[i]? = some n) (hln : X.env.kindOf n = some .local) (hc : Names X x c)
      (hsu : ∀ (a : Addr) (oe : Obj) (cls : Value) (d : Option Addr) (pn : List (Addr × Obj)), Zc cls d oe → (∃ vs, oe.data = .fields vs) → PSs (X.suite a ((a, oe) :: pn)) (b0 :: suite) (ts a cls d)) (r : HdsAs X hds l) :
      HdsAs X (.ExceptHandler (some (.Name x np)) (some n) (b0 :: suite) hp :: hds) ((c, i, ts) :: l)
section
variable {X : Cx} {body : List Stmt} {h0 : ExceptHandler} {hds : List ExceptHandler} {l : List Cl} {pos : Pos} {tb : WX → TS} {Wout : WX}
theorem ps_tryAs (hs : X.stack = X.env :: X.outer) (hf : X.env.frame = some X.env.locals) (hN : X.N.Nodup) (tk : Takes X Wout)
    (hb : ∀ (W : WX) (pn : List (Addr × Obj)) (xe : Value → Shared → Prop), Takes (X.tr pn xe) W → PassesOwn (model X.prog X.w) X.A X.env xe → PSs (X.tr pn xe) body (tb W))
    (hh : HdsAs X (h0 :: hds) l) : PS X (.Try body (h0 :: hds) [] [] pos) (fun D σ H => tb (wAsM X.K Wout D l) D σ H) := by
  refine ⟨fun pins s σ H D I h => ?_⟩
  have ok := I.ok
  have hfr : X.A.frames = some (X.env :: X.outer) := by rw [ok.frames, hs]
  refine wpAny_Try_except ?_
  refine wpAny_mono ((hb (wAsM X.K Wout D l) (X.pn ++ pins) (fun e s1 => wpAny (model X.prog X.w) X.A (noteFrame e X.env) (fun _ s2 => wpAny (model X.prog X.w) X.A (setFlight e none) (fun _ s3 =>
    wpAny (model X.prog X.w) X.A (handleBy e X.env (h0 :: hds)) (SP X pins D) X.xe s3) X.xe s2) X.xe s1) (fun u s' xx => ?_) PassesOwn.looking).run [] s σ H D (I.toTry _) h) (fun f s1 q => ?_) (fun e s1 he => he)
  · obtain ⟨a, B, sI, pins', σ', H', cls, d, rfl, J', nb, up, sky, na, os, ag, w⟩ := xx
    have J : Inv X pins σ' H' sI := J'.ofTry ok
    have sky' : Sky B (X.env :: X.outer) a (Zc cls d) X.env.locals s'.heap := by rw [← hs]; exact sky
    show wpAny (model X.prog X.w) X.A (noteFrame (.ref a) X.env) _ _ _
    refine Sky.land Zc.steady hfr hf sky' fun h3 f3 u3 => ?_
    have J3 : Inv X pins σ' H' { s' with heap := h3 } := J.landed nb f3.1 (up.trans u3) os ag
    obtain ⟨oe3, vs3, he3, hz3, hd3⟩ := f3.there
    have nfr : a ∉ frs (X.env :: X.outer) := fun hm => by
      obtain ⟨_, o', e', hnf⟩ := f3.2.2.1.mem hm
      rw [he3] at e'; cases e'
      exact hnf _ hd3
    have nL : a ≠ X.env.locals := fun z => nfr (List.mem_filterMap.mpr ⟨X.env, List.mem_cons_self, by rw [hf, z]⟩)
    have nF : a ∉ X.fs := fun hm => by
      obtain ⟨e, he, q⟩ := List.mem_filterMap.mp hm
      exact nfr (List.mem_filterMap.mpr ⟨e, List.mem_cons_of_mem _ he, q⟩)
    have S3 := J3.suite he3 hd3 na nL nF
    have go : ∀ {hds' : List ExceptHandler} {l' : List Cl}, HdsAs X hds' l' → wAsM X.K Wout D l' cls d σ' H' → wpAny (model X.prog X.w) X.A (handleBy (.ref a) X.env hds') (SP X pins D) X.xe { s' with heap := h3 } := by
      intro hds' l' hk
      induction hk with
      | nil =>
        intro w
        refine wpAny_handleBy_nil ?_
        obtain ⟨k1, k2, k3, oe, vs, T, oT, ts', he, hz, hd, h1, hr⟩ := id f3
        unfold PySem.passOn
        refine wpAny_bind (wpAny_field he hd h1 ?_)
        rw [if_neg (show ¬ ((Value.ref T == Value.none) = true) from by simp)]
        have fin : wpAny (model X.prog X.w) X.A (setFlight (.ref a) X.env.frame) (fun _ s4 => wpAny (model X.prog X.w) X.A (throw (.ref a) : Sem Flow) (SP X pins D) X.xe s4) X.xe { s' with heap := h3 } := by
          rw [hf]
          refine HandSPX.setFlight_upZ f3 fun h4 k4 u4 => wpAny_throw (tk _ _ ?_)
          exact ⟨a, B, sI, pins, σ', H', cls, d, rfl, J, nb, (up.trans u3).trans u4, .inr (.inr (by rw [hs]; exact k4)), na, os, ag, w⟩
        first
          | exact wpAny_bind (wpAny_pure (wpAny_bind fin))
          | exact wpAny_bind fin
      | @cons x n c i ts b0 suite np hp hds2 l2 hi hln hc hsu r ih =>
        intro w
        obtain ⟨b, hb1, hyes, hno⟩ := w
        refine wpAny_handleBy_cons (codeAny_handlers_test ?_) (by intro q; cases q)
        have LT : PySem.W.Looks (model X.prog X.w) h3 (typeOf (.ref a)) cls := fun A Q E s k q => wpAny_typeOf_ref (k _ _ he3) (by rw [hz3.1]; exact q)
        have LM := PySem.W.exm_one (M := model X.prog X.w) (J3.kIn) LT hb1
        have test : ∀ {Q : Value → Shared → Prop} {E : Value → Shared → Prop}, Q c { s' with heap := h3 } → wpAny (model X.prog X.w) (X.A.mark (some (.ref a))) (eval (.Name x np) X.env) Q E { s' with heap := h3 } := fun {Q E} q => by
          obtain ⟨hg, hdb, hm | ⟨hm, hv, hnn⟩⟩ := hc
          · exact ld_glob (X := X.suite a ((a, oe3) :: (X.pn ++ pins))) S3 hg hm q hdb
          · exact ld_blt (X := X.suite a ((a, oe3) :: (X.pn ++ pins))) S3 hg hm hv q hnn hdb
        refine test (LM.here ?_)
        cases b with
        | true =>
          refine codeAny_handlers_suite_as ?_
          refine HandSPX.lands_againZ f3 fun h4 f4 u4 => ?_
          have J4 : Inv X pins σ' H' { s' with heap := h4 } := J.landed nb f4.1 ((up.trans u3).trans u4) os ag
          obtain ⟨oe4, vs4, he4, hz4, hd4⟩ := f4.there
          have S4 := J4.suite he4 hd4 na nL nF
          refine store_ok (X := X.suite a ((a, oe4) :: (X.pn ++ pins))) (v := .ref a) S4 hN hi (.inl hln) rfl (fun s5 S5 => ?_) (.inr hln)
          refine wpAny_mono ((hsu a oe4 cls d (X.pn ++ pins) hz4 ⟨_, hd4⟩).run [] s5 _ H' _ S5 (hyes rfl (by rw [J.len]; exact (List.getElem?_eq_some_iff.mp hi).1) a na)) (fun f s6 q => ?_) (fun _ _ z => False.elim z)
          have fin : ∀ {σ6 : L2.St} {H6 : Hp} {Q : Shared → Prop}, Inv (X.suite a ((a, oe4) :: (X.pn ++ pins))) [] σ6 H6 s6 → (∀ s7, Inv X pins (σ6.set i none) H6 s7 → Q s7) →
              wpAny (model X.prog X.w) X.A (do bindName X.env n .none; unbindBehindTheSuite X.env n hp) (fun _ s7 => Q s7) X.xe s6 := fun {σ6 H6 Q} S6 hq => gone_ok (S6.unsuite ok) hN hi hln hq
          cases f with
          | next =>
            obtain ⟨σ6, H6, S6, q6⟩ := q
            exact fin S6 fun s7 J7 => ⟨_, _, J7, q6⟩
          | brk =>
            obtain ⟨σ6, H6, S6, q6⟩ := q
            exact fin S6 fun s7 J7 => ⟨_, _, J7, q6⟩
          | cont =>
            obtain ⟨σ6, H6, S6, q6⟩ := q
            exact fin S6 fun s7 J7 => ⟨_, _, J7, q6⟩
          | ret u =>
            obtain ⟨v6, σ6, H6, S6, r6, q6⟩ := q
            exact fin S6 fun s7 J7 => ⟨_, _, _, J7, r6, q6⟩
        | false =>
          show wpAny _ X.A (handleBy (.ref a) X.env hds2) _ _ _
          exact ih (hno rfl)
    exact go hh w
  · cases f with
    | next =>
      obtain ⟨σ', H', J', q⟩ := q
      exact wpAny_execs_nil ⟨σ', H', J'.ofTry ok, q⟩
    | brk =>
      obtain ⟨σ', H', J', q⟩ := q
      exact ⟨σ', H', J'.ofTry ok, q⟩
    | cont =>
      obtain ⟨σ', H', J', q⟩ := q
      exact ⟨σ', H', J'.ofTry ok, q⟩
    | ret u =>
      obtain ⟨v, σ', H', J', r, q⟩ := q
      exact ⟨v, σ', H', J'.ofTry ok, r, q⟩
end
/-! ### by data -/
/-- what is known of two classes of exceptions: the first is under the second, or not -/
def XRel (G : Gc) (x y : Str) (b : Bool) : Prop := ∃ C D, G.mg x = some (.ref C) ∧ G.mg y = some (.ref D) ∧ PySem.W.exmOne G.K (.ref C) (.ref D) = some b ∧ PySem.W.kitOne G.K (.ref C) (.ref D) = some b ∧ L2.ExcC G.K C
abbrev EMT := List (Str × Str × Bool)
def em (E : EMT) (x y : Str) : Option Bool := (E.find? fun t => t.1 == x && t.2.1 == y).map (·.2.2)
def EmOk (G : Gc) (E : EMT) : Prop := ∀ t ∈ E, XRel G t.1 t.2.1 t.2.2
theorem em_rel {G : Gc} {E : EMT} (h : EmOk G E) {x y : Str} {b : Bool} (e : em E x y = some b) : XRel G x y b := by
  unfold em at e
  cases q : E.find? fun t => t.1 == x && t.2.1 == y with
  | none => rw [q] at e; cases e
  | some t =>
    rw [q] at e
    cases e
    have h1 := List.find?_some q
    rw [Bool.and_eq_true] at h1
    have e1 : t.1 = x := by simpa using h1.1
    have e2 : t.2.1 = y := by simpa using h1.2
    rw [← e1, ← e2]
    exact h t (List.mem_of_find?_eq_some q)
/-- a clause's suite, by the exception's name -/
def SHd (G : Gc) (N : List Str) (sc : Scope) (fn : Str → Bool) (k : Nat) (suite : List Stmt) (i : Nat) (rf : Str → Option Dt) : Prop :=
  ∀ X, Ctx G N sc fn k X → ∃ ts : Addr → Value → Option Addr → TS,
    (∀ (a : Addr) (oe : Obj) (cls : Value) (d : Option Addr) (pn : List (Addr × Obj)), Zc cls d oe → (∃ vs, oe.data = .fields vs) → PSs (X.suite a ((a, oe) :: pn)) suite (ts a cls d)) ∧
    ∀ n r cls, rf n = some r → X.mg n = some cls → ∀ a (De : Ends) σ H, σ[i]? = some (some (.ref a)) → (∀ v, (∀ O H', Rp X.K O H' v r) → De.rt v H) → ts a cls none De σ H
/-- a clause: the class's name, the slot, what is returned by the exception's name -/
abbrev Clz := Str × Nat × (Str → Option Dt)
def tryGo (E : EMT) (n : Str) : List Clz → Option Out
  | [] => some (.ex n none)
  | (x, _, rf) :: r => match em E n x with
    | some true => (rf n).map .rt
    | some false => tryGo E n r
    | none => none
def sTry (E : EMT) (g : SF) (hs : List Clz) : SF := fun ρ => match g ρ with
  | some (.ex n none) => tryGo E n hs
  | some (.ex _ (some _)) => none
  | y => y
inductive SHs (G : Gc) (N : List Str) (sc : Scope) (fn : Str → Bool) (k : Nat) : List ExceptHandler → List Clz → Prop
  | nil : SHs G N sc fn k [] []
  | cons {x n : Str} {i : Nat} {rf : Str → Option Dt} {b0 : Stmt} {suite : List Stmt} {np hp : Pos} {hds : List ExceptHandler} {l : List Clz} (hi : N[i]? = some n) (hln : sc.names.lookup n = some .local) (hg : GL sc x) (hdb : (x == ("__debug__" : Str)) = false) (hx : ∃ C, G.mg x = some (.ref C))
      (hs : SHd G N sc fn k (b0 :: suite) i rf) (r : SHs G N sc fn k hds l) : SHs G N sc fn k (.ExceptHandler (some (.Name x np)) (some n) (b0 :: suite) hp :: hds) ((x, i, rf) :: l)
theorem SHs.hds {G : Gc} {N : List Str} {sc : Scope} {fn : Str → Bool} {k : Nat} {E : EMT} (hE : EmOk G E) {X : Cx} (C : Ctx G N sc fn k X) : ∀ {hds : List ExceptHandler} {l : List Clz}, SHs G N sc fn k hds l →
    ∃ cl, HdsAs X hds cl ∧ ∀ (W : WX) (D : Ends) (ow : Ow) (H : Hp) (n : Str) (o : Out), tryGo E n l = some o → PostS X.K X.mg W D ow H o → PostS X.K X.mg (wAsM X.K W D cl) D ow H (.ex n none)
  | _, _, .nil => ⟨[], .nil, fun W D ow H n o e post => by cases e; exact post⟩
  | _, _, @SHs.cons _ _ _ _ _ x n i rf b0 suite np hp hds l hi hln hg hdb hx hs r => by
    obtain ⟨cl, h1, h2⟩ := SHs.hds hE C r
    obtain ⟨ts, t1, t2⟩ := hs X C
    obtain ⟨Cx, hCx⟩ := hx
    refine ⟨(.ref Cx, i, ts) :: cl, .cons (by rw [C.hN]; exact hi) (by show X.env.scope.names.lookup n = _; rw [C.hsc]; exact hln) ⟨C.gl hg, hdb, .inl (by rw [C.hmg]; exact hCx)⟩ t1 h1, fun W D ow H nm o e post => ?_⟩
    intro cls d σ' H' hc kp pk
    have pk' : d = none := pk
    subst pk'
    unfold tryGo at e
    cases he : em E nm x with
    | none => rw [he] at e; cases e
    | some b =>
      rw [he] at e
      obtain ⟨C1, D1, m1, m2, x1, _, _⟩ := em_rel hE he
      rw [C.hmg, m1] at hc
      cases hc
      rw [hCx] at m2
      cases m2
      refine ⟨b, by rw [C.hK]; exact x1, fun hb hlt a na => ?_, fun hb => ?_⟩
      · subst hb
        cases hr : rf nm with
        | none => rw [hr] at e; cases e
        | some dd =>
          rw [hr] at e
          cases e
          refine t2 nm dd _ hr (by rw [C.hmg]; exact m1) a _ _ _ (List.getElem?_set_self hlt) fun v hv => ?_
          exact post v H' kp (hv _ _)
      · subst hb
        exact h2 W D ow H nm o e post _ _ σ' H' (by rw [C.hmg]; exact m1) kp rfl
theorem ss_try {G : Gc} {N : List Str} {sc : Scope} {fn : Str → Bool} {k : Nat} {E : EMT} (hE : EmOk G E) {body : List Stmt} {h0 : ExceptHandler} {hds : List ExceptHandler} {l : List Clz} {g : SF} {pos : Pos} (hb : SB G N sc fn k body g) (hh : SHs G N sc fn k (h0 :: hds) l) : SS G N sc fn k (.Try body (h0 :: hds) [] [] pos) (sTry E g l) := fun X C T W tk hp => by
  obtain ⟨cl, h1, h2⟩ := hh.hds hE C
  refine PS.imp (ps_tryAs (tb := fun W => tS X.K X.mg W g) T.stk T.fr (by rw [C.hN]; exact C.nd) tk (fun W' pn xe tk' hp' => hb (X.tr pn xe) ⟨C.hP, C.hw, C.hK, C.hmg, C.hb, C.hN, C.nd, C.hsc, C.hfn, C.calm, C.room⟩ ⟨T.stk, T.fr⟩ W' tk' hp') h1) fun D σ H h => ?_
  obtain ⟨ρ, ow, o, he, gd, post⟩ := h
  unfold sTry at he
  cases hg : g ρ with
  | none => rw [hg] at he; cases he
  | some o1 =>
    rw [hg] at he
    cases o1 with
    | nx ρ' => cases he; exact ⟨ρ, ow, _, hg, gd, post⟩
    | rt d => cases he; exact ⟨ρ, ow, _, hg, gd, post⟩
    | ex n pl =>
      cases pl with
      | none => exact ⟨ρ, ow, _, hg, gd, h2 W D ow H n o he post⟩
      | some _ => cases he
/-! the suite «return A if isinstance(e, P) and not isinstance(e, Q) else B» -/
def rfIs (E : EMT) (P Q A B : Str) : Str → Option Dt := fun n => match em E n P, em E n Q with
  | some b1, some b2 => some (.str (if b1 && !b2 then A else B))
  | _, _ => none
theorem shd_is {G : Gc} {N : List Str} {sc : Scope} {fn : Str → Bool} {k : Nat} {E : EMT} (hE : EmOk G E) (B : Bi G) (i : Nat) {e P Q A Bs : Str} {p1 p2 p3 p4 p5 p6 p7 p8 p9 p10 p11 p12 p13 p14 : Pos} {j1 j2 : Nat} (hi : N[i]? = some e := by rfl) (hv : Vis sc e := by exact Or.inl rfl) (hd : (e == ("__debug__" : Str)) = false := by decide) (hcd : (e == ("__classdict__" : Str)) = false := by decide)
    (hgi : GL sc "isinstance" := by rfl) (hgP : GL sc P := by rfl) (hgQ : GL sc Q := by rfl) (hdP : (P == ("__debug__" : Str)) = false := by decide) (hdQ : (Q == ("__debug__" : Str)) = false := by decide) :
    SHd G N sc fn k [.Return (some (.IfExp (.BoolOp .And [.Call (.Name "isinstance" p1) [.Name e p2, .Name P p3] [] p4, .UnaryOp .Not (.Call (.Name "isinstance" p5) [.Name e p6, .Name Q p7] [] p8) p9] p10) (.Constant (.str A) j1 p11) (.Constant (.str Bs) j2 p12) p13)) p14] i (rfIs E P Q A Bs) := fun X C => by
  refine ⟨fun a cls d De σ H => ∃ C1 D1 D2 b1 b2, cls = .ref C1 ∧ d = none ∧ L2.ExcC X.K C1 ∧ X.mg P = some (.ref D1) ∧ X.mg Q = some (.ref D2) ∧ PySem.W.kitOne X.K (.ref C1) (.ref D1) = some b1 ∧ PySem.W.kitOne X.K (.ref C1) (.ref D2) = some b2 ∧ σ[i]? = some (some (.ref a)) ∧ De.rt (.str (if b1 && !b2 then A else Bs)) H, ?_, ?_⟩
  · intro a oe cls d pn hz hfl
    refine ⟨fun pins s σ H De I h => ?_⟩
    obtain ⟨C1, D1, D2, b1, b2, rfl, rfl, hC, mP, mQ, k1, k2, hσ, hrt⟩ := h
    have hgl : ∀ {x : Str}, GL sc x → Gl (X.suite a ((a, oe) :: pn)) x := fun {x} h => by
      show X.env.scope.names.lookup x = _
      rw [C.hsc]; exact h
    have hmi : (X.suite a ((a, oe) :: pn)).mg "isinstance" = none := by show X.mg _ = none; rw [C.hmg]; exact B.isinstance
    have pv : ∀ q : Pos, PE (X.suite a ((a, oe) :: pn)) (.Name e q) (tVar i) := fun q => pe_var (by show X.N[i]? = _; rw [C.hN]; exact hi) (by show Vis X.env.scope e; rw [C.hsc]; exact hv) hd hcd
    have pP : ∀ q : Pos, PE (X.suite a ((a, oe) :: pn)) (.Name P q) (tC (.ref D1)) := fun q => pe_glob (hgl hgP) mP rfl hdP
    have pQ : ∀ q : Pos, PE (X.suite a ((a, oe) :: pn)) (.Name Q q) (tC (.ref D2)) := fun q => pe_glob (hgl hgQ) mQ rfl hdQ
    have c1 : PE (X.suite a ((a, oe) :: pn)) (.Call (.Name "isinstance" p1) [.Name e p2, .Name P p3] [] p4) _ := pe_callB (call_isE hC hz hfl) (hgl hgi) hmi boot_isinstance (pa_cons (pv p2) (pa_cons (pP p3) pa_nil))
    have c2 : PE (X.suite a ((a, oe) :: pn)) (.Call (.Name "isinstance" p5) [.Name e p6, .Name Q p7] [] p8) _ := pe_callB (call_isE hC hz hfl) (hgl hgi) hmi boot_isinstance (pa_cons (pv p6) (pa_cons (pQ p7) pa_nil))
    have all := pss_one (ps_ret (pos := p14) (pe_ifExp (pos := p13) (pw_and (pos := p10) (pt_val c1) (pw_and1 (pt_not (pos := p9) (pt_val c2)))).pt (pe_str (x := A) (j := j1) (pos := p11)) (pe_str (x := Bs) (j := j2) (pos := p12))))
    refine all.run pins s σ H De I ?_
    refine ⟨.ref a, hσ, .ref D1, .ref D1, b1, rfl, fun u hu => hu, k1, b1, rfl, ?_⟩
    cases b1 with
    | false => exact hrt
    | true =>
      rw [if_pos rfl]
      refine ⟨.ref a, hσ, .ref D2, .ref D2, b2, rfl, fun u hu => hu, k2, b2, rfl, ?_⟩
      cases b2 <;> exact hrt
  · intro n r cls hr hc a De σ H hσ hrt
    unfold rfIs at hr
    cases e1 : em E n P with
    | none => rw [e1] at hr; cases hr
    | some b1 =>
      cases e2 : em E n Q with
      | none => rw [e1, e2] at hr; cases hr
      | some b2 =>
        rw [e1, e2] at hr
        cases hr
        obtain ⟨C1, D1, m1, m2, _, x1, xc⟩ := em_rel hE e1
        obtain ⟨C2, D2, m3, m4, _, x2, _⟩ := em_rel hE e2
        rw [m1] at m3
        cases m3
        rw [C.hmg, m1] at hc
        cases hc
        exact ⟨C1, D1, D2, b1, b2, rfl, rfl, by rw [C.hK]; exact xc, by rw [C.hmg]; exact m2, by rw [C.hmg]; exact m4, by rw [C.hK]; exact x1, by rw [C.hK]; exact x2, hσ, hrt _ fun O H' => .str _⟩
end PT

namespace PT
open PySem PySem.Spec PyProof.Rows L2
/-! ## a hook with a check of one's own -/
def obsP (fa : List He.Fa) (fn : List He.DefD) (chk : PySem.W.Frag → Bool) (K : PySem.W.Frag) : He.AlD := ((He.obsD fa fn K).1 && chk K, (He.obsD fa fn K).2)
def SaysP (fa : List He.Fa) (fn : List He.DefD) (chk : PySem.W.Frag → Bool) (K : PySem.W.Frag) : Prop := obsP fa fn chk K = He.valD fn
theorem SaysP.says {fa : List He.Fa} {fn : List He.DefD} {chk : PySem.W.Frag → Bool} {K : PySem.W.Frag} (h : SaysP fa fn chk K) : He.SaysD fa fn K ∧ chk K = true := by
  have h1 : ((He.obsD fa fn K).1 && chk K) = true := congrArg (fun z : He.AlD => z.1) h
  have h2 : (He.obsD fa fn K).2 = fn.map He.DefD.val := congrArg (fun z : He.AlD => z.2) h
  rw [Bool.and_eq_true] at h1
  exact ⟨Prod.ext h1.1 h2, h1.2⟩
def obsPG (n : Nat) (fa : List He.Fa) (fn : List He.DefD) (chk : PySem.W.Frag → Bool) (g : Addr → Option Obj) : He.AlD := obsP fa fn chk (He.frG g (He.asD g n))
def hookP (n : Nat) (fa : List He.Fa) (fn : List He.DefD) (chk : PySem.W.Frag → Bool) : PySem.W.Hook where
  α := He.AlD
  obs := fun s => obsPG n fa fn chk s.heap.get?
  val := fun _ => He.valD fn
  says := fun _ h => ∃ K : PySem.W.Frag, K.In h ∧ SaysP fa fn chk K
  of := fun _ _ e => ⟨_, He.frG_in, e⟩
  keeps := fun _ _ _ ⟨K, hK, c⟩ k => ⟨K, PySem.W.Frag.In.keeps hK k, c⟩
theorem obsPG_eq {n : Nat} {fa : List He.Fa} {fn : List He.DefD} {chk : PySem.W.Frag → Bool} {g : Addr → Option Obj} {s : Shared} (h : ∀ a, g a = s.heap.get? a) : obsPG n fa fn chk g = (hookP n fa fn chk).obs s := by
  have e : g = s.heap.get? := funext h
  rw [e]
  rfl
def excB (K : PySem.W.Frag) (C : Addr) : Bool :=
  He.eqO (PySem.W.findIn K (.ref C) "__getattribute__") (some (some (.builtin "BaseException.__getattribute__"))) && (He.eqO (PySem.W.findIn K (.ref C) "__getattr__") (some none) && (decide (PySem.W.subIn K (.ref C) (.type "BaseException") = some true) && (PySem.W.hasDictIn K C &&
    (He.eqO (PySem.W.findIn K (.ref C) "__class__") (some (some (.builtin "object.__class__"))) && (He.eqO (PySem.W.specialIn K (.builtin "object.__class__") "__get__") (some (some (.builtin "getset_descriptor.__get__"))) &&
      (decide (PySem.W.takesIn K (.builtin "object.__class__") = some true) && decide (PySem.W.mroIn K C (.type "object") = some true)))))))
theorem excB_ok {K : PySem.W.Frag} {C : Addr} (h : excB K C = true) : L2.ExcC K C := by
  unfold excB at h
  simp only [Bool.and_eq_true, decide_eq_true_eq] at h
  obtain ⟨h1, h2, h3, h4, h5, h6, h7, h8⟩ := h
  exact ⟨He.eqO_ok h1, He.eqO_ok h2, h3, h4, He.eqO_ok h5, He.eqO_ok h6, h7, h8⟩
def relOk (K : PySem.W.Frag) (t : Str × Str × Bool) : Bool := He.eqO (PySem.W.nsIn K mainGlobals t.1) (some (some (.ref (He.ga K t.1)))) && (He.eqO (PySem.W.nsIn K mainGlobals t.2.1) (some (some (.ref (He.ga K t.2.1)))) &&
  (decide (PySem.W.exmOne K (.ref (He.ga K t.1)) (.ref (He.ga K t.2.1)) = some t.2.2) && (decide (PySem.W.kitOne K (.ref (He.ga K t.1)) (.ref (He.ga K t.2.1)) = some t.2.2) && excB K (He.ga K t.1))))
def chkE (E : EMT) (K : PySem.W.Frag) : Bool := E.all fun t => relOk K t
theorem chkE_ok {P : Program} {w : World} {K : PySem.W.Frag} {h base : Heap} {mg : Str → Option Value} {E : EMT} (X : K.In h) (G : h.Ns mainGlobals mg) (c : chkE E K = true) : EmOk ⟨P, w, K, mg, base⟩ E := fun t ht => by
  have h1 := List.all_eq_true.mp c t ht
  unfold relOk at h1
  simp only [Bool.and_eq_true, decide_eq_true_eq] at h1
  obtain ⟨a1, a2, a3, a4, a5⟩ := h1
  exact ⟨He.ga K t.1, He.ga K t.2.1, PySem.W.mg_of X G (He.eqO_ok a1), PySem.W.mg_of X G (He.eqO_ok a2), a3, a4, excB_ok a5⟩
end PT

namespace PT
open PySem PySem.Spec PyProof.Rows L2
/-! ## range with a step above 0 -/
def rgC (lo c : Int) (n : Nat) : List Dt := (List.range n).map fun i => .int (lo + (i : Nat) * c)
theorem rgC_length (lo c : Int) (n : Nat) : (rgC lo c n).length = n := by unfold rgC; rw [List.length_map, List.length_range]
theorem rgC_get {lo c : Int} {n i : Nat} (h : i < n) : (rgC lo c n)[i]? = some (.int (lo + (i : Nat) * c)) := by
  unfold rgC
  rw [List.getElem?_map, List.getElem?_range h]
  rfl
theorem wd_rgC {b : Bool} {K : PySem.W.Frag} {ow : Ow} {H : Hp} {lo c : Int} {n : Nat} : WD .d b K ow H (Itc lo c n) (rgC lo c n) := fun ow1 H1 r ok1 => by
  refine ⟨fun i hi => ?_, ?_, fun i x H2 hi y => ?_⟩
  · rw [rgC_length] at hi; exact hi
  · rw [rgC_length]; exact Nat.le_refl n
  · rw [rgC_length] at hi
    obtain ⟨rfl, rfl⟩ := y
    exact ⟨Same.refl _, _, rgC_get hi, .int _⟩
def stepN (i j c : Int) : Nat := if i < j then ((j - i - 1) / c + 1).toNat else 0
def okC : Int → Bool
  | .ofNat n => Nat.ble 1 n && Nat.ble n 1000000
  | .negSucc _ => false
theorem okC_iff {i : Int} : okC i = true ↔ 1 ≤ i ∧ i ≤ 1000000 := by
  cases i with
  | ofNat n =>
    show (Nat.ble 1 n && Nat.ble n 1000000) = true ↔ _
    rw [Bool.and_eq_true, Nat.ble_eq, Nat.ble_eq]
    show 1 ≤ n ∧ n ≤ 1000000 ↔ 1 ≤ (n : Int) ∧ (n : Int) ≤ 1000000
    omega
  | negSucc n =>
    have : Int.negSucc n = -((n : Int) + 1) := rfl
    show false = true ↔ _
    rw [this]
    simp
    omega
section
variable {G : Gc} {N : List Str} {sc : Scope} {fn : Str → Bool} {k : Nat} {pos p p2 q1 q2 : Pos} {a b c tg : Expr} {f g h : EF}
def iRg3 (f g h : EF) : IF := fun _ ρ => bndI (f true ρ) fun x => bndI (g true ρ) fun y => bndI (h true ρ) fun z => match x, y, z with
  | .int i, .int j, .int c => if okI i = true ∧ okI j = true ∧ okC c = true then some (.it (rgC i c (stepN i j c))) else none
  | _, _, _ => none
theorem stepC {i j c : Int} (hi : i ≤ 1000000 ∧ -1000000 ≤ i) (hj : j ≤ 1000000 ∧ -1000000 ≤ j) (hc : 1 ≤ c ∧ c ≤ 1000000) : RgC i j c (stepN i j c) := by
  refine ⟨by omega, by omega, ?_, ?_⟩
  · have hq : (j - i - 1) / c * c ≤ j - i - 1 ∨ True := .inr trivial
    have hpos : i < j → 0 ≤ (j - i - 1) / c ∧ (j - i - 1) / c ≤ j - i - 1 := fun h => ⟨Int.ediv_nonneg (by omega) (by omega), Int.ediv_le_self _ (by omega)⟩
    have hm : i < j → (j - i - 1) / c * c ≤ j - i - 1 ∧ 0 ≤ (j - i - 1) / c * c := fun h => ⟨Int.ediv_mul_le _ (by omega), Int.mul_nonneg (hpos h).1 (by omega)⟩
    unfold Builtin.Range.small Builtin.Range.rangeSize
    simp only [Builtin.Range.rangeFitsLong, Bool.and_eq_true, Bool.or_eq_true, decide_eq_true_eq, beq_iff_eq, show c > 0 by omega, if_true]
    split
    · rename_i h
      have h1 := hpos h
      have h2 := hm h
      omega
    · omega
  · unfold Builtin.Range.rangeSize stepN
    rw [if_pos (by omega)]
    split
    · have h0 : 0 ≤ (j - i - 1) / c := Int.ediv_nonneg (by omega) (by omega)
      rw [Int.toNat_of_nonneg (by omega)]
    · rfl
theorem si_rg3 (B : Bi G) (ha : SE G N sc fn k a f) (hb : SE G N sc fn k b g) (hc : SE G N sc fn k c h) (hg : GL sc "range" := by rfl) (ns : NS a := by intro _ _; rfl) (ns2 : NS b := by intro _ _; rfl) (ns3 : NS c := by intro _ _; rfl) : SI G N sc fn k .d tg (.Call (.Name "range" p) [a, b, c] [] pos) (iRg3 f g h) := fun X C W tk b' =>
  PI.imp (pi_range3 (C.gl hg) (by rw [C.hmg]; exact B.range) (pa_cons (ha X C W tk true) (pa_cons (hb X C W tk true) (pa_cons (hc X C W tk true) pa_nil (ns3 [] X.env)) (ns2 [c] X.env)) (ns [b, c] X.env)) (ns [b, c] X.env) (noStar _ _ _ fun e he => by
      rcases List.mem_cons.mp he with rfl | he
      · exact ns2
      · rw [List.mem_singleton.mp he]; exact ns3)) fun σ H R h => by
    obtain ⟨ρ, ow, r, he, gd, post⟩ := h
    refine tE.goI gd he (fun n pl e => by subst e; exact post) fun d hd v H1 s1 r1 => ?_
    refine tE.goI (gd.same s1) hd (fun n pl e => by subst e; exact ExP.same post s1) fun d2 hd2 v2 H2 s2 r2 => ?_
    refine tE.goI (gd.same (s1.trans s2)) hd2 (fun n pl e => by subst e; exact ExP.same post (s1.trans s2)) fun d3 hd3 v3 H3 s3 r3 => ?_
    split at hd3
    · split at hd3
      · rename_i i j cc hn
        rw [okI_iff, okI_iff, okC_iff] at hn
        cases hd3
        obtain rfl := r1.int
        obtain rfl := r2.int
        obtain rfl := r3.int
        exact ⟨i, j, cc, _, rfl, stepC hn.1 hn.2.1 hn.2.2, post _ H3 ((s1.trans s2).trans s3) wd_rgC⟩
      · cases hd3
    · cases hd3
/-! ## max, min of a list of whole numbers -/
def mxL : List Int → Option Int
  | [] => none
  | x :: l => match mxL l with
    | none => some x
    | some y => some (if x < y then y else x)
theorem mxL_ok : ∀ {l : List Int} {m : Int}, mxL l = some m → m ∈ l ∧ ∀ y ∈ l, y ≤ m
  | x :: l, m, h => by
    unfold mxL at h
    cases e : mxL l with
    | none =>
      rw [e] at h
      cases h
      have hl : l = [] := by
        cases l with
        | nil => rfl
        | cons a l => unfold mxL at e; cases q : mxL l <;> rw [q] at e <;> cases e
      subst hl
      exact ⟨List.mem_singleton.mpr rfl, fun y hy => by rw [List.mem_singleton.mp hy]; omega⟩
    | some y =>
      rw [e] at h
      have ih := mxL_ok e
      by_cases hxy : x < y
      · have hm : y = m := by simpa [hxy] using h
        subst hm
        refine ⟨List.mem_cons_of_mem _ ih.1, fun z hz => ?_⟩
        rcases List.mem_cons.mp hz with rfl | hz
        · omega
        · exact ih.2 z hz
      · have hm : x = m := by simpa [hxy] using h
        subst hm
        refine ⟨List.mem_cons_self, fun z hz => ?_⟩
        rcases List.mem_cons.mp hz with rfl | hz
        · omega
        · have := ih.2 z hz; omega
def mnL (l : List Int) : Option Int := (mxL (l.map fun x => -x)).map fun x => -x
theorem mnL_ok {l : List Int} {m : Int} (h : mnL l = some m) : m ∈ l ∧ ∀ y ∈ l, m ≤ y := by
  unfold mnL at h
  cases e : mxL (l.map fun x => -x) with
  | none => rw [e] at h; cases h
  | some y =>
    rw [e] at h
    cases h
    obtain ⟨h1, h2⟩ := mxL_ok e
    obtain ⟨z, hz, rfl⟩ := List.mem_map.mp h1
    refine ⟨by show -(-z) ∈ l; rw [Int.neg_neg]; exact hz, fun w hw => ?_⟩
    have := h2 (-w) (List.mem_map.mpr ⟨w, hw, rfl⟩)
    show -(-z) ≤ w
    omega
def dMaxL : Dt → Option Dt
  | .list ds => match unI ds with
    | some ns => (mxL ns).map .int
    | none => none
  | _ => none
def dMinL : Dt → Option Dt
  | .list ds => match unI ds with
    | some ns => (mnL ns).map .int
    | none => none
  | _ => none
theorem cd_maxL (K : PySem.W.Frag) : CD1 K (rMax K) dMaxL := by
  intro x H Q ow dx dz ok rx e post
  cases dx with
  | list ds =>
    simp only [dMaxL] at e
    cases hu : unI ds with
    | none => rw [hu] at e; cases e
    | some ns =>
      rw [hu] at e
      obtain rfl := unI_eq hu
      obtain ⟨a, vs, rfl, h1, r⟩ := rx.list
      obtain rfl := RpAll.ints r
      cases hm : mxL ns with
      | none => simp only [hm] at e; cases e
      | some m =>
        simp only [hm] at e
        cases e
        have hk := mxL_ok hm
        refine ⟨a, ns, rfl, SqL.of h1, List.length_pos_of_mem hk.1, fun m' h1' h2' => ?_⟩
        have : m' = m := Int.le_antisymm (hk.2 m' h1') (h2' m hk.1)
        subst this
        exact post _ H (Same.refl H) (.int _)
  | _ => cases e
theorem cd_minL (K : PySem.W.Frag) : CD1 K (rMin K) dMinL := by
  intro x H Q ow dx dz ok rx e post
  cases dx with
  | list ds =>
    simp only [dMinL] at e
    cases hu : unI ds with
    | none => rw [hu] at e; cases e
    | some ns =>
      rw [hu] at e
      obtain rfl := unI_eq hu
      obtain ⟨a, vs, rfl, h1, r⟩ := rx.list
      obtain rfl := RpAll.ints r
      cases hm : mnL ns with
      | none => simp only [hm] at e; cases e
      | some m =>
        simp only [hm] at e
        cases e
        have hk := mnL_ok hm
        refine ⟨a, ns, rfl, SqL.of h1, List.length_pos_of_mem hk.1, fun m' h1' h2' => ?_⟩
        have : m' = m := Int.le_antisymm (h2' m hk.1) (hk.2 m' h1')
        subst this
        exact post _ H (Same.refl H) (.int _)
  | _ => cases e
theorem se_maxL (B : Bi G) (ha : SE G N sc fn k a f) (hg : GL sc "max" := by rfl) (ns : NS a := by intro _ _; rfl) : SE G N sc fn k (.Call (.Name "max" p) [a] [] pos) (eUn dMaxL f) :=
  se_b1 (r := rMax) (fun X h => cr_max h) cd_maxL B.max boot_max ha hg (by decide) (by decide) ns
theorem se_minL (B : Bi G) (ha : SE G N sc fn k a f) (hg : GL sc "min" := by rfl) (ns : NS a := by intro _ _; rfl) : SE G N sc fn k (.Call (.Name "min" p) [a] [] pos) (eUn dMinL f) :=
  se_b1 (r := rMin) (fun X h => cr_min h) cd_minL B.min boot_min ha hg (by decide) (by decide) ns
/-! ## three names = a list -/
def gTr (f g h : GF) : GF := fun d ρ => match d with
  | .list [x, y, z] => (f x ρ).bind fun ρ1 => (g y ρ1).bind (h z)
  | _ => none
theorem sg_tr {e1 e2 e3 : Expr} {kk : Nat} {sl1 sl2 sl3 : List Nat} {f g h : GF} (h1 : SG G N sc fn k .d e1 sl1 f) (h2 : SG G N sc fn k .d e2 sl2 g) (h3 : SG G N sc fn k .d e3 sl3 h)
    (hn : ∀ env, (assignEach [e1, e2, e3] env).length = 3 := by intro _; rfl) (hst : ∀ env, (assignEach [e1, e2, e3] env).findIdx? (·.1) = none := by intro _; rfl)
    (hs : ∀ env, (assignEach [e1, e2, e3] env).map (·.2) = assign e1 env :: (assignEach [e2, e3] env).map (·.2) := by intro _; rfl) (hs2 : ∀ env, (assignEach [e2, e3] env).map (·.2) = assign e2 env :: (assignEach [e3] env).map (·.2) := by intro _; rfl) (hs3 : ∀ env, (assignEach [e3] env).map (·.2) = assign e3 env :: (assignEach [] env).map (·.2) := by intro _; rfl) :
    SG G N sc fn k .d (.Tuple [e1, e2, e3] kk pos) (sl1 ++ (sl2 ++ sl3)) (gTr f g h) := fun X C =>
  PG.imp (pg_lst (n := 3) C.calm (pgs_cons (h1 X C) (pgs_cons (h2 X C) (pgs_cons (h3 X C) pgs_nil (hs3 X.env)) (hs2 X.env)) (hs X.env)) (hn X.env) (hst X.env)) fun v σ H Q hh => by
    obtain ⟨ρ, ow, d, ρ', hn, he, gd, r, post⟩ := hh
    unfold gTr at he
    split at he
    · rename_i x y z
      have r : Rp X.K (OA ow) H v (.list [x, y, z]) := r
      cases r with
      | lst ha hno ra =>
        cases ra with
        | cons rx rr =>
          cases rr with
          | cons ry rr =>
            cases rr with
            | cons rz rn =>
              cases rn
              rename_i a vx vy vz
              cases q1 : f x ρ with
              | none => rw [q1] at he; cases he
              | some ρ1 =>
                rw [q1] at he
                simp only [Option.bind_some] at he
                cases q2 : g y ρ1 with
                | none => rw [q2] at he; cases he
                | some ρ2 =>
                  rw [q2] at he
                  refine ⟨a, [vx, vy, vz], rfl, SqL.of ha, rfl, vx, [vy, vz], rfl, ρ, ow, x, ρ1, fun j hj => hn j (List.mem_append_left _ hj), q1, gd, rx, fun σ1 g1 l1 a1 => ?_⟩
                  refine ⟨vy, [vz], rfl, ρ1, ow, y, ρ2, fun j hj => hn j (List.mem_append_right _ (List.mem_append_left _ hj)), q2, g1, ry, fun σ2 g2 l2 a2 => ?_⟩
                  refine ⟨vz, [], rfl, ρ2, ow, z, ρ', fun j hj => hn j (List.mem_append_right _ (List.mem_append_right _ hj)), he, g2, rz, fun σ3 g3 l3 a3 => ⟨rfl, ?_⟩⟩
                  refine post σ3 g3 (l3.trans (l2.trans l1)) fun j hj => ?_
                  rw [List.mem_append, List.mem_append, not_or, not_or] at hj
                  rw [a3 j hj.2.2, a2 j hj.2.1, a1 j hj.1]
    · cases he
end
end PT

namespace PT
open PySem PySem.Spec PyProof.Rows L2
/-! ## a tuple times 1, or more -/
theorem tuple_mulW1 (l : Addr) (items : Array Value) (n : Nat) (dd : Option Addr) (sl : Array (Option Value)) (u : Tok) :
    Meets (Builtin.«tuple.__mul__» ⟨[.ref l, .int 1 u], []⟩) (fun _ R s => s.heap.get? l = some { cls := .type "tuple", dict := dd, data := .seq items n, slots := sl } ∧ R (.ok (.ret (Value.ref l))) s) :=
  .of_wp fun prog w A R s h => by
    obtain ⟨hp, g, d, tk, os⟩ := s
    obtain ⟨hl, h⟩ := h
    have f1 := AutoSeq1.idx_int
    have c1 : (items.isEmpty || (1 : Int) == 1) = true := by simp
    wp_walk using wpAny_loadPart' hl
    exact ⟨_, rfl, h⟩
def rRepT1 (K : PySem.W.Frag) : R2 := fun x y H Q => ∃ l xs, x = .ref l ∧ y = .int 1 ∧ SqT K H l xs ∧ Q (.ref l) H
theorem op_repT1 {X : Cx} : OpR X (binaryOp .Mult) (rRepT1 X.K) := by
  intro pins s σ H x y v u Q I rx ry h
  obtain ⟨l, xs, rfl, rfl, hT, q⟩ := h
  cases rx
  obtain ⟨t, rfl⟩ := ry
  obtain ⟨its, r, ⟨⟨cls, dd, data, sl⟩, ho, hc, n, hd⟩, hs⟩ := I.tuple hT
  simp only at hc hd
  subst hc hd
  exact wpAny_binaryOp_repeat_ref (T := "tuple") (U := "int") (by decide) ⟨_, ho, rfl⟩ (fun s' => typeIs_int s' 1 t) noFill_tuple_mul F.fills_int_mul F.slot_int_rmul repeat_tuple F.slot_int_index.lookup
    (call_meets F.slot_int_rmul (typeIs_int s 1 t) F.entry_int_rmul (F.args_int_rmul_2 _ _) (int_rmul_tuple 1 t l its.toArray n dd sl)
      ⟨ho, rfl, ⟨_, ho, rfl⟩, call_meets F.slot_tuple_mul ⟨_, ho, rfl⟩ F.entry_tuple_mul (F.args_tuple_mul_2 _ _) (tuple_mulW1 l its.toArray n dd sl t) ⟨ho, ⟨.ref l, H, I, rfl, q⟩⟩⟩)
def dMulT : Dt → Dt → Option Dt
  | .tuple xs, .int j => if xs ≠ [] ∧ okM j = true ∧ xs.length ≤ 1000 then some (.tuple (List.replicate j.toNat xs).flatten) else if j = 1 then some (.tuple xs) else none
  | _, _ => none
def rMulT (K : PySem.W.Frag) : R2 := fun x y H Q => rRepF K x y H Q ∨ rRepT1 K x y H Q
theorem rd_mulT (K : PySem.W.Frag) : RD K (rMulT K) dMulT := by
  intro x y H Q ow dx dy dz ok rx ry e post
  unfold dMulT at e
  split at e
  · rename_i xs j
    split at e
    · rename_i hz
      cases e
      obtain ⟨a, vs, rfl, h1, r1⟩ := rx.tuple
      obtain rfl := ry.int
      refine .inl ⟨a, j, vs, rfl, rfl, h1.sq, fun z => ?_, (okM_iff.mp hz.2.1).1, (okM_iff.mp hz.2.1).2, by rw [r1.length]; exact hz.2.2, fun p o hp ho =>
        post _ _ (Same.upd hp) (.tup ⟨o, upd_same, ho⟩ (RpAll.same (Same.upd hp) (r1.rep _)))⟩
      subst z
      cases r1
      exact hz.1 rfl
    · split at e
      · rename_i hj
        subst hj
        cases e
        obtain ⟨a, vs, rfl, h1, r1⟩ := rx.tuple
        obtain rfl := ry.int
        exact .inr ⟨a, vs, rfl, rfl, h1.sq, post _ H (Same.refl H) (.tup h1 r1)⟩
      · cases e
  · cases e
section
variable {G : Gc} {N : List Str} {sc : Scope} {fn : Str → Bool} {k : Nat} {pos apos cpos p : Pos} {a b c : Expr} {f g h : EF}
theorem se_mulT (ha : SE G N sc fn k a f) (hb : SE G N sc fn k b g) : SE G N sc fn k (.BinOp a .Mult b pos) (eBin dMulT f g) :=
  se_bin (r := rMulT) (fun X => op_repF.or op_repT1) rd_mulT ha hb
/-! ## what is never reached -/
def eNo : EF := fun _ _ => none
theorem se_no {e : Expr} : SE G N sc fn k e eNo := fun X C W tk b => ⟨fun pins s σ H Q I h => by
  obtain ⟨ρ, ow, r, he, _⟩ := h
  cases he⟩
/-! ## list.count -/
def dCnt : Dt → Dt → Option Dt
  | .list xs, .int j => match unI xs with
    | some ns => some (.int (ns.count j : Nat))
    | none => none
  | _, _ => none
def isL : Dt → Bool
  | .list _ => true
  | _ => false
/-- a method of one argument, by data -/
def eMeth (T : Dt → Bool) (op : Dt → Dt → Option Dt) (f g : EF) : EF := fun _ ρ => bnd (f true ρ) fun x => if T x = true then bnd (g true ρ) fun y => (op x y).map .val else none
theorem se_cnt (ha : SE G N sc fn k a f) (hb : SE G N sc fn k b g) (hbase : ∀ env : PySem.Env, attributeBase a "count" env (eval a env) = eval a env := by intro _; rfl) (hline : (apos.endLine == cpos.line) = true := by rfl) (ns : NS b := by intro _ _; rfl) : SE G N sc fn k (.Call (.Attribute a "count" apos) [b] [] cpos) (eMeth isL dCnt f g) := fun X C W tk b' =>
  PE.imp (pe_bm PySem.F.plainAttrs_list PySem.F.slot_list_count PySem.F.type_list_count mt_lcount (ha X C W tk true) (pa_cons (hb X C W tk true) pa_nil (ns _ X.env)) (hbase X.env) (by
    rw [ns [] X.env]; rfl) hline (ns _ X.env) rfl) fun σ H Q h => by
    obtain ⟨ρ, ow, rs, he, gd, post⟩ := h
    refine tE.go gd he (fun n pl e => by subst e; exact post) fun d hd1 v H1 s1 r1 => ?_
    cases d with
    | list xs =>
      rw [if_pos (show isL (.list xs) = true from rfl)] at hd1
      obtain ⟨l, vs, rfl, h1, rv⟩ := r1.list
      refine ⟨.inl ⟨rfl, vs, SqL.of h1⟩, ?_⟩
      refine tE.go (gd.same s1) hd1 (fun n pl e => by subst e; exact post.same s1) fun d2 hd2 v2 H2 s2 r2 => ?_
      unfold dCnt at hd2
      split at hd2
      · rename_i e1
        split at hd2
        · rename_i ns hns
          cases e1
          cases hd2
          obtain rfl := r2.int
          rw [unI_eq hns] at rv
          have e2 := rv.ints
          subst e2
          exact ⟨l, ns, _, rfl, rfl, SqL.of (s2 _ _ h1), post _ H2 (s1.trans s2) (.inl (.int _))⟩
        · cases hd2
      · cases hd2
    | _ => cases hd1
end
end PT

namespace PT
open PySem PySem.Spec PyProof.Rows L2
/-! ## loops that end at the first find; loops that keep the first find -/
theorem forL_first {sl : List Nat} {tg : GF} {body : SF} (P : En → Prop) (q : Dt → Option Dt) : ∀ (xs : List Dt) (ρ : En), P ρ →
    (∀ x ∈ xs, ∀ ρ, P ρ → (q x = none ∧ ∃ ρ2, turn sl tg body x ρ = some (.nx ρ2) ∧ P ρ2) ∨ ∃ d, q x = some d ∧ turn sl tg body x ρ = some (.rt d)) →
    (xs.findSome? q = none ∧ ∃ ρ', forL sl tg body xs ρ = some (.nx ρ') ∧ P ρ') ∨ ∃ d, xs.findSome? q = some d ∧ forL sl tg body xs ρ = some (.rt d)
  | [], ρ, h0, _ => .inl ⟨rfl, ρ, rfl, h0⟩
  | x :: xs, ρ, h0, hs => by
    rcases hs x List.mem_cons_self ρ h0 with ⟨e, ρ2, h1, h2⟩ | ⟨d, e, h1⟩
    · rcases forL_first P q xs ρ2 h2 fun y hy => hs y (List.mem_cons_of_mem _ hy) with ⟨e2, ρ', h3, h4⟩ | ⟨d, e2, h3⟩
      · exact .inl ⟨by rw [List.findSome?_cons, e]; exact e2, ρ', by rw [forL_cons h1]; exact h3, h4⟩
      · exact .inr ⟨d, by rw [List.findSome?_cons, e]; exact e2, by rw [forL_cons h1]; exact h3⟩
    · exact .inr ⟨d, by rw [List.findSome?_cons, e], forL_stop h1⟩
theorem forL_or {sl : List Nat} {tg : GF} {body : SF} (P : Option Dt → En → Prop) (q : Dt → Option Dt) : ∀ (xs : List Dt) (acc : Option Dt) (ρ : En), P acc ρ →
    (∀ x ∈ xs, ∀ acc ρ, P acc ρ → ∃ ρ2, turn sl tg body x ρ = some (.nx ρ2) ∧ P (acc.or (q x)) ρ2) →
    ∃ ρ', forL sl tg body xs ρ = some (.nx ρ') ∧ P (acc.or (xs.findSome? q)) ρ'
  | [], acc, ρ, h0, _ => ⟨ρ, rfl, by rw [List.findSome?_nil, Option.or_none]; exact h0⟩
  | x :: xs, acc, ρ, h0, hs => by
    obtain ⟨ρ2, h1, h2⟩ := hs x List.mem_cons_self acc ρ h0
    obtain ⟨ρ', h3, h4⟩ := forL_or P q xs (acc.or (q x)) ρ2 h2 fun y hy => hs y (List.mem_cons_of_mem _ hy)
    refine ⟨ρ', by rw [forL_cons h1]; exact h3, ?_⟩
    have e : acc.or ((x :: xs).findSome? q) = (acc.or (q x)).or (xs.findSome? q) := by
      rw [List.findSome?_cons, Option.or_assoc]
      cases q x <;> rfl
    rw [e]
    exact h4
theorem findSome_flat {α β γ : Type} (f : α → List β) (g : β → Option γ) : ∀ xs : List α, (xs.flatMap f).findSome? g = xs.findSome? fun x => (f x).findSome? g
  | [] => rfl
  | x :: xs => by
    rw [List.flatMap_cons, List.findSome?_append, List.findSome?_cons, findSome_flat f g xs]
    cases (f x).findSome? g <;> rfl
theorem findSome_filter {β γ : Type} (p : β → Bool) (g : β → Option γ) : ∀ xs : List β, (xs.filter p).findSome? g = xs.findSome? fun x => if p x = true then g x else none
  | [] => rfl
  | x :: xs => by
    rw [List.filter_cons, List.findSome?_cons, ← findSome_filter p g xs]
    cases p x with
    | true => simp only [if_true, List.findSome?_cons]
    | false => simp
end PT

namespace PT
open PySem PySem.Spec PyProof.Rows L2
section
variable {G : Gc} {N : List Str} {sc : Scope} {fn : Str → Bool} {k : Nat} {pos p p2 q1 q2 : Pos} {a b c : Expr} {f g h : EF}
/-! ## a, b = [..], None -/
theorem ss_parO (i j : Nat) {x y : Str} {px py : Pos} {kt k2 j1 : Nat} {pt pt2 : Pos} (ha : SL G N sc fn k a f) (hi : N[i]? = some x := by rfl) (hj : N[j]? = some y := by rfl) (hij : i ≠ j := by decide)
    (hk : sc.kind = .function := by rfl) (hx : sc.names.lookup x = some .local := by rfl) (hy : sc.names.lookup y = some .local := by rfl) (hl : (px.line == py.line) = true := by rfl) (hxy : (x == y) = false := by decide)
    (hst : ([a, .Constant .none j1 q1].any fun | .Starred .. => true | _ => false) = false := by rfl) (hc : [a, .Constant .none j1 q1].all (constantsAlone 8) = false := by rfl) (hf : [a, .Constant .none j1 q1].all (foldedForSure 8) = false := by rfl)
    (hs : ∀ (l : Nat) (env : PySem.Env), swapsWithSole [.Tuple [.Name x px, .Name y py] kt pt] (.Tuple [a, .Constant .none j1 q1] k2 pt2) l env = pure false := by intro _ _; rfl) (ns : NS a := by intro _ _; rfl) :
    SS G N sc fn k (.Assign [.Tuple [.Name x px, .Name y py] kt pt] (.Tuple [a, .Constant .none j1 q1] k2 pt2) pos) (sParO i j f (eC .none)) := fun X C T W tk hp =>
  PS.imp (ps_par C.calm (by rw [C.hN]; exact C.nd) (by rw [C.hN]; exact hi) (by rw [C.hN]; exact hj) hij (by rw [C.hsc]; exact hx) (by rw [C.hsc]; exact hy) (pa_cons (ha X C W tk) (pa_cons pe_non pa_nil rfl) (ns _ X.env))
    (sw_par (by rw [C.hsc]; exact hk) (by rw [C.hsc]; exact hx) (by rw [C.hsc]; exact hy) hl hxy hst hc hf) (hs _ X.env)) fun D σ H h => by
    obtain ⟨ρ, ow, o, he, gd, post⟩ := h
    unfold sParO at he
    cases h1 : f true ρ with
    | none => rw [h1] at he; cases he
    | some r1 =>
      rw [h1] at he
      cases r1 with
      | exc n pl => cases he; exact ⟨ρ, ow, _, h1, gd, post.exp⟩
      | val d =>
        simp only [bndS, eC] at he
        split at he
        · rename_i ds
          split at he
          · rename_i hi
            cases he
            refine ⟨ρ, ow, _, h1, gd, ds, rfl, fun q vs H1 s1 hq r1 => ?_⟩
            refine ⟨.ref q, .non, rfl, ?_⟩
            have g1 := (gd.same s1).setO hi hq r1
            have g2 := g1.setA (i := j) (v := .non) (d := .none) .non
            exact post _ _ _ (((Same.stp s1).trans (Ow.put_stp hq)).trans (Ow.clr_stp (ow.put i q) [j] _)) g2
          · cases he
        · cases he
end
section
variable {ρ : En} {f g : EF}
theorem w_parO (i j : Nat) : sParO i j f g ρ = bndS (f true ρ) fun x => bndS (g false ρ) fun y => match x with
  | .list ds => if i < ρ.length then some (.nx ((ρ.set i (some (.own ds))).set j (some (.sh y)))) else none
  | _ => none := Eq.trans rfl rfl
theorem w_meth (T : Dt → Bool) (op : Dt → Dt → Option Dt) (b : Bool) : eMeth T op f g b ρ = bnd (f true ρ) fun x => if T x = true then bnd (g true ρ) fun y => (op x y).map .val else none := Eq.trans rfl rfl
theorem w_isL (xs : List Dt) : isL (.list xs) = true := Eq.trans rfl rfl
theorem w_cnt (ns : List Int) (x : Int) : dCnt (.list (ns.map .int)) (.int x) = some (.int (ns.count x : Nat)) := by
  show (match unI (ns.map PyData.int) with | some ns => some (PyData.int (ns.count x : Nat)) | none => none) = _
  rw [unI_map]
end
end PT

namespace PT
open PySem PySem.Spec PyProof.Rows L2
/-! ## sorted(set(xs)), xs a list of whole numbers -/
abbrev ob0 (w : World) : Obj := { cls := .type "set", dict := none, data := .set #[] 0 (.fresh 0 0 (!w.params.followText "set-order")) }
theorem set_of_list {P : Program} {w : World} {A : Around} {E : Value → Shared → Prop} {s : Shared} {l : Addr} {its : Array Value} (ns : List Int) {Q : Value → Shared → Prop} (hd0 : A.handled = none) (hl : s.heap.IsList l its) (hit : IntsAre its.toList ns) (hb : ns.length + 1 < scanBound)
    (h : ∀ (h' : Heap) (tk c : Nat), SetR w h' s.heap.objs.size (fun j => decide (j ∈ ns)) c → c ≤ ns.length → (∀ b o, s.heap.get? b = some o → h'.get? b = some o) → Q (.ref s.heap.objs.size) { s with heap := h', toks := tk }) :
    wpAny (model P w) A (call (.type "set") [.ref l]) Q E s := by
  have zz : its.size = ns.length := by have q := IntsAre.length hit; rw [Array.length_toList] at q; exact q
  obtain ⟨c, tl, f0⟩ := F.called_set.mro
  have f1 := F.called_set.made
  have f2 := F.called_set.sub
  refine wpAny_call (codeAny_of_tree (?_ : wpAny _ _ (callAny (.type "set") _) _ _ _))
  refine wpAny_pure ⟨Code.quiet_builtin _ (by decide +kernel), codeAny_builtin F.entry_type_call ?_⟩
  rw [Around.under_plain (weight_type_call_type "set" [.ref l] []) rfl]
  have f3 := F.called_set.notType
  have f4 := F.called_set.canCreate
  have f5 := F.typeCall_set_1 (.ref l)
  repeat (any_goals (first | assumption | wp_step))
  refine codeAny_mono (code_set_led1 (.ref l) (E := E) (Q₁ := fun ob t => ob = .ref s.heap.objs.size ∧ t = { s with heap := s.heap.push (ob0 w) }) ⟨rfl, rfl⟩) fun r t hr => ?_
  cases r with
  | error e => exact hr
  | ok fl =>
    cases fl with
    | ret ob =>
      obtain ⟨rfl, rfl⟩ := hr
      have g0 : (s.heap.push (ob0 w)).get? s.heap.objs.size = some (ob0 w) := Heap.get?_push_size _ rfl
      have g1 : Shared.TypeIs { s with heap := s.heap.push (ob0 w) } (.ref s.heap.objs.size) "set" := ⟨_, g0, rfl⟩
      have g2 := F.called_set.init.lookup
      have g3 := F.called_set.init.bind (.ref s.heap.objs.size)
      repeat (any_goals (first | assumption | wp_step))
      refine codeAny_mono (codeAny_call_builtin (R := wants (fun r t => r = .none ∧ ∃ h' tk c, t = { s with heap := h', toks := tk } ∧ SetR w h' s.heap.objs.size (fun j => decide (j ∈ ns)) c ∧ c ≤ ns.length ∧ (∀ b o, s.heap.get? b = some o → h'.get? b = some o)) E) F.called_set.init.plain F.entry_set_init (check_set_init_1 g1 ?_)) fun r2 t2 hr2 => ?_
      · obtain ⟨⟨ocl, odi, oda, osl⟩, o0, o1, nl, o2⟩ := hl
        simp only at o1 o2
        subst o1; subst o2
        have o3 : (s.heap.push (ob0 w)).get? l = some { cls := .type "list", dict := odi, data := .seq its nl, slots := osl } := Heap.get?_push_of_some _ o0
        have k1 := F.sub_list_set
        have k2 := F.sub_list_frozenset
        have k3 : (Value.type "list" == Value.type "dict") = false := by decide
        have k4 : (s.heap.push (ob0 w)).IsList l its := ⟨_, o3, rfl, nl, rfl⟩
        unfold Builtin.«set.__init__» noKeywords Builtin.Frozenset.updateFrom
        generalize hPI : pyIter = PI
        wp_walk
        subst hPI
        refine wpAny_pyIter_list k4 (wpAny_bind (wpAny_runValue ?_))
        have k5 : l < s.heap.objs.size := Heap.lt_size o0
        have k6 : A.in1.in1.in1.handled = none := by simp [hd0]
        have k7 : l ≠ (s.heap.push (ob0 w)).objs.size := by rw [Heap.size_push]; exact Nat.ne_of_lt (Nat.lt_succ_of_lt k5)
        have k8 : s.heap.objs.size ∉ [(s.heap.push (ob0 w)).objs.size, l] := by
          rw [Heap.size_push]
          simp only [List.mem_cons, List.not_mem_nil, or_false, not_or]
          exact ⟨Nat.ne_of_lt (Nat.lt_succ_self _), Nat.ne_of_gt k5⟩
        have k9 : ∀ (i : Nat) (v : Value), its[i]? = some v → ∃ k t, ns[i]? = some k ∧ v = .int k t := fun i v hv => by
          have hi : i < ns.length := by rw [← zz]; exact (Array.getElem?_eq_some_iff.mp hv).1
          obtain ⟨t, e⟩ := PyProof.Rows.IntsAre.int_at hit i v (by rw [Array.getElem?_toList]; exact hv)
          exact ⟨ns[i], t, List.getElem?_eq_getElem hi, by rw [e, List.getD_eq_getElem?_getD, List.getElem?_eq_getElem hi]; rfl⟩
        refine set_update_ints ((Walks.list k6 _ l k7 its).toS) s.heap.objs.size k8 ns zz hb k9 (its.size - 0) 0 _ (by omega) (Nat.zero_le _) ⟨⟨_, Heap.get?_push_size _ rfl, rfl, rfl⟩, (k4.push _)⟩ ?hS0 ?hR
        case hS0 =>
          exact ⟨0, Nat.le_refl 0, setR_new_at (Heap.get?_push_of_some _ g0)⟩
        case hR =>
          intro t' c' hm hc' hS'
          obtain ⟨h', g', d', tk', os'⟩ := t'
          obtain rfl : g' = s.gens := hm.gens
          obtain rfl : d' = s.drawn := hm.drawn
          obtain rfl : os' = s.os := hm.os
          refine (wpAny_pure ?_ : wpAny _ _ _ _ _ _)
          show wpAny _ _ (ret Value.none) _ _ _
          rw [zz] at hc'
          refine wpAny_pure ⟨rfl, h', tk', c', rfl, hS', hc', fun b o e => ?_⟩
          have b0 : b < s.heap.objs.size := Heap.lt_size e
          have b1 : b ≠ (s.heap.push (ob0 w)).objs.size := by rw [Heap.size_push]; exact Nat.ne_of_lt (Nat.lt_succ_of_lt b0)
          refine hm.heap b o ?_ (Heap.get?_push_of_some _ (Heap.get?_push_of_some _ e))
          simp only [List.mem_cons, List.not_mem_nil, or_false, not_or]
          exact ⟨Nat.ne_of_lt b0, b1⟩
      · cases r2 with
        | error e => exact hr2
        | ok fl2 =>
          cases fl2 with
          | ret r =>
            obtain ⟨rfl, h', tk, c', rfl, hS', hc', hk'⟩ := hr2
            repeat (any_goals (first | assumption | wp_step))
            exact h _ _ _ hS' hc' hk'
          | _ => exact hr2.elim
    | _ => exact hr.elim
def rSetLs (K : PySem.W.Frag) (w : World) : List V → Hp → VK → Prop := fun vs H Q => ∃ (p : Addr) (ns : List Int), vs = [.ref p] ∧ SqL K H p (ns.map V.int) ∧ ns.length ≤ 1000 ∧ ∀ l, H l = none → Q (.ref l) (upd H l (SetO w l (fun j => decide (j ∈ ns)) (ddup ns).length))
theorem cr_setLs {X : Cx} (hc : X.calm = true) : CallR X (.type "set") (rSetLs X.K X.w) := by
  intro pins s σ H vs us Q I r h
  obtain ⟨p, ns, rfl, hq, hl, q⟩ := h
  obtain ⟨its, rv, pt, hz⟩ := I.list hq
  rw [Vals.ref1 r]
  refine set_of_list ns (I.ok.hd hc) pt.isList (by simpa using rv.ints) (by unfold scanBound; omega) fun h' tk c R hcn kk => ?_
  have e := setR_len R
  subst e
  exact ⟨.ref _, _, I.laid (t' := tk) kk (Nat.le_refl _) (setO_new R), rfl, q _ (I.hok.fresh (Nat.le_refl _))⟩
def dSortSetL : Dt → Option Dt
  | .list ds => match unI ds with
    | some ns => if ns.length ≤ 1000 ∧ (ddup ns).length < 64 then some (.list (sset ns)) else none
    | none => none
  | _ => none
section
variable {G : Gc} {N : List Str} {sc : Scope} {fn : Str → Bool} {k : Nat} {pos p p2 q1 q2 : Pos} {a b c : Expr} {f g h : EF}
theorem se_sortSetL (B : Bi G) (ha : SE G N sc fn k a f) (hg : GL sc "sorted" := by rfl) (hg2 : GL sc "set" := by rfl) (ns : NS a := by intro _ _; rfl) : SE G N sc fn k (.Call (.Name "sorted" p) [.Call (.Name "set" p2) [a] [] q1] [] pos) (eUn dSortSetL f) := fun X C W tk b' =>
  PE.imp (pe_callB (cr_sortedSet C.calm) (C.gl hg) (by rw [C.hmg]; exact B.sorted) PyProof.Rows.boot_sorted (pa_cons (pe_callTy (cr_setLs C.calm) (C.gl hg2) (by rw [C.hmg]; exact B.set) PyProof.Rows.boot_set (pa_cons (ha X C W tk true) pa_nil (ns [] X.env)) (by decide) (by decide) (ns [] X.env) rfl) pa_nil rfl) (by decide) (by decide) rfl rfl) fun σ H Q h => by
    obtain ⟨ρ, ow, rs, he, gd, post⟩ := h
    refine tE.go gd he (fun n pl e => by subst e; exact post) fun d hd1 v H1 s1 r1 => ?_
    cases d with
    | list ds =>
      simp only [dSortSetL] at hd1
      split at hd1
      · rename_i ns hns
        split at hd1
        · rename_i hl
          cases hd1
          obtain ⟨t, vs, rfl, hT, rr⟩ := r1.list
          obtain rfl := unI_eq hns
          obtain rfl := RpAll.ints rr
          refine ⟨t, ns, rfl, SqL.of hT, hl.1, fun l hl0 => ⟨l, _, _, rfl, upd_same, hl.2, fun ms p' h1 h2 _ hp' => ?_⟩⟩
          have e := sset_eq ns ms h1 fun k => by rw [h2 k, decide_eq_true_eq]
          have s3 := (s1.trans (Same.upd hl0)).trans (Same.upd (o := .lst (ms.map V.int)) hp')
          refine post _ _ s3 (.inl ?_)
          rw [e]
          exact .lst upd_same ((gd.ok.same (s1.trans (Same.upd hl0))).new hp') (rp_ints ms)
        · cases hd1
      · cases hd1
    | _ => cases hd1
end
theorem w_ssetL {hs : List Int} (h : hs.length ≤ 1000) (h2 : (ddup hs).length < 64) : dSortSetL (.list (hs.map .int)) = some (.list (sset hs)) := by
  show (match unI (hs.map PyData.int) with | some ns => if ns.length ≤ 1000 ∧ (ddup ns).length < 64 then some (PyData.list (sset ns)) else none | none => none) = _
  rw [unI_map]
  show (if hs.length ≤ 1000 ∧ (ddup hs).length < 64 then some (PyData.list (sset hs)) else none) = _
  rw [if_pos ⟨h, h2⟩]
theorem ddup_small {l : List Int} {m : Nat} (h : ∀ x ∈ l, 0 ≤ x ∧ x < (m : Int)) : (ddup l).length ≤ m := by
  have := nodup_len (ddup_nodup l) (b := (List.range m).map fun i => ((i : Nat) : Int)) fun k hk => by
    have hb := h k (ddup_mem.mp hk)
    exact List.mem_map.mpr ⟨k.toNat, List.mem_range.mpr (by omega), by omega⟩
  simpa using this
end PT

namespace PT
open PySem PySem.Spec PyProof.Rows L2
/-! ## max(xs, default=d) -/
theorem args_maxd (a d : Value) : argsOk "max" ⟨[a], [("default", d)]⟩ := by unfold argsOk; kernel_rfl
section
variable {P : Program} {w : World} {A : Around} {R : Result → Shared → Prop} {I : Addr} {fp wr : List Addr} {n : Nat} {Pv : Nat → Value → Prop} {St : Nat → Heap → Prop}
abbrev lstO (vs : Array Value) (c : Nat) : Obj := { cls := .type "list", dict := none, data := .seq vs c, slots := #[] }
abbrev mxN : String := "max.loop"
theorem mx_name : (toString "max" ++ toString ".loop" : String) = mxN := by decide
theorem mx_loop (W : Walks P w A.in1 I fp wr n Pv St) (bt : Nat → Nat → Bool) (hc : CmpOf P w A.in1 .Gt Pv bt) (S : Addr) (hS0 : S ∉ fp) (d : Value) :
    ∀ (k j : Nat) (s : Shared) (vb : Value) (c : Nat), n - (j + 1) = k → j + 1 ≤ n → St (j + 1) s.heap → Pv (argBest bt j) vb → s.heap.get? S = some (lstO #[vb, vb] c) →
    (∀ v h' tk, Pv (argBest bt (n - 1)) v → (∀ b o, b ∉ wr → b ≠ S → s.heap.get? b = some o → h'.get? b = some o) → R (.ok (.ret v)) { s with heap := h', toks := tk }) →
    codeAny (model P w) A (.builtin mxN ⟨[.ref I, .none, .ref S], [("default", d)]⟩) R s := by
  have sw : S ∉ wr := fun h => hS0 (W.sub _ h)
  intro k
  induction k with
  | zero =>
    intro j s vb c hk hj hst pb gS hR
    have e0 : j + 1 = n := by omega
    refine codeAny_builtin F.entry_max_loop ?_
    rw [Around.under_plainId F.plain_max_loop _]
    refine (wpAny_bind (wpAny_seqItems gS rfl ?_) : wpAny _ A.in1 (seqItems? (.ref S) >>= _) _ _ s)
    refine (wpAny_bind (wpAny_tryCatch (W.done s _ _ (e0 ▸ hst) fun h' tk kk => ?_)) : wpAny _ A.in1 (tryCatch (pyNext (.ref I)) _ >>= _) _ _ s)
    have gS' := kk S _ sw gS
    refine (wpAny_bind ?_ : wpAny _ A.in1 (updateSeq S (fun _ => #[]) >>= _) _ _ _)
    refine wpAny_updateSeq gS' rfl (wpAny_bind (wpAny_letGo (wpAny_pure ?_)))
    exact hR vb _ tk (by rw [← e0]; exact pb) fun b o hb hbS e => (Heap.get?_update_other _ _ (Ne.symm hbS)).trans (kk b o hb e)
  | succ k ih =>
    intro j s vb c hk hj hst pb gS hR
    have e0 : j + 1 < n := by omega
    refine codeAny_builtin F.entry_max_loop ?_
    rw [Around.under_plainId F.plain_max_loop _]
    refine (wpAny_bind (wpAny_seqItems gS rfl ?_) : wpAny _ A.in1 (seqItems? (.ref S) >>= _) _ _ s)
    refine (wpAny_bind (wpAny_tryCatch (W.item (j + 1) s _ _ e0 hst fun v h' tk pv st' kk => ?_)) : wpAny _ A.in1 (tryCatch (pyNext (.ref I)) _ >>= _) _ _ s)
    have gS' := kk S _ sw gS
    refine (wpAny_bind (wpAny_tryCatch (wpAny_holding (wpAny_bind (hc (j + 1) (argBest bt j) v vb _ _ _ pv pb ?_)))) : wpAny _ A.in1 (tryCatch (holding [v, v] (richCompare .Gt v vb >>= _)) _ >>= _) _ _ _)
    refine wpAny_bind (wpAny_holding (wpAny_truthy_bool (wpAny_bind (wpAny_letGo (wpAny_pure ?_)))))
    cases hb : bt (j + 1) (argBest bt j) with
    | true =>
      simp only [if_true]
      refine wpAny_bind (wpAny_updateSeq gS' rfl (wpAny_bind (wpAny_letGo ?_)))
      rw [mx_name]
      refine wpAny_pure ⟨plainId_quiet F.plain_max_loop _, ih (j + 1) _ v _ (by omega) e0 (W.frame _ _ _ st' fun b hbf o e => ?_) (by simp only [argBest, hb, if_true]; exact pv) (Heap.get?_update_self _ gS' rfl) fun v' h2 t2 p2 k2 => ?_⟩
      · exact (Heap.get?_update_other _ _ (fun h : S = b => hS0 (h ▸ hbf))).trans e
      · exact hR v' h2 t2 p2 fun b o hbw hbS e => k2 b o hbw hbS ((Heap.get?_update_other _ _ (Ne.symm hbS)).trans (kk b o hbw e))
    | false =>
      simp only [Bool.false_eq_true, if_false]
      refine wpAny_bind (wpAny_letGo ?_)
      rw [mx_name]
      refine wpAny_pure ⟨plainId_quiet F.plain_max_loop _, ih (j + 1) _ vb c (by omega) e0 st' (by simp only [argBest, hb, Bool.false_eq_true, if_false]; exact pb) gS' fun v' h2 t2 p2 k2 => ?_⟩
      exact hR v' h2 t2 p2 fun b o hbw hbS e => k2 b o hbw hbS (kk b o hbw e)
theorem mx_first (W : Walks P w A.in1 I fp wr n Pv St) (bt : Nat → Nat → Bool) (hc : CmpOf P w A.in1 .Gt Pv bt) (S : Addr) (hS0 : S ∉ fp) (d : Value) {s : Shared} {c : Nat} (hst : St 0 s.heap) (gS : s.heap.get? S = some (lstO #[] c))
    (hR : 0 < n → ∀ v h' tk, Pv (argBest bt (n - 1)) v → (∀ b o, b ∉ wr → b ≠ S → s.heap.get? b = some o → h'.get? b = some o) → R (.ok (.ret v)) { s with heap := h', toks := tk })
    (hD : n = 0 → ∀ h' tk, (∀ b o, b ∉ wr → s.heap.get? b = some o → h'.get? b = some o) → R (.ok (.ret d)) { s with heap := h', toks := tk }) :
    codeAny (model P w) A (.builtin mxN ⟨[.ref I, .none, .ref S], [("default", d)]⟩) R s := by
  have sw : S ∉ wr := fun h => hS0 (W.sub _ h)
  refine codeAny_builtin F.entry_max_loop ?_
  rw [Around.under_plainId F.plain_max_loop _]
  refine (wpAny_bind (wpAny_seqItems gS rfl ?_) : wpAny _ A.in1 (seqItems? (.ref S) >>= _) _ _ s)
  by_cases hn : 0 < n
  · refine (wpAny_bind (wpAny_tryCatch (W.item 0 s _ _ hn hst fun v h' tk pv st' kk => ?_)) : wpAny _ A.in1 (tryCatch (pyNext (.ref I)) _ >>= _) _ _ s)
    have gS' := kk S _ sw gS
    refine (wpAny_bind ?_ : wpAny _ A.in1 (updateSeq S (fun _ => #[v, v]) >>= _) _ _ _)
    refine wpAny_updateSeq gS' rfl ?_
    rw [mx_name]
    refine wpAny_pure ⟨plainId_quiet F.plain_max_loop _, mx_loop W bt hc S hS0 d _ 0 _ v _ rfl hn (W.frame _ _ _ st' fun b hbf o e => ?_) pv (Heap.get?_update_self _ gS' rfl) fun v' h2 t2 p2 k2 => ?_⟩
    · exact (Heap.get?_update_other _ _ (fun h : S = b => hS0 (h ▸ hbf))).trans e
    · exact hR hn v' h2 t2 p2 fun b o hbw hbS e => k2 b o hbw hbS ((Heap.get?_update_other _ _ (Ne.symm hbS)).trans (kk b o hbw e))
  · have e0 : n = 0 := by omega
    refine (wpAny_bind (wpAny_tryCatch (W.done s _ _ (by rw [e0]; exact hst) fun h' tk kk => ?_)) : wpAny _ A.in1 (tryCatch (pyNext (.ref I)) _ >>= _) _ _ s)
    exact wpAny_bind (wpAny_rule (wpAny_pure (hD e0 h' tk kk)))
end
section
variable {P : Program} {w : World} {A : Around} {E : Value → Shared → Prop} {s : Shared}
theorem mxd_raw {l : Addr} {its : List Value} {ns : List Int} {d : Value} {Q : Value → Shared → Prop} (hh : A.handled = none) (hl : s.heap.IsList l its.toArray) (hi : IntsAre its ns)
    (h : 0 < ns.length → ∀ h' tk M t', (∀ b o, s.heap.get? b = some o → h'.get? b = some o) → M ∈ ns → (∀ a, a ∈ ns → a ≤ M) → Q (.int M t') { s with heap := h', toks := tk })
    (h0 : ns.length = 0 → ∀ h' tk, (∀ b o, s.heap.get? b = some o → h'.get? b = some o) → Q d { s with heap := h', toks := tk }) :
    wpAny (model P w) A (call (.builtin "max") [.ref l] [("default", d)]) Q E s := by
  obtain ⟨xs, e⟩ := hi.allInts.items
  have hn : numsOf (intItems xs).toList = ns := by rw [← e]; exact hi.numsOf
  rw [nums_intItems] at hn
  subst hn
  rw [e] at hl
  have zl : (xs.toList.map (·.1)).length = xs.size := by rw [List.length_map, Array.length_toList]
  refine wpAny_call (codeAny_call_builtin F.plain_max F.entry_max ?_)
  simp only [checkBuiltinCall, F.kind_max]
  have hbody : wpAny (model P w) A.in1 (Builtin.«max» ⟨[.ref l], [("default", d)]⟩) (fun fin s' => match fin with
      | .done f => (match (Except.ok f : Result) with | .ok (.ret v) => Q v s' | .ok _ => False | .error e => E e s')
      | .again c' => c'.quiet = true ∧ codeAny (model P w) A c' (fun r s' => match r with | .ok (.ret v) => Q v s' | .ok _ => False | .error e => E e s') s') E s := by
    refine (wpAny_bind (wpAny_of_eq (show Builtin.Builtins.bindParams "max" ["key", "default"] 0 ⟨[], [("default", d)]⟩ = pure [none, some d] from rfl) ?_) : wpAny _ A.in1 (Builtin.Builtins.bindParams "max" ["key", "default"] 0 ⟨[], [("default", d)]⟩ >>= _) _ _ s)
    refine wpAny_bind (wpAny_pure ?_)
    refine wpAny_bind (iter_intList hl fun s2 e2 st hfp hlI => ?_)
    subst e2
    refine wpAny_bind (wpAny_newObj_type ?_)
    rw [mx_name]
    have W := Walks.list (prog := P) (w := w) (A := A.in1) hh _ l hlI (intItems xs)
    refine wpAny_pure ⟨plainId_quiet F.plain_max_loop _, mx_first W _ (CmpOf.ints_gt (numAt xs) fun _ _ => intItems_at) _ (fun hm => Nat.lt_irrefl _ (hfp _ hm)) d (W.frame _ _ _ st fun b _ o e => Heap.get?_push_of_some _ e) (Heap.get?_push_size _ rfl) (fun hn v h' tk pv kk => ?_) (fun hn h' tk kk => ?_)⟩
    · have hsz : 0 < xs.size := by simpa [intItems] using hn
      have pv' : (intItems xs)[argBest (fun i j => decide (numAt xs i > numAt xs j)) (xs.size - 1)]? = some v := by simpa [intItems] using pv
      obtain ⟨t, rfl⟩ := intItems_at pv'
      obtain ⟨g1, g2⟩ := argBest_gt (numAt xs) (xs.size - 1)
      refine h (by rw [zl]; exact hsz) h' tk _ t (old_kept fun b o hb e => kk b o hb (Nat.ne_of_lt (Heap.lt_size e)) (Heap.get?_push_of_some _ e)) ?_ fun a ha => ?_
      · rw [numAt_eq]
        exact PySem.getD_mem (by rw [zl]; omega)
      · obtain ⟨j, hj, rfl⟩ := mem_getD ha
        rw [zl] at hj
        rw [← numAt_eq]
        exact g2 j (by omega)
    · have hsz : xs.size = 0 := by simpa [intItems] using hn
      exact h0 (by rw [zl]; exact hsz) h' tk (old_kept fun b o hb e => kk b o hb (Heap.get?_push_of_some _ e))
  cases hsig : Manifest.signature? "max" with
  | none => exact wpAny_pure hbody
  | some sig =>
    have ha' : Bind.checkArgs "max" sig ⟨[.ref l], [("default", d)]⟩ = pure () := by
      have := args_maxd (.ref l) d
      simpa only [argsOk, hsig] using this
    simp only [ha']
    exact wpAny_pure hbody
end
def rMaxd (K : PySem.W.Frag) : List V → List V → Hp → VK → Prop := fun vs zs H Q => ∃ (a : Addr) (ns : List Int) (d : V), vs = [V.ref a] ∧ zs = [d] ∧ SqL K H a (ns.map V.int) ∧ (0 < ns.length → ∀ m, m ∈ ns → (∀ y, y ∈ ns → y ≤ m) → Q (.int m) H) ∧ (ns.length = 0 → Q d H)
theorem cr_maxd {X : Cx} (hc : X.calm = true) : CallRK X (.builtin "max") ["default"] (rMaxd X.K) := by
  intro pins s σ H vs zs us ws Q I r rz h
  obtain ⟨a, ns, d, rfl, rfl, hs, q1, q2⟩ := h
  obtain ⟨its, rv, hl, _⟩ := I.list hs
  rw [Vals.ref1 r]
  cases rz with
  | cons r1 r2 =>
    cases r2
    exact mxd_raw (I.ok.hd hc) hl.isList rv.ints (fun hn h' tk m t' hk h1 h2 => ⟨.int _, H, I.kept hk, ⟨_, rfl⟩, q1 hn m h1 h2⟩) (fun hn h' tk hk => ⟨_, H, I.kept hk, r1, q2 hn⟩)
def dMaxD : Dt → Dt → Option Dt
  | .list ds, .int d => match unI ds with
    | some ns => some (.int ((mxL ns).getD d))
    | none => none
  | _, _ => none
section
variable {G : Gc} {N : List Str} {sc : Scope} {fn : Str → Bool} {k : Nat} {pos p kpos q1 q2 : Pos} {a b c : Expr} {f g h : EF}
theorem se_maxD (B : Bi G) (ha : SE G N sc fn k a f) (hb : SE G N sc fn k b g) (hg : GL sc "max" := by rfl) (ns : NS a := by intro _ _; rfl) : SE G N sc fn k (.Call (.Name "max" p) [a] [⟨some "default", b, kpos⟩] pos) (eBin dMaxD f g) := fun X C W tk b' =>
  PE.imp (pe_callBK (cr_maxd C.calm) (C.gl hg) (by rw [C.hmg]; exact B.max) boot_max (pa_cons (ha X C W tk true) pa_nil (ns [] X.env)) (pk_cons (hb X C W tk true) pk_nil) (by decide) (by decide) (by rw [ns [] X.env]; rfl) (by rw [ns [] X.env]; rfl)) fun σ H Q h => by
    obtain ⟨ρ, ow, rs, he, gd, post⟩ := h
    refine tE.go gd he (fun n pl e => by subst e; exact post) fun d hd1 v H1 s1 r1 => ?_
    refine tE.go (gd.same s1) hd1 (fun n pl e => by subst e; exact post.same s1) fun d2 hd2 v2 H2 s2 r2 => ?_
    unfold dMaxD at hd2
    split at hd2
    · split at hd2
      · rename_i ds dd _ ns hns
        cases hd2
        obtain ⟨l, vs, rfl, h1, rv⟩ := r1.list
        obtain rfl := r2.int
        obtain rfl := unI_eq hns
        obtain rfl := RpAll.ints rv
        refine ⟨l, ns, .int dd, rfl, rfl, SqL.of (s2 _ _ h1), fun hn m hm hy => ?_, fun hn => ?_⟩
        · cases e : mxL ns with
          | none =>
            cases ns with
            | nil => simp at hn
            | cons x l => unfold mxL at e; cases q : mxL l <;> rw [q] at e <;> cases e
          | some M =>
            rw [e] at post
            have hM := mxL_ok e
            have : m = M := by
              have a1 := hM.2 m hm
              have a2 := hy M hM.1
              omega
            rw [this]
            exact post _ H2 (s1.trans s2) (.inl (.int _))
        · have : ns = [] := List.eq_nil_of_length_eq_zero hn
          subst this
          exact post _ H2 (s1.trans s2) (.inl (.int _))
      · cases hd2
    · cases hd2
end
theorem w_maxD (ns : List Int) (d : Int) : dMaxD (.list (ns.map .int)) (.int d) = some (.int ((mxL ns).getD d)) := by
  show (match unI (ns.map PyData.int) with | some ns => some (PyData.int ((mxL ns).getD d)) | none => none) = _
  rw [unI_map]
end PT

namespace PT
open PySem PySem.Spec PyProof.Rows L2
/-! ## sep.join(texts), f-strings of a text and an int -/
def unS : List Dt → Option (List Str)
  | [] => some []
  | .str s :: r => (unS r).map (s :: ·)
  | _ :: _ => none
theorem unS_eq : ∀ {xs : List Dt} {ys : List Str}, unS xs = some ys → xs = ys.map PyData.str
  | [], ys, h => by cases h; rfl
  | .str s :: r, ys, h => by
    unfold unS at h
    cases hr : unS r with
    | none => rw [hr] at h; cases h
    | some zs =>
      rw [hr] at h
      cases h
      rw [unS_eq hr]
      rfl
  | .int _ :: _, _, h => by cases h
  | .bool _ :: _, _, h => by cases h
  | .none :: _, _, h => by cases h
  | .list _ :: _, _, h => by cases h
  | .tuple _ :: _, _, h => by cases h
theorem RpAll.strs {K : PySem.W.Frag} {O : Addr → Prop} {H : Hp} : ∀ {vs : List V} {ys : List Str}, RpAll K O H vs (ys.map PyData.str) → vs = ys.map V.str
  | _, [], h => by cases h; rfl
  | _, _ :: _, h => by
    cases h with
    | cons h1 h2 =>
      cases h1
      rw [RpAll.strs h2]
      rfl
def isStr : Dt → Bool
  | .str _ => true
  | _ => false
def dJoin : Dt → Dt → Option Dt
  | .str a, .list xs => match unS xs with
    | some ys => if (ys.map (·.length)).sum + ys.length * a.length ≤ 16777216 then some (.str (Txt.join a ys)) else none
    | none => none
  | _, _ => none
section
variable {G : Gc} {N : List Str} {sc : Scope} {fn : Str → Bool} {k : Nat} {pos apos cpos p : Pos} {a b c : Expr} {f g h : EF}
theorem se_join (ha : SE G N sc fn k a f) (hb : SE G N sc fn k b g) (hbase : ∀ env : PySem.Env, attributeBase a "join" env (eval a env) = eval a env := by intro _; rfl) (hline : (apos.endLine == cpos.line) = true := by rfl) (ns : NS b := by intro _ _; rfl) : SE G N sc fn k (.Call (.Attribute a "join" apos) [b] [] cpos) (eMeth isStr dJoin f g) := fun X C W tk b' =>
  PE.imp (pe_join (ha X C W tk true) (hb X C W tk true) (ns _ X.env) (hbase X.env) hline) fun σ H Q h => by
    obtain ⟨ρ, ow, rs, he, gd, post⟩ := h
    refine tE.go gd he (fun n pl e => by subst e; exact post) fun d hd1 v H1 s1 r1 => ?_
    cases d with
    | str t =>
      rw [if_pos (show isStr (.str t) = true from rfl)] at hd1
      obtain rfl := r1.str
      refine ⟨⟨t, rfl⟩, ?_⟩
      refine tE.go (gd.same s1) hd1 (fun n pl e => by subst e; exact post.same s1) fun d2 hd2 v2 H2 s2 r2 => ?_
      unfold dJoin at hd2
      split at hd2
      · rename_i e1
        split at hd2
        · rename_i ys hys
          split at hd2
          · rename_i hz
            cases e1
            cases hd2
            obtain ⟨l, vs, rfl, h1, rv⟩ := r2.list
            rw [unS_eq hys] at rv
            have e2 := rv.strs
            subst e2
            exact ⟨t, l, ys, rfl, rfl, .inl (SqL.of h1), hz, post _ H2 (s1.trans s2) (.inl (.str _))⟩
          · cases hd2
        · cases hd2
      · cases hd2
    | _ => cases hd1
/-- f"text{int}" -/
def eFs (t : Str) (f : EF) : EF := fun _ ρ => bnd (f true ρ) fun x => match x with
  | .int i => if i.natAbs.log2 < 1920 ∧ (Str.empty ++ t ++ (toString i : String)).length ≤ 16777216 then some (.val (.str (Str.empty ++ t ++ (toString i : String)))) else none
  | _ => none
theorem se_fs {t : Str} {j : Nat} {p1 p2 : Pos} (ha : SE G N sc fn k a f) (ht : (Str.empty ++ t).length ≤ sizeLine := by decide) : SE G N sc fn k (.JoinedStr [.Constant (.str t) j p1, .FormattedValue a (-1) none p2] pos) (eFs t f) := fun X C W tk b' =>
  PE.imp (pe_joined (.cons pe_str (.cons (pe_fmt (ha X C W tk true)) .nil))) fun σ H Q h => by
    obtain ⟨ρ, ow, rs, he, gd, post⟩ := h
    refine ⟨t, rfl, ht, ?_⟩
    refine tE.go gd he (fun n pl e => by subst e; exact post) fun d hd1 v H1 s1 r1 => ?_
    cases d with
    | int i =>
      simp only at hd1
      split at hd1
      · rename_i hz
        cases hd1
        obtain rfl := r1.int
        exact .inr ⟨i, rfl, hz.1, _, rfl, hz.2, post _ H1 s1 (.inl (.str _))⟩
      · cases hd1
    | _ => cases hd1
end
end PT

namespace PT
open PySem PySem.Spec PyProof.Rows L2
/-! ## methods of a tuple: index, count -/
def tBF (r : V → List V → Hp → VK → Prop) (to : TE) (t : TA) : TE := fun σ H Q => to σ H fun x H1 => (∃ a xs, x = .ref a ∧ FT H1 a xs) ∧ t σ H1 fun vs H2 => r x vs H2 Q
theorem pe_bmF {X : Cx} {id : String} {name : Str} {r : V → List V → Hp → VK → Prop} {o e : Expr} {es : List Expr} {to : TE} {t : TA} {apos cpos : Pos} (slot : Slot "tuple" name id) (hty : typeOf (.builtin id) = pure (.type "method_descriptor")) (hm : MtR X id r) (ho : PE X o to) (ha : PA X (e :: es) t)
    (hbase : attributeBase o name X.env (eval o X.env) = eval o X.env := by rfl)
    (hfew : ((backTo cpos (starEach (e :: es) X.env)).all (fun x => !x.1) && (backToKw cpos (keywordEach [] X.env)).all (fun x => x.1.isSome)
      && decide ((e :: es).length + ([] : List Keyword).length + (if ([] : List Keyword).isEmpty then 0 else 1) < 30)) = true := by rfl)
    (hline : (apos.endLine == cpos.line) = true := by rfl) (hs : starEach (e :: es) X.env = (false, eval e X.env) :: starEach es X.env := by rfl) (hplain : (backTo cpos (starEach es X.env)).any (·.1) = false := by rfl) :
    PE X (.Call (.Attribute o name apos) (e :: es) [] cpos) (tBF r to t) := by
  refine ⟨fun pins s σ H Q I h => ?_⟩
  refine wpAny_Call_method_late hbase hfew hline rfl (thn (ho.run pins s σ H _ I h) fun v s1 ⟨x, H1, I1, r1, ty, q1⟩ => ?_)
  obtain ⟨a, xs, rfl, ob, hob, hdn⟩ := ty
  have r1' := r1
  cases r1
  have hk := I1.hok a _ hob
  obtain ⟨its, _, hT, _⟩ := I1.tuple (FT.sq ⟨ob, hob, hdn⟩ : SqT X.K H1 a xs)
  refine ⟨"tuple", id, PySem.F.plainAttrs_tuple, slot, hty, hT.typeIs, fun b eb => ?_, ?_⟩
  · cases eb
    exact ⟨ob, hk.1, hdn⟩
  have hA := ha.run cpos pins s1 σ H1 _ I1 q1
  rw [hs] at hA ⊢
  refine Calls.callWith_builtin (by show (false || (backTo cpos (starEach es X.env)).any (·.1)) = false; rw [hplain] <;> rfl) (Calls.evalArgs_plain ?_)
  exact thn hA fun us s2 ⟨vs, H2, I2, r2, q2⟩ => hm pins s2 σ H2 _ vs _ us Q I2 r1' r2 q2
def rTix (K : PySem.W.Frag) : V → List V → Hp → VK → Prop := fun x xs H Q => ∃ (p : Addr) (ns : List Int) (k : Int), x = .ref p ∧ xs = [.int k] ∧ SqT K H p (ns.map V.int) ∧ k ∈ ns ∧ Q (.int (ns.idxOf k : Nat)) H
theorem mt_tix {X : Cx} : MtR X "tuple.index" (rTix X.K) := by
  intro pins s σ H x xs v us Q I rx rxs h
  obtain ⟨p, ns, k, rfl, rfl, hs, hk, q⟩ := h
  cases rx
  obtain ⟨u, rfl, ru⟩ := rxs.one
  obtain ⟨t, rfl⟩ := ru
  obtain ⟨its, rv, hT, hlen⟩ := I.tuple hs
  exact SeqAt.tuple_index_ints hT (intsAre_of rv) hk ⟨.int (ns.idxOf k : Nat), H, I.tok _, ⟨s.toks, rfl⟩, q⟩
def isT : Dt → Bool
  | .tuple _ => true
  | _ => false
def dTix : Dt → Dt → Option Dt
  | .tuple xs, .int j => match unI xs with
    | some ns => if j ∈ ns then some (.int (ns.idxOf j : Nat)) else none
    | none => none
  | _, _ => none
section
variable {G : Gc} {N : List Str} {sc : Scope} {fn : Str → Bool} {k : Nat} {pos apos cpos p : Pos} {a b c : Expr} {f g h : EF}
theorem se_tix (ha : SE G N sc fn k a f) (hb : SE G N sc fn k b g) (hbase : ∀ env : PySem.Env, attributeBase a "index" env (eval a env) = eval a env := by intro _; rfl) (hline : (apos.endLine == cpos.line) = true := by rfl) (ns : NS b := by intro _ _; rfl) : SE G N sc fn k (.Call (.Attribute a "index" apos) [b] [] cpos) (eMeth isT dTix f g) := fun X C W tk b' =>
  PE.imp (pe_bmF PySem.F.slot_tuple_index PySem.F.type_tuple_index mt_tix (ha X C W tk true) (pa_cons (hb X C W tk true) pa_nil (ns _ X.env)) (hbase X.env) (by
    rw [ns [] X.env]; rfl) hline (ns _ X.env) rfl) fun σ H Q h => by
    obtain ⟨ρ, ow, rs, he, gd, post⟩ := h
    refine tE.go gd he (fun n pl e => by subst e; exact post) fun d hd1 v H1 s1 r1 => ?_
    cases d with
    | tuple xs =>
      rw [if_pos (show isT (.tuple xs) = true from rfl)] at hd1
      obtain ⟨l, vs, rfl, h1, rv⟩ := r1.tuple
      refine ⟨⟨l, vs, rfl, h1⟩, ?_⟩
      refine tE.go (gd.same s1) hd1 (fun n pl e => by subst e; exact post.same s1) fun d2 hd2 v2 H2 s2 r2 => ?_
      unfold dTix at hd2
      split at hd2
      · rename_i e1
        split at hd2
        · rename_i ns hns
          split at hd2
          · rename_i hj
            cases e1
            cases hd2
            obtain rfl := r2.int
            rw [unI_eq hns] at rv
            have e2 := rv.ints
            subst e2
            obtain ⟨o, h1, ho⟩ := h1
            exact ⟨l, ns, _, rfl, rfl, FT.sq ⟨o, s2 _ _ h1, ho⟩, hj, post _ H2 (s1.trans s2) (.inl (.int _))⟩
          · cases hd2
        · cases hd2
      · cases hd2
    | _ => cases hd1
def dTcn : Dt → Dt → Option Dt
  | .tuple xs, y => if y.plain && PyData.plainAll xs && dep y then some (.int ((xs.countP fun z => PyData.eqv z y : Nat) : Int)) else none
  | _, _ => none
def rTcn (K : PySem.W.Frag) : V → List V → Hp → VK → Prop := fun x xs H Q => ∃ y ds d, xs = [y] ∧ Dp K H x (.tuple ds) ∧ Dp K H y d ∧ d.plain = true ∧ PyData.plainAll ds = true ∧ d.depth ≤ 60 ∧ Q (.int ((ds.countP fun z => PyData.eqv z d : Nat) : Int)) H
theorem mt_tcn {X : Cx} (hu : X.A.units + 64 < cLine) : MtR X "tuple.count" (rTcn X.K) := by
  intro pins s σ H x xs v us Q I rx rxs h
  obtain ⟨y, ds, d, rfl, h1, h2, sd, se, hm, q⟩ := h
  obtain ⟨u, rfl, ru⟩ := rxs.one
  obtain ⟨as, r1⟩ := Dp.reads I d y u h2 ru
  obtain ⟨bs, r2⟩ := Dp.reads I _ x v h1 rx
  cases r2 with
  | tuple g1 g2 g3 g4 => exact SeqAt.count_tuple_data ⟨_, g1, g2, _, g3⟩ g4 r1 se sd (by omega) ⟨.int _, H, I.tok _, ⟨s.toks, rfl⟩, q⟩
theorem se_tcn (ha : SE G N sc fn k a f) (hb : SE G N sc fn k b g) (hbase : ∀ env : PySem.Env, attributeBase a "count" env (eval a env) = eval a env := by intro _; rfl) (hline : (apos.endLine == cpos.line) = true := by rfl) (ns : NS b := by intro _ _; rfl) : SE G N sc fn k (.Call (.Attribute a "count" apos) [b] [] cpos) (eMeth isT dTcn f g) := fun X C W tk b' =>
  PE.imp (pe_bmF PySem.F.slot_tuple_count PySem.F.type_tuple_count (mt_tcn C.room.units) (ha X C W tk true) (pa_cons (hb X C W tk true) pa_nil (ns _ X.env)) (hbase X.env) (by
    rw [ns [] X.env]; rfl) hline (ns _ X.env) rfl) fun σ H Q h => by
    obtain ⟨ρ, ow, rs, he, gd, post⟩ := h
    refine tE.go gd he (fun n pl e => by subst e; exact post) fun d hd1 v H1 s1 r1 => ?_
    cases d with
    | tuple xs =>
      rw [if_pos (show isT (.tuple xs) = true from rfl)] at hd1
      obtain ⟨l, vs, ev, h1, rv⟩ := r1.tuple
      refine ⟨⟨l, vs, ev, h1⟩, ?_⟩
      refine tE.go (gd.same s1) hd1 (fun n pl e => by subst e; exact post.same s1) fun d2 hd2 v2 H2 s2 r2 => ?_
      unfold dTcn at hd2
      simp only at hd2
      split at hd2
      · rename_i hc
        cases hd2
        simp only [Bool.and_eq_true, dep, decide_eq_true_eq] at hc
        exact ⟨v2, xs, d2, rfl, (r1.same s2).dp hc.1.2, r2.dp hc.1.1, hc.1.1, hc.1.2, hc.2, post _ H2 (s1.trans s2) (.inl (.int _))⟩
      · cases hd2
    | _ => cases hd1
theorem se_tupR2 {p2 q1 : Pos} (B : Bi G) (ha : SE G N sc fn k a f) (hg : GL sc "tuple" := by rfl) (hg2 : GL sc "range" := by rfl) (ns : NS a := by intro _ _; rfl) : SE G N sc fn k (.Call (.Name "tuple" p) [.Call (.Name "range" p2) [a] [] q1] [] pos) (eUn dTupRg f) := fun X C W tk b' =>
  PE.imp (pe_tupRgF C.calm (C.gl hg) (by rw [C.hmg]; exact B.tuple) (prg_1 (C.gl hg2) (by rw [C.hmg]; exact B.range) (ha X C W tk true) (ns [] X.env))) fun σ H Q h => by
    obtain ⟨ρ, ow, rs, he, gd, post⟩ := h
    refine tE.go gd he (fun n pl e => by subst e; exact post) fun d hd1 v H1 s1 r1 => ?_
    unfold dTupRg at hd1
    split at hd1
    · split at hd1
      · rename_i n hn
        rw [okI_iff] at hn
        cases hd1
        exact ⟨n, r1.int, ⟨by omega, by omega, by omega, by omega, by omega⟩, fun q o hq ho => post _ _ (s1.trans (Same.upd hq)) (.inl (.tup ⟨o, upd_same, ho⟩ (rp_rg n)))⟩
      · cases hd1
    · cases hd1
end
end PT

namespace PT
open PySem PySem.Spec PyProof.Rows L2
/-! ## x.append(y.pop(0) if c else e): two lists of one's own -/
def sAppPop (i j : Nat) (c e : EF) : SF := fun ρ => match ρ[i]?, ρ[j]? with
  | some (some (.own xs)), some (some (.own ys)) => bndS (c true ρ) fun d => (match tru d with
    | some true => (match ys with
      | y :: r => if i ≠ j ∧ xs.length < lim then some (.nx ((ρ.set j (some (.own r))).set i (some (.own (xs ++ [y]))))) else none
      | [] => none)
    | some false => bndS (e false ρ) fun d2 => if xs.length < lim then some (.nx (ρ.set i (some (.own (xs ++ [d2]))))) else none
    | none => none)
  | _, _ => none
section
variable {G : Gc} {N : List Str} {sc : Scope} {fn : Str → Bool} {k : Nat} {pos q1 q2 q3 q4 q5 q6 q7 q8 : Pos} {a b c : Expr} {f g : EF}
theorem ss_appPop (i j : Nat) {x y : Str} {jj : Nat} (hc : ST G N sc fn k c f) (ha : SE G N sc fn k a g) (hN : N[i]? = some x := by rfl) (hv : Vis sc x := by first | exact Or.inl rfl | exact Or.inr (Or.inl rfl) | exact Or.inr (Or.inr rfl)) (hd : (x == ("__debug__" : Str)) = false := by decide) (hcd : (x == ("__classdict__" : Str)) = false := by decide)
    (hN2 : N[j]? = some y := by rfl) (hv2 : Vis sc y := by first | exact Or.inl rfl | exact Or.inr (Or.inl rfl) | exact Or.inr (Or.inr rfl)) (hd2 : (y == ("__debug__" : Str)) = false := by decide) (hcd2 : (y == ("__classdict__" : Str)) = false := by decide)
    (ns : NS (.IfExp c (.Call (.Attribute (.Name y q4) "pop" q5) [.Constant (.int 0) jj q6] [] q7) a q8) := by intro _ _; rfl) (hb : ∀ env : PySem.Env, attributeBase (.Name x q1) "append" env (eval (.Name x q1) env) = eval (.Name x q1) env := by intro _; rfl) (hln : (q2.endLine == q3.line) = true := by rfl)
    (hb2 : ∀ env : PySem.Env, attributeBase (.Name y q4) "pop" env (eval (.Name y q4) env) = eval (.Name y q4) env := by intro _; rfl) (hln2 : (q5.endLine == q7.line) = true := by rfl) :
    SS G N sc fn k (.Expr (.Call (.Attribute (.Name x q1) "append" q2) [.IfExp c (.Call (.Attribute (.Name y q4) "pop" q5) [.Constant (.int 0) jj q6] [] q7) a q8] [] q3) pos) (sAppPop i j f g) := fun X C T W tk hp =>
  PS.imp (ps_expr (pe_bm PySem.F.plainAttrs_list PySem.F.slot_list_append PySem.F.type_list_append mt_append (pe_vr C i hN hv hd hcd)
    (pa_cons (pe_ifExp (hc X C W tk) (pe_bm PySem.F.plainAttrs_list PySem.F.slot_list_pop PySem.F.type_list_pop mt_popAt (pe_vr C j hN2 hv2 hd2 hcd2) (pa_cons pe_int pa_nil rfl) (hb2 X.env) rfl hln2 rfl rfl) (ha X C W tk false)) pa_nil (ns _ X.env)) (hb X.env) (by rw [ns [] X.env]; rfl) hln (ns _ X.env) rfl)) fun D σ H h => by
    obtain ⟨ρ, ow, o, he, gd, post⟩ := h
    unfold sAppPop at he
    split at he
    · rename_i xs ys hx hy
      obtain ⟨a', vs, hs, ho, hH, rv⟩ := own_at gd hx
      obtain ⟨b', ws, hs2, ho2, hH2, rw2⟩ := own_at gd hy
      refine ⟨_, hs, .inl ⟨rfl, vs, SqL.of hH⟩, tT.goS gd he post fun d hd1 => ?_⟩
      split at hd1
      · rename_i ht
        refine ⟨true, ht, fun H1 s1 => ?_⟩
        split at hd1
        · rename_i y0 r
          split at hd1
          · rename_i hz
            cases hd1
            show tBM X.K "list" rPopAt (tVar j) _ σ H1 _
            have hne : a' ≠ b' := fun e => hz.1 (gd.inj i j a' ho (by rw [e]; exact ho2))
            cases rw2 with
            | cons r0 rr =>
              rename_i v0 ws'
              refine ⟨_, hs2, .inl ⟨rfl, _, SqL.of (s1 _ _ hH2)⟩, ?_⟩
              refine ⟨b', v0 :: ws', 0, 0, v0, rfl, rfl, s1 _ _ hH2, by decide, by decide, ?_, rfl, ?_⟩
              · simp [seqIndex?]
              have g1 := (gd.same s1).mut ho2 (RpAll.same s1 rr)
              have e1 : Stp ow H ow (upd H1 b' (.lst ws')) := (Same.stp s1).trans (Ow.mut_stp ho2)
              refine ⟨a', vs, v0, rfl, rfl, by show upd H1 b' (.lst ws') a' = _; rw [upd_ne hne]; exact s1 _ _ hH, by rw [rv.length]; exact Nat.lt_of_lt_of_le hz.2 (by decide), ?_⟩
              refine post ow σ _ (e1.trans (Ow.mut_stp ho)) (g1.mut ho (RpAll.snoc (RpAll.stp gd.ok e1 rv) (Rp.stp gd.ok e1 r0)))
          · cases hd1
        · cases hd1
      · rename_i ht
        refine ⟨false, ht, fun H1 s1 => ?_⟩
        show tE X.K X.mg W false g σ H1 _
        refine tE.goS (gd.same s1) hd1 (post.stp (Same.stp s1)) fun d2 hd2 v2 H2 s2 r2 => ?_
        split at hd2
        · rename_i hz
          cases hd2
          refine ⟨a', vs, v2, rfl, rfl, s2 _ _ (s1 _ _ hH), by rw [rv.length]; exact Nat.lt_of_lt_of_le hz (by decide), ?_⟩
          exact post ow σ _ ((Same.stp (s1.trans s2)).trans (Ow.mut_stp ho)) ((gd.same (s1.trans s2)).mut ho (RpAll.snoc (RpAll.same (s1.trans s2) rv) r2.rp))
        · cases hd2
      · cases hd1
    · cases he
end
end PT

namespace PT
open PySem PySem.Spec PyProof.Rows L2
/-! ## texts: signs, split, int(text), list.index(None) -/
/-- the signs of a text -/
def sgL (z : Str) : List Dt := z.cps.toList.map fun c => .str ⟨#[c]⟩
def iStrF (f : EF) : IF := fun b ρ => bndI (f b ρ) fun x => match x with
  | .str z => some (.it (sgL z))
  | _ => none
section
variable {G : Gc} {N : List Str} {sc : Scope} {fn : Str → Bool} {k : Nat} {pos apos cpos p p2 : Pos} {tg a b c : Expr} {f g h : EF}
theorem wd_str {b : Bool} {K : PySem.W.Frag} {ow : Ow} {H : Hp} {z : Str} : WD .d b K ow H (Its z) (sgL z) := fun ow1 H1 r ok1 => by
  have hl : (sgL z).length = z.cps.size := by unfold sgL; rw [List.length_map, Array.length_toList]
  refine ⟨fun i hi => by rw [hl] at hi; exact hi, by rw [hl]; exact Nat.le_refl _, fun i x H2 hi y => ?_⟩
  obtain ⟨rfl, c, hc, rfl⟩ := y
  refine ⟨Same.refl _, .str ⟨#[c]⟩, ?_, .str _⟩
  unfold sgL
  rw [List.getElem?_map, Array.getElem?_toList, hc]
  rfl
theorem si_str (ha : SE G N sc fn k a f) : SI G N sc fn k .d tg a (iStrF f) := fun X C W tk b =>
  PI.imp (pi_str (ha X C W tk b)) fun σ H R h => by
    obtain ⟨ρ, ow, r, he, gd, post⟩ := h
    refine tE.goI gd he (fun n pl e => by subst e; exact post) fun d hd v H' s' r' => ?_
    split at hd
    · cases hd
      exact ⟨_, r'.str, post _ H' s' wd_str⟩
    · cases hd
/-- int(text) -/
def dIntS : Dt → Option Dt
  | .str z => if z.length ≤ 640 then (PySem.intText? z).map .int else none
  | _ => none
theorem cd_intS (K : PySem.W.Frag) : CD1 K (fun xs H Q => ∃ a n, xs = [.str a] ∧ PySem.intText? a = some n ∧ a.length ≤ 640 ∧ Q (.int n) H) dIntS := by
  intro x H Q ow dx dz ok rx e post
  unfold dIntS at e
  split at e
  · split at e
    · rename_i z hz
      cases h1 : PySem.intText? z with
      | none => rw [h1] at e; cases e
      | some n =>
        rw [h1] at e
        cases e
        obtain rfl := rx.str
        exact ⟨z, n, rfl, h1, hz, post _ H (Same.refl H) (.int _)⟩
    · cases e
  · cases e
theorem se_intS (B : Bi G) (ha : SE G N sc fn k a f) (hg : GL sc "int" := by rfl) (ns : NS a := by intro _ _; rfl) : SE G N sc fn k (.Call (.Name "int" p) [a] [] pos) (eUn dIntS f) :=
  se_t1 (r := fun K xs H Q => ∃ a n, xs = [.str a] ∧ PySem.intText? a = some n ∧ a.length ≤ 640 ∧ Q (.int n) H) (fun X _ => call_int_str) cd_intS B.int PyProof.Rows.boot_int ha hg (by decide) (by decide) ns
/-- text.split(sep) -/
def dSplit : Dt → Dt → Option Dt
  | .str z, .str y => if y.length ≠ 0 ∧ z.length ≤ lim then some (.list ((Txt.split z y).map .str)) else none
  | _, _ => none
theorem rp_strs {K : PySem.W.Frag} {O : Addr → Prop} {H : Hp} : ∀ ys : List Str, RpAll K O H (ys.map V.str) (ys.map PyData.str)
  | [] => .nil
  | y :: ys => .cons (.str y) (rp_strs ys)
theorem se_split (ha : SE G N sc fn k a f) (hb : SE G N sc fn k b g) (hbase : ∀ env : PySem.Env, attributeBase a "split" env (eval a env) = eval a env := by intro _; rfl) (hline : (apos.endLine == cpos.line) = true := by rfl) (ns : NS b := by intro _ _; rfl) : SE G N sc fn k (.Call (.Attribute a "split" apos) [b] [] cpos) (eMeth isStr dSplit f g) := fun X C W tk b' =>
  PE.imp (pe_split (ha X C W tk true) (hb X C W tk true) (ns _ X.env) (hbase X.env) hline) fun σ H Q h => by
    obtain ⟨ρ, ow, rs, he, gd, post⟩ := h
    refine tE.go gd he (fun n pl e => by subst e; exact post) fun d hd1 v H1 s1 r1 => ?_
    cases d with
    | str t =>
      rw [if_pos (show isStr (.str t) = true from rfl)] at hd1
      obtain rfl := r1.str
      refine ⟨⟨t, rfl⟩, ?_⟩
      refine tE.go (gd.same s1) hd1 (fun n pl e => by subst e; exact post.same s1) fun d2 hd2 v2 H2 s2 r2 => ?_
      unfold dSplit at hd2
      split at hd2
      · rename_i z y e1
        split at hd2
        · rename_i hz
          cases e1
          cases hd2
          obtain rfl := r2.str
          refine ⟨t, y, rfl, rfl, by simpa using hz.1, Nat.le_trans (Nat.add_le_add_right hz.2 2) (by decide), fun q hq => post _ _ ((s1.trans s2).trans (Same.upd hq)) (.inl (.lst upd_same ((gd.ok.same (s1.trans s2)).new hq) (rp_strs _)))⟩
        · cases hd2
      · cases hd2
    | _ => cases hd1
/-- list.index(None) -/
def isNI : Dt → Bool
  | .none => true
  | .int _ => true
  | _ => false
def dLix : Dt → Dt → Option Dt
  | .list xs, .none => if xs.all isNI = true ∧ xs.findIdx isN < xs.length then some (.int (xs.findIdx isN : Nat)) else none
  | _, _ => none
theorem ni_flat {K : PySem.W.Frag} {O : Addr → Prop} {H : Hp} : ∀ {vs : List V} {ds : List Dt}, RpAll K O H vs ds → ds.all isNI = true → vs.all flatV = true ∧ ∀ (i : Nat) (v : V) (d : Dt), vs[i]? = some v → ds[i]? = some d → eqV v .non = isN d
  | _, _, .nil, _ => ⟨rfl, fun i v d h _ => by simp at h⟩
  | _, _, .cons h1 h2, ha => by
    rw [List.all_cons, Bool.and_eq_true] at ha
    obtain ⟨q1, q2⟩ := ni_flat h2 ha.2
    have key : ∀ {v : V} {d : Dt}, Rp K O H v d → isNI d = true → flatV v = true ∧ eqV v .non = isN d := fun {v d} r hn => by
      cases r with
      | non => exact ⟨rfl, rfl⟩
      | int i => exact ⟨rfl, rfl⟩
      | _ => cases hn
    obtain ⟨k1, k2⟩ := key h1 ha.1
    refine ⟨by rw [List.all_cons, k1, q1]; rfl, fun i v d hv hd => ?_⟩
    cases i with
    | zero =>
      simp at hv hd
      subst hv hd
      exact k2
    | succ i => exact q2 i v d (by simpa using hv) (by simpa using hd)
theorem se_lix (ha : SE G N sc fn k a f) (hb : SE G N sc fn k b g) (hbase : ∀ env : PySem.Env, attributeBase a "index" env (eval a env) = eval a env := by intro _; rfl) (hline : (apos.endLine == cpos.line) = true := by rfl) (ns : NS b := by intro _ _; rfl) : SE G N sc fn k (.Call (.Attribute a "index" apos) [b] [] cpos) (eMeth isL dLix f g) := fun X C W tk b' =>
  PE.imp (pe_bm PySem.F.plainAttrs_list PySem.F.slot_list_index PySem.F.type_list_index mt_index (ha X C W tk true) (pa_cons (hb X C W tk true) pa_nil (ns _ X.env)) (hbase X.env) (by
    rw [ns [] X.env]; rfl) hline (ns _ X.env) rfl) fun σ H Q h => by
    obtain ⟨ρ, ow, rs, he, gd, post⟩ := h
    refine tE.go gd he (fun n pl e => by subst e; exact post) fun d hd1 v H1 s1 r1 => ?_
    cases d with
    | list xs =>
      rw [if_pos (show isL (.list xs) = true from rfl)] at hd1
      obtain ⟨l, vs, rfl, h1, rv⟩ := r1.list
      refine ⟨.inl ⟨rfl, vs, SqL.of h1⟩, ?_⟩
      refine tE.go (gd.same s1) hd1 (fun n pl e => by subst e; exact post.same s1) fun d2 hd2 v2 H2 s2 r2 => ?_
      unfold dLix at hd2
      split at hd2
      · rename_i ys e1
        split at hd2
        · rename_i hz
          cases e1
          cases hd2
          obtain rfl := r2.none
          obtain ⟨q1, q2⟩ := ni_flat rv hz.1
          have hlen := rv.length
          have hlt : xs.findIdx isN < vs.length := by rw [hlen]; exact hz.2
          refine ⟨l, vs, .non, xs.findIdx isN, vs[xs.findIdx isN], rfl, rfl, SqL.of (s2 _ _ h1), rfl, q1, List.getElem?_eq_getElem hlt, ?_, fun m z' hm hz' => ?_, post _ H2 (s1.trans s2) (.inl (.int _))⟩
          · rw [q2 _ _ _ (List.getElem?_eq_getElem hlt) (List.getElem?_eq_getElem hz.2)]
            exact List.findIdx_getElem (w := hz.2)
          · have hmx : m < xs.length := Nat.lt_trans hm hz.2
            rw [q2 _ _ _ hz' (List.getElem?_eq_getElem hmx)]
            have := List.not_of_lt_findIdx hm
            simpa using this
        · cases hd2
      · cases hd2
    | _ => cases hd1
end
end PT

namespace PT
open PySem PySem.Spec PyProof.Rows L2
/-! ## an own exception class with a field «line» -/
/-- Base.__init__(self, ..), Base an own class without an own __init__ -/
theorem pe_oinit {X : Cx} {x : Str} {B : Addr} {mc : Value} {e : Expr} {es : List Expr} {ta : TA} {p1 p2 pos : Pos} {pl : Sem Bool} (hg : Gl X x) (hm : X.mg x = some (.ref B)) (rd : ClX.CRead X.K B mc)
    (vV : PySem.W.findCls X.K (.ref B) mc "__init__" = some (.val (.builtin "ValueError.__init__"))) (ha : PA X (e :: es) ta) (hdb : (x == ("__debug__" : Str)) = false := by decide)
    (hc : eval (.Call (.Attribute (.Name x p1) "__init__" p2) (e :: es) [] pos) X.env = (do
      let ov ← eval (.Name x p1) X.env
      standAt p2.atName
      let (f, first) ← holding [ov] (getMethod ov "__init__" pl)
      callWith pos f first (backTo pos (starEach (e :: es) X.env)) (backToKw pos (keywordEach [] X.env))) := by rfl)
    (hst : starEach (e :: es) X.env = (false, eval e X.env) :: starEach es X.env := by rfl) (hpl : (backTo pos (starEach es X.env)).any (·.1) = false := by rfl) :
    PE X (.Call (.Attribute (.Name x p1) "__init__" p2) (e :: es) [] pos) (tVeI X.K ta) := by
  refine ⟨fun pins s σ H Q I h => PySem.W.methodCall_KW (pl := pl) (ld_glob I hg hm ?_ hdb) hc⟩
  refine PySem.W.method_cls I.kIn rd.ga (PySem.W.cls_value I.kIn rd.rd vV (by decide +kernel) ?_)
  refine PyProof.Rows.callWith_method1 (first := []) (thn (ha.run pos pins _ σ H _ (I.tok _) h) fun us s1 hh => ?_) hst hpl
  obtain ⟨vs, H1, I1, r1, a, C, ws, ev, hl, T, ea, q⟩ := hh
  subst ev
  cases r1 with
  | cons ra rr =>
    have e0 := ra
    cases e0
    exact oinit_ok T I1 ea (by rw [← Paired.length rr, sizeLine_eq]; omega) fun s' J => ⟨.non, H1, J, rfl, q⟩
/-- what its __init__ keeps: the field is the argument -/
def spPE (K : PySem.W.Frag) : Sp := fun vs H Q _ => ∃ (a C : Addr) (y : V), vs = [.ref a, y] ∧ OexC K C ∧ PySem.W.findIn K (.ref C) "line" = some none ∧ H a = some (exo a C none) ∧
  ∀ dx, H dx = none → dx ≠ a → Q .non (upd (upd H dx (exd dx [(("line" : Str), y)])) a (exo a C (some dx)))
theorem pe_initOk {G : Gc} {base x qual m : Str} {params : Arguments} {scope : Scope} {f : Addr} {fd : FuncData} {B : Addr} {mc : Value} {p1 p2 p3 p4 p5 p6 p7 p8 p9 p10 : Pos} {j : Nat} {pl : PySem.Env → Sem Bool}
    (Fu : FunD G.K x qual params [.Expr (.Call (.Attribute (.Name base p1) "__init__" p2) [.Name "self" p3, .Constant (.str m) j p4] [] p5) p6, .Assign [.Attribute (.Name "self" p7) "line" p8] (.Name "line" p9) p10] scope [] [] f fd)
    (S : FnScope ["self", "line"] ["self", "line"] scope) (hm : G.mg base = some (.ref B)) (rd : ClX.CRead G.K B mc) (vV : PySem.W.findCls G.K (.ref B) mc "__init__" = some (.val (.builtin "ValueError.__init__")))
    (hg : GL scope base := by rfl) (hv : Vis scope "self" := by first | exact Or.inl rfl | exact Or.inr (Or.inl rfl) | exact Or.inr (Or.inr rfl)) (hv2 : Vis scope "line" := by first | exact Or.inl rfl | exact Or.inr (Or.inl rfl) | exact Or.inr (Or.inr rfl)) (hdb : (base == ("__debug__" : Str)) = false := by decide)
    (hc : ∀ env : PySem.Env, eval (.Call (.Attribute (.Name base p1) "__init__" p2) [.Name "self" p3, .Constant (.str m) j p4] [] p5) env = (do
      let ov ← eval (.Name base p1) env
      standAt p2.atName
      let (f, first) ← holding [ov] (getMethod ov "__init__" (pl env))
      callWith p5 f first (backTo p5 (starEach [.Name "self" p3, .Constant (.str m) j p4] env)) (backToKw p5 (keywordEach [] env))) := by intro _; rfl) :
    FnOk G.P G.w G.K G.mg G.base (L2.CX G.P G.w) 1 f fd ["self", "line"] (spPE G.K) := by
  refine Fu.ok S (fun vs H Q E h => by obtain ⟨a, C, y, rfl, _⟩ := h; rfl) fun cdv A outer s H vs Q E hr h => ?_
  refine ⟨_, pss_cons (ps_expr (pe_oinit (mc := mc) hg hm rd vV (pa_cons (pe_var (i := 0) rfl hv) (pa_cons pe_str pa_nil)) hdb (hc _))) (pss_one (ps_ost (pe_var (i := 0) rfl hv) (pe_var (i := 1) rfl hv2))), ?_⟩
  obtain ⟨a, C, y, rfl, T, hno, ha, q⟩ := h
  refine ⟨.ref a, rfl, a, C, [.str m], rfl, by simp, T, ha, ?_⟩
  exact ⟨y, rfl, .ref a, rfl, a, C, rfl, T, hno, .inl ⟨ha, fun dx n ne => q dx n ne⟩⟩
/-- the class: made by its __init__ -/
def PeC (G : Gc) (x : Str) : Prop := ∃ (C fI : Addr) (fd : FuncData), G.mg x = some (.ref C) ∧ OexC G.K C ∧ PySem.W.findIn G.K (.ref C) "__init__" = some (some (.ref fI)) ∧ PySem.W.typeIn G.K (.ref fI) = some (.type "function") ∧ PySem.W.findIn G.K (.ref C) "line" = some none ∧
  Binds G.K fd ["self", "line"] [] ∧ FnOk G.P G.w G.K G.mg G.base (L2.CX G.P G.w) 1 fI fd ["self", "line"] (spPE G.K)
def sRaiseP (x : Str) (f : EF) : SF := fun ρ => bndS (f false ρ) fun d => some (.ex x (some d))
section
variable {G : Gc} {N : List Str} {sc : Scope} {fn : Str → Bool} {k : Nat} {pos p p2 q : Pos} {a b c : Expr} {f g h : EF}
theorem ss_raiseP {x : Str} (E : PeC G x) (ha : SE G N sc fn k a f) (hk : 2 ≤ k := by decide) (hg : GL sc x := by rfl) (hdb : (x == ("__debug__" : Str)) = false := by decide) (ns : NS a := by intro _ _; rfl) :
    SS G N sc fn k (.Raise (some (.Call (.Name x p) [a] [] q)) none pos) (sRaiseP x f) := fun X C T W tk hp => by
  obtain ⟨A, fI, fd, h1, h2, h3, h4, h5, h6, h7⟩ := E
  rw [← C.hP, ← C.hw, ← C.hK, ← C.hmg, ← C.hb] at h7
  rw [← C.hK] at h2 h3 h4 h5 h6
  rw [← C.hmg] at h1
  refine PS.imp (ps_raise C.calm tk (pmk_oex h2 h3 h4 h7 (C.room.mono hk) h6 (dvs := []) .nil (passes_call tk fun _ _ _ _ z => z.elim) (C.gl hg) h1 (pa_cons (ha X C W tk false) pa_nil (ns [] X.env)) hdb (ns [] X.env) rfl)) fun D σ H h => ?_
  obtain ⟨ρ, ow, o, he, gd, post⟩ := h
  refine tE.goS gd he post fun d hd v H1 s1 r1 => ?_
  cases hd
  refine ⟨by simp, fun e he1 => ⟨e, A, v, rfl, h2, h5, upd_same, fun dx hdx hne => ?_⟩⟩
  rw [upd_ne hne] at hdx
  refine ⟨rfl, dx, _, upd_same, by rw [upd_ne hne, upd_same], hdx, ?_⟩
  have sm : Same H1 (upd (del (upd (upd (upd H1 e (exo e A none)) dx (exd dx [(("line" : Str), v)])) e (exo e A (some dx))) e) dx (.xd [(("line" : Str), v)])) := fun b o hb => by
    have hb1 : b ≠ e := ne_of_none hb he1
    have hb2 : b ≠ dx := ne_of_none hb hdx
    rw [upd_ne hb2, del_ne hb1, upd_ne hb1, upd_ne hb2, upd_ne hb1]
    exact hb
  exact post _ _ σ _ h1 (Same.kp (s1.trans sm)) ⟨dx, v, rfl, upd_same, (Rp.same sm r1.rp).noO⟩
end
/-! ### caught: its field, its classes -/
theorem call_isED {X : Cx} {a D : Addr} {d : Option Addr} {oe : Obj} {pn : List (Addr × Obj)} (C : L2.ExcC X.K D) (hz : Zc (.ref D) d oe) (hf : ∃ vs, oe.data = .fields vs) :
    CallR (X.suite a ((a, oe) :: pn)) (.builtin "isinstance") (fun xs H Q => (d = none ∨ ∃ dd fs, d = some dd ∧ H dd = some (.xd fs)) ∧ rIsE X.K D a xs H Q) := by
  intro pins s σ H xs us Q I r h
  obtain ⟨hd0, c, cv, b, rfl, hcv, e, q⟩ := h
  cases r with
  | cons rx rr =>
    cases rr with
    | cons rt rr =>
      cases rr
      cases rx
      have ec := hcv _ rt
      subst ec
      obtain ⟨hget, _⟩ := I.pin (a, oe) (List.mem_append.mpr (.inl List.mem_cons_self))
      obtain ⟨vs, hv⟩ := hf
      have J : ∃ od, PySem.W.InstAt s.heap a oe D od := by
        obtain ⟨oc, od, oda, osl⟩ := oe
        obtain ⟨h1, h2⟩ := hz
        dsimp only at h1 h2 hv
        subst h1 h2 hv
        rcases hd0 with rfl | ⟨dd, fs, rfl, hH⟩
        · exact ⟨none, hget, rfl, rfl, trivial⟩
        · have hx : ObjOk X.prog X.w H s.heap dd (.xd fs) := I.hok dd _ hH
          obtain ⟨mA, hns, _⟩ := hx
          obtain ⟨od, ho, _⟩ := lookIn_ns hns
          exact ⟨some od, hget, rfl, rfl, ho⟩
      obtain ⟨od, J⟩ := J
      have hcl : (PySem.W.clsIn X.K D).isSome = true := by
        obtain ⟨cd, hc, _⟩ := PySem.W.any_some C.hd
        rw [hc]; rfl
      exact PySem.W.kia_one (PySem.W.kitx_exc hcl C.hg C.hk C.hs C.ha C.hn C.ht C.hm) I.kIn J e (fun z => nomatch z) fun tk => ⟨.bl b, H, I.kept (t' := tk) fun _ _ z => z, rfl, q⟩
def scl : Dt → Bool
  | .list _ => false
  | .tuple _ => false
  | .dict _ => false
  | _ => true
theorem Rp.scl {K : PySem.W.Frag} {O O' : Addr → Prop} {H H' : Hp} {v : V} {d : Dt} (r : Rp K O H v d) (h : scl d = true) : Rp K O' H' v d := by
  cases r with
  | non => exact .non
  | bl b => exact .bl b
  | int i => exact .int i
  | str x => exact .str x
  | lst _ _ _ => cases h
  | tup _ _ => cases h
  | scr _ => cases h
  | sht _ _ _ _ _ _ _ _ => cases h
/-- «except x as e: return [A, e.line] if isinstance(e, P) and not isinstance(e, Q) else [B]» -/
def sTryP (E : EMT) (x P Q A B : Str) (g : SF) : SF := fun ρ => match g ρ with
  | some (.ex n pl) => (match em E n x with
    | some true => (match em E n P, em E n Q, pl with
      | some b1, some b2, some d => if scl d = true then some (.rt (if b1 && !b2 then .list [.str A, d] else .list [.str B])) else none
      | _, _, _ => none)
    | some false => some (.ex n pl)
    | none => none)
  | y => y
theorem em_pe {G : Gc} {E : EMT} (hE : EmOk G E) {n x : Str} {b : Bool} (h : em E n x = some b) {cls : Value} (hc : G.mg n = some cls) : ∃ C D, cls = .ref C ∧ G.mg x = some (.ref D) ∧ PySem.W.exmOne G.K (.ref C) (.ref D) = some b ∧ PySem.W.kitOne G.K (.ref C) (.ref D) = some b ∧ L2.ExcC G.K C := by
  obtain ⟨C, D, m1, m2, x1, x2, xc⟩ := em_rel hE h
  rw [m1] at hc
  cases hc
  exact ⟨C, D, rfl, m2, x1, x2, xc⟩
section
variable {G : Gc} {N : List Str} {sc : Scope} {fn : Str → Bool} {k : Nat} {E : EMT} {g : SF} {body : List Stmt} {e x P Q A Bs : Str} {pos np hp p1 p2 p3 p4 p5 p6 p7 p8 p9 p10 p11 p12 p13 p14 p15 p16 p17 p18 : Pos} {j1 j2 : Nat}
theorem ss_tryP (hE : EmOk G E) (B : Bi G) (i : Nat) (hno : ∀ n C, em E n x = some true → G.mg n = some (.ref C) → PySem.W.findIn G.K (.ref C) "line" = some none) (hxD : ∃ C, G.mg x = some (.ref C)) (hb : SB G N sc fn k body g)
    (hi : N[i]? = some e := by rfl) (hln : sc.names.lookup e = some .local := by rfl) (hv : Vis sc e := by exact Or.inl rfl) (hd : (e == ("__debug__" : Str)) = false := by decide) (hcd : (e == ("__classdict__" : Str)) = false := by decide)
    (hgx : GL sc x := by rfl) (hdx : (x == ("__debug__" : Str)) = false := by decide)
    (hgi : GL sc "isinstance" := by rfl) (hgP : GL sc P := by rfl) (hgQ : GL sc Q := by rfl) (hdP : (P == ("__debug__" : Str)) = false := by decide) (hdQ : (Q == ("__debug__" : Str)) = false := by decide) :
    SS G N sc fn k (.Try body [.ExceptHandler (some (.Name x np)) (some e) [.Return (some (.IfExp (.BoolOp .And [.Call (.Name "isinstance" p1) [.Name e p2, .Name P p3] [] p4, .UnaryOp .Not (.Call (.Name "isinstance" p5) [.Name e p6, .Name Q p7] [] p8) p9] p10)
      (.List [.Constant (.str A) j1 p11, .Attribute (.Name e p15) "line" p16] p17) (.List [.Constant (.str Bs) j2 p12] p18) p13)) p14] hp] [] [] pos) (sTryP E x P Q A Bs g) := fun X C T W tk hpo => by
  obtain ⟨Dx, hDx⟩ := hxD
  have hgl : ∀ {a : Addr} {pn : List (Addr × Obj)} {x : Str}, GL sc x → Gl (X.suite a pn) x := fun {a pn x} h => by
    show X.env.scope.names.lookup x = _
    rw [C.hsc]; exact h
  let ts : Addr → Value → Option Addr → TS := fun a cls d De σ H => ∃ (C1 D1 D2 : Addr) (b1 b2 : Bool) (dd : Addr) (v : V), cls = .ref C1 ∧ d = some dd ∧ L2.ExcC X.K C1 ∧ PySem.W.findIn X.K (.ref C1) "line" = some none ∧ X.mg P = some (.ref D1) ∧ X.mg Q = some (.ref D2) ∧ PySem.W.kitOne X.K (.ref C1) (.ref D1) = some b1 ∧ PySem.W.kitOne X.K (.ref C1) (.ref D2) = some b2 ∧
    σ[i]? = some (some (.ref a)) ∧ H dd = some (.xd [(("line" : Str), v)]) ∧ ∀ p, H p = none → De.rt (.ref p) (upd H p (.lst (if b1 && !b2 then [.str A, v] else [.str Bs])))
  have hsu : ∀ (a : Addr) (oe : Obj) (cls : Value) (d : Option Addr) (pn : List (Addr × Obj)), Zc cls d oe → (∃ vs, oe.data = .fields vs) → PSs (X.suite a ((a, oe) :: pn)) [.Return (some (.IfExp (.BoolOp .And [.Call (.Name "isinstance" p1) [.Name e p2, .Name P p3] [] p4, .UnaryOp .Not (.Call (.Name "isinstance" p5) [.Name e p6, .Name Q p7] [] p8) p9] p10)
      (.List [.Constant (.str A) j1 p11, .Attribute (.Name e p15) "line" p16] p17) (.List [.Constant (.str Bs) j2 p12] p18) p13)) p14] (ts a cls d) := by
    intro a oe cls d pn hz hfl
    refine ⟨fun pins s σ H De I h => ?_⟩
    obtain ⟨C1, D1, D2, b1, b2, dd, v, rfl, rfl, hC, hln0, mP, mQ, k1, k2, hσ, hH, hrt⟩ := h
    have hmi : (X.suite a ((a, oe) :: pn)).mg "isinstance" = none := by show X.mg _ = none; rw [C.hmg]; exact B.isinstance
    have pv : ∀ q : Pos, PE (X.suite a ((a, oe) :: pn)) (.Name e q) (tVar i) := fun q => pe_var (by show X.N[i]? = _; rw [C.hN]; exact hi) (by show Vis X.env.scope e; rw [C.hsc]; exact hv) hd hcd
    have pP : ∀ q : Pos, PE (X.suite a ((a, oe) :: pn)) (.Name P q) (tC (.ref D1)) := fun q => pe_glob (hgl hgP) mP rfl hdP
    have pQ : ∀ q : Pos, PE (X.suite a ((a, oe) :: pn)) (.Name Q q) (tC (.ref D2)) := fun q => pe_glob (hgl hgQ) mQ rfl hdQ
    have c1 : PE (X.suite a ((a, oe) :: pn)) (.Call (.Name "isinstance" p1) [.Name e p2, .Name P p3] [] p4) _ := pe_callB (call_isED hC hz hfl) (hgl hgi) hmi boot_isinstance (pa_cons (pv p2) (pa_cons (pP p3) pa_nil))
    have c2 : PE (X.suite a ((a, oe) :: pn)) (.Call (.Name "isinstance" p5) [.Name e p6, .Name Q p7] [] p8) _ := pe_callB (call_isED hC hz hfl) (hgl hgi) hmi boot_isinstance (pa_cons (pv p6) (pa_cons (pQ p7) pa_nil))
    have c3 : PE (X.suite a ((a, oe) :: pn)) (.Attribute (.Name e p15) "line" p16) _ := pe_xf ⟨hC.hg, hC.hk, hC.hs, hC.hd⟩ hln0 hz hfl (pv p15)
    have all := pss_one (ps_ret (pos := p14) (pe_ifExp (pos := p13) (pw_and (pos := p10) (pt_val c1) (pw_and1 (pt_not (pos := p9) (pt_val c2)))).pt (pe_lst (pos := p17) (pa_cons (pe_str (x := A) (j := j1) (pos := p11)) (pa_cons c3 pa_nil))) (pe_lst (pos := p18) (pa_cons (pe_str (x := Bs) (j := j2) (pos := p12)) pa_nil))))
    refine all.run pins s σ H De I ?_
    have hp0 : (some dd = none ∨ ∃ dd' fs, some dd = some dd' ∧ H dd' = some (.xd fs)) := .inr ⟨dd, _, rfl, hH⟩
    refine ⟨.ref a, hσ, hp0, .ref D1, .ref D1, b1, rfl, fun u hu => hu, k1, b1, rfl, ?_⟩
    cases b1 with
    | false => exact ⟨by show 1 ≤ sizeLine; rw [sizeLine_eq]; omega, hrt⟩
    | true =>
      rw [if_pos rfl]
      refine ⟨.ref a, hσ, hp0, .ref D2, .ref D2, b2, rfl, fun u hu => hu, k2, b2, rfl, ?_⟩
      cases b2 with
      | true => exact ⟨by show 1 ≤ sizeLine; rw [sizeLine_eq]; omega, hrt⟩
      | false => exact ⟨.ref a, hσ, rfl, rfl, dd, _, v, rfl, hH, rfl, by show 2 ≤ sizeLine; rw [sizeLine_eq]; omega, hrt⟩
  refine PS.imp (ps_tryAs (l := [(.ref Dx, i, ts)]) (tb := fun W => tS X.K X.mg W g) T.stk T.fr (by rw [C.hN]; exact C.nd) tk (fun W' pn xe tk' hp' => hb (X.tr pn xe) ⟨C.hP, C.hw, C.hK, C.hmg, C.hb, C.hN, C.nd, C.hsc, C.hfn, C.calm, C.room⟩ ⟨T.stk, T.fr⟩ W' tk' hp')
    (.cons (by rw [C.hN]; exact hi) (by show X.env.scope.names.lookup e = _; rw [C.hsc]; exact hln) ⟨C.gl hgx, hdx, .inl (by rw [C.hmg]; exact hDx)⟩ hsu .nil)) fun D σ H h => ?_
  obtain ⟨ρ, ow, o, he, gd, post⟩ := h
  unfold sTryP at he
  cases hg : g ρ with
  | none => rw [hg] at he; cases he
  | some o1 =>
    rw [hg] at he
    refine ⟨ρ, ow, o1, hg, gd, ?_⟩
    cases o1 with
    | nx ρ' => cases he; exact post
    | rt d => cases he; exact post
    | ex n pl =>
      simp only at he
      intro cls d σ' H' hc kp pk
      cases he1 : em E n x with
      | none => rw [he1] at he; cases he
      | some b =>
        rw [he1] at he
        obtain ⟨C1, D1, rfl, m1, x1, _, xc⟩ := em_pe hE he1 (by rw [← C.hmg]; exact hc)
        rw [hDx] at m1
        cases m1
        refine ⟨b, by rw [C.hK]; exact x1, fun hbt hlt a na => ?_, fun hbf => ?_⟩
        · subst hbt
          simp only at he
          split at he
          · rename_i b1 b2 dd hP hQ
            split at he
            · rename_i hs
              cases he
              obtain ⟨C2, D2, e2, m2, _, y2, _⟩ := em_pe hE hP (by rw [← C.hmg]; exact hc)
              cases e2
              obtain ⟨C3, D3, e3, m3, _, y3, _⟩ := em_pe hE hQ (by rw [← C.hmg]; exact hc)
              cases e3
              obtain ⟨da, v, rfl, hH, rv⟩ := pk
              refine ⟨C1, D2, D3, b1, b2, da, v, rfl, rfl, by rw [C.hK]; exact xc, by rw [C.hK]; exact hno n C1 he1 (by rw [← C.hmg]; exact hc), by rw [C.hmg]; exact m2, by rw [C.hmg]; exact m3, by rw [C.hK]; exact y2, by rw [C.hK]; exact y3, List.getElem?_set_self hlt, hH, fun p hp0 => ?_⟩
              have nx : ¬ ow.x p := fun q => kp.dom p (gd.ok.ext p q) hp0
              have kp2 : Kp ow H (upd H' p (.lst (if (b1 && !b2) = true then [.str A, v] else [.str Bs]))) := ⟨fun a o h1 h2 => by
                have z := kp.keep a o h1 h2
                rw [upd_ne (ne_of_none z hp0)]; exact z, fun a h1 => by
                have z := kp.dom a h1
                by_cases ha : a = p
                · subst ha; exact absurd hp0 z
                · rw [upd_ne ha]; exact z⟩
              refine post _ _ kp2 ?_
              cases hbb : (b1 && !b2) with
              | true => exact .lst upd_same nx (.cons (.str _) (.cons (rv.scl hs) .nil))
              | false => exact .lst upd_same nx (.cons (.str _) .nil)
            · cases he
          · cases he
        · subst hbf
          cases he
          exact post _ _ σ' H' hc kp pk
end
end PT

namespace PT
open PySem PySem.Spec PyProof.Rows L2
/-! ## a hook that sees the statics, too -/
def obsQG (n : Nat) (fa : List He.Fa) (fn : List He.DefD) (chk : PySem.W.Frag → Bool) (g : Addr → Option Obj) : He.AlD := obsP fa fn chk (He.frG g (cStatics :: He.asD g n))
def hookQ (n : Nat) (fa : List He.Fa) (fn : List He.DefD) (chk : PySem.W.Frag → Bool) : PySem.W.Hook where
  α := He.AlD
  obs := fun s => obsQG n fa fn chk s.heap.get?
  val := fun _ => He.valD fn
  says := fun _ h => ∃ K : PySem.W.Frag, K.In h ∧ SaysP fa fn chk K
  of := fun _ _ e => ⟨_, He.frG_in, e⟩
  keeps := fun _ _ _ ⟨K, hK, c⟩ k => ⟨K, PySem.W.Frag.In.keeps hK k, c⟩
theorem obsQG_eq {n : Nat} {fa : List He.Fa} {fn : List He.DefD} {chk : PySem.W.Frag → Bool} {g : Addr → Option Obj} {s : Shared} (h : ∀ a, g a = s.heap.get? a) : obsQG n fa fn chk g = (hookQ n fa fn chk).obs s := by
  have e : g = s.heap.get? := funext h
  rw [e]
  rfl
/-! ## what the head checks of an own exception class with __init__ -/
def oexL (K : PySem.W.Frag) (C : Addr) : Bool := match K.lookup C with
  | some ⟨.type "type", _, .cls cd, sl⟩ => (match cd.mro, sl.toList with
    | .ref D :: bm, [_, _, _, _, some (.builtin n), _] => decide (D = C) && (decide (n = "ValueError.__new__") && (!cd.hasDel && (cd.hasDict && PySem.HandSPX.refsVE bm)))
    | _, _ => false)
  | _ => false
def oexB (K : PySem.W.Frag) (C : Addr) : Bool := oexL K C && (He.eqO (PySem.W.findIn K (.ref C) "__setattr__") (some (some (.builtin "object.__setattr__"))) && (decide (PySem.W.subIn K (.ref C) (.type "BaseException") = some true) && (decide (PySem.W.typeIn K (.ref C) = some (.type "type")) && PySem.W.keepIn K (.ref C))))
theorem oexB_ok {K : PySem.W.Frag} {C : Addr} (h : oexB K C = true) : OexC K C := by
  unfold oexB at h
  simp only [Bool.and_eq_true, decide_eq_true_eq] at h
  obtain ⟨h0, h1, h2, h3, h4⟩ := h
  refine ⟨?_, He.eqO_ok h1, h2, h3, h4⟩
  unfold oexL at h0
  split at h0
  · rename_i dd cd sl ho
    split at h0
    · rename_i D bm k0 k1 k2 k3 n k5 hm hs
      simp only [Bool.and_eq_true, decide_eq_true_eq, Bool.not_eq_true'] at h0
      obtain ⟨e1, e2, e3, e4, e5⟩ := h0
      subst e1 e2
      obtain ⟨nm, bs, mro, ns, qn, hd, sn, sub, ab, col, dl⟩ := cd
      dsimp only at hm e3 e4
      subst hm e3 e4
      have q : sl = #[k0, k1, k2, k3, some (.builtin "ValueError.__new__"), k5] := Array.toList_inj.mp hs
      subst q
      exact ⟨nm, qn, ns, bs, bm, sn, sub, ab, col, dd, k0, k1, k2, k3, k5, ho, e5⟩
    · cases h0
  · cases h0
/-- the class x with its own __init__, over the class b without one -/
def peB (K : PySem.W.Frag) (x b : Str) : Bool := He.eqO (PySem.W.nsIn K mainGlobals x) (some (some (.ref (He.ga K x)))) && (He.eqO (PySem.W.nsIn K mainGlobals b) (some (some (.ref (He.ga K b)))) && (oexB K (He.ga K x) &&
  (He.eqO (PySem.W.findIn K (.ref (He.ga K x)) "__init__") (some (some (.ref (He.ma K (He.ga K x) "__init__")))) && (decide (PySem.W.typeIn K (.ref (He.ma K (He.ga K x) "__init__")) = some (.type "function")) && (He.eqO (PySem.W.findIn K (.ref (He.ga K x)) "line") (some none) &&
  (PySem.W.readsIn K (He.ga K b) (.type "type") && (He.eqO (PySem.W.specialIn K (.ref (He.ga K b)) "__getattribute__") (some (some (.builtin "type.__getattribute__"))) && (match PySem.W.findCls K (.ref (He.ga K b)) (.type "type") "__init__" with
    | some (.val v) => decide (v = .builtin "ValueError.__init__")
    | _ => false))))))))
structure PeF (K : PySem.W.Frag) (mg : Str → Option Value) (x b : Str) : Prop where
  mx : mg x = some (.ref (He.ga K x))
  mb : mg b = some (.ref (He.ga K b))
  ox : OexC K (He.ga K x)
  ini : PySem.W.findIn K (.ref (He.ga K x)) "__init__" = some (some (.ref (He.ma K (He.ga K x) "__init__")))
  ty : PySem.W.typeIn K (.ref (He.ma K (He.ga K x) "__init__")) = some (.type "function")
  no : PySem.W.findIn K (.ref (He.ga K x)) "line" = some none
  rd : ClX.CRead K (He.ga K b) (.type "type")
  vV : PySem.W.findCls K (.ref (He.ga K b)) (.type "type") "__init__" = some (.val (.builtin "ValueError.__init__"))
theorem peB_ok {K : PySem.W.Frag} {h : Heap} {mg : Str → Option Value} {x b : Str} (X : K.In h) (G : h.Ns mainGlobals mg) (c : peB K x b = true) : PeF K mg x b := by
  unfold peB at c
  simp only [Bool.and_eq_true, decide_eq_true_eq] at c
  obtain ⟨c1, c2, c3, c4, c5, c6, c7, c8, c9⟩ := c
  refine ⟨PySem.W.mg_of X G (He.eqO_ok c1), PySem.W.mg_of X G (He.eqO_ok c2), oexB_ok c3, He.eqO_ok c4, c5, He.eqO_ok c6, ⟨c7, He.eqO_ok c8⟩, ?_⟩
  split at c9
  · rename_i v hv
    rw [hv, of_decide_eq_true c9]
  · cases c9
theorem PeF.peC {G : Gc} {x b : Str} {fd : FuncData} (F : PeF G.K G.mg x b) (hb : Binds G.K fd ["self", "line"] []) (hf : FnOk G.P G.w G.K G.mg G.base (L2.CX G.P G.w) 1 (He.ma G.K (He.ga G.K x) "__init__") fd ["self", "line"] (spPE G.K)) : PeC G x :=
  ⟨_, _, fd, F.mx, F.ox, F.ini, F.ty, F.no, hb, hf⟩
theorem em_self {E : EMT} {n x : Str} (h : (E.all fun t => !(t.2.1 == x && t.2.2) || t.1 == x) = true) (e : em E n x = some true) : n = x := by
  unfold em at e
  cases q : E.find? fun t => t.1 == n && t.2.1 == x with
  | none => rw [q] at e; cases e
  | some t =>
    rw [q] at e
    have e2 : t.2.2 = true := Option.some.inj e
    have h1 := List.find?_some q
    rw [Bool.and_eq_true] at h1
    have h3 := List.all_eq_true.mp h t (List.mem_of_find?_eq_some q)
    rw [h1.2, e2] at h3
    simp only [Bool.and_self, Bool.not_true, Bool.false_or] at h3
    have a1 : t.1 = n := by simpa using h1.1
    have a2 : t.1 = x := by simpa using h3
    rw [← a1, a2]
theorem PeC.no {G : Gc} {E : EMT} {x : Str} (P : PeC G x) (h : (E.all fun t => !(t.2.1 == x && t.2.2) || t.1 == x) = true) : ∀ n C, em E n x = some true → G.mg n = some (.ref C) → PySem.W.findIn G.K (.ref C) "line" = some none := fun n C e hm => by
  obtain ⟨A, _, _, h1, _, _, _, h5, _⟩ := P
  rw [em_self h e, h1] at hm
  cases hm
  exact h5
theorem PeC.cls {G : Gc} {x : Str} (P : PeC G x) : ∃ C, G.mg x = some (.ref C) := let ⟨A, _, _, h1, _⟩ := P; ⟨A, h1⟩
/-- a method of a class: the statement of its def -/
def mth (c : Stmt) (i : Nat) : Stmt := match c with
  | .ClassDef _ _ _ body _ _ _ _ _ _ _ => body.getD i (.Pass ⟨0, 0, 0, 0⟩)
  | _ => .Pass ⟨0, 0, 0, 0⟩
end PT

namespace PT
open PySem PySem.Spec PyProof.Rows L2
/-! ## sheets as data: fields, methods -/
/-- more of the class Sheet -/
structure ShX (K : PySem.W.Frag) : Prop where
  na : ∀ f ∈ (["modulus", "entries", "history"] : List Str), NoAttr K (He.ga K "Sheet") f
  me : PySem.W.kitOne K (.ref (He.ga K "Sheet")) (.ref (He.ga K "Sheet")) = some true
  noC : ∀ T ∈ ["NoneType", "bool", "int", "str", "list", "tuple"], PySem.W.kitOne K (.type T) (.ref (He.ga K "Sheet")) = some false
def dMdl : Dt → Option Dt
  | .dict [(.none, .tuple [.int m, .list _, .list _])] => some (.int m)
  | _ => none
def dEnt : Dt → Option Dt
  | .dict [(.none, .tuple [.int _, .list es, .list _])] => some (.list es)
  | _ => none
def dHis : Dt → Option Dt
  | .dict [(.none, .tuple [.int _, .list _, .list hs])] => some (.list hs)
  | _ => none
theorem Rp.shOut {K : PySem.W.Frag} {O : Addr → Prop} {H : Hp} {v : V} {m : Int} {es hs : List Dt} (r : Rp K O H v (.dict [(.none, .tuple [.int m, .list es, .list hs])])) :
    ∃ a e h vs ws, v = .ref a ∧ ShF K H a m e h ∧ H e = some (.lst vs) ∧ H h = some (.lst ws) ∧ ¬ O a ∧ ¬ O e ∧ ¬ O h ∧ RpAll K O H vs es ∧ RpAll K O H ws hs := by
  generalize hd : (PyData.dict [(.none, .tuple [.int m, .list es, .list hs])]) = d at r
  cases r with
  | sht f he hh n1 n2 n3 r1 r2 =>
    cases hd
    exact ⟨_, _, _, _, _, rfl, f, he, hh, n1, n2, n3, r1, r2⟩
  | @scr a ns h =>
    exfalso
    cases ns with
    | nil => cases hd
    | cons i ns => cases hd
  | _ => cases hd
/-- a field -/
def eFl (op : Dt → Option Dt) (f : EF) : EF := fun _ ρ => bnd (f false ρ) fun x => (op x).map .val
section
variable {G : Gc} {N : List Str} {sc : Scope} {fn : Str → Bool} {k : Nat} {pos apos p p2 : Pos} {a b c : Expr} {es : List Expr} {f g h : EF} {ar : AF}
theorem se_mdl (B : Bi G) (S : ShX G.K) (ha : SE G N sc fn k a f) (hb : ∀ env : PySem.Env, attributeBase a "modulus" env (eval a env) = eval a env := by intro _; rfl) : SE G N sc fn k (.Attribute a "modulus" pos) (eFl dMdl f) := fun X C W tk b' =>
  PE.imp (pe_fld (ha X C W tk false) (hb X.env)) fun σ H Q h => by
    obtain ⟨ρ, ow, rs, he, gd, post⟩ := h
    refine tE.go gd he (fun n pl e => by subst e; exact post) fun d hd v H1 s1 r1 => ?_
    unfold dMdl at hd
    split at hd
    · cases hd
      obtain ⟨a, e, h, vs, ws, rfl, ⟨dx, fs, q1, _, q2, _⟩, _⟩ := r1.rp.shOut
      exact ⟨a, _, dx, fs, _, rfl, q1, by rw [C.hK]; exact B.sht.cl, by rw [C.hK]; exact S.na _ (by decide), q2, post _ H1 s1 (.inl (.int _))⟩
    · cases hd
theorem se_ent (B : Bi G) (S : ShX G.K) (ha : SE G N sc fn k a f) (hb : ∀ env : PySem.Env, attributeBase a "entries" env (eval a env) = eval a env := by intro _; rfl) : SE G N sc fn k (.Attribute a "entries" pos) (eFl dEnt f) := fun X C W tk b' =>
  PE.imp (pe_fld (ha X C W tk false) (hb X.env)) fun σ H Q h => by
    obtain ⟨ρ, ow, rs, he, gd, post⟩ := h
    refine tE.go gd he (fun n pl e => by subst e; exact post) fun d hd v H1 s1 r1 => ?_
    unfold dEnt at hd
    split at hd
    · cases hd
      obtain ⟨a, e, h, vs, ws, rfl, ⟨dx, fs, q1, _, _, q2, _⟩, he, _, _, ne, _, r2, _⟩ := r1.rp.shOut
      exact ⟨a, _, dx, fs, _, rfl, q1, by rw [C.hK]; exact B.sht.cl, by rw [C.hK]; exact S.na _ (by decide), q2, post _ H1 s1 (.inl (.lst he ne r2))⟩
    · cases hd
theorem se_his (B : Bi G) (S : ShX G.K) (ha : SE G N sc fn k a f) (hb : ∀ env : PySem.Env, attributeBase a "history" env (eval a env) = eval a env := by intro _; rfl) : SE G N sc fn k (.Attribute a "history" pos) (eFl dHis f) := fun X C W tk b' =>
  PE.imp (pe_fld (ha X C W tk false) (hb X.env)) fun σ H Q h => by
    obtain ⟨ρ, ow, rs, he, gd, post⟩ := h
    refine tE.go gd he (fun n pl e => by subst e; exact post) fun d hd v H1 s1 r1 => ?_
    unfold dHis at hd
    split at hd
    · cases hd
      obtain ⟨a, e, h, vs, ws, rfl, ⟨dx, fs, q1, _, _, _, q2, _⟩, _, hh, _, _, nh, _, r2⟩ := r1.rp.shOut
      exact ⟨a, _, dx, fs, _, rfl, q1, by rw [C.hK]; exact B.sht.cl, by rw [C.hK]; exact S.na _ (by decide), q2, post _ H1 s1 (.inl (.lst hh nh r2))⟩
    · cases hd
/-! ### methods that only read -/
/-- the method of that name computes F, at level j -/
def MtIs (G : Gc) (m : Str) (j n : Nat) (F : List Dt → Option Rs) : Prop :=
  ∃ f fd ps, Meth G.K (He.ga G.K "Sheet") m f ∧ Binds G.K fd ps [] ∧ ps.length = n ∧ FnOk G.P G.w G.K G.mg G.base (L2.CX G.P G.w) j f fd ps (spF G.K G.mg n F)
theorem mt_is {G : Gc} {m x qual : Str} {params : Arguments} {body : List Stmt} {scope : Scope} {f : Addr} {fd : FuncData} {N ps : List Str} {k : Nat} {g : SF} {F : List Dt → Option Rs} (hm : Meth G.K (He.ga G.K "Sheet") m f) (Fu : FunD G.K x qual params body scope [] [] f fd) (S : FnScope N ps scope) (hb : Binds G.K fd ps [])
    (hB : SB G N scope (fun x => true) k body g) (hF : ∀ ds r, ds.length = ps.length → F ds = some r → runB N.length g ds = some r) : MtIs G m (k + 1) ps.length F :=
  ⟨f, fd, ps, hm, hb, rfl, fn_okD Fu S hB hF⟩
end
section
variable {X : Cx} {CX : CXT} {k : Nat} {f C : Addr} {fd : FuncData} {ps : List Str} {sp : Sp} {E : L2.St → XK} {m : Str} {pos apos : Pos} {e o : Expr} {es : List Expr} {ta : TE} {t : TA}
def tMt (C : Addr) (m : Str) (sp : Sp) (E : L2.St → XK) (ta : TE) (t : TA) : TE := fun σ H Q => ta σ H fun x H1 => ∃ a dx fs, x = .ref a ∧ H1 a = some (.ins C dx fs) ∧ fs.lookup m = none ∧ t σ H1 fun vs H2 => sp (x :: vs) H2 Q (E σ)
theorem pe_mtS {pl : Sem Bool} (he : PE X o ta) (c : Cls X.K C) (hm : Meth X.K C m f) (F : FnOk X.prog X.w X.K X.mg X.base CX k f fd ps sp) (hr : Room k X.A) (hb : Binds X.K fd ps []) (hx : ∀ σ, PassesAt CX X σ (E σ)) (ha : PA X (e :: es) t)
    (hst : starEach (e :: es) X.env = (false, eval e X.env) :: starEach es X.env) (hpl : (backTo pos (starEach es X.env)).any (·.1) = false)
    (ht : eval (.Call (.Attribute o m apos) (e :: es) [] pos) X.env = (do
      let ov ← eval o X.env
      standAt apos.atName
      let (f, first) ← holding [ov] (getMethod ov m pl)
      callWith pos f first (backTo pos (starEach (e :: es) X.env)) (backToKw pos (keywordEach [] X.env)))) :
    PE X (.Call (.Attribute o m apos) (e :: es) [] pos) (tMt C m sp E ta t) := by
  refine ⟨fun pins s σ H Q I h => PySem.W.methodCall_KW (pl := pl) (thn (he.run pins s σ H _ I h) fun u s1 hh => ?_) ht⟩
  obtain ⟨x, H1, I1, rx, a, dx, fs, ex, ea, l, q⟩ := hh
  subst ex
  have e0 := rx
  cases e0
  refine getmeth_ok I1 ea c hm l (PySem.W.callWith_K (first := [.ref a]) (h₀ := X.base) I.ok.mod.kin hm.kp (thn (ha.run pos pins s1 σ H1 _ I1 q) fun us s2 hh => ?_) hst hpl)
  obtain ⟨vs, H2, I2, r, q2⟩ := hh
  exact ⟨I2.kIn, run_fnS (us := .ref a :: us) (vs := .ref a :: vs) F hr hb (hx σ) I2 (.cons rfl r) q2⟩
theorem pe_mtS0 {pl : Sem Bool} (he : PE X o ta) (c : Cls X.K C) (hm : Meth X.K C m f) (F : FnOk X.prog X.w X.K X.mg X.base CX k f fd ps sp) (hr : Room k X.A) (hb : Binds X.K fd ps []) (hx : ∀ σ, PassesAt CX X σ (E σ))
    (ht : eval (.Call (.Attribute o m apos) [] [] pos) X.env = (do
      let ov ← eval o X.env
      standAt apos.atName
      let (f, first) ← holding [ov] (getMethod ov m pl)
      callWith pos f first (backTo pos (starEach [] X.env)) (backToKw pos (keywordEach [] X.env)))) :
    PE X (.Call (.Attribute o m apos) [] [] pos) (tMt C m sp E ta tNil) := by
  refine ⟨fun pins s σ H Q I h => PySem.W.methodCall_KW (pl := pl) (thn (he.run pins s σ H _ I h) fun u s1 hh => ?_) ht⟩
  obtain ⟨x, H1, I1, rx, a, dx, fs, ex, ea, l, q⟩ := hh
  subst ex
  have e0 := rx
  cases e0
  exact getmeth_ok I1 ea c hm l (PySem.W.callWith_K0 (first := [.ref a]) I1.kIn hm.kp (run_fnS (us := [.ref a]) (vs := [.ref a]) F hr hb (hx σ) I1 (.cons rfl .nil) q))
end
/-- what stands alone: no list in it -/
def eMt0 (F : List Dt → Option Rs) (f : EF) : EF := fun _ ρ => bnd (f false ρ) fun x => if isSht x = true then F [x] else none
def eMt (n : Nat) (F : List Dt → Option Rs) (f : EF) (g : AF) : EF := fun _ ρ => bnd (f false ρ) fun x => if isSht x = true then bndA (g ρ) fun ds => if ds.length + 1 = n then F (x :: ds) else none else none
theorem Rp.isSh {K : PySem.W.Frag} {O : Addr → Prop} {H : Hp} {v : V} {d : Dt} (r : Rp K O H v d) (h : isSht d = true) : ∃ (a : Addr) (m : Int) (e1 h1 : Addr), v = .ref a ∧ ShF K H a m e1 h1 := by
  cases r with
  | scr _ => rw [show isSht _ = !isScr _ from rfl, isScr_map] at h; cases h
  | sht f _ _ _ _ _ _ _ => exact ⟨_, _, _, _, rfl, f⟩
  | _ => cases h
section
variable {G : Gc} {N : List Str} {sc : Scope} {fn : Str → Bool} {k : Nat} {pos apos p p2 : Pos} {a b c : Expr} {es : List Expr} {f g h : EF} {ar : AF}
theorem se_mt0 {m : Str} {j : Nat} {F : List Dt → Option Rs} {pl : PySem.Env → Sem Bool} (B : Bi G) (hF : MtIs G m j 1 F) (ha : SE G N sc fn k a f) (hm0 : m ∈ shM := by decide) (hj : j ≤ k := by decide)
    (ht : ∀ env : PySem.Env, eval (.Call (.Attribute a m apos) [] [] pos) env = (do
      let ov ← eval a env
      standAt apos.atName
      let (f, first) ← holding [ov] (getMethod ov m (pl env))
      callWith pos f first (backTo pos (starEach [] env)) (backToKw pos (keywordEach [] env))) := by intro _; rfl) :
    SE G N sc fn k (.Call (.Attribute a m apos) [] [] pos) (eMt0 F f) := fun X C W tk b' => by
  obtain ⟨f0, fd, ps, hm, hb, hl, hok⟩ := hF
  rw [← C.hP, ← C.hw, ← C.hK, ← C.hmg, ← C.hb] at hok
  rw [← C.hK] at hm hb
  refine PE.imp (pe_mtS0 (E := WE W) (ha X C W tk false) (by rw [C.hK]; exact B.sht.cl) hm hok (C.room.mono hj) hb (fun σ => passAt tk σ) (ht X.env)) fun σ H Q h => ?_
  obtain ⟨ρ, ow, rs, he, gd, post⟩ := h
  refine tE.go gd he (fun n pl e => by subst e; exact post) fun d hd v H1 s1 r1 => ?_
  split at hd
  · rename_i hs
    obtain ⟨a', m', e1, h1, rfl, dx, fs, q1, _, _, _, _, q2⟩ := r1.rp.isSh hs
    refine ⟨a', dx, fs, rfl, by rw [C.hK] at q1 ⊢; exact q1, q2 m hm0, rfl, OA ow, [d], rs, fun q hq => (gd.ok.same s1).at_ hq, .cons r1.rp .nil, hd, ?_⟩
    cases rs with
    | val d => exact fun v H' s' r' => post v H' (s1.trans s') (.inl r')
    | exc n pl => exact fun cls d H' hc s' pk => post cls d H' hc (s1.trans s') pk
  · cases hd
theorem se_mt {m : Str} {j n : Nat} {F : List Dt → Option Rs} {pl : PySem.Env → Sem Bool} (B : Bi G) (hF : MtIs G m j n F) (ha : SE G N sc fn k a f) (hr : SAs G N sc fn k (b :: es) ar) (hm0 : m ∈ shM := by decide) (hj : j ≤ k := by decide)
    (ht : ∀ env : PySem.Env, eval (.Call (.Attribute a m apos) (b :: es) [] pos) env = (do
      let ov ← eval a env
      standAt apos.atName
      let (f, first) ← holding [ov] (getMethod ov m (pl env))
      callWith pos f first (backTo pos (starEach (b :: es) env)) (backToKw pos (keywordEach [] env))) := by intro _; rfl) :
    SE G N sc fn k (.Call (.Attribute a m apos) (b :: es) [] pos) (eMt n F f ar) := fun X C W tk b' => by
  obtain ⟨f0, fd, ps, hm, hb, hl, hok⟩ := hF
  rw [← C.hP, ← C.hw, ← C.hK, ← C.hmg, ← C.hb] at hok
  rw [← C.hK] at hm hb
  have na := hr.ns b List.mem_cons_self
  refine PE.imp (pe_mtS (E := WE W) (ha X C W tk false) (by rw [C.hK]; exact B.sht.cl) hm hok (C.room.mono hj) hb (fun σ => passAt tk σ) (hr.pa X C W tk) (na es X.env) (noStar _ _ _ fun e he => hr.ns e (List.mem_cons_of_mem _ he)) (ht X.env)) fun σ H Q h => ?_
  obtain ⟨ρ, ow, rs, he, gd, post⟩ := h
  refine tE.go gd he (fun n pl e => by subst e; exact post) fun d hd v H1 s1 r1 => ?_
  split at hd
  · rename_i hs
    obtain ⟨a', m', e1, h1, rfl, dx, fs, q1, _, _, _, _, q2⟩ := r1.rp.isSh hs
    refine ⟨a', dx, fs, rfl, by rw [C.hK] at q1 ⊢; exact q1, q2 m hm0, ?_⟩
    refine tA.go (gd.same s1) hd (fun n pl e => by subst e; exact ExP.same post s1) fun ds hd2 vs H2 s2 r2 => ?_
    split at hd2
    · rename_i hn
      refine ⟨by rw [List.length_cons, r2.length]; exact hn, OA ow, d :: ds, rs, fun q hq => (gd.ok.same (s1.trans s2)).at_ hq, .cons (Rp.same s2 r1.rp) r2, hd2, ?_⟩
      cases rs with
      | val d => exact fun v H' s' r' => post v H' ((s1.trans s2).trans s') (.inl r')
      | exc n pl => exact fun cls d H' hc s' pk => post cls d H' hc ((s1.trans s2).trans s') pk
    · cases hd2
  · cases hd
end
end PT

namespace PT
open PySem PySem.Spec PyProof.Rows L2
/-! ## sheets: len, str, ==, isinstance -/
abbrev noX : XK := fun _ _ _ => False
section
variable {X : Cx} {pins : List (Addr × Obj)} {σ : L2.St} {H : Hp} {s : Shared} {n : Nat} {f C : Addr} {fd : FuncData} {ps : List Str} {sp : Sp}
theorem run_low {A : Around} {Q : VK} {us : List Value} {ws : List V} (F : FnOk X.prog X.w X.K X.mg X.base (L2.CX X.prog X.w) n f fd ps sp) (hr : Room n A) (e0 : Env0 X.prog X.w X.K X.mg X.base A X.stack s H) (hx : Passes (L2.CX X.prog X.w) X noX) (hb : Binds X.K fd ps []) (I : Inv X pins σ H s) (r : Vals ws us) (h : sp ws H Q noX) :
    wpAny (model X.prog X.w) A (call (.ref f) us) (EP X pins σ Q) X.xe s := by
  have hl : us.length = ps.length := by rw [← r.length]; exact F.len _ _ _ _ h
  have b := hb s us I.kIn (by rw [List.append_nil]; exact hl)
  rw [List.append_nil] at b
  refine wpAny_call (codeAny_mono (F.run A X.stack s H ⟨us, []⟩ us ws Q noX hr e0 b r h) fun r s' hq => ?_)
  cases r with
  | error e => exact hx pins σ H s e s' I hq
  | ok fl =>
    cases fl with
    | ret u => exact I.after hq
    | _ => exact False.elim hq
theorem ins_at {a dx : Addr} {fs : List (Str × V)} (I : Inv X pins σ H s) (e : H a = some (.ins C dx fs)) : ∃ ox od, PySem.W.InstAt s.heap a ox C od := by
  obtain ⟨mA, O, _⟩ := ins_get I.hok e
  obtain ⟨od, J, _⟩ := O.look
  exact ⟨_, _, J⟩
def rIn1 (C : Addr) (sp : Sp) (P : V → Prop) : List V → Hp → VK → Prop := fun xs H Q => ∃ a dx fs, xs = [.ref a] ∧ H a = some (.ins C dx fs) ∧ sp [.ref a] H (fun v H' => P v ∧ Q v H') noX
theorem call_lenS (hs : PySem.W.findIn X.K (.ref C) "__len__" = some (some (.ref f))) (hf : PySem.W.isFn X.K (.ref f) = true) (F : FnOk X.prog X.w X.K X.mg X.base (L2.CX X.prog X.w) n f fd ps sp) (hb : Binds X.K fd ps []) (hr : Room (n + 1) X.A) (hx : Passes (L2.CX X.prog X.w) X noX) :
    CallR X (.builtin "len") (rIn1 C sp fun v => ∃ i : Int, v = .int i ∧ 0 ≤ i ∧ i < 2 ^ 63) := by
  intro pins s σ H xs us Q I r h
  obtain ⟨a, dx, fs, rfl, ha, q⟩ := h
  obtain ⟨u, rfl, ru⟩ := r.one
  have e0 := ru
  cases e0
  obtain ⟨ox, od, J⟩ := ins_at I ha
  obtain ⟨m, hF⟩ := I.fr
  refine PySem.W.len_K hF I.ok.mod.kin J hs hf (wpAny_mono (run_low (us := [.ref a]) (ws := [.ref a]) F hr.in1 I.env0.in1 hx hb I (.cons rfl .nil) q) (fun w s' z => ?_) fun _ _ x => x)
  obtain ⟨z', H', I', rz, ⟨i, ei, h0, h1⟩, qz⟩ := z
  subst ei
  obtain ⟨t, e⟩ := (show ∃ t, w = Value.int i t from rz)
  cases e
  exact ⟨⟨h0, h1⟩, .int i, H', I'.tok _, ⟨_, rfl⟩, qz⟩
theorem call_strS (hs : PySem.W.findIn X.K (.ref C) "__str__" = some (some (.ref f))) (hf : PySem.W.isFn X.K (.ref f) = true) (F : FnOk X.prog X.w X.K X.mg X.base (L2.CX X.prog X.w) n f fd ps sp) (hb : Binds X.K fd ps []) (hr : Room (n + 2) X.A) (hx : Passes (L2.CX X.prog X.w) X noX) :
    CallR X (.type "str") (rIn1 C sp fun v => ∃ z : Str, v = .str z) := by
  intro pins s σ H xs us Q I r h
  obtain ⟨a, dx, fs, rfl, ha, q⟩ := h
  obtain ⟨u, rfl, ru⟩ := r.one
  have e0 := ru
  cases e0
  obtain ⟨ox, od, J⟩ := ins_at I ha
  have hr2 : Room n X.A.in1.in1 := (show Room (n + 1) X.A.in1 from Room.in1 hr).in1
  refine PySem.W.kso_call hr2.units0 I.kIn J hs hf (wpAny_mono (run_low (us := [.ref a]) (ws := [.ref a]) F hr2 I.env0.in1.in1 hx hb I (.cons rfl .nil) q) (fun w s' z => ?_) fun _ _ x => x)
  obtain ⟨z', H', I', rz, ⟨i, ei⟩, qz⟩ := z
  subst ei
  obtain ⟨t, e⟩ := (show ∃ t, w = Value.str i t from rz)
  cases e
  exact ⟨.str i, H', I', ⟨_, rfl⟩, qz⟩
def rEqS (K : PySem.W.Frag) (C : Addr) (sp : Sp) : R2 := fun x y H Q => ∃ a dx fs t, x = .ref a ∧ H a = some (.ins C dx fs) ∧ TyX K H y t ∧ PySem.W.notFirst K C t = true ∧ sp [.ref a, y] H (fun v H' => (∃ b, v = .bl b) ∧ Q v H') noX
theorem op_eqS (hs : PySem.W.findIn X.K (.ref C) "__eq__" = some (some (.ref f))) (hf : PySem.W.isFn X.K (.ref f) = true) (F : FnOk X.prog X.w X.K X.mg X.base (L2.CX X.prog X.w) n f fd ps sp) (hb : Binds X.K fd ps []) (hr : Room n X.A) (hx : Passes (L2.CX X.prog X.w) X noX) :
    OpR X (compareOp .Eq) (rEqS X.K C sp) := by
  intro pins s σ H x y v u Q I rx ry h
  obtain ⟨a, dx, fs, t, rfl, ha, ty, hn, q⟩ := h
  have e0 := rx
  cases e0
  obtain ⟨ox, od, J⟩ := ins_at I ha
  obtain ⟨m, hF⟩ := I.fr
  obtain ⟨P, kx, kp, _⟩ := kit_of I ry ty
  refine PySem.W.cmp_ofEq (PySem.W.cmp_K (op := .Eq) (tb := t) hr.units0 hF I.ok.mod.kin J (kx.ty _ _ I.kIn kp) hn hs hf ?_)
  refine wpAny_mono (run_low (us := [.ref a, u]) (ws := [.ref a, y]) F hr I.env0 hx hb I (.cons rfl (.cons ry .nil)) q) (fun w s' z => ?_) fun _ _ x => x
  obtain ⟨z', H', I', rz, ⟨b, eb⟩, qz⟩ := z
  subst eb
  have e1 : w = Value.bool b := rz
  subst e1
  exact ⟨.bl b, H', I', rfl, qz⟩
end
/-! ### by data -/
/-- the class's special methods; what it is to other types -/
structure ShS (G : Gc) (m : Str) (j n : Nat) (F : List Dt → Option Rs) : Prop where
  ex : ∃ f fd ps, PySem.W.findIn G.K (.ref (He.ga G.K "Sheet")) m = some (some (.ref f)) ∧ PySem.W.isFn G.K (.ref f) = true ∧ Binds G.K fd ps [] ∧ ps.length = n ∧ FnOk G.P G.w G.K G.mg G.base (L2.CX G.P G.w) j f fd ps (spF G.K G.mg n F)
theorem sh_is {G : Gc} {m x qual : Str} {params : Arguments} {body : List Stmt} {scope : Scope} {f : Addr} {fd : FuncData} {N ps : List Str} {k : Nat} {g : SF} {F : List Dt → Option Rs} (hm : Meth G.K (He.ga G.K "Sheet") m f) (Fu : FunD G.K x qual params body scope [] [] f fd) (S : FnScope N ps scope) (hb : Binds G.K fd ps [])
    (hB : SB G N scope (fun x => true) k body g) (hF : ∀ ds r, ds.length = ps.length → F ds = some r → runB N.length g ds = some r) : ShS G m (k + 1) ps.length F :=
  ⟨f, fd, ps, hm.at_, hm.fn, hb, rfl, fn_okD Fu S hB hF⟩
def eSp (P : Dt → Bool) (F : List Dt → Option Rs) (f : EF) : EF := fun _ ρ => bnd (f false ρ) fun x => if isSht x = true then (match F [x] with
  | some (.val d) => if P d = true then some (.val d) else none
  | _ => none) else none
def lenOk : Dt → Bool
  | .int i => decide (0 ≤ i) && decide (i < 1000000)
  | _ => false
theorem RpB.ty1 {b : Bool} {K : PySem.W.Frag} {ow : Ow} {H : Hp} {v : V} {d : Dt} (S : ShK K) (h : RpB b K ow H v d) : ∃ t, TyX K H v t ∧ (isSht d = false → t = .type (tyN d)) ∧ (isSht d = true → t = .ref (He.ga K "Sheet")) := by
  have go : ∀ {d : Dt}, isSht d = false → TyX K H v (.type (tyN d)) → ∃ t, TyX K H v t ∧ (isSht d = false → t = .type (tyN d)) ∧ (isSht d = true → t = .ref (He.ga K "Sheet")) := fun {d} hs h => ⟨_, h, fun _ => rfl, fun z => by rw [hs] at z; cases z⟩
  cases d with
  | none => refine go rfl ?_; rw [h.none]; exact .base .non
  | bool b => refine go rfl ?_; rw [h.bool]; exact .base (.bl b)
  | int b => refine go rfl ?_; rw [h.int]; exact .base (.int b)
  | str b => refine go rfl ?_; rw [h.str]; exact .base (.str b)
  | list b => refine go rfl ?_; obtain ⟨a, vs, rfl, h1, _⟩ := h.list; exact .base (.lst h1)
  | tuple b => refine go rfl ?_; obtain ⟨a, vs, rfl, ⟨o, h1, _⟩, _⟩ := h.tuple; exact .fTuple h1
  | dict b =>
    rcases h.script with ⟨a, ns, rfl, rfl, h1⟩ | ⟨a, d, rfl, rfl, dx, fs, h1⟩
    · refine go (by show (!isScr _) = false; rw [isScr_map]; rfl) ?_
      have e : tyN (.dict (ns.map fun i => ((.int i : PyData), (.none : PyData)))) = "list" := by
        show (if isScr _ = true then "list" else "Sheet") = _
        rw [isScr_map]; rfl
      rw [e]
      rcases h1 with ⟨o, h1⟩ | ⟨o, its, n, h1, h2, _⟩
      · exact .base (.frz h1)
      · exact .kList h1 h2
    · exact ⟨_, .base (.ins h1 S.cl S.ha S.hn S.ht S.hm), ⟨fun z => (nomatch (show true = false from z)), fun _ => rfl⟩⟩
theorem tyN_mem {d : Dt} (h : isSht d = false) : tyN d ∈ ["NoneType", "bool", "int", "str", "list", "tuple"] := by
  cases d with
  | dict kv =>
    have e : isScr kv = true := by simpa [isSht] using h
    show (if isScr kv = true then "list" else "Sheet") ∈ _
    rw [e]
    decide
  | none => exact List.mem_cons_self
  | bool _ => show "bool" ∈ _; decide
  | int _ => show "int" ∈ _; decide
  | str _ => show "str" ∈ _; decide
  | list _ => show "list" ∈ _; decide
  | tuple _ => show "tuple" ∈ _; decide
section
variable {G : Gc} {N : List Str} {sc : Scope} {fn : Str → Bool} {k : Nat} {pos apos p p2 : Pos} {a b c : Expr} {es : List Expr} {f g h : EF} {ar : AF}
theorem se_lenS {j : Nat} {F : List Dt → Option Rs} (B : Bi G) (hF : ShS G "__len__" j 1 F) (ha : SE G N sc fn k a f) (hj : j + 1 ≤ k := by decide) (hg : GL sc "len" := by rfl) (ns : NS a := by intro _ _; rfl) : SE G N sc fn k (.Call (.Name "len" p) [a] [] pos) (eSp lenOk F f) := fun X C W tk b' => by
  obtain ⟨f0, fd, ps, h1, h2, h3, h4, h5⟩ := hF.ex
  rw [← C.hP, ← C.hw, ← C.hK, ← C.hmg, ← C.hb] at h5
  rw [← C.hK] at h1 h2 h3
  refine PE.imp (pe_callB (call_lenS h1 h2 h5 h3 (C.room.mono hj) (passes_call tk fun _ _ _ _ z => z.elim)) (C.gl hg) (by rw [C.hmg]; exact B.len) PySem.boot_len (pa_cons (ha X C W tk false) pa_nil (ns [] X.env)) (by decide) (by decide) (ns [] X.env) rfl) fun σ H Q h => ?_
  obtain ⟨ρ, ow, rs, he, gd, post⟩ := h
  refine tE.go gd he (fun n pl e => by subst e; exact post) fun d hd v H1 s1 r1 => ?_
  split at hd
  · rename_i hs
    split at hd
    · rename_i d2 hd2
      split at hd
      · rename_i hp
        cases hd
        obtain ⟨a', m', e1, h1', rfl, dx, fs, q1, _⟩ := r1.rp.isSh hs
        refine ⟨a', dx, fs, rfl, q1, rfl, OA ow, [d], .val d2, fun q hq => (gd.ok.same s1).at_ hq, .cons r1.rp .nil, hd2, fun v H' s' r' => ?_⟩
        cases d2 with
        | int i =>
          simp only [lenOk, Bool.and_eq_true, decide_eq_true_eq] at hp
          have e := (RpB.of (b := false) r').int
          subst e
          exact ⟨⟨i, rfl, hp.1, by omega⟩, post _ H' (s1.trans s') (.inl r')⟩
        | _ => cases hp
      · cases hd
    · cases hd
  · cases hd
theorem se_strS {j : Nat} {F : List Dt → Option Rs} (B : Bi G) (hF : ShS G "__str__" j 1 F) (ha : SE G N sc fn k a f) (hj : j + 2 ≤ k := by decide) (hg : GL sc "str" := by rfl) (ns : NS a := by intro _ _; rfl) : SE G N sc fn k (.Call (.Name "str" p) [a] [] pos) (eSp isStr F f) := fun X C W tk b' => by
  obtain ⟨f0, fd, ps, h1, h2, h3, h4, h5⟩ := hF.ex
  rw [← C.hP, ← C.hw, ← C.hK, ← C.hmg, ← C.hb] at h5
  rw [← C.hK] at h1 h2 h3
  refine PE.imp (pe_callTy (call_strS h1 h2 h5 h3 (C.room.mono hj) (passes_call tk fun _ _ _ _ z => z.elim)) (C.gl hg) (by rw [C.hmg]; exact B.str) PyProof.Rows.boot_str (pa_cons (ha X C W tk false) pa_nil (ns [] X.env)) (by decide) (by decide) (ns [] X.env) rfl) fun σ H Q h => ?_
  obtain ⟨ρ, ow, rs, he, gd, post⟩ := h
  refine tE.go gd he (fun n pl e => by subst e; exact post) fun d hd v H1 s1 r1 => ?_
  split at hd
  · rename_i hs
    split at hd
    · rename_i d2 hd2
      split at hd
      · rename_i hp
        cases hd
        obtain ⟨a', m', e1, h1', rfl, dx, fs, q1, _⟩ := r1.rp.isSh hs
        refine ⟨a', dx, fs, rfl, q1, rfl, OA ow, [d], .val d2, fun q hq => (gd.ok.same s1).at_ hq, .cons r1.rp .nil, hd2, fun v H' s' r' => ?_⟩
        cases d2 with
        | str i =>
          have e := (RpB.of (b := false) r').str
          subst e
          exact ⟨⟨i, rfl⟩, post _ H' (s1.trans s') (.inl r')⟩
        | _ => cases hp
      · cases hd
    · cases hd
  · cases hd
def eEqS (F : List Dt → Option Rs) (f g : EF) : EF := fun _ ρ => bnd (f false ρ) fun x => bnd (g false ρ) fun y => if isSht x = true then (match F [x, y] with
  | some (.val (.bool b)) => some (.val (.bool b))
  | _ => none) else none
theorem se_eqS {j : Nat} {F : List Dt → Option Rs} (B : Bi G) (nf : ∀ T ∈ ["NoneType", "bool", "int", "str", "list", "tuple"], PySem.W.notFirst G.K (He.ga G.K "Sheet") (.type T) = true) (hF : ShS G "__eq__" j 2 F) (ha : SE G N sc fn k a f) (hb : SE G N sc fn k b g) (hj : j ≤ k := by decide) (hm : behindInMarks .Eq b = false := by rfl) :
    SE G N sc fn k (.Compare a [.Eq] [b] pos) (eEqS F f g) := fun X C W tk b' => by
  obtain ⟨f0, fd, ps, h1, h2, h3, h4, h5⟩ := hF.ex
  rw [← C.hP, ← C.hw, ← C.hK, ← C.hmg, ← C.hb] at h5
  rw [← C.hK] at h1 h2 h3
  refine PE.imp (pe_cmpR (op_eqS h1 h2 h5 h3 (C.room.mono hj) (passes_call tk fun _ _ _ _ z => z.elim)) (ha X C W tk false) (hb X C W tk false) hm) fun σ H Q h => ?_
  obtain ⟨ρ, ow, rs, he, gd, post⟩ := h
  refine tE.go gd he (fun n pl e => by subst e; exact post) fun d hd v H1 s1 r1 => ?_
  refine tE.go (gd.same s1) hd (fun n pl e => by subst e; exact post.same s1) fun d2 hd2 v2 H2 s2 r2 => ?_
  split at hd2
  · rename_i hs
    split at hd2
    · rename_i b0 hd3
      cases hd2
      obtain ⟨a', m', e1, h1', rfl, dx, fs, q1, _⟩ := r1.rp.isSh hs
      obtain ⟨t, t1, t2, t3⟩ := r2.ty1 (by rw [C.hK]; exact B.sht)
      refine ⟨a', dx, fs, t, rfl, s2 _ _ q1, t1, ?_, rfl, OA ow, [d, d2], .val (.bool b0), fun q hq => (gd.ok.same (s1.trans s2)).at_ hq, .cons (Rp.same s2 r1.rp) (.cons r2.rp .nil), hd3, fun v H' s' r' => ?_⟩
      · cases hsh : isSht d2 with
        | false => rw [t2 hsh, C.hK]; exact nf _ (tyN_mem hsh)
        | true => rw [t3 hsh]; unfold PySem.W.notFirst; simp
      · have e := (RpB.of (b := false) r').bool
        subst e
        exact ⟨⟨b0, rfl⟩, post _ H' ((s1.trans s2).trans s') (.inl r')⟩
    · cases hd2
  · cases hd2
/-- isinstance(x, Sheet) -/
def eIsS (f : EF) : EF := fun _ ρ => bnd (f true ρ) fun x => some (.val (.bool (isSht x)))
theorem se_isS (B : Bi G) (S : ShX G.K) (hmS : G.mg "Sheet" = some (.ref (He.ga G.K "Sheet"))) (ha : SE G N sc fn k a f) (hg : GL sc "isinstance" := by rfl) (hg2 : GL sc "Sheet" := by rfl) (ns : NS a := by intro _ _; rfl) :
    SE G N sc fn k (.Call (.Name "isinstance" p) [a, .Name "Sheet" p2] [] pos) (eIsS f) := fun X C W tk b' =>
  PE.imp (pe_callB call_isi (C.gl hg) (by rw [C.hmg]; exact B.isinstance) boot_isinstance (pa_cons (ha X C W tk true) (pa_cons (pe_glob (v := .ref (He.ga G.K "Sheet")) (C.gl hg2) (by rw [C.hmg]; exact hmS) rfl (by decide)) pa_nil) (ns _ X.env)) (by decide) (by decide) (ns _ X.env) rfl) fun σ H Q h => by
    obtain ⟨ρ, ow, rs, he, gd, post⟩ := h
    refine tE.go gd he (fun n pl e => by subst e; exact post) fun d hd1 v H1 s1 r1 => ?_
    cases hd1
    obtain ⟨t, h1, h2, h3⟩ := r1.ty1 (by rw [C.hK]; exact B.sht)
    refine ⟨v, .ref (He.ga G.K "Sheet"), t, _, isSht d, rfl, .own _, h1, ?_, post _ H1 s1 (.inl (.bl _))⟩
    cases hsh : isSht d with
    | false => rw [h2 hsh, C.hK]; exact S.noC _ (tyN_mem hsh)
    | true => rw [h3 hsh, C.hK]; exact S.me
/-- str(text) -/
def dStrS : Dt → Option Dt
  | .str z => some (.str z)
  | _ => none
theorem se_strStr (B : Bi G) (ha : SE G N sc fn k a f) (hg : GL sc "str" := by rfl) (ns : NS a := by intro _ _; rfl) : SE G N sc fn k (.Call (.Name "str" p) [a] [] pos) (eUn dStrS f) :=
  se_t1 (r := fun K xs H Q => ∃ a, xs = [.str a] ∧ Q (.str a) H) (fun X _ => SkE.call_str_str) (fun K x H Q ow dx dz ok rx e post => by
    unfold dStrS at e
    split at e
    · cases e
      obtain rfl := rx.str
      exact ⟨_, rfl, post _ H (Same.refl H) (.str _)⟩
    · cases e) B.str PyProof.Rows.boot_str ha hg (by decide) (by decide) ns
end
end PT

namespace PT
open PySem PySem.Spec PyProof.Rows L2
/-! ## sheets that change -/
/-- the sheet at a, its lists at e and h -/
structure At3 (K : PySem.W.Frag) (O : Addr → Prop) (H : Hp) (a e h : Addr) (m : Int) (es hs : List Dt) : Prop where
  f : ShF K H a m e h
  ne : e ≠ h
  l1 : ∃ vs, H e = some (.lst vs) ∧ RpAll K O H vs es
  l2 : ∃ ws, H h = some (.lst ws) ∧ RpAll K O H ws hs
def KpX (e h : Addr) (H H' : Hp) : Prop := ∀ b o, H b = some o → b ≠ e → b ≠ h → H' b = some o
theorem At3.ae {K : PySem.W.Frag} {O : Addr → Prop} {H : Hp} {a e h : Addr} {m : Int} {es hs : List Dt} (t : At3 K O H a e h m es hs) : a ≠ e ∧ a ≠ h := by
  obtain ⟨dx, fs, q, _⟩ := t.f
  obtain ⟨vs, h1, _⟩ := t.l1
  obtain ⟨ws, h2, _⟩ := t.l2
  refine ⟨fun z => ?_, fun z => ?_⟩
  · rw [z, h1] at q; cases q
  · rw [z, h2] at q; cases q
theorem At3.same {K : PySem.W.Frag} {O : Addr → Prop} {H H' : Hp} {a e h : Addr} {m : Int} {es hs : List Dt} (t : At3 K O H a e h m es hs) (s : Same H H') : At3 K O H' a e h m es hs :=
  ⟨t.f.imp fun o q => s _ _ q, t.ne, let ⟨vs, h1, r⟩ := t.l1; ⟨vs, s _ _ h1, RpAll.same s r⟩, let ⟨ws, h1, r⟩ := t.l2; ⟨ws, s _ _ h1, RpAll.same s r⟩⟩
theorem At3.fresh {K : PySem.W.Frag} {O O' : Addr → Prop} {H : Hp} {a e h : Addr} {m : Int} {es hs : List Dt} (t : At3 K O H a e h m es hs) (n : ∀ a o, H a = some o → ¬ O a → ¬ O' a) : At3 K O' H a e h m es hs :=
  ⟨t.f, t.ne, let ⟨vs, h1, r⟩ := t.l1; ⟨vs, h1, RpAll.fresh n r⟩, let ⟨ws, h1, r⟩ := t.l2; ⟨ws, h1, RpAll.fresh n r⟩⟩
theorem At3.rp {K : PySem.W.Frag} {O : Addr → Prop} {H : Hp} {a e h : Addr} {m : Int} {es hs : List Dt} (t : At3 K O H a e h m es hs) (n1 : ¬ O a) (n2 : ¬ O e) (n3 : ¬ O h) : Rp K O H (.ref a) (shD m es hs) := by
  obtain ⟨vs, h1, r1⟩ := t.l1
  obtain ⟨ws, h2, r2⟩ := t.l2
  exact .sht t.f h1 h2 n1 n2 n3 r1 r2
/-! ### made -/
/-- what Sheet.__init__ keeps -/
def spI (K : PySem.W.Frag) : Sp := fun vs H Q _ => ∃ (x dx : Addr) (m : Nat), vs = [.ref x, .int (m : Int)] ∧ H x = some (.ins (He.ga K "Sheet") dx []) ∧ 2 ≤ m ∧ m ≤ 12 ∧
  ∀ (H' : Hp) (e h : Addr), (∀ b o, b ≠ x → H b = some o → H' b = some o) → H e = none → H h = none → (∀ O, At3 K O H' x e h m (List.replicate m .none) []) → Q .non H'
def NewS (G : Gc) (j : Nat) : Prop := ∃ fI fd, Mk G.K (He.ga G.K "Sheet") fI ∧ Binds G.K fd ["self", "modulus"] [] ∧ FnOk G.P G.w G.K G.mg G.base (L2.CX G.P G.w) j fI fd ["self", "modulus"] (spI G.K) ∧ G.mg "Sheet" = some (.ref (He.ga G.K "Sheet"))
def newD : Dt → Option (Nat × Dt)
  | .int m => if 2 ≤ m ∧ m ≤ 12 then some (m.toNat, shD m (List.replicate m.toNat .none) []) else none
  | _ => none
def eNew (f : EF) : EF := fun _ ρ => bnd (f false ρ) fun x => (newD x).map fun q => .val q.2
section
variable {G : Gc} {N : List Str} {sc : Scope} {fn : Str → Bool} {k : Nat} {pos apos p p2 : Pos} {a b c : Expr} {es : List Expr} {f g h : EF} {ar : AF}
/-- Sheet(e), e a modulus: what is known of the new thing -/
def tNew (K : PySem.W.Frag) (mg : Str → Option Value) (W : WX) (f : EF) : TE := fun σ H Q => ∃ ρ ow d m dd, f false ρ = some (.val d) ∧ newD d = some (m, dd) ∧ Good K ow ρ σ H ∧
  ∀ x e h H', Same H H' → H x = none → H e = none → H h = none → (∀ O, At3 K O H' x e h (m : Nat) (List.replicate m .none) []) → Q (.ref x) H'
theorem pe_newS {j : Nat} (hN : NewS G j) {X : Cx} (C : Ctx G N sc fn k X) {W : WX} (tk : Takes X W) (ha : SE G N sc fn k a f) (hj : j + 1 ≤ k) (hg : GL sc "Sheet") (ns : NS a) : PE X (.Call (.Name "Sheet" p) [a] [] pos) (tNew X.K X.mg W f) := by
  obtain ⟨fI, fd, h1, h2, h3, h4⟩ := hN
  rw [← C.hP, ← C.hw, ← C.hK, ← C.hmg, ← C.hb] at h3
  rw [← C.hK] at h1 h2
  refine PE.imp (pe_make (E := noX) (dvs := []) h1 h3 (C.room.mono hj) (C.gl hg) (by rw [C.hmg, C.hK]; exact h4) h2 .nil (passes_call tk fun _ _ _ _ z => z.elim) (pa_cons (ha X C W tk false) pa_nil (ns [] X.env)) (by decide) (ns [] X.env) rfl) fun σ H Q h => ?_
  obtain ⟨ρ, ow, d, m, dd, he, hn, gd, post⟩ := h
  refine ⟨ρ, ow, .val d, he, gd, fun v H1 s1 r1 x dx hx hdx hne => ?_⟩
  unfold newD at hn
  split at hn
  · rename_i i
    split at hn
    · rename_i hm
      cases hn
      obtain rfl := r1.int
      have e0 : (i : Int) = ((i.toNat : Nat) : Int) := by omega
      refine ⟨x, dx, i.toNat, by rw [← e0]; rfl, upd_same, by omega, by omega, fun H' e h k1 he1 hh1 t => ⟨rfl, ?_⟩⟩
      have ox : ∀ {b : Addr}, upd (upd H1 dx (.own x)) x (.ins (He.ga X.K "Sheet") dx []) b = none → H1 b = none := fun {b} hb => by
        by_cases e1 : b = x
        · rw [e1]; exact hx
        · rw [upd_ne e1] at hb
          by_cases e2 : b = dx
          · rw [e2]; exact hdx
          · rw [upd_ne e2] at hb; exact hb
      have sm : Same H1 H' := fun b o hb => k1 b o (ne_of_none hb hx) (by rw [upd_ne (ne_of_none hb hx), upd_ne (ne_of_none hb hdx)]; exact hb)
      have old : ∀ {b : Addr}, H1 b = none → H b = none := fun {b} hb => by
        cases q : H b with
        | none => rfl
        | some o => rw [s1 b o q] at hb; cases hb
      exact post x e h H' (s1.trans sm) (old hx) (old (ox he1)) (old (ox hh1)) t
    · cases hn
  · cases hn
theorem se_new {j : Nat} (hN : NewS G j) (ha : SE G N sc fn k a f) (hj : j + 1 ≤ k := by decide) (hg : GL sc "Sheet" := by rfl) (ns : NS a := by intro _ _; rfl) : SE G N sc fn k (.Call (.Name "Sheet" p) [a] [] pos) (eNew f) := fun X C W tk b' => ⟨fun pins s σ H Q I h => by
  obtain ⟨ρ, ow, rs, he, gd, post⟩ := h
  unfold eNew at he
  cases h1 : f false ρ with
  | none => rw [h1] at he; cases he
  | some r1 =>
    rw [h1] at he
    cases r1 with
    | exc n pl =>
      cases he
      have hN' := hN
      obtain ⟨fI, fd, q1, q2, q3, q4⟩ := hN'
      rw [← C.hP, ← C.hw, ← C.hK, ← C.hmg, ← C.hb] at q3
      rw [← C.hK] at q1 q2
      exact (pe_make (E := noX) (dvs := []) q1 q3 (C.room.mono hj) (C.gl hg) (by rw [C.hmg, C.hK]; exact q4) q2 .nil (passes_call tk fun _ _ _ _ z => z.elim) (pa_cons (ha X C W tk false) pa_nil (ns [] X.env)) (by decide) (ns [] X.env) rfl).run pins s σ H Q I ⟨ρ, ow, _, h1, gd, post⟩
    | val d =>
      rw [w_bnd] at he
      cases hn : newD d with
      | none => rw [hn] at he; cases he
      | some q =>
        rw [hn] at he
        cases he
        obtain ⟨m, dd⟩ := q
        refine (pe_newS hN C tk ha hj hg ns).run pins s σ H Q I ⟨ρ, ow, d, m, dd, h1, hn, gd, fun x e h H' s' hx he hh t => post (.ref x) H' s' (.inl ?_)⟩
        have e1 : dd = shD (m : Nat) (List.replicate m .none) [] := by
          unfold newD at hn
          split at hn
          · split at hn
            · rename_i i hm
              cases hn
              rw [Int.toNat_of_nonneg (by omega)]
            · cases hn
          · cases hn
        rw [e1]
        have nn : ∀ {b : Addr}, H b = none → ¬ OA ow b := fun {b} hb => gd.ok.new hb
        exact (t (OA ow)).rp (nn hx) (nn he) (nn hh)⟩
end
/-! ### methods that change it -/
abbrev FX := Int → List Dt → List Dt → List Dt → Option (Rs × List Dt × List Dt)
def spX (K : PySem.W.Frag) (mg : Str → Option Value) (n : Nat) (F : FX) : Sp := fun vs H Q E => vs.length = n ∧ ∃ (a e h : Addr) (m : Int) (es hs : List Dt) (O : Addr → Prop) (us : List V) (ds : List Dt) (r : Rs) (es' hs' : List Dt), vs = .ref a :: us ∧ At3 K O H a e h m es hs ∧ (O a ∧ O e ∧ O h) ∧ (∀ x, O x → H x ≠ none) ∧ RpAll K O H us ds ∧ F m es hs ds = some (r, es', hs') ∧
  match r with
    | .val d => ∀ v H', KpX e h H H' → At3 K O H' a e h m es' hs' → Rp K O H' v d → Q v H'
    | .exc n pl => ∀ cls d H', mg n = some cls → Same H H' → PayOk K H' d pl → E cls d H'
def MtX (G : Gc) (m : Str) (j n : Nat) (F : FX) : Prop :=
  ∃ f fd ps, Meth G.K (He.ga G.K "Sheet") m f ∧ Binds G.K fd ps [] ∧ ps.length = n ∧ FnOk G.P G.w G.K G.mg G.base (L2.CX G.P G.w) j f fd ps (spX G.K G.mg n F)
def FnX (G : Gc) (x : Str) (j n : Nat) (F : FX) : Prop :=
  ∃ f fd ps, G.mg x = some (.ref f) ∧ PySem.W.keepIn G.K (.ref f) = true ∧ Binds G.K fd ps [] ∧ ps.length = n ∧ FnOk G.P G.w G.K G.mg G.base (L2.CX G.P G.w) j f fd ps (spX G.K G.mg n F)
/-- what the body of such a def may take the sheet for, while it only reads -/
def Oless (O : Addr → Prop) (a e h : Addr) : Addr → Prop := fun x => O x ∧ x ≠ a ∧ x ≠ e ∧ x ≠ h
theorem good_x {K : PySem.W.Frag} {O : Addr → Prop} {H : Hp} {a e h : Addr} {m : Int} {es hs : List Dt} {us : List V} {ds : List Dt} {N : List Str} (t : At3 K O H a e h m es hs) (hO : ∀ x, O x → H x ≠ none) (r : RpAll K O H us ds) :
    Good K (Ow.out (Oless O a e h)) (start0 N.length (shD m es hs :: ds)) (L2.start N (.ref a :: us)) H := by
  have nn : ∀ b o, H b = some o → ¬ O b → ¬ Oless O a e h b := fun b o _ n z => n z.1
  refine good0 (fun x q => hO x q.1) (.cons ?_ (RpAll.fresh nn r))
  exact (t.fresh nn).rp (fun z => z.2.1 rfl) (fun z => z.2.2.1 rfl) (fun z => z.2.2.2 rfl)
/-- Sheet(e).m(..): the new sheet is let go -/
def eNewM (n : Nat) (F : FX) (f : EF) (g : AF) : EF := fun _ ρ => bnd (f false ρ) fun x => match newD x with
  | some (m, _) => bndA (g ρ) fun ds => if ds.length + 1 = n ∧ ds.all scl = true then (F (m : Nat) (List.replicate m .none) [] ds).map (·.1) else none
  | none => none
theorem RpAll.scl {K : PySem.W.Frag} {O O' : Addr → Prop} {H H' : Hp} : ∀ {vs : List V} {ds : List Dt}, RpAll K O H vs ds → ds.all PT.scl = true → RpAll K O' H' vs ds
  | _, _, .nil, _ => .nil
  | _, _, .cons a r, h => by
    rw [List.all_cons, Bool.and_eq_true] at h
    exact .cons (a.scl h.1) (RpAll.scl r h.2)
section
variable {G : Gc} {N : List Str} {sc : Scope} {fn : Str → Bool} {k : Nat} {pos apos p p2 q1 : Pos} {a b c : Expr} {es : List Expr} {f g h : EF} {ar : AF}
theorem newm_post {X : Cx} {W : WX} {σ : L2.St} {H : Hp} {Q : VK} {ow : Ow} {ρ : En} {b' : Bool} {m n : Nat} {F : FX} {ds : List Dt} {us : List V} {r : Rs} {H1 : Hp} {x e h : Addr} (gd : Good X.K ow ρ σ H) (s1 : Same H H1) (hx : H x = none) (he : H e = none) (hh : H h = none)
    (t : ∀ O, At3 X.K O H1 x e h (m : Nat) (List.replicate m .none) []) (r2 : RpAll X.K (OA ow) H1 us ds) (hn : ds.length + 1 = n) (hsc : ds.all scl = true)
    (post : match r with
      | .val d => ∀ v H', Same H H' → RpB b' X.K ow H' v d → Q v H'
      | .exc n pl => ExP X.K X.mg W σ H n pl) (hF : (F (m : Nat) (List.replicate m .none) [] ds).map (·.1) = some r) : spX X.K X.mg n F (.ref x :: us) H1 Q (WE W σ) := by
  cases hq : F (m : Nat) (List.replicate m .none) [] ds with
  | none => rw [hq] at hF; cases hF
  | some q =>
    obtain ⟨r0, es', hs'⟩ := q
    rw [hq] at hF
    have hF : r0 = r := Option.some.inj hF
    subst hF
    let O : Addr → Prop := fun y => OA ow y ∨ y = x ∨ y = e ∨ y = h
    have hxe := (t O).ae
    obtain ⟨dx, fs, k1, _⟩ := (t O).f
    obtain ⟨vs, k2, _⟩ := (t O).l1
    obtain ⟨ws, k3, _⟩ := (t O).l2
    have r3 : RpAll X.K O H1 us ds := r2.scl hsc
    refine ⟨by rw [List.length_cons, r2.length]; exact hn, x, e, h, m, _, _, O, us, ds, r0, es', hs', rfl, t O, ⟨.inr (.inl rfl), .inr (.inr (.inl rfl)), .inr (.inr (.inr rfl))⟩, ?_, r3, hq, ?_⟩
    · rintro y (z | rfl | rfl | rfl)
      · exact (gd.ok.same s1).at_ z
      · rw [k1]; exact fun z => nomatch z
      · rw [k2]; exact fun z => nomatch z
      · rw [k3]; exact fun z => nomatch z
    · cases r0 with
      | val d => exact fun v H' kp t' r' => post v H' (fun b o hb => kp b o (s1 b o hb) (ne_of_none hb he) (ne_of_none hb hh)) (.inl (Rp.fresh (fun _ _ _ n z => n (.inl z)) r'))
      | exc n pl => exact fun cls d H' hc s' pk => post cls d H' hc (s1.trans s') pk
theorem se_newm {x : Str} {j j2 n : Nat} {F : FX} {pl : PySem.Env → Sem Bool} (B : Bi G) (hN : NewS G j) (hF : MtX G x j2 n F) (ha : SE G N sc fn k a f) (hr : SAs G N sc fn k (b :: es) ar) (hm0 : x ∈ shM := by decide) (hj : j + 1 ≤ k := by decide) (hj2 : j2 ≤ k := by decide) (hg : GL sc "Sheet" := by rfl) (ns : NS a := by intro _ _; rfl)
    (ht : ∀ env : PySem.Env, eval (.Call (.Attribute (.Call (.Name "Sheet" p) [a] [] p2) x apos) (b :: es) [] pos) env = (do
      let ov ← eval (.Call (.Name "Sheet" p) [a] [] p2) env
      standAt apos.atName
      let (f, first) ← holding [ov] (getMethod ov x (pl env))
      callWith pos f first (backTo pos (starEach (b :: es) env)) (backToKw pos (keywordEach [] env))) := by intro _; rfl) :
    SE G N sc fn k (.Call (.Attribute (.Call (.Name "Sheet" p) [a] [] p2) x apos) (b :: es) [] pos) (eNewM n F f ar) := fun X C W tk b' => ⟨fun pins s σ H Q I h => by
  obtain ⟨f0, fd, ps, hm, hb, hl, hok⟩ := hF
  rw [← C.hP, ← C.hw, ← C.hK, ← C.hmg, ← C.hb] at hok
  rw [← C.hK] at hm hb
  have na := hr.ns b List.mem_cons_self
  obtain ⟨ρ, ow, rs, he, gd, post⟩ := h
  unfold eNewM at he
  cases h1 : f false ρ with
  | none => rw [h1] at he; cases he
  | some r1 =>
    rw [h1] at he
    cases r1 with
    | exc n pl =>
      cases he
      have q := pe_mtS (E := WE W) (se_new (p := p) (pos := p2) hN ha hj hg ns X C W tk true) (by rw [C.hK]; exact B.sht.cl) hm hok (C.room.mono hj2) hb (fun σ => passAt tk σ) (hr.pa X C W tk) (na es X.env) (noStar _ _ _ fun e he => hr.ns e (List.mem_cons_of_mem _ he)) (ht X.env)
      exact q.run pins s σ H Q I ⟨ρ, ow, _, (by show bnd (f false ρ) _ = _; rw [h1]; rfl), gd, post⟩
    | val d =>
      rw [w_bnd] at he
      have q := pe_mtS (E := WE W) (pe_newS (p := p) (pos := p2) hN C tk ha hj hg ns) (by rw [C.hK]; exact B.sht.cl) hm hok (C.room.mono hj2) hb (fun σ => passAt tk σ) (hr.pa X C W tk) (na es X.env) (noStar _ _ _ fun e he => hr.ns e (List.mem_cons_of_mem _ he)) (ht X.env)
      cases hn : newD d with
      | none => rw [hn] at he; cases he
      | some q0 =>
        obtain ⟨m, dd⟩ := q0
        rw [hn] at he
        refine q.run pins s σ H Q I ⟨ρ, ow, d, m, dd, h1, hn, gd, fun x0 e0 h0 H1 s1 hx0 he0 hh0 t => ?_⟩
        obtain ⟨dx, fs, k1, _, _, _, _, k2⟩ := (t NoO).f
        refine ⟨x0, dx, fs, rfl, by rw [C.hK] at k1 ⊢; exact k1, k2 x hm0, ?_⟩
        refine tA.go (gd.same s1) he (fun n pl e => by subst e; exact ExP.same post s1) fun ds hd2 us H2 s2 r2 => ?_
        split at hd2
        · rename_i hc
          exact newm_post (b' := b') gd (s1.trans s2) hx0 he0 hh0 (fun O => (t O).same s2) r2 hc.1 hc.2 post hd2
        · cases hd2⟩
theorem se_newm0 {x : Str} {j j2 : Nat} {F : FX} {pl : PySem.Env → Sem Bool} (B : Bi G) (hN : NewS G j) (hF : MtX G x j2 1 F) (ha : SE G N sc fn k a f) (hm0 : x ∈ shM := by decide) (hj : j + 1 ≤ k := by decide) (hj2 : j2 ≤ k := by decide) (hg : GL sc "Sheet" := by rfl) (ns : NS a := by intro _ _; rfl)
    (ht : ∀ env : PySem.Env, eval (.Call (.Attribute (.Call (.Name "Sheet" p) [a] [] p2) x apos) [] [] pos) env = (do
      let ov ← eval (.Call (.Name "Sheet" p) [a] [] p2) env
      standAt apos.atName
      let (f, first) ← holding [ov] (getMethod ov x (pl env))
      callWith pos f first (backTo pos (starEach [] env)) (backToKw pos (keywordEach [] env))) := by intro _; rfl) :
    SE G N sc fn k (.Call (.Attribute (.Call (.Name "Sheet" p) [a] [] p2) x apos) [] [] pos) (eNewM 1 F f aNil) := fun X C W tk b' => ⟨fun pins s σ H Q I h => by
  obtain ⟨f0, fd, ps, hm, hb, hl, hok⟩ := hF
  rw [← C.hP, ← C.hw, ← C.hK, ← C.hmg, ← C.hb] at hok
  rw [← C.hK] at hm hb
  obtain ⟨ρ, ow, rs, he, gd, post⟩ := h
  unfold eNewM at he
  cases h1 : f false ρ with
  | none => rw [h1] at he; cases he
  | some r1 =>
    rw [h1] at he
    cases r1 with
    | exc n pl =>
      cases he
      have q := pe_mtS0 (E := WE W) (se_new (p := p) (pos := p2) hN ha hj hg ns X C W tk true) (by rw [C.hK]; exact B.sht.cl) hm hok (C.room.mono hj2) hb (fun σ => passAt tk σ) (ht X.env)
      exact q.run pins s σ H Q I ⟨ρ, ow, _, (by show bnd (f false ρ) _ = _; rw [h1]; rfl), gd, post⟩
    | val d =>
      rw [w_bnd] at he
      have q := pe_mtS0 (E := WE W) (pe_newS (p := p) (pos := p2) hN C tk ha hj hg ns) (by rw [C.hK]; exact B.sht.cl) hm hok (C.room.mono hj2) hb (fun σ => passAt tk σ) (ht X.env)
      cases hn : newD d with
      | none => rw [hn] at he; cases he
      | some q0 =>
        obtain ⟨m, dd⟩ := q0
        rw [hn] at he
        refine q.run pins s σ H Q I ⟨ρ, ow, d, m, dd, h1, hn, gd, fun x0 e0 h0 H1 s1 hx0 he0 hh0 t => ?_⟩
        obtain ⟨dx, fs, k1, _, _, _, _, k2⟩ := (t NoO).f
        refine ⟨x0, dx, fs, rfl, by rw [C.hK] at k1 ⊢; exact k1, k2 x hm0, ?_⟩
        have he : (if ([] : List Dt).length + 1 = 1 ∧ ([] : List Dt).all scl = true then (F (m : Nat) (List.replicate m .none) [] []).map (·.1) else none) = some rs := he
        rw [if_pos ⟨rfl, rfl⟩] at he
        exact newm_post (b' := b') gd s1 hx0 he0 hh0 t .nil rfl rfl post he⟩
end
end PT

namespace PT
open PySem PySem.Spec PyProof.Rows L2
/-! ## what the methods of a sheet do -/
theorem good_s {K : PySem.W.Frag} {ρ : En} {σ : L2.St} {H : Hp} (hl : ρ.length = σ.length) (hs : ∀ (i : Nat) (s : SV), ρ[i]? = some (some s) → ∃ v d, s = .sh d ∧ σ[i]? = some (some v) ∧ Rp K NoO H v d) : Good K (Ow.out NoO) ρ σ H := by
  refine ⟨hl, fun i j a h => (nomatch h), ⟨fun i a h => (nomatch h), fun _ h => h.elim, fun _ _ h => h.elim⟩, fun i a h => (nomatch h), fun i s h => ?_, fun i a h => (nomatch h), fun _ _ _ h => h.elim, fun _ _ _ h => h.elim, fun _ _ h => h.elim, fun _ _ h => h.elim⟩
  obtain ⟨v, d, rfl, hv, r⟩ := hs i s h
  refine ⟨v, hv, Rp.fresh (fun _ _ _ _ z => ?_) r⟩
  rcases z with ⟨i, z | z⟩ | z
  · cases z
  · exact z
  · exact z
theorem Kp.out {O : Addr → Prop} {H H' : Hp} (k : Kp (Ow.out O) H H') : Same H H' := fun a o h => k.keep a o h fun ⟨i, hi⟩ => hi.elim (fun z => by cases z) fun z => z
mutual
theorem Rp.kpx {K : PySem.W.Frag} {O : Addr → Prop} {H H' : Hp} {e h : Addr} (he : O e ∧ ∃ vs, H e = some (.lst vs)) (hh : O h ∧ ∃ vs, H h = some (.lst vs)) (k : KpX e h H H') : ∀ {v : V} {d : Dt}, Rp K O H v d → Rp K O H' v d
  | _, _, .non => .non
  | _, _, .bl b => .bl b
  | _, _, .int i => .int i
  | _, _, .str x => .str x
  | _, _, .lst q n r => .lst (k _ _ q (fun z => n (by rw [z]; exact he.1)) (fun z => n (by rw [z]; exact hh.1))) n (RpAll.kpx he hh k r)
  | _, _, .tup ⟨o, q, hd⟩ r => .tup ⟨o, k _ _ q (fun z => by obtain ⟨vs, y⟩ := he.2; rw [z, y] at q; cases q) (fun z => by obtain ⟨vs, y⟩ := hh.2; rw [z, y] at q; cases q), hd⟩ (RpAll.kpx he hh k r)
  | _, _, .scr q => .scr (q.imp fun _ _ q => k _ _ q (fun z => by obtain ⟨vs, y⟩ := he.2; rw [z, y] at q; cases q) (fun z => by obtain ⟨vs, y⟩ := hh.2; rw [z, y] at q; cases q))
  | _, _, .sht f q1 q2 n1 n2 n3 r1 r2 => .sht (f.imp fun o q => k _ _ q (fun z => n1 (by rw [z]; exact he.1)) (fun z => n1 (by rw [z]; exact hh.1))) (k _ _ q1 (fun z => n2 (by rw [z]; exact he.1)) (fun z => n2 (by rw [z]; exact hh.1))) (k _ _ q2 (fun z => n3 (by rw [z]; exact he.1)) (fun z => n3 (by rw [z]; exact hh.1))) n1 n2 n3 (RpAll.kpx he hh k r1) (RpAll.kpx he hh k r2)
theorem RpAll.kpx {K : PySem.W.Frag} {O : Addr → Prop} {H H' : Hp} {e h : Addr} (he : O e ∧ ∃ vs, H e = some (.lst vs)) (hh : O h ∧ ∃ vs, H h = some (.lst vs)) (k : KpX e h H H') : ∀ {vs : List V} {ds : List Dt}, RpAll K O H vs ds → RpAll K O H' vs ds
  | _, _, .nil => .nil
  | _, _, .cons a r => .cons (Rp.kpx he hh k a) (RpAll.kpx he hh k r)
end
theorem rp_nones {K : PySem.W.Frag} {O : Addr → Prop} {H : Hp} : ∀ {n : Nat} {vs : List V}, RpAll K O H vs (List.replicate n .none) → vs = List.replicate n .non
  | 0, _, .nil => rfl
  | n + 1, _, h => by
    rw [List.replicate_succ] at h
    cases h with
    | cons a r => cases a; rw [rp_nones r]; rfl
theorem nones_rp {K : PySem.W.Frag} {O : Addr → Prop} {H : Hp} : ∀ n : Nat, RpAll K O H (List.replicate n .non) (List.replicate n .none)
  | 0 => .nil
  | n + 1 => by rw [List.replicate_succ, List.replicate_succ]; exact .cons .non (nones_rp n)
section
variable {K : PySem.W.Frag} {mg : Str → Option Value} {H : Hp} {Q : VK} {E : XK}
theorem if_pos_of {c : Prop} [Decidable c] {A B : Prop} (h : c) (a : A) : if c then A else B := by rw [if_pos h]; exact a
theorem if_neg_of {c : Prop} [Decidable c] {A B : Prop} (h : ¬ c) (b : B) : if c then A else B := by rw [if_neg h]; exact b
/-- __init__ -/
theorem init_sem {F : List Dt → Option Rs} (S : ShK K) (S2 : ShX K) (hF : ∀ m : Nat, 2 ≤ m → m ≤ 12 → F [.int (m : Int)] = some (.val .none)) {vs : List V} (h : spI K vs H Q E) :
    tSeq (tDrop (tE K mg (fun cls d _ H => E cls d H) true (eFn 1 F (aCons (eVar 1) aNil)))) (tSeq (sFld K (tVar 0) (tVar 1) "modulus") (tSeq (sFld K (tVar 0) (tL K mg (fun cls d _ H => E cls d H) (eBin dMul (eLst (aCons (eC .none) aNil)) (eVar 1))) "entries") (sFld K (tVar 0) (tL K mg (fun cls d _ H => E cls d H) (eLst aNil)) "history")))
      { nx := fun _ H' => Q .non H', rt := Q } (L2.start ["self", "modulus"] vs) H := by
  obtain ⟨x, dx, m, rfl, hx, h2, h12, q⟩ := h
  have gd : ∀ {H : Hp}, Good K (Ow.out NoO) [none, some (.sh (.int (m : Int)))] (L2.start ["self", "modulus"] [.ref x, .int (m : Int)]) H := fun {H} => good_s rfl fun i s hs => by
    match i, hs with
    | 0, hs => cases hs
    | 1, hs => cases hs; exact ⟨_, _, rfl, rfl, .int _⟩
    | _ + 2, hs => cases hs
  refine ⟨_, _, _, (show eFn 1 F (aCons (eVar 1) aNil) true [none, some (.sh (.int (m : Int)))] = F [.int (m : Int)] from rfl).trans (hF m h2 h12), gd, fun v H1 s1 _ => ?_⟩
  refine ⟨.int (m : Int), rfl, .ref x, rfl, x, _, dx, [], rfl, s1 _ _ hx, S.cl, S2.na _ (by decide), by decide, ?_⟩
  have hz : dMul (.list [.none]) (.int (m : Int)) = some (.list (List.replicate m .none)) := by
    show (if [PyData.none].length * (m : Int).toNat ≤ lim ∧ okI (m : Int) = true then some (PyData.list (List.replicate (m : Int).toNat [PyData.none]).flatten) else none) = _
    rw [if_pos ⟨by unfold lim; simp; omega, okI_iff.mpr (by omega)⟩, Int.toNat_natCast, List.flatten_replicate_singleton]
  refine ⟨_, _, .val (.list (List.replicate m .none)), (show eBin dMul (eLst (aCons (eC .none) aNil)) (eVar 1) true [none, some (.sh (.int (m : Int)))] = (dMul (.list [.none]) (.int (m : Int))).map .val from rfl).trans (by rw [hz]; rfl), gd, _, rfl, fun e vs H2 s2 he r2 => ?_⟩
  have e2 := rp_nones r2
  subst e2
  have nex : e ≠ x := fun z => by
    subst z
    have := s2 _ _ (show upd H1 e (.ins (He.ga K "Sheet") dx (putF "modulus" (.int (m : Int)) [])) e = _ from upd_same)
    rw [he] at this; cases this
  refine ⟨.ref x, rfl, x, _, dx, _, rfl, by rw [upd_ne (Ne.symm nex)]; exact s2 _ _ upd_same, S.cl, S2.na _ (by decide), by show 1 < 1000; decide, ?_⟩
  refine ⟨_, _, .val (.list []), rfl, gd, _, rfl, fun h ws H3 s3 hh r3 => ?_⟩
  cases r3
  have k3 : ∀ {b : Addr} {o : HO}, upd (upd H2 e (.lst (List.replicate m .non))) x (.ins (He.ga K "Sheet") dx (putF "entries" (.ref e) (putF "modulus" (.int (m : Int)) []))) b = some o → H3 b = some o := fun {b o} z => s3 _ _ z
  have nhx : h ≠ x := fun z => by
    subst z
    have := k3 upd_same
    rw [hh] at this; cases this
  have nhe : h ≠ e := fun z => by
    subst z
    have := k3 (b := h) (o := .lst (List.replicate m .non)) (by rw [upd_ne nex, upd_same])
    rw [hh] at this; cases this
  have old : ∀ {b : Addr} {o : HO}, H b = some o → b ≠ x → H3 b = some o := fun {b o} z hb => by
    have z1 := s2 b o (by rw [upd_ne hb]; exact s1 _ _ z)
    exact k3 (by rw [upd_ne hb, upd_ne (ne_of_none z1 he)]; exact z1)
  have new : ∀ {b : Addr}, b ≠ x → H3 b = none → H b = none := fun {b} hb z => by
    cases y : H b with
    | none => rfl
    | some o => rw [old y hb] at z; cases z
  refine ⟨.ref x, rfl, x, _, dx, _, rfl, by rw [upd_ne (Ne.symm nhx)]; exact k3 upd_same, S.cl, S2.na _ (by decide), by show 2 < 1000; decide, ?_⟩
  refine q _ e h (fun b o hb z => ?_) ?_ (new nhx hh) fun O => ⟨⟨dx, _, upd_same, by show 3 < 100; decide, by rw [lookup_putF]; rfl, by rw [lookup_putF]; rfl, by rw [lookup_putF]; rfl, ?_⟩, fun z => nhe z.symm, ⟨_, by rw [upd_ne nex, upd_ne fun z => nhe z.symm]; exact k3 (by rw [upd_ne nex, upd_same]), nones_rp m⟩, ⟨_, by rw [upd_ne nhx, upd_same], .nil⟩⟩
  · have z1 := old z hb
    rw [upd_ne hb, upd_ne (ne_of_none z1 hh)]
    exact z1
  · cases y : H e with
    | none => rfl
    | some o =>
      have := s2 e o (by rw [upd_ne nex]; exact s1 _ _ y)
      rw [he] at this; cases this
  · intro n hn
    simp only [shM, List.mem_cons, List.not_mem_nil, or_false] at hn
    rcases hn with rfl | rfl | rfl | rfl | rfl <;> rfl
/-- enter -/
def fxEnter (Fc Fi : List Dt → Option Rs) : FX := fun m es hs ds => match ds with
  | [pl, v] => (match Fc [.int m, pl] with
    | some (.exc n p) => some (.exc n p, es, hs)
    | some (.val _) => (match Fi [v, .int 0, .int (m - 1)] with
      | some (.val (.bool true)) => (match pl with
        | .int p => (match ixN es.length p with
          | some j => (match es[j]? with
            | some old => if scl old = true ∧ hs.length < lim then some (.val old, es.set j v, hs ++ [.tuple [.int p, old]]) else none
            | none => none)
          | none => none)
        | _ => none)
      | some (.val (.bool false)) => some (.exc "InvalidValue" none, es, hs)
      | _ => none)
    | none => none)
  | _ => none
theorem enter_sem {Fc Fi : List Dt → Option Rs} (S : ShK K) (S2 : ShX K) {vs : List V} (hsp : spX K mg 3 (fxEnter Fc Fi) vs H Q E) :
    tSeq (tDrop (tE K mg (fun cls d _ H => E cls d H) true (eFn 2 Fc (aCons (eFl dMdl (eVar 0)) (aCons (eVar 1) aNil)))))
      (tSeq (tIfS (tT K mg (fun cls d _ H => E cls d H) (eNot (eFn 3 Fi (aCons (eVar 2) (aCons (eC (.int 0)) (aCons (eBin dSub (eFl dMdl (eVar 0)) (eC (.int 1))) aNil)))))) (tS K mg (fun cls d _ H => E cls d H) (sRaise "InvalidValue")) tNext)
      (tSeq (tAsg (tE K mg (fun cls d _ H => E cls d H) false (eBin dIx (eFl dEnt (eVar 0)) (eVar 1))) (gName 3))
      (tSeq (tAsg (tVar 2) (gSub (tFld K (tVar 0) "entries") (tVar 1) rSetL))
      (tSeq (tDrop (tBM K "list" rAppend (tFld K (tVar 0) "history") (tCons (tTupF (tCons (tVar 1) (tCons (tVar 3) tNil))) tNil))) (tRet (tVar 3))))))
      { nx := fun _ H' => Q .non H', rt := Q } (L2.start ["self", "place", "value", "old"] vs) H := by
  obtain ⟨hlen, a, e, h, m, es, hs, O, us, ds, r, es', hs', rfl, t, ⟨oa, oe, oh⟩, hO, ru, hF, post⟩ := hsp
  have gd : ∀ {H' : Hp}, Same H H' → Good K (Ow.out (Oless O a e h)) (start0 4 (shD m es hs :: ds)) (L2.start ["self", "place", "value", "old"] (.ref a :: us)) H' := fun {H'} s => good_x (N := ["self", "place", "value", "old"]) (t.same s) (fun x z => Same.dom s x (hO x z)) (RpAll.same s ru)
  unfold fxEnter at hF
  split at hF
  · rename_i pl v
    have x1 : eFn 2 Fc (aCons (eFl dMdl (eVar 0)) (aCons (eVar 1) aNil)) true (start0 4 [shD m es hs, pl, v]) = Fc [.int m, pl] := rfl
    have x2 : eNot (eFn 3 Fi (aCons (eVar 2) (aCons (eC (.int 0)) (aCons (eBin dSub (eFl dMdl (eVar 0)) (eC (.int 1))) aNil)))) true (start0 4 [shD m es hs, pl, v]) = bnd (Fi [v, .int 0, .int (m - 1)]) fun x => (tru x).map fun c => .val (.bool (!c)) := rfl
    have x3 : eBin dIx (eFl dEnt (eVar 0)) (eVar 1) false (start0 4 [shD m es hs, pl, v]) = (dIx (.list es) pl).map .val := rfl
    cases ru with
    | cons rp rr =>
      cases rr with
      | cons rv rn =>
        cases rn
        rename_i vp vv
        split at hF
        · rename_i n p hc
          cases hF
          exact ⟨_, _, _, x1.trans hc, gd (Same.refl H), fun cls d H' k1 s1 pk => post cls d H' k1 s1 pk⟩
        · rename_i d0 hc
          refine ⟨_, _, _, x1.trans hc, gd (Same.refl H), fun v0 H1 s1 _ => ?_⟩
          split at hF
          · rename_i hi
            rw [hi] at x2
            refine ⟨_, _, .val (.bool false), x2, gd s1, false, rfl, fun H2 s2 => ?_⟩
            refine if_neg_of Bool.false_ne_true ?_
            split at hF
            · rename_i p
              obtain rfl : vp = .int p := (RpB.of (b := false) (ow := Ow.out O) (Rp.fresh (fun _ _ _ n z => z.elim (fun ⟨i, hi⟩ => hi.elim (fun z => by cases z) fun z => z) n) rp)).int
              split at hF
              · rename_i j hj
                split at hF
                · rename_i old hold
                  split at hF
                  · rename_i hs1
                    cases hF
                    have s12 := s1.trans s2
                    have x4 : dIx (.list es) (.int p) = some old := atI_of hj hold
                    refine ⟨_, _, .val old, x3.trans (by rw [x4]; rfl), gd s12, fun v3 H3 s3 r3 => ?_⟩
                    have s13 := s12.trans s3
                    have t3 := t.same s13
                    obtain ⟨dx, fs, k1, k2, k3, k4, k5, k6⟩ := t3.f
                    obtain ⟨ws, l1, q1⟩ := t3.l1
                    obtain ⟨zs, l2, q2⟩ := t3.l2
                    obtain ⟨nae, nah⟩ := t3.ae
                    refine ⟨vv, rfl, .ref a, rfl, a, _, dx, fs, .ref e, rfl, k1, S.cl, S2.na _ (by decide), k4, .int p, rfl, e, ws, p, j, rfl, rfl, l1, by rw [q1.length]; exact hj, ?_⟩
                    refine ⟨.ref a, rfl, a, _, dx, fs, .ref h, rfl, by rw [upd_ne nae]; exact k1, S.cl, S2.na _ (by decide), k5, .inl ⟨rfl, zs, SqL.of (by rw [upd_ne (Ne.symm t3.ne)]; exact l2)⟩, ?_⟩
                    refine ⟨.int p, rfl, v3, rfl, by show 2 ≤ sizeLine; rw [sizeLine_eq]; omega, fun pt o hpt ho => ?_⟩
                    have npe : pt ≠ e := fun z => by rw [z, upd_same] at hpt; cases hpt
                    have hpt3 : H3 pt = none := by rw [upd_ne npe] at hpt; exact hpt
                    have nph : h ≠ pt := fun z => by rw [← z, l2] at hpt3; cases hpt3
                    refine ⟨h, zs, .ref pt, rfl, rfl, by rw [upd_ne nph, upd_ne (Ne.symm t3.ne)]; exact l2, by rw [q2.length]; exact Nat.lt_of_lt_of_le hs1.2 (by decide), ?_⟩
                    refine ⟨v3, rfl, ?_⟩
                    have kx : KpX e h H3 (upd (upd (upd H3 e (.lst (ws.set j vv))) pt (.frz o (.tup [.int p, v3]))) h (.lst (zs ++ [.ref pt]))) := fun b o' hb n1 n2 => by
                      rw [upd_ne n2, upd_ne (ne_of_none hb hpt3), upd_ne n1]; exact hb
                    have he' : O e ∧ ∃ vs, H3 e = some (.lst vs) := ⟨oe, ws, l1⟩
                    have hh' : O h ∧ ∃ vs, H3 h = some (.lst vs) := ⟨oh, zs, l2⟩
                    have kx0 : KpX e h H (upd (upd (upd H3 e (.lst (ws.set j vv))) pt (.frz o (.tup [.int p, v3]))) h (.lst (zs ++ [.ref pt]))) := fun b o' hb n1 n2 => kx b o' (s13 b o' hb) n1 n2
                    have rv3 : Rp K O (upd (upd (upd H3 e (.lst (ws.set j vv))) pt (.frz o (.tup [.int p, v3]))) h (.lst (zs ++ [.ref pt]))) vv v := Rp.kpx he' hh' kx (Rp.same s13 rv)
                    refine post v3 _ kx0 ⟨⟨dx, fs, kx _ _ k1 nae nah, k2, k3, k4, k5, k6⟩, t3.ne, ⟨_, by rw [upd_ne t3.ne, upd_ne (Ne.symm npe), upd_same], RpAll.set rv3 j (RpAll.kpx he' hh' kx q1)⟩, ⟨_, upd_same, RpAll.append (RpAll.kpx he' hh' kx q2) (.cons (.tup ⟨o, by rw [upd_ne (Ne.symm nph), upd_same], ho⟩ (.cons (.int p) (.cons (r3.rp.scl hs1.1) .nil))) .nil)⟩⟩ (r3.rp.scl hs1.1)
                  · cases hF
                · cases hF
              · cases hF
            · cases hF
          · rename_i hi
            cases hF
            rw [hi] at x2
            refine ⟨_, _, .val (.bool true), x2, gd s1, true, rfl, fun H2 s2 => ?_⟩
            refine if_pos_of rfl ?_
            exact ⟨_, _, _, rfl, gd (s1.trans s2), fun cls d σ' H' k1 kp pk => post cls d H' k1 ((s1.trans s2).trans kp.out) pk⟩
          · cases hF
        · cases hF
  · cases hF
/-- undo -/
def fxUndo : FX := fun m es hs ds => match ds with
  | [] => (match hs.getLast? with
    | none => some (.exc "NothingToUndo" none, es, hs)
    | some (.tuple [.int p, old]) => (match ixN es.length p with
      | some j => some (.val (.int p), es.set j old, hs.dropLast)
      | none => none)
    | _ => none)
  | _ => none
theorem RpAll.dropLast {K : PySem.W.Frag} {O : Addr → Prop} {H : Hp} {vs : List V} {ds : List Dt} (r : RpAll K O H vs ds) : RpAll K O H vs.dropLast ds.dropLast := by
  rw [List.dropLast_eq_take, List.dropLast_eq_take, r.length]
  exact r.take _
theorem undo_sem (S : ShK K) (S2 : ShX K) {vs : List V} (hsp : spX K mg 1 fxUndo vs H Q E) :
    tSeq (tIfS (tT K mg (fun cls d _ H => E cls d H) (eNot (eFl dHis (eVar 0)))) (tS K mg (fun cls d _ H => E cls d H) (sRaise "NothingToUndo")) tNext)
      (tSeq (tAsg (tBM0 K "list" rPop (tFld K (tVar 0) "history")) (gTup K 2 (gCons (gName 1) (gCons (gName 2) gNil))))
      (tSeq (tAsg (tVar 2) (gSub (tFld K (tVar 0) "entries") (tVar 1) rSetL)) (tRet (tVar 1))))
      { nx := fun _ H' => Q .non H', rt := Q } (L2.start ["self", "place", "old"] vs) H := by
  obtain ⟨hlen, a, e, h, m, es, hs, O, us, ds, r, es', hs', rfl, t, ⟨oa, oe, oh⟩, hO, ru, hF, post⟩ := hsp
  have gd : ∀ {H' : Hp}, Same H H' → Good K (Ow.out (Oless O a e h)) (start0 3 (shD m es hs :: ds)) (L2.start ["self", "place", "old"] (.ref a :: us)) H' := fun {H'} s => good_x (N := ["self", "place", "old"]) (t.same s) (fun x z => Same.dom s x (hO x z)) (RpAll.same s ru)
  unfold fxUndo at hF
  split at hF
  · cases ru
    have x1 : eNot (eFl dHis (eVar 0)) true (start0 3 [shD m es hs]) = some (.val (.bool (!(!hs.isEmpty)))) := rfl
    split at hF
    · rename_i hl
      cases hF
      have e0 : hs = [] := List.getLast?_eq_none_iff.mp hl
      subst e0
      refine ⟨_, _, .val (.bool true), x1, gd (Same.refl H), true, rfl, fun H2 s2 => ?_⟩
      refine if_pos_of rfl ?_
      exact ⟨_, _, _, rfl, gd s2, fun cls d σ' H' k1 kp pk => post cls d H' k1 (s2.trans kp.out) pk⟩
    · rename_i p old hl
      split at hF
      · rename_i j hj
        cases hF
        have ne0 : hs ≠ [] := fun z => by rw [z] at hl; cases hl
        have e1 : (!(!hs.isEmpty)) = false := by
          cases hs with
          | nil => exact absurd rfl ne0
          | cons _ _ => rfl
        rw [e1] at x1
        refine ⟨_, _, .val (.bool false), x1, gd (Same.refl H), false, rfl, fun H2 s2 => ?_⟩
        refine if_neg_of Bool.false_ne_true ?_
        have t3 := t.same s2
        obtain ⟨dx, fs, k1, k2, k3, k4, k5, k6⟩ := t3.f
        obtain ⟨ws, l1, q1⟩ := t3.l1
        obtain ⟨zs, l2, q2⟩ := t3.l2
        obtain ⟨nae, nah⟩ := t3.ae
        have hl2 : hs[hs.length - 1]? = some (.tuple [.int p, old]) := by rw [← List.getLast?_eq_getElem?]; exact hl
        obtain ⟨y, hy, ry⟩ := q2.get hl2
        cases ry with
        | tup ft ra =>
          rename_i pt ts
          obtain ⟨o, hft, ho⟩ := ft
          cases ra with
          | cons r1 rr =>
            cases rr with
            | cons r2 rn =>
              cases rn
              cases r1
              rename_i vo
              refine ⟨.ref a, rfl, a, _, dx, fs, .ref h, rfl, k1, S.cl, S2.na _ (by decide), k5, .inl ⟨rfl, zs, SqL.of l2⟩, h, zs, .ref pt, rfl, rfl, l2, by rw [q2.length]; exact hy, ?_⟩
              have nph : pt ≠ h := fun z => by rw [z, l2] at hft; cases hft
              have npe : pt ≠ e := fun z => by rw [z, l1] at hft; cases hft
              refine ⟨pt, [.int p, vo], rfl, .inl (.inr ⟨o, by rw [upd_ne nph]; exact hft⟩), rfl, .int p, [vo], rfl, vo, [], rfl, rfl, ?_⟩
              refine ⟨vo, rfl, .ref a, rfl, a, _, dx, fs, .ref e, rfl, by rw [upd_ne nah]; exact k1, S.cl, S2.na _ (by decide), k4, .int p, rfl, e, ws, p, j, rfl, rfl, by rw [upd_ne t3.ne]; exact l1, by rw [q1.length]; exact hj, ?_⟩
              refine ⟨.int p, rfl, ?_⟩
              have he' : O e ∧ ∃ vs, H2 e = some (.lst vs) := ⟨oe, ws, l1⟩
              have hh' : O h ∧ ∃ vs, H2 h = some (.lst vs) := ⟨oh, zs, l2⟩
              have kx : KpX e h H2 (upd (upd H2 h (.lst zs.dropLast)) e (.lst (ws.set j vo))) := fun b o' hb n1 n2 => by rw [upd_ne n1, upd_ne n2]; exact hb
              refine post (.int p) _ (fun b o' hb n1 n2 => kx b o' (s2 b o' hb) n1 n2) ⟨⟨dx, fs, kx _ _ k1 nae nah, k2, k3, k4, k5, k6⟩, t3.ne, ⟨_, upd_same, RpAll.set (Rp.kpx he' hh' kx r2) j (RpAll.kpx he' hh' kx q1)⟩, ⟨_, by rw [upd_ne (Ne.symm t3.ne), upd_same], RpAll.dropLast (RpAll.kpx he' hh' kx q2)⟩⟩ (.int p)
      · cases hF
    · cases hF
  · cases hF
end
section
variable {G : Gc} {N : List Str} {sc : Scope} {fn : Str → Bool} {k : Nat} {X : Cx} {W : WX} {a : Expr} {f : EF} {st : Stmt} {g : SF}
theorem runE (C : Ctx G N sc fn k X) (tk : Takes X W) (b : Bool) (h : SE G N sc fn k a f) : PE X a (tE X.K X.mg W b f) := h X C W tk b
theorem runL (C : Ctx G N sc fn k X) (tk : Takes X W) (h : SL G N sc fn k a f) : PE X a (tL X.K X.mg W f) := h X C W tk
theorem runT (C : Ctx G N sc fn k X) (tk : Takes X W) (h : ST G N sc fn k a f) : PT X a (tT X.K X.mg W f) := h X C W tk
theorem runS (C : Ctx G N sc fn k X) (T : TopX X) (tk : Takes X W) (hp : PassesOwn (model X.prog X.w) X.A X.env X.xe) (h : SS G N sc fn k st g) : PS X st (tS X.K X.mg W g) := h X C T W tk hp
theorem runA {y : Str} {i : Nat} {p q : Pos} (C : Ctx G N sc fn k X) (tk : Takes X W) (h : SAg G N sc fn k y i a f) : PS X (.Assign [.Name y p] a q) (tAsg (tE X.K X.mg W false f) (gName i)) := h X C W tk p q
end
end PT

namespace PT
open PySem PySem.Spec PyProof.Rows L2
/-! ## an except suite that asks for each class -/
structure StL (H0 : Hp) (l : Addr) (xs : List V) (H : Hp) : Prop where
  here : H l = some (.lst xs)
  new : H0 l = none
  sm : Same H0 H
def DOk (d : Option Addr) (H : Hp) : Prop := d = none ∨ ∃ dd fs, d = some dd ∧ H dd = some (.xd fs)
theorem DOk.same {d : Option Addr} {H H' : Hp} (s : Same H H') (h : DOk d H) : DOk d H' := h.imp id fun ⟨dd, fs, e, q⟩ => ⟨dd, fs, e, s _ _ q⟩
theorem none_of {H H' : Hp} {q : Addr} (s : Same H H') (h : H' q = none) : H q = none := by
  cases e : H q with
  | none => rfl
  | some o => rw [s _ _ e] at h; cases h
def tBX (i : Nat) (a : Addr) (d : Option Addr) (b : Bool) : TE := fun σ H Q => σ[i]? = some (some (.ref a)) ∧ DOk d H ∧ Q (.bl b) H
section
variable {i j : Nat} {a l : Addr} {d : Option Addr} {b1 b2 b3 : Bool} {σ : L2.St} {H0 H : Hp} {Q : VK} {xs : List V} {D : Ends}
theorem x_lst (hs : σ[i]? = some (some (.ref a))) (hd : DOk d H) (q : ∀ p, H p = none → Q (.ref p) (upd H p (.lst [.bl b1, .bl b2, .bl b3]))) :
    tLst (tCons (tBX i a d b1) (tCons (tBX i a d b2) (tCons (tBX i a d b3) tNil))) σ H Q :=
  ⟨hs, hd, hs, hd, hs, hd, by show 3 ≤ sizeLine; rw [sizeLine_eq]; omega, q⟩
theorem x_fst (hs : σ[i]? = some (some (.ref a))) (hd : DOk d H) (q : ∀ p H1, StL H p [.bl b1, .bl b2, .bl b3] H1 → D.nx (σ.set j (some (.ref p))) H1) :
    tAsg (tLst (tCons (tBX i a d b1) (tCons (tBX i a d b2) (tCons (tBX i a d b3) tNil)))) (gName j) D σ H :=
  x_lst hs hd fun p hp => q p _ ⟨upd_same, hp, Same.upd hp⟩
theorem x_cat (hj : σ[j]? = some (some (.ref l))) (hs : σ[i]? = some (some (.ref a))) (hd : DOk d H) (s : StL H0 l xs H) (hl : xs.length ≤ 20) (q : ∀ p H1, StL H0 p (xs ++ [.bl b1, .bl b2, .bl b3]) H1 → D.nx (σ.set j (some (.ref p))) H1) :
    tAsg (tOp rCat (tVar j) (tLst (tCons (tBX i a d b1) (tCons (tBX i a d b2) (tCons (tBX i a d b3) tNil))))) (gName j) D σ H := by
  refine ⟨.ref l, hj, x_lst hs hd fun p hp => ⟨l, p, xs, _, rfl, rfl, by rw [upd_ne (ne_of_none s.here hp)]; exact s.here, upd_same, by rw [sizeLine_eq]; show xs.length + 3 ≤ _; omega, fun r hr => q r _ ⟨upd_same, ?_, ?_⟩⟩⟩
  · exact none_of (s.sm.trans (Same.upd hp)) hr
  · exact (s.sm.trans (Same.upd hp)).trans (Same.upd hr)
theorem StL.push {y : V} (s : StL H0 l xs H) : StL H0 l (xs ++ [y]) (upd H l (.lst (xs ++ [y]))) := ⟨upd_same, s.new, fun b o h => by rw [upd_ne (ne_of_none h s.new)]; exact s.sm _ _ h⟩
theorem StL.back (s : StL H0 l xs H) : Same H0 (del H l) ∧ del H l l = none ∧ upd (del H l) l (.lst xs) = H := by
  refine ⟨fun b o h => by rw [del_ne (ne_of_none h s.new)]; exact s.sm _ _ h, if_pos rfl, ?_⟩
  funext b
  by_cases e : b = l
  · subst e; rw [upd_same, s.here]
  · rw [upd_ne e, del_ne e]
end
def PN : List Str := ["InvalidModulus", "InvalidTable", "InvalidPolynomial", "InvalidForm", "InvalidPlace", "InvalidValue", "InvalidAnswers", "NotPolynomial", "IsPolynomial", "NotPermutation", "TooMany", "ParseError", "NothingToUndo"]
def GN : List Str := "isinstance" :: "ValueError" :: PN
theorem PN_db : ∀ P ∈ PN, (P == ("__debug__" : Str)) = false := by decide
def flg (E : EMT) (n : Str) : List Str → Option (List Bool)
  | [] => some []
  | P :: r => match em E n P, flg E n r with
    | some b, some bs => some (b :: bs)
    | _, _ => none
theorem flg_rel {G : Gc} {E : EMT} (hE : EmOk G E) {n : Str} {C : Addr} (hc : G.mg n = some (.ref C)) : ∀ {l : List Str} {bs : List Bool}, flg E n l = some bs → ∃ fb : Str → Bool, bs = l.map fb ∧ ∀ P ∈ l, em E n P = some (fb P) := by
  intro l bs h
  refine ⟨fun P => (em E n P).getD false, ?_⟩
  induction l generalizing bs with
  | nil => cases h; exact ⟨rfl, fun _ z => nomatch z⟩
  | cons P r ih =>
    unfold flg at h
    split at h
    · rename_i b bs' h1 h2
      cases h
      obtain ⟨e1, e2⟩ := ih h2
      refine ⟨by rw [e1, List.map_cons, h1]; rfl, fun Q hq => ?_⟩
      cases hq with
      | head => show em E n P = some ((em E n P).getD false); rw [h1]; rfl
      | tail _ hq => exact e2 Q hq
    · cases h
theorem RpAll.bools {K : PySem.W.Frag} {O : Addr → Prop} {H : Hp} (fb : Str → Bool) : ∀ l : List Str, RpAll K O H (l.map fun P => .bl (fb P)) ((l.map fb).map .bool)
  | [] => .nil
  | _ :: r => .cons (.bl _) (RpAll.bools fb r)
def N17 : List Str := ["script", "mode", "found", "is_under", "line_here", "e", "at"]
def lnX (E : EMT) (n : Str) (m : Int) (pl : Option Dt) : Option Dt := if m = 11 then (if em E n "ParseError" = some true then pl else none) else some (.str "none")
def aft (ρ : En) (bs : List Bool) (d : Dt) : En := PT.clr (((ρ.set 2 (some (.own (bs.map .bool)))).set 3 (some (.sh (.bool true)))).set 4 (some (.sh d))) [5]
def sTry17 (E : EMT) (f : EF) : SF := fun ρ => match f true ρ with
  | some (.val _) => some (.nx ρ)
  | some (.exc n pl) => (match em E n "TableError", ρ[1]?, flg E n PN with
    | some true, some (some (SV.sh (.int m))), some bs => (match lnX E n m pl with
      | some d => if scl d = true ∧ ρ.length = 7 then some (.nx (aft ρ bs d)) else none
      | none => none)
    | _, _, _ => none)
  | none => none
/-- every known class is under ValueError -/
def UndV (G : Gc) (E : EMT) : Prop := ∀ t ∈ E, ∀ C, G.mg t.1 = some (.ref C) → PySem.W.kitOne G.K (.ref C) (.type "ValueError") = some true
theorem em_in {E : EMT} {n x : Str} {b : Bool} (e : em E n x = some b) : ∃ t ∈ E, t.1 = n := by
  unfold em at e
  cases q : E.find? fun t => t.1 == n && t.2.1 == x with
  | none => rw [q] at e; cases e
  | some t =>
    have h1 := List.find?_some q
    rw [Bool.and_eq_true] at h1
    exact ⟨t, List.mem_of_find?_eq_some q, by simpa using h1.1⟩
/-- what the suite wants -/
def ts17 (X : Cx) (a : Addr) (cls : Value) (d : Option Addr) : TS := fun De σ H => ∃ (C1 : Addr) (fb : Str → Bool) (fD : Str → Addr) (m : Int) (lv : V), cls = .ref C1 ∧ L2.ExcC X.K C1 ∧ (∀ P ∈ PN, X.mg P = some (.ref (fD P)) ∧ PySem.W.kitOne X.K (.ref C1) (.ref (fD P)) = some (fb P)) ∧
  PySem.W.kitOne X.K (.ref C1) (.type "ValueError") = some true ∧ σ[5]? = some (some (.ref a)) ∧ σ[1]? = some (some (.int m)) ∧ σ.length = 7 ∧ DOk d H ∧
  (m = 11 → PySem.W.findIn X.K (.ref C1) "line" = some none ∧ ∃ dd, d = some dd ∧ H dd = some (.xd [(("line" : Str), lv)])) ∧ (m ≠ 11 → lv = .str "none") ∧
  ∀ l H1, StL H l (PN.map fun P => .bl (fb P)) H1 → De.nx (((σ.set 2 (some (.ref l))).set 3 (some (.bl true))).set 4 (some lv)) H1
section
variable {G : Gc} {N : List Str} {sc : Scope} {fn : Str → Bool} {k : Nat} {E : EMT} {f : EF} {b : Expr} {q2 q3 pos hp np bp : Pos} {j1 j2 : Nat}
  {p1 p2 p3 p4 p5 p6 p7 p8 p9 p10 p11 p12 p13 p14 p15 p16 p17 p18 p19 p20 p21 p22 p23 p24 p25 p26 p27 p28 p29 p30 p31 p32 p33 p34 p35 p36 p37 p38 p39 p40 p41 p42 p43 p44 p45 p46 p47 p48 p49 p50 p51 p52 p53 p54 p55 p56 p57 p58 p59 p60 p61 p62 p63 p64 p65 p66 p67 p68 p69 p70 p71 p72 p73 p74 p75 p76 p77 p78 p79 p80 p81 p82 p83 p84 p85 p86 p87 : Pos}
theorem suite17 {X : Cx} (C : Ctx G N17 sc (fun _ => true) k X) (hmi : G.mg "isinstance" = none) (hmv : G.mg "ValueError" = none) (hgl : ∀ x ∈ GN, GL sc x) (hve : Vis sc "e") (hvf : Vis sc "found") (hvm : Vis sc "mode") (hlf : Loc sc "found") (hlu : Loc sc "is_under") (hll : Loc sc "line_here") (hln : (q2.endLine == q3.line) = true)
    (a : Addr) (oe : Obj) (cls : Value) (d : Option Addr) (pn : List (Addr × Obj)) (hz : Zc cls d oe) (hfl : ∃ vs, oe.data = .fields vs) : PSs (X.suite a ((a, oe) :: pn)) [.Assign [.Name "found" p1] (.List [.Call (.Name "isinstance" p2) [.Name "e" p3, .Name "InvalidModulus" p4] [] p5, .Call (.Name "isinstance" p6) [.Name "e" p7, .Name "InvalidTable" p8] [] p9, .Call (.Name "isinstance" p10) [.Name "e" p11, .Name "InvalidPolynomial" p12] [] p13] p14) p15,
      .Assign [.Name "found" p16] (.BinOp (.Name "found" p17) .Add (.List [.Call (.Name "isinstance" p18) [.Name "e" p19, .Name "InvalidForm" p20] [] p21, .Call (.Name "isinstance" p22) [.Name "e" p23, .Name "InvalidPlace" p24] [] p25, .Call (.Name "isinstance" p26) [.Name "e" p27, .Name "InvalidValue" p28] [] p29] p30) p31) p32,
      .Assign [.Name "found" p33] (.BinOp (.Name "found" p34) .Add (.List [.Call (.Name "isinstance" p35) [.Name "e" p36, .Name "InvalidAnswers" p37] [] p38, .Call (.Name "isinstance" p39) [.Name "e" p40, .Name "NotPolynomial" p41] [] p42, .Call (.Name "isinstance" p43) [.Name "e" p44, .Name "IsPolynomial" p45] [] p46] p47) p48) p49,
      .Assign [.Name "found" p50] (.BinOp (.Name "found" p51) .Add (.List [.Call (.Name "isinstance" p52) [.Name "e" p53, .Name "NotPermutation" p54] [] p55, .Call (.Name "isinstance" p56) [.Name "e" p57, .Name "TooMany" p58] [] p59, .Call (.Name "isinstance" p60) [.Name "e" p61, .Name "ParseError" p62] [] p63] p64) p65) p66,
      .Expr (.Call (.Attribute (.Name "found" p67) "append" q2) [.Call (.Name "isinstance" p68) [.Name "e" p69, .Name "NothingToUndo" p70] [] p71] [] q3) p72,
      .Assign [.Name "is_under" p73] (.Call (.Name "isinstance" p74) [.Name "e" p75, .Name "ValueError" p76] [] p77) p78,
      .Assign [.Name "line_here" p79] (.IfExp (.Compare (.Name "mode" p80) [.Eq] [.Constant (.int 11) j1 p81] p82) (.Attribute (.Name "e" p83) "line" p84) (.Constant (.str "none") j2 p85) p86) p87] (ts17 X a cls d) := by
  refine ⟨fun pins s σ H De I h => ?_⟩
  obtain ⟨C1, fb, fD, m, lv, rfl, hC, hP, hV, hσ, hσm, hlen, hd, h11, hn11, hq⟩ := h
  have hg : ∀ {x : Str}, x ∈ GN → Gl (X.suite a ((a, oe) :: pn)) x := fun {x} h => by
    show X.env.scope.names.lookup x = _
    rw [C.hsc]; exact hgl x h
  have hm1 : (X.suite a ((a, oe) :: pn)).mg "isinstance" = none := by show X.mg _ = none; rw [C.hmg]; exact hmi
  have hm2 : (X.suite a ((a, oe) :: pn)).mg "ValueError" = none := by show X.mg _ = none; rw [C.hmg]; exact hmv
  have pv : ∀ (i : Nat) (x : Str) (q : Pos), N17[i]? = some x → Vis sc x → (x == ("__debug__" : Str)) = false → (x == ("__classdict__" : Str)) = false → PE (X.suite a ((a, oe) :: pn)) (.Name x q) (tVar i) := fun i x q hi hv h1 h2 => pe_var (by show X.N[i]? = _; rw [C.hN]; exact hi) (by show Vis X.env.scope x; rw [C.hsc]; exact hv) h1 h2
  have cI : ∀ (P : Str) (hP0 : P ∈ PN) {r1 r2 r3 r4 : Pos}, PE (X.suite a ((a, oe) :: pn)) (.Call (.Name "isinstance" r1) [.Name "e" r2, .Name P r3] [] r4) (tBX 5 a d (fb P)) := fun P hP0 {r1 r2 r3 r4} => by
    obtain ⟨z1, z2⟩ := hP P hP0
    have hdb := PN_db P hP0
    refine PE.imp (pe_callB (call_isED hC hz hfl) (hg (by decide)) hm1 boot_isinstance (pa_cons (pv 5 "e" r2 rfl hve rfl rfl) (pa_cons (pe_glob (v := .ref (fD P)) (hg (List.mem_cons_of_mem _ (List.mem_cons_of_mem _ hP0))) z1 rfl hdb) pa_nil))) fun σ H Q h => ?_
    exact ⟨.ref a, h.1, h.2.1, .ref (fD P), .ref (fD P), fb P, rfl, fun u hu => hu, z2, h.2.2⟩
  have cV : ∀ {r1 r2 r3 r4 : Pos}, PE (X.suite a ((a, oe) :: pn)) (.Call (.Name "isinstance" r1) [.Name "e" r2, .Name "ValueError" r3] [] r4) (tBX 5 a d true) := fun {r1 r2 r3 r4} => by
    refine PE.imp (pe_callB (call_isED hC hz hfl) (hg (by decide)) hm1 boot_isinstance (pa_cons (pv 5 "e" r2 rfl hve rfl rfl) (pa_cons (pe_bltn (v := .ty "ValueError") (hg (by decide)) hm2 (by decide +kernel) rfl) pa_nil))) fun σ H Q h => ?_
    exact ⟨.ref a, h.1, h.2.1, .ty "ValueError", .type "ValueError", true, rfl, fun u hu => hu, hV, h.2.2⟩
  have hN : (X.suite a ((a, oe) :: pn)).N.Nodup := by show X.N.Nodup; rw [C.hN]; exact C.nd
  have hNi : ∀ {i : Nat} {x : Str}, N17[i]? = some x → (X.suite a ((a, oe) :: pn)).N[i]? = some x := fun h => by show X.N[_]? = _; rw [C.hN]; exact h
  have hLo : ∀ {x : Str}, Loc sc x → Loc (X.suite a ((a, oe) :: pn)).env.scope x := fun h => by show Loc X.env.scope _; rw [C.hsc]; exact h
  have hfn : ∀ x, (X.suite a ((a, oe) :: pn)).fn x = true ∨ (X.suite a ((a, oe) :: pn)).env.scope.names.lookup x = some .local := fun x => .inl (by show X.fn x = true; rw [C.hfn])
  have hdec : ∀ P : Str, P ∈ PN → P ∈ PN := fun _ h => h
  have cL : ∀ {r1 r2 r3 r4 r5 r6 r7 r8 : Pos} {i1 i2 : Nat}, PE (X.suite a ((a, oe) :: pn)) (.IfExp (.Compare (.Name "mode" r1) [.Eq] [.Constant (.int 11) i1 r2] r3) (.Attribute (.Name "e" r4) "line" r5) (.Constant (.str "none") i2 r6) r7) (fun σ H Q => σ[5]? = some (some (.ref a)) ∧ σ[1]? = some (some (.int m)) ∧
      (m = 11 → ∃ dd, d = some dd ∧ H dd = some (.xd [(("line" : Str), lv)])) ∧ Q lv H) := fun {r1 r2 r3 r4 r5 r6 r7 r8 i1 i2} => by
    refine ⟨fun pins s σ H Q I h => ?_⟩
    have pm := pt_cmp (pos := r3) (pc_eqI (pv 1 "mode" r1 rfl hvm rfl rfl) (pe_int (i := 11) (j := i1) (pos := r2)))
    by_cases e11 : m = 11
    · obtain ⟨hno, _⟩ := h11 e11
      obtain ⟨h1, h2, h3, h4⟩ := h
      obtain ⟨dd, rfl, hH⟩ := h3 e11
      have all := pe_ifExp (pos := r7) pm (pe_xf (pos := r5) ⟨hC.hg, hC.hk, hC.hs, hC.hd⟩ hno hz hfl (pv 5 "e" r4 rfl hve rfl rfl)) (pe_str (x := "none") (j := i2) (pos := r6))
      refine all.run pins s σ H Q I ?_
      refine ⟨.int m, h2, m, 11, rfl, rfl, _, rfl, ?_⟩
      refine if_pos_of (decide_eq_true e11) ?_
      exact ⟨.ref a, h1, rfl, rfl, dd, _, lv, rfl, hH, rfl, h4⟩
    · obtain ⟨h1, h2, h3, h4⟩ := h
      have nv : PE (X.suite a ((a, oe) :: pn)) (.Attribute (.Name "e" r4) "line" r5) (fun _ _ _ => False) := ⟨fun _ _ _ _ _ _ z => z.elim⟩
      have all := pe_ifExp (pos := r7) pm nv (pe_str (x := "none") (j := i2) (pos := r6))
      refine all.run pins s σ H Q I ?_
      refine ⟨.int m, h2, m, 11, rfl, rfl, _, rfl, ?_⟩
      refine if_neg_of (by rw [decide_eq_true_eq]; exact e11) ?_
      rw [hn11 e11] at h4
      exact h4

  have all : PSs (X.suite a ((a, oe) :: pn)) [.Assign [.Name "found" p1] (.List [.Call (.Name "isinstance" p2) [.Name "e" p3, .Name "InvalidModulus" p4] [] p5, .Call (.Name "isinstance" p6) [.Name "e" p7, .Name "InvalidTable" p8] [] p9, .Call (.Name "isinstance" p10) [.Name "e" p11, .Name "InvalidPolynomial" p12] [] p13] p14) p15,
      .Assign [.Name "found" p16] (.BinOp (.Name "found" p17) .Add (.List [.Call (.Name "isinstance" p18) [.Name "e" p19, .Name "InvalidForm" p20] [] p21, .Call (.Name "isinstance" p22) [.Name "e" p23, .Name "InvalidPlace" p24] [] p25, .Call (.Name "isinstance" p26) [.Name "e" p27, .Name "InvalidValue" p28] [] p29] p30) p31) p32,
      .Assign [.Name "found" p33] (.BinOp (.Name "found" p34) .Add (.List [.Call (.Name "isinstance" p35) [.Name "e" p36, .Name "InvalidAnswers" p37] [] p38, .Call (.Name "isinstance" p39) [.Name "e" p40, .Name "NotPolynomial" p41] [] p42, .Call (.Name "isinstance" p43) [.Name "e" p44, .Name "IsPolynomial" p45] [] p46] p47) p48) p49,
      .Assign [.Name "found" p50] (.BinOp (.Name "found" p51) .Add (.List [.Call (.Name "isinstance" p52) [.Name "e" p53, .Name "NotPermutation" p54] [] p55, .Call (.Name "isinstance" p56) [.Name "e" p57, .Name "TooMany" p58] [] p59, .Call (.Name "isinstance" p60) [.Name "e" p61, .Name "ParseError" p62] [] p63] p64) p65) p66,
      .Expr (.Call (.Attribute (.Name "found" p67) "append" q2) [.Call (.Name "isinstance" p68) [.Name "e" p69, .Name "NothingToUndo" p70] [] p71] [] q3) p72,
      .Assign [.Name "is_under" p73] (.Call (.Name "isinstance" p74) [.Name "e" p75, .Name "ValueError" p76] [] p77) p78,
      .Assign [.Name "line_here" p79] (.IfExp (.Compare (.Name "mode" p80) [.Eq] [.Constant (.int 11) j1 p81] p82) (.Attribute (.Name "e" p83) "line" p84) (.Constant (.str "none") j2 p85) p86) p87] _ := pss_cons (ps_set hN (hNi (i := 2) rfl) (hLo hlf) (pe_lst (pa_cons (cI "InvalidModulus" (by decide)) (pa_cons (cI "InvalidTable" (by decide)) (pa_cons (cI "InvalidPolynomial" (by decide)) pa_nil)))) rfl (hfn _)) (pss_cons (ps_set hN (hNi (i := 2) rfl) (hLo hlf) (pe_op op_cat (pv 2 "found" _ rfl hvf rfl rfl) (pe_lst (pa_cons (cI "InvalidForm" (by decide)) (pa_cons (cI "InvalidPlace" (by decide)) (pa_cons (cI "InvalidValue" (by decide)) pa_nil))))) rfl (hfn _)) (pss_cons (ps_set hN (hNi (i := 2) rfl) (hLo hlf) (pe_op op_cat (pv 2 "found" _ rfl hvf rfl rfl) (pe_lst (pa_cons (cI "InvalidAnswers" (by decide)) (pa_cons (cI "NotPolynomial" (by decide)) (pa_cons (cI "IsPolynomial" (by decide)) pa_nil))))) rfl (hfn _)) (pss_cons (ps_set hN (hNi (i := 2) rfl) (hLo hlf) (pe_op op_cat (pv 2 "found" _ rfl hvf rfl rfl) (pe_lst (pa_cons (cI "NotPermutation" (by decide)) (pa_cons (cI "TooMany" (by decide)) (pa_cons (cI "ParseError" (by decide)) pa_nil))))) rfl (hfn _)) (pss_cons (ps_expr (pe_bm PySem.F.plainAttrs_list PySem.F.slot_list_append PySem.F.type_list_append mt_append (pv 2 "found" _ rfl hvf rfl rfl) (pa_cons (cI "NothingToUndo" (by decide)) pa_nil) rfl rfl hln rfl rfl)) (pss_cons (ps_set hN (hNi (i := 3) rfl) (hLo hlu) cV rfl (hfn _)) (pss_one (ps_set hN (hNi (i := 4) rfl) (hLo hll) (cL (r8 := p1)) rfl (hfn _))))))))
  refine all.run pins s σ H De I ?_
  have s5 : ∀ {x : Option V}, (σ.set 2 x)[5]? = some (some (.ref a)) := fun {x} => by rw [List.getElem?_set_ne (by decide)]; exact hσ
  have s2 : ∀ {x : V}, (σ.set 2 (some x))[2]? = some (some x) := fun {x} => List.getElem?_set_self (by omega)
  refine x_fst hσ hd fun l1 H1 t1 => ?_
  refine x_cat s2 s5 (hd.same t1.sm) t1 (by show 3 ≤ 20; omega) fun l2 H2 t2 => ?_
  rw [List.set_set]
  refine x_cat s2 s5 (hd.same t2.sm) t2 (by show 6 ≤ 20; omega) fun l3 H3 t3 => ?_
  rw [List.set_set]
  refine x_cat s2 s5 (hd.same t3.sm) t3 (by show 9 ≤ 20; omega) fun l4 H4 t4 => ?_
  rw [List.set_set]
  refine ⟨_, s2, .inl ⟨rfl, _, SqL.of t4.here⟩, s5, hd.same t4.sm, l4, _, _, rfl, rfl, t4.here, by rw [sizeLine_eq]; show 12 < _; omega, ?_⟩
  have t5 := t4.push (y := .bl (fb "NothingToUndo"))
  refine ⟨s5, hd.same t5.sm, ?_⟩
  refine ⟨by rw [List.getElem?_set_ne (by decide)]; exact s5, by rw [List.getElem?_set_ne (by decide), List.getElem?_set_ne (by decide)]; exact hσm, fun e => ?_, hq _ _ t5⟩
  obtain ⟨_, dd, e1, e2⟩ := h11 e
  exact ⟨dd, e1, t5.sm _ _ e2⟩

theorem ss_try17 (B : Bi G) (hE : EmOk G E) (hU : UndV G E) (hmv : G.mg "ValueError" = none) (hno : ∀ n C, em E n "ParseError" = some true → G.mg n = some (.ref C) → PySem.W.findIn G.K (.ref C) "line" = some none) (hxD : ∃ C, G.mg "TableError" = some (.ref C)) (hb : SE G N17 sc (fun _ => true) k b f)
    (hgl : ∀ x ∈ ("TableError" : Str) :: GN, GL sc x) (hve : sc.names.lookup ("e" : Str) = some .local) (hvf : Vis sc "found") (hvm : Vis sc "mode") (hlf : Loc sc "found") (hlu : Loc sc "is_under") (hll : Loc sc "line_here") (hln : (q2.endLine == q3.line) = true := by rfl)
    (hs : ∀ (l : Nat) (env : PySem.Env), swapsWith b none l env = pure false := by intro _ _; rfl) :
    SS G N17 sc (fun _ => true) k (.Try [.Expr b bp] [.ExceptHandler (some (.Name "TableError" np)) (some "e") [.Assign [.Name "found" p1] (.List [.Call (.Name "isinstance" p2) [.Name "e" p3, .Name "InvalidModulus" p4] [] p5, .Call (.Name "isinstance" p6) [.Name "e" p7, .Name "InvalidTable" p8] [] p9, .Call (.Name "isinstance" p10) [.Name "e" p11, .Name "InvalidPolynomial" p12] [] p13] p14) p15,
      .Assign [.Name "found" p16] (.BinOp (.Name "found" p17) .Add (.List [.Call (.Name "isinstance" p18) [.Name "e" p19, .Name "InvalidForm" p20] [] p21, .Call (.Name "isinstance" p22) [.Name "e" p23, .Name "InvalidPlace" p24] [] p25, .Call (.Name "isinstance" p26) [.Name "e" p27, .Name "InvalidValue" p28] [] p29] p30) p31) p32,
      .Assign [.Name "found" p33] (.BinOp (.Name "found" p34) .Add (.List [.Call (.Name "isinstance" p35) [.Name "e" p36, .Name "InvalidAnswers" p37] [] p38, .Call (.Name "isinstance" p39) [.Name "e" p40, .Name "NotPolynomial" p41] [] p42, .Call (.Name "isinstance" p43) [.Name "e" p44, .Name "IsPolynomial" p45] [] p46] p47) p48) p49,
      .Assign [.Name "found" p50] (.BinOp (.Name "found" p51) .Add (.List [.Call (.Name "isinstance" p52) [.Name "e" p53, .Name "NotPermutation" p54] [] p55, .Call (.Name "isinstance" p56) [.Name "e" p57, .Name "TooMany" p58] [] p59, .Call (.Name "isinstance" p60) [.Name "e" p61, .Name "ParseError" p62] [] p63] p64) p65) p66,
      .Expr (.Call (.Attribute (.Name "found" p67) "append" q2) [.Call (.Name "isinstance" p68) [.Name "e" p69, .Name "NothingToUndo" p70] [] p71] [] q3) p72,
      .Assign [.Name "is_under" p73] (.Call (.Name "isinstance" p74) [.Name "e" p75, .Name "ValueError" p76] [] p77) p78,
      .Assign [.Name "line_here" p79] (.IfExp (.Compare (.Name "mode" p80) [.Eq] [.Constant (.int 11) j1 p81] p82) (.Attribute (.Name "e" p83) "line" p84) (.Constant (.str "none") j2 p85) p86) p87] hp] [] [] pos) (sTry17 E f) := fun X C T W tk hpo => by
  obtain ⟨Dx, hDx⟩ := hxD
  refine PS.imp (ps_tryAs (l := [(.ref Dx, 5, ts17 X)]) (tb := fun W => tDrop (tE X.K X.mg W true f)) T.stk T.fr (by rw [C.hN]; exact C.nd) tk (fun W' pn xe tk' hp' => pss_one (ps_expr (hb (X.tr pn xe) ⟨C.hP, C.hw, C.hK, C.hmg, C.hb, C.hN, C.nd, C.hsc, C.hfn, C.calm, C.room⟩ W' tk' true) (hs _ _)))
    (.cons (by rw [C.hN]; rfl) (by show X.env.scope.names.lookup ("e" : Str) = _; rw [C.hsc]; exact hve) ⟨C.gl (hgl _ List.mem_cons_self), by decide, .inl (by rw [C.hmg]; exact hDx)⟩ (fun a oe cls d pn hz hfl => suite17 (X := X) C B.isinstance hmv (fun x hx => hgl x (List.mem_cons_of_mem _ hx)) (.inl hve) hvf hvm hlf hlu hll hln a oe cls d pn hz hfl) .nil)) fun D σ H h => ?_
  obtain ⟨ρ, ow, o, he, gd, post⟩ := h
  unfold sTry17 at he
  cases hf : f true ρ with
  | none => rw [hf] at he; cases he
  | some r =>
    rw [hf] at he
    cases r with
    | val d =>
      cases he
      exact ⟨ρ, ow, _, hf, gd, fun v H' s q => post ow σ H' (Same.stp s) (gd.same s)⟩
    | exc n pl =>
      refine ⟨ρ, ow, _, hf, gd, fun cls d H' hc sm pk => ?_⟩
      simp only at he
      split at he
      · rename_i m bs hT hM hF
        split at he
        · rename_i dl hL
          split at he
          · rename_i hsl
            obtain ⟨hs, h7⟩ := hsl
            cases he
            obtain ⟨C1, D1, rfl, m1, x1, _, xc⟩ := em_pe hE hT (by rw [← C.hmg]; exact hc)
            rw [hDx] at m1
            cases m1
            have hc1 : G.mg n = some (.ref C1) := by rw [← C.hmg]; exact hc
            refine ⟨true, by rw [C.hK]; exact x1, fun _ hlt a na => ?_, fun z => nomatch z⟩
            obtain ⟨fb, rfl, hfb⟩ := flg_rel hE hc1 hF
            have hrel : ∀ P ∈ PN, ∃ D2, X.mg P = some (.ref D2) ∧ PySem.W.kitOne X.K (.ref C1) (.ref D2) = some (fb P) := fun P hP => by
              obtain ⟨C2, D2, e2, m2, _, y2, _⟩ := em_pe hE (hfb P hP) hc1
              cases e2
              exact ⟨D2, by rw [C.hmg]; exact m2, by rw [C.hK]; exact y2⟩
            have hfD : ∃ fD : Str → Addr, ∀ P ∈ PN, X.mg P = some (.ref (fD P)) ∧ PySem.W.kitOne X.K (.ref C1) (.ref (fD P)) = some (fb P) :=
              ⟨fun P => if h : P ∈ PN then (hrel P h).choose else C1, fun P hP => by
                show X.mg P = some (.ref (if h : P ∈ PN then (hrel P h).choose else C1)) ∧ PySem.W.kitOne X.K (.ref C1) (.ref (if h : P ∈ PN then (hrel P h).choose else C1)) = some (fb P)
                rw [dif_pos hP]
                exact (hrel P hP).choose_spec⟩
            obtain ⟨fD, hfD⟩ := hfD
            obtain ⟨vm, hvm1, hvm2⟩ := gd.slot 1 _ hM
            have hvm3 : vm = .int m := by cases hvm2; rfl
            subst hvm3
            have hlen : σ.length = 7 := by rw [← gd.len]; exact h7
            have hlv : ∃ lv : V, (m = 11 → PySem.W.findIn X.K (.ref C1) "line" = some none ∧ ∃ dd, d = some dd ∧ H' dd = some (.xd [(("line" : Str), lv)])) ∧ (m ≠ 11 → lv = .str "none") ∧ ∀ O H2, Rp X.K O H2 lv dl := by
              unfold lnX at hL
              by_cases e : m = 11
              · rw [if_pos e] at hL
                split at hL
                · rename_i hpe
                  subst hL
                  obtain ⟨da, v, rfl, hH, rv⟩ := pk
                  exact ⟨v, fun _ => ⟨by rw [C.hK]; exact hno n C1 hpe hc1, da, rfl, hH⟩, fun z => absurd e z, fun O H2 => rv.scl hs⟩
                · cases hL
              · rw [if_neg e] at hL
                cases hL
                exact ⟨.str "none", fun z => absurd z e, fun _ => rfl, fun O H2 => .str _⟩
            obtain ⟨lv, l1, l2, l3⟩ := hlv
            have hdo : DOk d H' := by
              cases pl with
              | none => exact .inl pk
              | some x =>
                obtain ⟨da, v, rfl, hH, rv⟩ := pk
                exact .inr ⟨da, _, rfl, hH⟩
            obtain ⟨t0, ht0, et0⟩ := em_in hT
            refine ⟨C1, fb, fD, m, lv, rfl, by rw [C.hK]; exact xc, hfD, by rw [C.hK]; exact hU t0 ht0 C1 (by rw [et0]; exact hc1), List.getElem?_set_self hlt, by rw [List.getElem?_set_ne (by decide)]; exact hvm1, by rw [List.length_set]; exact hlen, hdo, l1, l2, fun l H1 st => ?_⟩
            obtain ⟨b1, b2, b3⟩ := st.back
            have sm1 : Same H (del H1 l) := sm.trans b1
            have g1 := (gd.same sm1).setO (i := 2) (p := l) (vs := PN.map fun P => .bl (fb P)) (ds := (PN.map fb).map .bool) (by rw [gd.len, hlen]; decide) b2 (RpAll.bools _ _)
            rw [b3] at g1
            have g2 := (g1.setA (i := 3) (.bl true)).setA (i := 4) (l3 _ _)
            have g3 := (g2.clr [5]).blk Ow.clr_none
            have stp1 : Stp ow H (ow.put 2 l) H1 := by
              have z := (Same.stp (ow := ow) sm1).trans (Ow.put_stp (i := 2) (o := .lst (PN.map fun P => .bl (fb P))) b2)
              rw [b3] at z
              exact z
            show D.nx ((((((σ.set 5 (some (.ref a))).set 2 (some (.ref l))).set 3 (some (.bl true))).set 4 (some lv))).set 5 none) H1
            have eσ : ((((((σ.set 5 (some (.ref a))).set 2 (some (.ref l))).set 3 (some (.bl true))).set 4 (some lv))).set 5 none) = (((σ.set 2 (some (.ref l))).set 3 (some (.bl true))).set 4 (some lv)).set 5 none := by
              rw [List.set_comm _ _ (show (5 : Nat) ≠ 2 by decide), List.set_comm _ _ (show (5 : Nat) ≠ 3 by decide), List.set_comm _ _ (show (5 : Nat) ≠ 4 by decide), List.set_set]
            rw [eσ]
            refine post _ _ H1 (((stp1.trans (Ow.clr_stp _ [3] _)).trans (Ow.clr_stp _ [4] _)).trans (Ow.clr_stp _ [5] _)) ?_
            have ec : PT.clr (PT.clr (((ρ.set 2 (some (.own ((PN.map fb).map .bool)))).set 3 (some (.sh (.bool true)))).set 4 (some (.sh dl))) [5]) [5] = aft ρ (PN.map fb) dl := by
              unfold aft
              exact List.set_set _
            rw [← ec]
            exact g3
          · cases he
        · cases he
      · cases he
end
end PT

namespace PT
open PySem PySem.Spec PyProof.Rows L2
/-! ## what the head checks of the class Sheet -/
def tyB : List String := ["int", "bool", "str", "tuple", "list"]
def tyC : List String := ["NoneType", "bool", "int", "str", "list", "tuple"]
def fldL : List Str := ["modulus", "entries", "history"]
def shB (K : PySem.W.Frag) : Bool := (He.Fa.cls "Sheet").ok K && (He.eqO (PySem.W.findIn K (.ref (He.ga K "Sheet")) "__class__") (some (some (.builtin "object.__class__"))) && (He.eqO (PySem.W.specialIn K (.builtin "object.__class__") "__get__") (some (some (.builtin "getset_descriptor.__get__"))) &&
  (decide (PySem.W.takesIn K (.builtin "object.__class__") = some true) && (decide (PySem.W.mroIn K (He.ga K "Sheet") (.type "object") = some true) && tyB.all fun T => decide (PySem.W.kitOne K (.ref (He.ga K "Sheet")) (.type T) = some false)))))
theorem shB_ok {K : PySem.W.Frag} (h : shB K = true) : ShK K := by
  unfold shB at h
  simp only [Bool.and_eq_true, decide_eq_true_eq] at h
  obtain ⟨h1, h2, h3, h4, h5, h6⟩ := h
  exact ⟨He.cls_ok h1, He.eqO_ok h2, He.eqO_ok h3, h4, h5, fun T hT => of_decide_eq_true (List.all_eq_true.mp h6 T hT)⟩
def shXB (K : PySem.W.Frag) : Bool := fldL.all (fun f => (He.Fa.noat "Sheet" f).ok K) && (decide (PySem.W.kitOne K (.ref (He.ga K "Sheet")) (.ref (He.ga K "Sheet")) = some true) && tyC.all fun T => decide (PySem.W.kitOne K (.type T) (.ref (He.ga K "Sheet")) = some false))
theorem shXB_ok {K : PySem.W.Frag} (h : shXB K = true) : ShX K := by
  unfold shXB at h
  simp only [Bool.and_eq_true, decide_eq_true_eq] at h
  obtain ⟨h1, h2, h3⟩ := h
  exact ⟨fun f hf => He.noat_ok (List.all_eq_true.mp h1 f hf), h2, fun T hT => of_decide_eq_true (List.all_eq_true.mp h3 T hT)⟩
def undB (E : EMT) (K : PySem.W.Frag) : Bool := E.all fun t => He.eqO (PySem.W.nsIn K mainGlobals t.1) (some (some (.ref (He.ga K t.1)))) && decide (PySem.W.kitOne K (.ref (He.ga K t.1)) (.type "ValueError") = some true)
theorem undB_ok {P : Program} {w : World} {K : PySem.W.Frag} {h base : Heap} {mg : Str → Option Value} {E : EMT} (X : K.In h) (G : h.Ns mainGlobals mg) (c : undB E K = true) : UndV ⟨P, w, K, mg, base⟩ E := fun t ht C hC => by
  have h1 := List.all_eq_true.mp c t ht
  simp only [Bool.and_eq_true, decide_eq_true_eq] at h1
  obtain ⟨a1, a2⟩ := h1
  have e := hC.symm.trans (PySem.W.mg_of X G (He.eqO_ok a1))
  cases e
  exact a2
end PT

namespace PT
open PySem PySem.Spec PyProof.Rows L2
/-! ## sheets that a slot owns: made, changed, looked at -/
def Ow.putS (ow : Ow) (i : Nat) (x e h : Addr) : Ow := { ow with f := fun j => if j = i then none else ow.f j, g := fun j a => if j = i then (a = x ∨ a = e ∨ a = h) else ow.g j a }
section
variable {K : PySem.W.Frag} {ow : Ow} {ρ : En} {σ : L2.St} {H H' : Hp} {i : Nat} {x e h : Addr} {m : Int} {es hs es' hs' : List Dt}
theorem putS_f {j : Nat} {a : Addr} (q : (ow.putS i x e h).f j = some a) : j ≠ i ∧ ow.f j = some a := by
  have q : (if j = i then none else ow.f j) = some a := q
  split at q
  · cases q
  · rename_i n; exact ⟨n, q⟩
theorem putS_g {j : Nat} {a : Addr} (q : (ow.putS i x e h).g j a) : (j = i ∧ (a = x ∨ a = e ∨ a = h)) ∨ (j ≠ i ∧ ow.g j a) := by
  have q : (if j = i then (a = x ∨ a = e ∨ a = h) else ow.g j a) := q
  split at q
  · rename_i n; exact .inl ⟨n, q⟩
  · rename_i n; exact .inr ⟨n, q⟩
theorem putS_at {a : Addr} (q : a = x ∨ a = e ∨ a = h) : (ow.putS i x e h).g i a := by
  show (if i = i then (a = x ∨ a = e ∨ a = h) else ow.g i a)
  rw [if_pos rfl]; exact q
theorem putS_ne {j : Nat} {a : Addr} (n : j ≠ i) (q : ow.g j a) : (ow.putS i x e h).g j a := by
  show (if j = i then (a = x ∨ a = e ∨ a = h) else ow.g j a)
  rw [if_neg n]; exact q
theorem Good.newS (g : Good K ow ρ σ H) (hi : i < ρ.length) (s : Same H H') (hx : H x = none) (he : H e = none) (hh : H h = none) (t : ∀ O, At3 K O H' x e h m es hs) :
    Good K (ow.putS i x e h) (ρ.set i (some (.sht m es hs))) (σ.set i (some (.ref x))) H' ∧ Stp ow H (ow.putS i x e h) H' := by
  have hn : ∀ {a : Addr}, a = x ∨ a = e ∨ a = h → H a = none := fun {a} q => by rcases q with rfl | rfl | rfl <;> assumption
  have st : Stp ow H (ow.putS i x e h) H' := ⟨Same.kp s, fun a ⟨j, hj⟩ => by
    rcases hj with hj | hj
    · exact .inl ⟨j, .inl (putS_f hj).2⟩
    · rcases putS_g hj with ⟨_, q⟩ | ⟨_, q⟩
      · exact .inr (hn q)
      · exact .inl ⟨j, .inr q⟩, rfl⟩
  have ok2 := g.ok.same s
  refine ⟨⟨by rw [List.length_set, List.length_set]; exact g.len, fun j l a h1 h2 => g.inj j l a (putS_f h1).2 (putS_f h2).2, ⟨fun j a q => ok2.lst j a (putS_f q).2, ok2.ext, fun j a q => ?_⟩, fun j a q => g.disj j a (putS_f q).2, fun j sv q => ?_, fun j a q => ?_, fun j l a h1 h2 => ?_, fun j l a h1 h2 => ?_, fun j a q => ?_, fun j a q => ?_⟩, st⟩
  · rcases putS_g q with ⟨_, q⟩ | ⟨_, q⟩
    · obtain ⟨dx, fs, k1, _⟩ := (t NoO).f
      obtain ⟨vs, k2, _⟩ := (t NoO).l1
      obtain ⟨ws, k3, _⟩ := (t NoO).l2
      rcases q with rfl | rfl | rfl
      · exact .inr ⟨_, _, _, k1⟩
      · exact .inl ⟨_, k2⟩
      · exact .inl ⟨_, k3⟩
    · exact ok2.gs j a q
  · by_cases n : j = i
    · subst n
      rw [List.getElem?_set_self hi] at q
      cases q
      obtain ⟨vs, k2, r2⟩ := (t (OA (ow.putS j x e h))).l1
      obtain ⟨ws, k3, r3⟩ := (t (OA (ow.putS j x e h))).l2
      exact ⟨.ref x, List.getElem?_set_self (by rw [← g.len]; exact hi), x, e, h, vs, ws, rfl, putS_at (.inl rfl), putS_at (.inr (.inl rfl)), putS_at (.inr (.inr rfl)), (t NoO).ne, (t NoO).f, k2, k3, r2, r3⟩
    · rw [List.getElem?_set_ne (Ne.symm n)] at q
      obtain ⟨v, hv, sk⟩ := g.slot j sv q
      refine ⟨v, by rw [List.getElem?_set_ne (Ne.symm n)]; exact hv, sk.stp g.ok st (fun _ _ => ?_) (fun a _ o z => s a o z) fun a ha => ⟨putS_ne n ha, fun o z => s a o z⟩⟩
      show (if j = i then none else ow.f j) = _
      rw [if_neg n]
  · obtain ⟨n, q⟩ := putS_f q
    rw [List.getElem?_set_ne (Ne.symm n)]
    exact g.has j a q
  · rcases putS_g h1 with ⟨e1, q1⟩ | ⟨n1, q1⟩ <;> rcases putS_g h2 with ⟨e2, q2⟩ | ⟨n2, q2⟩
    · rw [e1, e2]
    · exact absurd (.inl ⟨l, .inr q2⟩) (g.ok.new (hn q1))
    · exact absurd (.inl ⟨j, .inr q1⟩) (g.ok.new (hn q2))
    · exact g.ginj j l a q1 q2
  · obtain ⟨n2, q2⟩ := putS_f h2
    rcases putS_g h1 with ⟨e1, q1⟩ | ⟨n1, q1⟩
    · exact g.ok.new (hn q1) (.inl ⟨l, .inl q2⟩)
    · exact g.gf j l a q1 q2
  · rcases putS_g q with ⟨e1, q1⟩ | ⟨n1, q1⟩
    · exact fun z => g.ok.new (hn q1) (.inr z)
    · exact g.gx j a q1
  · rcases putS_g q with ⟨e1, q1⟩ | ⟨n1, q1⟩
    · subst e1; exact ⟨m, es, hs, List.getElem?_set_self hi⟩
    · rw [List.getElem?_set_ne (Ne.symm n1)]
      exact g.ghas j a q1
/-- the sheet of slot i -/
theorem Good.at3 (g : Good K ow ρ σ H) (hρ : ρ[i]? = some (some (.sht m es hs))) : ∃ a e h, σ[i]? = some (some (.ref a)) ∧ ow.g i a ∧ ow.g i e ∧ ow.g i h ∧ At3 K (OA ow) H a e h m es hs := by
  obtain ⟨v, hv, a, e, h, vs, ws, rfl, q2, q3, q4, q5, q6, q7, q8, q9, q10⟩ := g.slot i _ hρ
  exact ⟨a, e, h, hv, q2, q3, q4, q6, q5, ⟨vs, q7, q9⟩, ⟨ws, q8, q10⟩⟩
theorem Good.mutS {a : Addr} (g : Good K ow ρ σ H) (hρ : ρ[i]? = some (some (.sht m es hs))) (hv : σ[i]? = some (some (.ref a))) (ga : ow.g i a) (ge : ow.g i e) (gh : ow.g i h) (k : KpX e h H H') (t : At3 K (OA ow) H' a e h m es' hs') :
    Good K ow (ρ.set i (some (.sht m es' hs'))) σ H' ∧ Stp ow H ow H' := by
  have hi : i < ρ.length := (List.getElem?_eq_some_iff.mp hρ).1
  obtain ⟨vs, k2, r2⟩ := t.l1
  obtain ⟨ws, k3, r3⟩ := t.l2
  have kk : ∀ b, b ≠ e → b ≠ h → ∀ o, H b = some o → H' b = some o := fun b n1 n2 o z => k b o z n1 n2
  have st : Stp ow H ow H' := ⟨⟨fun b o z n => k b o z (fun y => n ⟨i, .inr (by rw [y]; exact ge)⟩) (fun y => n ⟨i, .inr (by rw [y]; exact gh)⟩), fun b z => by
    by_cases e1 : b = e
    · rw [e1, k2]; exact fun z => nomatch z
    · by_cases e2 : b = h
      · rw [e2, k3]; exact fun z => nomatch z
      · cases q : H b with
        | none => exact absurd q z
        | some o => rw [kk b e1 e2 o q]; exact fun z => nomatch z⟩, fun b z => .inl z, rfl⟩
  have nf : ∀ {j : Nat} {b : Addr}, ow.f j = some b → b ≠ e ∧ b ≠ h := fun {j b} q => ⟨fun y => g.gf i j b (by rw [y]; exact ge) q, fun y => g.gf i j b (by rw [y]; exact gh) q⟩
  have ng : ∀ {j : Nat} {b : Addr}, j ≠ i → ow.g j b → b ≠ e ∧ b ≠ h := fun {j b} n q => ⟨fun y => n (g.ginj j i b q (by rw [y]; exact ge)), fun y => n (g.ginj j i b q (by rw [y]; exact gh))⟩
  refine ⟨⟨by rw [List.length_set]; exact g.len, g.inj, ⟨fun j b q => ?_, fun b q => st.kp.dom b (g.ok.ext b q), fun j b q => ?_⟩, g.disj, fun j sv q => ?_, fun j b q => ?_, g.ginj, g.gf, g.gx, fun j b q => ?_⟩, st⟩
  · obtain ⟨ys, hy⟩ := g.ok.lst j b q
    exact ⟨ys, kk b (nf q).1 (nf q).2 _ hy⟩
  · by_cases e1 : b = e
    · subst e1; exact .inl ⟨_, k2⟩
    · by_cases e2 : b = h
      · subst e2; exact .inl ⟨_, k3⟩
      · exact (g.ok.gs j b q).imp (fun ⟨ys, z⟩ => ⟨ys, kk b e1 e2 _ z⟩) fun ⟨C, dx, fs, z⟩ => ⟨C, dx, fs, kk b e1 e2 _ z⟩
  · by_cases n : j = i
    · subst n
      rw [List.getElem?_set_self hi] at q
      cases q
      exact ⟨.ref a, hv, a, e, h, vs, ws, rfl, ga, ge, gh, t.ne, t.f, k2, k3, r2, r3⟩
    · rw [List.getElem?_set_ne (Ne.symm n)] at q
      obtain ⟨v, hv, sk⟩ := g.slot j sv q
      exact ⟨v, hv, sk.stp g.ok st (fun _ _ => rfl) (fun b hb o z => kk b (nf hb).1 (nf hb).2 o z) fun b hb => ⟨hb, fun o z => kk b (ng n hb).1 (ng n hb).2 o z⟩⟩
  · by_cases n : j = i
    · subst n
      obtain ⟨xs, hx⟩ := g.has j b q
      rw [hρ] at hx; cases hx
    · rw [List.getElem?_set_ne (Ne.symm n)]
      exact g.has j b q
  · by_cases n : j = i
    · subst n; exact ⟨m, es', hs', List.getElem?_set_self hi⟩
    · rw [List.getElem?_set_ne (Ne.symm n)]
      exact g.ghas j b q
/-- looked at: as data -/
def vw (i : Nat) (ρ : En) : En := match ρ[i]? with
  | some (some (.sht m es hs)) => ρ.set i (some (.sh (shD m es hs)))
  | _ => ρ
def Ow.ung (ow : Ow) (i : Nat) : Ow := { ow with g := fun j a => j ≠ i ∧ ow.g j a }
theorem Good.vw (g : Good K ow ρ σ H) (i : Nat) : ∃ ow', Good K ow' (PT.vw i ρ) σ H := by
  unfold PT.vw
  split
  · rename_i m es hs hρ
    have hi : i < ρ.length := (List.getElem?_eq_some_iff.mp hρ).1
    have sub : ∀ b o, H b = some o → ¬ OA ow b → ¬ OA (ow.ung i) b := fun b o _ n z => n (z.elim (fun ⟨j, hj⟩ => .inl ⟨j, hj.imp id fun q => q.2⟩) fun q => .inr q)
    have no : ∀ {b : Addr}, ow.g i b → ¬ OA (ow.ung i) b := fun {b} q z => by
      rcases z with ⟨j, z | z⟩ | z
      · exact g.gf i j b q z
      · exact z.1 (g.ginj j i b z.2 q)
      · exact g.gx i b q z
    have st : Stp ow H (ow.ung i) H := ⟨(Stp.refl ow H).kp, fun b ⟨j, hj⟩ => .inl ⟨j, hj.imp id fun q => q.2⟩, rfl⟩
    refine ⟨ow.ung i, by rw [List.length_set]; exact g.len, g.inj, ⟨g.ok.lst, g.ok.ext, fun j a q => g.ok.gs j a q.2⟩, g.disj, fun j sv q => ?_, fun j b q => ?_, fun j l a h1 h2 => g.ginj j l a h1.2 h2.2, fun j l a h1 h2 => g.gf j l a h1.2 h2, fun j a q => g.gx j a q.2, fun j b q => by rw [List.getElem?_set_ne (Ne.symm q.1)]; exact g.ghas j b q.2⟩
    · by_cases n : j = i
      · subst n
        rw [List.getElem?_set_self hi] at q
        cases q
        obtain ⟨a, e, h, hv, q1, q2, q3, t⟩ := g.at3 hρ
        exact ⟨.ref a, hv, (t.fresh sub).rp (no q1) (no q2) (no q3)⟩
      · rw [List.getElem?_set_ne (Ne.symm n)] at q
        obtain ⟨v, hv, sk⟩ := g.slot j sv q
        exact ⟨v, hv, sk.stp g.ok st (fun _ _ => rfl) (fun _ _ _ z => z) fun a ha => ⟨⟨n, ha⟩, fun _ z => z⟩⟩
    · by_cases n : j = i
      · subst n
        obtain ⟨xs, hx⟩ := g.has j b q
        rw [hρ] at hx; cases hx
      · rw [List.getElem?_set_ne (Ne.symm n)]
        exact g.has j b q
  · exact ⟨ow, g⟩
end
/-! ### readings -/
abbrev XF := En → Option (Dt × En)
def tX (K : PySem.W.Frag) (f : XF) : TE := fun σ H Q => ∃ ρ ow d ρ', f ρ = some (d, ρ') ∧ Good K ow ρ σ H ∧ ∀ v ow' H', Stp ow H ow' H' → Good K ow' ρ' σ H' → Rp K (OA ow') H' v d → Q v H'
abbrev XT := En → Option (Bool × En)
def tXT (K : PySem.W.Frag) (f : XT) : TT := fun σ H Q => ∃ ρ ow c ρ', f ρ = some (c, ρ') ∧ Good K ow ρ σ H ∧ ∀ ow' H', Stp ow H ow' H' → Good K ow' ρ' σ H' → Q c H'
def SX (G : Gc) (N : List Str) (sc : Scope) (fn : Str → Bool) (k : Nat) (e : Expr) (f : XF) : Prop := ∀ X, Ctx G N sc fn k X → ∀ W, Takes X W → PE X e (tX X.K f)
def SXT (G : Gc) (N : List Str) (sc : Scope) (fn : Str → Bool) (k : Nat) (e : Expr) (f : XT) : Prop := ∀ X, Ctx G N sc fn k X → ∀ W, Takes X W → PT X e (tXT X.K f)
/-- F(sheet, ..) -/
def eCX (n : Nat) (F : FX) (i : Nat) (g : AF) : XF := fun ρ => match ρ[i]?, g ρ with
  | some (some (.sht m es hs)), some (.vals ds) => if ds.length + 1 = n then (match F m es hs ds with
    | some (.val d, es', hs') => some (d, ρ.set i (some (.sht m es' hs')))
    | _ => none) else none
  | _, _ => none
def xNe (f : XF) (g : EF) : XT := fun ρ => match f ρ with
  | some (d, ρ') => (match g true ρ' with
    | some (.val d2) => (match dNe d d2 with
      | some (.bool c) => some (c, ρ')
      | _ => none)
    | _ => none)
  | none => none
def xOr (f g : XT) : XT := fun ρ => match f ρ with
  | some (true, ρ') => some (true, ρ')
  | some (false, ρ') => g ρ'
  | none => none
def sIfX (f : XT) (s1 s2 : SF) : SF := fun ρ => match f ρ with
  | some (true, ρ') => s1 ρ'
  | some (false, ρ') => s2 ρ'
  | none => none
def sSetX (i : Nat) (f : XF) : SF := fun ρ => match f ρ with
  | some (d, ρ') => some (.nx (ρ'.set i (some (.sh d))))
  | none => none
def sDoX (f : XF) : SF := fun ρ => match f ρ with
  | some (_, ρ') => some (.nx ρ')
  | none => none
def sIfV (i : Nat) (f : EF) (s1 s2 : SF) : SF := fun ρ => match f true (vw i ρ) with
  | some (.val d) => (match tru d with
    | some true => s1 ρ
    | some false => s2 ρ
    | none => none)
  | _ => none
def sNewS (i : Nat) (f : EF) : SF := fun ρ => match f false ρ with
  | some (.val x) => (match newD x with
    | some (m, _) => if i < ρ.length then some (.nx (ρ.set i (some (.sht (m : Nat) (List.replicate m .none) [])))) else none
    | none => none)
  | _ => none
section
variable {G : Gc} {N : List Str} {sc : Scope} {fn : Str → Bool} {k : Nat} {pos apos p p2 q1 : Pos} {a b c : Expr} {es rest : List Expr} {f g h : EF} {ar : AF} {xf : XF} {xt xt2 : XT} {s1 s2 : SF}
theorem sx_fn {x w : Str} {j n : Nat} {F : FX} (i : Nat) (hF : FnX G x j n F) (hr : SAs G N sc fn k es ar) (hj : j ≤ k := by decide) (hg : GL sc x := by rfl) (hdb : (x == ("__debug__" : Str)) = false := by decide)
    (hN : N[i]? = some w := by rfl) (hv : Vis sc w := by first | exact Or.inl rfl | exact Or.inr (Or.inl rfl) | exact Or.inr (Or.inr rfl)) (hd : (w == ("__debug__" : Str)) = false := by decide) (hcd : (w == ("__classdict__" : Str)) = false := by decide) :
    SX G N sc fn k (.Call (.Name x p) (.Name w p2 :: es) [] pos) (eCX n F i ar) := fun X C W tk => by
  obtain ⟨f, fd, ps, hm, hkp, hb, hl, hok⟩ := hF
  rw [← C.hP, ← C.hw, ← C.hK, ← C.hmg, ← C.hb] at hok
  rw [← C.hK] at hkp hb
  rw [← C.hmg] at hm
  refine PE.imp (pe_callS (E := WE W) hok (C.room.mono hj) (C.gl hg) hm hkp hb (fun σ => passAt tk σ) (pa_cons (pe_vr C i hN hv hd hcd) (hr.pa X C W tk) rfl) hdb rfl (noStar _ _ _ fun e he => hr.ns e he)) fun σ H Q h => ?_
  obtain ⟨ρ, ow, d, ρ', he, gd, post⟩ := h
  unfold eCX at he
  split at he
  · rename_i m es0 hs0 ds hρ hds
    split at he
    · rename_i hn
      split at he
      · rename_i d1 es1 hs1 hFq
        cases he
        obtain ⟨a, e, h, hv1, g1, g2, g3, t⟩ := gd.at3 hρ
        refine ⟨.ref a, hv1, ρ, ow, .vals ds, hds, gd, fun us H1 sm r => ?_⟩
        refine ⟨by rw [List.length_cons, r.length]; exact hn, a, e, h, m, es0, hs0, OA ow, us, ds, .val d, es1, hs1, rfl, t.same sm, ⟨.inl ⟨i, .inr g1⟩, .inl ⟨i, .inr g2⟩, .inl ⟨i, .inr g3⟩⟩, fun y hy => (gd.ok.same sm).at_ hy, r, hFq, fun v H2 kx t2 r2 => ?_⟩
        obtain ⟨gd2, st2⟩ := (gd.same sm).mutS hρ hv1 g1 g2 g3 kx t2
        exact post v ow H2 ((Same.stp sm).trans st2) gd2 r2
      · cases he
    · cases he
  · cases he
theorem sx_ne (ha : SX G N sc fn k a xf) (hb : SE G N sc fn k b g) (hm : behindInMarks .NotEq b = false := by rfl) : SXT G N sc fn k (.Compare a [.NotEq] [b] pos) (xNe xf g) := fun X C W tk =>
  PT.imp (pt_cmpR (op_neP C.room.units) (ha X C W tk) (hb X C W tk true) hm) fun σ H Q h => by
    obtain ⟨ρ, ow, c, ρ', he, gd, post⟩ := h
    unfold xNe at he
    split at he
    · rename_i d ρ1 hx
      split at he
      · rename_i d2 hg2
        split at he
        · rename_i c1 hne
          cases he
          refine ⟨ρ, ow, d, ρ', hx, gd, fun v ow' H' st gd' r => ⟨ρ', ow', .val d2, hg2, gd', fun v2 H2 sm r2 => ?_⟩⟩
          refine rd_ne X.K v v2 H2 _ ow' d d2 (.bool c) (gd'.ok.same sm) (.inl (Rp.same sm r)) r2 hne fun v3 H3 sm3 r3 => ?_
          exact ⟨c, (RpB.of (b := false) r3).bool, post ow' H3 (st.trans (Same.stp (sm.trans sm3))) (gd'.same (sm.trans sm3))⟩
        · cases he
      · cases he
    · cases he
theorem sx_or (ha : SXT G N sc fn k a xt) (hb : SXT G N sc fn k b xt2) : SXT G N sc fn k (.BoolOp .Or [a, b] pos) (xOr xt xt2) := fun X C W tk =>
  PT.imp (pw_or (ha X C W tk) (pw_or1 (hb X C W tk))).pt fun σ H Q h => by
    obtain ⟨ρ, ow, c, ρ', he, gd, post⟩ := h
    unfold xOr at he
    split at he
    · rename_i ρ1 hx
      cases he
      exact ⟨ρ, ow, true, _, hx, gd, fun ow' H' st gd' => if_pos_of rfl (post ow' H' st gd')⟩
    · rename_i ρ1 hx
      refine ⟨ρ, ow, false, _, hx, gd, fun ow' H' st gd' => if_neg_of Bool.false_ne_true ⟨ρ1, ow', c, ρ', he, gd', fun ow2 H2 st2 gd2 => post ow2 H2 (st.trans st2) gd2⟩⟩
    · cases he
theorem ss_ifX {as bs : List Stmt} (hc : SXT G N sc fn k c xt) (ha : SB G N sc fn k as s1) (hb : SB G N sc fn k bs s2) : SS G N sc fn k (.If c as bs pos) (sIfX xt s1 s2) := fun X C T W tk hp =>
  PS.imp (ps_if (hc X C W tk) (ha X C T W tk hp) (hb X C T W tk hp)) fun D σ H h => by
    obtain ⟨ρ, ow, o, he, gd, post⟩ := h
    unfold sIfX at he
    split at he
    · rename_i ρ1 hx
      exact ⟨ρ, ow, true, _, hx, gd, fun ow' H' st gd' => if_pos_of rfl ⟨ρ1, ow', o, he, gd', post.stp st⟩⟩
    · rename_i ρ1 hx
      exact ⟨ρ, ow, false, _, hx, gd, fun ow' H' st gd' => if_neg_of Bool.false_ne_true ⟨ρ1, ow', o, he, gd', post.stp st⟩⟩
    · cases he
theorem ss_setX {y : Str} (i : Nat) (ha : SX G N sc fn k a xf) (hi : N[i]? = some y := by rfl) (hx : Loc sc y := by first | exact Or.inl rfl | exact Or.inr rfl) (hf : fn y = true ∨ sc.names.lookup y = some .local := by first | exact .inl rfl | exact .inr rfl)
    (hs : ∀ (py : Pos) (l : Nat) (env : PySem.Env), swapsWith a (some (.Name y py)) l env = pure false := by intro _ _ _; rfl) : SS G N sc fn k (.Assign [.Name y p] a pos) (sSetX i xf) := fun X C T W tk hp =>
  PS.imp (ps_set (by rw [C.hN]; exact C.nd) (by rw [C.hN]; exact hi) (by rw [C.hsc]; exact hx) (ha X C W tk) (hs p pos.line X.env) (by rw [C.hfn, C.hsc]; exact hf)) fun D σ H h => by
    obtain ⟨ρ, ow, o, he, gd, post⟩ := h
    unfold sSetX at he
    split at he
    · rename_i d ρ1 hx
      cases he
      refine ⟨ρ, ow, d, ρ1, hx, gd, fun v ow' H' st gd' r => ?_⟩
      exact post _ _ H' (st.trans (Ow.clr_stp ow' [i] H')) (gd'.setA r)
    · cases he
theorem ss_doX (ha : SX G N sc fn k a xf) (hs : ∀ (l : Nat) (env : PySem.Env), swapsWith a none l env = pure false := by intro _ _; rfl) : SS G N sc fn k (.Expr a pos) (sDoX xf) := fun X C T W tk hp =>
  PS.imp (ps_expr (ha X C W tk) (hs _ X.env)) fun D σ H h => by
    obtain ⟨ρ, ow, o, he, gd, post⟩ := h
    unfold sDoX at he
    split at he
    · rename_i d ρ1 hx
      cases he
      exact ⟨ρ, ow, d, ρ1, hx, gd, fun v ow' H' st gd' r => post ow' σ H' st gd'⟩
    · cases he
theorem ss_ifV {as bs : List Stmt} (i : Nat) (hc : ST G N sc fn k c f) (ha : SB G N sc fn k as s1) (hb : SB G N sc fn k bs s2) : SS G N sc fn k (.If c as bs pos) (sIfV i f s1 s2) := fun X C T W tk hp =>
  PS.imp (ps_if (hc X C W tk) (ha X C T W tk hp) (hb X C T W tk hp)) fun D σ H h => by
    obtain ⟨ρ, ow, o, he, gd, post⟩ := h
    obtain ⟨ow', gv⟩ := gd.vw i
    unfold sIfV at he
    split at he
    · rename_i d hx
      refine ⟨_, ow', _, hx, gv, ?_⟩
      split at he
      · rename_i ht
        exact ⟨true, ht, fun H1 sm => if_pos_of rfl ⟨ρ, ow, o, he, gd.same sm, post.stp (Same.stp sm)⟩⟩
      · rename_i ht
        exact ⟨false, ht, fun H1 sm => if_neg_of Bool.false_ne_true ⟨ρ, ow, o, he, gd.same sm, post.stp (Same.stp sm)⟩⟩
      · cases he
    · cases he
theorem ss_newS {y : Str} {j : Nat} (i : Nat) (hN : NewS G j) (ha : SE G N sc fn k a f) (hj : j + 1 ≤ k := by decide) (hg : GL sc "Sheet" := by rfl) (ns : NS a := by intro _ _; rfl) (hi : N[i]? = some y := by rfl) (hx : Loc sc y := by first | exact Or.inl rfl | exact Or.inr rfl) (hf : fn y = true ∨ sc.names.lookup y = some .local := by first | exact .inl rfl | exact .inr rfl) :
    SS G N sc fn k (.Assign [.Name y p] (.Call (.Name "Sheet" p2) [a] [] q1) pos) (sNewS i f) := fun X C T W tk hp =>
  PS.imp (ps_set (by rw [C.hN]; exact C.nd) (by rw [C.hN]; exact hi) (by rw [C.hsc]; exact hx) (pe_newS hN C tk ha hj hg ns) rfl (by rw [C.hfn, C.hsc]; exact hf)) fun D σ H h => by
    obtain ⟨ρ, ow, o, he, gd, post⟩ := h
    unfold sNewS at he
    split at he
    · rename_i x hx
      split at he
      · rename_i m dd hn
        split at he
        · rename_i hlt
          cases he
          refine ⟨ρ, ow, x, m, dd, hx, hn, gd, fun x0 e0 h0 H' sm hx0 he0 hh0 t => ?_⟩
          obtain ⟨g2, st2⟩ := gd.newS hlt sm hx0 he0 hh0 t
          exact post _ _ H' st2 g2
        · cases he
      · cases he
    · cases he
end
end PT

namespace PT
open PySem PySem.Spec PyProof.Rows L2
/-! ## a def that changes a sheet, and catches -/
def fxEnt (E : EMT) (l : List Clz) (Fe Fu : FX) : FX := fun m es hs ds => match ds with
  | [.int md, pl, v] => (match (if md = 0 then Fe m es hs [pl, v] else if md = 1 then Fu m es hs [] else none) with
    | some (.val d, es', hs') => some (.val d, es', hs')
    | some (.exc n none, _, _) => (match tryGo E n l with
      | some (.rt d) => some (.val d, es, hs)
      | _ => none)
    | _ => none)
  | _ => none
def tbE (K : PySem.W.Frag) (mg : Str → Option Value) (Fe Fu : FX) (W : WX) : TS :=
  tSeq (tIfS (tT K mg W (eBin dEq (eVar 1) (eC (.int 0)))) (tRet (tMt (He.ga K "Sheet") "enter" (spX K mg 3 Fe) (WE W) (tVar 0) (tCons (tVar 2) (tCons (tVar 3) tNil)))) tNext)
    (tRet (tIf (tT K mg W (eBin dEq (eVar 1) (eC (.int 1)))) (tMt (He.ga K "Sheet") "undo" (spX K mg 1 Fu) (WE W) (tVar 0) tNil) (fun _ _ _ => False)))
abbrev NE : List Str := ["work", "mode", "place", "value", "e"]
theorem ent_sem {K : PySem.W.Frag} {mg : Str → Option Value} {E : EMT} {l : List Clz} {Fe Fu : FX} {cl : List Cl} {W : WX} {D : Ends} {H : Hp} {Q : VK} {Ex : XK} {vs : List V}
    (hcl : ∀ (W : WX) (D : Ends) (ow : Ow) (H : Hp) (n : Str) (o : Out), tryGo E n l = some o → PostS K mg W D ow H o → PostS K mg (wAsM K W D cl) D ow H (.ex n none))
    (hQ : ∀ v H, Q v H → D.rt v H) (hsp : spX K mg 4 (fxEnt E l Fe Fu) vs H Q Ex) : tbE K mg Fe Fu (wAsM K W D cl) D (L2.start NE vs) H := by
  obtain ⟨hlen, a, e, h, m, es, hs, O, us, ds, r, es', hs', rfl, t, ho, hO, ru, hF, post⟩ := hsp
  unfold fxEnt at hF
  split at hF
  · rename_i md pl v
    cases ru with
    | cons rm ru =>
      cases ru with
      | cons rp ru =>
        cases ru with
        | cons rv ru =>
          cases ru
          cases rm
          rename_i vp vv
          have gd : ∀ {H' : Hp}, Same H H' → Good K (Ow.out (Oless O a e h)) (start0 5 [shD m es hs, .int md, pl, v]) (L2.start NE [.ref a, .int md, vp, vv]) H' := fun {H'} s => good_x (N := NE) (t.same s) (fun x z => Same.dom s x (hO x z)) (RpAll.same s (.cons (.int md) (.cons rp (.cons rv .nil))))
          have x0 : ∀ c : Int, eBin dEq (eVar 1) (eC (.int c)) true (start0 5 [shD m es hs, .int md, pl, v]) = some (.val (.bool (decide (md = c)))) := fun c => by
            show (dEq (.int md) (.int c)).map Rs.val = _
            rfl
          have fin : ∀ {H1 : Hp} {F : FX} {us1 : List V} {ds1 : List Dt} {n1 : Nat} {σ : L2.St}, Same H H1 → (match F m es hs ds1 with
              | some (.val d, es', hs') => some (Rs.val d, es', hs')
              | some (.exc n none, _, _) => (match tryGo E n l with
                | some (.rt d) => some (.val d, es, hs)
                | _ => none)
              | _ => none) = some (r, es', hs') → RpAll K O H1 us1 ds1 → us1.length + 1 = n1 → spX K mg n1 F (.ref a :: us1) H1 D.rt (WE (wAsM K W D cl) σ) := by
            intro H1 F us1 ds1 n1 σ s1 hq r1 hl
            have kx : ∀ {H2 : Hp}, KpX e h H1 H2 → KpX e h H H2 := fun {H2} q b o z n1 n2 => q b o (s1 b o z) n1 n2
            cases hF1 : F m es hs ds1 with
            | none => rw [hF1] at hq; cases hq
            | some q =>
              obtain ⟨r0, e0, h0⟩ := q
              rw [hF1] at hq
              refine ⟨hl, a, e, h, m, es, hs, O, us1, ds1, r0, e0, h0, rfl, t.same s1, ho, fun x z => Same.dom s1 x (hO x z), r1, hF1, ?_⟩
              cases r0 with
              | val d =>
                cases hq
                exact fun v H2 k t2 r2 => hQ _ _ (post v H2 (kx k) t2 r2)
              | exc n p =>
                cases p with
                | some _ => cases hq
                | none =>
                  simp only at hq
                  cases ht : tryGo E n l with
                  | none => rw [ht] at hq; cases hq
                  | some o =>
                    rw [ht] at hq
                    cases o with
                    | rt d =>
                      cases hq
                      refine fun cls dd H2 hc s2 pk => hcl W D (Ow.out O) H n (.rt d) ht (fun v H3 kp r3 => ?_) cls dd σ H2 hc (Same.kp (s1.trans s2)) pk
                      exact hQ _ _ (post v H3 (fun b o z _ _ => kp.out b o z) (t.same kp.out) r3)
                    | nx _ => cases hq
                    | ex _ _ => cases hq
          obtain ⟨dx, fs, k1, _, _, _, _, k2⟩ := t.f
          refine ⟨_, _, _, x0 0, gd (Same.refl H), decide (md = 0), rfl, fun H1 s1 => ?_⟩
          by_cases e0 : md = 0
          · refine if_pos_of (decide_eq_true e0) ?_
            rw [if_pos e0] at hF
            exact ⟨.ref a, rfl, a, dx, fs, rfl, s1 _ _ k1, k2 _ (by decide), vp, rfl, vv, rfl, fin s1 hF (.cons (Rp.same s1 rp) (.cons (Rp.same s1 rv) .nil)) rfl⟩
          · refine if_neg_of (by rw [decide_eq_true_eq]; exact e0) ?_
            rw [if_neg e0] at hF
            refine ⟨_, _, _, x0 1, gd s1, decide (md = 1), rfl, fun H2 s2 => ?_⟩
            by_cases e1 : md = 1
            · refine if_pos_of (decide_eq_true e1) ?_
              rw [if_pos e1] at hF
              exact ⟨.ref a, rfl, a, dx, fs, rfl, s2 _ _ (s1 _ _ k1), k2 _ (by decide), fin (s1.trans s2) hF .nil rfl⟩
            · rw [if_neg e1] at hF
              cases hF
  · cases hF
section
variable {G : Gc} {sc : Scope} {k : Nat} {E : EMT} {Fe Fu : FX} {l : List Clz} {h0 : ExceptHandler} {hds : List ExceptHandler} {oe : Expr} {pos p1 p2 p3 p4 p5 p6 p7 p8 p9 p10 p11 p12 p13 p14 p15 p16 p17 p18 : Pos} {j1 j2 ja jb : Nat} {pl1 pl2 : PySem.Env → Sem Bool}
theorem ps_ent {X : Cx} (C : Ctx G NE sc (fun _ => true) k X) (T : TopX X) {W : WX} (tk : Takes X W) (B : Bi G) (hE : EmOk G E) (m1 : MtX G "enter" ja 3 Fe) (m2 : MtX G "undo" jb 1 Fu) (hh : SHs G NE sc (fun _ => true) k (h0 :: hds) l)
    (v0 : Vis sc "work") (v1 : Vis sc "mode") (v2 : Vis sc "place") (v3 : Vis sc "value") (ha : ja ≤ k := by decide) (hb : jb ≤ k := by decide)
    (ht1 : ∀ env : PySem.Env, eval (.Call (.Attribute (.Name "work" p4) "enter" p5) [.Name "place" p6, .Name "value" p7] [] p8) env = (do
      let ov ← eval (.Name "work" p4) env
      standAt p5.atName
      let (f, first) ← holding [ov] (getMethod ov "enter" (pl1 env))
      callWith p8 f first (backTo p8 (starEach [.Name "place" p6, .Name "value" p7] env)) (backToKw p8 (keywordEach [] env))) := by intro _; rfl)
    (ht2 : ∀ env : PySem.Env, eval (.Call (.Attribute (.Name "work" p14) "undo" p15) [] [] p16) env = (do
      let ov ← eval (.Name "work" p14) env
      standAt p15.atName
      let (f, first) ← holding [ov] (getMethod ov "undo" (pl2 env))
      callWith p16 f first (backTo p16 (starEach [] env)) (backToKw p16 (keywordEach [] env))) := by intro _; rfl) :
    PS X (.Try [.If (.Compare (.Name "mode" p1) [.Eq] [.Constant (.int 0) j1 p2] p3) [.Return (some (.Call (.Attribute (.Name "work" p4) "enter" p5) [.Name "place" p6, .Name "value" p7] [] p8)) p9] [] p10,
      .Return (some (.IfExp (.Compare (.Name "mode" p11) [.Eq] [.Constant (.int 1) j2 p12] p13) (.Call (.Attribute (.Name "work" p14) "undo" p15) [] [] p16) oe p17)) p18] (h0 :: hds) [] [] pos)
      (fun D σ H => ∃ vs Q Ex, σ = L2.start NE vs ∧ (∀ v H, Q v H → D.rt v H) ∧ spX X.K X.mg 4 (fxEnt E l Fe Fu) vs H Q Ex) := by
  obtain ⟨cl, h1, h2⟩ := hh.hds hE C
  refine PS.imp (ps_tryAs (tb := fun W => tbE X.K X.mg Fe Fu W) T.stk T.fr (by rw [C.hN]; exact C.nd) tk (fun W' pn xe tk' hp' => ?_) h1) fun D σ H h => ?_
  · have C' : Ctx G NE sc (fun _ => true) k (X.tr pn xe) := ⟨C.hP, C.hw, C.hK, C.hmg, C.hb, C.hN, C.nd, C.hsc, C.hfn, C.calm, C.room⟩
    obtain ⟨f1, fd1, ps1, q1, q2, q3, q4⟩ := m1
    obtain ⟨f2, fd2, ps2, r1, r2, r3, r4⟩ := m2
    rw [← C.hP, ← C.hw, ← C.hK, ← C.hmg, ← C.hb] at q4 r4
    rw [← C.hK] at q1 q2 r1 r2
    have cS : Cls X.K (He.ga X.K "Sheet") := by rw [C.hK]; exact B.sht.cl
    have pv : ∀ (i : Nat) (x : Str) (q : Pos), NE[i]? = some x → Vis sc x → (x == ("__debug__" : Str)) = false → (x == ("__classdict__" : Str)) = false → PE (X.tr pn xe) (.Name x q) (tVar i) := fun i x q hi hv z1 z2 => pe_vr C' i hi hv z1 z2
    have n0 : PE (X.tr pn xe) oe (fun _ _ _ => False) := ⟨fun _ _ _ _ _ _ z => z.elim⟩
    refine pss_cons (ps_if (runT C' tk' (st_eq (pos := p3) (se_var (N := NE) 1 rfl v1 rfl rfl) (se_int (j := j1) (pos := p2)))) (pss_one (ps_ret (pos := p9) (pe_mtS (E := WE W') (pv 0 "work" p4 rfl v0 rfl rfl) cS q1 q4 (C.room.mono ha) q2 (fun σ => passAt tk' σ) (pa_cons (pv 2 "place" p6 rfl v2 rfl rfl) (pa_cons (pv 3 "value" p7 rfl v3 rfl rfl) pa_nil)) rfl rfl (ht1 _)))) pss_nil)
      (pss_one (ps_ret (pos := p18) (pe_ifExp (pos := p17) (runT C' tk' (st_eq (pos := p13) (se_var (N := NE) 1 rfl v1 rfl rfl) (se_int (j := j2) (pos := p12)))) (pe_mtS0 (E := WE W') (pv 0 "work" p14 rfl v0 rfl rfl) cS r1 r4 (C.room.mono hb) r2 (fun σ => passAt tk' σ) (ht2 _)) n0)))
  · obtain ⟨vs, Q, Ex, rfl, hQ, hsp⟩ := h
    exact ent_sem h2 hQ hsp
end
end PT

namespace PT
open PySem PySem.Spec PyProof.Rows L2
/-! ## several sheets -/
def vws : List Nat → En → En
  | [], ρ => ρ
  | i :: r, ρ => vws r (vw i ρ)
theorem Good.vws {K : PySem.W.Frag} {σ : L2.St} {H : Hp} : ∀ (l : List Nat) {ow : Ow} {ρ : En}, Good K ow ρ σ H → ∃ ow', Good K ow' (PT.vws l ρ) σ H
  | [], ow, _, g => ⟨ow, g⟩
  | i :: r, _, _, g => let ⟨_, g'⟩ := g.vw i; Good.vws r g'
/-- a test that only reads -/
def xVw (l : List Nat) (f : EF) : XT := fun ρ => match f true (vws l ρ) with
  | some (.val d) => (tru d).map fun c => (c, ρ)
  | _ => none
/-- a flag that is only read -/
def xVv (l : List Nat) (f : EF) : XF := fun ρ => match f false (vws l ρ) with
  | some (.val (.bool c)) => some (.bool c, ρ)
  | _ => none
def xEq (f : XF) (g : EF) : XF := fun ρ => match f ρ with
  | some (d, ρ') => (match g true ρ' with
    | some (.val d2) => (match dEq d d2 with
      | some (.bool c) => some (.bool c, ρ')
      | _ => none)
    | _ => none)
  | none => none
def xAnd (f g : XF) : XF := fun ρ => match f ρ with
  | some (.bool true, ρ') => g ρ'
  | some (.bool false, ρ') => some (.bool false, ρ')
  | _ => none
def sRetX (f : XF) : SF := fun ρ => match f ρ with
  | some (d, _) => some (.rt d)
  | none => none
def SXW (G : Gc) (N : List Str) (sc : Scope) (fn : Str → Bool) (k : Nat) (e : Expr) (f : XT) : Prop := ∀ X, Ctx G N sc fn k X → ∀ W, Takes X W → PW X e (tXT X.K f)
/-- F(sheet.m(..)) by the slot of the sheet -/
def sNew2 (i j : Nat) (f g : EF) : SF := fun ρ => match f false ρ, g false ρ with
  | some (.val x), some (.val y) => (match newD x, newD y with
    | some (m, _), some (n, _) => if i < ρ.length ∧ j < ρ.length then some (.nx ((ρ.set i (some (.sht (m : Nat) (List.replicate m .none) []))).set j (some (.sht (n : Nat) (List.replicate n .none) [])))) else none
    | _, _ => none)
  | _, _ => none
section
variable {G : Gc} {N : List Str} {sc : Scope} {fn : Str → Bool} {k : Nat} {pos apos p p2 q1 q2 : Pos} {a b c : Expr} {es rest : List Expr} {f g h : EF} {ar : AF} {xf xg : XF} {xt xt2 : XT} {s1 s2 : SF}
theorem sx_vw (l : List Nat) (hc : ST G N sc fn k c f) : SXT G N sc fn k c (xVw l f) := fun X C W tk => PT.imp (hc X C W tk) fun σ H Q h => by
  obtain ⟨ρ, ow, c, ρ', he, gd, post⟩ := h
  unfold xVw at he
  split at he
  · rename_i d hx
    cases ht : tru d with
    | none => rw [ht] at he; cases he
    | some b =>
      rw [ht] at he
      cases he
      obtain ⟨ow', gv⟩ := gd.vws l
      exact ⟨_, ow', .val d, hx, gv, c, ht, fun H1 sm => post ow H1 (Same.stp sm) (gd.same sm)⟩
  · cases he
theorem sx_vv (l : List Nat) (hc : SE G N sc fn k c f) : SX G N sc fn k c (xVv l f) := fun X C W tk => PE.imp (hc X C W tk false) fun σ H Q h => by
  obtain ⟨ρ, ow, d, ρ', he, gd, post⟩ := h
  unfold xVv at he
  split at he
  · rename_i b hx
    cases he
    obtain ⟨ow', gv⟩ := gd.vws l
    exact ⟨_, ow', .val (.bool b), hx, gv, fun v H1 sm r => post v ow H1 (Same.stp sm) (gd.same sm) (r.rp.scl rfl)⟩
  · cases he
theorem sxw_one (ha : SXT G N sc fn k a xt) : SXW G N sc fn k (.BoolOp .Or [a] pos) xt := fun X C W tk => pw_or1 (ha X C W tk)
theorem sxw_or (ha : SXT G N sc fn k a xt) (hb : SXW G N sc fn k (.BoolOp .Or (b :: rest) pos) xt2) : SXW G N sc fn k (.BoolOp .Or (a :: b :: rest) pos) (xOr xt xt2) := fun X C W tk =>
  PW.imp (pw_or (ha X C W tk) (hb X C W tk)) fun σ H Q h => by
    obtain ⟨ρ, ow, c, ρ', he, gd, post⟩ := h
    unfold xOr at he
    split at he
    · rename_i ρ1 hx
      cases he
      exact ⟨ρ, ow, true, _, hx, gd, fun ow' H' st gd' => if_pos_of rfl (post ow' H' st gd')⟩
    · rename_i ρ1 hx
      refine ⟨ρ, ow, false, _, hx, gd, fun ow' H' st gd' => if_neg_of Bool.false_ne_true ⟨ρ1, ow', c, ρ', he, gd', fun ow2 H2 st2 gd2 => post ow2 H2 (st.trans st2) gd2⟩⟩
    · cases he
theorem sxt_w (h : SXW G N sc fn k a xt) : SXT G N sc fn k a xt := fun X C W tk => (h X C W tk).pt
theorem sx_eq (ha : SX G N sc fn k a xf) (hb : SE G N sc fn k b g) (hm : behindInMarks .Eq b = false := by rfl) : SX G N sc fn k (.Compare a [.Eq] [b] pos) (xEq xf g) := fun X C W tk =>
  PE.imp (pe_cmpR (op_eqP C.room.units) (ha X C W tk) (hb X C W tk true) hm) fun σ H Q h => by
    obtain ⟨ρ, ow, d0, ρ', he, gd, post⟩ := h
    unfold xEq at he
    split at he
    · rename_i d ρ1 hx
      split at he
      · rename_i d2 hg2
        split at he
        · rename_i c1 hne
          cases he
          refine ⟨ρ, ow, d, ρ', hx, gd, fun v ow' H' st gd' r => ⟨ρ', ow', .val d2, hg2, gd', fun v2 H2 sm r2 => ?_⟩⟩
          refine rd_eq X.K v v2 H2 _ ow' d d2 (.bool c1) (gd'.ok.same sm) (.inl (Rp.same sm r)) r2 hne fun v3 H3 sm3 r3 => ?_
          exact post v3 ow' H3 (st.trans (Same.stp (sm.trans sm3))) (gd'.same (sm.trans sm3)) r3
        · cases he
      · cases he
    · cases he
theorem sx_and1 (ha : SX G N sc fn k a xf) : SX G N sc fn k (.BoolOp .And [a] pos) xf := fun X C W tk => pe_one (ha X C W tk)
theorem sx_and (ha : SX G N sc fn k a xf) (hb : SX G N sc fn k (.BoolOp .And (b :: rest) pos) xg) : SX G N sc fn k (.BoolOp .And (a :: b :: rest) pos) (xAnd xf xg) := fun X C W tk =>
  PE.imp (pe_and (ha X C W tk) (hb X C W tk)) fun σ H Q h => by
    obtain ⟨ρ, ow, d0, ρ', he, gd, post⟩ := h
    unfold xAnd at he
    split at he
    · rename_i ρ1 hx
      refine ⟨ρ, ow, _, ρ1, hx, gd, fun v ow' H' st gd' r => ⟨true, (RpB.of (b := false) r).bool, if_pos_of rfl ⟨ρ1, ow', d0, ρ', he, gd', fun v2 ow2 H2 st2 gd2 r2 => post v2 ow2 H2 (st.trans st2) gd2 r2⟩⟩⟩
    · rename_i ρ1 hx
      cases he
      refine ⟨ρ, ow, _, ρ', hx, gd, fun v ow' H' st gd' r => ?_⟩
      have e := (RpB.of (b := false) r).bool
      subst e
      exact ⟨false, rfl, if_neg_of Bool.false_ne_true (post _ ow' H' st gd' r)⟩
    · cases he
theorem ss_retX (ha : SX G N sc fn k a xf) : SS G N sc fn k (.Return (some a) pos) (sRetX xf) := fun X C T W tk hp =>
  PS.imp (ps_ret (ha X C W tk)) fun D σ H h => by
    obtain ⟨ρ, ow, o, he, gd, post⟩ := h
    unfold sRetX at he
    split at he
    · rename_i d ρ1 hx
      cases he
      exact ⟨ρ, ow, d, ρ1, hx, gd, fun v ow' H' st gd' r => post v H' st.kp (Rp.fresh (fun _ _ _ n z => n (.inr (by rw [st.ext]; exact z))) r)⟩
    · cases he
/-- sheet.m(..) -/
theorem sx_mt {m w : Str} {j n : Nat} {F : FX} {pl : PySem.Env → Sem Bool} (i : Nat) (B : Bi G) (hF : MtX G m j n F) (hr : SAs G N sc fn k (b :: es) ar) (hm0 : m ∈ shM := by decide) (hj : j ≤ k := by decide)
    (hN : N[i]? = some w := by rfl) (hv : Vis sc w := by first | exact Or.inl rfl | exact Or.inr (Or.inl rfl) | exact Or.inr (Or.inr rfl)) (hd : (w == ("__debug__" : Str)) = false := by decide) (hcd : (w == ("__classdict__" : Str)) = false := by decide)
    (ht : ∀ env : PySem.Env, eval (.Call (.Attribute (.Name w p2) m apos) (b :: es) [] pos) env = (do
      let ov ← eval (.Name w p2) env
      standAt apos.atName
      let (f, first) ← holding [ov] (getMethod ov m (pl env))
      callWith pos f first (backTo pos (starEach (b :: es) env)) (backToKw pos (keywordEach [] env))) := by intro _; rfl) :
    SX G N sc fn k (.Call (.Attribute (.Name w p2) m apos) (b :: es) [] pos) (eCX n F i ar) := fun X C W tk => by
  obtain ⟨f0, fd, ps, hm, hb, hl, hok⟩ := hF
  rw [← C.hP, ← C.hw, ← C.hK, ← C.hmg, ← C.hb] at hok
  rw [← C.hK] at hm hb
  have na := hr.ns b List.mem_cons_self
  refine PE.imp (pe_mtS (E := WE W) (pe_vr C i hN hv hd hcd) (by rw [C.hK]; exact B.sht.cl) hm hok (C.room.mono hj) hb (fun σ => passAt tk σ) (hr.pa X C W tk) (na es X.env) (noStar _ _ _ fun e he => hr.ns e (List.mem_cons_of_mem _ he)) (ht X.env)) fun σ H Q h => ?_
  obtain ⟨ρ, ow, d, ρ', he, gd, post⟩ := h
  unfold eCX at he
  split at he
  · rename_i m0 es0 hs0 ds hρ hds
    split at he
    · rename_i hn
      split at he
      · rename_i d1 es1 hs1 hFq
        cases he
        obtain ⟨a, e, h, hv1, g1, g2, g3, t⟩ := gd.at3 hρ
        obtain ⟨dx, fs, k1, _, _, _, _, k2⟩ := t.f
        refine ⟨.ref a, hv1, a, dx, fs, rfl, by rw [C.hK] at k1 ⊢; exact k1, k2 m hm0, ρ, ow, .vals ds, hds, gd, fun us H1 sm r => ?_⟩
        refine ⟨by rw [List.length_cons, r.length]; exact hn, a, e, h, m0, es0, hs0, OA ow, us, ds, .val d, es1, hs1, rfl, t.same sm, ⟨.inl ⟨i, .inr g1⟩, .inl ⟨i, .inr g2⟩, .inl ⟨i, .inr g3⟩⟩, fun y hy => (gd.ok.same sm).at_ hy, r, hFq, fun v H2 kx t2 r2 => ?_⟩
        obtain ⟨gd2, st2⟩ := (gd.same sm).mutS hρ hv1 g1 g2 g3 kx t2
        exact post v ow H2 ((Same.stp sm).trans st2) gd2 r2
      · cases he
    · cases he
  · cases he
theorem sx_mt0 {m w : Str} {j : Nat} {F : FX} {pl : PySem.Env → Sem Bool} (i : Nat) (B : Bi G) (hF : MtX G m j 1 F) (hm0 : m ∈ shM := by decide) (hj : j ≤ k := by decide)
    (hN : N[i]? = some w := by rfl) (hv : Vis sc w := by first | exact Or.inl rfl | exact Or.inr (Or.inl rfl) | exact Or.inr (Or.inr rfl)) (hd : (w == ("__debug__" : Str)) = false := by decide) (hcd : (w == ("__classdict__" : Str)) = false := by decide)
    (ht : ∀ env : PySem.Env, eval (.Call (.Attribute (.Name w p2) m apos) [] [] pos) env = (do
      let ov ← eval (.Name w p2) env
      standAt apos.atName
      let (f, first) ← holding [ov] (getMethod ov m (pl env))
      callWith pos f first (backTo pos (starEach [] env)) (backToKw pos (keywordEach [] env))) := by intro _; rfl) :
    SX G N sc fn k (.Call (.Attribute (.Name w p2) m apos) [] [] pos) (eCX 1 F i aNil) := fun X C W tk => by
  obtain ⟨f0, fd, ps, hm, hb, hl, hok⟩ := hF
  rw [← C.hP, ← C.hw, ← C.hK, ← C.hmg, ← C.hb] at hok
  rw [← C.hK] at hm hb
  refine PE.imp (pe_mtS0 (E := WE W) (pe_vr C i hN hv hd hcd) (by rw [C.hK]; exact B.sht.cl) hm hok (C.room.mono hj) hb (fun σ => passAt tk σ) (ht X.env)) fun σ H Q h => ?_
  obtain ⟨ρ, ow, d, ρ', he, gd, post⟩ := h
  unfold eCX at he
  split at he
  · rename_i m0 es0 hs0 ds hρ hds
    cases hds
    split at he
    · rename_i hn
      split at he
      · rename_i d1 es1 hs1 hFq
        cases he
        obtain ⟨a, e, h, hv1, g1, g2, g3, t⟩ := gd.at3 hρ
        obtain ⟨dx, fs, k1, _, _, _, _, k2⟩ := t.f
        refine ⟨.ref a, hv1, a, dx, fs, rfl, by rw [C.hK] at k1 ⊢; exact k1, k2 m hm0, ?_⟩
        refine ⟨rfl, a, e, h, m0, es0, hs0, OA ow, [], [], .val d, es1, hs1, rfl, t, ⟨.inl ⟨i, .inr g1⟩, .inl ⟨i, .inr g2⟩, .inl ⟨i, .inr g3⟩⟩, fun y hy => gd.ok.at_ hy, .nil, hFq, fun v H2 kx t2 r2 => ?_⟩
        obtain ⟨gd2, st2⟩ := gd.mutS hρ hv1 g1 g2 g3 kx t2
        exact post v ow H2 st2 gd2 r2
      · cases he
    · cases he
  · cases he
/-- x, y = Sheet(..), Sheet(..) -/
theorem ss_new2 (i j : Nat) {x y : Str} {j0 : Nat} {px py : Pos} {kt k2 : Nat} {pt pt2 p3 p4 p5 p6 : Pos} (hN : NewS G j0) (ha : SE G N sc fn k a f) (hb : SE G N sc fn k b g) (hj0 : j0 + 1 ≤ k := by decide) (hg : GL sc "Sheet" := by rfl) (hi : N[i]? = some x := by rfl) (hj : N[j]? = some y := by rfl) (hij : i ≠ j := by decide)
    (hk : sc.kind = .function := by rfl) (hx : sc.names.lookup x = some .local := by rfl) (hy : sc.names.lookup y = some .local := by rfl) (hl : (px.line == py.line) = true := by rfl) (hxy : (x == y) = false := by decide)
    (hst : ([Expr.Call (.Name "Sheet" p3) [a] [] p4, .Call (.Name "Sheet" p5) [b] [] p6].any fun | .Starred .. => true | _ => false) = false := by rfl) (hc : [Expr.Call (.Name "Sheet" p3) [a] [] p4, .Call (.Name "Sheet" p5) [b] [] p6].all (constantsAlone 8) = false := by rfl) (hf : [Expr.Call (.Name "Sheet" p3) [a] [] p4, .Call (.Name "Sheet" p5) [b] [] p6].all (foldedForSure 8) = false := by rfl)
    (hs : ∀ (l : Nat) (env : PySem.Env), swapsWithSole [.Tuple [.Name x px, .Name y py] kt pt] (.Tuple [.Call (.Name "Sheet" p3) [a] [] p4, .Call (.Name "Sheet" p5) [b] [] p6] k2 pt2) l env = pure false := by intro _ _; rfl) (ns : NS a := by intro _ _; rfl) (ns2 : NS b := by intro _ _; rfl) :
    SS G N sc fn k (.Assign [.Tuple [.Name x px, .Name y py] kt pt] (.Tuple [.Call (.Name "Sheet" p3) [a] [] p4, .Call (.Name "Sheet" p5) [b] [] p6] k2 pt2) pos) (sNew2 i j f g) := fun X C T W tk hp =>
  PS.imp (ps_par C.calm (by rw [C.hN]; exact C.nd) (by rw [C.hN]; exact hi) (by rw [C.hN]; exact hj) hij (by rw [C.hsc]; exact hx) (by rw [C.hsc]; exact hy) (pa_cons (pe_newS hN C tk ha hj0 hg ns) (pa_cons (pe_newS hN C tk hb hj0 hg ns2) pa_nil))
    (sw_par (by rw [C.hsc]; exact hk) (by rw [C.hsc]; exact hx) (by rw [C.hsc]; exact hy) hl hxy hst hc hf) (hs _ X.env)) fun D σ H h => by
    obtain ⟨ρ, ow, o, he, gd, post⟩ := h
    unfold sNew2 at he
    split at he
    · rename_i x1 y1 hx1 hy1
      split at he
      · rename_i m d1 n d2 hm hn
        split at he
        · rename_i hlt
          cases he
          refine ⟨ρ, ow, x1, m, d1, hx1, hm, gd, fun a1 e1 h1 H1 s1 ha1 he1 hh1 t1 => ?_⟩
          refine ⟨ρ, ow, y1, n, d2, hy1, hn, gd.same s1, fun a2 e2 h2 H2 s2 ha2 he2 hh2 t2 => ?_⟩
          refine ⟨_, _, rfl, ?_⟩
          obtain ⟨g1, st1⟩ := gd.newS (i := i) hlt.1 s1 ha1 he1 hh1 t1
          obtain ⟨g2, st2⟩ := g1.newS (i := j) (by rw [List.length_set]; exact hlt.2) s2 ha2 he2 hh2 t2
          exact post _ _ H2 (st1.trans st2) g2
        · cases he
      · cases he
    · cases he
end
end PT

namespace PT
open PySem PySem.Spec PyProof.Rows L2
/-! ## sheets compared in tests; != ; a duplicate -/
structure NeK (K : PySem.W.Frag) (C f : Addr) : Prop where
  ex : ∃ (nm q : Str) (N : Addr) (bs : List Value) (hdct : Bool) (sn : List Str) (sub : List Value) (ab : Bool) (col : Option Bool) (dd : Option Addr) (k0 k1 k2 k3 k5 : Option Value) (newId : String) (on oF : Obj) (es : Array DictEntry) (ep : Nat),
    K.lookup C = some (excClassObj nm q C N bs [.type "object"] hdct sn sub ab col dd k0 k1 k2 k3 k5 newId) ∧ K.lookup N = some on ∧ on.data = .dict es ep ∧ StrKeys es ∧ nsFind es "__eq__" = some (.ref f) ∧ nsFind es "__ne__" = none ∧ K.lookup f = some oF ∧ oF.cls = .type "function"
theorem lk_obj_eq : typeLookup (.type "object") "__eq__" = pure (some (.builtin "object.__eq__")) := by rw [typeLookup_type, builtinLookup_eq_fast]; kernel_rfl
section
variable {X : Cx} {n : Nat} {f C : Addr} {fd : FuncData} {ps : List Str} {sp : Sp}
def rNeS (C : Addr) (sp : Sp) : R2 := fun x y H Q => ∃ a dx fs b dy gs, x = .ref a ∧ H a = some (.ins C dx fs) ∧ y = .ref b ∧ H b = some (.ins C dy gs) ∧ sp [.ref a, .ref b] H (fun v H' => ∃ c, v = .bl c ∧ Q (.bl (!c)) H') noX
theorem op_neS (hK : NeK X.K C f) (F : FnOk X.prog X.w X.K X.mg X.base (L2.CX X.prog X.w) n f fd ps sp) (hb : Binds X.K fd ps []) (hr : Room (n + 1) X.A) (hx : Passes (L2.CX X.prog X.w) X noX) :
    OpR X (compareOp .NotEq) (rNeS C sp) := by
  intro pins s σ H x y v u Q I rx ry h
  obtain ⟨a, dx, fs, b, dy, gs, rfl, ha, rfl, hb2, q⟩ := h
  have e0 := rx
  cases e0
  have e1 := ry
  cases e1
  obtain ⟨ox, od, J⟩ := ins_at I ha
  obtain ⟨oy, ody, J2⟩ := ins_at I hb2
  obtain ⟨nm, qn, N, bs, hdct, sn, sub, ab, col, dd, k0, k1, k2, k3, k5, newId, on, oF, es, ep, c1, c2, c3, c4, c5, c6, c7, c8⟩ := hK.ex
  have kin := I.kIn
  have own : s.heap.OwnEqNoNe a C f "object" [.type "object"] := ⟨ox, oF, nm, qn, N, bs, hdct, sn, sub, ab, col, dd, k0, k1, k2, k3, k5, newId, nsFind es, _, J.1, J.cls, kin _ _ c1, ⟨on, es, ep, kin _ _ c2, c3, c4, fun _ => rfl⟩, c5, kin _ _ c7, c8, PySem.F.mro_object, lk_obj_eq, c6⟩
  have hu : X.A.units + 1 < cLine := by have := hr.units; omega
  have run := run_low (us := [.ref a, .ref b]) (ws := [.ref a, .ref b]) F hr.in1 I.env0.in1 hx hb I (.cons rfl (.cons rfl .nil)) q
  obtain ⟨hh, g, d, t, os⟩ := s
  refine compareOp_ne_ownEq PySem.F.cmp_object own J2.1 J2.cls hu (wpAny_mono run (fun w s' z => ?_) fun _ _ x => x)
  obtain ⟨z', H', I', rz, c, eb, qz⟩ := z
  subst eb
  have e1 : w = Value.bool c := rz
  exact ⟨c, e1, .bl (!c), H', I', rfl, qz⟩
end
section
variable {G : Gc} {N : List Str} {sc : Scope} {fn : Str → Bool} {k : Nat} {pos apos p p2 q1 : Pos} {a b c : Expr} {es : List Expr} {f g h : EF} {ar : AF}
theorem st_eqS {j : Nat} {F : List Dt → Option Rs} (B : Bi G) (nf : ∀ T ∈ ["NoneType", "bool", "int", "str", "list", "tuple"], PySem.W.notFirst G.K (He.ga G.K "Sheet") (.type T) = true) (hF : ShS G "__eq__" j 2 F) (ha : SE G N sc fn k a f) (hb : SE G N sc fn k b g) (hj : j ≤ k := by decide) (hm : behindInMarks .Eq b = false := by rfl) :
    ST G N sc fn k (.Compare a [.Eq] [b] pos) (eEqS F f g) := fun X C W tk => by
  obtain ⟨f0, fd, ps, h1, h2, h3, h4, h5⟩ := hF.ex
  rw [← C.hP, ← C.hw, ← C.hK, ← C.hmg, ← C.hb] at h5
  rw [← C.hK] at h1 h2 h3
  refine PT.imp (pt_cmpR (op_eqS h1 h2 h5 h3 (C.room.mono hj) (passes_call tk fun _ _ _ _ z => z.elim)) (ha X C W tk false) (hb X C W tk false) hm) fun σ H Q h => ?_
  obtain ⟨ρ, ow, rs, he, gd, post⟩ := h
  refine tE.go gd he (fun n pl e => by subst e; exact post) fun d hd v H1 s1 r1 => ?_
  refine tE.go (gd.same s1) hd (fun n pl e => by subst e; exact ExP.same post s1) fun d2 hd2 v2 H2 s2 r2 => ?_
  split at hd2
  · rename_i hs
    split at hd2
    · rename_i b0 hd3
      cases hd2
      obtain ⟨c, hc, post⟩ := post
      cases hc
      obtain ⟨a', m', e1, h1', rfl, dx, fs, q1, _⟩ := r1.rp.isSh hs
      obtain ⟨t, t1, t2, t3⟩ := r2.ty1 (by rw [C.hK]; exact B.sht)
      refine ⟨a', dx, fs, t, rfl, s2 _ _ q1, t1, ?_, rfl, OA ow, [d, d2], .val (.bool b0), fun q hq => (gd.ok.same (s1.trans s2)).at_ hq, .cons (Rp.same s2 r1.rp) (.cons r2.rp .nil), hd3, fun v H' s' r' => ?_⟩
      · cases hsh : isSht d2 with
        | false => rw [t2 hsh, C.hK]; exact nf _ (tyN_mem hsh)
        | true => rw [t3 hsh]; unfold PySem.W.notFirst; simp
      · have e := (RpB.of (b := false) r').bool
        subst e
        exact ⟨⟨b0, rfl⟩, b0, rfl, post H' ((s1.trans s2).trans s')⟩
    · cases hd2
  · cases hd2
def eNeS (F : List Dt → Option Rs) (f g : EF) : EF := fun _ ρ => bnd (f false ρ) fun x => bnd (g false ρ) fun y => if isSht x = true ∧ isSht y = true then (match F [x, y] with
  | some (.val (.bool b)) => some (.val (.bool (!b)))
  | _ => none) else none
theorem st_neS {j : Nat} {F : List Dt → Option Rs} (B : Bi G) (hF : ShS G "__eq__" j 2 F) (hK : NeK G.K (He.ga G.K "Sheet") (He.ma G.K (He.ga G.K "Sheet") "__eq__")) (ha : SE G N sc fn k a f) (hb : SE G N sc fn k b g) (hj : j + 1 ≤ k := by decide) (hm : behindInMarks .NotEq b = false := by rfl) :
    ST G N sc fn k (.Compare a [.NotEq] [b] pos) (eNeS F f g) := fun X C W tk => by
  obtain ⟨f0, fd, ps, h1, h2, h3, h4, h5⟩ := hF.ex
  have ef : He.ma G.K (He.ga G.K "Sheet") "__eq__" = f0 := by unfold He.ma; rw [h1]
  rw [ef] at hK
  rw [← C.hP, ← C.hw, ← C.hK, ← C.hmg, ← C.hb] at h5
  rw [← C.hK] at h1 h2 h3 hK
  refine PT.imp (pt_cmpR (op_neS hK h5 h3 (C.room.mono hj) (passes_call tk fun _ _ _ _ z => z.elim)) (ha X C W tk false) (hb X C W tk false) hm) fun σ H Q h => ?_
  obtain ⟨ρ, ow, rs, he, gd, post⟩ := h
  refine tE.go gd he (fun n pl e => by subst e; exact post) fun d hd v H1 s1 r1 => ?_
  refine tE.go (gd.same s1) hd (fun n pl e => by subst e; exact ExP.same post s1) fun d2 hd2 v2 H2 s2 r2 => ?_
  split at hd2
  · rename_i hs
    split at hd2
    · rename_i b0 hd3
      cases hd2
      obtain ⟨c, hc, post⟩ := post
      cases hc
      obtain ⟨a', m', e1, h1', rfl, dx, fs, q1, _⟩ := r1.rp.isSh hs.1
      obtain ⟨a2, m2, e2, h2', rfl, dy, gs, q2, _⟩ := r2.rp.isSh hs.2
      refine ⟨a', dx, fs, a2, dy, gs, rfl, s2 _ _ q1, rfl, q2, rfl, OA ow, [d, d2], .val (.bool b0), fun q hq => (gd.ok.same (s1.trans s2)).at_ hq, .cons (Rp.same s2 r1.rp) (.cons r2.rp .nil), hd3, fun v H' s' r' => ?_⟩
      have e := (RpB.of (b := false) r').bool
      exact ⟨b0, e, !b0, rfl, post H' ((s1.trans s2).trans s')⟩
    · cases hd2
  · cases hd2
end
/-! ### a duplicate -/
def spD (K : PySem.W.Frag) : Sp := fun vs H Q _ => ∃ (a e h : Addr) (m : Int) (es hs : List Dt) (O : Addr → Prop), vs = [.ref a] ∧ At3 K O H a e h m es hs ∧ 2 ≤ m ∧ m ≤ 12 ∧ es.all scl = true ∧
  ∀ x e' h' H', Same H H' → H x = none → H e' = none → H h' = none → (∀ O', At3 K O' H' x e' h' m es []) → Q (.ref x) H'
theorem putF_len {f : Str} {v w : V} : ∀ {fs : List (Str × V)}, fs.lookup f = some w → (putF f v fs).length = fs.length
  | [], h => by cases h
  | (g, x) :: r, h => by
    unfold putF
    by_cases e : g = f
    · rw [if_pos e]; rfl
    · rw [if_neg e]
      have e2 : (f == g) = false := by rw [beq_eq_false_iff_ne]; exact fun z => e z.symm
      rw [List.lookup_cons, e2] at h
      rw [List.length_cons, List.length_cons, putF_len (v := v) h]
theorem dup_sem {K : PySem.W.Frag} {mg : Str → Option Value} {W : WX} {H : Hp} {Q : VK} {E : XK} {vs : List V} (S : ShK K) (S2 : ShX K) (h : spD K vs H Q E) :
    tSeq (tAsg (tNew K mg W (eFl dMdl (eVar 0))) (gName 1)) (tSeq (sFld K (tVar 1) (tL K mg W (eUn dList (eFl dEnt (eVar 0)))) "entries") (tRet (tVar 1)))
      { nx := fun _ H' => Q .non H', rt := Q } (L2.start ["self", "result"] vs) H := by
  obtain ⟨a, e, h, m, es, hs, O, rfl, t, h2, h12, hsc, q⟩ := h
  have rp : ∀ {H' : Hp}, Same H H' → Rp K NoO H' (.ref a) (shD m es hs) := fun {H'} s => ((t.same s).fresh fun _ _ _ _ z => z).rp (fun z => z) (fun z => z) (fun z => z)
  have gd : ∀ {H' : Hp} {y : Option V}, Same H H' → Good K (Ow.out NoO) [some (.sh (shD m es hs)), none] [some (.ref a), y] H' := fun {H' y} s => good_s rfl fun i sv hsv => by
    match i, hsv with
    | 0, hsv => cases hsv; exact ⟨_, _, rfl, rfl, rp s⟩
    | 1, hsv => cases hsv
    | _ + 2, hsv => cases hsv
  have hnw : newD (.int m) = some (m.toNat, shD m (List.replicate m.toNat .none) []) := by
    unfold newD
    simp only [if_pos (show (2 : Int) ≤ m ∧ m ≤ 12 by omega)]
  refine ⟨_, _, .int m, m.toNat, _, rfl, hnw, gd (y := none) (Same.refl H), fun x e1 h1 H1 s1 hx he1 hh1 t1 => ?_⟩
  have hm : ((m.toNat : Nat) : Int) = m := Int.toNat_of_nonneg (by omega)
  rw [hm] at t1
  show tSeq (sFld K (tVar 1) (tL K mg W (eUn dList (eFl dEnt (eVar 0)))) "entries") (tRet (tVar 1)) _ [some (.ref a), some (.ref x)] H1
  refine ⟨_, _, .val (.list es), rfl, gd (y := some (.ref x)) s1, es, rfl, fun p vs H2 s2 hp r2 => ?_⟩
  obtain ⟨dx, fs, k1, k2, k3, k4, k5, k6⟩ := (t1 NoO).f
  obtain ⟨ws, l2, r3⟩ := (t1 NoO).l2
  cases r3
  have npx : p ≠ x := fun z => by
    have := s2 _ _ k1
    rw [← z, hp] at this; cases this
  have nph : p ≠ h1 := fun z => by
    have := s2 _ _ l2
    rw [← z, hp] at this; cases this
  have nxh : h1 ≠ x := fun z => by rw [z, k1] at l2; cases l2
  refine ⟨.ref x, rfl, x, _, dx, fs, rfl, by rw [upd_ne (Ne.symm npx)]; exact s2 _ _ k1, S.cl, S2.na _ (by decide), by omega, ?_⟩
  refine ⟨.ref x, rfl, ?_⟩
  have s12 := s1.trans s2
  have old : ∀ {b : Addr}, H2 b = none → H b = none := fun {b} hb => none_of s12 hb
  refine q x p h1 _ (fun b o z => ?_) hx (old hp) hh1 fun O' => ⟨⟨dx, _, upd_same, by rw [putF_len k4]; exact k2, ?_, ?_, ?_, ?_⟩, nph, ⟨vs, by rw [upd_ne npx, upd_same], r2.scl hsc⟩, ⟨[], by rw [upd_ne nxh, upd_ne (Ne.symm nph)]; exact s2 _ _ l2, .nil⟩⟩
  · have z2 := s12 _ _ z
    rw [upd_ne (ne_of_none z hx), upd_ne (ne_of_none z2 hp)]
    exact z2
  · rw [lookup_putF, if_neg (by decide)]; exact k3
  · rw [lookup_putF, if_pos rfl]
  · rw [lookup_putF, if_neg (by decide)]; exact k5
  · intro n hn
    have hne : n ≠ ("entries" : Str) := by
      rintro rfl
      revert hn
      decide
    rw [lookup_putF, if_neg hne]
    exact k6 n hn
def MtD (G : Gc) (j : Nat) : Prop := ∃ f fd ps, Meth G.K (He.ga G.K "Sheet") "duplicate" f ∧ Binds G.K fd ps [] ∧ FnOk G.P G.w G.K G.mg G.base (L2.CX G.P G.w) j f fd ps (spD G.K)
def sDup (i j : Nat) : SF := fun ρ => match ρ[j]? with
  | some (some (.sht m es _)) => if (2 ≤ m ∧ m ≤ 12) ∧ es.all scl = true ∧ i < ρ.length then some (.nx (ρ.set i (some (.sht m es [])))) else none
  | _ => none
section
variable {G : Gc} {N : List Str} {sc : Scope} {fn : Str → Bool} {k : Nat} {pos apos p p2 q1 : Pos}
theorem ss_dup {y w : Str} {jj : Nat} {pl : PySem.Env → Sem Bool} (i j : Nat) (B : Bi G) (hF : MtD G jj) (hj : jj ≤ k := by decide) (hi : N[i]? = some y := by rfl) (hx : Loc sc y := by first | exact Or.inl rfl | exact Or.inr rfl) (hf : fn y = true ∨ sc.names.lookup y = some .local := by first | exact .inl rfl | exact .inr rfl)
    (hN : N[j]? = some w := by rfl) (hv : Vis sc w := by first | exact Or.inl rfl | exact Or.inr (Or.inl rfl) | exact Or.inr (Or.inr rfl)) (hd : (w == ("__debug__" : Str)) = false := by decide) (hcd : (w == ("__classdict__" : Str)) = false := by decide)
    (ht : ∀ env : PySem.Env, eval (.Call (.Attribute (.Name w p2) "duplicate" apos) [] [] q1) env = (do
      let ov ← eval (.Name w p2) env
      standAt apos.atName
      let (f, first) ← holding [ov] (getMethod ov "duplicate" (pl env))
      callWith q1 f first (backTo q1 (starEach [] env)) (backToKw q1 (keywordEach [] env))) := by intro _; rfl) :
    SS G N sc fn k (.Assign [.Name y p] (.Call (.Attribute (.Name w p2) "duplicate" apos) [] [] q1) pos) (sDup i j) := fun X C T W tk hp => by
  obtain ⟨f0, fd, ps, hm, hb, hok⟩ := hF
  rw [← C.hP, ← C.hw, ← C.hK, ← C.hmg, ← C.hb] at hok
  rw [← C.hK] at hm hb
  refine PS.imp (ps_set (by rw [C.hN]; exact C.nd) (by rw [C.hN]; exact hi) (by rw [C.hsc]; exact hx) (pe_mtS0 (E := WE W) (pe_vr C j hN hv hd hcd) (by rw [C.hK]; exact B.sht.cl) hm hok (C.room.mono hj) hb (fun σ => passAt tk σ) (ht X.env)) rfl (by rw [C.hfn, C.hsc]; exact hf)) fun D σ H h => ?_
  obtain ⟨ρ, ow, o, he, gd, post⟩ := h
  unfold sDup at he
  split at he
  · rename_i m es hs hρ
    split at he
    · rename_i hc
      cases he
      obtain ⟨a, e, h, hv1, g1, g2, g3, t⟩ := gd.at3 hρ
      obtain ⟨dx, fs, k1, _, _, _, _, k2⟩ := t.f
      refine ⟨.ref a, hv1, a, dx, fs, rfl, by rw [C.hK] at k1 ⊢; exact k1, k2 _ (by decide), a, e, h, m, es, hs, OA ow, rfl, by rw [C.hK] at t ⊢; exact t, hc.1.1, hc.1.2, hc.2.1, fun x e' h' H' sm hx he' hh' t' => ?_⟩
      obtain ⟨gd2, st2⟩ := gd.newS (i := i) hc.2.2 sm hx he' hh' t'
      exact post _ _ H' st2 gd2
    · cases he
  · cases he
end
/-! ### what the head checks for != -/
def neB (K : PySem.W.Frag) : Bool := match K.lookup (He.ga K "Sheet") with
  | some ⟨.type "type", _, .cls cd, sl⟩ => (match cd.mro, sl.toList, K.lookup cd.ns, K.lookup (He.ma K (He.ga K "Sheet") "__eq__") with
    | [.ref D, .type "object"], [_, _, _, _, some (.builtin _), _], some ⟨_, _, .dict es _, _⟩, some oF => decide (D = He.ga K "Sheet") && (!cd.hasDel && (es.toList.all (fun e => match e.key with | .str _ _ => true | _ => false) && (decide (nsFind es "__eq__" = some (.ref (He.ma K (He.ga K "Sheet") "__eq__"))) && (decide (nsFind es "__ne__" = none) && decide (oF.cls = .type "function")))))
    | _, _, _, _ => false)
  | _ => false
theorem neB_ok {K : PySem.W.Frag} (h : neB K = true) : NeK K (He.ga K "Sheet") (He.ma K (He.ga K "Sheet") "__eq__") := by
  unfold neB at h
  split at h
  · rename_i dd cd sl ho
    split at h
    · rename_i D k0 k1 k2 k3 n k5 d1 d2 es ep d3 oF hm hs hn hf
      simp only [Bool.and_eq_true, decide_eq_true_eq, Bool.not_eq_true', List.all_eq_true] at h
      obtain ⟨e1, e2, e3, e4, e5, e6⟩ := h
      obtain ⟨nm, bs, mro, ns, qn, hd, sn, sub, ab, col, dl⟩ := cd
      dsimp only at hm e2 hn
      subst hm e2
      have q : sl = #[k0, k1, k2, k3, some (.builtin n), k5] := Array.toList_inj.mp hs
      subst q
      rw [e1] at ho
      refine ⟨nm, qn, ns, bs, hd, sn, sub, ab, col, dd, k0, k1, k2, k3, k5, n, _, oF, es, ep, ho, hn, rfl, fun e he => ?_, e4, e5, hf, e6⟩
      have := e3 e (by simpa using he)
      split at this
      · rename_i s t hk
        exact ⟨s, t, hk⟩
      · cases this
    · cases h
  · cases h
def nfB (K : PySem.W.Frag) : Bool := tyC.all fun T => PySem.W.notFirst K (He.ga K "Sheet") (.type T)
theorem nfB_ok {K : PySem.W.Frag} (h : nfB K = true) : ∀ T ∈ ["NoneType", "bool", "int", "str", "list", "tuple"], PySem.W.notFirst K (He.ga K "Sheet") (.type T) = true := fun T hT => List.all_eq_true.mp h T hT
end PT

/-! Plain arithmetic of tables: no program in sight. -/
namespace PT
def sumN : Nat → (Nat → Int) → Int
  | 0, _ => 0
  | n + 1, f => sumN n f + f n
theorem sumN_congr {f g : Nat → Int} : ∀ n, (∀ i, i < n → f i = g i) → sumN n f = sumN n g
  | 0, _ => rfl
  | n + 1, h => by
    show sumN n f + f n = sumN n g + g n
    rw [sumN_congr n fun i hi => h i (by omega), h n (by omega)]
theorem sumN_add (f g : Nat → Int) : ∀ n, sumN n (fun i => f i + g i) = sumN n f + sumN n g
  | 0 => rfl
  | n + 1 => by
    show sumN n (fun i => f i + g i) + (f n + g n) = sumN n f + f n + (sumN n g + g n)
    rw [sumN_add f g n]
    omega
theorem sumN_mul (c : Int) (f : Nat → Int) : ∀ n, sumN n (fun i => c * f i) = c * sumN n f
  | 0 => by simp [sumN]
  | n + 1 => by
    show sumN n (fun i => c * f i) + c * f n = c * (sumN n f + f n)
    rw [sumN_mul c f n, Int.mul_add]
theorem sumN_zero : ∀ n, sumN n (fun _ => 0) = 0
  | 0 => rfl
  | n + 1 => by
    show sumN n (fun _ => 0) + 0 = 0
    rw [sumN_zero n]; rfl
theorem sumN_comm (f : Nat → Nat → Int) (n : Nat) : ∀ m, sumN m (fun i => sumN n (fun j => f i j)) = sumN n (fun j => sumN m (fun i => f i j))
  | 0 => (sumN_zero n).symm
  | m + 1 => by
    show sumN m (fun i => sumN n (fun j => f i j)) + sumN n (fun j => f m j) = _
    rw [sumN_comm f n m, ← sumN_add]
    rfl
/-- congruence -/
def Cg (m a b : Int) : Prop := ∃ q, a = b + m * q
theorem Cg.refl (m a : Int) : Cg m a a := ⟨0, by simp⟩
theorem Cg.symm {m a b : Int} : Cg m a b → Cg m b a := fun ⟨q, h⟩ => ⟨-q, by rw [h, Int.mul_neg]; omega⟩
theorem Cg.trans {m a b c : Int} : Cg m a b → Cg m b c → Cg m a c := fun ⟨q, h⟩ ⟨r, g⟩ => ⟨q + r, by rw [h, g, Int.mul_add]; omega⟩
theorem Cg.add {m a b c d : Int} : Cg m a b → Cg m c d → Cg m (a + c) (b + d) := fun ⟨q, h⟩ ⟨r, g⟩ => ⟨q + r, by rw [h, g, Int.mul_add]; omega⟩
theorem Cg.neg {m a b : Int} : Cg m a b → Cg m (-a) (-b) := fun ⟨q, h⟩ => ⟨-q, by rw [h, Int.mul_neg]; omega⟩
theorem Cg.sub {m a b c d : Int} (h : Cg m a b) (g : Cg m c d) : Cg m (a - c) (b - d) := h.add g.neg
theorem Cg.mulL {m a b : Int} (c : Int) : Cg m a b → Cg m (c * a) (c * b) := fun ⟨q, h⟩ => ⟨c * q, by rw [h, Int.mul_add, ← Int.mul_assoc, Int.mul_comm c m, Int.mul_assoc]⟩
theorem Cg.mul {m a b c d : Int} (h : Cg m a b) (g : Cg m c d) : Cg m (a * c) (b * d) := by
  have h1 := g.mulL a
  have h2 := h.mulL d
  rw [Int.mul_comm d a, Int.mul_comm d b] at h2
  exact h1.trans h2
theorem Cg.emod (m a : Int) : Cg m (a % m) a := ⟨-(a / m), by rw [Int.mul_neg]; have := Int.emod_add_mul_ediv a m; omega⟩
theorem Cg.mod_eq {m a b : Int} : Cg m a b → a % m = b % m := fun ⟨q, h⟩ => by rw [h, Int.add_mul_emod_self_left]
theorem Cg.of_mod {m a b : Int} (h : a % m = b % m) : Cg m a b := (Cg.emod m a).symm.trans (by rw [h]; exact Cg.emod m b)
theorem Cg.sum {m : Int} {f g : Nat → Int} : ∀ n, (∀ i, i < n → Cg m (f i) (g i)) → Cg m (sumN n f) (sumN n g)
  | 0, _ => Cg.refl m 0
  | n + 1, h => (Cg.sum n fun i hi => h i (by omega)).add (h n (by omega))
theorem Cg.dvd {m d a b : Int} (h : Cg m a b) (hd : d ∣ m) (hb : d ∣ b) : d ∣ a := by
  obtain ⟨q, rfl⟩ := h
  exact Int.dvd_add hb (Int.dvd_trans hd (Int.dvd_mul_right m q))
theorem dvd_sum {d : Int} {f : Nat → Int} : ∀ n, (∀ i, i < n → d ∣ f i) → d ∣ sumN n f
  | 0, _ => Int.dvd_zero d
  | n + 1, h => Int.dvd_add (dvd_sum n fun i hi => h i (by omega)) (h n (by omega))
/-- repeated sums: the value at a place by the differences at 0 -/
def nw : Nat → (Nat → Int) → Int
  | 0, g => g 0
  | x + 1, g => nw x g + nw x (fun k => g (k + 1))
theorem nw_add : ∀ (x : Nat) (f g : Nat → Int), nw x (fun k => f k + g k) = nw x f + nw x g
  | 0, _, _ => rfl
  | x + 1, f, g => by
    show nw x (fun k => f k + g k) + nw x (fun k => f (k + 1) + g (k + 1)) = _
    rw [nw_add x f g, nw_add x (fun k => f (k + 1)) (fun k => g (k + 1))]
    show _ = nw x f + nw x (fun k => f (k + 1)) + (nw x g + nw x (fun k => g (k + 1)))
    omega
theorem nw_mul (c : Int) : ∀ (x : Nat) (f : Nat → Int), nw x (fun k => c * f k) = c * nw x f
  | 0, _ => rfl
  | x + 1, f => by
    show nw x (fun k => c * f k) + nw x (fun k => c * f (k + 1)) = c * (nw x f + nw x (fun k => f (k + 1)))
    rw [nw_mul c x f, nw_mul c x (fun k => f (k + 1)), Int.mul_add]
theorem nw_congr {m : Int} : ∀ (x : Nat) (f g : Nat → Int), (∀ k, k ≤ x → Cg m (f k) (g k)) → Cg m (nw x f) (nw x g)
  | 0, f, g, h => h 0 (Nat.le_refl 0)
  | x + 1, f, g, h => (nw_congr x f g fun k hk => h k (by omega)).add (nw_congr x (fun k => f (k + 1)) (fun k => g (k + 1)) fun k hk => h (k + 1) (by omega))
theorem nw_sum (f : Nat → Nat → Int) (x : Nat) : ∀ n, nw x (fun k => sumN n (fun i => f i k)) = sumN n (fun i => nw x (fun k => f i k))
  | 0 => by
    have h0 : ∀ x, nw x (fun _ => 0) = 0 := fun x => by
      have := nw_mul 0 x (fun _ => 0)
      simpa using this
    exact h0 x
  | n + 1 => by
    show nw x (fun k => sumN n (fun i => f i k) + f n k) = _
    rw [nw_add, nw_sum f x n]
    rfl
def dlt1 (k i : Nat) : Int := if i = k then 1 else 0
theorem sum_delta (f : Nat → Int) : ∀ n i, sumN n (fun k => f k * dlt1 k i) = if i < n then f i else 0
  | 0, i => by simp [sumN]
  | n + 1, i => by
    show sumN n (fun k => f k * dlt1 k i) + f n * dlt1 n i = _
    rw [sum_delta f n i]
    unfold dlt1
    by_cases h1 : i = n
    · subst h1; simp
    · by_cases h2 : i < n
      · rw [if_pos h2, if_neg h1, if_pos (by omega)]; simp
      · rw [if_neg h2, if_neg h1, if_neg (by omega)]; simp
/-- the falling factorial's table, by its differences -/
def fc : Nat → Int
  | 0 => 1
  | n + 1 => (n + 1 : Nat) * fc n
def bs (k x : Nat) : Int := nw x (fun i => fc k * dlt1 k i)
theorem nw_bs {m : Int} {g c : Nat → Int} {x n : Nat} (hx : x < n) (h : ∀ k, k ≤ x → Cg m (g k) (c k * fc k)) : Cg m (nw x g) (sumN n (fun k => c k * bs k x)) := by
  have h1 : Cg m (nw x g) (nw x (fun i => sumN n (fun k => c k * (fc k * dlt1 k i)))) := by
    refine nw_congr x _ _ fun i hi => ?_
    have e : sumN n (fun k => c k * (fc k * dlt1 k i)) = c i * fc i := by
      have : (fun k => c k * (fc k * dlt1 k i)) = fun k => (c k * fc k) * dlt1 k i := by funext k; rw [Int.mul_assoc]
      rw [this, sum_delta (fun k => c k * fc k) n i, if_pos (by omega)]
    rw [e]
    exact h i hi
  have h2 : nw x (fun i => sumN n (fun k => c k * (fc k * dlt1 k i))) = sumN n (fun k => c k * bs k x) := by
    rw [nw_sum (fun k i => c k * (fc k * dlt1 k i)) x n]
    exact sumN_congr n fun k _ => nw_mul (c k) x _
  rw [h2] at h1
  exact h1
/-- differences at 0 of a function -/
def dfn : Nat → Nat → (Nat → Int) → Int
  | 0, i, f => f i
  | k + 1, i, f => dfn k (i + 1) f - dfn k i f
theorem dfn_nw (f : Nat → Int) : ∀ (x j : Nat), dfn j x f = nw x (fun k => dfn (j + k) 0 f)
  | 0, j => rfl
  | x + 1, j => by
    show dfn j (x + 1) f = nw x (fun k => dfn (j + k) 0 f) + nw x (fun k => dfn (j + (k + 1)) 0 f)
    have e : (fun k => dfn (j + (k + 1)) 0 f) = fun k => dfn (j + 1 + k) 0 f := by
      funext k
      congr 1
      omega
    rw [e, ← dfn_nw f x j, ← dfn_nw f x (j + 1)]
    show dfn j (x + 1) f = dfn j x f + (dfn j (x + 1) f - dfn j x f)
    omega
theorem dfn_congr {m : Int} {f g : Nat → Int} : ∀ (k i : Nat), (∀ j, j ≤ k → Cg m (f (i + j)) (g (i + j))) → Cg m (dfn k i f) (dfn k i g)
  | 0, i, h => h 0 (Nat.le_refl 0)
  | k + 1, i, h => (dfn_congr k (i + 1) fun j hj => by
      have := h (j + 1) (by omega)
      rw [show i + 1 + j = i + (j + 1) by omega]
      exact this).sub (dfn_congr k i fun j hj => h j (by omega))
theorem dfn_add (f g : Nat → Int) : ∀ (k i : Nat), dfn k i (fun x => f x + g x) = dfn k i f + dfn k i g
  | 0, _ => rfl
  | k + 1, i => by
    show dfn k (i + 1) (fun x => f x + g x) - dfn k i (fun x => f x + g x) = _
    rw [dfn_add f g k (i + 1), dfn_add f g k i]
    show _ = dfn k (i + 1) f - dfn k i f + (dfn k (i + 1) g - dfn k i g)
    omega
theorem dfn_mul (c : Int) (f : Nat → Int) : ∀ (k i : Nat), dfn k i (fun x => c * f x) = c * dfn k i f
  | 0, _ => rfl
  | k + 1, i => by
    show dfn k (i + 1) (fun x => c * f x) - dfn k i (fun x => c * f x) = c * (dfn k (i + 1) f - dfn k i f)
    rw [dfn_mul c f k (i + 1), dfn_mul c f k i, Int.mul_sub]
theorem dfn_zero : ∀ (k i : Nat), dfn k i (fun _ => 0) = 0 := fun k i => by
  have := dfn_mul 0 (fun _ => 0) k i
  simpa using this
theorem dfn_sum (f : Nat → Nat → Int) (k i : Nat) : ∀ n, dfn k i (fun x => sumN n (fun j => f j x)) = sumN n (fun j => dfn k i (f j))
  | 0 => dfn_zero k i
  | n + 1 => by
    show dfn k i (fun x => sumN n (fun j => f j x) + f n x) = _
    rw [dfn_add, dfn_sum f k i n]
    rfl
end PT

namespace PT
/-! ## divisors -/
def fac : Nat → Nat
  | 0 => 1
  | n + 1 => (n + 1) * fac n
theorem fc_fac : ∀ k, fc k = (fac k : Nat)
  | 0 => rfl
  | k + 1 => by
    show ((k + 1 : Nat) : Int) * fc k = ((k + 1) * fac k : Nat)
    rw [fc_fac k, Int.natCast_mul]
def dvn (m k : Nat) : Nat := Nat.gcd (fac k) m
theorem dvn_pos {m : Nat} (k : Nat) (h : 0 < m) : 0 < dvn m k := Nat.gcd_pos_of_pos_right _ h
theorem dvn_le {m : Nat} (k : Nat) (h : 0 < m) : dvn m k ≤ m := Nat.le_of_dvd h (Nat.gcd_dvd_right _ _)
theorem dvn_dvd (m k : Nat) : (dvn m k : Int) ∣ (m : Int) := Int.natCast_dvd_natCast.mpr (Nat.gcd_dvd_right _ _)
theorem mods {P : Nat → Prop} (h2 : P 2) (h3 : P 3) (h4 : P 4) (h5 : P 5) (h6 : P 6) (h7 : P 7) (h8 : P 8) (h9 : P 9) (h10 : P 10) (h11 : P 11) (h12 : P 12) (m : Nat) (a : 2 ≤ m) (b : m ≤ 12) : P m := by
  have : m = 2 ∨ m = 3 ∨ m = 4 ∨ m = 5 ∨ m = 6 ∨ m = 7 ∨ m = 8 ∨ m = 9 ∨ m = 10 ∨ m = 11 ∨ m = 12 := by omega
  rcases this with rfl | rfl | rfl | rfl | rfl | rfl | rfl | rfl | rfl | rfl | rfl <;> assumption
/-! ## falling factorials -/
def fl : Nat → Int → Int
  | 0, _ => 1
  | k + 1, x => fl k x * (x - k)
theorem fl_succ (x : Int) : ∀ k, fl (k + 1) (x + 1) = (x + 1) * fl k x
  | 0 => by simp [fl]
  | k + 1 => by
    show fl (k + 1) (x + 1) * (x + 1 - ((k + 1 : Nat) : Int)) = (x + 1) * (fl k x * (x - (k : Int)))
    rw [fl_succ x k, Int.mul_assoc]
    congr 2
    omega
theorem bs_fl : ∀ (x k : Nat), bs k x = fl k x
  | 0, 0 => rfl
  | 0, k + 1 => by
    have e : fl (k + 1) 0 = 0 := by
      have h : ∀ k, fl (k + 1) 0 = 0 := by
        intro k
        induction k with
        | zero => rfl
        | succ k ih =>
          show fl (k + 1) 0 * (0 - ((k + 1 : Nat) : Int)) = 0
          rw [ih, Int.zero_mul]
      exact h k
    show fc (k + 1) * dlt1 (k + 1) 0 = fl (k + 1) ((0 : Nat) : Int)
    have e2 : ((0 : Nat) : Int) = 0 := rfl
    rw [e2, e]
    unfold dlt1
    simp
  | x + 1, 0 => by
    show nw x (fun i => fc 0 * dlt1 0 i) + nw x (fun i => fc 0 * dlt1 0 (i + 1)) = 1
    have h1 : nw x (fun i => fc 0 * dlt1 0 i) = 1 := bs_fl x 0
    have h2 : (fun i => fc 0 * dlt1 0 (i + 1)) = fun i => 0 * (fun _ => 0 : Nat → Int) i := by
      funext i
      unfold dlt1
      simp
    rw [h1, h2, nw_mul]
    simp
  | x + 1, k + 1 => by
    show nw x (fun i => fc (k + 1) * dlt1 (k + 1) i) + nw x (fun i => fc (k + 1) * dlt1 (k + 1) (i + 1)) = fl (k + 1) ((x + 1 : Nat) : Int)
    have h1 : nw x (fun i => fc (k + 1) * dlt1 (k + 1) i) = fl (k + 1) x := bs_fl x (k + 1)
    have h2 : (fun i => fc (k + 1) * dlt1 (k + 1) (i + 1)) = fun i => ((k + 1 : Nat) : Int) * (fc k * dlt1 k i) := by
      funext i
      show ((k + 1 : Nat) : Int) * fc k * dlt1 (k + 1) (i + 1) = ((k + 1 : Nat) : Int) * (fc k * dlt1 k i)
      rw [Int.mul_assoc]
      congr 2
      unfold dlt1
      simp
    have h3 : nw x (fun i => fc k * dlt1 k i) = fl k x := bs_fl x k
    have h4 : fl (k + 1) ((x + 1 : Nat) : Int) = ((x : Int) + 1) * fl k x := fl_succ x k
    rw [h1, h2, nw_mul, h3, h4]
    show fl k x * ((x : Int) - k) + ((k : Int) + 1) * fl k x = ((x : Int) + 1) * fl k x
    rw [Int.mul_comm (fl k x), ← Int.add_mul]
    congr 1
    omega
/-! ## closed checks -/
def quoB (m k : Nat) : Bool := (List.range m).all fun r => if r % dvn m k = 0 then (List.range (m / dvn m k)).any fun c => (c * fac k) % m = r else true
theorem quo_ok : ∀ m : Nat, 2 ≤ m → m ≤ 12 → (List.range 12).all (fun k => quoB m k) = true := by
  refine mods ?_ ?_ ?_ ?_ ?_ ?_ ?_ ?_ ?_ ?_ ?_ <;> decide +kernel
theorem quo (m : Nat) (h2 : 2 ≤ m) (h12 : m ≤ 12) (k : Nat) (hk : k < 12) (d : Int) (hd : (dvn m k : Int) ∣ d) : ∃ c : Nat, c < m / dvn m k ∧ Cg m d ((c : Int) * fc k) := by
  have h := List.all_eq_true.mp (quo_ok m h2 h12) k (List.mem_range.mpr hk)
  have hmp : (0 : Int) < m := by omega
  have h0 : 0 ≤ d % m := Int.emod_nonneg _ (by omega)
  have h1 : d % m < m := Int.emod_lt_of_pos _ hmp
  obtain ⟨r, hr⟩ : ∃ r : Nat, (r : Int) = d % m := ⟨(d % m).toNat, Int.toNat_of_nonneg h0⟩
  have hrm : r < m := by omega
  have h2 := List.all_eq_true.mp h r (List.mem_range.mpr hrm)
  have hdr : (dvn m k : Int) ∣ (r : Int) := by
    rw [hr]
    exact (Cg.emod m d).dvd (dvn_dvd m k) hd
  have hdr' : dvn m k ∣ r := Int.natCast_dvd_natCast.mp hdr
  rw [if_pos (Nat.mod_eq_zero_of_dvd hdr')] at h2
  obtain ⟨c, hc, he⟩ := List.any_eq_true.mp h2
  have he' : (c * fac k) % m = r := by simpa using he
  refine ⟨c, List.mem_range.mp hc, Cg.of_mod ?_⟩
  rw [fc_fac, ← Int.natCast_mul, ← hr, ← he', Int.natCast_emod]
/-- exact differences, the heads -/
def dx : Nat → List Int → List Int
  | 0, _ => []
  | n + 1, row => row.headD 0 :: dx n (List.zipWith (fun a b => b - a) row row.tail)
theorem dx_get : ∀ (n o : Nat) (row : List Int), row.length = n → o < n → (dx n row).getD o 0 = dfn o 0 (fun s => row.getD s 0)
  | n + 1, 0, row, h, _ => by
    cases row with
    | nil => cases h
    | cons x r => rfl
  | n + 1, o + 1, row, h, ho => by
    have hl : (List.zipWith (fun a b => b - a) row row.tail).length = n := by
      rw [List.length_zipWith, List.length_tail]
      omega
    show (dx n (List.zipWith (fun a b => b - a) row row.tail)).getD o 0 = _
    rw [dx_get n o _ hl (by omega)]
    have key : ∀ (k i : Nat), i + k + 1 < row.length → dfn k i (fun s => (List.zipWith (fun a b => b - a) row row.tail).getD s 0) = dfn (k + 1) i (fun s => row.getD s 0) := by
      intro k
      induction k with
      | zero =>
        intro i hi
        have h1 : i < row.length := by omega
        have h2 : i + 1 < row.length := by omega
        show (List.zipWith (fun a b => b - a) row row.tail).getD i 0 = row.getD (i + 1) 0 - row.getD i 0
        rw [List.getD_eq_getElem?_getD, List.getElem?_zipWith, List.getElem?_tail, List.getElem?_eq_getElem h1, List.getElem?_eq_getElem h2, List.getD_eq_getElem?_getD, List.getD_eq_getElem?_getD, List.getElem?_eq_getElem h1, List.getElem?_eq_getElem h2]
        rfl
      | succ k ih =>
        intro i hi
        show dfn k (i + 1) (fun s => (List.zipWith (fun a b => b - a) row row.tail).getD s 0) - dfn k i (fun s => (List.zipWith (fun a b => b - a) row row.tail).getD s 0) = dfn (k + 1) (i + 1) (fun s => row.getD s 0) - dfn (k + 1) i (fun s => row.getD s 0)
        rw [ih (i + 1) (by omega), ih i (by omega)]
    exact key o 0 (by omega)
/-- all differences of a table are divisible -/
def polB (m : Nat) (row : List Int) : Bool := (List.range m).all fun o => (dx m row).getD o 0 % (dvn m o : Int) = 0
def tabN (m : Nat) (f : Nat → Int) : List Int := (List.range m).map f
theorem tabN_len (m : Nat) (f : Nat → Int) : (tabN m f).length = m := by unfold tabN; rw [List.length_map, List.length_range]
theorem tabN_get {m : Nat} (f : Nat → Int) {x : Nat} (h : x < m) : (tabN m f).getD x 0 = f x := by
  unfold tabN
  rw [List.getD_eq_getElem?_getD, List.getElem?_map, List.getElem?_range h]
  rfl
def Pol (m : Nat) (f : Nat → Int) : Prop := ∀ o, o < m → (dvn m o : Int) ∣ dfn o 0 f
theorem Pol.congr {m : Nat} {f g : Nat → Int} (h : Pol m f) (e : ∀ x, x < m → Cg m (g x) (f x)) : Pol m g := fun o ho =>
  (dfn_congr o 0 fun j hj => by rw [Nat.zero_add]; exact e j (by omega)).dvd (dvn_dvd m o) (h o ho)
theorem Pol.ofB {m : Nat} {f : Nat → Int} (h : polB m (tabN m f) = true) : Pol m f := fun o ho => by
  have h1 := List.all_eq_true.mp h o (List.mem_range.mpr ho)
  have h2 : (dx m (tabN m f)).getD o 0 % (dvn m o : Int) = 0 := by simpa using h1
  rw [dx_get m o _ (tabN_len m f) ho] at h2
  have h3 := Int.dvd_of_emod_eq_zero h2
  have e : dfn o 0 (fun s => (tabN m f).getD s 0) = dfn o 0 f := by
    have key : ∀ (k i : Nat), i + k < m → dfn k i (fun s => (tabN m f).getD s 0) = dfn k i f := by
      intro k
      induction k with
      | zero => exact fun i hi => tabN_get f hi
      | succ k ih =>
        intro i hi
        show dfn k (i + 1) _ - dfn k i _ = dfn k (i + 1) f - dfn k i f
        rw [ih (i + 1) (by omega), ih i (by omega)]
    exact key o 0 (by omega)
  rw [e] at h3
  exact h3
theorem Pol.zero (m : Nat) : Pol m (fun _ => 0) := fun o _ => by rw [dfn_zero]; exact Int.dvd_zero _
theorem Pol.add {m : Nat} {f g : Nat → Int} (h : Pol m f) (k : Pol m g) : Pol m (fun x => f x + g x) := fun o ho => by
  rw [dfn_add]
  exact Int.dvd_add (h o ho) (k o ho)
theorem Pol.smul {m : Nat} {f : Nat → Int} (c : Int) (h : Pol m f) : Pol m (fun x => c * f x) := fun o ho => by
  rw [dfn_mul]
  exact Int.dvd_trans (h o ho) (Int.dvd_mul_left _ _)
theorem Pol.sum {m : Nat} {f : Nat → Nat → Int} : ∀ n, (∀ k, k < n → Pol m (f k)) → Pol m (fun x => sumN n (fun k => f k x))
  | 0, _ => Pol.zero m
  | n + 1, h => (Pol.sum n fun k hk => h k (by omega)).add (h n (by omega))
/-- a table with divisible differences is a sum of falling factorials -/
theorem Pol.rep {m : Nat} {f : Nat → Int} (h2 : 2 ≤ m) (h12 : m ≤ 12) (h : Pol m f) : ∃ c : Nat → Int, (∀ k, k < m → 0 ≤ c k ∧ c k < (m / dvn m k : Nat) ∧ Cg m (dfn k 0 f) (c k * fc k)) ∧ ∀ x, x < m → Cg m (f x) (sumN m (fun k => c k * fl k x)) := by
  have hc : ∀ k, ∃ c : Int, k < m → 0 ≤ c ∧ c < (m / dvn m k : Nat) ∧ Cg m (dfn k 0 f) (c * fc k) := fun k => by
    by_cases hk : k < m
    · obtain ⟨c, h3, h4⟩ := quo m h2 h12 k (by omega) _ (h k hk)
      exact ⟨c, fun _ => ⟨by omega, by omega, h4⟩⟩
    · exact ⟨0, fun z => absurd z hk⟩
  refine ⟨fun k => (hc k).choose, fun k hk => (hc k).choose_spec hk, fun x hx => ?_⟩
  have e : f x = nw x (fun k => dfn k 0 f) := by
    have := dfn_nw f x 0
    rw [show (fun k => dfn (0 + k) 0 f) = fun k => dfn k 0 f from by funext k; rw [Nat.zero_add]] at this
    exact this
  have := nw_bs (m := m) (c := fun k => (hc k).choose) (n := m) hx (fun k hk => ((hc k).choose_spec (by omega)).2.2)
  rw [← e] at this
  have e2 : sumN m (fun k => (hc k).choose * bs k x) = sumN m (fun k => (hc k).choose * fl k x) := sumN_congr m fun k _ => by rw [bs_fl]
  rw [e2] at this
  exact this
/-! ### falling factorials, and turned ones -/
theorem turn_ok : ∀ m : Nat, 2 ≤ m → m ≤ 12 → (List.range m).all (fun k => (List.range m).all fun p => polB m (tabN m fun s => fl k (((p + s) % m : Nat) : Int))) = true := by
  refine mods ?_ ?_ ?_ ?_ ?_ ?_ ?_ ?_ ?_ ?_ ?_ <;> decide +kernel
theorem Pol.fl {m : Nat} (h2 : 2 ≤ m) (h12 : m ≤ 12) {k : Nat} (hk : k < m) {p : Nat} (hp : p < m) : Pol m (fun s => fl k (((p + s) % m : Nat) : Int)) :=
  Pol.ofB (List.all_eq_true.mp (List.all_eq_true.mp (turn_ok m h2 h12) k (List.mem_range.mpr hk)) p (List.mem_range.mpr hp))
theorem Pol.turn {m : Nat} {f : Nat → Int} (h2 : 2 ≤ m) (h12 : m ≤ 12) (h : Pol m f) {p : Nat} (hp : p < m) : Pol m (fun s => f ((p + s) % m)) := by
  obtain ⟨c, _, hc⟩ := h.rep h2 h12
  refine Pol.congr (f := fun s => sumN m (fun k => c k * PT.fl k (((p + s) % m : Nat) : Int))) (Pol.sum m fun k hk => (Pol.fl h2 h12 hk hp).smul (c k)) fun s _ => hc _ (Nat.mod_lt _ (by omega))
end PT

namespace PT
/-! ## normal forms -/
/-- how many sizes are above 1 -/
def kn (m : Nat) : Nat := ((List.range m).filter fun k => decide (dvn m k < m)).length
theorem kn_ok : ∀ m : Nat, 2 ≤ m → m ≤ 12 → kn m ≤ m ∧ (List.range 12).all (fun k => decide (k < m → (dvn m k < m ↔ k < kn m))) = true := by
  refine mods ?_ ?_ ?_ ?_ ?_ ?_ ?_ ?_ ?_ ?_ ?_ <;> decide +kernel
theorem kn_le {m : Nat} (h2 : 2 ≤ m) (h12 : m ≤ 12) : kn m ≤ m := (kn_ok m h2 h12).1
theorem kn_iff {m k : Nat} (h2 : 2 ≤ m) (h12 : m ≤ 12) (hk : k < m) : dvn m k < m ↔ k < kn m := by
  have := List.all_eq_true.mp (kn_ok m h2 h12).2 k (List.mem_range.mpr (by omega))
  exact (of_decide_eq_true this) hk
theorem dvn_top {m k : Nat} (h2 : 2 ≤ m) (h12 : m ≤ 12) (hk : k < m) (h : kn m ≤ k) : dvn m k = m := by
  have h1 := dvn_le k (show 0 < m by omega)
  have h3 : ¬ dvn m k < m := fun z => by have := (kn_iff h2 h12 hk).mp z; omega
  omega
/-- the least factor -/
def quoP (m k : Nat) (d : Int) : Nat := ((List.range (m / dvn m k)).find? fun c : Nat => decide (((c : Int) * fc k - d) % m = 0)).getD 0
theorem quoP_find {m k : Nat} (h2 : 2 ≤ m) (h12 : m ≤ 12) (hk : k < 12) {d : Int} (hd : (dvn m k : Int) ∣ d) : (List.range (m / dvn m k)).find? (fun c : Nat => decide (((c : Int) * fc k - d) % m = 0)) = some (quoP m k d) ∧ quoP m k d < m / dvn m k ∧ Cg m d ((quoP m k d : Int) * fc k) := by
  obtain ⟨c, hc, hg⟩ := quo m h2 h12 k hk d hd
  have hz : ((c : Int) * fc k - d) % m = 0 := by
    have := (hg.symm.sub (Cg.refl m d)).mod_eq
    rw [this, Int.sub_self, Int.zero_emod]
  cases e : (List.range (m / dvn m k)).find? (fun c : Nat => decide (((c : Int) * fc k - d) % m = 0)) with
  | none =>
    have := List.find?_eq_none.mp e c (List.mem_range.mpr hc)
    simp [hz] at this
  | some q =>
    have hq : quoP m k d = q := by unfold quoP; rw [e]; rfl
    have h1 : ((q : Int) * fc k - d) % m = 0 := by simpa using List.find?_some e
    rw [hq]
    refine ⟨rfl, List.mem_range.mp (List.mem_of_find?_eq_some e), ?_⟩
    obtain ⟨t, ht⟩ := Int.dvd_of_emod_eq_zero h1
    exact ⟨-t, by rw [Int.mul_neg]; omega⟩
/-- a table by its normal form -/
theorem Pol.form {m : Nat} {f : Nat → Int} (h2 : 2 ≤ m) (h12 : m ≤ 12) (h : Pol m f) (c : Nat → Int) (hc : ∀ k, k < kn m → Cg m (dfn k 0 f) (c k * fc k)) : ∀ x, x < m → Cg m (f x) (sumN (kn m) (fun k => c k * PT.fl k x)) := fun x hx => by
  let c' : Nat → Int := fun k => if k < kn m then c k else 0
  have e : f x = nw x (fun k => dfn k 0 f) := by
    have := dfn_nw f x 0
    rw [show (fun k => dfn (0 + k) 0 f) = fun k => dfn k 0 f from by funext k; rw [Nat.zero_add]] at this
    exact this
  have h1 := nw_bs (m := m) (c := c') (n := m) hx (g := fun k => dfn k 0 f) (fun k hk => by
    by_cases hk2 : k < kn m
    · show Cg m (dfn k 0 f) ((if k < kn m then c k else 0) * fc k)
      rw [if_pos hk2]
      exact hc k hk2
    · show Cg m (dfn k 0 f) ((if k < kn m then c k else 0) * fc k)
      rw [if_neg hk2, Int.zero_mul]
      have hd := h k (by omega)
      rw [dvn_top h2 h12 (by omega) (by omega)] at hd
      obtain ⟨t, ht⟩ := hd
      exact ⟨t, by rw [ht]; simp⟩)
  rw [← e] at h1
  have e2 : sumN m (fun k => c' k * bs k x) = sumN (kn m) (fun k => c k * PT.fl k x) := by
    have key : ∀ n, kn m ≤ n → sumN n (fun k => c' k * bs k x) = sumN (kn m) (fun k => c k * PT.fl k x) := by
      intro n hn
      induction n with
      | zero =>
        have : kn m = 0 := by omega
        rw [this]
        rfl
      | succ n ih =>
        by_cases hn2 : kn m ≤ n
        · show sumN n (fun k => c' k * bs k x) + c' n * bs n x = _
          rw [ih hn2]
          have : c' n = 0 := if_neg (by omega)
          rw [this, Int.zero_mul, Int.add_zero]
        · have : kn m = n + 1 := by omega
          rw [this]
          refine sumN_congr (n + 1) fun k hk => ?_
          have : c' k = c k := if_pos (by omega)
          rw [this, bs_fl]
    exact key m (kn_le h2 h12)
  rw [e2] at h1
  exact h1
end PT

namespace PT
/-! ## polynomials by their coefficients -/
def pv (x : Int) : List Int → Int
  | [] => 0
  | a :: l => a + x * pv x l
theorem pv_zip (x c : Int) : ∀ a b : List Int, a.length = b.length → pv x (List.zipWith (fun lo hi => lo - c * hi) a b) = pv x a - c * pv x b
  | [], [], _ => by simp [pv]
  | [], _ :: _, h => by cases h
  | _ :: _, [], h => by cases h
  | p :: a, q :: b, h => by
    have ih := pv_zip x c a b (by simpa using h)
    show p - c * q + x * pv x (List.zipWith (fun lo hi => lo - c * hi) a b) = p + x * pv x a - c * (q + x * pv x b)
    rw [ih, Int.mul_add, Int.mul_sub, ← Int.mul_assoc, ← Int.mul_assoc, Int.mul_comm c x]
    omega
theorem pv_snoc (x : Int) : ∀ a : List Int, pv x (a ++ [0]) = pv x a
  | [] => by simp [pv]
  | p :: a => by
    show p + x * pv x (a ++ [0]) = p + x * pv x a
    rw [pv_snoc x a]
/-- the coefficients of a falling factorial -/
def prK : Nat → List Int
  | 0 => [1]
  | k + 1 => List.zipWith (fun lo hi => lo - (k : Int) * hi) (0 :: prK k) (prK k ++ [0])
theorem prK_len : ∀ k, (prK k).length = k + 1
  | 0 => rfl
  | k + 1 => by
    unfold prK
    rw [List.length_zipWith, List.length_cons, List.length_append, prK_len k]
    simp
theorem prK_fl (x : Int) : ∀ k, pv x (prK k) = fl k x
  | 0 => by simp [prK, pv, fl]
  | k + 1 => by
    show pv x (List.zipWith (fun lo hi => lo - (k : Int) * hi) (0 :: prK k) (prK k ++ [0])) = fl k x * (x - k)
    rw [pv_zip x k _ _ (by simp), pv_snoc, prK_fl x k]
    show 0 + x * pv x (prK k) - k * fl k x = _
    rw [prK_fl x k, Int.mul_sub, Int.mul_comm (fl k x), Int.mul_comm (fl k x)]
    omega
/-- a row added, modulo m -/
def addL (m f : Int) : List Int → List Int → List Int
  | a :: p, b :: r => (b + f * a) % m :: addL m f p r
  | _, r => r
theorem addL_len (m f : Int) : ∀ p r, (addL m f p r).length = r.length
  | [], _ => rfl
  | _ :: _, [] => rfl
  | a :: p, b :: r => by show (addL m f p r).length + 1 = r.length + 1; rw [addL_len]
theorem addL_pv (m f x : Int) : ∀ p r : List Int, p.length ≤ r.length → Cg m (pv x (addL m f p r)) (pv x r + f * pv x p)
  | [], r, _ => by
    show Cg m (pv x r) (pv x r + f * 0)
    rw [Int.mul_zero, Int.add_zero]
    exact Cg.refl m _
  | _ :: _, [], h => by simp at h
  | a :: p, b :: r, h => by
    have ih := addL_pv m f x p r (by simpa using h)
    have h1 := (Cg.emod m (b + f * a)).add (ih.mulL x)
    show Cg m ((b + f * a) % m + x * pv x (addL m f p r)) (b + x * pv x r + f * (a + x * pv x p))
    have e : b + f * a + x * (pv x r + f * pv x p) = b + x * pv x r + f * (a + x * pv x p) := by
      rw [Int.mul_add, Int.mul_add, ← Int.mul_assoc, ← Int.mul_assoc, Int.mul_comm x f]
      omega
    rw [← e]
    exact h1
theorem addL_set (m f : Int) : ∀ (p r : List Int) (j : Nat), j < p.length → j < r.length → (addL m f (p.take j) r).set j ((r.getD j 0 + f * p.getD j 0) % m) = addL m f (p.take (j + 1)) r
  | [], _, _, h, _ => by simp at h
  | _ :: _, [], _, _, h => by simp at h
  | a :: p, b :: r, 0, _, _ => by
    show (b :: r).set 0 _ = (b + f * a) % m :: addL m f (p.take 0) r
    simp [addL]
  | a :: p, b :: r, j + 1, h1, h2 => by
    have ih := addL_set m f p r j (by simpa using h1) (by simpa using h2)
    show ((b + f * a) % m :: addL m f (p.take j) r).set (j + 1) _ = (b + f * a) % m :: addL m f (p.take (j + 1)) r
    rw [List.set_cons_succ]
    congr 1
theorem addL_get (m f : Int) : ∀ (p r : List Int) (j : Nat), p.length ≤ j → (addL m f p r).getD j 0 = r.getD j 0
  | [], _, _, _ => rfl
  | _ :: _, [], _, _ => rfl
  | a :: p, b :: r, 0, h => by simp at h
  | a :: p, b :: r, j + 1, h => by
    have ih := addL_get m f p r j (by simpa using h)
    simpa [addL] using ih
theorem addL_rng {m f : Int} (hm : 0 < m) : ∀ (p r : List Int), (∀ y ∈ r, 0 ≤ y ∧ y < m) → ∀ y ∈ addL m f p r, 0 ≤ y ∧ y < m
  | [], _, h, y, hy => h y hy
  | _ :: _, [], h, y, hy => h y hy
  | a :: p, b :: r, h, y, hy => by
    rcases List.mem_cons.mp hy with rfl | hy
    · exact ⟨Int.emod_nonneg _ (by omega), Int.emod_lt_of_pos _ hm⟩
    · exact addL_rng hm p r (fun z hz => h z (List.mem_cons_of_mem _ hz)) y hy
/-- the coefficients of a normal form -/
def cfs (m : Int) (form : List Int) (K : Nat) : Nat → List Int
  | 0 => List.replicate K 0
  | k + 1 => addL m (form.getD k 0) (prK k) (cfs m form K k)
theorem cfs_len (m : Int) (form : List Int) (K : Nat) : ∀ k, (cfs m form K k).length = K
  | 0 => List.length_replicate
  | k + 1 => by unfold cfs; rw [addL_len, cfs_len m form K k]
theorem pv_zero (x : Int) : ∀ n, pv x (List.replicate n 0) = 0
  | 0 => rfl
  | n + 1 => by
    rw [List.replicate_succ]
    show 0 + x * pv x (List.replicate n 0) = 0
    rw [pv_zero x n]
    simp
theorem cfs_pv (m x : Int) (form : List Int) (K : Nat) : ∀ k, k ≤ K → Cg m (pv x (cfs m form K k)) (sumN k (fun j => form.getD j 0 * fl j x))
  | 0, _ => by
    show Cg m (pv x (List.replicate K 0)) 0
    rw [pv_zero]
    exact Cg.refl m 0
  | k + 1, h => by
    have h1 := addL_pv m (form.getD k 0) x (prK k) (cfs m form K k) (by rw [prK_len, cfs_len]; omega)
    rw [prK_fl] at h1
    exact h1.trans ((cfs_pv m x form K k (by omega)).add (Cg.refl m _))
theorem cfs_rng {m : Int} (hm : 0 < m) (form : List Int) (K : Nat) : ∀ k, ∀ y ∈ cfs m form K k, 0 ≤ y ∧ y < m
  | 0, y, hy => by rw [List.eq_of_mem_replicate hy]; omega
  | k + 1, y, hy => addL_rng hm _ _ (cfs_rng hm form K k) y hy
end PT

namespace PT
/-! ## products, compositions -/
theorem mul_ok : ∀ m : Nat, 2 ≤ m → m ≤ 12 → (List.range m).all (fun k => (List.range m).all fun j => polB m (tabN m fun s => PT.fl k (s : Int) * PT.fl j (s : Int))) = true := by
  refine mods ?_ ?_ ?_ ?_ ?_ ?_ ?_ ?_ ?_ ?_ ?_ <;> decide +kernel
theorem Pol.flmul {m : Nat} (h2 : 2 ≤ m) (h12 : m ≤ 12) {k j : Nat} (hk : k < m) (hj : j < m) : Pol m (fun s => PT.fl k (s : Int) * PT.fl j (s : Int)) :=
  Pol.ofB (List.all_eq_true.mp (List.all_eq_true.mp (mul_ok m h2 h12) k (List.mem_range.mpr hk)) j (List.mem_range.mpr hj))
theorem sumN_mulR (f : Nat → Int) (c : Int) : ∀ n, sumN n (fun i => f i * c) = sumN n f * c
  | 0 => by simp [sumN]
  | n + 1 => by show sumN n (fun i => f i * c) + f n * c = (sumN n f + f n) * c; rw [sumN_mulR f c n, Int.add_mul]
theorem Pol.mul {m : Nat} {f g : Nat → Int} (h2 : 2 ≤ m) (h12 : m ≤ 12) (hf : Pol m f) (hg : Pol m g) : Pol m (fun x => f x * g x) := by
  obtain ⟨c, _, hc⟩ := hf.rep h2 h12
  obtain ⟨d, _, hd⟩ := hg.rep h2 h12
  have h : Pol m (fun x => sumN m (fun k => sumN m (fun j => (c k * d j) * (PT.fl k (x : Int) * PT.fl j (x : Int))))) :=
    Pol.sum m fun k hk => Pol.sum m fun j hj => (Pol.flmul h2 h12 hk hj).smul (c k * d j)
  refine h.congr fun x hx => ?_
  refine ((hc x hx).mul (hd x hx)).trans ?_
  have e : sumN m (fun k => c k * PT.fl k (x : Int)) * sumN m (fun j => d j * PT.fl j (x : Int)) = sumN m (fun k => sumN m (fun j => (c k * d j) * (PT.fl k (x : Int) * PT.fl j (x : Int)))) := by
    rw [← sumN_mulR]
    refine sumN_congr m fun k _ => ?_
    rw [← sumN_mul]
    refine sumN_congr m fun j _ => ?_
    rw [Int.mul_assoc, Int.mul_assoc, Int.mul_left_comm (PT.fl k (x : Int))]
  rw [e]
  exact Cg.refl _ _
theorem const_ok : ∀ m : Nat, 2 ≤ m → m ≤ 12 → (polB m (tabN m fun _ => 1) && polB m (tabN m fun s => (s : Int))) = true := by
  refine mods ?_ ?_ ?_ ?_ ?_ ?_ ?_ ?_ ?_ ?_ ?_ <;> decide +kernel
theorem Pol.one {m : Nat} (h2 : 2 ≤ m) (h12 : m ≤ 12) : Pol m (fun _ => 1) := Pol.ofB (Bool.and_eq_true .. ▸ const_ok m h2 h12).1
theorem Pol.idn {m : Nat} (h2 : 2 ≤ m) (h12 : m ≤ 12) : Pol m (fun s => (s : Int)) := Pol.ofB (Bool.and_eq_true .. ▸ const_ok m h2 h12).2
theorem Pol.const {m : Nat} (h2 : 2 ≤ m) (h12 : m ≤ 12) (c : Int) : Pol m (fun _ => c) := by
  have := (Pol.one h2 h12).smul c
  simpa using this
theorem Pol.pv {m : Nat} (h2 : 2 ≤ m) (h12 : m ≤ 12) : ∀ nums : List Int, Pol m (fun x => PT.pv (x : Int) nums)
  | [] => Pol.zero m
  | a :: l => (Pol.const h2 h12 a).add ((Pol.idn h2 h12).mul h2 h12 (Pol.pv h2 h12 l))
theorem Pol.flof {m : Nat} {g : Nat → Int} (h2 : 2 ≤ m) (h12 : m ≤ 12) (hg : Pol m g) : ∀ k, Pol m (fun x => PT.fl k (g x))
  | 0 => Pol.one h2 h12
  | k + 1 => (Pol.flof h2 h12 hg k).mul h2 h12 (by
    have := hg.add (Pol.const h2 h12 (-(k : Int)))
    simpa [Int.sub_eq_add_neg] using this)
/-- a composition -/
theorem Pol.comp {m : Nat} {f g : Nat → Int} (h2 : 2 ≤ m) (h12 : m ≤ 12) (hf : Pol m f) (hg : Pol m g) (hr : ∀ x, x < m → 0 ≤ g x ∧ g x < m) : Pol m (fun x => f (g x).toNat) := by
  obtain ⟨c, _, hc⟩ := hf.rep h2 h12
  have h : Pol m (fun x => sumN m (fun k => c k * PT.fl k (g x))) := Pol.sum m fun k _ => (Pol.flof h2 h12 hg k).smul (c k)
  refine h.congr fun x hx => ?_
  have hb := hr x hx
  have := hc (g x).toNat (by omega)
  have e : (((g x).toNat : Nat) : Int) = g x := Int.toNat_of_nonneg hb.1
  rw [e] at this
  exact this
/-! ## differences of Newton sums; normal forms are unique -/
theorem dfn_of_nw (g : Nat → Int) : ∀ (k i : Nat), dfn k i (fun x => nw x g) = nw i (fun j => g (k + j))
  | 0, i => by
    show nw i g = nw i (fun j => g (0 + j))
    congr 1
    funext j
    rw [Nat.zero_add]
  | k + 1, i => by
    show dfn k (i + 1) _ - dfn k i _ = _
    rw [dfn_of_nw g k (i + 1), dfn_of_nw g k i]
    show nw i (fun j => g (k + j)) + nw i (fun j => g (k + (j + 1))) - nw i (fun j => g (k + j)) = nw i (fun j => g (k + 1 + j))
    have e : (fun j => g (k + (j + 1))) = fun j => g (k + 1 + j) := by
      funext j
      congr 1
      omega
    rw [e]
    omega
theorem dfn_fl (k j : Nat) : dfn k 0 (fun x => PT.fl j (x : Int)) = fc j * dlt1 j k := by
  have e : (fun x : Nat => PT.fl j (x : Int)) = fun x => nw x (fun i => fc j * dlt1 j i) := by
    funext x
    rw [← bs_fl]
    rfl
  rw [e, dfn_of_nw]
  rfl
theorem dfn_form (c : Nat → Int) (n k : Nat) : dfn k 0 (fun x => sumN n (fun j => c j * PT.fl j (x : Int))) = if k < n then c k * fc k else 0 := by
  rw [dfn_sum (fun j x => c j * PT.fl j (x : Int))]
  have e : sumN n (fun j => dfn k 0 (fun x => c j * PT.fl j (x : Int))) = sumN n (fun j => (c j * fc j) * dlt1 j k) := sumN_congr n fun j _ => by
    rw [dfn_mul, dfn_fl, Int.mul_assoc]
  rw [e, sum_delta]
def uniB (m k : Nat) : Bool := (List.range (m / dvn m k)).all fun c => quoP m k ((c : Int) * fc k) == c
theorem uni_ok : ∀ m : Nat, 2 ≤ m → m ≤ 12 → (List.range 12).all (fun k => uniB m k) = true := by
  refine mods ?_ ?_ ?_ ?_ ?_ ?_ ?_ ?_ ?_ ?_ ?_ <;> decide +kernel
theorem quoP_congr {m k : Nat} {d e : Int} (h : Cg m d e) : quoP m k d = quoP m k e := by
  unfold quoP
  congr 2
  funext c
  have : ((c : Int) * fc k - d) % m = ((c : Int) * fc k - e) % m := ((Cg.refl m _).sub h).mod_eq
  rw [this]
theorem quoP_uni {m k : Nat} (h2 : 2 ≤ m) (h12 : m ≤ 12) (hk : k < 12) {c : Nat} (hc : c < m / dvn m k) {d : Int} (h : Cg m d ((c : Int) * fc k)) : quoP m k d = c := by
  rw [quoP_congr h]
  have := List.all_eq_true.mp (List.all_eq_true.mp (uni_ok m h2 h12) k (List.mem_range.mpr hk)) c (List.mem_range.mpr hc)
  simpa using this
theorem Pol.ofForm {m : Nat} (h2 : 2 ≤ m) (h12 : m ≤ 12) (c : Nat → Int) (n : Nat) : Pol m (fun x => sumN n (fun j => c j * PT.fl j (x : Int))) :=
  Pol.sum n fun j _ => (Pol.flof h2 h12 (Pol.idn h2 h12) j).smul (c j)
end PT

namespace PT
/-! ## remainders -/
def cfd : Nat → List Int
  | 0 => [1]
  | k + 1 => List.zipWith (· - ·) (0 :: cfd k) (cfd k ++ [0])
def dotF : List Int → Nat → (Nat → Int) → Int
  | [], _, _ => 0
  | c :: cs, i, f => c * f i + dotF cs (i + 1) f
theorem dotF_sub (f : Nat → Int) : ∀ (a b : List Int) (i : Nat), a.length = b.length → dotF (List.zipWith (· - ·) a b) i f = dotF a i f - dotF b i f
  | [], [], _, _ => rfl
  | [], _ :: _, _, h => by cases h
  | _ :: _, [], _, h => by cases h
  | x :: a, y :: b, i, h => by
    have ih := dotF_sub f a b (i + 1) (by simpa using h)
    simp only [List.zipWith_cons_cons, dotF, ih, Int.sub_mul]
    omega
theorem dotF_snoc (f : Nat → Int) : ∀ (a : List Int) (i : Nat), dotF (a ++ [0]) i f = dotF a i f
  | [], i => by simp [dotF]
  | x :: a, i => by simp only [List.cons_append, dotF, dotF_snoc f a]
theorem dfn_dot (f : Nat → Int) : ∀ (k i : Nat), dfn k i f = dotF (cfd k) i f
  | 0, i => by simp [dfn, cfd, dotF]
  | k + 1, i => by
    show dfn k (i + 1) f - dfn k i f = dotF (List.zipWith (· - ·) (0 :: cfd k) (cfd k ++ [0])) i f
    rw [dotF_sub f _ _ _ (by simp), dotF_snoc, dfn_dot f k (i + 1), dfn_dot f k i]
    simp [dotF]
/-- the places' values keep the remainders after division by each divisor of m -/
def Keeps (m n : Nat) (f : Nat → Int) : Prop := ∀ d a b : Nat, 2 ≤ d → m % d = 0 → a < b → b < n → (b - a) % d = 0 → (d : Int) ∣ f b - f a

theorem dfv0 (f : Nat → Int) : dfn 0 0 f = (1) * f 0 := by
  rw [dfn_dot]
  have e : cfd 0 = [1] := by decide +kernel
  rw [e]
  simp only [dotF, Nat.reduceAdd]
  omega
theorem dfv1 (f : Nat → Int) : dfn 1 0 f = (-1) * f 0 + (1) * f 1 := by
  rw [dfn_dot]
  have e : cfd 1 = [-1, 1] := by decide +kernel
  rw [e]
  simp only [dotF, Nat.reduceAdd]
  omega
theorem dfv2 (f : Nat → Int) : dfn 2 0 f = (1) * f 0 + (-2) * f 1 + (1) * f 2 := by
  rw [dfn_dot]
  have e : cfd 2 = [1, -2, 1] := by decide +kernel
  rw [e]
  simp only [dotF, Nat.reduceAdd]
  omega
theorem dfv3 (f : Nat → Int) : dfn 3 0 f = (-1) * f 0 + (3) * f 1 + (-3) * f 2 + (1) * f 3 := by
  rw [dfn_dot]
  have e : cfd 3 = [-1, 3, -3, 1] := by decide +kernel
  rw [e]
  simp only [dotF, Nat.reduceAdd]
  omega
theorem dfv4 (f : Nat → Int) : dfn 4 0 f = (1) * f 0 + (-4) * f 1 + (6) * f 2 + (-4) * f 3 + (1) * f 4 := by
  rw [dfn_dot]
  have e : cfd 4 = [1, -4, 6, -4, 1] := by decide +kernel
  rw [e]
  simp only [dotF, Nat.reduceAdd]
  omega
theorem dfv5 (f : Nat → Int) : dfn 5 0 f = (-1) * f 0 + (5) * f 1 + (-10) * f 2 + (10) * f 3 + (-5) * f 4 + (1) * f 5 := by
  rw [dfn_dot]
  have e : cfd 5 = [-1, 5, -10, 10, -5, 1] := by decide +kernel
  rw [e]
  simp only [dotF, Nat.reduceAdd]
  omega
theorem dfv6 (f : Nat → Int) : dfn 6 0 f = (1) * f 0 + (-6) * f 1 + (15) * f 2 + (-20) * f 3 + (15) * f 4 + (-6) * f 5 + (1) * f 6 := by
  rw [dfn_dot]
  have e : cfd 6 = [1, -6, 15, -20, 15, -6, 1] := by decide +kernel
  rw [e]
  simp only [dotF, Nat.reduceAdd]
  omega
theorem dfv7 (f : Nat → Int) : dfn 7 0 f = (-1) * f 0 + (7) * f 1 + (-21) * f 2 + (35) * f 3 + (-35) * f 4 + (21) * f 5 + (-7) * f 6 + (1) * f 7 := by
  rw [dfn_dot]
  have e : cfd 7 = [-1, 7, -21, 35, -35, 21, -7, 1] := by decide +kernel
  rw [e]
  simp only [dotF, Nat.reduceAdd]
  omega
theorem dfv8 (f : Nat → Int) : dfn 8 0 f = (1) * f 0 + (-8) * f 1 + (28) * f 2 + (-56) * f 3 + (70) * f 4 + (-56) * f 5 + (28) * f 6 + (-8) * f 7 + (1) * f 8 := by
  rw [dfn_dot]
  have e : cfd 8 = [1, -8, 28, -56, 70, -56, 28, -8, 1] := by decide +kernel
  rw [e]
  simp only [dotF, Nat.reduceAdd]
  omega
theorem dfv9 (f : Nat → Int) : dfn 9 0 f = (-1) * f 0 + (9) * f 1 + (-36) * f 2 + (84) * f 3 + (-126) * f 4 + (126) * f 5 + (-84) * f 6 + (36) * f 7 + (-9) * f 8 + (1) * f 9 := by
  rw [dfn_dot]
  have e : cfd 9 = [-1, 9, -36, 84, -126, 126, -84, 36, -9, 1] := by decide +kernel
  rw [e]
  simp only [dotF, Nat.reduceAdd]
  omega
theorem dfv10 (f : Nat → Int) : dfn 10 0 f = (1) * f 0 + (-10) * f 1 + (45) * f 2 + (-120) * f 3 + (210) * f 4 + (-252) * f 5 + (210) * f 6 + (-120) * f 7 + (45) * f 8 + (-10) * f 9 + (1) * f 10 := by
  rw [dfn_dot]
  have e : cfd 10 = [1, -10, 45, -120, 210, -252, 210, -120, 45, -10, 1] := by decide +kernel
  rw [e]
  simp only [dotF, Nat.reduceAdd]
  omega
theorem dfv11 (f : Nat → Int) : dfn 11 0 f = (-1) * f 0 + (11) * f 1 + (-55) * f 2 + (165) * f 3 + (-330) * f 4 + (462) * f 5 + (-462) * f 6 + (330) * f 7 + (-165) * f 8 + (55) * f 9 + (-11) * f 10 + (1) * f 11 := by
  rw [dfn_dot]
  have e : cfd 11 = [-1, 11, -55, 165, -330, 462, -462, 330, -165, 55, -11, 1] := by decide +kernel
  rw [e]
  simp only [dotF, Nat.reduceAdd]
  omega
theorem keeps2 {f : Nat → Int} (h : Keeps 2 2 f) : Pol 2 f := by
  intro o ho
  have : o = 0 ∨ o = 1 := by omega
  rcases this with rfl | rfl
  · have e : dvn 2 0 = 1 := by decide +kernel
    rw [e]
    exact Int.one_dvd _
  · have e : dvn 2 1 = 1 := by decide +kernel
    rw [e]
    exact Int.one_dvd _
theorem keeps3 {f : Nat → Int} (h : Keeps 3 3 f) : Pol 3 f := by
  intro o ho
  have : o = 0 ∨ o = 1 ∨ o = 2 := by omega
  rcases this with rfl | rfl | rfl
  · have e : dvn 3 0 = 1 := by decide +kernel
    rw [e]
    exact Int.one_dvd _
  · have e : dvn 3 1 = 1 := by decide +kernel
    rw [e]
    exact Int.one_dvd _
  · have e : dvn 3 2 = 1 := by decide +kernel
    rw [e]
    exact Int.one_dvd _
theorem kp4_2 {f : Nat → Int} (h : Keeps 4 4 f) : ((2 : Nat) : Int) ∣ dfn 2 0 f := by
  rw [dfv2]
  have d2 : (2 : Int) ∣ (1) * f 0 + (-2) * f 1 + (1) * f 2 := by
    have e2_0 := h 2 0 2 (by omega) (by omega) (by omega) (by omega) (by omega)
    omega
  omega
theorem kp4_3 {f : Nat → Int} (h : Keeps 4 4 f) : ((2 : Nat) : Int) ∣ dfn 3 0 f := by
  rw [dfv3]
  have d2 : (2 : Int) ∣ (-1) * f 0 + (3) * f 1 + (-3) * f 2 + (1) * f 3 := by
    have e2_0 := h 2 0 2 (by omega) (by omega) (by omega) (by omega) (by omega)
    have e2_1 := h 2 1 3 (by omega) (by omega) (by omega) (by omega) (by omega)
    omega
  omega
theorem keeps4 {f : Nat → Int} (h : Keeps 4 4 f) : Pol 4 f := by
  intro o ho
  have : o = 0 ∨ o = 1 ∨ o = 2 ∨ o = 3 := by omega
  rcases this with rfl | rfl | rfl | rfl
  · have e : dvn 4 0 = 1 := by decide +kernel
    rw [e]
    exact Int.one_dvd _
  · have e : dvn 4 1 = 1 := by decide +kernel
    rw [e]
    exact Int.one_dvd _
  · have e : dvn 4 2 = 2 := by decide +kernel
    rw [e]
    exact kp4_2 h
  · have e : dvn 4 3 = 2 := by decide +kernel
    rw [e]
    exact kp4_3 h
theorem keeps5 {f : Nat → Int} (h : Keeps 5 5 f) : Pol 5 f := by
  intro o ho
  have : o = 0 ∨ o = 1 ∨ o = 2 ∨ o = 3 ∨ o = 4 := by omega
  rcases this with rfl | rfl | rfl | rfl | rfl
  · have e : dvn 5 0 = 1 := by decide +kernel
    rw [e]
    exact Int.one_dvd _
  · have e : dvn 5 1 = 1 := by decide +kernel
    rw [e]
    exact Int.one_dvd _
  · have e : dvn 5 2 = 1 := by decide +kernel
    rw [e]
    exact Int.one_dvd _
  · have e : dvn 5 3 = 1 := by decide +kernel
    rw [e]
    exact Int.one_dvd _
  · have e : dvn 5 4 = 1 := by decide +kernel
    rw [e]
    exact Int.one_dvd _
theorem kp6_2 {f : Nat → Int} (h : Keeps 6 6 f) : ((2 : Nat) : Int) ∣ dfn 2 0 f := by
  rw [dfv2]
  have d2 : (2 : Int) ∣ (1) * f 0 + (-2) * f 1 + (1) * f 2 := by
    have e2_0 := h 2 0 2 (by omega) (by omega) (by omega) (by omega) (by omega)
    omega
  omega
theorem kp6_3 {f : Nat → Int} (h : Keeps 6 6 f) : ((6 : Nat) : Int) ∣ dfn 3 0 f := by
  rw [dfv3]
  have d2 : (2 : Int) ∣ (-1) * f 0 + (3) * f 1 + (-3) * f 2 + (1) * f 3 := by
    have e2_0 := h 2 0 2 (by omega) (by omega) (by omega) (by omega) (by omega)
    have e2_1 := h 2 1 3 (by omega) (by omega) (by omega) (by omega) (by omega)
    omega
  have d3 : (3 : Int) ∣ (-1) * f 0 + (3) * f 1 + (-3) * f 2 + (1) * f 3 := by
    have e3_0 := h 3 0 3 (by omega) (by omega) (by omega) (by omega) (by omega)
    omega
  omega
theorem kp6_4 {f : Nat → Int} (h : Keeps 6 6 f) : ((6 : Nat) : Int) ∣ dfn 4 0 f := by
  rw [dfv4]
  have d2 : (2 : Int) ∣ (1) * f 0 + (-4) * f 1 + (6) * f 2 + (-4) * f 3 + (1) * f 4 := by
    have e2_0 := h 2 0 2 (by omega) (by omega) (by omega) (by omega) (by omega)
    have e2_1 := h 2 1 3 (by omega) (by omega) (by omega) (by omega) (by omega)
    have e2_2 := h 2 2 4 (by omega) (by omega) (by omega) (by omega) (by omega)
    omega
  have d3 : (3 : Int) ∣ (1) * f 0 + (-4) * f 1 + (6) * f 2 + (-4) * f 3 + (1) * f 4 := by
    have e3_0 := h 3 0 3 (by omega) (by omega) (by omega) (by omega) (by omega)
    have e3_1 := h 3 1 4 (by omega) (by omega) (by omega) (by omega) (by omega)
    omega
  omega
theorem kp6_5 {f : Nat → Int} (h : Keeps 6 6 f) : ((6 : Nat) : Int) ∣ dfn 5 0 f := by
  rw [dfv5]
  have d2 : (2 : Int) ∣ (-1) * f 0 + (5) * f 1 + (-10) * f 2 + (10) * f 3 + (-5) * f 4 + (1) * f 5 := by
    have e2_0 := h 2 0 2 (by omega) (by omega) (by omega) (by omega) (by omega)
    have e2_1 := h 2 1 3 (by omega) (by omega) (by omega) (by omega) (by omega)
    have e2_2 := h 2 2 4 (by omega) (by omega) (by omega) (by omega) (by omega)
    have e2_3 := h 2 3 5 (by omega) (by omega) (by omega) (by omega) (by omega)
    omega
  have d3 : (3 : Int) ∣ (-1) * f 0 + (5) * f 1 + (-10) * f 2 + (10) * f 3 + (-5) * f 4 + (1) * f 5 := by
    have e3_0 := h 3 0 3 (by omega) (by omega) (by omega) (by omega) (by omega)
    have e3_1 := h 3 1 4 (by omega) (by omega) (by omega) (by omega) (by omega)
    have e3_2 := h 3 2 5 (by omega) (by omega) (by omega) (by omega) (by omega)
    omega
  omega
theorem keeps6 {f : Nat → Int} (h : Keeps 6 6 f) : Pol 6 f := by
  intro o ho
  have : o = 0 ∨ o = 1 ∨ o = 2 ∨ o = 3 ∨ o = 4 ∨ o = 5 := by omega
  rcases this with rfl | rfl | rfl | rfl | rfl | rfl
  · have e : dvn 6 0 = 1 := by decide +kernel
    rw [e]
    exact Int.one_dvd _
  · have e : dvn 6 1 = 1 := by decide +kernel
    rw [e]
    exact Int.one_dvd _
  · have e : dvn 6 2 = 2 := by decide +kernel
    rw [e]
    exact kp6_2 h
  · have e : dvn 6 3 = 6 := by decide +kernel
    rw [e]
    exact kp6_3 h
  · have e : dvn 6 4 = 6 := by decide +kernel
    rw [e]
    exact kp6_4 h
  · have e : dvn 6 5 = 6 := by decide +kernel
    rw [e]
    exact kp6_5 h
theorem keeps7 {f : Nat → Int} (h : Keeps 7 7 f) : Pol 7 f := by
  intro o ho
  have : o = 0 ∨ o = 1 ∨ o = 2 ∨ o = 3 ∨ o = 4 ∨ o = 5 ∨ o = 6 := by omega
  rcases this with rfl | rfl | rfl | rfl | rfl | rfl | rfl
  · have e : dvn 7 0 = 1 := by decide +kernel
    rw [e]
    exact Int.one_dvd _
  · have e : dvn 7 1 = 1 := by decide +kernel
    rw [e]
    exact Int.one_dvd _
  · have e : dvn 7 2 = 1 := by decide +kernel
    rw [e]
    exact Int.one_dvd _
  · have e : dvn 7 3 = 1 := by decide +kernel
    rw [e]
    exact Int.one_dvd _
  · have e : dvn 7 4 = 1 := by decide +kernel
    rw [e]
    exact Int.one_dvd _
  · have e : dvn 7 5 = 1 := by decide +kernel
    rw [e]
    exact Int.one_dvd _
  · have e : dvn 7 6 = 1 := by decide +kernel
    rw [e]
    exact Int.one_dvd _
theorem kp10_2 {f : Nat → Int} (h : Keeps 10 10 f) : ((2 : Nat) : Int) ∣ dfn 2 0 f := by
  rw [dfv2]
  have d2 : (2 : Int) ∣ (1) * f 0 + (-2) * f 1 + (1) * f 2 := by
    have e2_0 := h 2 0 2 (by omega) (by omega) (by omega) (by omega) (by omega)
    omega
  omega
theorem kp10_3 {f : Nat → Int} (h : Keeps 10 10 f) : ((2 : Nat) : Int) ∣ dfn 3 0 f := by
  rw [dfv3]
  have d2 : (2 : Int) ∣ (-1) * f 0 + (3) * f 1 + (-3) * f 2 + (1) * f 3 := by
    have e2_0 := h 2 0 2 (by omega) (by omega) (by omega) (by omega) (by omega)
    have e2_1 := h 2 1 3 (by omega) (by omega) (by omega) (by omega) (by omega)
    omega
  omega
theorem kp10_4 {f : Nat → Int} (h : Keeps 10 10 f) : ((2 : Nat) : Int) ∣ dfn 4 0 f := by
  rw [dfv4]
  have d2 : (2 : Int) ∣ (1) * f 0 + (-4) * f 1 + (6) * f 2 + (-4) * f 3 + (1) * f 4 := by
    have e2_0 := h 2 0 2 (by omega) (by omega) (by omega) (by omega) (by omega)
    have e2_1 := h 2 1 3 (by omega) (by omega) (by omega) (by omega) (by omega)
    have e2_2 := h 2 2 4 (by omega) (by omega) (by omega) (by omega) (by omega)
    omega
  omega
theorem kp10_5 {f : Nat → Int} (h : Keeps 10 10 f) : ((10 : Nat) : Int) ∣ dfn 5 0 f := by
  rw [dfv5]
  have d2 : (2 : Int) ∣ (-1) * f 0 + (5) * f 1 + (-10) * f 2 + (10) * f 3 + (-5) * f 4 + (1) * f 5 := by
    have e2_0 := h 2 0 2 (by omega) (by omega) (by omega) (by omega) (by omega)
    have e2_1 := h 2 1 3 (by omega) (by omega) (by omega) (by omega) (by omega)
    have e2_2 := h 2 2 4 (by omega) (by omega) (by omega) (by omega) (by omega)
    have e2_3 := h 2 3 5 (by omega) (by omega) (by omega) (by omega) (by omega)
    omega
  have d5 : (5 : Int) ∣ (-1) * f 0 + (5) * f 1 + (-10) * f 2 + (10) * f 3 + (-5) * f 4 + (1) * f 5 := by
    have e5_0 := h 5 0 5 (by omega) (by omega) (by omega) (by omega) (by omega)
    omega
  omega
theorem kp10_6 {f : Nat → Int} (h : Keeps 10 10 f) : ((10 : Nat) : Int) ∣ dfn 6 0 f := by
  rw [dfv6]
  have d2 : (2 : Int) ∣ (1) * f 0 + (-6) * f 1 + (15) * f 2 + (-20) * f 3 + (15) * f 4 + (-6) * f 5 + (1) * f 6 := by
    have e2_0 := h 2 0 2 (by omega) (by omega) (by omega) (by omega) (by omega)
    have e2_1 := h 2 1 3 (by omega) (by omega) (by omega) (by omega) (by omega)
    have e2_2 := h 2 2 4 (by omega) (by omega) (by omega) (by omega) (by omega)
    have e2_3 := h 2 3 5 (by omega) (by omega) (by omega) (by omega) (by omega)
    have e2_4 := h 2 4 6 (by omega) (by omega) (by omega) (by omega) (by omega)
    omega
  have d5 : (5 : Int) ∣ (1) * f 0 + (-6) * f 1 + (15) * f 2 + (-20) * f 3 + (15) * f 4 + (-6) * f 5 + (1) * f 6 := by
    have e5_0 := h 5 0 5 (by omega) (by omega) (by omega) (by omega) (by omega)
    have e5_1 := h 5 1 6 (by omega) (by omega) (by omega) (by omega) (by omega)
    omega
  omega
theorem kp10_7 {f : Nat → Int} (h : Keeps 10 10 f) : ((10 : Nat) : Int) ∣ dfn 7 0 f := by
  rw [dfv7]
  have d2 : (2 : Int) ∣ (-1) * f 0 + (7) * f 1 + (-21) * f 2 + (35) * f 3 + (-35) * f 4 + (21) * f 5 + (-7) * f 6 + (1) * f 7 := by
    have e2_0 := h 2 0 2 (by omega) (by omega) (by omega) (by omega) (by omega)
    have e2_1 := h 2 1 3 (by omega) (by omega) (by omega) (by omega) (by omega)
    have e2_2 := h 2 2 4 (by omega) (by omega) (by omega) (by omega) (by omega)
    have e2_3 := h 2 3 5 (by omega) (by omega) (by omega) (by omega) (by omega)
    have e2_4 := h 2 4 6 (by omega) (by omega) (by omega) (by omega) (by omega)
    have e2_5 := h 2 5 7 (by omega) (by omega) (by omega) (by omega) (by omega)
    omega
  have d5 : (5 : Int) ∣ (-1) * f 0 + (7) * f 1 + (-21) * f 2 + (35) * f 3 + (-35) * f 4 + (21) * f 5 + (-7) * f 6 + (1) * f 7 := by
    have e5_0 := h 5 0 5 (by omega) (by omega) (by omega) (by omega) (by omega)
    have e5_1 := h 5 1 6 (by omega) (by omega) (by omega) (by omega) (by omega)
    have e5_2 := h 5 2 7 (by omega) (by omega) (by omega) (by omega) (by omega)
    omega
  omega
theorem kp10_8 {f : Nat → Int} (h : Keeps 10 10 f) : ((10 : Nat) : Int) ∣ dfn 8 0 f := by
  rw [dfv8]
  have d2 : (2 : Int) ∣ (1) * f 0 + (-8) * f 1 + (28) * f 2 + (-56) * f 3 + (70) * f 4 + (-56) * f 5 + (28) * f 6 + (-8) * f 7 + (1) * f 8 := by
    have e2_0 := h 2 0 2 (by omega) (by omega) (by omega) (by omega) (by omega)
    have e2_1 := h 2 1 3 (by omega) (by omega) (by omega) (by omega) (by omega)
    have e2_2 := h 2 2 4 (by omega) (by omega) (by omega) (by omega) (by omega)
    have e2_3 := h 2 3 5 (by omega) (by omega) (by omega) (by omega) (by omega)
    have e2_4 := h 2 4 6 (by omega) (by omega) (by omega) (by omega) (by omega)
    have e2_5 := h 2 5 7 (by omega) (by omega) (by omega) (by omega) (by omega)
    have e2_6 := h 2 6 8 (by omega) (by omega) (by omega) (by omega) (by omega)
    omega
  have d5 : (5 : Int) ∣ (1) * f 0 + (-8) * f 1 + (28) * f 2 + (-56) * f 3 + (70) * f 4 + (-56) * f 5 + (28) * f 6 + (-8) * f 7 + (1) * f 8 := by
    have e5_0 := h 5 0 5 (by omega) (by omega) (by omega) (by omega) (by omega)
    have e5_1 := h 5 1 6 (by omega) (by omega) (by omega) (by omega) (by omega)
    have e5_2 := h 5 2 7 (by omega) (by omega) (by omega) (by omega) (by omega)
    have e5_3 := h 5 3 8 (by omega) (by omega) (by omega) (by omega) (by omega)
    omega
  omega
theorem kp10_9 {f : Nat → Int} (h : Keeps 10 10 f) : ((10 : Nat) : Int) ∣ dfn 9 0 f := by
  rw [dfv9]
  have d2 : (2 : Int) ∣ (-1) * f 0 + (9) * f 1 + (-36) * f 2 + (84) * f 3 + (-126) * f 4 + (126) * f 5 + (-84) * f 6 + (36) * f 7 + (-9) * f 8 + (1) * f 9 := by
    have e2_0 := h 2 0 2 (by omega) (by omega) (by omega) (by omega) (by omega)
    have e2_1 := h 2 1 3 (by omega) (by omega) (by omega) (by omega) (by omega)
    have e2_2 := h 2 2 4 (by omega) (by omega) (by omega) (by omega) (by omega)
    have e2_3 := h 2 3 5 (by omega) (by omega) (by omega) (by omega) (by omega)
    have e2_4 := h 2 4 6 (by omega) (by omega) (by omega) (by omega) (by omega)
    have e2_5 := h 2 5 7 (by omega) (by omega) (by omega) (by omega) (by omega)
    have e2_6 := h 2 6 8 (by omega) (by omega) (by omega) (by omega) (by omega)
    have e2_7 := h 2 7 9 (by omega) (by omega) (by omega) (by omega) (by omega)
    omega
  have d5 : (5 : Int) ∣ (-1) * f 0 + (9) * f 1 + (-36) * f 2 + (84) * f 3 + (-126) * f 4 + (126) * f 5 + (-84) * f 6 + (36) * f 7 + (-9) * f 8 + (1) * f 9 := by
    have e5_0 := h 5 0 5 (by omega) (by omega) (by omega) (by omega) (by omega)
    have e5_1 := h 5 1 6 (by omega) (by omega) (by omega) (by omega) (by omega)
    have e5_2 := h 5 2 7 (by omega) (by omega) (by omega) (by omega) (by omega)
    have e5_3 := h 5 3 8 (by omega) (by omega) (by omega) (by omega) (by omega)
    have e5_4 := h 5 4 9 (by omega) (by omega) (by omega) (by omega) (by omega)
    omega
  omega
theorem keeps10 {f : Nat → Int} (h : Keeps 10 10 f) : Pol 10 f := by
  intro o ho
  have : o = 0 ∨ o = 1 ∨ o = 2 ∨ o = 3 ∨ o = 4 ∨ o = 5 ∨ o = 6 ∨ o = 7 ∨ o = 8 ∨ o = 9 := by omega
  rcases this with rfl | rfl | rfl | rfl | rfl | rfl | rfl | rfl | rfl | rfl
  · have e : dvn 10 0 = 1 := by decide +kernel
    rw [e]
    exact Int.one_dvd _
  · have e : dvn 10 1 = 1 := by decide +kernel
    rw [e]
    exact Int.one_dvd _
  · have e : dvn 10 2 = 2 := by decide +kernel
    rw [e]
    exact kp10_2 h
  · have e : dvn 10 3 = 2 := by decide +kernel
    rw [e]
    exact kp10_3 h
  · have e : dvn 10 4 = 2 := by decide +kernel
    rw [e]
    exact kp10_4 h
  · have e : dvn 10 5 = 10 := by decide +kernel
    rw [e]
    exact kp10_5 h
  · have e : dvn 10 6 = 10 := by decide +kernel
    rw [e]
    exact kp10_6 h
  · have e : dvn 10 7 = 10 := by decide +kernel
    rw [e]
    exact kp10_7 h
  · have e : dvn 10 8 = 10 := by decide +kernel
    rw [e]
    exact kp10_8 h
  · have e : dvn 10 9 = 10 := by decide +kernel
    rw [e]
    exact kp10_9 h
theorem keeps11 {f : Nat → Int} (h : Keeps 11 11 f) : Pol 11 f := by
  intro o ho
  have : o = 0 ∨ o = 1 ∨ o = 2 ∨ o = 3 ∨ o = 4 ∨ o = 5 ∨ o = 6 ∨ o = 7 ∨ o = 8 ∨ o = 9 ∨ o = 10 := by omega
  rcases this with rfl | rfl | rfl | rfl | rfl | rfl | rfl | rfl | rfl | rfl | rfl
  · have e : dvn 11 0 = 1 := by decide +kernel
    rw [e]
    exact Int.one_dvd _
  · have e : dvn 11 1 = 1 := by decide +kernel
    rw [e]
    exact Int.one_dvd _
  · have e : dvn 11 2 = 1 := by decide +kernel
    rw [e]
    exact Int.one_dvd _
  · have e : dvn 11 3 = 1 := by decide +kernel
    rw [e]
    exact Int.one_dvd _
  · have e : dvn 11 4 = 1 := by decide +kernel
    rw [e]
    exact Int.one_dvd _
  · have e : dvn 11 5 = 1 := by decide +kernel
    rw [e]
    exact Int.one_dvd _
  · have e : dvn 11 6 = 1 := by decide +kernel
    rw [e]
    exact Int.one_dvd _
  · have e : dvn 11 7 = 1 := by decide +kernel
    rw [e]
    exact Int.one_dvd _
  · have e : dvn 11 8 = 1 := by decide +kernel
    rw [e]
    exact Int.one_dvd _
  · have e : dvn 11 9 = 1 := by decide +kernel
    rw [e]
    exact Int.one_dvd _
  · have e : dvn 11 10 = 1 := by decide +kernel
    rw [e]
    exact Int.one_dvd _
theorem kp12_2 {f : Nat → Int} (h : Keeps 12 12 f) : ((2 : Nat) : Int) ∣ dfn 2 0 f := by
  rw [dfv2]
  have d2 : (2 : Int) ∣ (1) * f 0 + (-2) * f 1 + (1) * f 2 := by
    have e2_0 := h 2 0 2 (by omega) (by omega) (by omega) (by omega) (by omega)
    omega
  omega
theorem kp12_3 {f : Nat → Int} (h : Keeps 12 12 f) : ((6 : Nat) : Int) ∣ dfn 3 0 f := by
  rw [dfv3]
  have d2 : (2 : Int) ∣ (-1) * f 0 + (3) * f 1 + (-3) * f 2 + (1) * f 3 := by
    have e2_0 := h 2 0 2 (by omega) (by omega) (by omega) (by omega) (by omega)
    have e2_1 := h 2 1 3 (by omega) (by omega) (by omega) (by omega) (by omega)
    omega
  have d3 : (3 : Int) ∣ (-1) * f 0 + (3) * f 1 + (-3) * f 2 + (1) * f 3 := by
    have e3_0 := h 3 0 3 (by omega) (by omega) (by omega) (by omega) (by omega)
    omega
  omega
theorem kp12_4 {f : Nat → Int} (h : Keeps 12 12 f) : ((12 : Nat) : Int) ∣ dfn 4 0 f := by
  rw [dfv4]
  have d4 : (4 : Int) ∣ (1) * f 0 + (-4) * f 1 + (6) * f 2 + (-4) * f 3 + (1) * f 4 := by
    have e2_0 := h 2 0 2 (by omega) (by omega) (by omega) (by omega) (by omega)
    have e2_1 := h 2 1 3 (by omega) (by omega) (by omega) (by omega) (by omega)
    have e2_2 := h 2 2 4 (by omega) (by omega) (by omega) (by omega) (by omega)
    have e4_0 := h 4 0 4 (by omega) (by omega) (by omega) (by omega) (by omega)
    omega
  have d3 : (3 : Int) ∣ (1) * f 0 + (-4) * f 1 + (6) * f 2 + (-4) * f 3 + (1) * f 4 := by
    have e3_0 := h 3 0 3 (by omega) (by omega) (by omega) (by omega) (by omega)
    have e3_1 := h 3 1 4 (by omega) (by omega) (by omega) (by omega) (by omega)
    omega
  omega
theorem kp12_5 {f : Nat → Int} (h : Keeps 12 12 f) : ((12 : Nat) : Int) ∣ dfn 5 0 f := by
  rw [dfv5]
  have d4 : (4 : Int) ∣ (-1) * f 0 + (5) * f 1 + (-10) * f 2 + (10) * f 3 + (-5) * f 4 + (1) * f 5 := by
    have e2_0 := h 2 0 2 (by omega) (by omega) (by omega) (by omega) (by omega)
    have e2_1 := h 2 1 3 (by omega) (by omega) (by omega) (by omega) (by omega)
    have e2_2 := h 2 2 4 (by omega) (by omega) (by omega) (by omega) (by omega)
    have e2_3 := h 2 3 5 (by omega) (by omega) (by omega) (by omega) (by omega)
    have e4_0 := h 4 0 4 (by omega) (by omega) (by omega) (by omega) (by omega)
    have e4_1 := h 4 1 5 (by omega) (by omega) (by omega) (by omega) (by omega)
    omega
  have d3 : (3 : Int) ∣ (-1) * f 0 + (5) * f 1 + (-10) * f 2 + (10) * f 3 + (-5) * f 4 + (1) * f 5 := by
    have e3_0 := h 3 0 3 (by omega) (by omega) (by omega) (by omega) (by omega)
    have e3_1 := h 3 1 4 (by omega) (by omega) (by omega) (by omega) (by omega)
    have e3_2 := h 3 2 5 (by omega) (by omega) (by omega) (by omega) (by omega)
    omega
  omega
theorem kp12_6 {f : Nat → Int} (h : Keeps 12 12 f) : ((12 : Nat) : Int) ∣ dfn 6 0 f := by
  rw [dfv6]
  have d4 : (4 : Int) ∣ (1) * f 0 + (-6) * f 1 + (15) * f 2 + (-20) * f 3 + (15) * f 4 + (-6) * f 5 + (1) * f 6 := by
    have e2_0 := h 2 0 2 (by omega) (by omega) (by omega) (by omega) (by omega)
    have e2_1 := h 2 1 3 (by omega) (by omega) (by omega) (by omega) (by omega)
    have e2_2 := h 2 2 4 (by omega) (by omega) (by omega) (by omega) (by omega)
    have e2_3 := h 2 3 5 (by omega) (by omega) (by omega) (by omega) (by omega)
    have e4_0 := h 4 0 4 (by omega) (by omega) (by omega) (by omega) (by omega)
    have e4_1 := h 4 1 5 (by omega) (by omega) (by omega) (by omega) (by omega)
    have e4_2 := h 4 2 6 (by omega) (by omega) (by omega) (by omega) (by omega)
    omega
  have d3 : (3 : Int) ∣ (1) * f 0 + (-6) * f 1 + (15) * f 2 + (-20) * f 3 + (15) * f 4 + (-6) * f 5 + (1) * f 6 := by
    have e3_0 := h 3 0 3 (by omega) (by omega) (by omega) (by omega) (by omega)
    have e3_1 := h 3 1 4 (by omega) (by omega) (by omega) (by omega) (by omega)
    have e3_2 := h 3 2 5 (by omega) (by omega) (by omega) (by omega) (by omega)
    have e3_3 := h 3 3 6 (by omega) (by omega) (by omega) (by omega) (by omega)
    omega
  omega
theorem kp12_7 {f : Nat → Int} (h : Keeps 12 12 f) : ((12 : Nat) : Int) ∣ dfn 7 0 f := by
  rw [dfv7]
  have d4 : (4 : Int) ∣ (-1) * f 0 + (7) * f 1 + (-21) * f 2 + (35) * f 3 + (-35) * f 4 + (21) * f 5 + (-7) * f 6 + (1) * f 7 := by
    have e2_0 := h 2 0 2 (by omega) (by omega) (by omega) (by omega) (by omega)
    have e2_1 := h 2 1 3 (by omega) (by omega) (by omega) (by omega) (by omega)
    have e2_2 := h 2 2 4 (by omega) (by omega) (by omega) (by omega) (by omega)
    have e2_3 := h 2 3 5 (by omega) (by omega) (by omega) (by omega) (by omega)
    have e4_0 := h 4 0 4 (by omega) (by omega) (by omega) (by omega) (by omega)
    have e4_1 := h 4 1 5 (by omega) (by omega) (by omega) (by omega) (by omega)
    have e4_2 := h 4 2 6 (by omega) (by omega) (by omega) (by omega) (by omega)
    have e4_3 := h 4 3 7 (by omega) (by omega) (by omega) (by omega) (by omega)
    omega
  have d3 : (3 : Int) ∣ (-1) * f 0 + (7) * f 1 + (-21) * f 2 + (35) * f 3 + (-35) * f 4 + (21) * f 5 + (-7) * f 6 + (1) * f 7 := by
    have e3_0 := h 3 0 3 (by omega) (by omega) (by omega) (by omega) (by omega)
    have e3_1 := h 3 1 4 (by omega) (by omega) (by omega) (by omega) (by omega)
    have e3_2 := h 3 2 5 (by omega) (by omega) (by omega) (by omega) (by omega)
    have e3_3 := h 3 3 6 (by omega) (by omega) (by omega) (by omega) (by omega)
    have e3_4 := h 3 4 7 (by omega) (by omega) (by omega) (by omega) (by omega)
    omega
  omega
theorem kp12_8 {f : Nat → Int} (h : Keeps 12 12 f) : ((12 : Nat) : Int) ∣ dfn 8 0 f := by
  rw [dfv8]
  have d4 : (4 : Int) ∣ (1) * f 0 + (-8) * f 1 + (28) * f 2 + (-56) * f 3 + (70) * f 4 + (-56) * f 5 + (28) * f 6 + (-8) * f 7 + (1) * f 8 := by
    have e2_0 := h 2 0 2 (by omega) (by omega) (by omega) (by omega) (by omega)
    have e2_1 := h 2 1 3 (by omega) (by omega) (by omega) (by omega) (by omega)
    have e2_2 := h 2 2 4 (by omega) (by omega) (by omega) (by omega) (by omega)
    have e2_3 := h 2 3 5 (by omega) (by omega) (by omega) (by omega) (by omega)
    have e4_0 := h 4 0 4 (by omega) (by omega) (by omega) (by omega) (by omega)
    have e4_1 := h 4 1 5 (by omega) (by omega) (by omega) (by omega) (by omega)
    have e4_2 := h 4 2 6 (by omega) (by omega) (by omega) (by omega) (by omega)
    have e4_3 := h 4 3 7 (by omega) (by omega) (by omega) (by omega) (by omega)
    have e4_4 := h 4 4 8 (by omega) (by omega) (by omega) (by omega) (by omega)
    omega
  have d3 : (3 : Int) ∣ (1) * f 0 + (-8) * f 1 + (28) * f 2 + (-56) * f 3 + (70) * f 4 + (-56) * f 5 + (28) * f 6 + (-8) * f 7 + (1) * f 8 := by
    have e3_0 := h 3 0 3 (by omega) (by omega) (by omega) (by omega) (by omega)
    have e3_1 := h 3 1 4 (by omega) (by omega) (by omega) (by omega) (by omega)
    have e3_2 := h 3 2 5 (by omega) (by omega) (by omega) (by omega) (by omega)
    have e3_3 := h 3 3 6 (by omega) (by omega) (by omega) (by omega) (by omega)
    have e3_4 := h 3 4 7 (by omega) (by omega) (by omega) (by omega) (by omega)
    have e3_5 := h 3 5 8 (by omega) (by omega) (by omega) (by omega) (by omega)
    omega
  omega
theorem kp12_9 {f : Nat → Int} (h : Keeps 12 12 f) : ((12 : Nat) : Int) ∣ dfn 9 0 f := by
  rw [dfv9]
  have d4 : (4 : Int) ∣ (-1) * f 0 + (9) * f 1 + (-36) * f 2 + (84) * f 3 + (-126) * f 4 + (126) * f 5 + (-84) * f 6 + (36) * f 7 + (-9) * f 8 + (1) * f 9 := by
    have e2_0 := h 2 0 2 (by omega) (by omega) (by omega) (by omega) (by omega)
    have e2_1 := h 2 1 3 (by omega) (by omega) (by omega) (by omega) (by omega)
    have e2_2 := h 2 2 4 (by omega) (by omega) (by omega) (by omega) (by omega)
    have e2_3 := h 2 3 5 (by omega) (by omega) (by omega) (by omega) (by omega)
    have e4_0 := h 4 0 4 (by omega) (by omega) (by omega) (by omega) (by omega)
    have e4_1 := h 4 1 5 (by omega) (by omega) (by omega) (by omega) (by omega)
    have e4_2 := h 4 2 6 (by omega) (by omega) (by omega) (by omega) (by omega)
    have e4_3 := h 4 3 7 (by omega) (by omega) (by omega) (by omega) (by omega)
    have e4_4 := h 4 4 8 (by omega) (by omega) (by omega) (by omega) (by omega)
    have e4_5 := h 4 5 9 (by omega) (by omega) (by omega) (by omega) (by omega)
    omega
  have d3 : (3 : Int) ∣ (-1) * f 0 + (9) * f 1 + (-36) * f 2 + (84) * f 3 + (-126) * f 4 + (126) * f 5 + (-84) * f 6 + (36) * f 7 + (-9) * f 8 + (1) * f 9 := by
    have e3_0 := h 3 0 3 (by omega) (by omega) (by omega) (by omega) (by omega)
    have e3_1 := h 3 1 4 (by omega) (by omega) (by omega) (by omega) (by omega)
    have e3_2 := h 3 2 5 (by omega) (by omega) (by omega) (by omega) (by omega)
    have e3_3 := h 3 3 6 (by omega) (by omega) (by omega) (by omega) (by omega)
    have e3_4 := h 3 4 7 (by omega) (by omega) (by omega) (by omega) (by omega)
    have e3_5 := h 3 5 8 (by omega) (by omega) (by omega) (by omega) (by omega)
    have e3_6 := h 3 6 9 (by omega) (by omega) (by omega) (by omega) (by omega)
    omega
  omega
theorem kp12_10 {f : Nat → Int} (h : Keeps 12 12 f) : ((12 : Nat) : Int) ∣ dfn 10 0 f := by
  rw [dfv10]
  have d4 : (4 : Int) ∣ (1) * f 0 + (-10) * f 1 + (45) * f 2 + (-120) * f 3 + (210) * f 4 + (-252) * f 5 + (210) * f 6 + (-120) * f 7 + (45) * f 8 + (-10) * f 9 + (1) * f 10 := by
    have e2_0 := h 2 0 2 (by omega) (by omega) (by omega) (by omega) (by omega)
    have e2_1 := h 2 1 3 (by omega) (by omega) (by omega) (by omega) (by omega)
    have e2_2 := h 2 2 4 (by omega) (by omega) (by omega) (by omega) (by omega)
    have e2_3 := h 2 3 5 (by omega) (by omega) (by omega) (by omega) (by omega)
    have e4_0 := h 4 0 4 (by omega) (by omega) (by omega) (by omega) (by omega)
    have e4_1 := h 4 1 5 (by omega) (by omega) (by omega) (by omega) (by omega)
    have e4_2 := h 4 2 6 (by omega) (by omega) (by omega) (by omega) (by omega)
    have e4_3 := h 4 3 7 (by omega) (by omega) (by omega) (by omega) (by omega)
    have e4_4 := h 4 4 8 (by omega) (by omega) (by omega) (by omega) (by omega)
    have e4_5 := h 4 5 9 (by omega) (by omega) (by omega) (by omega) (by omega)
    have e4_6 := h 4 6 10 (by omega) (by omega) (by omega) (by omega) (by omega)
    omega
  have d3 : (3 : Int) ∣ (1) * f 0 + (-10) * f 1 + (45) * f 2 + (-120) * f 3 + (210) * f 4 + (-252) * f 5 + (210) * f 6 + (-120) * f 7 + (45) * f 8 + (-10) * f 9 + (1) * f 10 := by
    have e3_0 := h 3 0 3 (by omega) (by omega) (by omega) (by omega) (by omega)
    have e3_1 := h 3 1 4 (by omega) (by omega) (by omega) (by omega) (by omega)
    have e3_2 := h 3 2 5 (by omega) (by omega) (by omega) (by omega) (by omega)
    have e3_3 := h 3 3 6 (by omega) (by omega) (by omega) (by omega) (by omega)
    have e3_4 := h 3 4 7 (by omega) (by omega) (by omega) (by omega) (by omega)
    have e3_5 := h 3 5 8 (by omega) (by omega) (by omega) (by omega) (by omega)
    have e3_6 := h 3 6 9 (by omega) (by omega) (by omega) (by omega) (by omega)
    have e3_7 := h 3 7 10 (by omega) (by omega) (by omega) (by omega) (by omega)
    omega
  omega
theorem kp12_11 {f : Nat → Int} (h : Keeps 12 12 f) : ((12 : Nat) : Int) ∣ dfn 11 0 f := by
  rw [dfv11]
  have d4 : (4 : Int) ∣ (-1) * f 0 + (11) * f 1 + (-55) * f 2 + (165) * f 3 + (-330) * f 4 + (462) * f 5 + (-462) * f 6 + (330) * f 7 + (-165) * f 8 + (55) * f 9 + (-11) * f 10 + (1) * f 11 := by
    have e2_0 := h 2 0 2 (by omega) (by omega) (by omega) (by omega) (by omega)
    have e2_1 := h 2 1 3 (by omega) (by omega) (by omega) (by omega) (by omega)
    have e2_2 := h 2 2 4 (by omega) (by omega) (by omega) (by omega) (by omega)
    have e2_3 := h 2 3 5 (by omega) (by omega) (by omega) (by omega) (by omega)
    have e4_0 := h 4 0 4 (by omega) (by omega) (by omega) (by omega) (by omega)
    have e4_1 := h 4 1 5 (by omega) (by omega) (by omega) (by omega) (by omega)
    have e4_2 := h 4 2 6 (by omega) (by omega) (by omega) (by omega) (by omega)
    have e4_3 := h 4 3 7 (by omega) (by omega) (by omega) (by omega) (by omega)
    have e4_4 := h 4 4 8 (by omega) (by omega) (by omega) (by omega) (by omega)
    have e4_5 := h 4 5 9 (by omega) (by omega) (by omega) (by omega) (by omega)
    have e4_6 := h 4 6 10 (by omega) (by omega) (by omega) (by omega) (by omega)
    have e4_7 := h 4 7 11 (by omega) (by omega) (by omega) (by omega) (by omega)
    omega
  have d3 : (3 : Int) ∣ (-1) * f 0 + (11) * f 1 + (-55) * f 2 + (165) * f 3 + (-330) * f 4 + (462) * f 5 + (-462) * f 6 + (330) * f 7 + (-165) * f 8 + (55) * f 9 + (-11) * f 10 + (1) * f 11 := by
    have e3_0 := h 3 0 3 (by omega) (by omega) (by omega) (by omega) (by omega)
    have e3_1 := h 3 1 4 (by omega) (by omega) (by omega) (by omega) (by omega)
    have e3_2 := h 3 2 5 (by omega) (by omega) (by omega) (by omega) (by omega)
    have e3_3 := h 3 3 6 (by omega) (by omega) (by omega) (by omega) (by omega)
    have e3_4 := h 3 4 7 (by omega) (by omega) (by omega) (by omega) (by omega)
    have e3_5 := h 3 5 8 (by omega) (by omega) (by omega) (by omega) (by omega)
    have e3_6 := h 3 6 9 (by omega) (by omega) (by omega) (by omega) (by omega)
    have e3_7 := h 3 7 10 (by omega) (by omega) (by omega) (by omega) (by omega)
    have e3_8 := h 3 8 11 (by omega) (by omega) (by omega) (by omega) (by omega)
    omega
  omega
theorem keeps12 {f : Nat → Int} (h : Keeps 12 12 f) : Pol 12 f := by
  intro o ho
  have : o = 0 ∨ o = 1 ∨ o = 2 ∨ o = 3 ∨ o = 4 ∨ o = 5 ∨ o = 6 ∨ o = 7 ∨ o = 8 ∨ o = 9 ∨ o = 10 ∨ o = 11 := by omega
  rcases this with rfl | rfl | rfl | rfl | rfl | rfl | rfl | rfl | rfl | rfl | rfl | rfl
  · have e : dvn 12 0 = 1 := by decide +kernel
    rw [e]
    exact Int.one_dvd _
  · have e : dvn 12 1 = 1 := by decide +kernel
    rw [e]
    exact Int.one_dvd _
  · have e : dvn 12 2 = 2 := by decide +kernel
    rw [e]
    exact kp12_2 h
  · have e : dvn 12 3 = 6 := by decide +kernel
    rw [e]
    exact kp12_3 h
  · have e : dvn 12 4 = 12 := by decide +kernel
    rw [e]
    exact kp12_4 h
  · have e : dvn 12 5 = 12 := by decide +kernel
    rw [e]
    exact kp12_5 h
  · have e : dvn 12 6 = 12 := by decide +kernel
    rw [e]
    exact kp12_6 h
  · have e : dvn 12 7 = 12 := by decide +kernel
    rw [e]
    exact kp12_7 h
  · have e : dvn 12 8 = 12 := by decide +kernel
    rw [e]
    exact kp12_8 h
  · have e : dvn 12 9 = 12 := by decide +kernel
    rw [e]
    exact kp12_9 h
  · have e : dvn 12 10 = 12 := by decide +kernel
    rw [e]
    exact kp12_10 h
  · have e : dvn 12 11 = 12 := by decide +kernel
    rw [e]
    exact kp12_11 h
theorem Keeps.pol {m : Nat} {f : Nat → Int} (h2 : 2 ≤ m) (h12 : m ≤ 12) (h8 : m ≠ 8) (h9 : m ≠ 9) (h : Keeps m m f) : Pol m f := by
  have : m = 2 ∨ m = 3 ∨ m = 4 ∨ m = 5 ∨ m = 6 ∨ m = 7 ∨ m = 10 ∨ m = 11 ∨ m = 12 := by omega
  rcases this with rfl | rfl | rfl | rfl | rfl | rfl | rfl | rfl | rfl
  · exact keeps2 h
  · exact keeps3 h
  · exact keeps4 h
  · exact keeps5 h
  · exact keeps6 h
  · exact keeps7 h
  · exact keeps10 h
  · exact keeps11 h
  · exact keeps12 h
theorem fl_cg {d a b : Int} (h : Cg d a b) : ∀ k, Cg d (fl k a) (fl k b)
  | 0 => Cg.refl d 1
  | k + 1 => (fl_cg h k).mul (h.sub (Cg.refl d (k : Int)))
theorem Cg.of_dvd {d m a b : Int} (hd : d ∣ m) (h : Cg m a b) : Cg d a b := by
  obtain ⟨q, hq⟩ := h
  obtain ⟨c, hc⟩ := hd
  exact ⟨c * q, by rw [hq, hc, Int.mul_assoc]⟩
theorem Pol.keeps {m : Nat} {f : Nat → Int} (h2 : 2 ≤ m) (h12 : m ≤ 12) (h : Pol m f) : Keeps m m f := by
  intro d a b hd hm hab hb hba
  obtain ⟨c, _, hc⟩ := h.rep h2 h12
  have hdm : (d : Int) ∣ (m : Int) := Int.natCast_dvd_natCast.mpr (Nat.dvd_of_mod_eq_zero hm)
  have hcg : Cg (d : Int) (b : Int) (a : Int) := by
    have hdv := Nat.dvd_of_mod_eq_zero hba
    obtain ⟨q, hq⟩ := hdv
    refine ⟨(q : Int), ?_⟩
    have : b = a + d * q := by omega
    rw [this, Int.natCast_add, Int.natCast_mul]
  have e1 : Cg (d : Int) (f b) (f a) := ((Cg.of_dvd hdm (hc b hb)).trans (Cg.sum m fun k _ => (fl_cg hcg k).mulL (c k))).trans (Cg.of_dvd hdm (hc a (by omega))).symm
  obtain ⟨q, hq⟩ := e1
  exact ⟨q, by rw [hq]; omega⟩
end PT

namespace PT
/-! ## a next value that keeps remainders -/
theorem next_of {m p : Nat} {f : Nat → Int} (hm : 0 < m) (w : Int) (h : ∀ d : Nat, 2 ≤ d → d ≤ p → m % d = 0 → (d : Int) ∣ w % m - f (p - d)) : ∃ v : Nat, v < m ∧ ∀ d : Nat, 2 ≤ d → d ≤ p → m % d = 0 → (d : Int) ∣ (v : Int) - f (p - d) := by
  have h0 : 0 ≤ w % (m : Int) := Int.emod_nonneg _ (by omega)
  have h1 : w % (m : Int) < m := Int.emod_lt_of_pos _ (by omega)
  refine ⟨(w % (m : Int)).toNat, by omega, fun d a b c => ?_⟩
  rw [Int.toNat_of_nonneg h0]
  exact h d a b c
theorem keep_next : ∀ m : Nat, 2 ≤ m → m ≤ 12 → ∀ (p : Nat) (f : Nat → Int), p < m → Keeps m p f → ∃ v : Nat, v < m ∧ ∀ d : Nat, 2 ≤ d → d ≤ p → m % d = 0 → (d : Int) ∣ (v : Int) - f (p - d) := by
  refine mods ?_ ?_ ?_ ?_ ?_ ?_ ?_ ?_ ?_ ?_ ?_
  · intro p f hp h
    exact next_of (by omega) 0 fun d h1 h2 h3 => by omega
  · intro p f hp h
    exact next_of (by omega) 0 fun d h1 h2 h3 => by
      have : d = 2 := by omega
      subst this
      omega
  · intro p f hp h
    refine next_of (by omega) (f (p - 2)) fun d h1 h2 h3 => ?_
    have : d = 2 ∨ d = 3 := by omega
    rcases this with rfl | rfl <;> omega
  · intro p f hp h
    refine next_of (by omega) 0 fun d h1 h2 h3 => ?_
    have : d = 2 ∨ d = 3 ∨ d = 4 := by omega
    rcases this with rfl | rfl | rfl <;> omega
  · intro p f hp h
    refine next_of (by omega) (3 * f (p - 2) + 4 * f (p - 3)) fun d h1 h2 h3 => ?_
    have : d = 2 ∨ d = 3 ∨ d = 4 ∨ d = 5 := by omega
    rcases this with rfl | rfl | rfl | rfl <;> omega
  · intro p f hp h
    refine next_of (by omega) 0 fun d h1 h2 h3 => ?_
    have : d = 2 ∨ d = 3 ∨ d = 4 ∨ d = 5 ∨ d = 6 := by omega
    rcases this with rfl | rfl | rfl | rfl | rfl <;> omega
  · intro p f hp h
    by_cases h4 : 4 ≤ p
    · have k := h 2 (p - 4) (p - 2) (by omega) (by omega) (by omega) (by omega) (by omega)
      refine next_of (by omega) (f (p - 4)) fun d h1 h2 h3 => ?_
      have : d = 2 ∨ d = 3 ∨ d = 4 ∨ d = 5 ∨ d = 6 ∨ d = 7 := by omega
      rcases this with rfl | rfl | rfl | rfl | rfl | rfl <;> omega
    · refine next_of (by omega) (f (p - 2)) fun d h1 h2 h3 => ?_
      have : d = 2 ∨ d = 3 := by omega
      rcases this with rfl | rfl <;> omega
  · intro p f hp h
    refine next_of (by omega) (f (p - 3)) fun d h1 h2 h3 => ?_
    have : d = 2 ∨ d = 3 ∨ d = 4 ∨ d = 5 ∨ d = 6 ∨ d = 7 ∨ d = 8 := by omega
    rcases this with rfl | rfl | rfl | rfl | rfl | rfl | rfl <;> omega
  · intro p f hp h
    refine next_of (by omega) (5 * f (p - 2) + 6 * f (p - 5)) fun d h1 h2 h3 => ?_
    have : d = 2 ∨ d = 3 ∨ d = 4 ∨ d = 5 ∨ d = 6 ∨ d = 7 ∨ d = 8 ∨ d = 9 := by omega
    rcases this with rfl | rfl | rfl | rfl | rfl | rfl | rfl | rfl <;> omega
  · intro p f hp h
    refine next_of (by omega) 0 fun d h1 h2 h3 => ?_
    have : d = 2 ∨ d = 3 ∨ d = 4 ∨ d = 5 ∨ d = 6 ∨ d = 7 ∨ d = 8 ∨ d = 9 ∨ d = 10 := by omega
    rcases this with rfl | rfl | rfl | rfl | rfl | rfl | rfl | rfl | rfl <;> omega
  · intro p f hp h
    by_cases h4 : 4 ≤ p
    · have k := h 2 (p - 4) (p - 2) (by omega) (by omega) (by omega) (by omega) (by omega)
      by_cases h6 : 6 ≤ p
      · have k2 := h 3 (p - 6) (p - 3) (by omega) (by omega) (by omega) (by omega) (by omega)
        have k3 := h 2 (p - 6) (p - 4) (by omega) (by omega) (by omega) (by omega) (by omega)
        refine next_of (by omega) (4 * f (p - 3) + 9 * f (p - 4)) fun d h1 h2 h3 => ?_
        have : d = 2 ∨ d = 3 ∨ d = 4 ∨ d = 5 ∨ d = 6 ∨ d = 7 ∨ d = 8 ∨ d = 9 ∨ d = 10 ∨ d = 11 := by omega
        rcases this with rfl | rfl | rfl | rfl | rfl | rfl | rfl | rfl | rfl | rfl <;> omega
      · refine next_of (by omega) (4 * f (p - 3) + 9 * f (p - 4)) fun d h1 h2 h3 => ?_
        have : d = 2 ∨ d = 3 ∨ d = 4 ∨ d = 5 := by omega
        rcases this with rfl | rfl | rfl | rfl <;> omega
    · refine next_of (by omega) (4 * f (p - 3) + 9 * f (p - 2)) fun d h1 h2 h3 => ?_
      have : d = 2 ∨ d = 3 := by omega
      rcases this with rfl | rfl <;> omega
theorem Keeps.snoc {m p : Nat} {f g : Nat → Int} (h : Keeps m p f) (e : ∀ i, i < p → g i = f i) (hv : ∀ d : Nat, 2 ≤ d → d ≤ p → m % d = 0 → (d : Int) ∣ g p - f (p - d)) : Keeps m (p + 1) g := by
  intro d a b hd hm hab hb hba
  by_cases hbp : b < p
  · rw [e b hbp, e a (by omega)]
    exact h d a b hd hm hab hbp hba
  · have hb' : b = p := by omega
    subst hb'
    have hdb : d ≤ b - a := Nat.le_of_dvd (by omega) (Nat.dvd_of_mod_eq_zero hba)
    have h1 := hv d hd (by omega) hm
    rw [e a hab]
    by_cases ha : a = b - d
    · rw [← ha] at h1
      exact h1
    · have h2 := h d a (b - d) hd hm (by omega) (by omega) (by
        have : b - d - a = b - a - d := by omega
        rw [this, ← Nat.mod_eq_sub_mod hdb]
        exact hba)
      have := Int.dvd_add h1 h2
      have e2 : g b - f (b - d) + (f (b - d) - f a) = g b - f a := by omega
      rw [e2] at this
      exact this
end PT

namespace PT
/-! ## prime powers -/
def pws : Nat → List Nat
  | 6 => [2, 3]
  | 10 => [2, 5]
  | 12 => [3, 4]
  | m => [m]
/-- one prime power, or two -/
theorem pws_two : ∀ m : Nat, 2 ≤ m → m ≤ 12 → pws m = [m] ∨ ∃ q r e f : Nat, pws m = [q, r] ∧ m = q * r ∧ 2 ≤ q ∧ 2 ≤ r ∧ q ≤ 12 ∧ r ≤ 12 ∧ (e + f) % m = 1 ∧ e % r = 0 ∧ f % q = 0 := by
  refine mods ?_ ?_ ?_ ?_ ?_ ?_ ?_ ?_ ?_ ?_ ?_
  · exact .inl rfl
  · exact .inl rfl
  · exact .inl rfl
  · exact .inl rfl
  · exact .inr ⟨2, 3, 3, 4, rfl, rfl, by decide, by decide, by decide, by decide, by decide, by decide, by decide⟩
  · exact .inl rfl
  · exact .inl rfl
  · exact .inl rfl
  · exact .inr ⟨2, 5, 5, 6, rfl, rfl, by decide, by decide, by decide, by decide, by decide, by decide, by decide⟩
  · exact .inl rfl
  · exact .inr ⟨3, 4, 4, 9, rfl, rfl, by decide, by decide, by decide, by decide, by decide, by decide, by decide⟩
theorem pws_ok : ∀ m : Nat, 2 ≤ m → m ≤ 12 → ((pws m).all fun q => decide (2 ≤ q) && decide (q ≤ m) && decide (m % q = 0)) = true := by
  refine mods ?_ ?_ ?_ ?_ ?_ ?_ ?_ ?_ ?_ ?_ ?_ <;> decide
theorem pws_mem {m q : Nat} (h2 : 2 ≤ m) (h12 : m ≤ 12) (h : q ∈ pws m) : 2 ≤ q ∧ q ≤ m ∧ m % q = 0 := by
  have := List.all_eq_true.mp (pws_ok m h2 h12) q h
  simp only [Bool.and_eq_true, decide_eq_true_eq] at this
  exact ⟨this.1.1, this.1.2, this.2⟩
theorem pws_len : ∀ m : Nat, 2 ≤ m → m ≤ 12 → 1 ≤ (pws m).length ∧ (pws m).length ≤ 2 := by
  refine mods ?_ ?_ ?_ ?_ ?_ ?_ ?_ ?_ ?_ ?_ ?_ <;> decide
/-- a value with these remainders -/
def fit (m : Nat) (r : Nat → Nat) (v : Nat) : Bool := (pws m).all fun q => v % q == r q % q
def crtB (m : Nat) : Bool := match pws m with
  | [q] => (List.range q).all fun a => ((List.range m).filter fun v => v % q == a).length == 1
  | [q, r] => (List.range q).all fun a => (List.range r).all fun b => ((List.range m).filter fun v => v % q == a && v % r == b).length == 1
  | _ => false
theorem crt_ok : ∀ m : Nat, 2 ≤ m → m ≤ 12 → crtB m = true := by
  refine mods ?_ ?_ ?_ ?_ ?_ ?_ ?_ ?_ ?_ ?_ ?_ <;> decide +kernel
theorem crt {m : Nat} (h2 : 2 ≤ m) (h12 : m ≤ 12) (r : Nat → Nat) : ∃ v, (List.range m).filter (fit m r) = [v] ∧ v < m ∧ fit m r v = true := by
  have hl : ((List.range m).filter (fit m r)).length = 1 := by
    have hc := crt_ok m h2 h12
    unfold crtB at hc
    unfold fit
    rcases pws_two m h2 h12 with e | ⟨q, s, _, _, e, _, hq, hs, _⟩
    · rw [e] at hc ⊢
      have := List.all_eq_true.mp hc (r m % m) (List.mem_range.mpr (Nat.mod_lt _ (by omega)))
      simpa using this
    · rw [e] at hc ⊢
      have := List.all_eq_true.mp (List.all_eq_true.mp hc (r q % q) (List.mem_range.mpr (Nat.mod_lt _ (by omega)))) (r s % s) (List.mem_range.mpr (Nat.mod_lt _ (by omega)))
      simpa using this
  obtain ⟨v, hv⟩ := List.length_eq_one_iff.mp hl
  have hm : v ∈ (List.range m).filter (fit m r) := by rw [hv]; exact List.mem_singleton.mpr rfl
  obtain ⟨h1, h3⟩ := List.mem_filter.mp hm
  exact ⟨v, hv, List.mem_range.mp h1, h3⟩
theorem crt_uni {m : Nat} (h2 : 2 ≤ m) (h12 : m ≤ 12) (r : Nat → Nat) {v w : Nat} (hv : v < m) (hw : w < m) (fv : fit m r v = true) (fw : fit m r w = true) : v = w := by
  obtain ⟨u, hu, _⟩ := crt h2 h12 r
  have a : v ∈ (List.range m).filter (fit m r) := List.mem_filter.mpr ⟨List.mem_range.mpr hv, fv⟩
  have b : w ∈ (List.range m).filter (fit m r) := List.mem_filter.mpr ⟨List.mem_range.mpr hw, fw⟩
  rw [hu] at a b
  rw [List.mem_singleton.mp a, List.mem_singleton.mp b]
theorem Cg.nat {d a b : Nat} (h : a % d = b % d) : Cg (d : Int) (a : Int) (b : Int) := Cg.of_mod (by rw [← Int.natCast_emod, ← Int.natCast_emod, h])
theorem Cg.toNat {d a b : Nat} (h : Cg (d : Int) (a : Int) (b : Int)) : a % d = b % d := by
  have := h.mod_eq
  rw [← Int.natCast_emod, ← Int.natCast_emod] at this
  exact Int.ofNat.inj this
/-- from the modulus to a prime power -/
theorem Pol.part {m q : Nat} {f g : Nat → Int} (h2 : 2 ≤ m) (h12 : m ≤ 12) (hq : 2 ≤ q) (hqm : q ≤ m) (hd : m % q = 0) (hf : Pol m f) (h : ∀ x, x < q → Cg (q : Int) (g x) (f x)) : Pol q g := by
  obtain ⟨c, _, hc⟩ := hf.rep h2 h12
  refine (Pol.ofForm hq (by omega) c m).congr fun x hx => ?_
  have hdm : (q : Int) ∣ (m : Int) := Int.natCast_dvd_natCast.mpr (Nat.dvd_of_mod_eq_zero hd)
  exact (h x hx).trans (Cg.of_dvd hdm (hc x (by omega)))
/-- a prime power's polynomial at every place -/
theorem Pol.all {q : Nat} {g : Nat → Int} (hq : 2 ≤ q) (h12 : q ≤ 12) (hg : Pol q g) : ∃ c : Nat → Int, ∀ x : Nat, Cg (q : Int) (g (x % q)) (sumN q (fun k => c k * PT.fl k (x : Int))) := by
  obtain ⟨c, _, hc⟩ := hg.rep hq h12
  refine ⟨c, fun x => (hc (x % q) (Nat.mod_lt _ (by omega))).trans (Cg.sum q fun k _ => (fl_cg ?_ k).mulL (c k))⟩
  exact Cg.nat (Nat.mod_mod _ _)
theorem Cg.prod {q r : Nat} {a b : Int} (e f : Nat) (hef : (e + f) % (q * r) = 1) (he : e % r = 0) (hf : f % q = 0) (h1 : Cg (q : Int) a b) (h2 : Cg (r : Int) a b) : Cg ((q * r : Nat) : Int) a b := by
  obtain ⟨x, hx⟩ := h1
  obtain ⟨y, hy⟩ := h2
  obtain ⟨s, hs⟩ := Nat.dvd_of_mod_eq_zero he
  obtain ⟨t, ht⟩ := Nat.dvd_of_mod_eq_zero hf
  have hk : e + f = q * r * ((e + f) / (q * r)) + 1 := by
    have := Nat.div_add_mod (e + f) (q * r)
    rw [hef] at this
    exact this.symm
  generalize (e + f) / (q * r) = k at hk
  have hk' : (e : Int) + f = (q : Int) * r * k + 1 := by
    have := congrArg (fun n : Nat => (n : Int)) hk
    simpa using this
  have hs' : (e : Int) = r * s := by rw [hs]; simp
  have ht' : (f : Int) = q * t := by rw [ht]; simp
  -- a - b = (e + f - q r k)(a - b) = e q x + f r y - q r k (a - b)
  refine ⟨s * x + t * y - k * (a - b), ?_⟩
  have e1 : (e : Int) * (a - b) = (q : Int) * r * (s * x) := by
    rw [hs', hx]
    have : b + (q : Int) * x - b = q * x := by omega
    rw [this]
    simp only [Int.mul_comm, Int.mul_left_comm, Int.mul_assoc]
  have e2 : (f : Int) * (a - b) = (q : Int) * r * (t * y) := by
    rw [ht', hy]
    have : b + (r : Int) * y - b = r * y := by omega
    rw [this]
    simp only [Int.mul_comm, Int.mul_left_comm, Int.mul_assoc]
  have e3 : (a - b) = (e : Int) * (a - b) + f * (a - b) - (q : Int) * r * (k * (a - b)) := by
    have : ((e : Int) + f) * (a - b) = ((q : Int) * r * k + 1) * (a - b) := by rw [hk']
    rw [Int.add_mul, Int.add_mul, Int.one_mul, Int.mul_assoc ((q : Int) * r) k] at this
    omega
  rw [e1, e2] at e3
  rw [Int.natCast_mul, Int.mul_sub, Int.mul_add]
  omega
/-- from two prime powers to their product -/
theorem Pol.join {q r : Nat} {g h F : Nat → Int} (hq : 2 ≤ q) (hr : 2 ≤ r) (hq12 : q ≤ 12) (hr12 : r ≤ 12) (hm : q * r ≤ 12) (e f : Nat) (hef : (e + f) % (q * r) = 1) (he : e % r = 0) (hf : f % q = 0) (hg : Pol q g) (hh : Pol r h)
    (h1 : ∀ x, x < q * r → Cg (q : Int) (F x) (g (x % q))) (h2 : ∀ x, x < q * r → Cg (r : Int) (F x) (h (x % r))) : Pol (q * r) F := by
  obtain ⟨c, hc⟩ := hg.all hq hq12
  obtain ⟨d, hd⟩ := hh.all hr hr12
  have hm2 : 2 ≤ q * r := by
    have : 2 * 1 ≤ q * r := Nat.mul_le_mul hq (by omega)
    omega
  have hp : Pol (q * r) (fun x => (e : Int) * sumN q (fun k => c k * PT.fl k (x : Int)) + (f : Int) * sumN r (fun k => d k * PT.fl k (x : Int))) := ((Pol.ofForm hm2 hm c q).smul e).add ((Pol.ofForm hm2 hm d r).smul f)
  have one : ∀ {n : Nat}, (q * r) % n = 0 → 2 ≤ n → (e + f) % n = 1 := fun {n} hn h2n => by
    have := Nat.mod_mod_of_dvd (e + f) (Nat.dvd_of_mod_eq_zero hn)
    rw [hef] at this
    rw [← this]
    exact Nat.mod_eq_of_lt (by omega)
  have eq1 : e % q = 1 := by
    have := one (n := q) (Nat.mul_mod_right q r) hq
    rw [Nat.add_mod, hf, Nat.add_zero, Nat.mod_mod] at this
    exact this
  have fr1 : f % r = 1 := by
    have := one (n := r) (Nat.mul_mod_left q r) hr
    rw [Nat.add_mod, he, Nat.zero_add, Nat.mod_mod] at this
    exact this
  refine hp.congr fun x hx => ?_
  refine Cg.prod e f hef he hf ?_ ?_
  · have a1 : Cg (q : Int) (e : Int) 1 := by
      have := Cg.nat (d := q) (a := e) (b := 1) (by rw [eq1, Nat.mod_eq_of_lt (by omega)])
      exact this
    have a2 : Cg (q : Int) (f : Int) 0 := by
      have := Cg.nat (d := q) (a := f) (b := 0) (by rw [hf, Nat.zero_mod])
      exact this
    have := (a1.mul (Cg.refl (q : Int) (sumN q (fun k => c k * PT.fl k (x : Int))))).add (a2.mul (Cg.refl (q : Int) (sumN r (fun k => d k * PT.fl k (x : Int)))))
    rw [Int.one_mul, Int.zero_mul, Int.add_zero] at this
    exact ((h1 x hx).trans (hc x)).trans this.symm
  · have a1 : Cg (r : Int) (e : Int) 0 := by
      have := Cg.nat (d := r) (a := e) (b := 0) (by rw [he, Nat.zero_mod])
      exact this
    have a2 : Cg (r : Int) (f : Int) 1 := by
      have := Cg.nat (d := r) (a := f) (b := 1) (by rw [fr1, Nat.mod_eq_of_lt (by omega)])
      exact this
    have := (a1.mul (Cg.refl (r : Int) (sumN q (fun k => c k * PT.fl k (x : Int))))).add (a2.mul (Cg.refl (r : Int) (sumN r (fun k => d k * PT.fl k (x : Int)))))
    rw [Int.one_mul, Int.zero_mul, Int.zero_add] at this
    exact ((h2 x hx).trans (hd x)).trans this.symm
end PT

namespace PT
/-! ## degrees -/
theorem dfn_x (f : Nat → Int) : ∀ (k i : Nat), dfn (k + 1) i (fun x => (x : Int) * f x) = ((i : Int) + (k + 1)) * dfn (k + 1) i f + ((k : Int) + 1) * dfn k i f
  | 0, i => by
    show ((i + 1 : Nat) : Int) * f (i + 1) - (i : Int) * f i = ((i : Int) + ((0 : Nat) + 1)) * (f (i + 1) - f i) + (((0 : Nat) : Int) + 1) * f i
    have e1 : ((i + 1 : Nat) : Int) = (i : Int) + 1 := by omega
    rw [e1]
    simp only [Int.add_mul, Int.mul_sub]
    simp
    omega
  | k + 1, i => by
    have h1 := dfn_x f k (i + 1)
    have h2 := dfn_x f k i
    show dfn (k + 1) (i + 1) (fun x => (x : Int) * f x) - dfn (k + 1) i (fun x => (x : Int) * f x) = ((i : Int) + (((k + 1 : Nat) : Int) + 1)) * (dfn (k + 1) (i + 1) f - dfn (k + 1) i f) + (((k + 1 : Nat) : Int) + 1) * (dfn k (i + 1) f - dfn k i f)
    rw [h1, h2]
    have e0 : dfn (k + 1) i f = dfn k (i + 1) f - dfn k i f := rfl
    generalize dfn (k + 1) (i + 1) f = A at *
    generalize dfn (k + 1) i f = B at *
    generalize dfn k (i + 1) f = C at *
    generalize dfn k i f = D at *
    have e1 : ((i + 1 : Nat) : Int) = (i : Int) + 1 := by omega
    have e2 : ((k + 1 : Nat) : Int) = (k : Int) + 1 := by omega
    rw [e1, e2, e0]
    generalize (i : Int) = I
    generalize (k : Int) = K
    simp only [Int.add_mul, Int.mul_sub, Int.one_mul, Int.mul_add]
    omega
theorem dfn_const (c : Int) : ∀ (k i : Nat), dfn (k + 1) i (fun _ => c) = 0
  | 0, i => by show c - c = 0; omega
  | k + 1, i => by show dfn (k + 1) (i + 1) (fun _ => c) - dfn (k + 1) i (fun _ => c) = 0; rw [dfn_const c k (i + 1), dfn_const c k i]; omega
theorem dfn_pv : ∀ (nums : List Int) (k i : Nat), nums.length ≤ k → dfn k i (fun x => pv (x : Int) nums) = 0
  | [], k, i, _ => dfn_zero k i
  | a :: l, 0, i, h => by simp at h
  | a :: l, k + 1, i, h => by
    have hl : l.length ≤ k := by simpa using h
    have h1 := dfn_pv l (k + 1) i (by omega)
    have h2 := dfn_pv l k i hl
    have e : dfn (k + 1) i (fun x => pv (x : Int) (a :: l)) = dfn (k + 1) i (fun _ => a) + dfn (k + 1) i (fun x => (x : Int) * pv (x : Int) l) := dfn_add (fun _ => a) (fun x => (x : Int) * pv (x : Int) l) (k + 1) i
    rw [e, dfn_const, dfn_x, h1, h2]
    simp
theorem addL_at (m f : Int) : ∀ (p r : List Int) (j : Nat), j < p.length → j < r.length → (addL m f p r).getD j 0 = (r.getD j 0 + f * p.getD j 0) % m
  | [], _, _, h, _ => by simp at h
  | _ :: _, [], _, _, h => by simp at h
  | a :: p, b :: r, 0, _, _ => rfl
  | a :: p, b :: r, j + 1, h1, h2 => by
    have ih := addL_at m f p r j (by simpa using h1) (by simpa using h2)
    show (addL m f p r).getD j 0 = (r.getD j 0 + f * p.getD j 0) % m
    exact ih
theorem cfs_zero {m : Int} (hm : 0 < m) (form : List Int) (K n : Nat) (hz : ∀ j, n ≤ j → form.getD j 0 = 0) : ∀ k, ∀ j, n ≤ j → (cfs m form K k).getD j 0 = 0
  | 0, j, _ => by
    unfold cfs
    rw [List.getD_eq_getElem?_getD]
    by_cases h : j < K
    · rw [List.getElem?_replicate_of_lt h]; rfl
    · rw [List.getElem?_eq_none (by rw [List.length_replicate]; omega)]; rfl
  | k + 1, j, hj => by
    have ih := cfs_zero hm form K n hz k j hj
    unfold cfs
    by_cases hjk : j < (prK k).length
    · by_cases hjl : j < (cfs m form K k).length
      · rw [addL_at m _ _ _ j hjk hjl, ih]
        rw [prK_len] at hjk
        rw [hz k (by omega)]
        simp
      · rw [List.getD_eq_getElem?_getD, List.getElem?_eq_none (by rw [addL_len]; omega)]
        rfl
    · rw [addL_get m _ _ _ j (by omega)]
      exact ih
theorem pv_take (x : Int) : ∀ (l : List Int) (n : Nat), (∀ j, n ≤ j → l.getD j 0 = 0) → pv x (l.take n) = pv x l
  | [], _, _ => by simp
  | a :: l, 0, h => by
    have ih := pv_take x l 0 fun j _ => by
      have := h (j + 1) (Nat.zero_le _)
      simpa using this
    have h0 : a = 0 := h 0 (Nat.le_refl 0)
    show (0 : Int) = a + x * pv x l
    have e : pv x l = 0 := by rw [← ih]; simp [pv]
    rw [e, h0]
    simp
  | a :: l, n + 1, h => by
    have ih := pv_take x l n fun j hj => by
      have := h (j + 1) (by omega)
      simpa using this
    show a + x * pv x (l.take n) = a + x * pv x l
    rw [ih]
theorem quoP_zero {m k : Nat} (h2 : 2 ≤ m) : quoP m k 0 = 0 := by
  unfold quoP
  have hp : 0 < m / dvn m k := Nat.div_pos (dvn_le k (by omega)) (dvn_pos k (by omega))
  obtain ⟨n, hn⟩ : ∃ n, m / dvn m k = n + 1 := ⟨m / dvn m k - 1, by omega⟩
  rw [hn, List.range_succ_eq_map, List.find?_cons]
  simp
end PT

namespace PT
/-! ## permutations: powers -/
theorem pig : ∀ (n : Nat) (f : Nat → Nat), (∀ i, i ≤ n → f i < n) → ∃ i j, i < j ∧ j ≤ n ∧ f i = f j
  | 0, f, h => absurd (h 0 (Nat.le_refl 0)) (by omega)
  | n + 1, f, h => by
    by_cases hc : ∃ i, i ≤ n ∧ f i = f (n + 1)
    · obtain ⟨i, hi, e⟩ := hc
      exact ⟨i, n + 1, by omega, Nat.le_refl _, e⟩
    · have hn : ∀ i, i ≤ n → f i ≠ f (n + 1) := fun i hi e => hc ⟨i, hi, e⟩
      obtain ⟨i, j, h1, h2, e⟩ := pig n (fun i => if f i < f (n + 1) then f i else f i - 1) (fun i hi => by
        have a := h i (by omega)
        have b := hn i hi
        have c := h (n + 1) (Nat.le_refl _)
        show (if f i < f (n + 1) then f i else f i - 1) < n
        split <;> omega)
      refine ⟨i, j, h1, by omega, ?_⟩
      have a := hn i (by omega)
      have b := hn j h2
      have e : (if f i < f (n + 1) then f i else f i - 1) = (if f j < f (n + 1) then f j else f j - 1) := e
      split at e <;> split at e <;> omega
/-- a table as a map -/
def tm (T : List Int) (x : Nat) : Nat := (T.getD x 0).toNat
def itr (t : Nat → Nat) : Nat → Nat → Nat
  | 0, x => x
  | k + 1, x => t (itr t k x)
theorem itr_add (t : Nat → Nat) (j : Nat) : ∀ (k x : Nat), itr t (k + j) x = itr t k (itr t j x)
  | 0, x => by rw [Nat.zero_add]; rfl
  | k + 1, x => by
    rw [Nat.add_right_comm]
    show t (itr t (k + j) x) = t (itr t k (itr t j x))
    rw [itr_add t j k x]
theorem itr_lt {t : Nat → Nat} {m : Nat} (hr : ∀ x, x < m → t x < m) : ∀ (k x : Nat), x < m → itr t k x < m
  | 0, _, h => h
  | k + 1, x, h => hr _ (itr_lt hr k x h)
theorem itr_inj {t : Nat → Nat} {m : Nat} (hr : ∀ x, x < m → t x < m) (hi : ∀ x y, x < m → y < m → t x = t y → x = y) : ∀ (k x y : Nat), x < m → y < m → itr t k x = itr t k y → x = y
  | 0, _, _, _, _, e => e
  | k + 1, x, y, hx, hy, e => itr_inj hr hi k x y hx hy (hi _ _ (itr_lt hr k x hx) (itr_lt hr k y hy) e)
theorem itr_mul {t : Nat → Nat} {d x : Nat} (h : itr t d x = x) : ∀ q, itr t (q * d) x = x
  | 0 => by rw [Nat.zero_mul]; rfl
  | q + 1 => by rw [Nat.succ_mul, itr_add, h, itr_mul h q]
theorem div27 : ∀ d : Nat, d < 13 → 1 ≤ d → 27720 / d * d = 27720 := by decide +kernel
theorem itr_all {t : Nat → Nat} {m : Nat} (h12 : m ≤ 12) (hr : ∀ x, x < m → t x < m) (hi : ∀ x y, x < m → y < m → t x = t y → x = y) : ∀ x, x < m → itr t 27720 x = x := fun x hx => by
  obtain ⟨i, j, h1, h2, e⟩ := pig m (fun k => itr t k x) (fun k _ => itr_lt hr k x hx)
  have e : itr t i x = itr t j x := e
  have e2 : itr t (j - i) x = x := by
    refine (itr_inj hr hi i _ _ hx (itr_lt hr (j - i) x hx) ?_).symm
    rw [← itr_add, show i + (j - i) = j by omega]
    exact e
  have := itr_mul e2 (27720 / (j - i))
  rw [div27 (j - i) (by omega) (by omega)] at this
  exact this
/-- the powers of a table -/
def pwT (m : Nat) (T : List Int) (k : Nat) : List Int := (List.range m).map fun x => ((itr (tm T) k x : Nat) : Int)
theorem pwT_get {m : Nat} {T : List Int} {k x : Nat} (h : x < m) : (pwT m T k).getD x 0 = ((itr (tm T) k x : Nat) : Int) := by
  unfold pwT
  rw [List.getD_eq_getElem?_getD, List.getElem?_map, List.getElem?_range h]
  rfl
theorem pwT_len (m : Nat) (T : List Int) (k : Nat) : (pwT m T k).length = m := by unfold pwT; rw [List.length_map, List.length_range]
theorem least_of {P : Nat → Prop} [DecidablePred P] : ∀ (n : Nat), P n → 1 ≤ n → ∃ k, 1 ≤ k ∧ k ≤ n ∧ P k ∧ ∀ j, 1 ≤ j → j < k → ¬ P j := by
  intro n
  induction n using Nat.strongRecOn with
  | _ n ih =>
    intro h h1
    by_cases hc : ∃ j, 1 ≤ j ∧ j < n ∧ P j
    · obtain ⟨j, a, b, c⟩ := hc
      obtain ⟨k, k1, k2, k3, k4⟩ := ih j b c a
      exact ⟨k, k1, by omega, k3, k4⟩
    · exact ⟨n, h1, Nat.le_refl _, h, fun j a b c => hc ⟨j, a, b, c⟩⟩
/-- the order -/
theorem order_ex {m : Nat} {T : List Int} (h12 : m ≤ 12) (hr : ∀ x, x < m → tm T x < m) (hi : ∀ x y, x < m → y < m → tm T x = tm T y → x = y) : ∃ k, 1 ≤ k ∧ k ≤ 27720 ∧ pwT m T k = pwT m T 0 ∧ ∀ j, 1 ≤ j → j < k → pwT m T j ≠ pwT m T 0 := by
  refine least_of (P := fun k => pwT m T k = pwT m T 0) 27720 ?_ (by omega)
  unfold pwT
  refine List.map_congr_left fun x hx => ?_
  rw [itr_all h12 hr hi x (List.mem_range.mp hx)]
  rfl
theorem nodup_inj {T : List Int} {m : Nat} (hl : T.length = m) (hb : ∀ x ∈ T, 0 ≤ x ∧ x < (m : Int)) (hn : T.Nodup) : ∀ x y, x < m → y < m → tm T x = tm T y → x = y := fun x y hx hy e => by
  unfold tm at e
  have g : ∀ z, z < m → ∃ h : z < T.length, T.getD z 0 = T[z] ∧ 0 ≤ T[z] := fun z hz => ⟨by omega, by rw [List.getD_eq_getElem?_getD, List.getElem?_eq_getElem (by omega)]; rfl, (hb _ (List.getElem_mem _)).1⟩
  obtain ⟨h1, e1, p1⟩ := g x hx
  obtain ⟨h2, e2, p2⟩ := g y hy
  rw [e1, e2] at e
  have e3 : T[x] = T[y] := by omega
  exact (List.getElem_inj hn).mp e3
theorem tm_lt {T : List Int} {m : Nat} (hl : T.length = m) (hb : ∀ x ∈ T, 0 ≤ x ∧ x < (m : Int)) : ∀ x, x < m → tm T x < m := fun x hx => by
  unfold tm
  rw [List.getD_eq_getElem?_getD, List.getElem?_eq_getElem (by omega)]
  have := hb _ (List.getElem_mem (show x < T.length by omega))
  show (T[x]).toNat < m
  omega
theorem Pol.pwT {m : Nat} {T : List Int} (h2 : 2 ≤ m) (h12 : m ≤ 12) (hr : ∀ x, x < m → tm T x < m) (hp : Pol m (fun x => ((tm T x : Nat) : Int))) : ∀ k, Pol m (fun x => ((itr (tm T) k x : Nat) : Int))
  | 0 => Pol.idn h2 h12
  | k + 1 => by
    have := Pol.comp h2 h12 hp (Pol.pwT h2 h12 hr hp k) fun x hx => by
      have := itr_lt hr k x hx
      omega
    refine this.congr fun x hx => ?_
    rw [Int.toNat_natCast]
    exact Cg.refl _ _
theorem idx_nodup : ∀ {T : List Int} (hn : T.Nodup) (i : Nat) (h : i < T.length), T.idxOf T[i] = i := fun {T} hn i h => by
  have hm : T[i] ∈ T := List.getElem_mem h
  have h2 := List.idxOf_lt_length_of_mem hm
  have h3 : T[T.idxOf T[i]]'h2 = T[i] := List.getElem_idxOf h2
  exact (List.getElem_inj hn).mp h3
end PT

namespace PT
/-! ## slopes -/
def dv (x : Int) : List Int → Int
  | [] => 0
  | a :: l => PT.pv x l + x * dv x l
def slp (c : Int) : List Int → List Int
  | [] => []
  | a :: l => c * a :: slp (c + 1) l
theorem pv_slp (x : Int) : ∀ (c : Int) (l : List Int), PT.pv x (slp c l) = c * PT.pv x l + x * dv x l
  | c, [] => by simp [slp, dv, PT.pv]
  | c, a :: l => by
    show c * a + x * PT.pv x (slp (c + 1) l) = c * (a + x * PT.pv x l) + x * (PT.pv x l + x * dv x l)
    rw [pv_slp x (c + 1) l]
    generalize PT.pv x l = p
    generalize dv x l = q
    grind
theorem pv_shift (x h : Int) : ∀ l : List Int, ∃ R : Int, PT.pv (x + h) l = PT.pv x l + h * dv x l + h * h * R
  | [] => ⟨0, by simp [PT.pv, dv]⟩
  | a :: l => by
    obtain ⟨R, e⟩ := pv_shift x h l
    refine ⟨dv x l + (x + h) * R, ?_⟩
    show a + (x + h) * PT.pv (x + h) l = a + x * PT.pv x l + h * (PT.pv x l + x * dv x l) + h * h * (dv x l + (x + h) * R)
    rw [e]
    generalize PT.pv x l = p
    generalize dv x l = q
    grind
theorem dv_shift (x h : Int) : ∀ l : List Int, ∃ R : Int, dv (x + h) l = dv x l + h * R
  | [] => ⟨0, by simp [dv]⟩
  | a :: l => by
    obtain ⟨R, e⟩ := pv_shift x h l
    obtain ⟨S, e2⟩ := dv_shift x h l
    refine ⟨dv x l + h * R + dv x l + (x + h) * S, ?_⟩
    show PT.pv (x + h) l + (x + h) * dv (x + h) l = PT.pv x l + x * dv x l + h * (dv x l + h * R + dv x l + (x + h) * S)
    rw [e, e2]
    generalize PT.pv x l = p
    generalize dv x l = q
    grind
theorem pv_mod (p x : Nat) (l : List Int) : PT.pv (x : Int) l % p = PT.pv ((x % p : Nat) : Int) l % p := by
  obtain ⟨R, e⟩ := pv_shift ((x % p : Nat) : Int) ((p : Int) * ((x / p : Nat) : Int)) l
  have hx : (x : Int) = ((x % p : Nat) : Int) + (p : Int) * ((x / p : Nat) : Int) := by
    have := Nat.mod_add_div x p
    rw [← Int.natCast_mul, ← Int.natCast_add, this]
  rw [hx, e]
  generalize PT.pv ((x % p : Nat) : Int) l = a
  generalize dv ((x % p : Nat) : Int) l = b
  generalize ((x / p : Nat) : Int) = c
  have : a + (p : Int) * c * b + (p : Int) * c * ((p : Int) * c) * R = a + (p : Int) * (c * b + c * ((p : Int) * c) * R) := by grind
  rw [this, Int.add_mul_emod_self_left]
theorem dv_mod (p x : Nat) (l : List Int) : dv (x : Int) l % p = dv ((x % p : Nat) : Int) l % p := by
  obtain ⟨R, e⟩ := dv_shift ((x % p : Nat) : Int) ((p : Int) * ((x / p : Nat) : Int)) l
  have hx : (x : Int) = ((x % p : Nat) : Int) + (p : Int) * ((x / p : Nat) : Int) := by
    have := Nat.mod_add_div x p
    rw [← Int.natCast_mul, ← Int.natCast_add, this]
  rw [hx, e, Int.mul_assoc, Int.add_mul_emod_self_left]
/-- what is asked of remainders and slopes -/
def SlopeOk (p : Nat) (l : List Int) : Prop := (∀ x y : Nat, x < y → y < p → PT.pv (x : Int) l % p ≠ PT.pv (y : Int) l % p) ∧ ∀ x : Nat, x < p → dv (x : Int) l % p ≠ 0
def InjOn (m : Nat) (l : List Int) : Prop := ∀ x y : Nat, x < y → y < m → PT.pv (x : Int) l % m ≠ PT.pv (y : Int) l % m
theorem sh_at (l : List Int) (x h : Nat) : ∃ R : Int, PT.pv ((x + h : Nat) : Int) l = PT.pv (x : Int) l + h * dv (x : Int) l + h * h * R := by
  obtain ⟨R, e⟩ := pv_shift (x : Int) (h : Int) l
  exact ⟨R, by rw [Int.natCast_add]; exact e⟩
theorem SlopeOk.far {p : Nat} (hp : 0 < p) {l : List Int} (h : SlopeOk p l) {x y : Nat} (hxy : x % p ≠ y % p) : PT.pv (x : Int) l % p ≠ PT.pv (y : Int) l % p := by
  rw [pv_mod p x, pv_mod p y]
  rcases Nat.lt_or_gt_of_ne hxy with z | z
  · exact h.1 _ _ z (Nat.mod_lt _ hp)
  · exact (h.1 _ _ z (Nat.mod_lt _ hp)).symm
theorem SlopeOk.dvn {p : Nat} (hp : 0 < p) {l : List Int} (h : SlopeOk p l) (x : Nat) : dv (x : Int) l % p ≠ 0 := by
  rw [dv_mod p x]
  exact h.2 _ (Nat.mod_lt _ hp)
theorem perm8 (l : List Int) : InjOn 8 l ↔ SlopeOk 2 l := by
  constructor
  · intro h
    obtain ⟨R1, e1⟩ := sh_at l 0 4
    obtain ⟨R2, e2⟩ := sh_at l 1 4
    obtain ⟨R3, e3⟩ := sh_at l 0 2
    obtain ⟨R4, e4⟩ := sh_at l 2 4
    have a04 := h 0 4 (by omega) (by omega)
    have a15 := h 1 5 (by omega) (by omega)
    have g2 := dv_mod 2 2 l
    have a01 := h 0 1 (by omega) (by omega)
    have a12 := h 1 2 (by omega) (by omega)
    have a14 := h 1 4 (by omega) (by omega)
    have a16 := h 1 6 (by omega) (by omega)
    simp only [Nat.reduceAdd, Nat.reduceMod] at e1 e2 e3 e4 g2
    have q0 : dv ((0 : Nat) : Int) l % 2 ≠ 0 := by omega
    have q1 : dv ((1 : Nat) : Int) l % 2 ≠ 0 := by omega
    have q01 : PT.pv ((0 : Nat) : Int) l % 2 ≠ PT.pv ((1 : Nat) : Int) l % 2 := by
      clear e2 a15 a04 q1
      omega
    refine ⟨fun x y hx hy => ?_, fun x hx => ?_⟩
    · have : x = 0 ∧ y = 1 := by omega
      obtain ⟨rfl, rfl⟩ := this
      exact q01
    · have : x = 0 ∨ x = 1 := by omega
      rcases this with rfl | rfl
      · exact q0
      · exact q1
  · intro h x y hxy hy
    by_cases hp : x % 2 = y % 2
    · obtain ⟨R, e⟩ := sh_at l x (y - x)
      rw [show x + (y - x) = y by omega] at e
      have hd := h.dvn (by omega) x
      have : y - x = 2 ∨ y - x = 4 ∨ y - x = 6 := by omega
      rcases this with z | z | z <;> rw [z] at e <;> omega
    · have := h.far (by omega) hp
      omega
theorem perm4 (l : List Int) : InjOn 4 l ↔ SlopeOk 2 l := by
  constructor
  · intro h
    obtain ⟨R1, e1⟩ := sh_at l 0 2
    obtain ⟨R2, e2⟩ := sh_at l 1 2
    have a02 := h 0 2 (by omega) (by omega)
    have a13 := h 1 3 (by omega) (by omega)
    have a01 := h 0 1 (by omega) (by omega)
    have a12 := h 1 2 (by omega) (by omega)
    simp only [Nat.reduceAdd] at e1 e2
    have q0 : dv ((0 : Nat) : Int) l % 2 ≠ 0 := by omega
    have q1 : dv ((1 : Nat) : Int) l % 2 ≠ 0 := by omega
    have q01 : PT.pv ((0 : Nat) : Int) l % 2 ≠ PT.pv ((1 : Nat) : Int) l % 2 := by
      clear e2 a13 q1
      omega
    refine ⟨fun x y hx hy => ?_, fun x hx => ?_⟩
    · have : x = 0 ∧ y = 1 := by omega
      obtain ⟨rfl, rfl⟩ := this
      exact q01
    · have : x = 0 ∨ x = 1 := by omega
      rcases this with rfl | rfl
      · exact q0
      · exact q1
  · intro h x y hxy hy
    by_cases hp : x % 2 = y % 2
    · obtain ⟨R, e⟩ := sh_at l x (y - x)
      rw [show x + (y - x) = y by omega] at e
      have hd := h.dvn (by omega) x
      have z : y - x = 2 := by omega
      rw [z] at e
      omega
    · have := h.far (by omega) hp
      omega
theorem perm9 (l : List Int) : InjOn 9 l ↔ SlopeOk 3 l := by
  constructor
  · intro h
    have hd : ∀ x : Nat, x < 3 → dv (x : Int) l % 3 ≠ 0 := fun x hx => by
      obtain ⟨R, e⟩ := sh_at l x 3
      have := h x (x + 3) (by omega) (by omega)
      omega
    have hf : ∀ x y : Nat, x < y → y < 3 → PT.pv (x : Int) l % 3 ≠ PT.pv (y : Int) l % 3 := fun x y hx hy => by
      obtain ⟨R, e⟩ := sh_at l x 3
      obtain ⟨S, e2⟩ := sh_at l x 6
      have a0 := h x y hx (by omega)
      have a1 := h y (x + 3) (by omega) (by omega)
      have a2 := h y (x + 6) (by omega) (by omega)
      have q := hd x (by omega)
      intro he
      obtain ⟨t, ht⟩ : ∃ t : Int, PT.pv (y : Int) l = PT.pv (x : Int) l + 3 * t := ⟨(PT.pv (y : Int) l - PT.pv (x : Int) l) / 3, by omega⟩
      have c1 : t % 3 = 0 ∨ t % 3 = 1 ∨ t % 3 = 2 := by omega
      have c2 : dv (x : Int) l % 3 = 1 ∨ dv (x : Int) l % 3 = 2 := by omega
      rcases c1 with c1 | c1 | c1
      · exact a0 (by omega)
      · rcases c2 with c2 | c2
        · exact a1 (by omega)
        · exact a2 (by omega)
      · rcases c2 with c2 | c2
        · exact a2 (by omega)
        · exact a1 (by omega)
    exact ⟨hf, hd⟩
  · intro h x y hxy hy
    by_cases hp : x % 3 = y % 3
    · obtain ⟨R, e⟩ := sh_at l x (y - x)
      rw [show x + (y - x) = y by omega] at e
      have hd := h.dvn (by omega) x
      have : y - x = 3 ∨ y - x = 6 := by omega
      rcases this with z | z <;> rw [z] at e <;> omega
    · have := h.far (by omega) hp
      omega
end PT

namespace PT
open PySem PySem.Spec PyProof.Rows L2
def top (i : Nat) : Stmt := PySem.Challenge.pw_polytables_k16_whole_two_sheets.main.body.getD i (.Pass ⟨0, 0, 0, 0⟩)
def EM : EMT := ([("TableError", "InvalidPlace", false), ("TableError", "TableError", true), ("TableError", "InvalidValue", false), ("TableError", "TooMany", false), ("TableError", "NothingToUndo", false), ("InvalidModulus", "InvalidPlace", false), ("InvalidModulus", "TableError", true), ("InvalidModulus", "InvalidValue", false), ("InvalidModulus", "TooMany", false), ("InvalidModulus", "NothingToUndo", false), ("InvalidTable", "InvalidPlace", false), ("InvalidTable", "TableError", true), ("InvalidTable", "InvalidValue", false), ("InvalidTable", "TooMany", false), ("InvalidTable", "NothingToUndo", false), ("InvalidPlace", "InvalidPlace", true), ("InvalidPlace", "TableError", true), ("InvalidPlace", "InvalidValue", false), ("InvalidPlace", "TooMany", false), ("InvalidPlace", "NothingToUndo", false)] : EMT) ++ ([("InvalidValue", "InvalidPlace", false), ("InvalidValue", "TableError", true), ("InvalidValue", "InvalidValue", true), ("InvalidValue", "TooMany", false), ("InvalidValue", "NothingToUndo", false), ("TooMany", "InvalidPlace", false), ("TooMany", "TableError", true), ("TooMany", "InvalidValue", false), ("TooMany", "TooMany", true), ("TooMany", "NothingToUndo", false), ("NothingToUndo", "InvalidPlace", false), ("NothingToUndo", "TableError", true), ("NothingToUndo", "InvalidValue", false), ("NothingToUndo", "TooMany", false), ("NothingToUndo", "NothingToUndo", true)] : EMT)
/-! ### in_range -/
abbrev st_in_range : Stmt := top 10
abbrev N_in_range : List Str := ["value", "low", "high"]
def g_in_range : SF := sRet (eAnd (eIsi "int" (eVar 0)) (eAnd (eNot (eIsi "bool" (eVar 0))) (eChain (eVar 1) (eVar 0) (eVar 2))))
def F_in_range : List Dt → Option Rs := runB 3 g_in_range
theorem sc_in_range : FnScope N_in_range ["value", "low", "high"] (defScope st_in_range) := ⟨rfl, rfl, rfl, by decide +kernel, rfl, by decide +kernel, by decide +kernel⟩
theorem b_in_range {G : Gc} (B : Bi G) : SB G N_in_range (defScope st_in_range) (fun _ => true) 0 (defBody st_in_range) g_in_range := by
  unfold g_in_range
  exact sb_one (ss_ret (se_and (se_isi B kit_int (se_var 0) B.int PyProof.Rows.boot_int) (se_and (se_not (se_isi B kit_bool (se_var 0) B.bool PyProof.Rows.boot_bool)) (se_one (se_chain (se_var 1) (se_var 0) (se_var 2))))))
theorem fn_in_range {G : Gc} {f : Addr} {fd : FuncData} (B : Bi G) (hm : G.mg "in_range" = some (.ref f)) (Fu : FunD G.K "in_range" "in_range" (defArgs st_in_range) (defBody st_in_range) (defScope st_in_range) [] [] f fd) : FnIs G "in_range" 1 3 F_in_range :=
  fn_is hm Fu sc_in_range (FunD.bindsN (ps := ["value", "low", "high"]) Fu fun _ _ _ _ _ _ us hl => match us, hl with | [_, _, _], _ => rfl) (b_in_range B  ) (fun _ _ _ h => h)
/-! ### difference_row -/
abbrev st_difference_row : Stmt := top 15
abbrev N_difference_row : List Str := ["modulus", "table", "place", "row", "result", "low", "high"]
def b1_difference_row : SF := sSeq (sApp 4 (eBin dIx (eVar 3) (eC (.int 0))))
  (sSet 3 (eLc [5, 6] (gPr (gNm 5) (gNm 6)) (iZip (eVar 3) (eSl (eVar 3) (oSo (eC (.int 1))) (oNo))) (eC (.bool true)) (eBin dMod (eBin dSub (eVar 6) (eVar 5)) (eVar 0))))
def t3_difference_row : SF := sRet (eVar 4)
def t2_difference_row : SF := sSeq (sWhile 1000 (eVar 3) (b1_difference_row)) t3_difference_row
def t1_difference_row : SF := sSeq (sSetO 4 (eLst (aNil))) t2_difference_row
def g_difference_row : SF := sSeq (sSet 3 (eUn dList (eBin dAdd (eSl (eVar 1) (oSo (eVar 2)) (oNo)) (eSl (eVar 1) (oNo) (oSo (eVar 2)))))) t1_difference_row
def F_difference_row : List Dt → Option Rs := runB 7 g_difference_row
theorem sc_difference_row : FnScope N_difference_row ["modulus", "table", "place"] (defScope st_difference_row) := ⟨rfl, rfl, rfl, by decide +kernel, rfl, by decide +kernel, by decide +kernel⟩
theorem b_difference_row {G : Gc} (B : Bi G) : SB G N_difference_row (defScope st_difference_row) (fun _ => true) 0 (defBody st_difference_row) g_difference_row := by
  unfold g_difference_row
  exact sb_cons (ss_set (ag_of 3 (se_list B (se_add (se_sl (se_var 1) (so_some (se_var 2)) (so_none)) (se_sl (se_var 1) (so_none) (so_some (se_var 2)))))))
    (sb_cons (ss_setO (agL_of 4 (sl_lst (sa_nil))))
    (sb_cons (ss_while 1000 (st_val (se_var 3)) (sb_cons (ss_app 4 (se_ix (se_var 3) (se_int)))
    (sb_one (ag_lc 3 (own := [("low", 5), ("high", 6)]) (si_zip B (se_var 3) (se_sl (se_var 3) (so_some (se_int)) (so_none))) (by decide +kernel) (sg_prR (sg_nm 5) (sg_nm 6)) (sts_nil) (se_mod (se_sub (se_var 6) (se_var 5)) (se_var 0))))))
    (sb_one (ss_ret (se_var 4)))))
theorem fn_difference_row {G : Gc} {f : Addr} {fd : FuncData} (B : Bi G) (hm : G.mg "difference_row" = some (.ref f)) (Fu : FunD G.K "difference_row" "difference_row" (defArgs st_difference_row) (defBody st_difference_row) (defScope st_difference_row) [] [] f fd) : FnIs G "difference_row" 1 3 F_difference_row :=
  fn_is hm Fu sc_difference_row (FunD.bindsN (ps := ["modulus", "table", "place"]) Fu fun _ _ _ _ _ _ us hl => match us, hl with | [_, _, _], _ => rfl) (b_difference_row B  ) (fun _ _ _ h => h)
/-! ### greatest_divisor -/
abbrev st_greatest_divisor : Stmt := top 16
abbrev N_greatest_divisor : List Str := ["one", "other"]
def b1_greatest_divisor : SF := sPar 0 1 (eVar 1) (eBin dMod (eVar 0) (eVar 1))
def t1_greatest_divisor : SF := sRet (eVar 0)
def g_greatest_divisor : SF := sSeq (sWhile 1000 (eVar 1) (b1_greatest_divisor)) t1_greatest_divisor
def F_greatest_divisor : List Dt → Option Rs := runB 2 g_greatest_divisor
theorem sc_greatest_divisor : FnScope N_greatest_divisor ["one", "other"] (defScope st_greatest_divisor) := ⟨rfl, rfl, rfl, by decide +kernel, rfl, by decide +kernel, by decide +kernel⟩
theorem b_greatest_divisor {G : Gc} (B : Bi G) : SB G N_greatest_divisor (defScope st_greatest_divisor) (fun _ => true) 0 (defBody st_greatest_divisor) g_greatest_divisor := by
  unfold g_greatest_divisor
  exact sb_cons (ss_while 1000 (st_val (se_var 1)) (sb_one (ss_par 0 1 (se_var 1) (se_mod (se_var 0) (se_var 1)))))
    (sb_one (ss_ret (se_var 0)))
theorem fn_greatest_divisor {G : Gc} {f : Addr} {fd : FuncData} (B : Bi G) (hm : G.mg "greatest_divisor" = some (.ref f)) (Fu : FunD G.K "greatest_divisor" "greatest_divisor" (defArgs st_greatest_divisor) (defBody st_greatest_divisor) (defScope st_greatest_divisor) [] [] f fd) : FnIs G "greatest_divisor" 1 2 F_greatest_divisor :=
  fn_is hm Fu sc_greatest_divisor (FunD.bindsN (ps := ["one", "other"]) Fu fun _ _ _ _ _ _ us hl => match us, hl with | [_, _], _ => rfl) (b_greatest_divisor B  ) (fun _ _ _ h => h)
/-! ### tuples -/
abbrev st_tuples : Stmt := top 23
abbrev N_tuples : List Str := ["limits", "result", "limit", "longer", "one", "number"]
def b1_tuples : SF := sExt 3 (eLc [5] (gNm 5) (iRg1 (eVar 2)) (eC (.bool true)) (eBin dAdd (eVar 4) (eTup (aCons (eVar 5) (aNil)))))
def b2_tuples : SF := sSeq (sSetO 3 (eLst (aNil)))
  (sSeq (sFor [4] (gNm 4) (iSeq (eVar 1)) (b1_tuples))
  (sUn 3 (sSet 1 (eVar 3))))
def t2_tuples : SF := sRet (eVar 1)
def t1_tuples : SF := sSeq (sFor [2] (gNm 2) (iSeq (eVar 0)) (b2_tuples)) t2_tuples
def g_tuples : SF := sSeq (sSet 1 (eLst (aCons (eTup (aNil)) (aNil)))) t1_tuples
def F_tuples : List Dt → Option Rs := runB 6 g_tuples
theorem sc_tuples : FnScope N_tuples ["limits"] (defScope st_tuples) := ⟨rfl, rfl, rfl, by decide +kernel, rfl, by decide +kernel, by decide +kernel⟩
theorem b_tuples {G : Gc} (B : Bi G) : SB G N_tuples (defScope st_tuples) (fun _ => true) 0 (defBody st_tuples) g_tuples := by
  unfold g_tuples
  exact sb_cons (ss_set (ag_of 1 (se_lst (sa_cons (se_tup (sa_nil)) (sa_nil)))))
    (sb_cons (ss_for (si_seq (se_var 0)) (sg_nm 2) (sb_cons (ss_setO (agL_of 3 (sl_lst (sa_nil))))
    (sb_cons (ss_for (si_seq (se_var 1)) (sg_nm 4) (sb_one (ss_ext 3 (se_lc (own := [("number", 5)]) (si_rg1 B (se_var 2)) (by decide +kernel) (sg_nm 5) (sts_nil) (se_add (se_var 4) (se_tup (sa_cons (se_var 5) (sa_nil))))))))
    (sb_one (ss_un 3 (ss_set (ag_of 1 (se_var 3))))))))
    (sb_one (ss_ret (se_var 1))))
theorem fn_tuples {G : Gc} {f : Addr} {fd : FuncData} (B : Bi G) (hm : G.mg "tuples" = some (.ref f)) (Fu : FunD G.K "tuples" "tuples" (defArgs st_tuples) (defBody st_tuples) (defScope st_tuples) [] [] f fd) : FnIs G "tuples" 1 1 F_tuples :=
  fn_is hm Fu sc_tuples (FunD.bindsN (ps := ["limits"]) Fu fun _ _ _ _ _ _ us hl => match us, hl with | [_], _ => rfl) (b_tuples B  ) (fun _ _ _ h => h)
/-! ### filled -/
abbrev st_filled : Stmt := top 24
abbrev N_filled : List Str := ["table", "numbers", "result", "rest", "one"]
def b1_filled : SF := sAppPop 2 3 (eBin dIsN (eVar 4) (eC .none)) (eVar 4)
def t3_filled : SF := sRet (eUn dTuple (eVar 2))
def t2_filled : SF := sSeq (sFor [4] (gNm 4) (iSeq (eVar 0)) (b1_filled)) t3_filled
def t1_filled : SF := sSeq (sSetO 3 (eUn dList (eVar 1))) t2_filled
def g_filled : SF := sSeq (sSetO 2 (eLst (aNil))) t1_filled
def F_filled : List Dt → Option Rs := runB 5 g_filled
theorem sc_filled : FnScope N_filled ["table", "numbers"] (defScope st_filled) := ⟨rfl, rfl, rfl, by decide +kernel, rfl, by decide +kernel, by decide +kernel⟩
theorem b_filled {G : Gc} (B : Bi G) : SB G N_filled (defScope st_filled) (fun _ => true) 0 (defBody st_filled) g_filled := by
  unfold g_filled
  exact sb_cons (ss_setO (agL_of 2 (sl_lst (sa_nil))))
    (sb_cons (ss_setO (agL_of 3 (sl_list B (se_var 1))))
    (sb_cons (ss_for (si_seq (se_var 0)) (sg_nm 4) (sb_one (ss_appPop 2 3 (st_isN (se_var 4) (se_non)) (se_var 4))))
    (sb_one (ss_ret (se_tuple B (se_var 2))))))
theorem fn_filled {G : Gc} {f : Addr} {fd : FuncData} (B : Bi G) (hm : G.mg "filled" = some (.ref f)) (Fu : FunD G.K "filled" "filled" (defArgs st_filled) (defBody st_filled) (defScope st_filled) [] [] f fd) : FnIs G "filled" 1 2 F_filled :=
  fn_is hm Fu sc_filled (FunD.bindsN (ps := ["table", "numbers"]) Fu fun _ _ _ _ _ _ us hl => match us, hl with | [_, _], _ => rfl) (b_filled B  ) (fun _ _ _ h => h)
/-! ### _law_cell -/
abbrev st__law_cell : Stmt := top 29
abbrev N__law_cell : List Str := ["script", "k"]
def t1__law_cell : SF := sRet (eC (.int 0))
def g__law_cell : SF := sSeq (sIf (eBin dLt (eVar 1) (eUn dLen (eVar 0))) (sRet (eBin dIx (eVar 0) (eVar 1))) (sNop)) t1__law_cell
def F__law_cell : List Dt → Option Rs := runB 2 g__law_cell
theorem sc__law_cell : FnScope N__law_cell ["script", "k"] (defScope st__law_cell) := ⟨rfl, rfl, rfl, by decide +kernel, rfl, by decide +kernel, by decide +kernel⟩
theorem b__law_cell {G : Gc} (B : Bi G) : SB G N__law_cell (defScope st__law_cell) (fun _ => true) 0 (defBody st__law_cell) g__law_cell := by
  unfold g__law_cell
  exact sb_cons (ss_if (st_lt (se_var 1) (se_len B (se_var 0))) (sb_one (ss_ret (se_ix (se_var 0) (se_var 1)))) (sb_nil))
    (sb_one (ss_ret (se_int)))
theorem fn__law_cell {G : Gc} {f : Addr} {fd : FuncData} (B : Bi G) (hm : G.mg "_law_cell" = some (.ref f)) (Fu : FunD G.K "_law_cell" "_law_cell" (defArgs st__law_cell) (defBody st__law_cell) (defScope st__law_cell) [] [] f fd) : FnIs G "_law_cell" 1 2 F__law_cell :=
  fn_is hm Fu sc__law_cell (FunD.bindsN (ps := ["script", "k"]) Fu fun _ _ _ _ _ _ us hl => match us, hl with | [_, _], _ => rfl) (b__law_cell B  ) (fun _ _ _ h => h)
/-! ### _law_value -/
abbrev st__law_value : Stmt := top 31
abbrev N__law_value : List Str := ["modulus", "numbers", "place", "total", "power", "number"]
def b1__law_value : SF := sSeq (sSet 3 (eBin dAdd (eVar 3) (eBin dMul (eVar 5) (eVar 4))))
  (sSet 4 (eBin dMul (eVar 4) (eVar 2)))
def t2__law_value : SF := sRet (eBin dMod (eVar 3) (eVar 0))
def t1__law_value : SF := sSeq (sFor [5] (gNm 5) (iSeq (eVar 1)) (b1__law_value)) t2__law_value
def g__law_value : SF := sSeq (sUnp [3, 4] (gPr (gNm 3) (gNm 4)) (eTup (aCons (eC (.int 0)) (aCons (eC (.int 1)) (aNil))))) t1__law_value
def F__law_value : List Dt → Option Rs := runB 6 g__law_value
theorem sc__law_value : FnScope N__law_value ["modulus", "numbers", "place"] (defScope st__law_value) := ⟨rfl, rfl, rfl, by decide +kernel, rfl, by decide +kernel, by decide +kernel⟩
theorem b__law_value {G : Gc} (B : Bi G) : SB G N__law_value (defScope st__law_value) (fun _ => true) 0 (defBody st__law_value) g__law_value := by
  unfold g__law_value
  exact sb_cons (ss_unp (se_tup (sa_cons (se_int) (sa_cons (se_int) (sa_nil)))) (sg_pr (sg_nm 3) (sg_nm 4)) (hw := sw_const))
    (sb_cons (ss_for (si_seq (se_var 1)) (sg_nm 5) (sb_cons (ss_set (ag_of 3 (se_add (se_var 3) (se_mul (se_var 5) (se_var 4)))))
    (sb_one (ss_set (ag_of 4 (se_mul (se_var 4) (se_var 2)))))))
    (sb_one (ss_ret (se_mod (se_var 3) (se_var 0)))))
theorem fn__law_value {G : Gc} {f : Addr} {fd : FuncData} (B : Bi G) (hm : G.mg "_law_value" = some (.ref f)) (Fu : FunD G.K "_law_value" "_law_value" (defArgs st__law_value) (defBody st__law_value) (defScope st__law_value) [] [] f fd) : FnIs G "_law_value" 1 3 F__law_value :=
  fn_is hm Fu sc__law_value (FunD.bindsN (ps := ["modulus", "numbers", "place"]) Fu fun _ _ _ _ _ _ us hl => match us, hl with | [_, _, _], _ => rfl) (b__law_value B  ) (fun _ _ _ h => h)
/-! ### check_modulus -/
abbrev st_check_modulus : Stmt := top 11
abbrev N_check_modulus : List Str := ["modulus"]
def g_check_modulus : SF := sIf (eNot (eFn 3 F_in_range (aCons (eVar 0) (aCons (eC (.int 2)) (aCons (eC (.int 12)) (aNil)))))) (sRaise "InvalidModulus") (sNop)
def F_check_modulus : List Dt → Option Rs := runB 1 g_check_modulus
theorem sc_check_modulus : FnScope N_check_modulus ["modulus"] (defScope st_check_modulus) := ⟨rfl, rfl, rfl, by decide +kernel, rfl, by decide +kernel, by decide +kernel⟩
theorem b_check_modulus {G : Gc} (B : Bi G) (h_in_range : FnIs G "in_range" 1 3 F_in_range) (h_MAX_MODULUS : ∃ t, G.mg "MAX_MODULUS" = some (.int 12 t)) (h_InvalidModulus : ExcC G "InvalidModulus") : SB G N_check_modulus (defScope st_check_modulus) (fun _ => true) 1 (defBody st_check_modulus) g_check_modulus := by
  unfold g_check_modulus
  exact sb_one (ss_if (st_not (st_val (se_fn h_in_range (sa_cons (se_var 0) (sa_cons (se_int) (sa_cons (se_gint h_MAX_MODULUS) (sa_nil))))))) (sb_one (ss_raise h_InvalidModulus)) (sb_nil))
theorem fn_check_modulus {G : Gc} {f : Addr} {fd : FuncData} (B : Bi G) (h_in_range : FnIs G "in_range" 1 3 F_in_range) (h_MAX_MODULUS : ∃ t, G.mg "MAX_MODULUS" = some (.int 12 t)) (h_InvalidModulus : ExcC G "InvalidModulus") (hm : G.mg "check_modulus" = some (.ref f)) (Fu : FunD G.K "check_modulus" "check_modulus" (defArgs st_check_modulus) (defBody st_check_modulus) (defScope st_check_modulus) [] [] f fd) : FnIs G "check_modulus" 2 1 F_check_modulus :=
  fn_is hm Fu sc_check_modulus (FunD.bindsN (ps := ["modulus"]) Fu fun _ _ _ _ _ _ us hl => match us, hl with | [_], _ => rfl) (b_check_modulus B h_in_range h_MAX_MODULUS h_InvalidModulus ) (fun _ _ _ h => h)
/-! ### is_valid_table -/
abbrev st_is_valid_table : Stmt := top 12
abbrev N_is_valid_table : List Str := ["modulus", "value", "one"]
def t1_is_valid_table : SF := sRet (eNot (eLc [2] (gNm 2) (iSeq (eVar 1)) (eNot (eFn 3 F_in_range (aCons (eVar 2) (aCons (eC (.int 0)) (aCons (eBin dSub (eVar 0) (eC (.int 1))) (aNil)))))) (eVar 2)))
def g_is_valid_table : SF := sSeq (sIf (eOrT (eNot (eIsi "tuple" (eVar 1))) (eBin dNe (eUn dLen (eVar 1)) (eVar 0))) (sRet (eC (.bool false))) (sNop)) t1_is_valid_table
def F_is_valid_table : List Dt → Option Rs := runB 3 g_is_valid_table
theorem sc_is_valid_table : FnScope N_is_valid_table ["modulus", "value"] (defScope st_is_valid_table) := ⟨rfl, rfl, rfl, by decide +kernel, rfl, by decide +kernel, by decide +kernel⟩
theorem b_is_valid_table {G : Gc} (B : Bi G) (h_in_range : FnIs G "in_range" 1 3 F_in_range) : SB G N_is_valid_table (defScope st_is_valid_table) (fun _ => true) 1 (defBody st_is_valid_table) g_is_valid_table := by
  unfold g_is_valid_table
  exact sb_cons (ss_if (st_w (sw_or (st_not (st_val (se_isi B kit_tuple (se_var 1) B.tuple PyProof.Rows.boot_tuple))) (sw_or1 (st_ne (se_len B (se_var 1)) (se_var 0))))) (sb_one (ss_ret (se_bl))) (sb_nil))
    (sb_one (ss_ret (se_not (se_lc (own := [("one", 2)]) (si_seq (se_var 1)) (by decide +kernel) (sg_nm 2) (sts_one (st_not (st_val (se_fn h_in_range (sa_cons (se_var 2) (sa_cons (se_int) (sa_cons (se_sub (se_var 0) (se_int)) (sa_nil)))))))) (se_var 2)))))
theorem fn_is_valid_table {G : Gc} {f : Addr} {fd : FuncData} (B : Bi G) (h_in_range : FnIs G "in_range" 1 3 F_in_range) (hm : G.mg "is_valid_table" = some (.ref f)) (Fu : FunD G.K "is_valid_table" "is_valid_table" (defArgs st_is_valid_table) (defBody st_is_valid_table) (defScope st_is_valid_table) [] [] f fd) : FnIs G "is_valid_table" 2 2 F_is_valid_table :=
  fn_is hm Fu sc_is_valid_table (FunD.bindsN (ps := ["modulus", "value"]) Fu fun _ _ _ _ _ _ us hl => match us, hl with | [_, _], _ => rfl) (b_is_valid_table B h_in_range ) (fun _ _ _ h => h)
/-! ### check_place -/
abbrev st_check_place : Stmt := top 14
abbrev N_check_place : List Str := ["modulus", "place"]
def g_check_place : SF := sIf (eNot (eFn 3 F_in_range (aCons (eVar 1) (aCons (eC (.int 0)) (aCons (eBin dSub (eVar 0) (eC (.int 1))) (aNil)))))) (sRaise "InvalidPlace") (sNop)
def F_check_place : List Dt → Option Rs := runB 2 g_check_place
theorem sc_check_place : FnScope N_check_place ["modulus", "place"] (defScope st_check_place) := ⟨rfl, rfl, rfl, by decide +kernel, rfl, by decide +kernel, by decide +kernel⟩
theorem b_check_place {G : Gc} (B : Bi G) (h_in_range : FnIs G "in_range" 1 3 F_in_range) (h_InvalidPlace : ExcC G "InvalidPlace") : SB G N_check_place (defScope st_check_place) (fun _ => true) 1 (defBody st_check_place) g_check_place := by
  unfold g_check_place
  exact sb_one (ss_if (st_not (st_val (se_fn h_in_range (sa_cons (se_var 1) (sa_cons (se_int) (sa_cons (se_sub (se_var 0) (se_int)) (sa_nil))))))) (sb_one (ss_raise h_InvalidPlace)) (sb_nil))
theorem fn_check_place {G : Gc} {f : Addr} {fd : FuncData} (B : Bi G) (h_in_range : FnIs G "in_range" 1 3 F_in_range) (h_InvalidPlace : ExcC G "InvalidPlace") (hm : G.mg "check_place" = some (.ref f)) (Fu : FunD G.K "check_place" "check_place" (defArgs st_check_place) (defBody st_check_place) (defScope st_check_place) [] [] f fd) : FnIs G "check_place" 2 2 F_check_place :=
  fn_is hm Fu sc_check_place (FunD.bindsN (ps := ["modulus", "place"]) Fu fun _ _ _ _ _ _ us hl => match us, hl with | [_, _], _ => rfl) (b_check_place B h_in_range h_InvalidPlace ) (fun _ _ _ h => h)
/-! ### divisors -/
abbrev st_divisors : Stmt := top 17
abbrev N_divisors : List Str := ["modulus", "result", "product", "order"]
def b1_divisors : SF := sSeq (sAug 2 dMulI (eBin dMax2 (eVar 3) (eC (.int 1))))
  (sApp 1 (eFn 2 F_greatest_divisor (aCons (eVar 2) (aCons (eVar 0) (aNil)))))
def t3_divisors : SF := sRet (eVar 1)
def t2_divisors : SF := sSeq (sFor [3] (gNm 3) (iRg1 (eVar 0)) (b1_divisors)) t3_divisors
def t1_divisors : SF := sSeq (sSet 2 (eC (.int 1))) t2_divisors
def g_divisors : SF := sSeq (sSetO 1 (eLst (aNil))) t1_divisors
def F_divisors : List Dt → Option Rs := runB 4 g_divisors
theorem sc_divisors : FnScope N_divisors ["modulus"] (defScope st_divisors) := ⟨rfl, rfl, rfl, by decide +kernel, rfl, by decide +kernel, by decide +kernel⟩
theorem b_divisors {G : Gc} (B : Bi G) (h_greatest_divisor : FnIs G "greatest_divisor" 1 2 F_greatest_divisor) : SB G N_divisors (defScope st_divisors) (fun _ => true) 1 (defBody st_divisors) g_divisors := by
  unfold g_divisors
  exact sb_cons (ss_setO (agL_of 1 (sl_lst (sa_nil))))
    (sb_cons (ss_set (ag_of 2 (se_int)))
    (sb_cons (ss_for (si_rg1 B (se_var 0)) (sg_nm 3) (sb_cons (ss_augMul 2 (se_max2 B (se_var 3) (se_int)))
    (sb_one (ss_app 1 (se_fn h_greatest_divisor (sa_cons (se_var 2) (sa_cons (se_var 0) (sa_nil))))))))
    (sb_one (ss_ret (se_var 1)))))
theorem fn_divisors {G : Gc} {f : Addr} {fd : FuncData} (B : Bi G) (h_greatest_divisor : FnIs G "greatest_divisor" 1 2 F_greatest_divisor) (hm : G.mg "divisors" = some (.ref f)) (Fu : FunD G.K "divisors" "divisors" (defArgs st_divisors) (defBody st_divisors) (defScope st_divisors) [] [] f fd) : FnIs G "divisors" 2 1 F_divisors :=
  fn_is hm Fu sc_divisors (FunD.bindsN (ps := ["modulus"]) Fu fun _ _ _ _ _ _ us hl => match us, hl with | [_], _ => rfl) (b_divisors B h_greatest_divisor ) (fun _ _ _ h => h)
/-! ### _law_row -/
abbrev st__law_row : Stmt := top 30
abbrev N__law_row : List Str := ["script", "at", "cell", "found", "time"]
def b1__law_row : SF := sIf (eBin dLt (eFn 2 F__law_cell (aCons (eVar 0) (aCons (eVar 1) (aNil)))) (eBin dPow (eC (.int 10)) (eC (.int 18)))) (sSeq (sSet 2 (eBin dMod (eBin dAdd (eBin dAdd (eBin dAdd (eBin dMul (eVar 2) (eC (.int 48271))) (eBin dMul (eC (.int 131)) (eVar 4))) (eC (.int 7))) (eFn 2 F__law_cell (aCons (eVar 0) (aCons (eBin dMod (eBin dAdd (eBin dAdd (eVar 1) (eC (.int 1))) (eVar 4)) (eC (.int 20))) (aNil))))) (eC (.int 2147483647))))
  (sApp 3 (eBin dMod (eBin dDiv (eVar 2) (eC (.int 11))) (eC (.int 1000))))) (sSeq (sApp 3 (eBin dMod (eVar 2) (eC (.int 1000))))
  (sSet 2 (eBin dDiv (eVar 2) (eC (.int 1000)))))
def t3__law_row : SF := sRet (eVar 3)
def t2__law_row : SF := sSeq (sFor [4] (gNm 4) (iRg1 (eC (.int 60))) (b1__law_row)) t3__law_row
def t1__law_row : SF := sSeq (sSetO 3 (eLst (aNil))) t2__law_row
def g__law_row : SF := sSeq (sSet 2 (eFn 2 F__law_cell (aCons (eVar 0) (aCons (eVar 1) (aNil))))) t1__law_row
def F__law_row : List Dt → Option Rs := runB 5 g__law_row
theorem sc__law_row : FnScope N__law_row ["script", "at"] (defScope st__law_row) := ⟨rfl, rfl, rfl, by decide +kernel, rfl, by decide +kernel, by decide +kernel⟩
theorem b__law_row {G : Gc} (B : Bi G) (h__law_cell : FnIs G "_law_cell" 1 2 F__law_cell) : SB G N__law_row (defScope st__law_row) (fun _ => true) 1 (defBody st__law_row) g__law_row := by
  unfold g__law_row
  exact sb_cons (ss_set (ag_of 2 (se_fn h__law_cell (sa_cons (se_var 0) (sa_cons (se_var 1) (sa_nil))))))
    (sb_cons (ss_setO (agL_of 3 (sl_lst (sa_nil))))
    (sb_cons (ss_for (si_rg1 B (se_int)) (sg_nm 4) (sb_one (ss_if (st_lt (se_fn h__law_cell (sa_cons (se_var 0) (sa_cons (se_var 1) (sa_nil)))) (se_pow (se_int) (se_int))) (sb_cons (ss_set (ag_of 2 (se_mod (se_add (se_add (se_add (se_mul (se_var 2) (se_int)) (se_mul (se_int) (se_var 4))) (se_int)) (se_fn h__law_cell (sa_cons (se_var 0) (sa_cons (se_mod (se_add (se_add (se_var 1) (se_int)) (se_var 4)) (se_int)) (sa_nil))))) (se_int))))
    (sb_one (ss_app 3 (se_mod (se_div (se_var 2) (se_int)) (se_int))))) (sb_cons (ss_app 3 (se_mod (se_var 2) (se_int)))
    (sb_one (ss_set (ag_of 2 (se_div (se_var 2) (se_int)))))))))
    (sb_one (ss_ret (se_var 3)))))
theorem fn__law_row {G : Gc} {f : Addr} {fd : FuncData} (B : Bi G) (h__law_cell : FnIs G "_law_cell" 1 2 F__law_cell) (hm : G.mg "_law_row" = some (.ref f)) (Fu : FunD G.K "_law_row" "_law_row" (defArgs st__law_row) (defBody st__law_row) (defScope st__law_row) [] [] f fd) : FnIs G "_law_row" 2 2 F__law_row :=
  fn_is hm Fu sc__law_row (FunD.bindsN (ps := ["script", "at"]) Fu fun _ _ _ _ _ _ us hl => match us, hl with | [_, _], _ => rfl) (b__law_row B h__law_cell ) (fun _ _ _ h => h)
/-! ### _law_table -/
abbrev st__law_table : Stmt := top 33
abbrev N__law_table : List Str := ["modulus", "numbers", "place"]
def g__law_table : SF := sRet (eUn dTuple (eLc [2] (gNm 2) (iRg1 (eVar 0)) (eC (.bool true)) (eFn 3 F__law_value (aCons (eVar 0) (aCons (eVar 1) (aCons (eVar 2) (aNil)))))))
def F__law_table : List Dt → Option Rs := runB 3 g__law_table
theorem sc__law_table : FnScope N__law_table ["modulus", "numbers"] (defScope st__law_table) := ⟨rfl, rfl, rfl, by decide +kernel, rfl, by decide +kernel, by decide +kernel⟩
theorem b__law_table {G : Gc} (B : Bi G) (h__law_value : FnIs G "_law_value" 1 3 F__law_value) : SB G N__law_table (defScope st__law_table) (fun _ => true) 1 (defBody st__law_table) g__law_table := by
  unfold g__law_table
  exact sb_one (ss_ret (se_tuple B (se_lc (own := [("place", 2)]) (si_rg1 B (se_var 0)) (by decide +kernel) (sg_nm 2) (sts_nil) (se_fn h__law_value (sa_cons (se_var 0) (sa_cons (se_var 1) (sa_cons (se_var 2) (sa_nil))))))))
theorem fn__law_table {G : Gc} {f : Addr} {fd : FuncData} (B : Bi G) (h__law_value : FnIs G "_law_value" 1 3 F__law_value) (hm : G.mg "_law_table" = some (.ref f)) (Fu : FunD G.K "_law_table" "_law_table" (defArgs st__law_table) (defBody st__law_table) (defScope st__law_table) [] [] f fd) : FnIs G "_law_table" 2 2 F__law_table :=
  fn_is hm Fu sc__law_table (FunD.bindsN (ps := ["modulus", "numbers"]) Fu fun _ _ _ _ _ _ us hl => match us, hl with | [_, _], _ => rfl) (b__law_table B h__law_value ) (fun _ _ _ h => h)
/-! ### check_table -/
abbrev st_check_table : Stmt := top 13
abbrev N_check_table : List Str := ["modulus", "table"]
def t1_check_table : SF := sIf (eNot (eFn 2 F_is_valid_table (aCons (eVar 0) (aCons (eVar 1) (aNil))))) (sRaise "InvalidTable") (sNop)
def g_check_table : SF := sSeq (sDo (eFn 1 F_check_modulus (aCons (eVar 0) (aNil)))) t1_check_table
def F_check_table : List Dt → Option Rs := runB 2 g_check_table
theorem sc_check_table : FnScope N_check_table ["modulus", "table"] (defScope st_check_table) := ⟨rfl, rfl, rfl, by decide +kernel, rfl, by decide +kernel, by decide +kernel⟩
theorem b_check_table {G : Gc} (B : Bi G) (h_check_modulus : FnIs G "check_modulus" 2 1 F_check_modulus) (h_is_valid_table : FnIs G "is_valid_table" 2 2 F_is_valid_table) (h_InvalidTable : ExcC G "InvalidTable") : SB G N_check_table (defScope st_check_table) (fun _ => true) 2 (defBody st_check_table) g_check_table := by
  unfold g_check_table
  exact sb_cons (ss_do (se_fn h_check_modulus (sa_cons (se_var 0) (sa_nil))))
    (sb_one (ss_if (st_not (st_val (se_fn h_is_valid_table (sa_cons (se_var 0) (sa_cons (se_var 1) (sa_nil)))))) (sb_one (ss_raise h_InvalidTable)) (sb_nil)))
theorem fn_check_table {G : Gc} {f : Addr} {fd : FuncData} (B : Bi G) (h_check_modulus : FnIs G "check_modulus" 2 1 F_check_modulus) (h_is_valid_table : FnIs G "is_valid_table" 2 2 F_is_valid_table) (h_InvalidTable : ExcC G "InvalidTable") (hm : G.mg "check_table" = some (.ref f)) (Fu : FunD G.K "check_table" "check_table" (defArgs st_check_table) (defBody st_check_table) (defScope st_check_table) [] [] f fd) : FnIs G "check_table" 3 2 F_check_table :=
  fn_is hm Fu sc_check_table (FunD.bindsN (ps := ["modulus", "table"]) Fu fun _ _ _ _ _ _ us hl => match us, hl with | [_, _], _ => rfl) (b_check_table B h_check_modulus h_is_valid_table h_InvalidTable ) (fun _ _ _ h => h)
/-! ### first_fault -/
abbrev st_first_fault : Stmt := top 19
abbrev N_first_fault : List Str := ["modulus", "table", "order", "difference", "divisor"]
def b1_first_fault : SF := sIf (eBin dNe (eBin dMod (eVar 3) (eVar 4)) (eC (.int 0))) (sRet (eVar 2)) (sNop)
def t1_first_fault : SF := sRet (eC .none)
def g_first_fault : SF := sSeq (sFor [2, 3, 4] (gPr (gNm 2) (gPr (gNm 3) (gNm 4))) (iEnumZip (eFn 3 F_difference_row (aCons (eVar 0) (aCons (eVar 1) (aCons (eC (.int 0)) (aNil))))) (eFn 1 F_divisors (aCons (eVar 0) (aNil)))) (b1_first_fault)) t1_first_fault
def F_first_fault : List Dt → Option Rs := runB 5 g_first_fault
theorem sc_first_fault : FnScope N_first_fault ["modulus", "table"] (defScope st_first_fault) := ⟨rfl, rfl, rfl, by decide +kernel, rfl, by decide +kernel, by decide +kernel⟩
theorem b_first_fault {G : Gc} (B : Bi G) (h_difference_row : FnIs G "difference_row" 1 3 F_difference_row) (h_divisors : FnIs G "divisors" 2 1 F_divisors) : SB G N_first_fault (defScope st_first_fault) (fun _ => true) 2 (defBody st_first_fault) g_first_fault := by
  unfold g_first_fault
  exact sb_cons (ss_for (si_enumZip B (se_fn h_difference_row (sa_cons (se_var 0) (sa_cons (se_var 1) (sa_cons (se_int) (sa_nil))))) (se_fn h_divisors (sa_cons (se_var 0) (sa_nil)))) (sg_prR (sg_nm 2) (sg_prR (sg_nm 3) (sg_nm 4))) (sb_one (ss_if (st_ne (se_mod (se_var 3) (se_var 4)) (se_int)) (sb_one (ss_ret (se_var 2))) (sb_nil))))
    (sb_one (ss_ret (se_non)))
theorem fn_first_fault {G : Gc} {f : Addr} {fd : FuncData} (B : Bi G) (h_difference_row : FnIs G "difference_row" 1 3 F_difference_row) (h_divisors : FnIs G "divisors" 2 1 F_divisors) (hm : G.mg "first_fault" = some (.ref f)) (Fu : FunD G.K "first_fault" "first_fault" (defArgs st_first_fault) (defBody st_first_fault) (defScope st_first_fault) [] [] f fd) : FnIs G "first_fault" 3 2 F_first_fault :=
  fn_is hm Fu sc_first_fault (FunD.bindsN (ps := ["modulus", "table"]) Fu fun _ _ _ _ _ _ us hl => match us, hl with | [_, _], _ => rfl) (b_first_fault B h_difference_row h_divisors ) (fun _ _ _ h => h)
/-! ### _law_numbers -/
abbrev st__law_numbers : Stmt := top 32
abbrev N__law_numbers : List Str := ["script", "at", "draws", "place"]
def t1__law_numbers : SF := sRet (eUn dTuple (eLc [3] (gNm 3) (iRg1 (eBin dMod (eBin dIx (eVar 2) (eC (.int 0))) (eC (.int 9)))) (eC (.bool true)) (eBin dSub (eBin dMod (eBin dIx (eVar 2) (eBin dAdd (eC (.int 1)) (eVar 3))) (eC (.int 41))) (eC (.int 20)))))
def g__law_numbers : SF := sSeq (sSet 2 (eFn 2 F__law_row (aCons (eVar 0) (aCons (eVar 1) (aNil))))) t1__law_numbers
def F__law_numbers : List Dt → Option Rs := runB 4 g__law_numbers
theorem sc__law_numbers : FnScope N__law_numbers ["script", "at"] (defScope st__law_numbers) := ⟨rfl, rfl, rfl, by decide +kernel, rfl, by decide +kernel, by decide +kernel⟩
theorem b__law_numbers {G : Gc} (B : Bi G) (h__law_row : FnIs G "_law_row" 2 2 F__law_row) : SB G N__law_numbers (defScope st__law_numbers) (fun _ => true) 2 (defBody st__law_numbers) g__law_numbers := by
  unfold g__law_numbers
  exact sb_cons (ss_set (ag_of 2 (se_fn h__law_row (sa_cons (se_var 0) (sa_cons (se_var 1) (sa_nil))))))
    (sb_one (ss_ret (se_tuple B (se_lc (own := [("place", 3)]) (si_rg1 B (se_mod (se_ix (se_var 2) (se_int)) (se_int))) (by decide +kernel) (sg_nm 3) (sts_nil) (se_sub (se_mod (se_ix (se_var 2) (se_add (se_int) (se_var 3))) (se_int)) (se_int))))))
theorem fn__law_numbers {G : Gc} {f : Addr} {fd : FuncData} (B : Bi G) (h__law_row : FnIs G "_law_row" 2 2 F__law_row) (hm : G.mg "_law_numbers" = some (.ref f)) (Fu : FunD G.K "_law_numbers" "_law_numbers" (defArgs st__law_numbers) (defBody st__law_numbers) (defScope st__law_numbers) [] [] f fd) : FnIs G "_law_numbers" 3 2 F__law_numbers :=
  fn_is hm Fu sc__law_numbers (FunD.bindsN (ps := ["script", "at"]) Fu fun _ _ _ _ _ _ us hl => match us, hl with | [_, _], _ => rfl) (b__law_numbers B h__law_row ) (fun _ _ _ h => h)
/-! ### Sheet.__init__ -/
abbrev st_sh___init__ : Stmt := mth (top 27) 0
theorem sc_sh___init__ : FnScope ["self", "modulus"] ["self", "modulus"] (defScope st_sh___init__) := ⟨rfl, rfl, rfl, by decide +kernel, rfl, by decide +kernel, by decide +kernel⟩
theorem ck_ok : ∀ m : Nat, 2 ≤ m → m ≤ 12 → F_check_modulus [.int (m : Int)] = some (.val .none) := by
  intro m h2 h12
  have : m = 2 ∨ m = 3 ∨ m = 4 ∨ m = 5 ∨ m = 6 ∨ m = 7 ∨ m = 8 ∨ m = 9 ∨ m = 10 ∨ m = 11 ∨ m = 12 := by omega
  rcases this with rfl | rfl | rfl | rfl | rfl | rfl | rfl | rfl | rfl | rfl | rfl <;> rfl
theorem sh_init {G : Gc} {f : Addr} {fd : FuncData} (B : Bi G) (S : ShX G.K) (h_check_modulus : FnIs G "check_modulus" 2 1 F_check_modulus) (Fu : FunD G.K "__init__" "Sheet.__init__" (defArgs st_sh___init__) (defBody st_sh___init__) (defScope st_sh___init__) [] [] f fd) : FnOk G.P G.w G.K G.mg G.base (L2.CX G.P G.w) 3 f fd ["self", "modulus"] (spI G.K) := by
  refine Fu.ok sc_sh___init__ (fun vs H Q E h => by obtain ⟨x, dx, m, rfl, _⟩ := h; rfl) fun cdv A outer s H vs Q E hr h => ?_
  have C : Ctx G ["self", "modulus"] (defScope st_sh___init__) (fun _ => true) 2 (cxOf (L2.CX G.P G.w) G.P G.w G.K G.mg G.base ["self", "modulus"] "Sheet.__init__" (defScope st_sh___init__) f cdv A outer s H E) := ⟨rfl, rfl, rfl, rfl, rfl, rfl, sc_sh___init__.nd, rfl, rfl, rfl, hr⟩
  have T : TopX (cxOf (L2.CX G.P G.w) G.P G.w G.K G.mg G.base ["self", "modulus"] "Sheet.__init__" (defScope st_sh___init__) f cdv A outer s H E) := ⟨rfl, rfl⟩
  have tk : Takes (cxOf (L2.CX G.P G.w) G.P G.w G.K G.mg G.base ["self", "modulus"] "Sheet.__init__" (defScope st_sh___init__) f cdv A outer s H E) (fun cls d _ H => E cls d H) := takes_of (E := E) rfl rfl rfl rfl
  have hp := passes_of (X := cxOf (L2.CX G.P G.w) G.P G.w G.K G.mg G.base ["self", "modulus"] "Sheet.__init__" (defScope st_sh___init__) f cdv A outer s H E) rfl
  exact ⟨_, pss_cons (ps_expr (runE C tk true (se_fn h_check_modulus (sa_cons (se_var 1) sa_nil)))) (pss_cons (ps_fld (pe_var (i := 0) rfl (Or.inl rfl)) (pe_var (i := 1) rfl (Or.inl rfl)) rfl) (pss_cons (ps_fld (pe_var (i := 0) rfl (Or.inl rfl)) (runL C tk (sl_mul (se_lst (sa_cons se_non sa_nil)) (se_var 1))) rfl) (pss_one (ps_fld (pe_var (i := 0) rfl (Or.inl rfl)) (runL C tk (sl_lst sa_nil)) rfl)))), init_sem (F := F_check_modulus) B.sht S ck_ok h⟩
theorem sh_new {G : Gc} {fd : FuncData} (B : Bi G) (S : ShX G.K) (h_check_modulus : FnIs G "check_modulus" 2 1 F_check_modulus) (hM : Mk G.K (He.ga G.K "Sheet") (He.ma G.K (He.ga G.K "Sheet") "__init__")) (hm : G.mg "Sheet" = some (.ref (He.ga G.K "Sheet"))) (Fu : FunD G.K "__init__" "Sheet.__init__" (defArgs st_sh___init__) (defBody st_sh___init__) (defScope st_sh___init__) [] [] (He.ma G.K (He.ga G.K "Sheet") "__init__") fd) : NewS G 3 :=
  ⟨_, fd, hM, FunD.bindsN (ps := ["self", "modulus"]) Fu fun _ _ _ _ _ _ us hl => match us, hl with | [_, _], _ => rfl, sh_init B S h_check_modulus Fu, hm⟩
/-! ### Sheet.enter -/
abbrev st_sh_enter : Stmt := mth (top 27) 5
theorem sc_sh_enter : FnScope ["self", "place", "value", "old"] ["self", "place", "value"] (defScope st_sh_enter) := ⟨rfl, rfl, rfl, by decide +kernel, rfl, by decide +kernel, by decide +kernel⟩
abbrev fx_enter : FX := fxEnter F_check_place F_in_range
theorem x_enter {G : Gc} {f : Addr} {fd : FuncData} (B : Bi G) (S : ShX G.K) (h_check_place : FnIs G "check_place" 2 2 F_check_place) (h_in_range : FnIs G "in_range" 1 3 F_in_range) (h_InvalidValue : ExcC G "InvalidValue") (hm : Meth G.K (He.ga G.K "Sheet") "enter" f) (Fu : FunD G.K "enter" "Sheet.enter" (defArgs st_sh_enter) (defBody st_sh_enter) (defScope st_sh_enter) [] [] f fd) : MtX G "enter" 3 3 fx_enter := by
  refine ⟨f, fd, ["self", "place", "value"], hm, FunD.bindsN (ps := ["self", "place", "value"]) Fu fun _ _ _ _ _ _ us hl => match us, hl with | [_, _, _], _ => rfl, rfl, ?_⟩
  refine Fu.ok sc_sh_enter (fun vs H Q E h => h.1) fun cdv A outer s H vs Q E hr h => ?_
  have C : Ctx G ["self", "place", "value", "old"] (defScope st_sh_enter) (fun _ => true) 2 (cxOf (L2.CX G.P G.w) G.P G.w G.K G.mg G.base ["self", "place", "value", "old"] "Sheet.enter" (defScope st_sh_enter) f cdv A outer s H E) := ⟨rfl, rfl, rfl, rfl, rfl, rfl, sc_sh_enter.nd, rfl, rfl, rfl, hr⟩
  have T : TopX (cxOf (L2.CX G.P G.w) G.P G.w G.K G.mg G.base ["self", "place", "value", "old"] "Sheet.enter" (defScope st_sh_enter) f cdv A outer s H E) := ⟨rfl, rfl⟩
  have tk : Takes (cxOf (L2.CX G.P G.w) G.P G.w G.K G.mg G.base ["self", "place", "value", "old"] "Sheet.enter" (defScope st_sh_enter) f cdv A outer s H E) (fun cls d _ H => E cls d H) := takes_of (E := E) rfl rfl rfl rfl
  have hp := passes_of (X := cxOf (L2.CX G.P G.w) G.P G.w G.K G.mg G.base ["self", "place", "value", "old"] "Sheet.enter" (defScope st_sh_enter) f cdv A outer s H E) rfl
  exact ⟨_, pss_cons (ps_expr (runE C tk true (se_fn h_check_place (sa_cons (se_mdl B S (se_var 0)) (sa_cons (se_var 1) sa_nil))))) (pss_cons (ps_if (runT C tk (st_not (st_val (se_fn h_in_range (sa_cons (se_var 2) (sa_cons se_int (sa_cons (se_sub (se_mdl B S (se_var 0)) se_int) sa_nil))))))) (pss_one (runS C T tk hp (ss_raise h_InvalidValue))) pss_nil)
    (pss_cons (runA C tk (ag_of 3 (se_ix (se_ent B S (se_var 0)) (se_var 1)))) (pss_cons (ps_asg (pe_var (i := 2) rfl (Or.inl rfl)) (pg_sub (pe_fld (pe_var (i := 0) rfl (Or.inl rfl)) rfl) (pe_var (i := 1) rfl (Or.inl rfl)) set_list)) (pss_cons (ps_expr (pe_bm PySem.F.plainAttrs_list PySem.F.slot_list_append PySem.F.type_list_append mt_append (pe_fld (pe_var (i := 0) rfl (Or.inl rfl)) rfl) (pa_cons (pe_tupF (pa_cons (pe_var (i := 1) rfl (Or.inl rfl)) (pa_cons (pe_var (i := 3) rfl (Or.inl rfl)) pa_nil))) pa_nil))) (pss_one (ps_ret (pe_var (i := 3) rfl (Or.inl rfl)))))))), enter_sem B.sht S h⟩
/-! ### Sheet.undo -/
abbrev st_sh_undo : Stmt := mth (top 27) 7
theorem sc_sh_undo : FnScope ["self", "place", "old"] ["self"] (defScope st_sh_undo) := ⟨rfl, rfl, rfl, by decide +kernel, rfl, by decide +kernel, by decide +kernel⟩
abbrev fx_undo : FX := fxUndo
theorem x_undo {G : Gc} {f : Addr} {fd : FuncData} (B : Bi G) (S : ShX G.K) (h_NothingToUndo : ExcC G "NothingToUndo") (hm : Meth G.K (He.ga G.K "Sheet") "undo" f) (Fu : FunD G.K "undo" "Sheet.undo" (defArgs st_sh_undo) (defBody st_sh_undo) (defScope st_sh_undo) [] [] f fd) : MtX G "undo" 1 1 fx_undo := by
  refine ⟨f, fd, ["self"], hm, FunD.bindsN (ps := ["self"]) Fu fun _ _ _ _ _ _ us hl => match us, hl with | [_], _ => rfl, rfl, ?_⟩
  refine Fu.ok sc_sh_undo (fun vs H Q E h => h.1) fun cdv A outer s H vs Q E hr h => ?_
  have C : Ctx G ["self", "place", "old"] (defScope st_sh_undo) (fun _ => true) 0 (cxOf (L2.CX G.P G.w) G.P G.w G.K G.mg G.base ["self", "place", "old"] "Sheet.undo" (defScope st_sh_undo) f cdv A outer s H E) := ⟨rfl, rfl, rfl, rfl, rfl, rfl, sc_sh_undo.nd, rfl, rfl, rfl, hr⟩
  have T : TopX (cxOf (L2.CX G.P G.w) G.P G.w G.K G.mg G.base ["self", "place", "old"] "Sheet.undo" (defScope st_sh_undo) f cdv A outer s H E) := ⟨rfl, rfl⟩
  have tk : Takes (cxOf (L2.CX G.P G.w) G.P G.w G.K G.mg G.base ["self", "place", "old"] "Sheet.undo" (defScope st_sh_undo) f cdv A outer s H E) (fun cls d _ H => E cls d H) := takes_of (E := E) rfl rfl rfl rfl
  have hp := passes_of (X := cxOf (L2.CX G.P G.w) G.P G.w G.K G.mg G.base ["self", "place", "old"] "Sheet.undo" (defScope st_sh_undo) f cdv A outer s H E) rfl
  exact ⟨_, pss_cons (ps_if (runT C tk (st_not (st_val (se_his B S (se_var 0))))) (pss_one (runS C T tk hp (ss_raise h_NothingToUndo))) pss_nil)
    (pss_cons (ps_asg (pe_bm0 PySem.F.plainAttrs_list PySem.F.slot_list_pop PySem.F.type_list_pop mt_pop (pe_fld (pe_var (i := 0) rfl (Or.inl rfl)) rfl)) (pg_tup rfl (pgs_cons (pg_name sc_sh_undo.nd (i := 1) rfl (Or.inl rfl)) (pgs_cons (pg_name sc_sh_undo.nd (i := 2) rfl (Or.inl rfl)) pgs_nil)))) (pss_cons (ps_asg (pe_var (i := 2) rfl (Or.inl rfl)) (pg_sub (pe_fld (pe_var (i := 0) rfl (Or.inl rfl)) rfl) (pe_var (i := 1) rfl (Or.inl rfl)) set_list)) (pss_one (ps_ret (pe_var (i := 1) rfl (Or.inl rfl)))))), undo_sem B.sht S h⟩
/-! ### Sheet.duplicate -/
abbrev st_sh_duplicate : Stmt := mth (top 27) 8
theorem sc_sh_duplicate : FnScope ["self", "result"] ["self"] (defScope st_sh_duplicate) := ⟨rfl, rfl, rfl, by decide +kernel, rfl, by decide +kernel, by decide +kernel⟩
theorem x_dup {G : Gc} {f : Addr} {fd : FuncData} (B : Bi G) (S : ShX G.K) (h_sh_new : NewS G 3) (hm : Meth G.K (He.ga G.K "Sheet") "duplicate" f) (Fu : FunD G.K "duplicate" "Sheet.duplicate" (defArgs st_sh_duplicate) (defBody st_sh_duplicate) (defScope st_sh_duplicate) [] [] f fd) : MtD G 5 := by
  refine ⟨f, fd, ["self"], hm, FunD.bindsN (ps := ["self"]) Fu fun _ _ _ _ _ _ us hl => match us, hl with | [_], _ => rfl, ?_⟩
  refine Fu.ok sc_sh_duplicate (fun vs H Q E h => by obtain ⟨a, e, h, m, es, hs, O, rfl, _⟩ := h; rfl) fun cdv A outer s H vs Q E hr h => ?_
  have C : Ctx G ["self", "result"] (defScope st_sh_duplicate) (fun _ => true) 4 (cxOf (L2.CX G.P G.w) G.P G.w G.K G.mg G.base ["self", "result"] "Sheet.duplicate" (defScope st_sh_duplicate) f cdv A outer s H E) := ⟨rfl, rfl, rfl, rfl, rfl, rfl, sc_sh_duplicate.nd, rfl, rfl, rfl, hr⟩
  have T : TopX (cxOf (L2.CX G.P G.w) G.P G.w G.K G.mg G.base ["self", "result"] "Sheet.duplicate" (defScope st_sh_duplicate) f cdv A outer s H E) := ⟨rfl, rfl⟩
  have tk : Takes (cxOf (L2.CX G.P G.w) G.P G.w G.K G.mg G.base ["self", "result"] "Sheet.duplicate" (defScope st_sh_duplicate) f cdv A outer s H E) (fun cls d _ H => E cls d H) := takes_of (E := E) rfl rfl rfl rfl
  have hp := passes_of (X := cxOf (L2.CX G.P G.w) G.P G.w G.K G.mg G.base ["self", "result"] "Sheet.duplicate" (defScope st_sh_duplicate) f cdv A outer s H E) rfl
  exact ⟨_, pss_cons (ps_set sc_sh_duplicate.nd (i := 1) rfl (Or.inl rfl) (pe_newS h_sh_new C tk (se_mdl B S (se_var 0)) (by decide) rfl (by intro _ _; rfl)) rfl (.inl rfl)) (pss_cons (ps_fld (pe_var (i := 1) rfl (Or.inl rfl)) (runL C tk (sl_list B (se_ent B S (se_var 0)))) rfl) (pss_one (ps_ret (pe_var (i := 1) rfl (Or.inl rfl))))), dup_sem B.sht S h⟩
/-! ### m_state -/
abbrev st_m_state : Stmt := mth (top 27) 4
abbrev N_m_state : List Str := ["self"]
def g_m_state : SF := sRet (eUn dTuple (eFl dEnt (eVar 0)))
def F_m_state : List Dt → Option Rs := runB 1 g_m_state
theorem sc_m_state : FnScope N_m_state ["self"] (defScope st_m_state) := ⟨rfl, rfl, rfl, by decide +kernel, rfl, by decide +kernel, by decide +kernel⟩
theorem b_m_state {G : Gc} (B : Bi G) (S : ShX G.K) : SB G N_m_state (defScope st_m_state) (fun _ => true) 0 (defBody st_m_state) g_m_state := by
  unfold g_m_state
  exact sb_one (ss_ret (se_tuple B (se_ent B S (se_var 0))))
theorem mt_state {G : Gc} {f : Addr} {fd : FuncData} (B : Bi G) (S : ShX G.K) (hm : Meth G.K (He.ga G.K "Sheet") "state" f) (Fu : FunD G.K "state" "Sheet.state" (defArgs st_m_state) (defBody st_m_state) (defScope st_m_state) [] [] f fd) : MtIs G "state" 1 1 F_m_state :=
  mt_is hm Fu sc_m_state (FunD.bindsN (ps := ["self"]) Fu fun _ _ _ _ _ _ us hl => match us, hl with | [_], _ => rfl) (b_m_state B S ) (fun _ _ _ h => h)
/-! ### m___len__ -/
abbrev st_m___len__ : Stmt := mth (top 27) 1
abbrev N_m___len__ : List Str := ["self", "value"]
def g_m___len__ : SF := sRet (eUn dLen (eLc [1] (gNm 1) (iSeq (eFl dEnt (eVar 0))) (eBin dNotN (eVar 1) (eC .none)) (eVar 1)))
def F_m___len__ : List Dt → Option Rs := runB 2 g_m___len__
theorem sc_m___len__ : FnScope N_m___len__ ["self"] (defScope st_m___len__) := ⟨rfl, rfl, rfl, by decide +kernel, rfl, by decide +kernel, by decide +kernel⟩
theorem b_m___len__ {G : Gc} (B : Bi G) (S : ShX G.K) : SB G N_m___len__ (defScope st_m___len__) (fun _ => true) 0 (defBody st_m___len__) g_m___len__ := by
  unfold g_m___len__
  exact sb_one (ss_ret (se_len B (se_lc (own := [("value", 1)]) (si_seq (se_ent B S (se_var 0))) (by decide +kernel) (sg_nm 1) (sts_one (st_notN (se_var 1) (se_non))) (se_var 1))))
theorem mt___len__ {G : Gc} {f : Addr} {fd : FuncData} (B : Bi G) (S : ShX G.K) (hm : Meth G.K (He.ga G.K "Sheet") "__len__" f) (Fu : FunD G.K "__len__" "Sheet.__len__" (defArgs st_m___len__) (defBody st_m___len__) (defScope st_m___len__) [] [] f fd) : ShS G "__len__" 1 1 F_m___len__ :=
  sh_is hm Fu sc_m___len__ (FunD.bindsN (ps := ["self"]) Fu fun _ _ _ _ _ _ us hl => match us, hl with | [_], _ => rfl) (b_m___len__ B S ) (fun _ _ _ h => h)
/-! ### m___str__ -/
abbrev st_m___str__ : Stmt := mth (top 27) 2
abbrev N_m___str__ : List Str := ["self", "value"]
def g_m___str__ : SF := sRet (eUn dStrS (eMeth isStr dJoin (eC (.str ",")) (eLc [1] (gNm 1) (iSeq (eFl dEnt (eVar 0))) (eC (.bool true)) (eIf (eBin dIsN (eVar 1) (eC .none)) (eC (.str "?")) (eUn dStr (eVar 1))))))
def F_m___str__ : List Dt → Option Rs := runB 2 g_m___str__
theorem sc_m___str__ : FnScope N_m___str__ ["self"] (defScope st_m___str__) := ⟨rfl, rfl, rfl, by decide +kernel, rfl, by decide +kernel, by decide +kernel⟩
theorem b_m___str__ {G : Gc} (B : Bi G) (S : ShX G.K) : SB G N_m___str__ (defScope st_m___str__) (fun _ => true) 0 (defBody st_m___str__) g_m___str__ := by
  unfold g_m___str__
  exact sb_one (ss_ret (se_strStr B (se_join (se_str) (se_lc (own := [("value", 1)]) (si_seq (se_ent B S (se_var 0))) (by decide +kernel) (sg_nm 1) (sts_nil) (se_if (st_isN (se_var 1) (se_non)) (se_str) (se_strC B (se_var 1)))))))
theorem mt___str__ {G : Gc} {f : Addr} {fd : FuncData} (B : Bi G) (S : ShX G.K) (hm : Meth G.K (He.ga G.K "Sheet") "__str__" f) (Fu : FunD G.K "__str__" "Sheet.__str__" (defArgs st_m___str__) (defBody st_m___str__) (defScope st_m___str__) [] [] f fd) : ShS G "__str__" 1 1 F_m___str__ :=
  sh_is hm Fu sc_m___str__ (FunD.bindsN (ps := ["self"]) Fu fun _ _ _ _ _ _ us hl => match us, hl with | [_], _ => rfl) (b_m___str__ B S ) (fun _ _ _ h => h)
/-! ### m___eq__ -/
abbrev st_m___eq__ : Stmt := mth (top 27) 3
abbrev N_m___eq__ : List Str := ["self", "other"]
def t1_m___eq__ : SF := sRet (eBin dEq (eMt0 F_m_state (eVar 0)) (eMt0 F_m_state (eVar 1)))
def g_m___eq__ : SF := sSeq (sIf (eNot (eIsS (eVar 1))) (sRet (eC (.bool false))) (sNop)) t1_m___eq__
def F_m___eq__ : List Dt → Option Rs := runB 2 g_m___eq__
theorem sc_m___eq__ : FnScope N_m___eq__ ["self", "other"] (defScope st_m___eq__) := ⟨rfl, rfl, rfl, by decide +kernel, rfl, by decide +kernel, by decide +kernel⟩
theorem b_m___eq__ {G : Gc} (B : Bi G) (S : ShX G.K) (h_mt_state : MtIs G "state" 1 1 F_m_state) (hmS : G.mg "Sheet" = some (.ref (He.ga G.K "Sheet"))) : SB G N_m___eq__ (defScope st_m___eq__) (fun _ => true) 1 (defBody st_m___eq__) g_m___eq__ := by
  unfold g_m___eq__
  exact sb_cons (ss_if (st_not (st_val (se_isS B S hmS (se_var 1)))) (sb_one (ss_ret (se_bl))) (sb_nil))
    (sb_one (ss_ret (se_eq (se_mt0 B h_mt_state (se_var 0)) (se_mt0 B h_mt_state (se_var 1)))))
theorem mt___eq__ {G : Gc} {f : Addr} {fd : FuncData} (B : Bi G) (S : ShX G.K) (h_mt_state : MtIs G "state" 1 1 F_m_state) (hmS : G.mg "Sheet" = some (.ref (He.ga G.K "Sheet"))) (hm : Meth G.K (He.ga G.K "Sheet") "__eq__" f) (Fu : FunD G.K "__eq__" "Sheet.__eq__" (defArgs st_m___eq__) (defBody st_m___eq__) (defScope st_m___eq__) [] [] f fd) : ShS G "__eq__" 2 2 F_m___eq__ :=
  sh_is hm Fu sc_m___eq__ (FunD.bindsN (ps := ["self", "other"]) Fu fun _ _ _ _ _ _ us hl => match us, hl with | [_, _], _ => rfl) (b_m___eq__ B S h_mt_state hmS ) (fun _ _ _ h => h)
/-! ### is_polynomial -/
abbrev st_is_polynomial : Stmt := top 20
abbrev N_is_polynomial : List Str := ["modulus", "table"]
def t1_is_polynomial : SF := sRet (eBin dIsN (eFn 2 F_first_fault (aCons (eVar 0) (aCons (eVar 1) (aNil)))) (eC .none))
def g_is_polynomial : SF := sSeq (sDo (eFn 2 F_check_table (aCons (eVar 0) (aCons (eVar 1) (aNil))))) t1_is_polynomial
def F_is_polynomial : List Dt → Option Rs := runB 2 g_is_polynomial
theorem sc_is_polynomial : FnScope N_is_polynomial ["modulus", "table"] (defScope st_is_polynomial) := ⟨rfl, rfl, rfl, by decide +kernel, rfl, by decide +kernel, by decide +kernel⟩
theorem b_is_polynomial {G : Gc} (B : Bi G) (h_check_table : FnIs G "check_table" 3 2 F_check_table) (h_first_fault : FnIs G "first_fault" 3 2 F_first_fault) : SB G N_is_polynomial (defScope st_is_polynomial) (fun _ => true) 3 (defBody st_is_polynomial) g_is_polynomial := by
  unfold g_is_polynomial
  exact sb_cons (ss_do (se_fn h_check_table (sa_cons (se_var 0) (sa_cons (se_var 1) (sa_nil)))))
    (sb_one (ss_ret (se_isN (se_fn h_first_fault (sa_cons (se_var 0) (sa_cons (se_var 1) (sa_nil)))) (se_non))))
theorem fn_is_polynomial {G : Gc} {f : Addr} {fd : FuncData} (B : Bi G) (h_check_table : FnIs G "check_table" 3 2 F_check_table) (h_first_fault : FnIs G "first_fault" 3 2 F_first_fault) (hm : G.mg "is_polynomial" = some (.ref f)) (Fu : FunD G.K "is_polynomial" "is_polynomial" (defArgs st_is_polynomial) (defBody st_is_polynomial) (defScope st_is_polynomial) [] [] f fd) : FnIs G "is_polynomial" 4 2 F_is_polynomial :=
  fn_is hm Fu sc_is_polynomial (FunD.bindsN (ps := ["modulus", "table"]) Fu fun _ _ _ _ _ _ us hl => match us, hl with | [_, _], _ => rfl) (b_is_polynomial B h_check_table h_first_fault ) (fun _ _ _ h => h)
/-! ### completions -/
abbrev st_completions : Stmt := top 25
abbrev N_completions : List Str := ["modulus", "table", "many", "one", "every", "numbers"]
def b1_completions : SF := sAug 2 dMulI (eIf (eBin dIsN (eVar 3) (eC .none)) (eVar 0) (eC (.int 1)))
def t6_completions : SF := sRet (eUn dSorted (eLc [3] (gNm 3) (iSeq (eVar 4)) (eBin dIsN (eFn 2 F_first_fault (aCons (eVar 0) (aCons (eVar 3) (aNil)))) (eC .none)) (eVar 3)))
def t5_completions : SF := sSeq (sSet 4 (eLc [5] (gNm 5) (iSeq (eFn 1 F_tuples (aCons (eBin dMul (eLst (aCons (eVar 0) (aNil))) (eMeth isT dTcn (eVar 1) (eC .none))) (aNil)))) (eC (.bool true)) (eFn 2 F_filled (aCons (eVar 1) (aCons (eVar 5) (aNil)))))) t6_completions
def t4_completions : SF := sSeq (sIf (eBin dGt (eVar 2) (eC (.int 1000))) (sRaise "TooMany") (sNop)) t5_completions
def t3_completions : SF := sSeq (sFor [3] (gNm 3) (iSeq (eVar 1)) (b1_completions)) t4_completions
def t2_completions : SF := sSeq (sSet 2 (eC (.int 1))) t3_completions
def t1_completions : SF := sSeq (sIf (eOrT (eNot (eIsi "tuple" (eVar 1))) (eNot (eFn 2 F_is_valid_table (aCons (eVar 0) (aCons (eUn dTuple (eLc [3] (gNm 3) (iSeq (eVar 1)) (eC (.bool true)) (eIf (eBin dIsN (eVar 3) (eC .none)) (eC (.int 0)) (eVar 3)))) (aNil)))))) (sRaise "InvalidTable") (sNop)) t2_completions
def g_completions : SF := sSeq (sDo (eFn 1 F_check_modulus (aCons (eVar 0) (aNil)))) t1_completions
def F_completions : List Dt → Option Rs := runB 6 g_completions
theorem sc_completions : FnScope N_completions ["modulus", "table"] (defScope st_completions) := ⟨rfl, rfl, rfl, by decide +kernel, rfl, by decide +kernel, by decide +kernel⟩
theorem b_completions {G : Gc} (B : Bi G) (h_check_modulus : FnIs G "check_modulus" 2 1 F_check_modulus) (h_is_valid_table : FnIs G "is_valid_table" 2 2 F_is_valid_table) (h_tuples : FnIs G "tuples" 1 1 F_tuples) (h_filled : FnIs G "filled" 1 2 F_filled) (h_first_fault : FnIs G "first_fault" 3 2 F_first_fault) (h_MAX_FILLED : ∃ t, G.mg "MAX_FILLED" = some (.int 1000 t)) (h_InvalidTable : ExcC G "InvalidTable") (h_TooMany : ExcC G "TooMany") : SB G N_completions (defScope st_completions) (fun _ => true) 3 (defBody st_completions) g_completions := by
  unfold g_completions
  exact sb_cons (ss_do (se_fn h_check_modulus (sa_cons (se_var 0) (sa_nil))))
    (sb_cons (ss_if (st_w (sw_or (st_not (st_val (se_isi B kit_tuple (se_var 1) B.tuple PyProof.Rows.boot_tuple))) (sw_or1 (st_not (st_val (se_fn h_is_valid_table (sa_cons (se_var 0) (sa_cons (se_tuple B (se_lc (own := [("one", 3)]) (si_seq (se_var 1)) (by decide +kernel) (sg_nm 3) (sts_nil) (se_if (st_isN (se_var 3) (se_non)) (se_int) (se_var 3)))) (sa_nil))))))))) (sb_one (ss_raise h_InvalidTable)) (sb_nil))
    (sb_cons (ss_set (ag_of 2 (se_int)))
    (sb_cons (ss_for (si_seq (se_var 1)) (sg_nm 3) (sb_one (ss_augMul 2 (se_if (st_isN (se_var 3) (se_non)) (se_var 0) (se_int)))))
    (sb_cons (ss_if (st_gt (se_var 2) (se_gint h_MAX_FILLED)) (sb_one (ss_raise h_TooMany)) (sb_nil))
    (sb_cons (ag_lc 4 (own := [("numbers", 5)]) (si_seq (se_fn h_tuples (sa_cons (se_mul (se_lst (sa_cons (se_var 0) (sa_nil))) (se_tcn (se_var 1) (se_non))) (sa_nil)))) (by decide +kernel) (sg_nm 5) (sts_nil) (se_fn h_filled (sa_cons (se_var 1) (sa_cons (se_var 5) (sa_nil)))))
    (sb_one (ss_ret (se_sorted B (se_lc (own := [("one", 3)]) (si_seq (se_var 4)) (by decide +kernel) (sg_nm 3) (sts_one (st_isN (se_fn h_first_fault (sa_cons (se_var 0) (sa_cons (se_var 3) (sa_nil)))) (se_non))) (se_var 3))))))))))
theorem fn_completions {G : Gc} {f : Addr} {fd : FuncData} (B : Bi G) (h_check_modulus : FnIs G "check_modulus" 2 1 F_check_modulus) (h_is_valid_table : FnIs G "is_valid_table" 2 2 F_is_valid_table) (h_tuples : FnIs G "tuples" 1 1 F_tuples) (h_filled : FnIs G "filled" 1 2 F_filled) (h_first_fault : FnIs G "first_fault" 3 2 F_first_fault) (h_MAX_FILLED : ∃ t, G.mg "MAX_FILLED" = some (.int 1000 t)) (h_InvalidTable : ExcC G "InvalidTable") (h_TooMany : ExcC G "TooMany") (hm : G.mg "completions" = some (.ref f)) (Fu : FunD G.K "completions" "completions" (defArgs st_completions) (defBody st_completions) (defScope st_completions) [] [] f fd) : FnIs G "completions" 4 2 F_completions :=
  fn_is hm Fu sc_completions (FunD.bindsN (ps := ["modulus", "table"]) Fu fun _ _ _ _ _ _ us hl => match us, hl with | [_, _], _ => rfl) (b_completions B h_check_modulus h_is_valid_table h_tuples h_filled h_first_fault h_MAX_FILLED h_InvalidTable h_TooMany ) (fun _ _ _ h => h)
/-! ### m_options -/
abbrev st_m_options : Stmt := mth (top 27) 6
abbrev N_m_options : List Str := ["self", "place", "table"]
def t1_m_options : SF := sRet (eUn dSortSetL (eLc [2] (gNm 2) (iSeq (eFn 2 F_completions (aCons (eFl dMdl (eVar 0)) (aCons (eMt0 F_m_state (eVar 0)) (aNil))))) (eC (.bool true)) (eBin dIx (eVar 2) (eVar 1))))
def g_m_options : SF := sSeq (sDo (eFn 2 F_check_place (aCons (eFl dMdl (eVar 0)) (aCons (eVar 1) (aNil))))) t1_m_options
def F_m_options : List Dt → Option Rs := runB 3 g_m_options
theorem sc_m_options : FnScope N_m_options ["self", "place"] (defScope st_m_options) := ⟨rfl, rfl, rfl, by decide +kernel, rfl, by decide +kernel, by decide +kernel⟩
theorem b_m_options {G : Gc} (B : Bi G) (h_check_place : FnIs G "check_place" 2 2 F_check_place) (h_completions : FnIs G "completions" 4 2 F_completions) (S : ShX G.K) (h_mt_state : MtIs G "state" 1 1 F_m_state) : SB G N_m_options (defScope st_m_options) (fun _ => true) 5 (defBody st_m_options) g_m_options := by
  unfold g_m_options
  exact sb_cons (ss_do (se_fn h_check_place (sa_cons (se_mdl B S (se_var 0)) (sa_cons (se_var 1) (sa_nil)))))
    (sb_one (ss_ret (se_sortSetL B (se_lc (own := [("table", 2)]) (si_seq (se_fn h_completions (sa_cons (se_mdl B S (se_var 0)) (sa_cons (se_mt0 B h_mt_state (se_var 0)) (sa_nil))))) (by decide +kernel) (sg_nm 2) (sts_nil) (se_ix (se_var 2) (se_var 1))))))
theorem mt_options {G : Gc} {f : Addr} {fd : FuncData} (B : Bi G) (h_check_place : FnIs G "check_place" 2 2 F_check_place) (h_completions : FnIs G "completions" 4 2 F_completions) (S : ShX G.K) (h_mt_state : MtIs G "state" 1 1 F_m_state) (hm : Meth G.K (He.ga G.K "Sheet") "options" f) (Fu : FunD G.K "options" "Sheet.options" (defArgs st_m_options) (defBody st_m_options) (defScope st_m_options) [] [] f fd) : MtIs G "options" 6 2 F_m_options :=
  mt_is hm Fu sc_m_options (FunD.bindsN (ps := ["self", "place"]) Fu fun _ _ _ _ _ _ us hl => match us, hl with | [_, _], _ => rfl) (b_m_options B h_check_place h_completions S h_mt_state ) (fun _ _ _ h => h)
/-! ### _law_entered -/
abbrev st__law_entered : Stmt := top 34
abbrev N__law_entered : List Str := ["work", "mode", "place", "value", "e"]
def g__law_entered : SF := sTry EM (sSeq (sIf (eBin dEq (eVar 1) (eC (.int 0))) (sRet (eNo)) (sNop))
  (sRet (eIf (eBin dEq (eVar 1) (eC (.int 1))) (eNo) (eMt 2 F_m_options (eVar 0) (aCons (eVar 2) (aNil)))))) (("InvalidPlace", 4, rfIs EM "TableError" "InvalidValue" "place" "other") :: ("InvalidValue", 4, rfIs EM "TableError" "InvalidPlace" "value" "other") :: ("TooMany", 4, rfIs EM "TableError" "InvalidValue" "many" "other") :: ("NothingToUndo", 4, rfIs EM "TableError" "InvalidValue" "nothing" "other") :: [])
def F__law_entered : List Dt → Option Rs := runB 5 g__law_entered
theorem sc__law_entered : FnScope N__law_entered ["work", "mode", "place", "value"] (defScope st__law_entered) := ⟨rfl, rfl, rfl, by decide +kernel, rfl, by decide +kernel, by decide +kernel⟩
theorem b__law_entered {G : Gc} (B : Bi G) (h_mt_options : MtIs G "options" 6 2 F_m_options) (h_cls_NothingToUndo : ∃ C, G.mg "NothingToUndo" = some (.ref C)) (h_cls_TooMany : ∃ C, G.mg "TooMany" = some (.ref C)) (h_cls_InvalidValue : ∃ C, G.mg "InvalidValue" = some (.ref C)) (h_cls_InvalidPlace : ∃ C, G.mg "InvalidPlace" = some (.ref C)) (hE : EmOk G EM) : SB G N__law_entered (defScope st__law_entered) (fun _ => true) 6 (defBody st__law_entered) g__law_entered := by
  unfold g__law_entered
  exact sb_one (ss_try hE (sb_cons (ss_if (st_eq (se_var 1) (se_int)) (sb_one (ss_ret (se_no))) (sb_nil))
    (sb_one (ss_ret (se_if (st_eq (se_var 1) (se_int)) (se_no) (se_mt B h_mt_options (se_var 0) (sa_cons (se_var 2) (sa_nil))))))) (SHs.cons (i := 4) rfl rfl rfl (by decide) h_cls_InvalidPlace (shd_is hE B 4) (SHs.cons (i := 4) rfl rfl rfl (by decide) h_cls_InvalidValue (shd_is hE B 4) (SHs.cons (i := 4) rfl rfl rfl (by decide) h_cls_TooMany (shd_is hE B 4) (SHs.cons (i := 4) rfl rfl rfl (by decide) h_cls_NothingToUndo (shd_is hE B 4) (SHs.nil))))))
theorem fn__law_entered {G : Gc} {f : Addr} {fd : FuncData} (B : Bi G) (h_mt_options : MtIs G "options" 6 2 F_m_options) (h_cls_NothingToUndo : ∃ C, G.mg "NothingToUndo" = some (.ref C)) (h_cls_TooMany : ∃ C, G.mg "TooMany" = some (.ref C)) (h_cls_InvalidValue : ∃ C, G.mg "InvalidValue" = some (.ref C)) (h_cls_InvalidPlace : ∃ C, G.mg "InvalidPlace" = some (.ref C)) (hE : EmOk G EM) (hm : G.mg "_law_entered" = some (.ref f)) (Fu : FunD G.K "_law_entered" "_law_entered" (defArgs st__law_entered) (defBody st__law_entered) (defScope st__law_entered) [] [] f fd) : FnIs G "_law_entered" 7 4 F__law_entered :=
  fn_is hm Fu sc__law_entered (FunD.bindsN (ps := ["work", "mode", "place", "value"]) Fu fun _ _ _ _ _ _ us hl => match us, hl with | [_, _, _, _], _ => rfl) (b__law_entered B h_mt_options h_cls_NothingToUndo h_cls_TooMany h_cls_InvalidValue h_cls_InvalidPlace hE) (fun _ _ _ h => h)
abbrev cl_ent : List Clz := ("InvalidPlace", 4, rfIs EM "TableError" "InvalidValue" "place" "other") :: ("InvalidValue", 4, rfIs EM "TableError" "InvalidPlace" "value" "other") :: ("TooMany", 4, rfIs EM "TableError" "InvalidValue" "many" "other") :: ("NothingToUndo", 4, rfIs EM "TableError" "InvalidValue" "nothing" "other") :: []
abbrev fx__law_entered : FX := fxEnt EM cl_ent fx_enter fx_undo
theorem x__law_entered {G : Gc} {f : Addr} {fd : FuncData} (B : Bi G) (hE : EmOk G EM) (h_x_enter : MtX G "enter" 3 3 fx_enter) (h_x_undo : MtX G "undo" 1 1 fx_undo) (h_cls_NothingToUndo : ∃ C, G.mg "NothingToUndo" = some (.ref C)) (h_cls_TooMany : ∃ C, G.mg "TooMany" = some (.ref C)) (h_cls_InvalidValue : ∃ C, G.mg "InvalidValue" = some (.ref C)) (h_cls_InvalidPlace : ∃ C, G.mg "InvalidPlace" = some (.ref C)) (hm : G.mg "_law_entered" = some (.ref f)) (Fu : FunD G.K "_law_entered" "_law_entered" (defArgs st__law_entered) (defBody st__law_entered) (defScope st__law_entered) [] [] f fd) : FnX G "_law_entered" 4 4 fx__law_entered := by
  refine ⟨f, fd, ["work", "mode", "place", "value"], hm, Fu.kp, FunD.bindsN (ps := ["work", "mode", "place", "value"]) Fu fun _ _ _ _ _ _ us hl => match us, hl with | [_, _, _, _], _ => rfl, rfl, ?_⟩
  refine Fu.ok sc__law_entered (fun vs H Q E h => h.1) fun cdv A outer s H vs Q E hr h => ?_
  have C : Ctx G ["work", "mode", "place", "value", "e"] (defScope st__law_entered) (fun _ => true) 3 (cxOf (L2.CX G.P G.w) G.P G.w G.K G.mg G.base ["work", "mode", "place", "value", "e"] "_law_entered" (defScope st__law_entered) f cdv A outer s H E) := ⟨rfl, rfl, rfl, rfl, rfl, rfl, sc__law_entered.nd, rfl, rfl, rfl, hr⟩
  have T : TopX (cxOf (L2.CX G.P G.w) G.P G.w G.K G.mg G.base ["work", "mode", "place", "value", "e"] "_law_entered" (defScope st__law_entered) f cdv A outer s H E) := ⟨rfl, rfl⟩
  have tk : Takes (cxOf (L2.CX G.P G.w) G.P G.w G.K G.mg G.base ["work", "mode", "place", "value", "e"] "_law_entered" (defScope st__law_entered) f cdv A outer s H E) (fun cls d _ H => E cls d H) := takes_of (E := E) rfl rfl rfl rfl
  exact ⟨_, pss_one (ps_ent (l := cl_ent) C T tk B hE h_x_enter h_x_undo (SHs.cons (i := 4) rfl rfl rfl (by decide) h_cls_InvalidPlace (shd_is hE B 4) (SHs.cons (i := 4) rfl rfl rfl (by decide) h_cls_InvalidValue (shd_is hE B 4) (SHs.cons (i := 4) rfl rfl rfl (by decide) h_cls_TooMany (shd_is hE B 4) (SHs.cons (i := 4) rfl rfl rfl (by decide) h_cls_NothingToUndo (shd_is hE B 4) (SHs.nil))))) (.inl rfl) (.inl rfl) (.inl rfl) (.inl rfl)), vs, Q, E, rfl, fun _ _ h => h, h⟩
/-! ### law -/
abbrev st_law : Stmt := top 35
abbrev N_law : List Str := ["script", "draws", "modulus", "table", "keyed", "first", "second", "place", "same", "key", "copied"]
def b1_law : SF := sDoX (eCX 3 fx_enter 5 (aCons (eVar 7) (aCons (eBin dIx (eVar 3) (eVar 7)) (aNil))))
def b2_law : SF := sSeq (sIfX (xVw [6] (eAndT (eBin dGe (eBin dAdd (eSp lenOk F_m___len__ (eVar 6)) (eC (.int 3))) (eVar 2)) (eBin dNotIn (eBin dIx (eVar 3) (eVar 7)) (eMt 2 F_m_options (eVar 6) (aCons (eVar 7) (aNil)))))) (sRet (eC (.bool false))) (sNop))
  (sDoX (eCX 3 fx_enter 6 (aCons (eVar 7) (aCons (eBin dIx (eVar 3) (eVar 7)) (aNil)))))
def b3_law : SF := sIfX (xNe (eCX 1 fx_undo 6 aNil) (eBin dIx (eBin dIx (eVar 4) (eBin dSub (eBin dSub (eVar 2) (eC (.int 1))) (eVar 7))) (eC (.int 1)))) (sRet (eC (.bool false))) (sNop)
def t15_law : SF := sRetX (xAnd (xVv [6, 8] (eEqS F_m___eq__ (eVar 6) (eVar 8))) (xAnd (xEq (eCX 4 fx__law_entered 6 (aCons (eC (.int 1)) (aCons (eC .none) (aCons (eC .none) (aNil))))) (eC (.str "nothing"))) (xVv [5] (eBin dEq (eSp lenOk F_m___len__ (eVar 5)) (eVar 2)))))
def t14_law : SF := sSeq (sFor [7] (gNm 7) (iRg1 (eVar 2)) (b3_law)) t15_law
def t13_law : SF := sSeq (sIfX (xOr (xVw [6, 10] (eEqS F_m___eq__ (eVar 10) (eVar 6))) (xOr (xNe (eCX 1 fx_undo 10 aNil) (eC (.int 0))) (xVw [6, 10] (eNeS F_m___eq__ (eVar 10) (eVar 6))))) (sRet (eC (.bool false))) (sNop)) t14_law
def t12_law : SF := sSeq (sDoX (eCX 3 fx_enter 10 (aCons (eC (.int 0)) (aCons (eBin dMod (eBin dAdd (eBin dIx (eVar 3) (eC (.int 0))) (eC (.int 1))) (eVar 2)) (aNil))))) t13_law
def t11_law : SF := sSeq (sIfX (xOr (xVw [6, 10] (eNeS F_m___eq__ (eVar 10) (eVar 6))) (xNe (eCX 4 fx__law_entered 10 (aCons (eC (.int 1)) (aCons (eC .none) (aCons (eC .none) (aNil))))) (eC (.str "nothing")))) (sRet (eC (.bool false))) (sNop)) t12_law
def t10_law : SF := sSeq (sDup 10 6) t11_law
def t9_law : SF := sSeq (sIfX (xVw [5, 6] (eOrT (eNeS F_m___eq__ (eVar 5) (eVar 6)) (eNot (eFn 2 F_is_polynomial (aCons (eVar 2) (aCons (eMt0 F_m_state (eVar 6)) (aNil))))))) (sRet (eC (.bool false))) (sNop)) t10_law
def t8_law : SF := sSeq (sFor [9, 7] (gPr (gNm 9) (gNm 7)) (iSeq (eVar 4)) (b2_law)) t9_law
def t7_law : SF := sSeq (sIfX (xVw [5, 8] (eOrT (eEqS F_m___eq__ (eVar 5) (eVar 8)) (eOrT (eEqS F_m___eq__ (eVar 5) (eMt0 F_m_state (eVar 5))) (eOrT (eEqS F_m___eq__ (eVar 5) (eSp isStr F_m___str__ (eVar 5))) (eEqS F_m___eq__ (eVar 8) (eNew (eBin dAdd (eVar 2) (eC (.int 1))))))))) (sRet (eC (.bool false))) (sNop)) t8_law
def t6_law : SF := sSeq (sNewS 8 (eVar 2)) t7_law
def t5_law : SF := sSeq (sFor [7] (gNm 7) (iRg1 (eVar 2)) (b1_law)) t6_law
def t4_law : SF := sSeq (sNew2 5 6 (eVar 2) (eVar 2)) t5_law
def t3_law : SF := sSeq (sSet 4 (eUn dSorted (eLc [7] (gNm 7) (iRg1 (eVar 2)) (eC (.bool true)) (eTup (aCons (eBin dMod (eBin dIx (eVar 1) (eBin dAdd (eC (.int 10)) (eVar 7))) (eC (.int 50))) (aCons (eVar 7) (aNil))))))) t4_law
def t2_law : SF := sSeq (sSet 3 (eFn 2 F__law_table (aCons (eVar 2) (aCons (eFn 2 F__law_numbers (aCons (eVar 0) (aCons (eC (.int 2)) (aNil)))) (aNil))))) t3_law
def t1_law : SF := sSeq (sSet 2 (eBin dAdd (eC (.int 2)) (eBin dMod (eBin dIx (eVar 1) (eC (.int 0))) (eC (.int 5))))) t2_law
def g_law : SF := sSeq (sSet 1 (eFn 2 F__law_row (aCons (eVar 0) (aCons (eC (.int 5)) (aNil))))) t1_law
def F_law : List Dt → Option Rs := runB 11 g_law
theorem sc_law : FnScope N_law ["script"] (defScope st_law) := ⟨rfl, rfl, rfl, by decide +kernel, rfl, by decide +kernel, by decide +kernel⟩
theorem b_law {G : Gc} (B : Bi G) (h__law_row : FnIs G "_law_row" 2 2 F__law_row) (h__law_table : FnIs G "_law_table" 2 2 F__law_table) (h__law_numbers : FnIs G "_law_numbers" 3 2 F__law_numbers) (h_is_polynomial : FnIs G "is_polynomial" 4 2 F_is_polynomial) (h_mt_state : MtIs G "state" 1 1 F_m_state) (h_mt_options : MtIs G "options" 6 2 F_m_options) (h_sp___eq__ : ShS G "__eq__" 2 2 F_m___eq__) (h_sp___str__ : ShS G "__str__" 1 1 F_m___str__) (h_sp___len__ : ShS G "__len__" 1 1 F_m___len__) (nf : ∀ T ∈ ["NoneType", "bool", "int", "str", "list", "tuple"], PySem.W.notFirst G.K (He.ga G.K "Sheet") (.type T) = true) (hNe : NeK G.K (He.ga G.K "Sheet") (He.ma G.K (He.ga G.K "Sheet") "__eq__")) (h_mt_dup : MtD G 5) (h_fx__law_entered : FnX G "_law_entered" 4 4 fx__law_entered) (h_sh_new : NewS G 3) (h_x_enter : MtX G "enter" 3 3 fx_enter) (h_x_undo : MtX G "undo" 1 1 fx_undo) : SB G N_law (defScope st_law) (fun _ => true) 7 (defBody st_law) g_law := by
  unfold g_law
  exact sb_cons (ss_set (ag_of 1 (se_fn h__law_row (sa_cons (se_var 0) (sa_cons (se_int) (sa_nil))))))
    (sb_cons (ss_set (ag_of 2 (se_add (se_int) (se_mod (se_ix (se_var 1) (se_int)) (se_int)))))
    (sb_cons (ss_set (ag_of 3 (se_fn h__law_table (sa_cons (se_var 2) (sa_cons (se_fn h__law_numbers (sa_cons (se_var 0) (sa_cons (se_int) (sa_nil)))) (sa_nil))))))
    (sb_cons (ss_set (ag_of 4 (se_sorted B (se_lc (own := [("place", 7)]) (si_rg1 B (se_var 2)) (by decide +kernel) (sg_nm 7) (sts_nil) (se_tup (sa_cons (se_mod (se_ix (se_var 1) (se_add (se_int) (se_var 7))) (se_int)) (sa_cons (se_var 7) (sa_nil))))))))
    (sb_cons (ss_new2 5 6 h_sh_new (se_var 2) (se_var 2))
    (sb_cons (ss_for (si_rg1 B (se_var 2)) (sg_nm 7) (sb_one (ss_doX (sx_mt 5 B h_x_enter (sa_cons (se_var 7) (sa_cons (se_ix (se_var 3) (se_var 7)) (sa_nil)))))))
    (sb_cons (ss_newS 8 h_sh_new (se_var 2))
    (sb_cons (ss_ifX (sx_vw [5, 8] (st_w (sw_or (st_eqS B nf h_sp___eq__ (se_var 5) (se_var 8)) (sw_or (st_eqS B nf h_sp___eq__ (se_var 5) (se_mt0 B h_mt_state (se_var 5))) (sw_or (st_eqS B nf h_sp___eq__ (se_var 5) (se_strS B h_sp___str__ (se_var 5))) (sw_or1 (st_eqS B nf h_sp___eq__ (se_var 8) (se_new h_sh_new (se_add (se_var 2) (se_int)))))))))) (sb_one (ss_ret (se_bl))) (sb_nil))
    (sb_cons (ss_for (si_seq (se_var 4)) (sg_pr (sg_nm 9) (sg_nm 7)) (sb_cons (ss_ifX (sx_vw [6] (st_w (sw_and (st_ge (se_add (se_lenS B h_sp___len__ (se_var 6)) (se_int)) (se_var 2)) (sw_and1 (st_notIn (se_ix (se_var 3) (se_var 7)) (se_mt B h_mt_options (se_var 6) (sa_cons (se_var 7) (sa_nil)))))))) (sb_one (ss_ret (se_bl))) (sb_nil))
    (sb_one (ss_doX (sx_mt 6 B h_x_enter (sa_cons (se_var 7) (sa_cons (se_ix (se_var 3) (se_var 7)) (sa_nil))))))))
    (sb_cons (ss_ifX (sx_vw [5, 6] (st_w (sw_or (st_neS B h_sp___eq__ hNe (se_var 5) (se_var 6)) (sw_or1 (st_not (st_val (se_fn h_is_polynomial (sa_cons (se_var 2) (sa_cons (se_mt0 B h_mt_state (se_var 6)) (sa_nil)))))))))) (sb_one (ss_ret (se_bl))) (sb_nil))
    (sb_cons (ss_dup 10 6 B h_mt_dup)
    (sb_cons (ss_ifX (sxt_w (sxw_or (sx_vw [6, 10] (st_neS B h_sp___eq__ hNe (se_var 10) (se_var 6))) (sxw_one (sx_ne (sx_fn 10 h_fx__law_entered (sa_cons (se_int) (sa_cons (se_non) (sa_cons (se_non) (sa_nil))))) (se_str))))) (sb_one (ss_ret (se_bl))) (sb_nil))
    (sb_cons (ss_doX (sx_mt 10 B h_x_enter (sa_cons (se_int) (sa_cons (se_mod (se_add (se_ix (se_var 3) (se_int)) (se_int)) (se_var 2)) (sa_nil)))))
    (sb_cons (ss_ifX (sxt_w (sxw_or (sx_vw [6, 10] (st_eqS B nf h_sp___eq__ (se_var 10) (se_var 6))) (sxw_or (sx_ne (sx_mt0 10 B h_x_undo) (se_int)) (sxw_one (sx_vw [6, 10] (st_neS B h_sp___eq__ hNe (se_var 10) (se_var 6))))))) (sb_one (ss_ret (se_bl))) (sb_nil))
    (sb_cons (ss_for (si_rg1 B (se_var 2)) (sg_nm 7) (sb_one (ss_ifX (sx_ne (sx_mt0 6 B h_x_undo) (se_ix (se_ix (se_var 4) (se_sub (se_sub (se_var 2) (se_int)) (se_var 7))) (se_int))) (sb_one (ss_ret (se_bl))) (sb_nil))))
    (sb_one (ss_retX (sx_and (sx_vv [6, 8] (se_eqS B nf h_sp___eq__ (se_var 6) (se_var 8))) (sx_and (sx_eq (sx_fn 6 h_fx__law_entered (sa_cons (se_int) (sa_cons (se_non) (sa_cons (se_non) (sa_nil))))) (se_str)) (sx_and1 (sx_vv [5] (se_eq (se_lenS B h_sp___len__ (se_var 5)) (se_var 2))))))))))))))))))))))
theorem fn_law {G : Gc} {f : Addr} {fd : FuncData} (B : Bi G) (h__law_row : FnIs G "_law_row" 2 2 F__law_row) (h__law_table : FnIs G "_law_table" 2 2 F__law_table) (h__law_numbers : FnIs G "_law_numbers" 3 2 F__law_numbers) (h_is_polynomial : FnIs G "is_polynomial" 4 2 F_is_polynomial) (h_mt_state : MtIs G "state" 1 1 F_m_state) (h_mt_options : MtIs G "options" 6 2 F_m_options) (h_sp___eq__ : ShS G "__eq__" 2 2 F_m___eq__) (h_sp___str__ : ShS G "__str__" 1 1 F_m___str__) (h_sp___len__ : ShS G "__len__" 1 1 F_m___len__) (nf : ∀ T ∈ ["NoneType", "bool", "int", "str", "list", "tuple"], PySem.W.notFirst G.K (He.ga G.K "Sheet") (.type T) = true) (hNe : NeK G.K (He.ga G.K "Sheet") (He.ma G.K (He.ga G.K "Sheet") "__eq__")) (h_mt_dup : MtD G 5) (h_fx__law_entered : FnX G "_law_entered" 4 4 fx__law_entered) (h_sh_new : NewS G 3) (h_x_enter : MtX G "enter" 3 3 fx_enter) (h_x_undo : MtX G "undo" 1 1 fx_undo) (hm : G.mg "law" = some (.ref f)) (Fu : FunD G.K "law" "law" (defArgs st_law) (defBody st_law) (defScope st_law) [] [] f fd) : FnIs G "law" 8 1 F_law :=
  fn_is hm Fu sc_law (FunD.bindsN (ps := ["script"]) Fu fun _ _ _ _ _ _ us hl => match us, hl with | [_], _ => rfl) (b_law B h__law_row h__law_table h__law_numbers h_is_polynomial h_mt_state h_mt_options h_sp___eq__ h_sp___str__ h_sp___len__ nf hNe h_mt_dup h_fx__law_entered h_sh_new h_x_enter h_x_undo ) (fun _ _ _ h => h)
end PT

namespace PT
open PySem PySem.Spec PyProof.Rows L2
/-! ## the drawn numbers -/
theorem dLen_scr (ns : List Int) : dLen (scr ns) = some (.int (ns.length : Nat)) := by
  show (if isScr (ns.map fun i => ((.int i : PyData), (.none : PyData))) = true then some (PyData.int (ns.map fun i => ((.int i : PyData), (.none : PyData))).length) else none) = _
  rw [isScr_map, if_pos rfl, List.length_map]
theorem dIx_scr (ns : List Int) (k : Nat) (h : k < ns.length) : dIx (scr ns) (.int (k : Int)) = some (.int ns[k]) := by
  show (match atI (ns.map fun i => ((.int i : PyData), (.none : PyData))) (k : Int) with | some (.int j, _) => some (PyData.int j) | _ => none) = _
  have h2 : atI (ns.map fun i => ((.int i : PyData), (.none : PyData))) (k : Int) = some (.int ns[k], .none) := by
    refine atI_of (j := k) ?_ ?_
    · rw [List.length_map]; exact ixN_nat h
    · rw [List.getElem?_map, List.getElem?_eq_getElem h]; rfl
  rw [h2]
theorem w_cell (ns : List Int) (k : Nat) : F__law_cell [scr ns, .int (k : Int)] = some (.val (.int (ns.getD k 0))) := by
  have e0 : start0 2 [scr ns, .int (k : Int)] = [some (.sh (scr ns)), some (.sh (.int (k : Int)))] := rfl
  have hl := dLen_scr ns
  generalize hs : scr ns = S at e0 hl ⊢
  unfold F__law_cell runB g__law_cell t1__law_cell
  by_cases hk : k < ns.length
  · have h2 : dIx S (.int (k : Int)) = some (.int ns[k]) := by rw [← hs]; exact dIx_scr ns k hk
    have h3 : ns.getD k 0 = ns[k] := by rw [List.getD_eq_getElem?_getD, List.getElem?_eq_getElem hk]; rfl
    have h4 : decide ((k : Int) < (ns.length : Nat)) = true := decide_eq_true (by omega)
    simp only [w_bnd, w_bndX, w_bndN, w_bndS, w_bndSX, w_bndSN, w_bndI, w_bndA, w_c, w_bin, w_un, w_nil, w_cons, w_fn, w_seq, w_nop, w_set, w_setO, w_ret, w_do, w_if, w_v0, w_o0, w_o0f, w_vs, w_clr0, w_clrs, w_nm, w_pr, w_add, w_sub, w_mul, w_addI, w_mulI, w_lt, w_le, w_gt, w_ge, w_truB, w_truI, w_truL, w_truT, w_truN, w_lenL, w_lenT, w_tupL, w_listT, w_listL, w_app, w_aug, w_for, List.set_cons_zero, List.set_cons_succ, List.getElem?_cons_zero, List.getElem?_cons_succ, List.length_cons, List.length_nil, Option.map_some, Option.map_none, Option.bind_some, Bool.or_true, Bool.true_or, eq_self, ite_true, ite_false, decide_true, decide_false, Int.reduceLT, Int.reduceLE, Int.reduceAdd, Int.reduceSub, Int.reduceMul, Int.reduceNeg, Nat.reduceAdd, Nat.reduceLT, Nat.reduceLeDiff, Nat.reduceEqDiff, reduceIte, e0, hl, h2, h3, h4]
  · have h3 : ns.getD k 0 = 0 := by rw [List.getD_eq_getElem?_getD, List.getElem?_eq_none (by omega)]; rfl
    have h4 : decide ((k : Int) < (ns.length : Nat)) = false := decide_eq_false (by omega)
    simp only [w_bnd, w_bndX, w_bndN, w_bndS, w_bndSX, w_bndSN, w_bndI, w_bndA, w_c, w_bin, w_un, w_nil, w_cons, w_fn, w_seq, w_nop, w_set, w_setO, w_ret, w_do, w_if, w_v0, w_o0, w_o0f, w_vs, w_clr0, w_clrs, w_nm, w_pr, w_add, w_sub, w_mul, w_addI, w_mulI, w_lt, w_le, w_gt, w_ge, w_truB, w_truI, w_truL, w_truT, w_truN, w_lenL, w_lenT, w_tupL, w_listT, w_listL, w_app, w_aug, w_for, List.set_cons_zero, List.set_cons_succ, List.getElem?_cons_zero, List.getElem?_cons_succ, List.length_cons, List.length_nil, Option.map_some, Option.map_none, Option.bind_some, Bool.or_true, Bool.true_or, eq_self, ite_true, ite_false, decide_true, decide_false, Int.reduceLT, Int.reduceLE, Int.reduceAdd, Int.reduceSub, Int.reduceMul, Int.reduceNeg, Nat.reduceAdd, Nat.reduceLT, Nat.reduceLeDiff, Nat.reduceEqDiff, reduceIte, e0, hl, h3, h4]
theorem w_row (ns : List Int) (a : Nat) : ∃ L : List Int, F__law_row [scr ns, .int (a : Int)] = some (.val (.list (L.map .int))) ∧ L.length = 60 ∧ ∀ x ∈ L, 0 ≤ x ∧ x < 1000 := by
  let P : Nat → En → Prop := fun i ρ => ∃ (c : Int) (L : List Int) (t : Option SV), ρ = [some (.sh (scr ns)), some (.sh (.int (a : Int))), some (.sh (.int c)), some (.own (L.map .int)), t] ∧ L.length = i ∧ ∀ x ∈ L, 0 ≤ x ∧ x < 1000
  have key : ∀ (j : Nat) (c : Int) (L : List Int) (x : Int), L.length = 0 + j → (∀ y ∈ L, 0 ≤ y ∧ y < 1000) → ∀ t : Option SV, P (0 + j + 1) [some (.sh (scr ns)), some (.sh (.int (a : Int))), some (.sh (.int c)), some (.own (L.map .int ++ [.int (x % 1000)])), t] := fun j c L x hl h t =>
    ⟨c, L ++ [x % 1000], t, by rw [List.map_append]; rfl, by simp; omega, fun y hy => (List.mem_append.mp hy).elim (h y) fun e => by rw [List.mem_singleton.mp e]; omega⟩
  have hc := w_cell ns a
  obtain ⟨ρ', h1, c, L, t, h2, h3, h4⟩ := forL_inv (sl := [4]) (tg := gNm 4) (body := b1__law_row) P (rgL 0 60) 0 [some (.sh (scr ns)), some (.sh (.int (a : Int))), some (.sh (.int (ns.getD a 0))), some (.own []), none] ⟨_, [], none, rfl, rfl, fun _ z => nomatch z⟩ (by
    rintro j x ρ hx ⟨c, L, t, rfl, hl, hL⟩
    have hj : j < 60 := by
      have := (List.getElem?_eq_some_iff.mp hx).1
      rw [rgL_length] at this
      exact this
    rw [rgL_get hj] at hx
    cases hx
    have hm : (↑a + 1 + ↑j : Int) % 20 = (((a + 1 + j) % 20 : Nat) : Int) := by omega
    have hq := w_cell ns ((a + 1 + j) % 20)
    have hlim : L.length < lim := by unfold lim; omega
    have s1 : sml 48271 = true := by decide
    have s2 : sml 131 = true := by decide
    have hp : dPow (.int 10) (.int 18) = some (.int 1000000000000000000) := by kernel_rfl
    by_cases hlt : ns.getD a 0 < 1000000000000000000
    · refine ⟨[some (.sh (scr ns)), some (.sh (.int (a : Int))), some (.sh (.int ((c * 48271 + 131 * (j : Int) + 7 + ns.getD ((a + 1 + j) % 20) 0) % 2147483647))), some (.own (L.map .int ++ [.int ((c * 48271 + 131 * (j : Int) + 7 + ns.getD ((a + 1 + j) % 20) 0) % 2147483647 / 11 % 1000)])), some (.sh (.int (j : Int)))], ?_, key _ _ _ _ hl hL _⟩
      unfold turn b1__law_row
      simp only [w_bnd, w_bndX, w_bndN, w_bndS, w_bndSX, w_bndSN, w_bndI, w_bndA, w_c, w_bin, w_un, w_nil, w_cons, w_fn, w_seq, w_nop, w_set, w_setO, w_ret, w_do, w_if, w_v0, w_o0, w_o0f, w_vs, w_clr0, w_clrs, w_nm, w_pr, w_add, w_sub, w_mul, w_addI, w_mulI, w_lt, w_le, w_gt, w_ge, w_truB, w_truI, w_truL, w_truT, w_truN, w_lenL, w_lenT, w_tupL, w_listT, w_listL, w_app, w_aug, w_for, List.set_cons_zero, List.set_cons_succ, List.getElem?_cons_zero, List.getElem?_cons_succ, List.length_cons, List.length_nil, Option.map_some, Option.map_none, Option.bind_some, Bool.or_true, Bool.true_or, eq_self, ite_true, ite_false, decide_true, decide_false, Int.reduceLT, Int.reduceLE, Int.reduceAdd, Int.reduceSub, Int.reduceMul, Int.reduceNeg, Nat.reduceAdd, Nat.reduceLT, Nat.reduceLeDiff, Nat.reduceEqDiff, reduceIte, w_mod, w_div, hc, hp, hm, hq, s1, s2, hlim, hlt, Int.zero_add, List.length_map]
    · refine ⟨[some (.sh (scr ns)), some (.sh (.int (a : Int))), some (.sh (.int (c / 1000))), some (.own (L.map .int ++ [.int (c % 1000)])), some (.sh (.int (j : Int)))], ?_, key _ _ _ _ hl hL _⟩
      unfold turn b1__law_row
      simp only [w_bnd, w_bndX, w_bndN, w_bndS, w_bndSX, w_bndSN, w_bndI, w_bndA, w_c, w_bin, w_un, w_nil, w_cons, w_fn, w_seq, w_nop, w_set, w_setO, w_ret, w_do, w_if, w_v0, w_o0, w_o0f, w_vs, w_clr0, w_clrs, w_nm, w_pr, w_add, w_sub, w_mul, w_addI, w_mulI, w_lt, w_le, w_gt, w_ge, w_truB, w_truI, w_truL, w_truT, w_truN, w_lenL, w_lenT, w_tupL, w_listT, w_listL, w_app, w_aug, w_for, List.set_cons_zero, List.set_cons_succ, List.getElem?_cons_zero, List.getElem?_cons_succ, List.length_cons, List.length_nil, Option.map_some, Option.map_none, Option.bind_some, Bool.or_true, Bool.true_or, eq_self, ite_true, ite_false, decide_true, decide_false, Int.reduceLT, Int.reduceLE, Int.reduceAdd, Int.reduceSub, Int.reduceMul, Int.reduceNeg, Nat.reduceAdd, Nat.reduceLT, Nat.reduceLeDiff, Nat.reduceEqDiff, reduceIte, w_mod, w_div, hc, hp, hm, hq, s1, s2, hlim, hlt, Int.zero_add, List.length_map])
  refine ⟨L, ?_, by simpa [rgL_length] using h3, h4⟩
  subst h2
  unfold F__law_row runB g__law_row t1__law_row t2__law_row t3__law_row
  have e : iRg1 (eC (.int 60)) false [some (.sh (scr ns)), some (.sh (.int (a : Int))), some (.sh (.int (ns.getD a 0))), some (.own []), none] = some (.it (rgL 0 60)) := rfl
  have e2 : start0 5 [scr ns, .int (a : Int)] = [some (.sh (scr ns)), some (.sh (.int (a : Int))), none, none, none] := rfl
  have e3 : ∀ ρ, eLst aNil true ρ = some (.val (.list [])) := fun _ => rfl
  simp only [w_bnd, w_bndX, w_bndN, w_bndS, w_bndSX, w_bndSN, w_bndI, w_bndA, w_c, w_bin, w_un, w_nil, w_cons, w_fn, w_seq, w_nop, w_set, w_setO, w_ret, w_do, w_if, w_v0, w_o0, w_o0f, w_vs, w_clr0, w_clrs, w_nm, w_pr, w_add, w_sub, w_mul, w_addI, w_mulI, w_lt, w_le, w_gt, w_ge, w_truB, w_truI, w_truL, w_truT, w_truN, w_lenL, w_lenT, w_tupL, w_listT, w_listL, w_app, w_aug, w_for, List.set_cons_zero, List.set_cons_succ, List.getElem?_cons_zero, List.getElem?_cons_succ, List.length_cons, List.length_nil, Option.map_some, Option.map_none, Option.bind_some, Bool.or_true, Bool.true_or, eq_self, ite_true, ite_false, decide_true, decide_false, Int.reduceLT, Int.reduceLE, Int.reduceAdd, Int.reduceSub, Int.reduceMul, Int.reduceNeg, Nat.reduceAdd, Nat.reduceLT, Nat.reduceLeDiff, Nat.reduceEqDiff, reduceIte, e2, hc, e, h1, e3]
/-! ## drawn tables -/
def pst (nums : List Int) (x : Int) : Nat → Int × Int
  | 0 => (0, 1)
  | i + 1 => ((pst nums x i).1 + nums.getD i 0 * (pst nums x i).2, (pst nums x i).2 * x)
def lval (m : Int) (nums : List Int) (x : Int) : Int := (pst nums x nums.length).1 % m
theorem w_lvalue (m : Int) (nums : List Int) (x : Int) (hm : 0 < m) (hs : ∀ y ∈ nums, -1000 ≤ y ∧ y ≤ 1000) (hx0 : -1000 ≤ x) (hx1 : x ≤ 1000) : F__law_value [.int m, tI' nums, .int x] = some (.val (.int (lval m nums x))) := by
  have hsx : sml x = true := sml_of (by omega) (by omega)
  obtain ⟨ρ', h1, j, h2⟩ := forL_inv (sl := [5]) (tg := gNm 5) (body := b1__law_value) (fun i ρ => ∃ j, ρ = [some (.sh (.int m)), some (.sh (tI' nums)), some (.sh (.int x)), some (.sh (.int (pst nums x i).1)), some (.sh (.int (pst nums x i).2)), j]) (nums.map .int) 0 [some (.sh (.int m)), some (.sh (tI' nums)), some (.sh (.int x)), some (.sh (.int 0)), some (.sh (.int 1)), none] ⟨none, rfl⟩ (by
    rintro i y ρ hy ⟨j, rfl⟩
    have hi : i < nums.length := by have := (List.getElem?_eq_some_iff.mp hy).1; rw [List.length_map] at this; exact this
    rw [get_map_int hi] at hy
    cases hy
    have hn := hs _ (getD_mem hi)
    have e1 : sml (nums.getD i 0) = true := sml_of (by omega) (by omega)
    refine ⟨_, ?_, some (.sh (.int (nums.getD i 0))), rfl⟩
    unfold turn b1__law_value
    simp only [w_bnd, w_bndX, w_bndN, w_bndS, w_bndSX, w_bndSN, w_bndI, w_bndA, w_c, w_bin, w_un, w_nil, w_cons, w_fn, w_seq, w_nop, w_set, w_setO, w_ret, w_do, w_if, w_v0, w_o0, w_o0f, w_vs, w_clr0, w_clrs, w_nm, w_pr, w_add, w_sub, w_mul, w_addI, w_mulI, w_lt, w_le, w_gt, w_ge, w_truB, w_truI, w_truL, w_truT, w_truN, w_lenL, w_lenT, w_tupL, w_listT, w_listL, w_app, w_aug, w_for, List.set_cons_zero, List.set_cons_succ, List.getElem?_cons_zero, List.getElem?_cons_succ, List.length_cons, List.length_nil, Option.map_some, Option.map_none, Option.bind_some, Bool.or_true, Bool.true_or, eq_self, ite_true, ite_false, decide_true, decide_false, Int.reduceLT, Int.reduceLE, Int.reduceAdd, Int.reduceSub, Int.reduceMul, Int.reduceNeg, Nat.reduceAdd, Nat.reduceLT, Nat.reduceLeDiff, Nat.reduceEqDiff, reduceIte, w_lim, w_tup, w_lst, w_unp, w_and, w_or, w_andT, w_orT, w_not, w_ife, w_chain, w_isi, w_neg, w_isN, w_notN, w_raise, w_un0, w_max2, w_intI, w_intB, w_par, Bool.not_true, Bool.not_false, Int.zero_add, Nat.zero_add, e1, hsx, pst])
  rw [List.length_map, Nat.zero_add] at h2
  subst h2
  have e2 : start0 6 [.int m, tI' nums, .int x] = [some (.sh (.int m)), some (.sh (tI' nums)), some (.sh (.int x)), none, none, none] := rfl
  have e3 : iSeq (eVar 1) false [some (.sh (.int m)), some (.sh (tI' nums)), some (.sh (.int x)), some (.sh (.int 0)), some (.sh (.int 1)), none] = some (.it (nums.map .int)) := rfl
  show runB 6 g__law_value _ = _
  unfold runB g__law_value t1__law_value t2__law_value lval
  simp only [w_bnd, w_bndX, w_bndN, w_bndS, w_bndSX, w_bndSN, w_bndI, w_bndA, w_c, w_bin, w_un, w_nil, w_cons, w_fn, w_seq, w_nop, w_set, w_setO, w_ret, w_do, w_if, w_v0, w_o0, w_o0f, w_vs, w_clr0, w_clrs, w_nm, w_pr, w_add, w_sub, w_mul, w_addI, w_mulI, w_lt, w_le, w_gt, w_ge, w_truB, w_truI, w_truL, w_truT, w_truN, w_lenL, w_lenT, w_tupL, w_listT, w_listL, w_app, w_aug, w_for, List.set_cons_zero, List.set_cons_succ, List.getElem?_cons_zero, List.getElem?_cons_succ, List.length_cons, List.length_nil, Option.map_some, Option.map_none, Option.bind_some, Bool.or_true, Bool.true_or, eq_self, ite_true, ite_false, decide_true, decide_false, Int.reduceLT, Int.reduceLE, Int.reduceAdd, Int.reduceSub, Int.reduceMul, Int.reduceNeg, Nat.reduceAdd, Nat.reduceLT, Nat.reduceLeDiff, Nat.reduceEqDiff, reduceIte, w_lim, w_tup, w_lst, w_unp, w_and, w_or, w_andT, w_orT, w_not, w_ife, w_chain, w_isi, w_neg, w_isN, w_notN, w_raise, w_un0, w_max2, w_intI, w_intB, w_par, Bool.not_true, Bool.not_false, Int.zero_add, Nat.zero_add, e2, e3, h1, w_mod hm]
theorem w_lnumbers (ns : List Int) (a : Nat) : ∃ nums : List Int, F__law_numbers [scr ns, .int (a : Int)] = some (.val (tI' nums)) ∧ nums.length ≤ 8 ∧ ∀ y ∈ nums, -20 ≤ y ∧ y ≤ 20 := by
  obtain ⟨L, h, hl, hb⟩ := w_row ns a
  have h0 := hb _ (getD_mem (i := 0) (by omega))
  have e0 : dIx (.list (L.map .int)) (.int 0) = some (.int (L.getD 0 0)) := w_ixLi (by omega) (by omega)
  have hk : (L.getD 0 0 % 9).toNat ≤ 8 := by omega
  refine ⟨(List.range (L.getD 0 0 % 9).toNat).map fun i => L.getD (1 + i) 0 % 41 - 20, ?_, by rw [List.length_map, List.length_range]; exact hk, fun y hy => ?_⟩
  · have hlc : lcL (eC (.bool true)) (eBin dSub (eBin dMod (eBin dIx (eVar 2) (eBin dAdd (eC (.int 1)) (eVar 3))) (eC (.int 41))) (eC (.int 20))) (gNm 3) [some (.sh (scr ns)), some (.sh (.int a)), some (.sh (.list (L.map .int))), none] (rgL 0 (L.getD 0 0 % 9).toNat) = some (((List.range (L.getD 0 0 % 9).toNat).map fun i => L.getD (1 + i) 0 % 41 - 20).map .int) := by
      refine lcL_rg _ (fun i => L.getD (1 + i) 0 % 41 - 20) fun i hi => ⟨_, rfl, ?_⟩
      have e1 : dIx (.list (L.map .int)) (.int (1 + (i : Int))) = some (.int (L.getD (1 + i) 0)) := by
        rw [w_ixLi (by omega) (by omega)]
        congr 2
      simp only [w_bnd, w_bndX, w_bndN, w_bndS, w_bndSX, w_bndSN, w_bndI, w_bndA, w_c, w_bin, w_un, w_nil, w_cons, w_fn, w_seq, w_nop, w_set, w_setO, w_ret, w_do, w_if, w_v0, w_o0, w_o0f, w_vs, w_clr0, w_clrs, w_nm, w_pr, w_add, w_sub, w_mul, w_addI, w_mulI, w_lt, w_le, w_gt, w_ge, w_truB, w_truI, w_truL, w_truT, w_truN, w_lenL, w_lenT, w_tupL, w_listT, w_listL, w_app, w_aug, w_for, List.set_cons_zero, List.set_cons_succ, List.getElem?_cons_zero, List.getElem?_cons_succ, List.length_cons, List.length_nil, Option.map_some, Option.map_none, Option.bind_some, Bool.or_true, Bool.true_or, eq_self, ite_true, ite_false, decide_true, decide_false, Int.reduceLT, Int.reduceLE, Int.reduceAdd, Int.reduceSub, Int.reduceMul, Int.reduceNeg, Nat.reduceAdd, Nat.reduceLT, Nat.reduceLeDiff, Nat.reduceEqDiff, reduceIte, w_lim, w_tup, w_lst, w_unp, w_and, w_or, w_andT, w_orT, w_not, w_ife, w_chain, w_isi, w_neg, w_isN, w_notN, w_raise, w_un0, w_max2, w_intI, w_intB, w_par, Bool.not_true, Bool.not_false, Int.zero_add, Nat.zero_add, e1, w_mod]
    have e2 : start0 4 [scr ns, .int (a : Int)] = [some (.sh (scr ns)), some (.sh (.int a)), none, none] := rfl
    have e3 : eLc [3] (gNm 3) (iRg1 (eBin dMod (eBin dIx (eVar 2) (eC (.int 0))) (eC (.int 9)))) (eC (.bool true)) (eBin dSub (eBin dMod (eBin dIx (eVar 2) (eBin dAdd (eC (.int 1)) (eVar 3))) (eC (.int 41))) (eC (.int 20))) true [some (.sh (scr ns)), some (.sh (.int a)), some (.sh (.list (L.map .int))), none] = some (.val (.list (((List.range (L.getD 0 0 % 9).toNat).map fun i => L.getD (1 + i) 0 % 41 - 20).map .int))) := by
      refine w_lc (w_rg1i (n := L.getD 0 0 % 9) ?_ (by omega) (by omega)) rfl (by rw [rgL_length]; unfold lim; omega) hlc
      simp only [w_bnd, w_bndX, w_bndN, w_bndS, w_bndSX, w_bndSN, w_bndI, w_bndA, w_c, w_bin, w_un, w_nil, w_cons, w_fn, w_seq, w_nop, w_set, w_setO, w_ret, w_do, w_if, w_v0, w_o0, w_o0f, w_vs, w_clr0, w_clrs, w_nm, w_pr, w_add, w_sub, w_mul, w_addI, w_mulI, w_lt, w_le, w_gt, w_ge, w_truB, w_truI, w_truL, w_truT, w_truN, w_lenL, w_lenT, w_tupL, w_listT, w_listL, w_app, w_aug, w_for, List.set_cons_zero, List.set_cons_succ, List.getElem?_cons_zero, List.getElem?_cons_succ, List.length_cons, List.length_nil, Option.map_some, Option.map_none, Option.bind_some, Bool.or_true, Bool.true_or, eq_self, ite_true, ite_false, decide_true, decide_false, Int.reduceLT, Int.reduceLE, Int.reduceAdd, Int.reduceSub, Int.reduceMul, Int.reduceNeg, Nat.reduceAdd, Nat.reduceLT, Nat.reduceLeDiff, Nat.reduceEqDiff, reduceIte, w_lim, w_tup, w_lst, w_unp, w_and, w_or, w_andT, w_orT, w_not, w_ife, w_chain, w_isi, w_neg, w_isN, w_notN, w_raise, w_un0, w_max2, w_intI, w_intB, w_par, Bool.not_true, Bool.not_false, Int.zero_add, Nat.zero_add, e0, w_mod]
    show runB 4 g__law_numbers _ = _
    unfold runB g__law_numbers t1__law_numbers
    simp only [w_bnd, w_bndX, w_bndN, w_bndS, w_bndSX, w_bndSN, w_bndI, w_bndA, w_c, w_bin, w_un, w_nil, w_cons, w_fn, w_seq, w_nop, w_set, w_setO, w_ret, w_do, w_if, w_v0, w_o0, w_o0f, w_vs, w_clr0, w_clrs, w_nm, w_pr, w_add, w_sub, w_mul, w_addI, w_mulI, w_lt, w_le, w_gt, w_ge, w_truB, w_truI, w_truL, w_truT, w_truN, w_lenL, w_lenT, w_tupL, w_listT, w_listL, w_app, w_aug, w_for, List.set_cons_zero, List.set_cons_succ, List.getElem?_cons_zero, List.getElem?_cons_succ, List.length_cons, List.length_nil, Option.map_some, Option.map_none, Option.bind_some, Bool.or_true, Bool.true_or, eq_self, ite_true, ite_false, decide_true, decide_false, Int.reduceLT, Int.reduceLE, Int.reduceAdd, Int.reduceSub, Int.reduceMul, Int.reduceNeg, Nat.reduceAdd, Nat.reduceLT, Nat.reduceLeDiff, Nat.reduceEqDiff, reduceIte, w_lim, w_tup, w_lst, w_unp, w_and, w_or, w_andT, w_orT, w_not, w_ife, w_chain, w_isi, w_neg, w_isN, w_notN, w_raise, w_un0, w_max2, w_intI, w_intB, w_par, Bool.not_true, Bool.not_false, Int.zero_add, Nat.zero_add, e2, h, e3]
  · obtain ⟨i, _, rfl⟩ := List.mem_map.mp hy
    omega
theorem w_ltable (m : Nat) (nums : List Int) (hm : 0 < m) (hm1 : m ≤ 1000) (hs : ∀ y ∈ nums, -1000 ≤ y ∧ y ≤ 1000) : F__law_table [.int m, tI' nums] = some (.val (tI' ((List.range m).map fun x => lval m nums (x : Nat)))) := by
  have hlc : lcL (eC (.bool true)) (eFn 3 F__law_value (aCons (eVar 0) (aCons (eVar 1) (aCons (eVar 2) aNil)))) (gNm 2) [some (.sh (.int m)), some (.sh (tI' nums)), none] (rgL 0 m) = some (((List.range m).map fun x => lval m nums (x : Nat)).map .int) := by
    refine lcL_rg _ _ fun i hi => ⟨_, rfl, ?_⟩
    have e1 := w_lvalue m nums i (by omega) hs (by omega) (by omega)
    simp only [w_bnd, w_bndX, w_bndN, w_bndS, w_bndSX, w_bndSN, w_bndI, w_bndA, w_c, w_bin, w_un, w_nil, w_cons, w_fn, w_seq, w_nop, w_set, w_setO, w_ret, w_do, w_if, w_v0, w_o0, w_o0f, w_vs, w_clr0, w_clrs, w_nm, w_pr, w_add, w_sub, w_mul, w_addI, w_mulI, w_lt, w_le, w_gt, w_ge, w_truB, w_truI, w_truL, w_truT, w_truN, w_lenL, w_lenT, w_tupL, w_listT, w_listL, w_app, w_aug, w_for, List.set_cons_zero, List.set_cons_succ, List.getElem?_cons_zero, List.getElem?_cons_succ, List.length_cons, List.length_nil, Option.map_some, Option.map_none, Option.bind_some, Bool.or_true, Bool.true_or, eq_self, ite_true, ite_false, decide_true, decide_false, Int.reduceLT, Int.reduceLE, Int.reduceAdd, Int.reduceSub, Int.reduceMul, Int.reduceNeg, Nat.reduceAdd, Nat.reduceLT, Nat.reduceLeDiff, Nat.reduceEqDiff, reduceIte, w_lim, w_tup, w_lst, w_unp, w_and, w_or, w_andT, w_orT, w_not, w_ife, w_chain, w_isi, w_neg, w_isN, w_notN, w_raise, w_un0, w_max2, w_intI, w_intB, w_par, Bool.not_true, Bool.not_false, Int.zero_add, Nat.zero_add, e1]
  have e2 : start0 3 [.int m, tI' nums] = [some (.sh (.int m)), some (.sh (tI' nums)), none] := rfl
  have e3 : eLc [2] (gNm 2) (iRg1 (eVar 0)) (eC (.bool true)) (eFn 3 F__law_value (aCons (eVar 0) (aCons (eVar 1) (aCons (eVar 2) aNil)))) true [some (.sh (.int m)), some (.sh (tI' nums)), none] = some (.val (.list (((List.range m).map fun x => lval m nums (x : Nat)).map .int))) :=
    w_lc (w_rg1 rfl (by omega)) rfl (by rw [rgL_length]; unfold lim; omega) hlc
  show runB 3 g__law_table _ = _
  unfold runB g__law_table
  simp only [w_bnd, w_bndX, w_bndN, w_bndS, w_bndSX, w_bndSN, w_bndI, w_bndA, w_c, w_bin, w_un, w_nil, w_cons, w_fn, w_seq, w_nop, w_set, w_setO, w_ret, w_do, w_if, w_v0, w_o0, w_o0f, w_vs, w_clr0, w_clrs, w_nm, w_pr, w_add, w_sub, w_mul, w_addI, w_mulI, w_lt, w_le, w_gt, w_ge, w_truB, w_truI, w_truL, w_truT, w_truN, w_lenL, w_lenT, w_tupL, w_listT, w_listL, w_app, w_aug, w_for, List.set_cons_zero, List.set_cons_succ, List.getElem?_cons_zero, List.getElem?_cons_succ, List.length_cons, List.length_nil, Option.map_some, Option.map_none, Option.bind_some, Bool.or_true, Bool.true_or, eq_self, ite_true, ite_false, decide_true, decide_false, Int.reduceLT, Int.reduceLE, Int.reduceAdd, Int.reduceSub, Int.reduceMul, Int.reduceNeg, Nat.reduceAdd, Nat.reduceLT, Nat.reduceLeDiff, Nat.reduceEqDiff, reduceIte, w_lim, w_tup, w_lst, w_unp, w_and, w_or, w_andT, w_orT, w_not, w_ife, w_chain, w_isi, w_neg, w_isN, w_notN, w_raise, w_un0, w_max2, w_intI, w_intB, w_par, Bool.not_true, Bool.not_false, Int.zero_add, Nat.zero_add, e2, e3]
def IsTab (m : Nat) (T : List Int) : Prop := T.length = m ∧ ∀ x ∈ T, 0 ≤ x ∧ x < m
theorem IsTab.get {m : Nat} {T : List Int} (h : IsTab m T) {i : Nat} (hi : i < m) : 0 ≤ T.getD i 0 ∧ T.getD i 0 < m := h.2 _ (getD_mem (by rw [h.1]; exact hi))
theorem IsTab.set {m : Nat} {T : List Int} (h : IsTab m T) (i : Nat) {x : Int} (h0 : 0 ≤ x) (h1 : x < m) : IsTab m (T.set i x) := ⟨by rw [List.length_set]; exact h.1, fun y hy => by
  rcases List.mem_or_eq_of_mem_set hy with z | z
  · exact h.2 y z
  · rw [z]; exact ⟨h0, h1⟩⟩
/-! ## the program: checks -/
theorem w_inr (v lo hi : Int) : F_in_range [.int v, .int lo, .int hi] = some (.val (.bool (decide (lo ≤ v) && decide (v ≤ hi)))) := by
  have e2 : start0 3 [.int v, .int lo, .int hi] = [some (.sh (.int v)), some (.sh (.int lo)), some (.sh (.int hi))] := rfl
  have i1 : dIsi "int" (.int v) = true := by rfl
  have i2 : dIsi "bool" (.int v) = false := by rfl
  show runB 3 g_in_range _ = _
  unfold runB g_in_range
  by_cases h : lo ≤ v
  · simp only [w_bnd, w_bndX, w_bndN, w_bndS, w_bndSX, w_bndSN, w_bndI, w_bndA, w_c, w_bin, w_un, w_nil, w_cons, w_fn, w_seq, w_nop, w_set, w_setO, w_ret, w_do, w_if, w_v0, w_o0, w_o0f, w_vs, w_clr0, w_clrs, w_nm, w_pr, w_add, w_sub, w_mul, w_addI, w_mulI, w_lt, w_le, w_gt, w_ge, w_truB, w_truI, w_truL, w_truT, w_truN, w_lenL, w_lenT, w_tupL, w_listT, w_listL, w_app, w_aug, w_for, List.set_cons_zero, List.set_cons_succ, List.getElem?_cons_zero, List.getElem?_cons_succ, List.length_cons, List.length_nil, Option.map_some, Option.map_none, Option.bind_some, Bool.or_true, Bool.true_or, eq_self, ite_true, ite_false, decide_true, decide_false, Int.reduceLT, Int.reduceLE, Int.reduceAdd, Int.reduceSub, Int.reduceMul, Int.reduceNeg, Nat.reduceAdd, Nat.reduceLT, Nat.reduceLeDiff, Nat.reduceEqDiff, reduceIte, w_lim, w_tup, w_lst, w_unp, w_and, w_or, w_andT, w_orT, w_not, w_ife, w_chain, w_isi, w_neg, w_isN, w_notN, w_raise, w_un0, w_max2, w_intI, w_intB, w_par, Bool.not_true, Bool.not_false, Int.zero_add, Nat.zero_add, e2, i1, i2, h, Bool.true_and]
  · simp only [w_bnd, w_bndX, w_bndN, w_bndS, w_bndSX, w_bndSN, w_bndI, w_bndA, w_c, w_bin, w_un, w_nil, w_cons, w_fn, w_seq, w_nop, w_set, w_setO, w_ret, w_do, w_if, w_v0, w_o0, w_o0f, w_vs, w_clr0, w_clrs, w_nm, w_pr, w_add, w_sub, w_mul, w_addI, w_mulI, w_lt, w_le, w_gt, w_ge, w_truB, w_truI, w_truL, w_truT, w_truN, w_lenL, w_lenT, w_tupL, w_listT, w_listL, w_app, w_aug, w_for, List.set_cons_zero, List.set_cons_succ, List.getElem?_cons_zero, List.getElem?_cons_succ, List.length_cons, List.length_nil, Option.map_some, Option.map_none, Option.bind_some, Bool.or_true, Bool.true_or, eq_self, ite_true, ite_false, decide_true, decide_false, Int.reduceLT, Int.reduceLE, Int.reduceAdd, Int.reduceSub, Int.reduceMul, Int.reduceNeg, Nat.reduceAdd, Nat.reduceLT, Nat.reduceLeDiff, Nat.reduceEqDiff, reduceIte, w_lim, w_tup, w_lst, w_unp, w_and, w_or, w_andT, w_orT, w_not, w_ife, w_chain, w_isi, w_neg, w_isN, w_notN, w_raise, w_un0, w_max2, w_intI, w_intB, w_par, Bool.not_true, Bool.not_false, Int.zero_add, Nat.zero_add, e2, i1, i2, h, Bool.false_and]
theorem w_ckm (m : Nat) (h2 : 2 ≤ m) (h12 : m ≤ 12) : F_check_modulus [.int m] = some (.val .none) := by
  have e2 : start0 1 [.int m] = [some (.sh (.int m))] := rfl
  have hr := w_inr m 2 12
  have h1 : decide ((2 : Int) ≤ m) = true := decide_eq_true (by omega)
  have h3 : decide ((m : Int) ≤ 12) = true := decide_eq_true (by omega)
  rw [h1, h3] at hr
  show runB 1 g_check_modulus _ = _
  unfold runB g_check_modulus
  simp only [w_bnd, w_bndX, w_bndN, w_bndS, w_bndSX, w_bndSN, w_bndI, w_bndA, w_c, w_bin, w_un, w_nil, w_cons, w_fn, w_seq, w_nop, w_set, w_setO, w_ret, w_do, w_if, w_v0, w_o0, w_o0f, w_vs, w_clr0, w_clrs, w_nm, w_pr, w_add, w_sub, w_mul, w_addI, w_mulI, w_lt, w_le, w_gt, w_ge, w_truB, w_truI, w_truL, w_truT, w_truN, w_lenL, w_lenT, w_tupL, w_listT, w_listL, w_app, w_aug, w_for, List.set_cons_zero, List.set_cons_succ, List.getElem?_cons_zero, List.getElem?_cons_succ, List.length_cons, List.length_nil, Option.map_some, Option.map_none, Option.bind_some, Bool.or_true, Bool.true_or, eq_self, ite_true, ite_false, decide_true, decide_false, Int.reduceLT, Int.reduceLE, Int.reduceAdd, Int.reduceSub, Int.reduceMul, Int.reduceNeg, Nat.reduceAdd, Nat.reduceLT, Nat.reduceLeDiff, Nat.reduceEqDiff, reduceIte, w_lim, w_tup, w_lst, w_unp, w_and, w_or, w_andT, w_orT, w_not, w_ife, w_chain, w_isi, w_neg, w_isN, w_notN, w_raise, w_un0, w_max2, w_intI, w_intB, w_par, Bool.not_true, Bool.not_false, Int.zero_add, Nat.zero_add, e2, hr, Bool.true_and]
theorem w_valid (m : Nat) (T : List Int) (h2 : 2 ≤ m) (h12 : m ≤ 12) (hT : IsTab m T) : F_is_valid_table [.int m, tI' T] = some (.val (.bool true)) := by
  have e2 : start0 3 [.int m, tI' T] = [some (.sh (.int m)), some (.sh (tI' T)), none] := rfl
  have i1 : dIsi "tuple" (tI' T) = true := by rfl
  have hlc : lcL (eNot (eFn 3 F_in_range (aCons (eVar 2) (aCons (eC (.int 0)) (aCons (eBin dSub (eVar 0) (eC (.int 1))) aNil))))) (eVar 2) (gNm 2) [some (.sh (.int m)), some (.sh (tI' T)), none] (T.map .int) = some (((T.map PyData.int).filter fun _ => false).map fun d => d) := by
    refine lcL_filter (fun _ => false) (fun d => d) _ fun x hx => ?_
    obtain ⟨v, hv, rfl⟩ := List.mem_map.mp hx
    have hb := hT.2 v hv
    have hr := w_inr v 0 ((m : Int) - 1)
    rw [decide_eq_true hb.1, decide_eq_true (show v ≤ (m : Int) - 1 by omega)] at hr
    refine ⟨_, .bool false, rfl, ?_, rfl, fun z => nomatch z⟩
    simp only [w_bnd, w_bndX, w_bndN, w_bndS, w_bndSX, w_bndSN, w_bndI, w_bndA, w_c, w_bin, w_un, w_nil, w_cons, w_fn, w_seq, w_nop, w_set, w_setO, w_ret, w_do, w_if, w_v0, w_o0, w_o0f, w_vs, w_clr0, w_clrs, w_nm, w_pr, w_add, w_sub, w_mul, w_addI, w_mulI, w_lt, w_le, w_gt, w_ge, w_truB, w_truI, w_truL, w_truT, w_truN, w_lenL, w_lenT, w_tupL, w_listT, w_listL, w_app, w_aug, w_for, List.set_cons_zero, List.set_cons_succ, List.getElem?_cons_zero, List.getElem?_cons_succ, List.length_cons, List.length_nil, Option.map_some, Option.map_none, Option.bind_some, Bool.or_true, Bool.true_or, eq_self, ite_true, ite_false, decide_true, decide_false, Int.reduceLT, Int.reduceLE, Int.reduceAdd, Int.reduceSub, Int.reduceMul, Int.reduceNeg, Nat.reduceAdd, Nat.reduceLT, Nat.reduceLeDiff, Nat.reduceEqDiff, reduceIte, w_lim, w_tup, w_lst, w_unp, w_and, w_or, w_andT, w_orT, w_not, w_ife, w_chain, w_isi, w_neg, w_isN, w_notN, w_raise, w_un0, w_max2, w_intI, w_intB, w_par, Bool.not_true, Bool.not_false, Int.zero_add, Nat.zero_add, hr, Bool.true_and]
  have e3 : eLc [2] (gNm 2) (iSeq (eVar 1)) (eNot (eFn 3 F_in_range (aCons (eVar 2) (aCons (eC (.int 0)) (aCons (eBin dSub (eVar 0) (eC (.int 1))) aNil))))) (eVar 2) true [some (.sh (.int m)), some (.sh (tI' T)), none] = some (.val (.list [])) := by
    have hf : ((T.map PyData.int).filter fun _ => false).map (fun d => d) = [] := by simp
    rw [hf] at hlc
    exact w_lc (w_seqT rfl) rfl (by rw [List.length_map, hT.1]; unfold lim; omega) hlc
  show runB 3 g_is_valid_table _ = _
  unfold runB g_is_valid_table t1_is_valid_table
  simp only [w_bnd, w_bndX, w_bndN, w_bndS, w_bndSX, w_bndSN, w_bndI, w_bndA, w_c, w_bin, w_un, w_nil, w_cons, w_fn, w_seq, w_nop, w_set, w_setO, w_ret, w_do, w_if, w_v0, w_o0, w_o0f, w_vs, w_clr0, w_clrs, w_nm, w_pr, w_add, w_sub, w_mul, w_addI, w_mulI, w_lt, w_le, w_gt, w_ge, w_truB, w_truI, w_truL, w_truT, w_truN, w_lenL, w_lenT, w_tupL, w_listT, w_listL, w_app, w_aug, w_for, List.set_cons_zero, List.set_cons_succ, List.getElem?_cons_zero, List.getElem?_cons_succ, List.length_cons, List.length_nil, Option.map_some, Option.map_none, Option.bind_some, Bool.or_true, Bool.true_or, eq_self, ite_true, ite_false, decide_true, decide_false, Int.reduceLT, Int.reduceLE, Int.reduceAdd, Int.reduceSub, Int.reduceMul, Int.reduceNeg, Nat.reduceAdd, Nat.reduceLT, Nat.reduceLeDiff, Nat.reduceEqDiff, reduceIte, w_lim, w_tup, w_lst, w_unp, w_and, w_or, w_andT, w_orT, w_not, w_ife, w_chain, w_isi, w_neg, w_isN, w_notN, w_raise, w_un0, w_max2, w_intI, w_intB, w_par, Bool.not_true, Bool.not_false, Int.zero_add, Nat.zero_add, e2, i1, e3, List.length_map, hT.1, w_neI, List.isEmpty_nil]
theorem w_ckt (m : Nat) (T : List Int) (h2 : 2 ≤ m) (h12 : m ≤ 12) (hT : IsTab m T) : F_check_table [.int m, tI' T] = some (.val .none) := by
  have e2 : start0 2 [.int m, tI' T] = [some (.sh (.int m)), some (.sh (tI' T))] := rfl
  show runB 2 g_check_table _ = _
  unfold runB g_check_table t1_check_table
  simp only [w_bnd, w_bndX, w_bndN, w_bndS, w_bndSX, w_bndSN, w_bndI, w_bndA, w_c, w_bin, w_un, w_nil, w_cons, w_fn, w_seq, w_nop, w_set, w_setO, w_ret, w_do, w_if, w_v0, w_o0, w_o0f, w_vs, w_clr0, w_clrs, w_nm, w_pr, w_add, w_sub, w_mul, w_addI, w_mulI, w_lt, w_le, w_gt, w_ge, w_truB, w_truI, w_truL, w_truT, w_truN, w_lenL, w_lenT, w_tupL, w_listT, w_listL, w_app, w_aug, w_for, List.set_cons_zero, List.set_cons_succ, List.getElem?_cons_zero, List.getElem?_cons_succ, List.length_cons, List.length_nil, Option.map_some, Option.map_none, Option.bind_some, Bool.or_true, Bool.true_or, eq_self, ite_true, ite_false, decide_true, decide_false, Int.reduceLT, Int.reduceLE, Int.reduceAdd, Int.reduceSub, Int.reduceMul, Int.reduceNeg, Nat.reduceAdd, Nat.reduceLT, Nat.reduceLeDiff, Nat.reduceEqDiff, reduceIte, w_lim, w_tup, w_lst, w_unp, w_and, w_or, w_andT, w_orT, w_not, w_ife, w_chain, w_isi, w_neg, w_isN, w_notN, w_raise, w_un0, w_max2, w_intI, w_intB, w_par, Bool.not_true, Bool.not_false, Int.zero_add, Nat.zero_add, e2, w_ckm m h2 h12, w_valid m T h2 h12 hT]
/-! ## differences -/
def stp (m : Int) (row : List Int) : List Int := List.zipWith (fun lo hi => (hi - lo) % m) row row.tail
def dr (m : Int) : Nat → List Int → List Int
  | 0, _ => []
  | n + 1, row => row.headD 0 :: dr m n (stp m row)
theorem stp_len (m : Int) (row : List Int) : (stp m row).length = row.length - 1 := by
  unfold stp
  rw [List.length_zipWith, List.length_tail]
  omega
theorem lcL_zip {e : EF} {tg : GF} {ρ : En} (v : Int → Int → Int) : ∀ (l k : List Int), (∀ x y, ∃ ρ1, tg (.tuple [.int x, .int y]) ρ = some ρ1 ∧ e false ρ1 = some (.val (.int (v x y)))) → lcL (eC (.bool true)) e tg ρ (zipD (l.map .int) (k.map .int)) = some ((List.zipWith v l k).map .int)
  | [], _, _ => by simp [zipD, lcL]
  | _ :: _, [], _ => by simp [zipD, lcL]
  | x :: l, y :: k, H => by
    obtain ⟨ρ1, h1, h2⟩ := H x y
    have ih := lcL_zip v l k H
    unfold zipD at ih ⊢
    simp only [List.map_cons, List.zipWith_cons_cons, lcL, h1, w_c, w_truB, h2, ih, Option.map_some]
theorem cut_hi {α : Type} (xs : List α) (p : Nat) (h : p ≤ xs.length) : cut xs (some (p : Int)) none = xs.drop p := by
  unfold cut
  have e1 : HT.sIx xs.length 0 (some (p : Int)) = p := by
    rw [HT.sIx_nat]
    exact Nat.min_eq_left h
  have e2 : HT.sIx xs.length xs.length none = xs.length := rfl
  rw [e1, e2]
  exact List.take_of_length_le (by rw [List.length_drop]; omega)
theorem cut_lo {α : Type} (xs : List α) (p : Nat) (h : p ≤ xs.length) : cut xs none (some (p : Int)) = xs.take p := by
  unfold cut
  have e1 : HT.sIx xs.length xs.length (some (p : Int)) = p := by
    rw [HT.sIx_nat]
    exact Nat.min_eq_left h
  have e2 : HT.sIx xs.length 0 none = 0 := rfl
  rw [e1, e2]
  simp
theorem w_drow_loop (m : Nat) (T p : Dt) (hm : 0 < m) : ∀ (n fuel : Nat) (row : List Int) (res : List Dt) (j5 j6 : Option SV), row.length = n → n < fuel → n ≤ 1000 → res.length + n ≤ 2000 → (j5 = none ∨ ∃ d, j5 = some (.sh d)) → (j6 = none ∨ ∃ d, j6 = some (.sh d)) →
    ∃ j j', whl (eVar 3) b1_difference_row fuel [some (.sh (.int m)), some (.sh T), some (.sh p), some (.sh (.list (row.map .int))), some (.own res), j5, j6] = some (.nx [some (.sh (.int m)), some (.sh T), some (.sh p), some (.sh (.list [])), some (.own (res ++ (dr m n row).map .int)), j, j'])
  | 0, fuel + 1, row, res, j5, j6, hl, _, _, _, _, _ => by
    have : row = [] := List.length_eq_zero_iff.mp hl
    subst this
    refine ⟨j5, j6, ?_⟩
    unfold whl dr
    simp only [w_bnd, w_bndX, w_bndN, w_bndS, w_bndSX, w_bndSN, w_bndI, w_bndA, w_c, w_bin, w_un, w_nil, w_cons, w_fn, w_seq, w_nop, w_set, w_setO, w_ret, w_do, w_if, w_v0, w_o0, w_o0f, w_vs, w_clr0, w_clrs, w_nm, w_pr, w_add, w_sub, w_mul, w_addI, w_mulI, w_lt, w_le, w_gt, w_ge, w_truB, w_truI, w_truL, w_truT, w_truN, w_lenL, w_lenT, w_tupL, w_listT, w_listL, w_app, w_aug, w_for, List.set_cons_zero, List.set_cons_succ, List.getElem?_cons_zero, List.getElem?_cons_succ, List.length_cons, List.length_nil, Option.map_some, Option.map_none, Option.bind_some, Bool.or_true, Bool.true_or, eq_self, ite_true, ite_false, decide_true, decide_false, Int.reduceLT, Int.reduceLE, Int.reduceAdd, Int.reduceSub, Int.reduceMul, Int.reduceNeg, Nat.reduceAdd, Nat.reduceLT, Nat.reduceLeDiff, Nat.reduceEqDiff, reduceIte, w_lim, w_tup, w_lst, w_unp, w_and, w_or, w_andT, w_orT, w_not, w_ife, w_chain, w_isi, w_neg, w_isN, w_notN, w_raise, w_un0, w_max2, w_intI, w_intB, w_par, Bool.not_true, Bool.not_false, Int.zero_add, Nat.zero_add, List.map_nil, List.isEmpty_nil, List.append_nil]
  | n + 1, fuel + 1, row, res, j5, j6, hl, hf, h1, h2, h5, h6 => by
    cases row with
    | nil => cases hl
    | cons x row =>
      have hl' : row.length = n := by simpa using hl
      obtain ⟨j, j', ih⟩ := w_drow_loop m T p hm n fuel (stp m (x :: row)) (res ++ [.int x]) j5 j6 (by rw [stp_len]; simp [hl']) (by omega) (by omega) (by simp; omega) h5 h6
      refine ⟨j, j', ?_⟩
      have e0 : dIx (.list (.int x :: row.map .int)) (.int 0) = some (.int x) := w_ixL (i := 0) rfl
      have hno : ∀ r, noOwn [some (.sh (.int m)), some (.sh T), some (.sh p), some (.sh (.list (.int x :: row.map .int))), some (.own r), j5, j6] [5, 6] = true := fun r => by
        rcases h5 with rfl | ⟨d, rfl⟩ <;> rcases h6 with rfl | ⟨d', rfl⟩ <;> rfl
      have hlc : ∀ r, lcL (eC (.bool true)) (eBin dMod (eBin dSub (eVar 6) (eVar 5)) (eVar 0)) (gPr (gNm 5) (gNm 6)) [some (.sh (.int m)), some (.sh T), some (.sh p), some (.sh (.list (.int x :: row.map .int))), some (.own r), none, none] (zipD ((x :: row).map .int) (row.map .int)) = some ((stp m (x :: row)).map .int) := fun r => by
        refine lcL_zip (fun lo hi => (hi - lo) % m) (x :: row) row fun a b => ⟨_, rfl, ?_⟩
        simp only [w_bnd, w_bndX, w_bndN, w_bndS, w_bndSX, w_bndSN, w_bndI, w_bndA, w_c, w_bin, w_un, w_nil, w_cons, w_fn, w_seq, w_nop, w_set, w_setO, w_ret, w_do, w_if, w_v0, w_o0, w_o0f, w_vs, w_clr0, w_clrs, w_nm, w_pr, w_add, w_sub, w_mul, w_addI, w_mulI, w_lt, w_le, w_gt, w_ge, w_truB, w_truI, w_truL, w_truT, w_truN, w_lenL, w_lenT, w_tupL, w_listT, w_listL, w_app, w_aug, w_for, List.set_cons_zero, List.set_cons_succ, List.getElem?_cons_zero, List.getElem?_cons_succ, List.length_cons, List.length_nil, Option.map_some, Option.map_none, Option.bind_some, Bool.or_true, Bool.true_or, eq_self, ite_true, ite_false, decide_true, decide_false, Int.reduceLT, Int.reduceLE, Int.reduceAdd, Int.reduceSub, Int.reduceMul, Int.reduceNeg, Nat.reduceAdd, Nat.reduceLT, Nat.reduceLeDiff, Nat.reduceEqDiff, reduceIte, w_lim, w_tup, w_lst, w_unp, w_and, w_or, w_andT, w_orT, w_not, w_ife, w_chain, w_isi, w_neg, w_isN, w_notN, w_raise, w_un0, w_max2, w_intI, w_intB, w_par, Bool.not_true, Bool.not_false, Int.zero_add, Nat.zero_add, w_mod (show (0 : Int) < m by omega)]
      have hz : ∀ r, iZip (eVar 3) (eSl (eVar 3) (oSo (eC (.int 1))) oNo) true [some (.sh (.int m)), some (.sh T), some (.sh p), some (.sh (.list (.int x :: row.map .int))), some (.own r), j5, j6] = some (.it (zipD ((x :: row).map .int) (row.map .int))) := fun r => by
        have es : eSl (eVar 3) (oSo (eC (.int 1))) oNo true [some (.sh (.int m)), some (.sh T), some (.sh p), some (.sh (.list (.int x :: row.map .int))), some (.own r), j5, j6] = some (.val (.list (row.map .int))) := by
          have hc := cut_hi (PyData.int x :: row.map .int) 1 (by simp)
          show ((dSl (.list (PyData.int x :: row.map .int)) (some 1) none).map Rs.val) = _
          show some (Rs.val (PyData.list (cut (PyData.int x :: row.map .int) (some ((1 : Nat) : Int)) none))) = _
          rw [hc]
          rfl
        unfold iZip
        simp only [w_bnd, w_bndX, w_bndN, w_bndS, w_bndSX, w_bndSN, w_bndI, w_bndA, w_c, w_bin, w_un, w_nil, w_cons, w_fn, w_seq, w_nop, w_set, w_setO, w_ret, w_do, w_if, w_v0, w_o0, w_o0f, w_vs, w_clr0, w_clrs, w_nm, w_pr, w_add, w_sub, w_mul, w_addI, w_mulI, w_lt, w_le, w_gt, w_ge, w_truB, w_truI, w_truL, w_truT, w_truN, w_lenL, w_lenT, w_tupL, w_listT, w_listL, w_app, w_aug, w_for, List.set_cons_zero, List.set_cons_succ, List.getElem?_cons_zero, List.getElem?_cons_succ, List.length_cons, List.length_nil, Option.map_some, Option.map_none, Option.bind_some, Bool.or_true, Bool.true_or, eq_self, ite_true, ite_false, decide_true, decide_false, Int.reduceLT, Int.reduceLE, Int.reduceAdd, Int.reduceSub, Int.reduceMul, Int.reduceNeg, Nat.reduceAdd, Nat.reduceLT, Nat.reduceLeDiff, Nat.reduceEqDiff, reduceIte, w_lim, w_tup, w_lst, w_unp, w_and, w_or, w_andT, w_orT, w_not, w_ife, w_chain, w_isi, w_neg, w_isN, w_notN, w_raise, w_un0, w_max2, w_intI, w_intB, w_par, Bool.not_true, Bool.not_false, Int.zero_add, Nat.zero_add, es]
        rfl
      have hc : ∀ r, eLc [5, 6] (gPr (gNm 5) (gNm 6)) (iZip (eVar 3) (eSl (eVar 3) (oSo (eC (.int 1))) oNo)) (eC (.bool true)) (eBin dMod (eBin dSub (eVar 6) (eVar 5)) (eVar 0)) false [some (.sh (.int m)), some (.sh T), some (.sh p), some (.sh (.list (.int x :: row.map .int))), some (.own r), j5, j6] = some (.val (.list ((stp m (x :: row)).map .int))) := fun r =>
        w_lc (hz r) (hno r) (by rw [zipD_len]; simp; unfold lim; omega) (hlc r)
      have hlr : res.length < 1000000 := by omega
      rw [whl_step (ρ2 := [some (.sh (.int m)), some (.sh T), some (.sh p), some (.sh (.list ((stp m (x :: row)).map .int))), some (.own (res ++ [.int x])), j5, j6]) (d := .list (.int x :: row.map .int)) rfl rfl ?_, ih]
      · simp only [dr, List.headD_cons, List.map_cons, List.append_assoc, List.cons_append, List.nil_append]
      · unfold b1_difference_row
        simp only [w_bnd, w_bndX, w_bndN, w_bndS, w_bndSX, w_bndSN, w_bndI, w_bndA, w_c, w_bin, w_un, w_nil, w_cons, w_fn, w_seq, w_nop, w_set, w_setO, w_ret, w_do, w_if, w_v0, w_o0, w_o0f, w_vs, w_clr0, w_clrs, w_nm, w_pr, w_add, w_sub, w_mul, w_addI, w_mulI, w_lt, w_le, w_gt, w_ge, w_truB, w_truI, w_truL, w_truT, w_truN, w_lenL, w_lenT, w_tupL, w_listT, w_listL, w_app, w_aug, w_for, List.set_cons_zero, List.set_cons_succ, List.getElem?_cons_zero, List.getElem?_cons_succ, List.length_cons, List.length_nil, Option.map_some, Option.map_none, Option.bind_some, Bool.or_true, Bool.true_or, eq_self, ite_true, ite_false, decide_true, decide_false, Int.reduceLT, Int.reduceLE, Int.reduceAdd, Int.reduceSub, Int.reduceMul, Int.reduceNeg, Nat.reduceAdd, Nat.reduceLT, Nat.reduceLeDiff, Nat.reduceEqDiff, reduceIte, w_lim, w_tup, w_lst, w_unp, w_and, w_or, w_andT, w_orT, w_not, w_ife, w_chain, w_isi, w_neg, w_isN, w_notN, w_raise, w_un0, w_max2, w_intI, w_intB, w_par, Bool.not_true, Bool.not_false, Int.zero_add, Nat.zero_add, List.map_cons, e0, hlr, hc]
def rot (T : List Int) (p : Nat) : List Int := T.drop p ++ T.take p
theorem rot_len (T : List Int) (p : Nat) : (rot T p).length = T.length := by
  unfold rot
  rw [List.length_append, List.length_drop, List.length_take]
  omega
theorem w_drow (m : Nat) (T : List Int) (p : Nat) (hm : 0 < m) (hl : T.length ≤ 100) (hp : p ≤ T.length) : F_difference_row [.int m, tI' T, .int p] = some (.val (.list ((dr m T.length (rot T p)).map .int))) := by
  obtain ⟨j, j', hw⟩ := w_drow_loop m (tI' T) (.int p) hm T.length 1000 (rot T p) [] none none (rot_len T p) (by omega) (by omega) (by simp; omega) (.inl rfl) (.inl rfl)
  have e2 : start0 7 [.int m, tI' T, .int p] = [some (.sh (.int m)), some (.sh (tI' T)), some (.sh (.int p)), none, none, none, none] := rfl
  have ea : eSl (eVar 1) (oSo (eVar 2)) oNo true [some (.sh (.int m)), some (.sh (tI' T)), some (.sh (.int p)), none, none, none, none] = some (.val (.tuple ((T.drop p).map .int))) := by
    show some (Rs.val (PyData.tuple (cut (T.map PyData.int) (some (p : Int)) none))) = _
    rw [cut_hi _ _ (by rw [List.length_map]; exact hp), ← List.map_drop]
  have eb : eSl (eVar 1) oNo (oSo (eVar 2)) true [some (.sh (.int m)), some (.sh (tI' T)), some (.sh (.int p)), none, none, none, none] = some (.val (.tuple ((T.take p).map .int))) := by
    show some (Rs.val (PyData.tuple (cut (T.map PyData.int) none (some (p : Int))))) = _
    rw [cut_lo _ _ (by rw [List.length_map]; exact hp), ← List.map_take]
  have ec : dAdd (.tuple ((T.drop p).map .int)) (.tuple ((T.take p).map .int)) = some (.tuple ((rot T p).map .int)) := by
    rw [w_addT]
    · unfold rot; rw [List.map_append]
    · rw [List.length_map, List.length_map, List.length_drop, List.length_take]; unfold lim; omega
  have hw' : sWhile 1000 (eVar 3) b1_difference_row [some (.sh (.int m)), some (.sh (tI' T)), some (.sh (.int p)), some (.sh (.list ((rot T p).map .int))), some (.own []), none, none] = _ := hw
  show runB 7 g_difference_row _ = _
  unfold runB g_difference_row t1_difference_row t2_difference_row t3_difference_row
  simp only [w_bnd, w_bndX, w_bndN, w_bndS, w_bndSX, w_bndSN, w_bndI, w_bndA, w_c, w_bin, w_un, w_nil, w_cons, w_fn, w_seq, w_nop, w_set, w_setO, w_ret, w_do, w_if, w_v0, w_o0, w_o0f, w_vs, w_clr0, w_clrs, w_nm, w_pr, w_add, w_sub, w_mul, w_addI, w_mulI, w_lt, w_le, w_gt, w_ge, w_truB, w_truI, w_truL, w_truT, w_truN, w_lenL, w_lenT, w_tupL, w_listT, w_listL, w_app, w_aug, w_for, List.set_cons_zero, List.set_cons_succ, List.getElem?_cons_zero, List.getElem?_cons_succ, List.length_cons, List.length_nil, Option.map_some, Option.map_none, Option.bind_some, Bool.or_true, Bool.true_or, eq_self, ite_true, ite_false, decide_true, decide_false, Int.reduceLT, Int.reduceLE, Int.reduceAdd, Int.reduceSub, Int.reduceMul, Int.reduceNeg, Nat.reduceAdd, Nat.reduceLT, Nat.reduceLeDiff, Nat.reduceEqDiff, reduceIte, w_lim, w_tup, w_lst, w_unp, w_and, w_or, w_andT, w_orT, w_not, w_ife, w_chain, w_isi, w_neg, w_isN, w_notN, w_raise, w_un0, w_max2, w_intI, w_intB, w_par, Bool.not_true, Bool.not_false, Int.zero_add, Nat.zero_add, e2, ea, eb, ec, hw', List.nil_append]
/-! ## the first fault -/
def dif : Nat → Nat → List Int → Int
  | 0, i, row => row.getD i 0
  | k + 1, i, row => dif k (i + 1) row - dif k i row
theorem stp_get (m : Int) (row : List Int) (i : Nat) (h : i + 1 < row.length) : (stp m row).getD i 0 = (row.getD (i + 1) 0 - row.getD i 0) % m := by
  have h1 : i < row.length := by omega
  unfold stp
  rw [List.getD_eq_getElem?_getD, List.getElem?_zipWith, List.getElem?_tail, List.getElem?_eq_getElem h1, List.getElem?_eq_getElem h, List.getD_eq_getElem?_getD, List.getD_eq_getElem?_getD, List.getElem?_eq_getElem h1, List.getElem?_eq_getElem h]
  rfl
theorem dif_stp (m : Int) (row : List Int) : ∀ (k i : Nat), i + k + 1 < row.length → dif k i (stp m row) % m = dif (k + 1) i row % m
  | 0, i, h => by
    show (stp m row).getD i 0 % m = (row.getD (i + 1) 0 - row.getD i 0) % m
    rw [stp_get m row i (by omega), Int.emod_emod_of_dvd _ (Int.dvd_refl m)]
  | k + 1, i, h => by
    have h1 := dif_stp m row k (i + 1) (by omega)
    have h2 := dif_stp m row k i (by omega)
    show (dif k (i + 1) (stp m row) - dif k i (stp m row)) % m = (dif (k + 1) (i + 1) row - dif (k + 1) i row) % m
    rw [Int.sub_emod, h1, h2, ← Int.sub_emod]
theorem dr_get (m : Int) : ∀ (n k : Nat) (row : List Int), row.length = n → k < n → (dr m n row).getD k 0 % m = dif k 0 row % m
  | n + 1, 0, row, h, _ => by
    cases row with
    | nil => cases h
    | cons x r => rfl
  | n + 1, k + 1, row, h, hk => by
    show (dr m n (stp m row)).getD k 0 % m = _
    rw [dr_get m n k (stp m row) (by rw [stp_len]; omega) (by omega)]
    exact dif_stp m row k 0 (by omega)
theorem dr_len (m : Int) : ∀ (n : Nat) (row : List Int), (dr m n row).length = n
  | 0, _ => rfl
  | n + 1, row => by show (dr m n (stp m row)).length + 1 = _; rw [dr_len]
theorem stp_rng {m : Int} (hm : 0 < m) {row : List Int} : ∀ x ∈ stp m row, 0 ≤ x ∧ x < m := fun x hx => by
  unfold stp at hx
  obtain ⟨i, hi⟩ := List.getElem?_of_mem hx
  rw [List.getElem?_zipWith] at hi
  split at hi
  · cases hi
    exact ⟨Int.emod_nonneg _ (by omega), Int.emod_lt_of_pos _ hm⟩
  · cases hi
theorem dr_rng {m : Int} (hm : 0 < m) : ∀ (n : Nat) (row : List Int), (∀ x ∈ row, 0 ≤ x ∧ x < m) → ∀ x ∈ dr m n row, 0 ≤ x ∧ x < m
  | 0, _, _, x, hx => nomatch hx
  | n + 1, row, h, x, hx => by
    rcases List.mem_cons.mp hx with e | hx
    · rw [e]
      cases row with
      | nil => exact ⟨Int.le_refl 0, hm⟩
      | cons y r => exact h y List.mem_cons_self
    · exact dr_rng hm n (stp m row) (stp_rng hm) x hx
/-- a difference, as the program has it -/
theorem dr_val {m : Int} (hm : 0 < m) {n k : Nat} {row : List Int} (hl : row.length = n) (hk : k < n) (h : ∀ x ∈ row, 0 ≤ x ∧ x < m) : (dr m n row).getD k 0 = dif k 0 row % m := by
  have hb := dr_rng hm n row h _ (getD_mem (i := k) (by rw [dr_len]; exact hk))
  rw [← dr_get m n k row hl hk, Int.emod_eq_of_lt hb.1 hb.2]
def dvs (m : Nat) : List Int := (List.range m).map fun k => ((dvn m k : Nat) : Int)
theorem dvs_len (m : Nat) : (dvs m).length = m := by unfold dvs; rw [List.length_map, List.length_range]
theorem dvs_get {m k : Nat} (h : k < m) : (dvs m).getD k 0 = (dvn m k : Int) := by
  unfold dvs
  rw [List.getD_eq_getElem?_getD, List.getElem?_map, List.getElem?_range h]
  rfl
theorem w_divisors : ∀ m : Nat, 2 ≤ m → m ≤ 12 → F_divisors [.int m] = some (.val (.list ((dvs m).map .int))) := by
  refine mods ?_ ?_ ?_ ?_ ?_ ?_ ?_ ?_ ?_ ?_ ?_ <;> kernel_rfl
def fault (m : Nat) (T : List Int) : Option Nat := (List.range m).find? fun k => decide (dif k 0 T % m % dvn m k ≠ 0)
def optI : Option Nat → Dt
  | none => .none
  | some k => .int k
theorem w_fault (m : Nat) (T : List Int) (h2 : 2 ≤ m) (h12 : m ≤ 12) (hT : IsTab m T) : F_first_fault [.int m, tI' T] = some (.val (optI (fault m T))) := by
  have hmp : (0 : Int) < m := by omega
  have hd := w_drow m T 0 (by omega) (by rw [hT.1]; omega) (by omega)
  have hr0 : rot T 0 = T := by unfold rot; simp
  rw [hr0, hT.1] at hd
  have hv := w_divisors m h2 h12
  have e2 : start0 5 [.int m, tI' T] = [some (.sh (.int m)), some (.sh (tI' T)), none, none, none] := rfl
  have hz : iEnumZip (eFn 3 F_difference_row (aCons (eVar 0) (aCons (eVar 1) (aCons (eC (.int 0)) aNil)))) (eFn 1 F_divisors (aCons (eVar 0) aNil)) false [some (.sh (.int m)), some (.sh (tI' T)), none, none, none] = some (.it (enumZ ((dr m m T).map .int) ((dvs m).map .int))) := by
    unfold iEnumZip
    have hd' : F_difference_row [.int m, tI' T, .int 0] = some (.val (.list ((dr m m T).map .int))) := hd
    simp only [w_bnd, w_bndX, w_bndN, w_bndS, w_bndSX, w_bndSN, w_bndI, w_bndA, w_c, w_bin, w_un, w_nil, w_cons, w_fn, w_seq, w_nop, w_set, w_setO, w_ret, w_do, w_if, w_v0, w_o0, w_o0f, w_vs, w_clr0, w_clrs, w_nm, w_pr, w_add, w_sub, w_mul, w_addI, w_mulI, w_lt, w_le, w_gt, w_ge, w_truB, w_truI, w_truL, w_truT, w_truN, w_lenL, w_lenT, w_tupL, w_listT, w_listL, w_app, w_aug, w_for, List.set_cons_zero, List.set_cons_succ, List.getElem?_cons_zero, List.getElem?_cons_succ, List.length_cons, List.length_nil, Option.map_some, Option.map_none, Option.bind_some, Bool.or_true, Bool.true_or, eq_self, ite_true, ite_false, decide_true, decide_false, Int.reduceLT, Int.reduceLE, Int.reduceAdd, Int.reduceSub, Int.reduceMul, Int.reduceNeg, Nat.reduceAdd, Nat.reduceLT, Nat.reduceLeDiff, Nat.reduceEqDiff, reduceIte, w_lim, w_tup, w_lst, w_unp, w_and, w_or, w_andT, w_orT, w_not, w_ife, w_chain, w_isi, w_neg, w_isN, w_notN, w_raise, w_un0, w_max2, w_intI, w_intB, w_par, Bool.not_true, Bool.not_false, Int.zero_add, Nat.zero_add, hd', hv]
  have hlz : (enumZ ((dr m m T).map PyData.int) ((dvs m).map PyData.int)).length = m := by
    rw [enumZ_len, List.length_map, List.length_map, dr_len, dvs_len]
    omega
  have key := forL_find (sl := [2, 3, 4]) (tg := gPr (gNm 2) (gPr (gNm 3) (gNm 4))) (body := b1_first_fault) (fun ρ => ∃ j2 j3 j4, ρ = [some (.sh (.int m)), some (.sh (tI' T)), j2, j3, j4]) (fun k => decide (dif k 0 T % m % dvn m k ≠ 0)) (fun k => .int k) (enumZ ((dr m m T).map .int) ((dvs m).map .int)) 0 [some (.sh (.int m)), some (.sh (tI' T)), none, none, none] ⟨none, none, none, rfl⟩ (by
    rintro j x ρ hx ⟨j2, j3, j4, rfl⟩
    rw [Nat.zero_add]
    have hj : j < m := by
      have := (List.getElem?_eq_some_iff.mp hx).1
      rw [hlz] at this
      exact this
    have hj1 : j < ((dr m m T).map PyData.int).length := by rw [List.length_map, dr_len]; exact hj
    have hj2 : j < ((dvs m).map PyData.int).length := by rw [List.length_map, dvs_len]; exact hj
    rw [enumZ_get hj1 hj2] at hx
    have g1 : ((dr m m T).map PyData.int)[j] = .int (dif j 0 T % m) := by
      have a := get_map_int (l := dr m m T) (i := j) (by rw [dr_len]; exact hj)
      rw [List.getElem?_eq_getElem hj1] at a
      rw [Option.some.inj a, dr_val hmp hT.1 hj hT.2]
    have g2 : ((dvs m).map PyData.int)[j] = .int (dvn m j) := by
      have a := get_map_int (l := dvs m) (i := j) (by rw [dvs_len]; exact hj)
      rw [List.getElem?_eq_getElem hj2] at a
      rw [Option.some.inj a, dvs_get hj]
    rw [g1, g2, Int.zero_add] at hx
    cases hx
    have hp : (0 : Int) < dvn m j := by have := dvn_pos j (show 0 < m by omega); omega
    by_cases hc : dif j 0 T % m % dvn m j = 0
    · left
      refine ⟨by simp [hc], [some (.sh (.int m)), some (.sh (tI' T)), some (.sh (.int j)), some (.sh (.int (dif j 0 T % m))), some (.sh (.int (dvn m j)))], ?_, _, _, _, rfl⟩
      unfold turn b1_first_fault
      simp only [w_bnd, w_bndX, w_bndN, w_bndS, w_bndSX, w_bndSN, w_bndI, w_bndA, w_c, w_bin, w_un, w_nil, w_cons, w_fn, w_seq, w_nop, w_set, w_setO, w_ret, w_do, w_if, w_v0, w_o0, w_o0f, w_vs, w_clr0, w_clrs, w_nm, w_pr, w_add, w_sub, w_mul, w_addI, w_mulI, w_lt, w_le, w_gt, w_ge, w_truB, w_truI, w_truL, w_truT, w_truN, w_lenL, w_lenT, w_tupL, w_listT, w_listL, w_app, w_aug, w_for, List.set_cons_zero, List.set_cons_succ, List.getElem?_cons_zero, List.getElem?_cons_succ, List.length_cons, List.length_nil, Option.map_some, Option.map_none, Option.bind_some, Bool.or_true, Bool.true_or, eq_self, ite_true, ite_false, decide_true, decide_false, Int.reduceLT, Int.reduceLE, Int.reduceAdd, Int.reduceSub, Int.reduceMul, Int.reduceNeg, Nat.reduceAdd, Nat.reduceLT, Nat.reduceLeDiff, Nat.reduceEqDiff, reduceIte, w_lim, w_tup, w_lst, w_unp, w_and, w_or, w_andT, w_orT, w_not, w_ife, w_chain, w_isi, w_neg, w_isN, w_notN, w_raise, w_un0, w_max2, w_intI, w_intB, w_par, Bool.not_true, Bool.not_false, Int.zero_add, Nat.zero_add, w_mod hp, w_neI, hc]
    · right
      refine ⟨by simp [hc], ?_⟩
      unfold turn b1_first_fault
      simp only [w_bnd, w_bndX, w_bndN, w_bndS, w_bndSX, w_bndSN, w_bndI, w_bndA, w_c, w_bin, w_un, w_nil, w_cons, w_fn, w_seq, w_nop, w_set, w_setO, w_ret, w_do, w_if, w_v0, w_o0, w_o0f, w_vs, w_clr0, w_clrs, w_nm, w_pr, w_add, w_sub, w_mul, w_addI, w_mulI, w_lt, w_le, w_gt, w_ge, w_truB, w_truI, w_truL, w_truT, w_truN, w_lenL, w_lenT, w_tupL, w_listT, w_listL, w_app, w_aug, w_for, List.set_cons_zero, List.set_cons_succ, List.getElem?_cons_zero, List.getElem?_cons_succ, List.length_cons, List.length_nil, Option.map_some, Option.map_none, Option.bind_some, Bool.or_true, Bool.true_or, eq_self, ite_true, ite_false, decide_true, decide_false, Int.reduceLT, Int.reduceLE, Int.reduceAdd, Int.reduceSub, Int.reduceMul, Int.reduceNeg, Nat.reduceAdd, Nat.reduceLT, Nat.reduceLeDiff, Nat.reduceEqDiff, reduceIte, w_lim, w_tup, w_lst, w_unp, w_and, w_or, w_andT, w_orT, w_not, w_ife, w_chain, w_isi, w_neg, w_isN, w_notN, w_raise, w_un0, w_max2, w_intI, w_intB, w_par, Bool.not_true, Bool.not_false, Int.zero_add, Nat.zero_add, w_mod hp, w_neI, hc])
  rw [hlz, ← List.range_eq_range'] at key
  show runB 5 g_first_fault _ = _
  unfold runB g_first_fault t1_first_fault fault
  generalize hq : (List.range m).find? (fun k => decide (dif k 0 T % m % dvn m k ≠ 0)) = q at key ⊢
  cases q with
  | none =>
    obtain ⟨ρ', h1, j2, j3, j4, rfl⟩ := key
    simp only [w_bnd, w_bndX, w_bndN, w_bndS, w_bndSX, w_bndSN, w_bndI, w_bndA, w_c, w_bin, w_un, w_nil, w_cons, w_fn, w_seq, w_nop, w_set, w_setO, w_ret, w_do, w_if, w_v0, w_o0, w_o0f, w_vs, w_clr0, w_clrs, w_nm, w_pr, w_add, w_sub, w_mul, w_addI, w_mulI, w_lt, w_le, w_gt, w_ge, w_truB, w_truI, w_truL, w_truT, w_truN, w_lenL, w_lenT, w_tupL, w_listT, w_listL, w_app, w_aug, w_for, List.set_cons_zero, List.set_cons_succ, List.getElem?_cons_zero, List.getElem?_cons_succ, List.length_cons, List.length_nil, Option.map_some, Option.map_none, Option.bind_some, Bool.or_true, Bool.true_or, eq_self, ite_true, ite_false, decide_true, decide_false, Int.reduceLT, Int.reduceLE, Int.reduceAdd, Int.reduceSub, Int.reduceMul, Int.reduceNeg, Nat.reduceAdd, Nat.reduceLT, Nat.reduceLeDiff, Nat.reduceEqDiff, reduceIte, w_lim, w_tup, w_lst, w_unp, w_and, w_or, w_andT, w_orT, w_not, w_ife, w_chain, w_isi, w_neg, w_isN, w_notN, w_raise, w_un0, w_max2, w_intI, w_intB, w_par, Bool.not_true, Bool.not_false, Int.zero_add, Nat.zero_add, e2, hz, h1, optI]
  | some k =>
    have h1 : forL [2, 3, 4] (gPr (gNm 2) (gPr (gNm 3) (gNm 4))) b1_first_fault (enumZ ((dr m m T).map .int) ((dvs m).map .int)) [some (.sh (.int m)), some (.sh (tI' T)), none, none, none] = some (.rt (.int k)) := key
    simp only [w_bnd, w_bndX, w_bndN, w_bndS, w_bndSX, w_bndSN, w_bndI, w_bndA, w_c, w_bin, w_un, w_nil, w_cons, w_fn, w_seq, w_nop, w_set, w_setO, w_ret, w_do, w_if, w_v0, w_o0, w_o0f, w_vs, w_clr0, w_clrs, w_nm, w_pr, w_add, w_sub, w_mul, w_addI, w_mulI, w_lt, w_le, w_gt, w_ge, w_truB, w_truI, w_truL, w_truT, w_truN, w_lenL, w_lenT, w_tupL, w_listT, w_listL, w_app, w_aug, w_for, List.set_cons_zero, List.set_cons_succ, List.getElem?_cons_zero, List.getElem?_cons_succ, List.length_cons, List.length_nil, Option.map_some, Option.map_none, Option.bind_some, Bool.or_true, Bool.true_or, eq_self, ite_true, ite_false, decide_true, decide_false, Int.reduceLT, Int.reduceLE, Int.reduceAdd, Int.reduceSub, Int.reduceMul, Int.reduceNeg, Nat.reduceAdd, Nat.reduceLT, Nat.reduceLeDiff, Nat.reduceEqDiff, reduceIte, w_lim, w_tup, w_lst, w_unp, w_and, w_or, w_andT, w_orT, w_not, w_ife, w_chain, w_isi, w_neg, w_isN, w_notN, w_raise, w_un0, w_max2, w_intI, w_intB, w_par, Bool.not_true, Bool.not_false, Int.zero_add, Nat.zero_add, e2, hz, h1, optI]
/-! ## data: plain, shallow -/
/-- plain, of at most that depth -/
def Sh (n : Nat) (d : Dt) : Prop := d.plain = true ∧ d.depth ≤ n
theorem Sh.int (n : Nat) (i : Int) : Sh n (.int i) := ⟨by simp [PyData.plain], by simp [PyData.depth]⟩
theorem Sh.none (n : Nat) : Sh n .none := ⟨by simp [PyData.plain], by simp [PyData.depth]⟩
theorem Sh.bool (n : Nat) (b : Bool) : Sh n (.bool b) := ⟨by simp [PyData.plain], by simp [PyData.depth]⟩
theorem Sh.str (n : Nat) (b : Str) : Sh n (.str b) := ⟨by simp [PyData.plain], by simp [PyData.depth]⟩
theorem Sh.all {n : Nat} : ∀ {l : List Dt}, (∀ d ∈ l, Sh n d) → PyData.plainAll l = true ∧ PyData.depthAll l ≤ n
  | [], _ => ⟨by simp [PyData.plainAll], by simp [PyData.depthAll]⟩
  | x :: l, h => by
    have h1 := h x List.mem_cons_self
    have h2 := Sh.all fun d hd => h d (List.mem_cons_of_mem _ hd)
    refine ⟨by rw [PyData.plainAll, h1.1, h2.1]; rfl, ?_⟩
    rw [PyData.depthAll]
    exact Nat.max_le.mpr ⟨h1.2, h2.2⟩
theorem Sh.list {n : Nat} {l : List Dt} (h : ∀ d ∈ l, Sh n d) : Sh (n + 1) (.list l) := by
  have := Sh.all h
  exact ⟨by rw [PyData.plain]; exact this.1, by rw [PyData.depth]; omega⟩
theorem Sh.tuple {n : Nat} {l : List Dt} (h : ∀ d ∈ l, Sh n d) : Sh (n + 1) (.tuple l) := by
  have := Sh.all h
  exact ⟨by rw [PyData.plain]; exact this.1, by rw [PyData.depth]; omega⟩
theorem Sh.mono {n m : Nat} {d : Dt} (h : Sh n d) (hm : n ≤ m) : Sh m d := ⟨h.1, Nat.le_trans h.2 hm⟩
theorem Sh.tI (l : List Int) (n : Nat) : Sh (n + 1) (tI' l) := Sh.tuple fun d hd => by
  obtain ⟨i, _, rfl⟩ := List.mem_map.mp hd
  exact Sh.int n i
theorem Sh.lI (l : List Int) (n : Nat) : Sh (n + 1) (.list (l.map .int)) := Sh.list fun d hd => by
  obtain ⟨i, _, rfl⟩ := List.mem_map.mp hd
  exact Sh.int n i
theorem eq_sh {a b : Dt} (ha : Sh 60 a) (hb : Sh 60 b) : dEq a b = some (.bool (PyData.eqv a b)) := by
  unfold dEq
  rw [if_pos]
  rw [ha.1, hb.1]
  simp [dep, ha.2]
theorem ne_sh {a b : Dt} (ha : Sh 60 a) (hb : Sh 60 b) : dNe a b = some (.bool (!PyData.eqv a b)) := by
  unfold dNe
  rw [if_pos]
  rw [ha.1, hb.1]
  simp [dep, ha.2]
theorem eqv_refl {a : Dt} (ha : a.plain = true) : PyData.eqv a a = true := SeqAt.eqv_refl_plain a ha
theorem eq_self {a : Dt} (ha : Sh 60 a) : dEq a a = some (.bool true) := by rw [eq_sh ha ha, eqv_refl ha.1]
theorem eqvI : ∀ (a b : List Int), PyData.eqvAll (a.map .int) (b.map .int) = decide (a = b)
  | [], [] => by simp [PyData.eqvAll]
  | [], _ :: _ => by simp [PyData.eqvAll]
  | _ :: _, [] => by simp [PyData.eqvAll]
  | x :: a, y :: b => by
    rw [List.map_cons, List.map_cons, PyData.eqvAll, eqvI a b, eqv_int]
    by_cases h1 : x = y <;> by_cases h2 : a = b <;> simp [h1, h2]
theorem w_eqT (a b : List Int) : dEq (tI' a) (tI' b) = some (.bool (decide (a = b))) := by
  rw [eq_sh ((Sh.tI a 0).mono (by omega)) ((Sh.tI b 0).mono (by omega)), PyData.eqv, eqvI]
theorem w_neT (a b : List Int) : dNe (tI' a) (tI' b) = some (.bool (!decide (a = b))) := by
  rw [ne_sh ((Sh.tI a 0).mono (by omega)) ((Sh.tI b 0).mono (by omega)), PyData.eqv, eqvI]
theorem w_eqL (a b : List Int) : dEq (.list (a.map .int)) (.list (b.map .int)) = some (.bool (decide (a = b))) := by
  rw [eq_sh ((Sh.lI a 0).mono (by omega)) ((Sh.lI b 0).mono (by omega)), PyData.eqv, eqvI]
theorem w_neL (a b : List Int) : dNe (.list (a.map .int)) (.list (b.map .int)) = some (.bool (!decide (a = b))) := by
  rw [ne_sh ((Sh.lI a 0).mono (by omega)) ((Sh.lI b 0).mono (by omega)), PyData.eqv, eqvI]
/-! a comprehension over a range, with a test -/
def pIx (p : Nat → Bool) : Dt → Bool
  | .int v => p v.toNat
  | _ => false
def vIx (v : Nat → Dt) : Dt → Dt
  | .int i => v i.toNat
  | y => y
theorem lcL_rgF {c e : EF} {tg : GF} {ρ : En} (n : Nat) (p : Nat → Bool) (v : Nat → Dt) (H : ∀ i, i < n → ∃ ρ1 d, tg (.int (i : Int)) ρ = some ρ1 ∧ c true ρ1 = some (.val d) ∧ tru d = some (p i) ∧ (p i = true → e false ρ1 = some (.val (v i)))) : lcL c e tg ρ (rgL 0 n) = some (((List.range n).filter p).map v) := by
  have hl := lcL_filter (c := c) (e := e) (tg := tg) (ρ := ρ) (pIx p) (vIx v) (rgL 0 n) fun x hx => by
    obtain ⟨i, hi, rfl⟩ := rgL_mem hx
    obtain ⟨ρ1, d, h1, h2, h3, h4⟩ := H i hi
    rw [Int.zero_add]
    refine ⟨ρ1, d, h1, h2, ?_, ?_⟩
    · show tru d = some (p (i : Int).toNat)
      rw [Int.toNat_natCast]; exact h3
    · show p (i : Int).toNat = true → e false ρ1 = some (.val (v (i : Int).toNat))
      rw [Int.toNat_natCast]; exact h4
  rw [hl]
  unfold rgL
  rw [List.filter_map, List.map_map]
  have e1 : (List.range n).filter (pIx p ∘ fun i => PyData.int (0 + ((i : Nat) : Int))) = (List.range n).filter p := by
    refine List.filter_congr fun i _ => ?_
    show p (0 + (i : Int)).toNat = p i
    congr 1
    omega
  rw [e1]
  congr 1
  refine List.map_congr_left fun i _ => ?_
  show v (0 + (i : Int)).toNat = v i
  congr 1
  omega
theorem enumD_get {xs : List Dt} {i : Nat} (h : i < xs.length) : (enumD xs)[i]? = some (.tuple [.int (0 + (i : Nat)), xs[i]]) := by
  unfold enumD
  rw [List.getElem?_zipWith, rgL_get h, List.getElem?_eq_getElem h]
theorem enumD_len (xs : List Dt) : (enumD xs).length = xs.length := by
  unfold enumD
  rw [List.length_zipWith, rgL_length]
  omega
theorem enumD_at {l : List Int} {i : Nat} {x : Dt} (h : (enumD (l.map .int))[i]? = some x) : i < l.length ∧ x = .tuple [.int (i : Nat), .int (l.getD i 0)] := by
  have hi : i < (l.map PyData.int).length := by
    have := (List.getElem?_eq_some_iff.mp h).1
    rw [enumD_len] at this
    exact this
  rw [enumD_get hi, Int.zero_add] at h
  have hi' : i < l.length := by rw [List.length_map] at hi; exact hi
  have a := get_map_int (l := l) hi'
  rw [List.getElem?_eq_getElem hi] at a
  rw [Option.some.inj a] at h
  exact ⟨hi', (Option.some.inj h).symm⟩
/-! ## any object -/
def inr (d : Dt) (lo hi : Int) : Bool := match d with
  | .int v => decide (lo ≤ v) && decide (v ≤ hi)
  | _ => false
theorem w_inrG (d : Dt) (lo hi : Int) : F_in_range [d, .int lo, .int hi] = some (.val (.bool (inr d lo hi))) := by
  cases d with
  | int v => exact w_inr v lo hi
  | none => rfl
  | bool b => rfl
  | str s => rfl
  | list l => rfl
  | tuple l => rfl
  | dict l =>
    cases l with
    | nil => rfl
    | cons x l =>
      obtain ⟨a, b⟩ := x
      cases a <;> rfl
theorem isi_tuple (d : Dt) : dIsi "tuple" d = match d with
  | .tuple _ => true
  | _ => false := by
  cases d with
  | dict l =>
    cases l with
    | nil => rfl
    | cons x l =>
      obtain ⟨a, b⟩ := x
      cases a <;> rfl
  | _ => rfl
/-! ## faults and divisible differences -/
theorem dif_dfn (row : List Int) : ∀ (k i : Nat), dif k i row = dfn k i (fun s => row.getD s 0)
  | 0, i => rfl
  | k + 1, i => by
    show dif k (i + 1) row - dif k i row = _
    rw [dif_dfn row k (i + 1), dif_dfn row k i]
    rfl
theorem modmod {m d : Nat} (hd : (d : Int) ∣ (m : Int)) (x : Int) : x % m % d = 0 ↔ (d : Int) ∣ x := by
  rw [Int.emod_emod_of_dvd x hd]
  exact ⟨Int.dvd_of_emod_eq_zero, Int.emod_eq_zero_of_dvd⟩
theorem rot0' (T : List Int) : rot T 0 = T := by unfold rot; simp
theorem fault_pol (m : Nat) (T : List Int) : fault m T = none ↔ Pol m (fun s => T.getD s 0) := by
  unfold fault
  rw [List.find?_eq_none]
  constructor
  · intro h o ho
    have := h o (List.mem_range.mpr ho)
    have h2 : dif o 0 T % m % dvn m o = 0 := by simpa using this
    rw [modmod (dvn_dvd m o), dif_dfn] at h2
    exact h2
  · intro h o ho
    have := h o (List.mem_range.mp ho)
    rw [← dif_dfn, ← modmod (dvn_dvd m o)] at this
    simpa using this
/-! ## is_polynomial -/
theorem w_ispol (m : Nat) (T : List Int) (h2 : 2 ≤ m) (h12 : m ≤ 12) (hT : IsTab m T) : F_is_polynomial [.int m, tI' T] = some (.val (.bool (fault m T).isNone)) := by
  have e2 : start0 2 [.int m, tI' T] = [some (.sh (.int m)), some (.sh (tI' T))] := rfl
  refine run_rt ?_
  rw [e2]
  unfold g_is_polynomial
  rw [seq_nx (do_v (d := .none) (by simp only [w_bnd, w_bndX, w_bndN, w_bndS, w_bndSX, w_bndSN, w_bndI, w_bndA, w_c, w_bin, w_un, w_nil, w_cons, w_fn, w_seq, w_nop, w_set, w_setO, w_ret, w_do, w_if, w_v0, w_o0, w_o0f, w_vs, w_clr0, w_clrs, w_nm, w_pr, w_add, w_sub, w_mul, w_addI, w_mulI, w_lt, w_le, w_gt, w_ge, w_truB, w_truI, w_truL, w_truT, w_truN, w_lenL, w_lenT, w_tupL, w_listT, w_listL, w_app, w_aug, w_for, List.set_cons_zero, List.set_cons_succ, List.getElem?_cons_zero, List.getElem?_cons_succ, List.length_cons, List.length_nil, Option.map_some, Option.map_none, Option.bind_some, Bool.or_true, Bool.true_or, eq_self, ite_true, ite_false, decide_true, decide_false, Int.reduceLT, Int.reduceLE, Int.reduceAdd, Int.reduceSub, Int.reduceMul, Int.reduceNeg, Nat.reduceAdd, Nat.reduceLT, Nat.reduceLeDiff, Nat.reduceEqDiff, reduceIte, w_lim, w_tup, w_lst, w_unp, w_and, w_or, w_andT, w_orT, w_not, w_ife, w_chain, w_isi, w_neg, w_isN, w_notN, w_raise, w_un0, w_max2, w_intI, w_intB, w_par, Bool.not_true, Bool.not_false, Int.zero_add, Nat.zero_add, w_ckt m T h2 h12 hT]))]
  unfold t1_is_polynomial
  refine ret_v ?_
  have hn : ∀ x, isN (optI x) = x.isNone := fun x => by cases x <;> rfl
  simp only [w_bnd, w_bndX, w_bndN, w_bndS, w_bndSX, w_bndSN, w_bndI, w_bndA, w_c, w_bin, w_un, w_nil, w_cons, w_fn, w_seq, w_nop, w_set, w_setO, w_ret, w_do, w_if, w_v0, w_o0, w_o0f, w_vs, w_clr0, w_clrs, w_nm, w_pr, w_add, w_sub, w_mul, w_addI, w_mulI, w_lt, w_le, w_gt, w_ge, w_truB, w_truI, w_truL, w_truT, w_truN, w_lenL, w_lenT, w_tupL, w_listT, w_listL, w_app, w_aug, w_for, List.set_cons_zero, List.set_cons_succ, List.getElem?_cons_zero, List.getElem?_cons_succ, List.length_cons, List.length_nil, Option.map_some, Option.map_none, Option.bind_some, Bool.or_true, Bool.true_or, eq_self, ite_true, ite_false, decide_true, decide_false, Int.reduceLT, Int.reduceLE, Int.reduceAdd, Int.reduceSub, Int.reduceMul, Int.reduceNeg, Nat.reduceAdd, Nat.reduceLT, Nat.reduceLeDiff, Nat.reduceEqDiff, reduceIte, w_lim, w_tup, w_lst, w_unp, w_and, w_or, w_andT, w_orT, w_not, w_ife, w_chain, w_isi, w_neg, w_isN, w_notN, w_raise, w_un0, w_max2, w_intI, w_intB, w_par, Bool.not_true, Bool.not_false, Int.zero_add, Nat.zero_add, w_fault m T h2 h12 hT, hn]
/-! ## the law: values of polynomials -/
theorem pst_add (nums : List Int) (x : Int) : ∀ i, i ≤ nums.length → (pst nums x i).1 + (pst nums x i).2 * pv x (nums.drop i) = pv x nums
  | 0, _ => by simp [pst]
  | i + 1, h => by
    have ih := pst_add nums x i (by omega)
    have hi : i < nums.length := by omega
    rw [← ih, List.drop_eq_getElem_cons hi]
    have e : nums.getD i 0 = nums[i] := by rw [List.getD_eq_getElem?_getD, List.getElem?_eq_getElem hi]; rfl
    show (pst nums x i).1 + nums.getD i 0 * (pst nums x i).2 + (pst nums x i).2 * x * pv x (nums.drop (i + 1)) = (pst nums x i).1 + (pst nums x i).2 * (nums[i] + x * pv x (nums.drop (i + 1)))
    rw [e, Int.mul_add, Int.mul_comm nums[i], Int.mul_assoc]
    omega
theorem lval_pv (m : Int) (nums : List Int) (x : Int) : lval m nums x = pv x nums % m := by
  have := pst_add nums x nums.length (Nat.le_refl _)
  rw [List.drop_length] at this
  unfold lval
  rw [← this]
  simp [pv]
/-! ## tables of polynomials; uniqueness -/
def ltab (m : Nat) (nums : List Int) : List Int := (List.range m).map fun x => lval m nums ((x : Nat) : Int)
theorem ltab_get {m : Nat} (nums : List Int) {x : Nat} (h : x < m) : (ltab m nums).getD x 0 = lval m nums (x : Nat) := by
  unfold ltab
  rw [List.getD_eq_getElem?_getD, List.getElem?_map, List.getElem?_range h]
  rfl
theorem ltab_tab {m : Nat} (h : 0 < m) (nums : List Int) : IsTab m (ltab m nums) := ⟨by unfold ltab; rw [List.length_map, List.length_range], fun y hy => by
  unfold ltab at hy
  obtain ⟨i, _, rfl⟩ := List.mem_map.mp hy
  exact ⟨Int.emod_nonneg _ (by omega), Int.emod_lt_of_pos _ (by omega)⟩⟩
theorem ltab_pol {m : Nat} (h2 : 2 ≤ m) (h12 : m ≤ 12) (nums : List Int) : fault m (ltab m nums) = none := by
  rw [fault_pol]
  refine (Pol.pv h2 h12 nums).congr fun x hx => ?_
  show Cg m ((ltab m nums).getD x 0) _
  rw [ltab_get nums hx, lval_pv]
  exact Cg.emod m _
end PT

namespace PT
open PySem PySem.Spec PyProof.Rows L2
/-! ## tables, any object -/
def tabOk (m : Nat) : Dt → Bool
  | .tuple ds => decide (ds.length = m) && (ds.filter fun d => !inr d 0 ((m : Int) - 1)).isEmpty
  | _ => false
theorem w_validG (m : Nat) (d : Dt) (h12 : m ≤ 12) : F_is_valid_table [.int m, d] = some (.val (.bool (tabOk m d))) := by
  refine run_rt ?_
  rw [show start0 3 [.int m, d] = [some (.sh (.int m)), some (.sh (d)), none] from rfl]
  unfold g_is_valid_table
  by_cases ht : ∃ ds, d = .tuple ds
  · obtain ⟨ds, rfl⟩ := ht
    have i1 : dIsi "tuple" (.tuple ds) = true := by rfl
    by_cases hl : ds.length = m
    · have hne : dNe (.int (ds.length : Int)) (.int (m : Int)) = some (.bool false) := by rw [w_neI, hl]; simp
      have hlc : lcL (eNot (eFn 3 F_in_range (aCons (eVar 2) (aCons (eC (.int 0)) (aCons (eBin dSub (eVar 0) (eC (.int 1))) (aNil)))))) (eVar 2) (gNm 2) [some (.sh (.int m)), some (.sh (.tuple ds)), none] ds = some ((ds.filter fun d => !inr d 0 ((m : Int) - 1)).map fun d => d) := by
        refine lcL_filter (fun d => !inr d 0 ((m : Int) - 1)) (fun d => d) _ fun x hx => ?_
        have hr := w_inrG x 0 ((m : Int) - 1)
        refine ⟨_, .bool (!inr x 0 ((m : Int) - 1)), rfl, ?_, rfl, fun z => rfl⟩
        simp only [w_bnd, w_bndX, w_bndN, w_bndS, w_bndSX, w_bndSN, w_bndI, w_bndA, w_c, w_bin, w_un, w_nil, w_cons, w_fn, w_seq, w_nop, w_set, w_setO, w_ret, w_do, w_if, w_v0, w_o0, w_o0f, w_vs, w_clr0, w_clrs, w_nm, w_pr, w_add, w_sub, w_mul, w_addI, w_mulI, w_lt, w_le, w_gt, w_ge, w_truB, w_truI, w_truL, w_truT, w_truN, w_lenL, w_lenT, w_tupL, w_listT, w_listL, w_app, w_aug, w_for, List.set_cons_zero, List.set_cons_succ, List.getElem?_cons_zero, List.getElem?_cons_succ, List.length_cons, List.length_nil, Option.map_some, Option.map_none, Option.bind_some, Bool.or_true, Bool.true_or, eq_self, ite_true, ite_false, decide_true, decide_false, Int.reduceLT, Int.reduceLE, Int.reduceAdd, Int.reduceSub, Int.reduceMul, Int.reduceNeg, Nat.reduceAdd, Nat.reduceLT, Nat.reduceLeDiff, Nat.reduceEqDiff, reduceIte, w_lim, w_tup, w_lst, w_unp, w_and, w_or, w_andT, w_orT, w_not, w_ife, w_chain, w_isi, w_neg, w_isN, w_notN, w_raise, w_un0, w_max2, w_intI, w_intB, w_par, Bool.not_true, Bool.not_false, Int.zero_add, Nat.zero_add, hr]
      rw [List.map_id'] at hlc
      have hc : (eLc [2] (gNm 2) (iSeq (eVar 1)) (eNot (eFn 3 F_in_range (aCons (eVar 2) (aCons (eC (.int 0)) (aCons (eBin dSub (eVar 0) (eC (.int 1))) (aNil)))))) (eVar 2)) true [some (.sh (.int m)), some (.sh (.tuple ds)), none] = some (.val (.list (ds.filter fun d => !inr d 0 ((m : Int) - 1)))) := w_lc (w_seqT rfl) rfl (by rw [hl]; unfold lim; omega) hlc
      refine (seq_nx (ρ' := [some (.sh (.int m)), some (.sh (.tuple ds)), none]) ?_).trans ?_
      · rw [if_f (d := .bool false)]
        · rfl
        · simp only [w_bnd, w_bndX, w_bndN, w_bndS, w_bndSX, w_bndSN, w_bndI, w_bndA, w_c, w_bin, w_un, w_nil, w_cons, w_fn, w_seq, w_nop, w_set, w_setO, w_ret, w_do, w_if, w_v0, w_o0, w_o0f, w_vs, w_clr0, w_clrs, w_nm, w_pr, w_add, w_sub, w_mul, w_addI, w_mulI, w_lt, w_le, w_gt, w_ge, w_truB, w_truI, w_truL, w_truT, w_truN, w_lenL, w_lenT, w_tupL, w_listT, w_listL, w_app, w_aug, w_for, List.set_cons_zero, List.set_cons_succ, List.getElem?_cons_zero, List.getElem?_cons_succ, List.length_cons, List.length_nil, Option.map_some, Option.map_none, Option.bind_some, Bool.or_true, Bool.true_or, eq_self, ite_true, ite_false, decide_true, decide_false, Int.reduceLT, Int.reduceLE, Int.reduceAdd, Int.reduceSub, Int.reduceMul, Int.reduceNeg, Nat.reduceAdd, Nat.reduceLT, Nat.reduceLeDiff, Nat.reduceEqDiff, reduceIte, w_lim, w_tup, w_lst, w_unp, w_and, w_or, w_andT, w_orT, w_not, w_ife, w_chain, w_isi, w_neg, w_isN, w_notN, w_raise, w_un0, w_max2, w_intI, w_intB, w_par, Bool.not_true, Bool.not_false, Int.zero_add, Nat.zero_add, i1, hne]
        · rfl
      · unfold t1_is_valid_table
        refine ret_v ?_
        have ee : (!(!(ds.filter fun d => !inr d 0 ((m : Int) - 1)).isEmpty)) = tabOk m (.tuple ds) := by
          show _ = (decide (ds.length = m) && (ds.filter fun d => !inr d 0 ((m : Int) - 1)).isEmpty)
          rw [decide_eq_true hl, Bool.true_and, Bool.not_not]
        simp only [w_bnd, w_bndX, w_bndN, w_bndS, w_bndSX, w_bndSN, w_bndI, w_bndA, w_c, w_bin, w_un, w_nil, w_cons, w_fn, w_seq, w_nop, w_set, w_setO, w_ret, w_do, w_if, w_v0, w_o0, w_o0f, w_vs, w_clr0, w_clrs, w_nm, w_pr, w_add, w_sub, w_mul, w_addI, w_mulI, w_lt, w_le, w_gt, w_ge, w_truB, w_truI, w_truL, w_truT, w_truN, w_lenL, w_lenT, w_tupL, w_listT, w_listL, w_app, w_aug, w_for, List.set_cons_zero, List.set_cons_succ, List.getElem?_cons_zero, List.getElem?_cons_succ, List.length_cons, List.length_nil, Option.map_some, Option.map_none, Option.bind_some, Bool.or_true, Bool.true_or, eq_self, ite_true, ite_false, decide_true, decide_false, Int.reduceLT, Int.reduceLE, Int.reduceAdd, Int.reduceSub, Int.reduceMul, Int.reduceNeg, Nat.reduceAdd, Nat.reduceLT, Nat.reduceLeDiff, Nat.reduceEqDiff, reduceIte, w_lim, w_tup, w_lst, w_unp, w_and, w_or, w_andT, w_orT, w_not, w_ife, w_chain, w_isi, w_neg, w_isN, w_notN, w_raise, w_un0, w_max2, w_intI, w_intB, w_par, Bool.not_true, Bool.not_false, Int.zero_add, Nat.zero_add, hc, ee]
    · have hne : dNe (.int (ds.length : Int)) (.int (m : Int)) = some (.bool true) := by rw [w_neI, decide_eq_false (by omega)]; rfl
      have ep : tabOk m (.tuple ds) = false := by
        show (decide (ds.length = m) && _) = false
        rw [decide_eq_false hl, Bool.false_and]
      rw [ep, seq_rt (d := .bool false)]
      rw [if_t (d := .bool true)]
      · rfl
      · simp only [w_bnd, w_bndX, w_bndN, w_bndS, w_bndSX, w_bndSN, w_bndI, w_bndA, w_c, w_bin, w_un, w_nil, w_cons, w_fn, w_seq, w_nop, w_set, w_setO, w_ret, w_do, w_if, w_v0, w_o0, w_o0f, w_vs, w_clr0, w_clrs, w_nm, w_pr, w_add, w_sub, w_mul, w_addI, w_mulI, w_lt, w_le, w_gt, w_ge, w_truB, w_truI, w_truL, w_truT, w_truN, w_lenL, w_lenT, w_tupL, w_listT, w_listL, w_app, w_aug, w_for, List.set_cons_zero, List.set_cons_succ, List.getElem?_cons_zero, List.getElem?_cons_succ, List.length_cons, List.length_nil, Option.map_some, Option.map_none, Option.bind_some, Bool.or_true, Bool.true_or, eq_self, ite_true, ite_false, decide_true, decide_false, Int.reduceLT, Int.reduceLE, Int.reduceAdd, Int.reduceSub, Int.reduceMul, Int.reduceNeg, Nat.reduceAdd, Nat.reduceLT, Nat.reduceLeDiff, Nat.reduceEqDiff, reduceIte, w_lim, w_tup, w_lst, w_unp, w_and, w_or, w_andT, w_orT, w_not, w_ife, w_chain, w_isi, w_neg, w_isN, w_notN, w_raise, w_un0, w_max2, w_intI, w_intB, w_par, Bool.not_true, Bool.not_false, Int.zero_add, Nat.zero_add, i1, hne]
      · rfl
  · have i1 : dIsi "tuple" d = false := by
      rw [isi_tuple]
      cases d with
      | tuple ds => exact absurd ⟨ds, rfl⟩ ht
      | _ => rfl
    have ep : tabOk m d = false := by
      cases d with
      | tuple ds => exact absurd ⟨ds, rfl⟩ ht
      | _ => rfl
    rw [ep, seq_rt (d := .bool false)]
    rw [if_t (d := .bool true)]
    · rfl
    · simp only [w_bnd, w_bndX, w_bndN, w_bndS, w_bndSX, w_bndSN, w_bndI, w_bndA, w_c, w_bin, w_un, w_nil, w_cons, w_fn, w_seq, w_nop, w_set, w_setO, w_ret, w_do, w_if, w_v0, w_o0, w_o0f, w_vs, w_clr0, w_clrs, w_nm, w_pr, w_add, w_sub, w_mul, w_addI, w_mulI, w_lt, w_le, w_gt, w_ge, w_truB, w_truI, w_truL, w_truT, w_truN, w_lenL, w_lenT, w_tupL, w_listT, w_listL, w_app, w_aug, w_for, List.set_cons_zero, List.set_cons_succ, List.getElem?_cons_zero, List.getElem?_cons_succ, List.length_cons, List.length_nil, Option.map_some, Option.map_none, Option.bind_some, Bool.or_true, Bool.true_or, eq_self, ite_true, ite_false, decide_true, decide_false, Int.reduceLT, Int.reduceLE, Int.reduceAdd, Int.reduceSub, Int.reduceMul, Int.reduceNeg, Nat.reduceAdd, Nat.reduceLT, Nat.reduceLeDiff, Nat.reduceEqDiff, reduceIte, w_lim, w_tup, w_lst, w_unp, w_and, w_or, w_andT, w_orT, w_not, w_ife, w_chain, w_isi, w_neg, w_isN, w_notN, w_raise, w_un0, w_max2, w_intI, w_intB, w_par, Bool.not_true, Bool.not_false, Int.zero_add, Nat.zero_add, i1]
    · rfl
theorem tab_ok {m : Nat} {T : List Int} (hT : IsTab m T) : tabOk m (tI' T) = true := by
  show (decide ((T.map PyData.int).length = m) && ((T.map PyData.int).filter fun d => !inr d 0 ((m : Int) - 1)).isEmpty) = true
  rw [decide_eq_true (by rw [List.length_map]; exact hT.1), Bool.true_and, List.isEmpty_iff, List.filter_eq_nil_iff]
  intro x hx
  obtain ⟨v, hv, rfl⟩ := List.mem_map.mp hx
  have := hT.2 v hv
  show ¬ (!(decide ((0 : Int) ≤ v) && decide (v ≤ (m : Int) - 1))) = true
  rw [decide_eq_true this.1, decide_eq_true (by omega)]
  decide
theorem tab_len {m : Nat} {ds : List Dt} (h : ds.length ≠ m) : tabOk m (.tuple ds) = false := by
  show (decide (ds.length = m) && _) = false
  rw [decide_eq_false h, Bool.false_and]
theorem tab_mem {m : Nat} {ds : List Dt} {d : Dt} (h : d ∈ ds) (hb : inr d 0 ((m : Int) - 1) = false) : tabOk m (.tuple ds) = false := by
  show (decide (ds.length = m) && (ds.filter fun d => !inr d 0 ((m : Int) - 1)).isEmpty) = false
  have hf : d ∈ ds.filter fun d => !inr d 0 ((m : Int) - 1) := List.mem_filter.mpr ⟨h, by rw [hb]; rfl⟩
  cases e : ds.filter fun d => !inr d 0 ((m : Int) - 1) with
  | nil => rw [e] at hf; cases hf
  | cons _ _ => simp
theorem w_ckt_bad (m : Nat) (d : Dt) (h2 : 2 ≤ m) (h12 : m ≤ 12) (hb : tabOk m d = false) : F_check_table [.int m, d] = some (.exc "InvalidTable" none) := by
  have hv := w_validG m d h12
  rw [hb] at hv
  refine run_ex ?_
  rw [show start0 2 [.int m, d] = [some (.sh (.int m)), some (.sh (d))] from rfl]
  unfold g_check_table
  rw [seq_nx (do_v (d := .none) (by simp only [w_bnd, w_bndX, w_bndN, w_bndS, w_bndSX, w_bndSN, w_bndI, w_bndA, w_c, w_bin, w_un, w_nil, w_cons, w_fn, w_seq, w_nop, w_set, w_setO, w_ret, w_do, w_if, w_v0, w_o0, w_o0f, w_vs, w_clr0, w_clrs, w_nm, w_pr, w_add, w_sub, w_mul, w_addI, w_mulI, w_lt, w_le, w_gt, w_ge, w_truB, w_truI, w_truL, w_truT, w_truN, w_lenL, w_lenT, w_tupL, w_listT, w_listL, w_app, w_aug, w_for, List.set_cons_zero, List.set_cons_succ, List.getElem?_cons_zero, List.getElem?_cons_succ, List.length_cons, List.length_nil, Option.map_some, Option.map_none, Option.bind_some, Bool.or_true, Bool.true_or, eq_self, ite_true, ite_false, decide_true, decide_false, Int.reduceLT, Int.reduceLE, Int.reduceAdd, Int.reduceSub, Int.reduceMul, Int.reduceNeg, Nat.reduceAdd, Nat.reduceLT, Nat.reduceLeDiff, Nat.reduceEqDiff, reduceIte, w_lim, w_tup, w_lst, w_unp, w_and, w_or, w_andT, w_orT, w_not, w_ife, w_chain, w_isi, w_neg, w_isN, w_notN, w_raise, w_un0, w_max2, w_intI, w_intB, w_par, Bool.not_true, Bool.not_false, Int.zero_add, Nat.zero_add, w_ckm m h2 h12]))]
  unfold t1_check_table
  rw [if_t (d := .bool true)]
  · rfl
  · simp only [w_bnd, w_bndX, w_bndN, w_bndS, w_bndSX, w_bndSN, w_bndI, w_bndA, w_c, w_bin, w_un, w_nil, w_cons, w_fn, w_seq, w_nop, w_set, w_setO, w_ret, w_do, w_if, w_v0, w_o0, w_o0f, w_vs, w_clr0, w_clrs, w_nm, w_pr, w_add, w_sub, w_mul, w_addI, w_mulI, w_lt, w_le, w_gt, w_ge, w_truB, w_truI, w_truL, w_truT, w_truN, w_lenL, w_lenT, w_tupL, w_listT, w_listL, w_app, w_aug, w_for, List.set_cons_zero, List.set_cons_succ, List.getElem?_cons_zero, List.getElem?_cons_succ, List.length_cons, List.length_nil, Option.map_some, Option.map_none, Option.bind_some, Bool.or_true, Bool.true_or, eq_self, ite_true, ite_false, decide_true, decide_false, Int.reduceLT, Int.reduceLE, Int.reduceAdd, Int.reduceSub, Int.reduceMul, Int.reduceNeg, Nat.reduceAdd, Nat.reduceLT, Nat.reduceLeDiff, Nat.reduceEqDiff, reduceIte, w_lim, w_tup, w_lst, w_unp, w_and, w_or, w_andT, w_orT, w_not, w_ife, w_chain, w_isi, w_neg, w_isN, w_notN, w_raise, w_un0, w_max2, w_intI, w_intB, w_par, Bool.not_true, Bool.not_false, Int.zero_add, Nat.zero_add, hv]
  · rfl
theorem inr_m (m : Nat) : inr (.int (m : Int)) 0 ((m : Int) - 1) = false := by
  show (decide ((0 : Int) ≤ m) && decide ((m : Int) ≤ (m : Int) - 1)) = false
  rw [decide_eq_false (p := (m : Int) ≤ (m : Int) - 1) (by omega), Bool.and_false]
/-! ## k09: tuples -/
def extL (m : Nat) (P : List (List Int)) : List (List Int) := P.flatMap fun t => (List.range m).map fun v => t ++ [((v : Nat) : Int)]
def tupL (m : Nat) : Nat → List (List Int)
  | 0 => [[]]
  | c + 1 => extL m (tupL m c)
theorem ext_v {i : Nat} {f : EF} {ρ : En} {xs ys : List Dt} (hi : ρ[i]? = some (some (.own xs))) (h : f true ρ = some (.val (.list ys))) (hz : xs.length + ys.length ≤ lim) : sExt i f ρ = some (.nx (ρ.set i (some (.own (xs ++ ys))))) := by
  unfold sExt
  rw [hi]
  show (bndS (f true ρ) fun d => (match d with
    | .list ys => if xs.length + ys.length ≤ lim then some (.nx (ρ.set i (some (.own (xs ++ ys))))) else none
    | _ => none)) = _
  rw [h, w_bndS]
  show (if xs.length + ys.length ≤ lim then some (Out.nx (ρ.set i (some (.own (xs ++ ys))))) else none) = _
  rw [if_pos hz]
theorem extL_len (m : Nat) (P : List (List Int)) : (extL m P).length = P.length * m := by
  unfold extL
  rw [List.length_flatMap]
  induction P with
  | nil => simp
  | cons t P ih =>
    rw [List.map_cons, List.sum_cons, ih, List.length_map, List.length_range, List.length_cons, Nat.succ_mul, Nat.add_comm]
theorem extL_app (m : Nat) (P R : List (List Int)) : extL m (P ++ R) = extL m P ++ extL m R := by
  unfold extL
  rw [List.flatMap_append]
theorem tup_inner (m : Nat) (h12 : m ≤ 12) (x0 x1 : Dt) (P : List (List Int)) (hP : ∀ t ∈ P, t.length ≤ 100) (hz : P.length ≤ 10000) (j4 : Option SV) :
    ∃ j, forL [4] (gNm 4) b1_tuples (P.map tI') [some (.sh x0), some (.sh x1), some (.sh (.int m)), some (.own []), j4, none] = some (.nx [some (.sh x0), some (.sh x1), some (.sh (.int m)), some (.own ((extL m P).map tI')), j, none]) := by
  obtain ⟨ρ', h1, j, h3⟩ := forL_inv (sl := [4]) (tg := gNm 4) (body := b1_tuples) (fun i ρ => ∃ j, ρ = [some (.sh x0), some (.sh x1), some (.sh (.int m)), some (.own ((extL m (P.take i)).map tI')), j, none]) (P.map tI') 0 [some (.sh x0), some (.sh x1), some (.sh (.int m)), some (.own []), j4, none] ⟨j4, rfl⟩ (by
    rintro i x ρ hx ⟨j, rfl⟩
    rw [Nat.zero_add]
    rw [List.getElem?_map] at hx
    cases ht : P[i]? with
    | none => rw [ht] at hx; cases hx
    | some t =>
      rw [ht] at hx
      cases hx
      have hi := (List.getElem?_eq_some_iff.mp ht).1
      have htl := hP t (List.mem_of_getElem? ht)
      have hlc : lcL (eC (.bool true)) (eBin dAdd (eVar 4) (eTup (aCons (eVar 5) (aNil)))) (gNm 5) [some (.sh x0), some (.sh x1), some (.sh (.int m)), some (.own ((extL m (P.take i)).map tI')), some (.sh (tI' t)), none] (rgL 0 m) = some ((rgL 0 m).map fun d : Dt => match d with
          | PyData.int v => tI' (t ++ [v])
          | _ => PyData.none) := by
        refine lcL_map _ _ fun x hx => ?_
        obtain ⟨v, hv⟩ := List.getElem?_of_mem hx
        obtain ⟨hv8, rfl⟩ := rgL_at hv
        have ha : dAdd (tI' t) (.tuple [.int (v : Int)]) = some (tI' (t ++ [(v : Int)])) := by
          rw [w_addT (by rw [List.length_map]; unfold lim; simp; omega)]
          show _ = some (PyData.tuple ((t ++ [(v : Int)]).map .int))
          rw [List.map_append]
          rfl
        refine ⟨_, rfl, ?_⟩
        simp only [w_bnd, w_bndX, w_bndN, w_bndS, w_bndSX, w_bndSN, w_bndI, w_bndA, w_c, w_bin, w_un, w_nil, w_cons, w_fn, w_seq, w_nop, w_set, w_setO, w_ret, w_do, w_if, w_v0, w_o0, w_o0f, w_vs, w_clr0, w_clrs, w_nm, w_pr, w_add, w_sub, w_mul, w_addI, w_mulI, w_lt, w_le, w_gt, w_ge, w_truB, w_truI, w_truL, w_truT, w_truN, w_lenL, w_lenT, w_tupL, w_listT, w_listL, w_app, w_aug, w_for, List.set_cons_zero, List.set_cons_succ, List.getElem?_cons_zero, List.getElem?_cons_succ, List.length_cons, List.length_nil, Option.map_some, Option.map_none, Option.bind_some, Bool.or_true, Bool.true_or, eq_self, ite_true, ite_false, decide_true, decide_false, Int.reduceLT, Int.reduceLE, Int.reduceAdd, Int.reduceSub, Int.reduceMul, Int.reduceNeg, Nat.reduceAdd, Nat.reduceLT, Nat.reduceLeDiff, Nat.reduceEqDiff, reduceIte, w_lim, w_tup, w_lst, w_unp, w_and, w_or, w_andT, w_orT, w_not, w_ife, w_chain, w_isi, w_neg, w_isN, w_notN, w_raise, w_un0, w_max2, w_intI, w_intB, w_par, Bool.not_true, Bool.not_false, Int.zero_add, Nat.zero_add, ha]
      have hl : ((rgL 0 m).map fun d : Dt => match d with
          | PyData.int v => tI' (t ++ [v])
          | _ => PyData.none) = ((extL m [t]).map tI') := by
        unfold rgL extL
        rw [List.map_map, List.flatMap_singleton, List.map_map]
        refine List.map_congr_left fun v _ => ?_
        show tI' (t ++ [0 + ((v : Nat) : Int)]) = tI' (t ++ [((v : Nat) : Int)])
        rw [Int.zero_add]
      rw [hl] at hlc
      refine ⟨_, ?_, some (.sh (tI' t)), rfl⟩
      have e1 : P.take (i + 1) = P.take i ++ [t] := by rw [List.take_succ, ht]; rfl
      rw [e1, extL_app, List.map_append]
      have hc : (eLc [5] (gNm 5) (iRg1 (eVar 2)) (eC (.bool true)) (eBin dAdd (eVar 4) (eTup (aCons (eVar 5) (aNil))))) true [some (.sh x0), some (.sh x1), some (.sh (.int m)), some (.own ((extL m (P.take i)).map tI')), some (.sh (tI' t)), none] = some (.val (.list ((extL m [t]).map tI'))) := w_lc (w_rg1 rfl (by omega)) rfl (by rw [rgL_length]; unfold lim; omega) hlc
      exact ext_v (i := 3) (ρ := [some (.sh x0), some (.sh x1), some (.sh (.int m)), some (.own ((extL m (P.take i)).map tI')), some (.sh (tI' t)), none]) (xs := (extL m (P.take i)).map tI') rfl hc (by
        rw [List.length_map, List.length_map, extL_len, extL_len, List.length_take]
        have : min i P.length * m ≤ 10000 * 12 := Nat.mul_le_mul (by omega) h12
        unfold lim
        simp
        omega))
  rw [List.length_map, Nat.zero_add, List.take_length] at h3
  exact ⟨j, by rw [h1, h3]⟩
/-! ## tables with gaps, filled -/
def gd : Option Int → Dt
  | none => .none
  | some v => .int v
abbrev gT (G : List (Option Int)) : Dt := .tuple (G.map gd)
def gaps : List (Option Int) → Nat
  | [] => 0
  | none :: G => gaps G + 1
  | some _ :: G => gaps G
def fill : List (Option Int) → List Int → List Int
  | [], _ => []
  | some v :: G, t => v :: fill G t
  | none :: G, t => t.getD 0 0 :: fill G t.tail
theorem gaps_none (G : List (Option Int)) : gaps (G ++ [none]) = gaps G + 1 := by
  induction G with
  | nil => rfl
  | cons g G ih => cases g <;> simp only [List.cons_append, gaps, ih]
theorem gaps_some (G : List (Option Int)) (v : Int) : gaps (G ++ [some v]) = gaps G := by
  induction G with
  | nil => rfl
  | cons g G ih => cases g <;> simp only [List.cons_append, gaps, ih]
theorem gaps_le (G : List (Option Int)) : gaps G ≤ G.length := by
  induction G with
  | nil => exact Nat.le_refl 0
  | cons g G ih => cases g <;> simp only [List.length_cons, gaps] <;> omega
theorem gaps_take (G : List (Option Int)) : ∀ i, gaps (G.take i) ≤ gaps G := by
  induction G with
  | nil => intro i; simp
  | cons g G ih =>
    intro i
    cases i with
    | zero => exact Nat.zero_le _
    | succ i =>
      have := ih i
      cases g <;> simp only [List.take_succ_cons, gaps] <;> omega
theorem gaps_set (G : List (Option Int)) : ∀ i, gaps (G.set i none) ≤ gaps G + 1 := by
  induction G with
  | nil => intro i; simp
  | cons g G ih =>
    intro i
    cases i with
    | zero => cases g <;> simp only [List.set_cons_zero, gaps] <;> omega
    | succ i =>
      have := ih i
      cases g <;> simp only [List.set_cons_succ, gaps] <;> omega
theorem fill_len (G : List (Option Int)) : ∀ t, (fill G t).length = G.length := by
  induction G with
  | nil => intro t; rfl
  | cons g G ih => intro t; cases g <;> simp only [fill, List.length_cons, ih]
theorem fill_some (G : List (Option Int)) (v : Int) : ∀ t, fill (G ++ [some v]) t = fill G t ++ [v] := by
  induction G with
  | nil => intro t; rfl
  | cons g G ih => intro t; cases g <;> simp only [List.cons_append, fill, ih]
theorem fill_none (G : List (Option Int)) : ∀ t, fill (G ++ [none]) t = fill G t ++ [t.getD (gaps G) 0] := by
  induction G with
  | nil => intro t; rfl
  | cons g G ih =>
    intro t
    cases g with
    | some v => simp only [List.cons_append, fill, gaps, ih]
    | none =>
      simp only [List.cons_append, fill, gaps, ih]
      cases t with
      | nil => simp
      | cons x t => simp
theorem fill_app (G : List (Option Int)) : ∀ t s : List Int, gaps G ≤ t.length → fill G (t ++ s) = fill G t := by
  induction G with
  | nil => intro t s _; rfl
  | cons g G ih =>
    intro t s h
    cases g with
    | some v => simp only [fill]; rw [ih t s h]
    | none =>
      cases t with
      | nil => simp [gaps] at h
      | cons x t =>
        have := ih t s (by simp [gaps] at h; exact h)
        simp only [fill, List.cons_append, List.tail_cons, this]
        rfl
theorem fill_mem (G : List (Option Int)) (P : Int → Prop) : ∀ t : List Int, (∀ v, some v ∈ G → P v) → (∀ v ∈ t, P v) → gaps G ≤ t.length → ∀ v ∈ fill G t, P v := by
  induction G with
  | nil => intro t _ _ _ v hv; cases hv
  | cons g G ih =>
    intro t h1 h2 h3 v hv
    cases g with
    | some u =>
      rcases List.mem_cons.mp hv with rfl | hv
      · exact h1 _ List.mem_cons_self
      · exact ih t (fun v hv => h1 v (List.mem_cons_of_mem _ hv)) h2 h3 v hv
    | none =>
      cases t with
      | nil => simp [gaps] at h3
      | cons x t =>
        rcases List.mem_cons.mp hv with rfl | hv
        · exact h2 _ List.mem_cons_self
        · exact ih t (fun v hv => h1 v (List.mem_cons_of_mem _ hv)) (fun v hv => h2 v (List.mem_cons_of_mem _ hv)) (by simp [gaps] at h3; exact h3) v hv
theorem extL_mem {m : Nat} {P : List (List Int)} {t : List Int} (h : t ∈ extL m P) : ∃ s ∈ P, ∃ v : Nat, v < m ∧ t = s ++ [(v : Int)] := by
  unfold extL at h
  obtain ⟨s, hs, h⟩ := List.mem_flatMap.mp h
  obtain ⟨v, hv, rfl⟩ := List.mem_map.mp h
  exact ⟨s, hs, v, List.mem_range.mp hv, rfl⟩
theorem tupL_mem {m : Nat} : ∀ {c : Nat} {t : List Int}, t ∈ tupL m c → t.length = c ∧ ∀ v ∈ t, 0 ≤ v ∧ v < m
  | 0, t, h => by
    rw [List.mem_singleton.mp h]
    exact ⟨rfl, fun _ z => nomatch z⟩
  | c + 1, t, h => by
    obtain ⟨s, hs, v, hv, rfl⟩ := extL_mem h
    obtain ⟨h1, h2⟩ := tupL_mem hs
    refine ⟨by simp [h1], fun x hx => ?_⟩
    rcases List.mem_append.mp hx with hx | hx
    · exact h2 x hx
    · rw [List.mem_singleton.mp hx]; omega
theorem tupL_len (m : Nat) : ∀ c, (tupL m c).length = m ^ c
  | 0 => rfl
  | c + 1 => by
    show (extL m (tupL m c)).length = _
    rw [extL_len, tupL_len m c, Nat.pow_succ]
theorem pow_mono {m : Nat} (h : 1 ≤ m) {a b : Nat} (hab : a ≤ b) : m ^ a ≤ m ^ b := Nat.pow_le_pow_right h hab
/-- tuples([m] * c) -/
theorem w_tuples (m c : Nat) (h2 : 1 ≤ m) (h12 : m ≤ 12) (hc : c ≤ 100) (hz : m ^ c ≤ 10000) : F_tuples [.list (List.replicate c (.int m))] = some (.val (.list ((tupL m c).map tI'))) := by
  obtain ⟨ρ', h1, j2, j3, j4, h3⟩ := forL_inv (sl := [2]) (tg := gNm 2) (body := b2_tuples) (fun i ρ => ∃ j2 j3 j4, ρ = [some (.sh (.list (List.replicate c (.int m)))), some (.sh (.list ((tupL m i).map tI'))), j2, j3, j4, none]) (List.replicate c (.int m)) 0 [some (.sh (.list (List.replicate c (.int m)))), some (.sh (.list [.tuple []])), none, none, none, none] ⟨_, _, _, rfl⟩ (by
    rintro i x ρ hx ⟨j2, j3, j4, rfl⟩
    rw [Nat.zero_add]
    have hi : i < c := by
      have := (List.getElem?_eq_some_iff.mp hx).1
      rwa [List.length_replicate] at this
    have hxm : x = .int m := by
      rw [List.getElem?_replicate_of_lt hi] at hx
      exact (Option.some.inj hx).symm
    subst hxm
    have hlt : (tupL m i).length ≤ 10000 := by
      rw [tupL_len]
      exact Nat.le_trans (pow_mono h2 (Nat.le_of_lt hi)) hz
    obtain ⟨j, hin⟩ := tup_inner m h12 (.list (List.replicate c (.int m))) (.list ((tupL m i).map tI')) (tupL m i) (fun t ht => by rw [(tupL_mem ht).1]; omega) hlt j4
    refine ⟨_, ?_, some (.sh (.int m)), some (.sh (.list ((tupL m (i + 1)).map tI'))), j, rfl⟩
    unfold turn
    show b2_tuples [some (.sh (.list (List.replicate c (.int m)))), some (.sh (.list ((tupL m i).map tI'))), some (.sh (.int m)), j3, j4, none] = _
    unfold b2_tuples
    rw [seq_nx (ρ' := [some (.sh (.list (List.replicate c (.int m)))), some (.sh (.list ((tupL m i).map tI'))), some (.sh (.int m)), some (.own ([])), j4, none]) rfl]
    rw [seq_nx ((for_it (xs := (tupL m i).map tI') rfl).trans hin)]
    rfl)
  rw [List.length_replicate, Nat.zero_add] at h3
  subst h3
  refine run_rt ?_
  rw [show start0 6 [.list (List.replicate c (.int m))] = [some (.sh (.list (List.replicate c (.int m)))), none, none, none, none, none] from rfl]
  unfold g_tuples
  rw [seq_nx (ρ' := [some (.sh (.list (List.replicate c (.int m)))), some (.sh (.list [.tuple []])), none, none, none, none]) rfl]
  unfold t1_tuples
  rw [seq_nx ((for_it (xs := List.replicate c (.int m)) rfl).trans h1)]
  exact ret_v rfl
theorem appPop_t {i j : Nat} {c e : EF} {ρ : En} {xs r : List Dt} {y d : Dt} (hi : ρ[i]? = some (some (.own xs))) (hj : ρ[j]? = some (some (.own (y :: r)))) (hc : c true ρ = some (.val d)) (ht : tru d = some true) (hne : i ≠ j) (hz : xs.length < lim) : sAppPop i j c e ρ = some (.nx ((ρ.set j (some (.own r))).set i (some (.own (xs ++ [y]))))) := by
  unfold sAppPop
  simp only [hi, hj, hc, w_bndS, ht, hne, ne_eq, not_false_eq_true, hz, and_self, if_true]
theorem appPop_f {i j : Nat} {c e : EF} {ρ : En} {xs r : List Dt} {y d : Dt} (hi : ρ[i]? = some (some (.own xs))) (hj : ρ[j]? = some (some (.own r))) (hc : c true ρ = some (.val d)) (ht : tru d = some false) (he : e false ρ = some (.val y)) (hz : xs.length < lim) : sAppPop i j c e ρ = some (.nx (ρ.set i (some (.own (xs ++ [y]))))) := by
  unfold sAppPop
  simp only [hi, hj, hc, w_bndS, ht, he, hz, if_true]
theorem take_snoc {α : Type} {l : List α} {i : Nat} {x : α} (h : l[i]? = some x) : l.take (i + 1) = l.take i ++ [x] := by rw [List.take_succ, h]; rfl
theorem w_filled (G : List (Option Int)) (t : List Int) (hG : G.length ≤ 1000) (ht : t.length = gaps G) : F_filled [gT G, tI' t] = some (.val (tI' (fill G t))) := by
  obtain ⟨ρ', h1, j4, h3⟩ := forL_inv (sl := [4]) (tg := gNm 4) (body := b1_filled) (fun i ρ => ∃ j4, ρ = [some (.sh (gT G)), some (.sh (tI' t)), some (.own (((fill (G.take i) t).map .int))), some (.own (((t.drop (gaps (G.take i))).map .int))), j4]) (G.map gd) 0 [some (.sh (gT G)), some (.sh (tI' t)), some (.own ([])), some (.own ((t.map .int))), none] ⟨_, rfl⟩ (by
    rintro i x ρ hx ⟨j4, rfl⟩
    rw [Nat.zero_add]
    rw [List.getElem?_map] at hx
    cases hg : G[i]? with
    | none => rw [hg] at hx; cases hx
    | some g =>
      rw [hg] at hx
      cases hx
      have hi : i < G.length := (List.getElem?_eq_some_iff.mp hg).1
      have hz : ((fill (G.take i) t).map PyData.int).length < lim := by
        rw [List.length_map, fill_len, List.length_take]; unfold lim; omega
      rw [take_snoc hg]
      cases g with
      | some v =>
        refine ⟨_, ?_, some (.sh (.int v)), rfl⟩
        rw [fill_some, gaps_some, List.map_append]
        unfold turn
        show b1_filled [some (.sh (gT G)), some (.sh (tI' t)), some (.own (((fill (G.take i) t).map .int))), some (.own (((t.drop (gaps (G.take i))).map .int))), some (.sh (.int v))] = _
        exact appPop_f rfl rfl (d := .bool false) rfl rfl (y := .int v) rfl hz
      | none =>
        refine ⟨_, ?_, some (.sh .none), rfl⟩
        have hlt : gaps (G.take i) < t.length := by
          have h := gaps_take G (i + 1)
          rw [take_snoc hg, gaps_none] at h
          omega
        have hd : (t.drop (gaps (G.take i))).map PyData.int = .int (t.getD (gaps (G.take i)) 0) :: (t.drop (gaps (G.take i) + 1)).map .int := by
          rw [List.drop_eq_getElem_cons hlt, List.map_cons, List.getD_eq_getElem?_getD, List.getElem?_eq_getElem hlt]
          rfl
        rw [fill_none, gaps_none, List.map_append, hd]
        unfold turn
        show b1_filled [some (.sh (gT G)), some (.sh (tI' t)), some (.own (((fill (G.take i) t).map .int))), some (.own ((.int (t.getD (gaps (G.take i)) 0) :: (t.drop (gaps (G.take i) + 1)).map .int))), some (.sh (.none))] = _
        exact appPop_t rfl rfl (d := .bool true) rfl rfl (by decide) hz)
  rw [List.length_map, Nat.zero_add, List.take_length] at h3
  subst h3
  refine run_rt ?_
  rw [show start0 5 [gT G, tI' t] = [some (.sh (gT G)), some (.sh (tI' t)), none, none, none] from rfl]
  unfold g_filled
  rw [seq_nx (ρ' := [some (.sh (gT G)), some (.sh (tI' t)), some (.own ([])), none, none]) rfl]
  unfold t1_filled
  rw [seq_nx (ρ' := [some (.sh (gT G)), some (.sh (tI' t)), some (.own ([])), some (.own ((t.map .int))), none]) rfl]
  unfold t2_filled
  rw [seq_nx ((for_it (xs := G.map gd) rfl).trans h1)]
  exact ret_v rfl
/-- all tables that fill the gaps -/
def evL (m : Nat) (G : List (Option Int)) : List (List Int) := (tupL m (gaps G)).map (fill G)
def pF (m : Nat) : Dt → Bool
  | .tuple ds => (fault m ((unI ds).getD [])).isNone
  | _ => false
theorem pF_tI (m : Nat) (T : List Int) : pF m (tI' T) = (fault m T).isNone := by
  show (fault m ((unI (T.map PyData.int)).getD [])).isNone = _
  rw [unI_map]
  rfl
structure GOk (m : Nat) (G : List (Option Int)) : Prop where
  len : G.length = m
  rng : ∀ v, some v ∈ G → 0 ≤ v ∧ v < m
theorem evL_tab {m : Nat} {G : List (Option Int)} (hG : GOk m G) {T : List Int} (h : T ∈ evL m G) : IsTab m T := by
  obtain ⟨t, ht, rfl⟩ := List.mem_map.mp h
  obtain ⟨h1, h2⟩ := tupL_mem ht
  refine ⟨by rw [fill_len, hG.len], fill_mem G _ t hG.rng h2 (by omega)⟩
theorem evL_len (m : Nat) (G : List (Option Int)) : (evL m G).length = m ^ gaps G := by unfold evL; rw [List.length_map, tupL_len]
theorem okS_tabs {m : Nat} (hm : 1 ≤ m) {ds : List Dt} (h : ∀ d ∈ ds, ∃ T, d = tI' T ∧ T.length = m) : okS ds = true := by
  unfold okS
  rw [Bool.or_eq_true]
  right
  rw [List.all_eq_true]
  intro d hd
  obtain ⟨T, rfl, hl⟩ := h d hd
  cases T with
  | nil => simp at hl; omega
  | cons x xs =>
    show (true && (xs.map PyData.int).all isI) = true
    rw [Bool.true_and, List.all_eq_true]
    intro d hd
    obtain ⟨i, _, rfl⟩ := List.mem_map.mp hd
    rfl
theorem isort_filter {ds : List Dt} (p : Dt → Bool) (h : okS ds = true) (h' : okS (ds.filter p) = true) : isort (ds.filter p) = (isort ds).filter p := by
  rw [← isort_data h']
  refine (PySem.W.sort_unique (PySem.W.sortLe_total _ _ _) ((isort_sorted (PySem.W.sortLe_total _ _ _) (dlt_ok h)).filter p) fun c => ?_).symm
  rw [List.filter_filter, List.filter_filter]
  have e := isort_stable (PySem.W.sortLe_total _ _ _) c (dlt_ok h)
  have := congrArg (List.filter p) e
  rw [List.filter_filter, List.filter_filter] at this
  simpa [Bool.and_comm] using this
theorem isN_opt (x : Option Nat) : isN (optI x) = x.isNone := by cases x <;> rfl
def z0 : Dt → Dt
  | .none => .int 0
  | d => d
def cOk (m : Nat) : Dt → Bool
  | .tuple ds => tabOk m (.tuple (ds.map z0))
  | _ => false
theorem w_z0 (ds : List Dt) (m : Dt) (hl : ds.length ≤ 1000) : (eLc [3] (gNm 3) (iSeq (eVar 1)) (eC (.bool true)) (eIf (eBin dIsN (eVar 3) (eC .none)) (eC (.int 0)) (eVar 3))) true [some (.sh (m)), some (.sh (.tuple ds)), none, none, none, none] = some (.val (.list (ds.map z0))) := by
  have hlc : lcL (eC (.bool true)) (eIf (eBin dIsN (eVar 3) (eC .none)) (eC (.int 0)) (eVar 3)) (gNm 3) [some (.sh (m)), some (.sh (.tuple ds)), none, none, none, none] ds = some (ds.map z0) := by
    refine lcL_map _ _ fun x hx => ⟨_, rfl, ?_⟩
    cases x <;> rfl
  exact w_lc (w_seqT rfl) rfl (by unfold lim; omega) hlc
theorem w_compl_bad (m : Nat) (d : Dt) (h2 : 2 ≤ m) (h12 : m ≤ 12) (hl : ∀ ds, d = .tuple ds → ds.length ≤ 1000) (hb : cOk m d = false) : F_completions [.int m, d] = some (.exc "InvalidTable" none) := by
  refine run_ex ?_
  rw [show start0 6 [.int m, d] = [some (.sh (.int m)), some (.sh (d)), none, none, none, none] from rfl]
  unfold g_completions
  rw [seq_nx (do_v (d := .none) (by simp only [w_bnd, w_bndX, w_bndN, w_bndS, w_bndSX, w_bndSN, w_bndI, w_bndA, w_c, w_bin, w_un, w_nil, w_cons, w_fn, w_seq, w_nop, w_set, w_setO, w_ret, w_do, w_if, w_v0, w_o0, w_o0f, w_vs, w_clr0, w_clrs, w_nm, w_pr, w_add, w_sub, w_mul, w_addI, w_mulI, w_lt, w_le, w_gt, w_ge, w_truB, w_truI, w_truL, w_truT, w_truN, w_lenL, w_lenT, w_tupL, w_listT, w_listL, w_app, w_aug, w_for, List.set_cons_zero, List.set_cons_succ, List.getElem?_cons_zero, List.getElem?_cons_succ, List.length_cons, List.length_nil, Option.map_some, Option.map_none, Option.bind_some, Bool.or_true, Bool.true_or, eq_self, ite_true, ite_false, decide_true, decide_false, Int.reduceLT, Int.reduceLE, Int.reduceAdd, Int.reduceSub, Int.reduceMul, Int.reduceNeg, Nat.reduceAdd, Nat.reduceLT, Nat.reduceLeDiff, Nat.reduceEqDiff, reduceIte, w_lim, w_tup, w_lst, w_unp, w_and, w_or, w_andT, w_orT, w_not, w_ife, w_chain, w_isi, w_neg, w_isN, w_notN, w_raise, w_un0, w_max2, w_intI, w_intB, w_par, Bool.not_true, Bool.not_false, Int.zero_add, Nat.zero_add, w_ckm m h2 h12]))]
  unfold t1_completions
  refine seq_ex ?_
  by_cases ht : ∃ ds, d = .tuple ds
  · obtain ⟨ds, rfl⟩ := ht
    have i1 : dIsi "tuple" (.tuple ds) = true := by rfl
    have hv := w_validG m (.tuple (ds.map z0)) h12
    rw [show tabOk m (.tuple (ds.map z0)) = false from hb] at hv
    have hz := w_z0 ds (.int m) (hl ds rfl)
    rw [if_t (d := .bool true)]
    · rfl
    · simp only [w_bnd, w_bndX, w_bndN, w_bndS, w_bndSX, w_bndSN, w_bndI, w_bndA, w_c, w_bin, w_un, w_nil, w_cons, w_fn, w_seq, w_nop, w_set, w_setO, w_ret, w_do, w_if, w_v0, w_o0, w_o0f, w_vs, w_clr0, w_clrs, w_nm, w_pr, w_add, w_sub, w_mul, w_addI, w_mulI, w_lt, w_le, w_gt, w_ge, w_truB, w_truI, w_truL, w_truT, w_truN, w_lenL, w_lenT, w_tupL, w_listT, w_listL, w_app, w_aug, w_for, List.set_cons_zero, List.set_cons_succ, List.getElem?_cons_zero, List.getElem?_cons_succ, List.length_cons, List.length_nil, Option.map_some, Option.map_none, Option.bind_some, Bool.or_true, Bool.true_or, eq_self, ite_true, ite_false, decide_true, decide_false, Int.reduceLT, Int.reduceLE, Int.reduceAdd, Int.reduceSub, Int.reduceMul, Int.reduceNeg, Nat.reduceAdd, Nat.reduceLT, Nat.reduceLeDiff, Nat.reduceEqDiff, reduceIte, w_lim, w_tup, w_lst, w_unp, w_and, w_or, w_andT, w_orT, w_not, w_ife, w_chain, w_isi, w_neg, w_isN, w_notN, w_raise, w_un0, w_max2, w_intI, w_intB, w_par, Bool.not_true, Bool.not_false, Int.zero_add, Nat.zero_add, i1, hz, hv]
    · rfl
  · have i1 : dIsi "tuple" d = false := by
      rw [isi_tuple]
      cases d with
      | tuple ds => exact absurd ⟨ds, rfl⟩ ht
      | _ => rfl
    rw [if_t (d := .bool true)]
    · rfl
    · simp only [w_bnd, w_bndX, w_bndN, w_bndS, w_bndSX, w_bndSN, w_bndI, w_bndA, w_c, w_bin, w_un, w_nil, w_cons, w_fn, w_seq, w_nop, w_set, w_setO, w_ret, w_do, w_if, w_v0, w_o0, w_o0f, w_vs, w_clr0, w_clrs, w_nm, w_pr, w_add, w_sub, w_mul, w_addI, w_mulI, w_lt, w_le, w_gt, w_ge, w_truB, w_truI, w_truL, w_truT, w_truN, w_lenL, w_lenT, w_tupL, w_listT, w_listL, w_app, w_aug, w_for, List.set_cons_zero, List.set_cons_succ, List.getElem?_cons_zero, List.getElem?_cons_succ, List.length_cons, List.length_nil, Option.map_some, Option.map_none, Option.bind_some, Bool.or_true, Bool.true_or, eq_self, ite_true, ite_false, decide_true, decide_false, Int.reduceLT, Int.reduceLE, Int.reduceAdd, Int.reduceSub, Int.reduceMul, Int.reduceNeg, Nat.reduceAdd, Nat.reduceLT, Nat.reduceLeDiff, Nat.reduceEqDiff, reduceIte, w_lim, w_tup, w_lst, w_unp, w_and, w_or, w_andT, w_orT, w_not, w_ife, w_chain, w_isi, w_neg, w_isN, w_notN, w_raise, w_un0, w_max2, w_intI, w_intB, w_par, Bool.not_true, Bool.not_false, Int.zero_add, Nat.zero_add, i1]
    · rfl
theorem gT_ok {m : Nat} {G : List (Option Int)} (hG : GOk m G) (hm : 1 ≤ m) : tabOk m (.tuple ((G.map gd).map z0)) = true := by
  have e : (G.map gd).map z0 = (G.map fun g => g.getD 0).map PyData.int := by
    rw [List.map_map, List.map_map]
    refine List.map_congr_left fun g _ => ?_
    cases g <;> rfl
  rw [e]
  refine tab_ok ⟨by rw [List.length_map]; exact hG.len, fun x hx => ?_⟩
  obtain ⟨g, hg, rfl⟩ := List.mem_map.mp hx
  cases g with
  | none => show 0 ≤ (0 : Int) ∧ (0 : Int) < m; omega
  | some v => exact hG.rng v hg
theorem cnt_gaps (G : List (Option Int)) : dTcn (gT G) .none = some (.int (gaps G : Nat)) := by
  have hp : PyData.plainAll (G.map gd) = true := (Sh.all (n := 0) fun d hd => by
    obtain ⟨g, _, rfl⟩ := List.mem_map.mp hd
    cases g with
    | none => exact Sh.none 0
    | some v => exact Sh.int 0 v).1
  show (if (PyData.plain .none && PyData.plainAll (G.map gd) && dep .none) = true then some (PyData.int (((G.map gd).countP fun z => PyData.eqv z .none : Nat) : Int)) else none) = _
  rw [if_pos (by rw [hp]; rfl)]
  congr 3
  induction G with
  | nil => rfl
  | cons g G ih =>
    have hp' : PyData.plainAll (G.map gd) = true := (Sh.all (n := 0) fun d hd => by
      obtain ⟨g, _, rfl⟩ := List.mem_map.mp hd
      cases g with
      | none => exact Sh.none 0
      | some v => exact Sh.int 0 v).1
    cases g with
    | none =>
      rw [List.map_cons, List.countP_cons, ih hp']
      rfl
    | some v =>
      rw [List.map_cons, List.countP_cons, ih hp']
      rfl
theorem w_many (m : Nat) (G : List (Option Int)) (h2 : 2 ≤ m) (h12 : m ≤ 12) : ∃ j, (j = none ∨ ∃ d, j = some (.sh d)) ∧ forL [3] (gNm 3) b1_completions (G.map gd) [some (.sh (.int m)), some (.sh (gT G)), some (.sh (.int 1)), none, none, none] = some (.nx [some (.sh (.int m)), some (.sh (gT G)), some (.sh (.int ((m ^ gaps G : Nat) : Int))), j, none, none]) := by
  obtain ⟨ρ', h1, j4, hj4, h3⟩ := forL_inv (sl := [3]) (tg := gNm 3) (body := b1_completions) (fun i ρ => ∃ j, (j = none ∨ ∃ d, j = some (.sh d)) ∧ ρ = [some (.sh (.int m)), some (.sh (gT G)), some (.sh (.int ((m ^ gaps (G.take i) : Nat) : Int))), j, none, none]) (G.map gd) 0 [some (.sh (.int m)), some (.sh (gT G)), some (.sh (.int 1)), none, none, none] ⟨_, .inl rfl, rfl⟩ (by
    rintro i x ρ hx ⟨j4, _, rfl⟩
    rw [Nat.zero_add]
    rw [List.getElem?_map] at hx
    cases hg : G[i]? with
    | none => rw [hg] at hx; cases hx
    | some g =>
      rw [hg] at hx
      cases hx
      rw [take_snoc hg]
      have s1 : sml (m : Int) = true := sml_of (by omega) (by omega)
      have s2 : sml 1 = true := by decide
      cases g with
      | some v =>
        refine ⟨_, ?_, some (.sh (.int v)), .inr ⟨_, rfl⟩, rfl⟩
        rw [gaps_some]
        have e1 : isN (gd (some v)) = false := rfl
        unfold turn b1_completions
        simp only [w_bnd, w_bndX, w_bndN, w_bndS, w_bndSX, w_bndSN, w_bndI, w_bndA, w_c, w_bin, w_un, w_nil, w_cons, w_fn, w_seq, w_nop, w_set, w_setO, w_ret, w_do, w_if, w_v0, w_o0, w_o0f, w_vs, w_clr0, w_clrs, w_nm, w_pr, w_add, w_sub, w_mul, w_addI, w_mulI, w_lt, w_le, w_gt, w_ge, w_truB, w_truI, w_truL, w_truT, w_truN, w_lenL, w_lenT, w_tupL, w_listT, w_listL, w_app, w_aug, w_for, List.set_cons_zero, List.set_cons_succ, List.getElem?_cons_zero, List.getElem?_cons_succ, List.length_cons, List.length_nil, Option.map_some, Option.map_none, Option.bind_some, Bool.or_true, Bool.true_or, eq_self, ite_true, ite_false, decide_true, decide_false, Int.reduceLT, Int.reduceLE, Int.reduceAdd, Int.reduceSub, Int.reduceMul, Int.reduceNeg, Nat.reduceAdd, Nat.reduceLT, Nat.reduceLeDiff, Nat.reduceEqDiff, reduceIte, w_lim, w_tup, w_lst, w_unp, w_and, w_or, w_andT, w_orT, w_not, w_ife, w_chain, w_isi, w_neg, w_isN, w_notN, w_raise, w_un0, w_max2, w_intI, w_intB, w_par, Bool.not_true, Bool.not_false, Int.zero_add, Nat.zero_add, e1, s2, Int.mul_one]
        rfl
      | none =>
        refine ⟨_, ?_, some (.sh .none), .inr ⟨_, rfl⟩, rfl⟩
        rw [gaps_none, Nat.pow_succ, Int.natCast_mul]
        have e1 : isN (gd none) = true := rfl
        unfold turn b1_completions
        simp only [w_bnd, w_bndX, w_bndN, w_bndS, w_bndSX, w_bndSN, w_bndI, w_bndA, w_c, w_bin, w_un, w_nil, w_cons, w_fn, w_seq, w_nop, w_set, w_setO, w_ret, w_do, w_if, w_v0, w_o0, w_o0f, w_vs, w_clr0, w_clrs, w_nm, w_pr, w_add, w_sub, w_mul, w_addI, w_mulI, w_lt, w_le, w_gt, w_ge, w_truB, w_truI, w_truL, w_truT, w_truN, w_lenL, w_lenT, w_tupL, w_listT, w_listL, w_app, w_aug, w_for, List.set_cons_zero, List.set_cons_succ, List.getElem?_cons_zero, List.getElem?_cons_succ, List.length_cons, List.length_nil, Option.map_some, Option.map_none, Option.bind_some, Bool.or_true, Bool.true_or, eq_self, ite_true, ite_false, decide_true, decide_false, Int.reduceLT, Int.reduceLE, Int.reduceAdd, Int.reduceSub, Int.reduceMul, Int.reduceNeg, Nat.reduceAdd, Nat.reduceLT, Nat.reduceLeDiff, Nat.reduceEqDiff, reduceIte, w_lim, w_tup, w_lst, w_unp, w_and, w_or, w_andT, w_orT, w_not, w_ife, w_chain, w_isi, w_neg, w_isN, w_notN, w_raise, w_un0, w_max2, w_intI, w_intB, w_par, Bool.not_true, Bool.not_false, Int.zero_add, Nat.zero_add, e1, s1]
        rfl)
  rw [List.length_map, Nat.zero_add, List.take_length] at h3
  exact ⟨j4, hj4, by rw [h1, h3]⟩
/-- what completions gives -/
def cmpl (m : Nat) (G : List (Option Int)) : List Dt := isort (((evL m G).map tI').filter (pF m))
theorem w_compl (m : Nat) (G : List (Option Int)) (h2 : 2 ≤ m) (h12 : m ≤ 12) (hG : GOk m G) (hz : m ^ gaps G ≤ 1000) : F_completions [.int m, gT G] = some (.val (.list (cmpl m G))) := by
  obtain ⟨j, hj, hmany⟩ := w_many m G h2 h12
  have hgl := gaps_le G
  have hgl2 := hG.len
  have i1 : dIsi "tuple" (gT G) = true := by rfl
  have hv := w_validG m (.tuple ((G.map gd).map z0)) h12
  rw [gT_ok hG (by omega)] at hv
  have hz0 := w_z0 (G.map gd) (.int m) (by rw [List.length_map]; omega)
  have ht := w_tuples m (gaps G) (by omega) h12 (by omega) (by omega)
  have hml : dMul (.list [.int (m : Int)]) (.int (gaps G : Nat)) = some (.list (List.replicate (gaps G) (.int m))) := by
    show (if [PyData.int (m : Int)].length * ((gaps G : Nat) : Int).toNat ≤ lim ∧ okI ((gaps G : Nat) : Int) = true then some (PyData.list (List.replicate ((gaps G : Nat) : Int).toNat [PyData.int (m : Int)]).flatten) else none) = _
    rw [if_pos ⟨by unfold lim; simp; omega, okI_iff.mpr (by omega)⟩, Int.toNat_natCast, List.flatten_replicate_singleton]
  have hTT : isT (gT G) = true := rfl
  have lc1 : (eLc [5] (gNm 5) (iSeq (eFn 1 F_tuples (aCons (eBin dMul (eLst (aCons (eVar 0) (aNil))) (eMeth isT dTcn (eVar 1) (eC .none))) (aNil)))) (eC (.bool true)) (eFn 2 F_filled (aCons (eVar 1) (aCons (eVar 5) (aNil))))) false [some (.sh (.int m)), some (.sh (gT G)), some (.sh (.int ((m ^ gaps G : Nat) : Int))), j, none, none] = some (.val (.list ((evL m G).map tI'))) := by
    have hl : lcL (eC (.bool true)) (eFn 2 F_filled (aCons (eVar 1) (aCons (eVar 5) (aNil)))) (gNm 5) [some (.sh (.int m)), some (.sh (gT G)), some (.sh (.int ((m ^ gaps G : Nat) : Int))), j, none, none] ((tupL m (gaps G)).map tI') = some ((evL m G).map tI') := by
      have e : (evL m G).map tI' = ((tupL m (gaps G)).map tI').map fun d => match d with
        | .tuple ds => tI' (fill G ((unI ds).getD []))
        | y => y := by
        unfold evL
        rw [List.map_map, List.map_map]
        refine List.map_congr_left fun f _ => ?_
        show tI' (fill G f) = tI' (fill G ((unI (f.map .int)).getD []))
        rw [unI_map]
        rfl
      rw [e]
      refine lcL_map _ _ fun x hx => ?_
      obtain ⟨t, ht, rfl⟩ := List.mem_map.mp hx
      have hf := w_filled G t (by omega) (tupL_mem ht).1
      refine ⟨_, rfl, ?_⟩
      simp only [w_bnd, w_bndX, w_bndN, w_bndS, w_bndSX, w_bndSN, w_bndI, w_bndA, w_c, w_bin, w_un, w_nil, w_cons, w_fn, w_seq, w_nop, w_set, w_setO, w_ret, w_do, w_if, w_v0, w_o0, w_o0f, w_vs, w_clr0, w_clrs, w_nm, w_pr, w_add, w_sub, w_mul, w_addI, w_mulI, w_lt, w_le, w_gt, w_ge, w_truB, w_truI, w_truL, w_truT, w_truN, w_lenL, w_lenT, w_tupL, w_listT, w_listL, w_app, w_aug, w_for, List.set_cons_zero, List.set_cons_succ, List.getElem?_cons_zero, List.getElem?_cons_succ, List.length_cons, List.length_nil, Option.map_some, Option.map_none, Option.bind_some, Bool.or_true, Bool.true_or, eq_self, ite_true, ite_false, decide_true, decide_false, Int.reduceLT, Int.reduceLE, Int.reduceAdd, Int.reduceSub, Int.reduceMul, Int.reduceNeg, Nat.reduceAdd, Nat.reduceLT, Nat.reduceLeDiff, Nat.reduceEqDiff, reduceIte, w_lim, w_tup, w_lst, w_unp, w_and, w_or, w_andT, w_orT, w_not, w_ife, w_chain, w_isi, w_neg, w_isN, w_notN, w_raise, w_un0, w_max2, w_intI, w_intB, w_par, Bool.not_true, Bool.not_false, Int.zero_add, Nat.zero_add, hf, unI_map, Option.getD_some]
    refine w_lc (w_seqL (xs := (tupL m (gaps G)).map tI') ?_) rfl (by rw [List.length_map, tupL_len]; unfold lim; omega) hl
    unfold eMeth
    simp only [w_bnd, w_bndX, w_bndN, w_bndS, w_bndSX, w_bndSN, w_bndI, w_bndA, w_c, w_bin, w_un, w_nil, w_cons, w_fn, w_seq, w_nop, w_set, w_setO, w_ret, w_do, w_if, w_v0, w_o0, w_o0f, w_vs, w_clr0, w_clrs, w_nm, w_pr, w_add, w_sub, w_mul, w_addI, w_mulI, w_lt, w_le, w_gt, w_ge, w_truB, w_truI, w_truL, w_truT, w_truN, w_lenL, w_lenT, w_tupL, w_listT, w_listL, w_app, w_aug, w_for, List.set_cons_zero, List.set_cons_succ, List.getElem?_cons_zero, List.getElem?_cons_succ, List.length_cons, List.length_nil, Option.map_some, Option.map_none, Option.bind_some, Bool.or_true, Bool.true_or, eq_self, ite_true, ite_false, decide_true, decide_false, Int.reduceLT, Int.reduceLE, Int.reduceAdd, Int.reduceSub, Int.reduceMul, Int.reduceNeg, Nat.reduceAdd, Nat.reduceLT, Nat.reduceLeDiff, Nat.reduceEqDiff, reduceIte, w_lim, w_tup, w_lst, w_unp, w_and, w_or, w_andT, w_orT, w_not, w_ife, w_chain, w_isi, w_neg, w_isN, w_notN, w_raise, w_un0, w_max2, w_intI, w_intB, w_par, Bool.not_true, Bool.not_false, Int.zero_add, Nat.zero_add, hTT, cnt_gaps, hml, ht]
  have lc2 : (eLc [3] (gNm 3) (iSeq (eVar 4)) (eBin dIsN (eFn 2 F_first_fault (aCons (eVar 0) (aCons (eVar 3) (aNil)))) (eC .none)) (eVar 3)) true [some (.sh (.int m)), some (.sh (gT G)), some (.sh (.int ((m ^ gaps G : Nat) : Int))), j, some (.sh (.list ((evL m G).map tI'))), none] = some (.val (.list (((evL m G).map tI').filter (pF m)))) := by
    have hl : lcL (eBin dIsN (eFn 2 F_first_fault (aCons (eVar 0) (aCons (eVar 3) (aNil)))) (eC .none)) (eVar 3) (gNm 3) [some (.sh (.int m)), some (.sh (gT G)), some (.sh (.int ((m ^ gaps G : Nat) : Int))), none, some (.sh (.list ((evL m G).map tI'))), none] ((evL m G).map tI') = some ((((evL m G).map tI').filter (pF m)).map fun d => d) := by
      refine lcL_filter (pF m) (fun d => d) _ fun x hx => ?_
      obtain ⟨T, hT, rfl⟩ := List.mem_map.mp hx
      have hf := w_fault m T h2 h12 (evL_tab hG hT)
      refine ⟨_, .bool (pF m (tI' T)), rfl, ?_, rfl, fun z => rfl⟩
      simp only [w_bnd, w_bndX, w_bndN, w_bndS, w_bndSX, w_bndSN, w_bndI, w_bndA, w_c, w_bin, w_un, w_nil, w_cons, w_fn, w_seq, w_nop, w_set, w_setO, w_ret, w_do, w_if, w_v0, w_o0, w_o0f, w_vs, w_clr0, w_clrs, w_nm, w_pr, w_add, w_sub, w_mul, w_addI, w_mulI, w_lt, w_le, w_gt, w_ge, w_truB, w_truI, w_truL, w_truT, w_truN, w_lenL, w_lenT, w_tupL, w_listT, w_listL, w_app, w_aug, w_for, List.set_cons_zero, List.set_cons_succ, List.getElem?_cons_zero, List.getElem?_cons_succ, List.length_cons, List.length_nil, Option.map_some, Option.map_none, Option.bind_some, Bool.or_true, Bool.true_or, eq_self, ite_true, ite_false, decide_true, decide_false, Int.reduceLT, Int.reduceLE, Int.reduceAdd, Int.reduceSub, Int.reduceMul, Int.reduceNeg, Nat.reduceAdd, Nat.reduceLT, Nat.reduceLeDiff, Nat.reduceEqDiff, reduceIte, w_lim, w_tup, w_lst, w_unp, w_and, w_or, w_andT, w_orT, w_not, w_ife, w_chain, w_isi, w_neg, w_isN, w_notN, w_raise, w_un0, w_max2, w_intI, w_intB, w_par, Bool.not_true, Bool.not_false, Int.zero_add, Nat.zero_add, hf, isN_opt, pF_tI]
    rw [List.map_id'] at hl
    refine w_lc (w_seqL (xs := (evL m G).map tI') rfl) ?_ (by rw [List.length_map, evL_len]; unfold lim; omega) hl
    rcases hj with rfl | ⟨d, rfl⟩ <;> rfl
  have hok : okS (((evL m G).map tI').filter (pF m)) = true := okS_tabs (m := m) (by omega) fun d hd => by
    obtain ⟨T, hT, rfl⟩ := List.mem_map.mp (List.mem_filter.mp hd).1
    exact ⟨T, rfl, (evL_tab hG hT).1⟩
  have hs : dSorted (.list (((evL m G).map tI').filter (pF m))) = some (.list (cmpl m G)) := by
    show (if okS (((evL m G).map tI').filter (pF m)) = true then some (PyData.list (isort (((evL m G).map tI').filter (pF m)))) else none) = _
    rw [if_pos hok]
    rfl
  refine run_rt ?_
  rw [show start0 6 [.int m, gT G] = [some (.sh (.int m)), some (.sh (gT G)), none, none, none, none] from rfl]
  unfold g_completions
  rw [seq_nx (do_v (d := .none) (by simp only [w_bnd, w_bndX, w_bndN, w_bndS, w_bndSX, w_bndSN, w_bndI, w_bndA, w_c, w_bin, w_un, w_nil, w_cons, w_fn, w_seq, w_nop, w_set, w_setO, w_ret, w_do, w_if, w_v0, w_o0, w_o0f, w_vs, w_clr0, w_clrs, w_nm, w_pr, w_add, w_sub, w_mul, w_addI, w_mulI, w_lt, w_le, w_gt, w_ge, w_truB, w_truI, w_truL, w_truT, w_truN, w_lenL, w_lenT, w_tupL, w_listT, w_listL, w_app, w_aug, w_for, List.set_cons_zero, List.set_cons_succ, List.getElem?_cons_zero, List.getElem?_cons_succ, List.length_cons, List.length_nil, Option.map_some, Option.map_none, Option.bind_some, Bool.or_true, Bool.true_or, eq_self, ite_true, ite_false, decide_true, decide_false, Int.reduceLT, Int.reduceLE, Int.reduceAdd, Int.reduceSub, Int.reduceMul, Int.reduceNeg, Nat.reduceAdd, Nat.reduceLT, Nat.reduceLeDiff, Nat.reduceEqDiff, reduceIte, w_lim, w_tup, w_lst, w_unp, w_and, w_or, w_andT, w_orT, w_not, w_ife, w_chain, w_isi, w_neg, w_isN, w_notN, w_raise, w_un0, w_max2, w_intI, w_intB, w_par, Bool.not_true, Bool.not_false, Int.zero_add, Nat.zero_add, w_ckm m h2 h12]))]
  unfold t1_completions
  refine (seq_nx (ρ' := [some (.sh (.int m)), some (.sh (gT G)), none, none, none, none]) ?_).trans ?_
  · rw [if_f (d := .bool false)]
    · rfl
    · simp only [w_bnd, w_bndX, w_bndN, w_bndS, w_bndSX, w_bndSN, w_bndI, w_bndA, w_c, w_bin, w_un, w_nil, w_cons, w_fn, w_seq, w_nop, w_set, w_setO, w_ret, w_do, w_if, w_v0, w_o0, w_o0f, w_vs, w_clr0, w_clrs, w_nm, w_pr, w_add, w_sub, w_mul, w_addI, w_mulI, w_lt, w_le, w_gt, w_ge, w_truB, w_truI, w_truL, w_truT, w_truN, w_lenL, w_lenT, w_tupL, w_listT, w_listL, w_app, w_aug, w_for, List.set_cons_zero, List.set_cons_succ, List.getElem?_cons_zero, List.getElem?_cons_succ, List.length_cons, List.length_nil, Option.map_some, Option.map_none, Option.bind_some, Bool.or_true, Bool.true_or, eq_self, ite_true, ite_false, decide_true, decide_false, Int.reduceLT, Int.reduceLE, Int.reduceAdd, Int.reduceSub, Int.reduceMul, Int.reduceNeg, Nat.reduceAdd, Nat.reduceLT, Nat.reduceLeDiff, Nat.reduceEqDiff, reduceIte, w_lim, w_tup, w_lst, w_unp, w_and, w_or, w_andT, w_orT, w_not, w_ife, w_chain, w_isi, w_neg, w_isN, w_notN, w_raise, w_un0, w_max2, w_intI, w_intB, w_par, Bool.not_true, Bool.not_false, Int.zero_add, Nat.zero_add, i1, hz0, hv]
    · rfl
  unfold t2_completions
  rw [seq_nx (ρ' := [some (.sh (.int m)), some (.sh (gT G)), some (.sh (.int 1)), none, none, none]) (by simp only [w_bnd, w_bndX, w_bndN, w_bndS, w_bndSX, w_bndSN, w_bndI, w_bndA, w_c, w_bin, w_un, w_nil, w_cons, w_fn, w_seq, w_nop, w_set, w_setO, w_ret, w_do, w_if, w_v0, w_o0, w_o0f, w_vs, w_clr0, w_clrs, w_nm, w_pr, w_add, w_sub, w_mul, w_addI, w_mulI, w_lt, w_le, w_gt, w_ge, w_truB, w_truI, w_truL, w_truT, w_truN, w_lenL, w_lenT, w_tupL, w_listT, w_listL, w_app, w_aug, w_for, List.set_cons_zero, List.set_cons_succ, List.getElem?_cons_zero, List.getElem?_cons_succ, List.length_cons, List.length_nil, Option.map_some, Option.map_none, Option.bind_some, Bool.or_true, Bool.true_or, eq_self, ite_true, ite_false, decide_true, decide_false, Int.reduceLT, Int.reduceLE, Int.reduceAdd, Int.reduceSub, Int.reduceMul, Int.reduceNeg, Nat.reduceAdd, Nat.reduceLT, Nat.reduceLeDiff, Nat.reduceEqDiff, reduceIte, w_lim, w_tup, w_lst, w_unp, w_and, w_or, w_andT, w_orT, w_not, w_ife, w_chain, w_isi, w_neg, w_isN, w_notN, w_raise, w_un0, w_max2, w_intI, w_intB, w_par, Bool.not_true, Bool.not_false, Int.zero_add, Nat.zero_add, w_c])]
  unfold t3_completions
  rw [seq_nx ((for_it (xs := G.map gd) rfl).trans hmany)]
  unfold t4_completions
  have hgt : ¬ ((1000 : Int) < ((m ^ gaps G : Nat) : Int)) := by omega
  refine (seq_nx (ρ' := [some (.sh (.int m)), some (.sh (gT G)), some (.sh (.int ((m ^ gaps G : Nat) : Int))), j, none, none]) ?_).trans ?_
  · rw [if_f (d := .bool false)]
    · rfl
    · simp only [w_bnd, w_bndX, w_bndN, w_bndS, w_bndSX, w_bndSN, w_bndI, w_bndA, w_c, w_bin, w_un, w_nil, w_cons, w_fn, w_seq, w_nop, w_set, w_setO, w_ret, w_do, w_if, w_v0, w_o0, w_o0f, w_vs, w_clr0, w_clrs, w_nm, w_pr, w_add, w_sub, w_mul, w_addI, w_mulI, w_lt, w_le, w_gt, w_ge, w_truB, w_truI, w_truL, w_truT, w_truN, w_lenL, w_lenT, w_tupL, w_listT, w_listL, w_app, w_aug, w_for, List.set_cons_zero, List.set_cons_succ, List.getElem?_cons_zero, List.getElem?_cons_succ, List.length_cons, List.length_nil, Option.map_some, Option.map_none, Option.bind_some, Bool.or_true, Bool.true_or, eq_self, ite_true, ite_false, decide_true, decide_false, Int.reduceLT, Int.reduceLE, Int.reduceAdd, Int.reduceSub, Int.reduceMul, Int.reduceNeg, Nat.reduceAdd, Nat.reduceLT, Nat.reduceLeDiff, Nat.reduceEqDiff, reduceIte, w_lim, w_tup, w_lst, w_unp, w_and, w_or, w_andT, w_orT, w_not, w_ife, w_chain, w_isi, w_neg, w_isN, w_notN, w_raise, w_un0, w_max2, w_intI, w_intB, w_par, Bool.not_true, Bool.not_false, Int.zero_add, Nat.zero_add, hgt]
    · rfl
  unfold t5_completions
  rw [seq_nx (set_v lc1)]
  unfold t6_completions
  refine ret_v ?_
  show bnd ((eLc [3] (gNm 3) (iSeq (eVar 4)) (eBin dIsN (eFn 2 F_first_fault (aCons (eVar 0) (aCons (eVar 3) (aNil)))) (eC .none)) (eVar 3)) true [some (.sh (.int m)), some (.sh (gT G)), some (.sh (.int ((m ^ gaps G : Nat) : Int))), j, some (.sh (.list ((evL m G).map tI'))), none]) _ = _
  rw [lc2, w_bnd, hs]
  rfl
theorem w_compl_many (m : Nat) (G : List (Option Int)) (h2 : 2 ≤ m) (h12 : m ≤ 12) (hG : GOk m G) (hz : 1000 < m ^ gaps G) : F_completions [.int m, gT G] = some (.exc "TooMany" none) := by
  obtain ⟨j, hj, hmany⟩ := w_many m G h2 h12
  have hgl := gaps_le G
  have hgl2 := hG.len
  have i1 : dIsi "tuple" (gT G) = true := by rfl
  have hv := w_validG m (.tuple ((G.map gd).map z0)) h12
  rw [gT_ok hG (by omega)] at hv
  have hz0 := w_z0 (G.map gd) (.int m) (by rw [List.length_map]; omega)
  refine run_ex ?_
  rw [show start0 6 [.int m, gT G] = [some (.sh (.int m)), some (.sh (gT G)), none, none, none, none] from rfl]
  unfold g_completions
  rw [seq_nx (do_v (d := .none) (by simp only [w_bnd, w_bndX, w_bndN, w_bndS, w_bndSX, w_bndSN, w_bndI, w_bndA, w_c, w_bin, w_un, w_nil, w_cons, w_fn, w_seq, w_nop, w_set, w_setO, w_ret, w_do, w_if, w_v0, w_o0, w_o0f, w_vs, w_clr0, w_clrs, w_nm, w_pr, w_add, w_sub, w_mul, w_addI, w_mulI, w_lt, w_le, w_gt, w_ge, w_truB, w_truI, w_truL, w_truT, w_truN, w_lenL, w_lenT, w_tupL, w_listT, w_listL, w_app, w_aug, w_for, List.set_cons_zero, List.set_cons_succ, List.getElem?_cons_zero, List.getElem?_cons_succ, List.length_cons, List.length_nil, Option.map_some, Option.map_none, Option.bind_some, Bool.or_true, Bool.true_or, eq_self, ite_true, ite_false, decide_true, decide_false, Int.reduceLT, Int.reduceLE, Int.reduceAdd, Int.reduceSub, Int.reduceMul, Int.reduceNeg, Nat.reduceAdd, Nat.reduceLT, Nat.reduceLeDiff, Nat.reduceEqDiff, reduceIte, w_lim, w_tup, w_lst, w_unp, w_and, w_or, w_andT, w_orT, w_not, w_ife, w_chain, w_isi, w_neg, w_isN, w_notN, w_raise, w_un0, w_max2, w_intI, w_intB, w_par, Bool.not_true, Bool.not_false, Int.zero_add, Nat.zero_add, w_ckm m h2 h12]))]
  unfold t1_completions
  refine (seq_nx (ρ' := [some (.sh (.int m)), some (.sh (gT G)), none, none, none, none]) ?_).trans ?_
  · rw [if_f (d := .bool false)]
    · rfl
    · simp only [w_bnd, w_bndX, w_bndN, w_bndS, w_bndSX, w_bndSN, w_bndI, w_bndA, w_c, w_bin, w_un, w_nil, w_cons, w_fn, w_seq, w_nop, w_set, w_setO, w_ret, w_do, w_if, w_v0, w_o0, w_o0f, w_vs, w_clr0, w_clrs, w_nm, w_pr, w_add, w_sub, w_mul, w_addI, w_mulI, w_lt, w_le, w_gt, w_ge, w_truB, w_truI, w_truL, w_truT, w_truN, w_lenL, w_lenT, w_tupL, w_listT, w_listL, w_app, w_aug, w_for, List.set_cons_zero, List.set_cons_succ, List.getElem?_cons_zero, List.getElem?_cons_succ, List.length_cons, List.length_nil, Option.map_some, Option.map_none, Option.bind_some, Bool.or_true, Bool.true_or, eq_self, ite_true, ite_false, decide_true, decide_false, Int.reduceLT, Int.reduceLE, Int.reduceAdd, Int.reduceSub, Int.reduceMul, Int.reduceNeg, Nat.reduceAdd, Nat.reduceLT, Nat.reduceLeDiff, Nat.reduceEqDiff, reduceIte, w_lim, w_tup, w_lst, w_unp, w_and, w_or, w_andT, w_orT, w_not, w_ife, w_chain, w_isi, w_neg, w_isN, w_notN, w_raise, w_un0, w_max2, w_intI, w_intB, w_par, Bool.not_true, Bool.not_false, Int.zero_add, Nat.zero_add, i1, hz0, hv]
    · rfl
  unfold t2_completions
  rw [seq_nx (ρ' := [some (.sh (.int m)), some (.sh (gT G)), some (.sh (.int 1)), none, none, none]) (by simp only [w_bnd, w_bndX, w_bndN, w_bndS, w_bndSX, w_bndSN, w_bndI, w_bndA, w_c, w_bin, w_un, w_nil, w_cons, w_fn, w_seq, w_nop, w_set, w_setO, w_ret, w_do, w_if, w_v0, w_o0, w_o0f, w_vs, w_clr0, w_clrs, w_nm, w_pr, w_add, w_sub, w_mul, w_addI, w_mulI, w_lt, w_le, w_gt, w_ge, w_truB, w_truI, w_truL, w_truT, w_truN, w_lenL, w_lenT, w_tupL, w_listT, w_listL, w_app, w_aug, w_for, List.set_cons_zero, List.set_cons_succ, List.getElem?_cons_zero, List.getElem?_cons_succ, List.length_cons, List.length_nil, Option.map_some, Option.map_none, Option.bind_some, Bool.or_true, Bool.true_or, eq_self, ite_true, ite_false, decide_true, decide_false, Int.reduceLT, Int.reduceLE, Int.reduceAdd, Int.reduceSub, Int.reduceMul, Int.reduceNeg, Nat.reduceAdd, Nat.reduceLT, Nat.reduceLeDiff, Nat.reduceEqDiff, reduceIte, w_lim, w_tup, w_lst, w_unp, w_and, w_or, w_andT, w_orT, w_not, w_ife, w_chain, w_isi, w_neg, w_isN, w_notN, w_raise, w_un0, w_max2, w_intI, w_intB, w_par, Bool.not_true, Bool.not_false, Int.zero_add, Nat.zero_add, w_c])]
  unfold t3_completions
  rw [seq_nx ((for_it (xs := G.map gd) rfl).trans hmany)]
  unfold t4_completions
  have hgt : ((1000 : Int) < ((m ^ gaps G : Nat) : Int)) := by omega
  refine seq_ex ?_
  rw [if_t (d := .bool true)]
  · rfl
  · simp only [w_bnd, w_bndX, w_bndN, w_bndS, w_bndSX, w_bndSN, w_bndI, w_bndA, w_c, w_bin, w_un, w_nil, w_cons, w_fn, w_seq, w_nop, w_set, w_setO, w_ret, w_do, w_if, w_v0, w_o0, w_o0f, w_vs, w_clr0, w_clrs, w_nm, w_pr, w_add, w_sub, w_mul, w_addI, w_mulI, w_lt, w_le, w_gt, w_ge, w_truB, w_truI, w_truL, w_truT, w_truN, w_lenL, w_lenT, w_tupL, w_listT, w_listL, w_app, w_aug, w_for, List.set_cons_zero, List.set_cons_succ, List.getElem?_cons_zero, List.getElem?_cons_succ, List.length_cons, List.length_nil, Option.map_some, Option.map_none, Option.bind_some, Bool.or_true, Bool.true_or, eq_self, ite_true, ite_false, decide_true, decide_false, Int.reduceLT, Int.reduceLE, Int.reduceAdd, Int.reduceSub, Int.reduceMul, Int.reduceNeg, Nat.reduceAdd, Nat.reduceLT, Nat.reduceLeDiff, Nat.reduceEqDiff, reduceIte, w_lim, w_tup, w_lst, w_unp, w_and, w_or, w_andT, w_orT, w_not, w_ife, w_chain, w_isi, w_neg, w_isN, w_notN, w_raise, w_un0, w_max2, w_intI, w_intB, w_par, Bool.not_true, Bool.not_false, Int.zero_add, Nat.zero_add, hgt]
  · rfl
theorem cmpl_filter {m : Nat} {G : List (Option Int)} (h2 : 2 ≤ m) (hG : GOk m G) : cmpl m G = (isort ((evL m G).map tI')).filter (pF m) := by
  refine isort_filter (pF m) (okS_tabs (m := m) (by omega) fun d hd => ?_) (okS_tabs (m := m) (by omega) fun d hd => ?_)
  · obtain ⟨T, hT, rfl⟩ := List.mem_map.mp hd
    exact ⟨T, rfl, (evL_tab hG hT).1⟩
  · obtain ⟨T, hT, rfl⟩ := List.mem_map.mp (List.mem_filter.mp hd).1
    exact ⟨T, rfl, (evL_tab hG hT).1⟩
theorem cmpl_mem {m : Nat} {G : List (Option Int)} (hG : GOk m G) {d : Dt} (h : d ∈ cmpl m G) : ∃ T, d = tI' T ∧ T ∈ evL m G ∧ IsTab m T ∧ fault m T = none := by
  have h1 := (isort_perm _).mem_iff.mp h
  obtain ⟨h2, h3⟩ := List.mem_filter.mp h1
  obtain ⟨T, hT, rfl⟩ := List.mem_map.mp h2
  rw [pF_tI] at h3
  exact ⟨T, rfl, hT, evL_tab hG hT, Option.isNone_iff_eq_none.mp h3⟩
theorem cmpl_sh {m : Nat} {G : List (Option Int)} (hG : GOk m G) : Sh 60 (.list (cmpl m G)) := Sh.list (n := 59) fun d hd => by
  obtain ⟨T, rfl, _⟩ := cmpl_mem hG hd
  exact (Sh.tI T 58).mono (by omega)
end PT

namespace PT
open PySem PySem.Spec PyProof.Rows L2
/-! ## combined tables -/
theorem w_place_ok (m p : Nat) (h2 : 2 ≤ m) (hp : p < m) : F_check_place [.int m, .int p] = some (.val .none) := by
  have e2 : start0 2 [.int m, .int p] = [some (.sh (.int m)), some (.sh (.int p))] := rfl
  have hr := w_inr p 0 ((m : Int) - 1)
  rw [decide_eq_true (show (0 : Int) ≤ p by omega), decide_eq_true (show (p : Int) ≤ (m : Int) - 1 by omega)] at hr
  refine run_nx (ρ := [some (.sh (.int m)), some (.sh (.int p))]) ?_
  rw [e2]
  unfold g_check_place
  rw [if_f (d := .bool false)]
  · rfl
  · simp only [w_bnd, w_bndX, w_bndN, w_bndS, w_bndSX, w_bndSN, w_bndI, w_bndA, w_c, w_bin, w_un, w_nil, w_cons, w_fn, w_seq, w_nop, w_set, w_setO, w_ret, w_do, w_if, w_v0, w_o0, w_o0f, w_vs, w_clr0, w_clrs, w_nm, w_pr, w_add, w_sub, w_mul, w_addI, w_mulI, w_lt, w_le, w_gt, w_ge, w_truB, w_truI, w_truL, w_truT, w_truN, w_lenL, w_lenT, w_tupL, w_listT, w_listL, w_app, w_aug, w_for, List.set_cons_zero, List.set_cons_succ, List.getElem?_cons_zero, List.getElem?_cons_succ, List.length_cons, List.length_nil, Option.map_some, Option.map_none, Option.bind_some, Bool.or_true, Bool.true_or, eq_self, ite_true, ite_false, decide_true, decide_false, Int.reduceLT, Int.reduceLE, Int.reduceAdd, Int.reduceSub, Int.reduceMul, Int.reduceNeg, Nat.reduceAdd, Nat.reduceLT, Nat.reduceLeDiff, Nat.reduceEqDiff, reduceIte, w_lim, w_tup, w_lst, w_unp, w_and, w_or, w_andT, w_orT, w_not, w_ife, w_chain, w_isi, w_neg, w_isN, w_notN, w_raise, w_un0, w_max2, w_intI, w_intB, w_par, Bool.not_true, Bool.not_false, Int.zero_add, Nat.zero_add, hr, Bool.true_and]
  · rfl
theorem w_place_bad (m : Nat) (d : Dt) (hb : inr d 0 ((m : Int) - 1) = false) : F_check_place [.int m, d] = some (.exc "InvalidPlace" none) := by
  have e2 : start0 2 [.int m, d] = [some (.sh (.int m)), some (.sh d)] := rfl
  have hr := w_inrG d 0 ((m : Int) - 1)
  rw [hb] at hr
  refine run_ex ?_
  rw [e2]
  unfold g_check_place
  rw [if_t (d := .bool true)]
  · rfl
  · simp only [w_bnd, w_bndX, w_bndN, w_bndS, w_bndSX, w_bndSN, w_bndI, w_bndA, w_c, w_bin, w_un, w_nil, w_cons, w_fn, w_seq, w_nop, w_set, w_setO, w_ret, w_do, w_if, w_v0, w_o0, w_o0f, w_vs, w_clr0, w_clrs, w_nm, w_pr, w_add, w_sub, w_mul, w_addI, w_mulI, w_lt, w_le, w_gt, w_ge, w_truB, w_truI, w_truL, w_truT, w_truN, w_lenL, w_lenT, w_tupL, w_listT, w_listL, w_app, w_aug, w_for, List.set_cons_zero, List.set_cons_succ, List.getElem?_cons_zero, List.getElem?_cons_succ, List.length_cons, List.length_nil, Option.map_some, Option.map_none, Option.bind_some, Bool.or_true, Bool.true_or, eq_self, ite_true, ite_false, decide_true, decide_false, Int.reduceLT, Int.reduceLE, Int.reduceAdd, Int.reduceSub, Int.reduceMul, Int.reduceNeg, Nat.reduceAdd, Nat.reduceLT, Nat.reduceLeDiff, Nat.reduceEqDiff, reduceIte, w_lim, w_tup, w_lst, w_unp, w_and, w_or, w_andT, w_orT, w_not, w_ife, w_chain, w_isi, w_neg, w_isN, w_notN, w_raise, w_un0, w_max2, w_intI, w_intB, w_par, Bool.not_true, Bool.not_false, Int.zero_add, Nat.zero_add, hr]
  · rfl
/-! ## the sheet's methods that read -/
theorem w_mstate (m : Int) (es hs : List Dt) : F_m_state [shD m es hs] = some (.val (.tuple es)) := rfl
theorem w_mlen (m : Int) (ds hs : List Dt) (hl : ds.length ≤ 1000) : F_m___len__ [shD m ds hs] = some (.val (.int (((ds.filter fun d => !isN d).length : Nat) : Int))) := by
  refine run_rt ?_
  show g_m___len__ [some (.sh (shD m ds hs)), none] = _
  unfold g_m___len__
  refine ret_v ?_
  have hl2 : lcL (eBin dNotN (eVar 1) (eC .none)) (eVar 1) (gNm 1) [some (.sh (shD m ds hs)), none] ds = some ((ds.filter fun d => !isN d).map fun d => d) := lcL_filter (fun d => !isN d) (fun d => d) _ fun x hx => ⟨_, .bool (!isN x), rfl, rfl, rfl, fun _ => rfl⟩
  rw [List.map_id'] at hl2
  have h : eLc [1] (gNm 1) (iSeq (eFl dEnt (eVar 0))) (eBin dNotN (eVar 1) (eC .none)) (eVar 1) true [some (.sh (shD m ds hs)), none] = some (.val (.list (ds.filter fun d => !isN d))) := w_lc (w_seqL (xs := ds) rfl) rfl (by unfold lim; omega) hl2
  rw [w_un, h]
  rfl
/-- a place's text -/
def tx : Option Int → Str
  | none => "?"
  | some v => toString v
def tD : Dt → Dt
  | .none => .str "?"
  | .int v => .str (toString v)
  | d => d
theorem tD_gd (G : List (Option Int)) : (G.map gd).map tD = (G.map tx).map PyData.str := by
  rw [List.map_map, List.map_map]
  refine List.map_congr_left fun g _ => ?_
  cases g <;> rfl
theorem tx_len {g : Option Int} (h : ∀ v, g = some v → 0 ≤ v ∧ v < 12) : (tx g).length ≤ 2 := by
  cases g with
  | none => decide
  | some v =>
    obtain ⟨h0, h1⟩ := h v rfl
    have : v = 0 ∨ v = 1 ∨ v = 2 ∨ v = 3 ∨ v = 4 ∨ v = 5 ∨ v = 6 ∨ v = 7 ∨ v = 8 ∨ v = 9 ∨ v = 10 ∨ v = 11 := by omega
    rcases this with rfl | rfl | rfl | rfl | rfl | rfl | rfl | rfl | rfl | rfl | rfl | rfl <;> decide
theorem dStr_ok {v : Int} (h0 : 0 ≤ v) (h1 : v < 12) : dStr (.int v) = some (.str (toString v)) := by
  have : v = 0 ∨ v = 1 ∨ v = 2 ∨ v = 3 ∨ v = 4 ∨ v = 5 ∨ v = 6 ∨ v = 7 ∨ v = 8 ∨ v = 9 ∨ v = 10 ∨ v = 11 := by omega
  rcases this with rfl | rfl | rfl | rfl | rfl | rfl | rfl | rfl | rfl | rfl | rfl | rfl <;> rfl
theorem unS_map2 : ∀ ys : List Str, unS (ys.map PyData.str) = some ys
  | [] => rfl
  | y :: r => by
    show (unS (r.map PyData.str)).map (y :: ·) = _
    rw [unS_map2 r]
    rfl
theorem sum_two : ∀ ys : List Str, (∀ y ∈ ys, y.length ≤ 2) → (ys.map (·.length)).sum ≤ 2 * ys.length
  | [], _ => Nat.le_refl 0
  | y :: r, h => by
    have h1 := h y (List.mem_cons_self ..)
    have h2 := sum_two r fun z hz => h z (List.mem_cons_of_mem _ hz)
    rw [List.map_cons, List.sum_cons, List.length_cons]
    omega
theorem w_joinG {m : Nat} {G : List (Option Int)} (hG : GOk m G) (h12 : m ≤ 12) : dJoin (.str ",") (.list ((G.map gd).map tD)) = some (.str (Txt.join "," (G.map tx))) := by
  rw [tD_gd]
  have hl : ∀ y ∈ G.map tx, y.length ≤ 2 := fun y hy => by
    obtain ⟨g, hg, rfl⟩ := List.mem_map.mp hy
    exact tx_len fun v e => by subst e; have := hG.rng v hg; omega
  have hs := sum_two (G.map tx) hl
  have hg := hG.len
  unfold dJoin
  simp only [unS_map2]
  refine if_pos ?_
  rw [List.length_map] at hs ⊢
  have e1 : (Str.ofString ",").length = 1 := rfl
  show _ + G.length * (Str.ofString ",").length ≤ _
  rw [e1]
  omega
theorem tD_el {m : Nat} {G : List (Option Int)} (hG : GOk m G) (h12 : m ≤ 12) {x : Dt} (hx : x ∈ G.map gd) : (match tru (.bool (isN x)) with
    | some true => some (Rs.val (.str "?"))
    | some false => (dStr x).map Rs.val
    | none => none) = some (.val (tD x)) := by
  obtain ⟨g, hg, rfl⟩ := List.mem_map.mp hx
  cases g with
  | none => rfl
  | some v =>
    have := hG.rng v hg
    show (dStr (.int v)).map Rs.val = _
    rw [dStr_ok (by omega) (by omega)]
    rfl
theorem w_mstr {m : Nat} {G : List (Option Int)} (hs : List Dt) (hG : GOk m G) (h12 : m ≤ 12) : F_m___str__ [shD m (G.map gd) hs] = some (.val (.str (Txt.join "," (G.map tx)))) := by
  have hg := hG.len
  refine run_rt ?_
  show g_m___str__ [some (.sh (shD m (G.map gd) hs)), none] = _
  unfold g_m___str__
  refine ret_v ?_
  have hl2 : lcL (eC (.bool true)) (eIf (eBin dIsN (eVar 1) (eC .none)) (eC (.str "?")) (eUn dStr (eVar 1))) (gNm 1) [some (.sh (shD m (G.map gd) hs)), none] (G.map gd) = some ((G.map gd).map tD) := lcL_map tD _ fun x hx => ⟨_, rfl, tD_el hG h12 hx⟩
  have h : eLc [1] (gNm 1) (iSeq (eFl dEnt (eVar 0))) (eC (.bool true)) (eIf (eBin dIsN (eVar 1) (eC .none)) (eC (.str "?")) (eUn dStr (eVar 1))) true [some (.sh (shD m (G.map gd) hs)), none] = some (.val (.list ((G.map gd).map tD))) := w_lc (w_seqL (xs := G.map gd) rfl) rfl (by rw [List.length_map]; unfold lim; omega) hl2
  have h2 : eMeth isStr dJoin (eC (.str ",")) (eLc [1] (gNm 1) (iSeq (eFl dEnt (eVar 0))) (eC (.bool true)) (eIf (eBin dIsN (eVar 1) (eC .none)) (eC (.str "?")) (eUn dStr (eVar 1)))) true [some (.sh (shD m (G.map gd) hs)), none] = some (.val (.str (Txt.join "," (G.map tx)))) := by
    show bnd (eLc [1] _ _ _ _ true _) (fun y => (dJoin (.str ",") y).map Rs.val) = _
    rw [h, w_bnd, w_joinG hG h12]
    rfl
  rw [w_un, h2]
  rfl
/-! options -/
def f0 : Dt → Int
  | .tuple (.int v :: _) => v
  | _ => 0
def fst0 (m : Nat) (G : List (Option Int)) : List Int := (cmpl m G).map f0
theorem f0_ix {m : Nat} {T : List Int} (h1 : 1 ≤ m) (hT : IsTab m T) : dIx (tI' T) (.int 0) = some (.int (f0 (tI' T))) ∧ 0 ≤ f0 (tI' T) ∧ f0 (tI' T) < m := by
  cases T with
  | nil => have := hT.1; simp at this; omega
  | cons x T => exact ⟨atI_of (j := 0) (ixN_nat (by simp)) rfl, hT.2 x List.mem_cons_self⟩
theorem cmpl_len {m : Nat} {G : List (Option Int)} : (cmpl m G).length ≤ m ^ gaps G := by
  unfold cmpl
  rw [(isort_perm _).length_eq]
  refine Nat.le_trans (List.length_filter_le _ _) ?_
  rw [List.length_map, evL_len]
  exact Nat.le_refl _
theorem w_sset {m : Nat} {G : List (Option Int)} (h2 : 2 ≤ m) (h12 : m ≤ 12) (hG : GOk m G) (hz : m ^ gaps G ≤ 1000) : dSortSetL (.list ((cmpl m G).map fun d => PyData.int (f0 d))) = some (.list (sset (fst0 m G))) := by
  have e : (cmpl m G).map (fun d => PyData.int (f0 d)) = (fst0 m G).map PyData.int := by unfold fst0; rw [List.map_map]; rfl
  rw [e]
  have hb : (ddup (fst0 m G)).length ≤ m := ddup_small fun x hx => by
    obtain ⟨d, hd, rfl⟩ := List.mem_map.mp hx
    obtain ⟨T, rfl, _, hT, _⟩ := cmpl_mem hG hd
    exact (f0_ix (by omega) hT).2
  have hc := @cmpl_len m G
  unfold dSortSetL
  simp only [unI_map]
  exact if_pos ⟨by unfold fst0; rw [List.length_map]; omega, by omega⟩
theorem opt_el {m : Nat} {G : List (Option Int)} (h2 : 2 ≤ m) (hG : GOk m G) {x : Dt} (hx : x ∈ cmpl m G) : (dIx x (.int 0)).map Rs.val = some (.val (.int (f0 x))) := by
  obtain ⟨T, rfl, _, hT, _⟩ := cmpl_mem hG hx
  rw [(f0_ix (by omega) hT).1]
  rfl
theorem w_opt {m : Nat} {G : List (Option Int)} (hs : List Dt) (h2 : 2 ≤ m) (h12 : m ≤ 12) (hG : GOk m G) (hz : m ^ gaps G ≤ 1000) : F_m_options [shD m (G.map gd) hs, .int 0] = some (.val (.list (sset (fst0 m G)))) := by
  have hp := w_place_ok m 0 h2 (by omega)
  have hc := w_compl m G h2 h12 hG hz
  have hcl := @cmpl_len m G
  refine run_rt ?_
  show g_m_options [some (.sh (shD m (G.map gd) hs)), some (.sh (.int 0)), none] = _
  unfold g_m_options
  rw [seq_nx (do_v (d := .none) hp)]
  unfold t1_m_options
  refine ret_v ?_
  have hl2 : lcL (eC (.bool true)) (eBin dIx (eVar 2) (eVar 1)) (gNm 2) [some (.sh (shD m (G.map gd) hs)), some (.sh (.int 0)), none] (cmpl m G) = some ((cmpl m G).map fun d => PyData.int (f0 d)) := lcL_map _ _ fun x hx => ⟨_, rfl, opt_el h2 hG hx⟩
  have hi : iSeq (eFn 2 F_completions (aCons (eFl dMdl (eVar 0)) (aCons (eMt0 F_m_state (eVar 0)) (aNil)))) true [some (.sh (shD m (G.map gd) hs)), some (.sh (.int 0)), none] = some (.it (cmpl m G)) := w_seqL (xs := cmpl m G) hc
  rw [w_un, w_lc hi rfl (by unfold lim; omega) hl2, w_bnd, w_sset h2 h12 hG hz]
  rfl
theorem w_opt_many {m : Nat} {G : List (Option Int)} (hs : List Dt) (h2 : 2 ≤ m) (h12 : m ≤ 12) (hG : GOk m G) (hz : 1000 < m ^ gaps G) : F_m_options [shD m (G.map gd) hs, .int 0] = some (.exc "TooMany" none) := by
  have hp := w_place_ok m 0 h2 (by omega)
  have hc := w_compl_many m G h2 h12 hG hz
  refine run_ex ?_
  show g_m_options [some (.sh (shD m (G.map gd) hs)), some (.sh (.int 0)), none] = _
  unfold g_m_options
  rw [seq_nx (do_v (d := .none) hp)]
  unfold t1_m_options
  have hi : eFn 2 F_completions (aCons (eFl dMdl (eVar 0)) (aCons (eMt0 F_m_state (eVar 0)) (aNil))) true [some (.sh (shD m (G.map gd) hs)), some (.sh (.int 0)), none] = some (.exc "TooMany" none) := hc
  have h3 : eLc [2] (gNm 2) (iSeq (eFn 2 F_completions (aCons (eFl dMdl (eVar 0)) (aCons (eMt0 F_m_state (eVar 0)) (aNil))))) (eC (.bool true)) (eBin dIx (eVar 2) (eVar 1)) true [some (.sh (shD m (G.map gd) hs)), some (.sh (.int 0)), none] = some (.exc "TooMany" none) := by
    unfold eLc iSeq
    rw [hi]
    rfl
  rw [w_ret, w_un, h3]
  rfl
theorem w_opt_bad {m : Nat} {es : List Dt} (hs : List Dt) (d : Dt) (hb : inr d 0 ((m : Int) - 1) = false) : F_m_options [shD m es hs, d] = some (.exc "InvalidPlace" none) := by
  have hp := w_place_bad m d hb
  refine run_ex ?_
  show g_m_options [some (.sh (shD m es hs)), some (.sh d), none] = _
  unfold g_m_options
  refine seq_ex ?_
  have h1 : eFn 2 F_check_place (aCons (eFl dMdl (eVar 0)) (aCons (eVar 1) (aNil))) true [some (.sh (shD m es hs)), some (.sh d), none] = some (.exc "InvalidPlace" none) := hp
  rw [w_do, h1]
  rfl
/-! _law_entered, when it only reads -/
theorem ent_body (m : Int) (es hs : List Dt) (p : Dt) : (sSeq (sIf (eBin dEq (eVar 1) (eC (.int 0))) (sRet (eNo)) (sNop)) (sRet (eIf (eBin dEq (eVar 1) (eC (.int 1))) (eNo) (eMt 2 F_m_options (eVar 0) (aCons (eVar 2) (aNil)))))) [some (.sh (shD m es hs)), some (.sh (.int 2)), some (.sh p), some (.sh .none), none] = bndS (F_m_options [shD m es hs, p]) fun d => some (.rt d) := by
  generalize F_m_options = F
  rfl
theorem w_ent_v {m : Int} {es hs : List Dt} {p d : Dt} (h : F_m_options [shD m es hs, p] = some (.val d)) : F__law_entered [shD m es hs, .int 2, p, .none] = some (.val d) := by
  refine run_rt ?_
  show g__law_entered [some (.sh (shD m es hs)), some (.sh (.int 2)), some (.sh p), some (.sh .none), none] = _
  unfold g__law_entered sTry
  rw [ent_body, h]
  rfl
theorem w_ent_x {m : Int} {es hs : List Dt} {p : Dt} {n : Str} {d : Dt} (h : F_m_options [shD m es hs, p] = some (.exc n none)) (hn : tryGo EM n cl_ent = some (.rt d)) : F__law_entered [shD m es hs, .int 2, p, .none] = some (.val d) := by
  refine run_rt ?_
  show g__law_entered [some (.sh (shD m es hs)), some (.sh (.int 2)), some (.sh p), some (.sh .none), none] = _
  unfold g__law_entered sTry
  rw [ent_body, h]
  exact hn
theorem go_place : tryGo EM "InvalidPlace" cl_ent = some (.rt (.str "place")) := by rfl
theorem go_value : tryGo EM "InvalidValue" cl_ent = some (.rt (.str "value")) := by rfl
theorem go_many : tryGo EM "TooMany" cl_ent = some (.rt (.str "many")) := by rfl
theorem go_nothing : tryGo EM "NothingToUndo" cl_ent = some (.rt (.str "nothing")) := by rfl
/-! ## what was entered -/
def hd (q : Nat × Option Int) : Dt := .tuple [.int q.1, gd q.2]
inductive Hs (m : Nat) : List (List (Option Int)) → List (Nat × Option Int) → Prop
  | nil : Hs m [List.replicate m none] []
  | cons {Rs : List (List (Option Int))} {G : List (Option Int)} {hs : List (Nat × Option Int)} {p v : Nat} : Hs m (Rs ++ [G]) hs → p < m → v < m → Hs m (Rs ++ [G] ++ [G.set p (some (v : Int))]) (hs ++ [(p, G[p]?.getD none)])
theorem Hs.inv {m : Nat} {R : List (List (Option Int))} {hs : List (Nat × Option Int)} (h : Hs m R hs) : (R = [List.replicate m none] ∧ hs = []) ∨ ∃ Rs G hs' p v, R = Rs ++ [G] ++ [G.set p (some ((v : Nat) : Int))] ∧ hs = hs' ++ [(p, G[p]?.getD none)] ∧ Hs m (Rs ++ [G]) hs' ∧ p < m ∧ v < m := by
  cases h with
  | nil => exact .inl ⟨rfl, rfl⟩
  | cons h hp hv => exact .inr ⟨_, _, _, _, _, rfl, rfl, h, hp, hv⟩
theorem GOk.set' {m : Nat} {G : List (Option Int)} (h : GOk m G) (i : Nat) {g : Option Int} (hg : ∀ v, g = some v → 0 ≤ v ∧ v < m) : GOk m (G.set i g) := ⟨by rw [List.length_set]; exact h.len, fun v hv => by
  rcases List.mem_or_eq_of_mem_set hv with hv | hv
  · exact h.rng v hv
  · exact hg v hv.symm⟩
theorem Hs.ok {m : Nat} {R : List (List (Option Int))} {hs : List (Nat × Option Int)} (h : Hs m R hs) : ∀ G ∈ R, GOk m G := by
  induction h with
  | nil =>
    intro G hG
    rw [List.mem_singleton.mp hG]
    exact ⟨List.length_replicate, fun v hv => by have := List.eq_of_mem_replicate hv; cases this⟩
  | cons h hp hv ih =>
    intro G hG
    rcases List.mem_append.mp hG with hG | hG
    · exact ih G hG
    · rw [List.mem_singleton.mp hG]
      exact (ih _ (List.mem_append_right _ List.mem_cons_self)).set' _ fun v e => by cases e; omega
theorem Hs.len {m : Nat} {R : List (List (Option Int))} {hs : List (Nat × Option Int)} (h : Hs m R hs) : R.length = hs.length + 1 := by
  induction h with
  | nil => rfl
  | cons h hp hv ih =>
    simp only [List.length_append, List.length_cons, List.length_nil] at ih ⊢
    omega
/-! entering, undoing -/
theorem gd_at (G : List (Option Int)) (p : Nat) (h : p < G.length) : (G.map gd)[p]? = some (gd (G[p]?.getD none)) := by
  rw [List.getElem?_map, List.getElem?_eq_getElem h]
  rfl
theorem scl_gd (g : Option Int) : scl (gd g) = true := by cases g <;> rfl
theorem fx_ok {m : Nat} {G : List (Option Int)} {hs : List (Nat × Option Int)} (h2 : 2 ≤ m) (hG : GOk m G) {p v : Nat} (hp : p < m) (hv : v < m) (hl : hs.length < lim) :
    fx__law_entered m (G.map gd) (hs.map hd) [.int 0, .int p, .int v] = some (.val (gd (G[p]?.getD none)), (G.set p (some (v : Int))).map gd, (hs ++ [(p, G[p]?.getD none)]).map hd) := by
  have h1 := w_place_ok m p h2 hp
  have h3 := w_inr v 0 ((m : Int) - 1)
  rw [decide_eq_true (show (0 : Int) ≤ v by omega), decide_eq_true (show (v : Int) ≤ (m : Int) - 1 by omega)] at h3
  have hg := hG.len
  have h4 : ixN (G.map gd).length (p : Int) = some p := ixN_nat (by rw [List.length_map]; omega)
  have h5 := gd_at G p (by omega)
  have e : fx_enter m (G.map gd) (hs.map hd) [.int p, .int v] = some (.val (gd (G[p]?.getD none)), (G.set p (some (v : Int))).map gd, (hs ++ [(p, G[p]?.getD none)]).map hd) := by
    unfold fx_enter fxEnter
    simp only [h1, h3, h4, h5, Bool.and_self]
    rw [if_pos ⟨scl_gd _, by rw [List.length_map]; exact hl⟩, List.map_append, List.map_set]
    rfl
  unfold fx__law_entered fxEnt
  simp only [if_true, e]
theorem fx_place {m : Nat} (es hs : List Dt) {w v : Dt} (hb : inr w 0 ((m : Int) - 1) = false) : fx__law_entered m es hs [.int 0, w, v] = some (.val (.str "place"), es, hs) := by
  have h1 := w_place_bad m w hb
  have e : fx_enter m es hs [w, v] = some (.exc "InvalidPlace" none, es, hs) := by
    unfold fx_enter fxEnter
    simp only [h1]
  unfold fx__law_entered fxEnt
  simp only [if_true, e, go_place]
theorem fx_value {m : Nat} (es hs : List Dt) {p : Nat} {w : Dt} (h2 : 2 ≤ m) (hp : p < m) (hb : inr w 0 ((m : Int) - 1) = false) : fx__law_entered m es hs [.int 0, .int p, w] = some (.val (.str "value"), es, hs) := by
  have h1 := w_place_ok m p h2 hp
  have h3 := w_inrG w 0 ((m : Int) - 1)
  rw [hb] at h3
  have e : fx_enter m es hs [.int p, w] = some (.exc "InvalidValue" none, es, hs) := by
    unfold fx_enter fxEnter
    simp only [h1, h3]
  unfold fx__law_entered fxEnt
  simp only [if_true, e, go_value]
theorem fx_none {m : Int} (es : List Dt) : fx__law_entered m es [] [.int 1, .none, .none] = some (.val (.str "nothing"), es, []) := by
  have e : fx_undo m es [] [] = some (.exc "NothingToUndo" none, es, []) := rfl
  unfold fx__law_entered fxEnt
  simp only [show ¬ ((1 : Int) = 0) by decide, if_false, if_true, e, go_nothing]
theorem fx_back {m : Nat} {G : List (Option Int)} {hs : List (Nat × Option Int)} (hG : GOk m G) {p v : Nat} (hp : p < m) :
    fx__law_entered m ((G.set p (some (v : Int))).map gd) ((hs ++ [(p, G[p]?.getD none)]).map hd) [.int 1, .none, .none] = some (.val (.int p), G.map gd, hs.map hd) := by
  have hg := hG.len
  have h4 : ixN ((G.set p (some (v : Int))).map gd).length (p : Int) = some p := ixN_nat (by rw [List.length_map, List.length_set]; omega)
  have e1 : ((hs ++ [(p, G[p]?.getD none)]).map hd).getLast? = some (.tuple [.int p, gd (G[p]?.getD none)]) := by rw [List.map_append]; simp [hd]
  have e2 : ((hs ++ [(p, G[p]?.getD none)]).map hd).dropLast = hs.map hd := by rw [List.map_append]; simp
  have e3 : ((G.set p (some (v : Int))).map gd).set p (gd (G[p]?.getD none)) = G.map gd := by
    rw [← List.map_set, List.set_set, List.getElem?_eq_getElem (by omega : p < G.length)]
    show (G.set p G[p]).map gd = _
    rw [List.set_getElem_self]
  have e : fx_undo m ((G.set p (some (v : Int))).map gd) ((hs ++ [(p, G[p]?.getD none)]).map hd) [] = some (.val (.int p), G.map gd, hs.map hd) := by
    unfold fx_undo fxUndo
    simp only [e1, h4, e2, e3]
  unfold fx__law_entered fxEnt
  simp only [show ¬ ((1 : Int) = 0) by decide, if_false, if_true, e]
/-! effects, worked out -/
theorem cx_v {n : Nat} {F : FX} {i : Nat} {g : AF} {ρ : En} {m : Int} {es hs es' hs' ds : List Dt} {d : Dt} (h1 : ρ[i]? = some (some (.sht m es hs))) (h2 : g ρ = some (.vals ds)) (h3 : ds.length + 1 = n) (h4 : F m es hs ds = some (.val d, es', hs')) : eCX n F i g ρ = some (d, ρ.set i (some (.sht m es' hs'))) := by
  unfold eCX
  simp only [h1, h2, h3, if_true, h4]
theorem xne_v {f : XF} {g : EF} {ρ ρ' : En} {d d2 : Dt} {c : Bool} (h1 : f ρ = some (d, ρ')) (h2 : g true ρ' = some (.val d2)) (h3 : dNe d d2 = some (.bool c)) : xNe f g ρ = some (c, ρ') := by
  unfold xNe
  simp only [h1, h2, h3]
theorem xor_f {f g : XT} {ρ ρ' : En} (h1 : f ρ = some (false, ρ')) : xOr f g ρ = g ρ' := by unfold xOr; simp only [h1]
theorem ifX_f {f : XT} {s1 s2 : SF} {ρ ρ' : En} (h1 : f ρ = some (false, ρ')) : sIfX f s1 s2 ρ = s2 ρ' := by unfold sIfX; simp only [h1]
theorem setX_v {i : Nat} {f : XF} {ρ ρ' : En} {d : Dt} (h1 : f ρ = some (d, ρ')) : sSetX i f ρ = some (.nx (ρ'.set i (some (.sh d)))) := by unfold sSetX; simp only [h1]
theorem ifV_f {i : Nat} {f : EF} {s1 s2 : SF} {ρ : En} {d : Dt} (h1 : f true (vw i ρ) = some (.val d)) (h2 : tru d = some false) : sIfV i f s1 s2 ρ = s2 ρ := by unfold sIfV; simp only [h1, h2]
theorem ixN_m1 (n : Nat) : ixN (n + 1) (-1) = some n := by
  unfold ixN
  simp
  omega
theorem ixN_m2 (n : Nat) : ixN (n + 1 + 1) (-2) = some n := by
  unfold ixN
  simp
  omega
theorem ix_last (R : List Dt) (x : Dt) : dIx (.list (R ++ [x])) (.int (-1)) = some x := atI_of (j := R.length) (by rw [List.length_append]; exact ixN_m1 _) (by rw [List.getElem?_append_right (Nat.le_refl _), Nat.sub_self]; rfl)
theorem ix_last2 (R : List Dt) (x y : Dt) : dIx (.list (R ++ [x] ++ [y])) (.int (-2)) = some x := atI_of (j := R.length) (by rw [List.length_append, List.length_append]; exact ixN_m2 _) (by rw [List.append_assoc, List.getElem?_append_right (Nat.le_refl _), Nat.sub_self]; rfl)
theorem ix_gT (G : List (Option Int)) (p : Nat) (h : p < G.length) : dIx (gT G) (.int (p : Int)) = some (gd (G[p]?.getD none)) := atI_of (j := p) (ixN_nat (by rw [List.length_map]; exact h)) (gd_at G p h)
end PT

namespace PT
open PySem PySem.Spec PyProof.Rows L2
/-! ## k16: partly filled tables -/
def part (m : Nat) (T : List Int) (S : Nat → Bool) : List (Option Int) := (List.range m).map fun x => if S x = true then some (T.getD x 0) else none
theorem part_len (m : Nat) (T : List Int) (S : Nat → Bool) : (part m T S).length = m := by unfold part; rw [List.length_map, List.length_range]
theorem part_get {m : Nat} (T : List Int) (S : Nat → Bool) {x : Nat} (h : x < m) : (part m T S)[x]? = some (if S x = true then some (T.getD x 0) else none) := by
  unfold part
  rw [List.getElem?_map, List.getElem?_range h]
  rfl
theorem part_congr {m : Nat} {T : List Int} {S S' : Nat → Bool} (h : ∀ x, x < m → S x = S' x) : part m T S = part m T S' := by
  unfold part
  refine List.map_congr_left fun x hx => ?_
  rw [h x (List.mem_range.mp hx)]
theorem part_set {m : Nat} {T : List Int} {S : Nat → Bool} {p : Nat} (hp : p < m) (b : Bool) : (part m T S).set p (if b = true then some (T.getD p 0) else none) = part m T (fun x => if x = p then b else S x) := by
  apply List.ext_getElem?
  intro x
  by_cases hx : x < m
  · by_cases e : p = x
    · subst e
      rw [List.getElem?_set_self (by rw [part_len]; exact hx), part_get T _ hx, if_pos rfl]
    · rw [List.getElem?_set_ne e, part_get T _ hx, part_get T _ hx]
      simp only [if_neg (show ¬ x = p from fun z => e z.symm)]
  · rw [List.getElem?_eq_none (by rw [List.length_set, part_len]; omega), List.getElem?_eq_none (by rw [part_len]; omega)]
theorem part_ok {m : Nat} {T : List Int} (hT : IsTab m T) (S : Nat → Bool) : GOk m (part m T S) := ⟨part_len m T S, fun v hv => by
  obtain ⟨x, hx, e⟩ := List.mem_map.mp hv
  split at e
  · cases e; exact hT.get (List.mem_range.mp hx)
  · cases e⟩
theorem part_all {m : Nat} {T : List Int} (hT : IsTab m T) {S : Nat → Bool} (h : ∀ x, x < m → S x = true) : part m T S = T.map some := by
  apply List.ext_getElem?
  intro x
  by_cases hx : x < m
  · rw [part_get T S hx, h x hx, if_pos rfl, List.getElem?_map, List.getElem?_eq_getElem (by rw [hT.1]; exact hx), List.getD_eq_getElem?_getD, List.getElem?_eq_getElem (by rw [hT.1]; exact hx)]
    rfl
  · rw [List.getElem?_eq_none (by rw [part_len]; omega), List.getElem?_eq_none (by rw [List.length_map, hT.1]; omega)]
theorem part_no {m : Nat} {T : List Int} {S : Nat → Bool} (h : ∀ x, x < m → S x = false) : part m T S = List.replicate m none := by
  unfold part
  rw [List.eq_replicate_iff]
  refine ⟨by rw [List.length_map, List.length_range], fun b hb => ?_⟩
  obtain ⟨x, hx, rfl⟩ := List.mem_map.mp hb
  rw [h x (List.mem_range.mp hx), if_neg Bool.false_ne_true]
theorem gaps_flt (G : List (Option Int)) : gaps G + ((G.map gd).filter fun d => !isN d).length = G.length := by
  induction G with
  | nil => rfl
  | cons g G ih =>
    cases g with
    | none =>
      show gaps G + 1 + ((G.map gd).filter fun d => !isN d).length = G.length + 1
      omega
    | some v =>
      show gaps G + (((G.map gd).filter fun d => !isN d).length + 1) = G.length + 1
      omega
theorem tupL_of {m : Nat} : ∀ {c : Nat} {t : List Int}, t.length = c → (∀ v ∈ t, 0 ≤ v ∧ v < (m : Int)) → t ∈ tupL m c
  | 0, t, h, _ => by
    rw [List.length_eq_zero_iff.mp h]
    exact List.mem_cons_self
  | c + 1, t, h, hv => by
    have hne : t ≠ [] := fun z => by rw [z] at h; cases h
    show t ∈ extL m (tupL m c)
    unfold extL
    refine List.mem_flatMap.mpr ⟨t.dropLast, tupL_of (by rw [List.length_dropLast, h]; rfl) fun v hz => hv v (List.dropLast_subset t hz), List.mem_map.mpr ⟨(t.getLast hne).toNat, ?_, ?_⟩⟩
    · have := hv _ (List.getLast_mem hne)
      exact List.mem_range.mpr (by omega)
    · have := hv _ (List.getLast_mem hne)
      rw [Int.toNat_of_nonneg this.1]
      exact List.dropLast_concat_getLast hne
inductive Cpt : List (Option Int) → List Int → Prop
  | nil : Cpt [] []
  | gap {G : List (Option Int)} {T : List Int} {x : Int} : Cpt G T → Cpt (none :: G) (x :: T)
  | val {G : List (Option Int)} {T : List Int} {x : Int} : Cpt G T → Cpt (some x :: G) (x :: T)
theorem Cpt.fill {G : List (Option Int)} {T : List Int} (h : Cpt G T) : ∃ t, t.length = gaps G ∧ (∀ v ∈ t, v ∈ T) ∧ PT.fill G t = T := by
  induction h with
  | nil => exact ⟨[], rfl, (fun _ z => nomatch z), rfl⟩
  | @gap G T x h ih =>
    obtain ⟨t, h1, h2, h3⟩ := ih
    refine ⟨x :: t, by show t.length + 1 = gaps G + 1; omega, fun v hv => ?_, ?_⟩
    · rcases List.mem_cons.mp hv with rfl | hv
      · exact List.mem_cons_self
      · exact List.mem_cons_of_mem _ (h2 v hv)
    · show x :: PT.fill G t = x :: T
      rw [h3]
  | @val G T x h ih =>
    obtain ⟨t, h1, h2, h3⟩ := ih
    refine ⟨t, h1, fun v hv => List.mem_cons_of_mem _ (h2 v hv), ?_⟩
    show x :: PT.fill G t = x :: T
    rw [h3]
theorem cpt_of : ∀ {G : List (Option Int)} {T : List Int}, G.length = T.length → (∀ i, i < T.length → G[i]? = some none ∨ G[i]? = some (some (T.getD i 0))) → Cpt G T
  | [], [], _, _ => .nil
  | [], _ :: _, h, _ => by cases h
  | _ :: _, [], h, _ => by cases h
  | g :: G, x :: T, h, hc => by
    have ih := cpt_of (G := G) (T := T) (by simpa using h) fun i hi => by
      have := hc (i + 1) (by simpa using hi)
      simpa using this
    have h0 := hc 0 (by simp)
    rcases h0 with h0 | h0
    · have e : g = none := by simpa using h0
      subst e
      exact .gap ih
    · have e : g = some x := by simpa using h0
      subst e
      exact .val ih
theorem part_cmpl {m : Nat} {T : List Int} (hT : IsTab m T) (hf : fault m T = none) (S : Nat → Bool) : tI' T ∈ cmpl m (part m T S) := by
  have hc : Cpt (part m T S) T := cpt_of (by rw [part_len, hT.1]) fun i hi => by
    rw [part_get T S (by rw [← hT.1]; exact hi)]
    split
    · exact .inr rfl
    · exact .inl rfl
  obtain ⟨t, h1, h2, h3⟩ := hc.fill
  unfold cmpl
  refine (isort_perm _).mem_iff.mpr (List.mem_filter.mpr ⟨List.mem_map.mpr ⟨T, ?_, rfl⟩, ?_⟩)
  · unfold evL
    exact List.mem_map.mpr ⟨t, tupL_of h1 fun v hv => hT.2 v (h2 v hv), h3⟩
  · rw [pF_tI, hf]; rfl
/-! options, at any place -/
def fp (p : Nat) : Dt → Int
  | .tuple ds => ((unI ds).getD []).getD p 0
  | _ => 0
theorem fp_tI (p : Nat) (T : List Int) : fp p (tI' T) = T.getD p 0 := by
  show ((unI (T.map PyData.int)).getD []).getD p 0 = _
  rw [unI_map]
  rfl
theorem w_optp {m p : Nat} {G : List (Option Int)} (hs : List Dt) (hp : p < m) (h2 : 2 ≤ m) (h12 : m ≤ 12) (hG : GOk m G) (hz : m ^ gaps G ≤ 1000) : F_m_options [shD m (G.map gd) hs, .int (p : Int)] = some (.val (.list (sset ((cmpl m G).map (fp p))))) := by
  have hpl := w_place_ok m p h2 hp
  have hc := w_compl m G h2 h12 hG hz
  have hcl := @cmpl_len m G
  have el : ∀ x ∈ cmpl m G, (dIx x (.int (p : Int))).map Rs.val = some (.val (.int (fp p x))) ∧ 0 ≤ fp p x ∧ fp p x < m := fun x hx => by
    obtain ⟨T, rfl, _, hT, _⟩ := cmpl_mem hG hx
    rw [fp_tI]
    refine ⟨?_, hT.get hp⟩
    have e : dIx (tI' T) (.int (p : Int)) = some (.int (T.getD p 0)) := atI_of (j := p) (ixN_nat (by rw [List.length_map, hT.1]; exact hp)) (by rw [List.getElem?_map, List.getElem?_eq_getElem (by rw [hT.1]; exact hp), List.getD_eq_getElem?_getD, List.getElem?_eq_getElem (by rw [hT.1]; exact hp)]; rfl)
    rw [e]
    rfl
  have hss : dSortSetL (.list ((cmpl m G).map fun d => PyData.int (fp p d))) = some (.list (sset ((cmpl m G).map (fp p)))) := by
    have e : (cmpl m G).map (fun d => PyData.int (fp p d)) = ((cmpl m G).map (fp p)).map PyData.int := by rw [List.map_map]; rfl
    rw [e]
    have hb : (ddup ((cmpl m G).map (fp p))).length ≤ m := ddup_small fun x hx => by
      obtain ⟨d, hd, rfl⟩ := List.mem_map.mp hx
      exact (el d hd).2
    unfold dSortSetL
    simp only [unI_map]
    exact if_pos ⟨by rw [List.length_map]; omega, by omega⟩
  refine run_rt ?_
  show g_m_options [some (.sh (shD m (G.map gd) hs)), some (.sh (.int (p : Int))), none] = _
  unfold g_m_options
  rw [seq_nx (do_v (d := .none) hpl)]
  unfold t1_m_options
  refine ret_v ?_
  have hl2 : lcL (eC (.bool true)) (eBin dIx (eVar 2) (eVar 1)) (gNm 2) [some (.sh (shD m (G.map gd) hs)), some (.sh (.int (p : Int))), none] (cmpl m G) = some ((cmpl m G).map fun d => PyData.int (fp p d)) := lcL_map _ _ fun x hx => ⟨_, rfl, (el x hx).1⟩
  have hi : iSeq (eFn 2 F_completions (aCons (eFl dMdl (eVar 0)) (aCons (eMt0 F_m_state (eVar 0)) (aNil)))) true [some (.sh (shD m (G.map gd) hs)), some (.sh (.int (p : Int))), none] = some (.it (cmpl m G)) := w_seqL (xs := cmpl m G) hc
  rw [w_un, w_lc hi rfl (by unfold lim; omega) hl2, w_bnd, hss]
  rfl
theorem sset_mem {l : List Int} {x : Int} (h : x ∈ l) : dNotIn (.int x) (.list (sset l)) = some (.bool false) := by
  have hp : PyData.plainAll (sset l) = true := (Sh.all (n := 59) fun d hd => by
    obtain ⟨i, _, rfl⟩ := List.mem_map.mp ((isort_perm _).mem_iff.mp hd)
    exact Sh.int 59 i).1
  show (if (PyData.plain (.int x) && PyData.plainAll (sset l) && dep (.int x)) = true then some (PyData.bool (!(sset l).any fun y => PyData.eqv y (.int x))) else none) = _
  rw [if_pos (by rw [hp]; rfl)]
  have : ((sset l).any fun y => PyData.eqv y (.int x)) = true := List.any_eq_true.mpr ⟨.int x, (isort_perm _).mem_iff.mpr (List.mem_map.mpr ⟨x, ddup_mem.mpr h, rfl⟩), eqv_refl rfl⟩
  rw [this]
  rfl
/-! == -/
theorem w_meq (m m' : Int) (es hs es' hs' : List Dt) : F_m___eq__ [shD m es hs, shD m' es' hs'] = (dEq (.tuple es) (.tuple es')).map .val := by
  have e : g_m___eq__ (start0 2 [shD m es hs, shD m' es' hs']) = bndS ((dEq (.tuple es) (.tuple es')).map Rs.val) fun d => some (.rt d) := rfl
  show runB 2 g_m___eq__ _ = _
  unfold runB
  rw [e]
  cases dEq (.tuple es) (.tuple es') <;> rfl
theorem w_meq_no (m : Int) (es hs : List Dt) (d : Dt) (h : isSht d = false) : F_m___eq__ [shD m es hs, d] = some (.val (.bool false)) := by
  refine run_rt ?_
  show g_m___eq__ [some (.sh (shD m es hs)), some (.sh d)] = _
  unfold g_m___eq__
  refine seq_rt ?_
  rw [if_t (d := .bool true)]
  · rfl
  · show some (Rs.val (PyData.bool (!(isSht d)))) = _
    rw [h]
    rfl
  · rfl
/-! entering, undoing -/
theorem fe_ok {m : Nat} {G : List (Option Int)} {hs : List (Nat × Option Int)} (h2 : 2 ≤ m) (hG : GOk m G) {p : Nat} {v : Int} (hp : p < m) (h0 : 0 ≤ v) (hv : v < m) (hl : hs.length < lim) :
    fx_enter m (G.map gd) (hs.map hd) [.int p, .int v] = some (.val (gd (G[p]?.getD none)), (G.set p (some v)).map gd, (hs ++ [(p, G[p]?.getD none)]).map hd) := by
  have h1 := w_place_ok m p h2 hp
  have h3 := w_inr v 0 ((m : Int) - 1)
  rw [decide_eq_true (show (0 : Int) ≤ v by omega), decide_eq_true (show v ≤ (m : Int) - 1 by omega)] at h3
  have hg := hG.len
  have h4 : ixN (G.map gd).length (p : Int) = some p := ixN_nat (by rw [List.length_map]; omega)
  have h5 := gd_at G p (by omega)
  unfold fx_enter fxEnter
  simp only [h1, h3, h4, h5, Bool.and_self]
  rw [if_pos ⟨scl_gd _, by rw [List.length_map]; exact hl⟩, List.map_append, List.map_set]
  rfl
theorem fu_ok {m : Int} {G : List (Option Int)} {hs : List (Nat × Option Int)} {p : Nat} {o : Option Int} (hp : p < G.length) :
    fx_undo m (G.map gd) ((hs ++ [(p, o)]).map hd) [] = some (.val (.int p), (G.set p o).map gd, hs.map hd) := by
  have h4 : ixN (G.map gd).length (p : Int) = some p := ixN_nat (by rw [List.length_map]; omega)
  have e1 : ((hs ++ [(p, o)]).map hd).getLast? = some (.tuple [.int p, gd o]) := by rw [List.map_append]; simp [hd]
  have e2 : ((hs ++ [(p, o)]).map hd).dropLast = hs.map hd := by rw [List.map_append]; simp
  unfold fx_undo fxUndo
  simp only [e1, h4, e2, List.map_set]
theorem ifX_vw {l : List Nat} {f : EF} {s1 s2 : SF} {ρ : En} {d : Dt} (h : f true (vws l ρ) = some (.val d)) (ht : tru d = some false) : sIfX (xVw l f) s1 s2 ρ = s2 ρ := by
  refine ifX_f ?_
  unfold xVw
  simp only [h, ht]
  rfl
theorem xvw_f {l : List Nat} {f : EF} {ρ : En} {d : Dt} (h : f true (vws l ρ) = some (.val d)) (ht : tru d = some false) : xVw l f ρ = some (false, ρ) := by
  unfold xVw
  simp only [h, ht]
  rfl
theorem doX_v {f : XF} {ρ ρ' : En} {d : Dt} (h1 : f ρ = some (d, ρ')) : sDoX f ρ = some (.nx ρ') := by unfold sDoX; simp only [h1]
theorem gT_ne_self (G : List (Option Int)) : dNe (gT G) (gT G) = some (.bool false) := by
  have h : Sh 60 (gT G) := Sh.tuple (n := 59) fun d hd => by
    obtain ⟨g, _, rfl⟩ := List.mem_map.mp hd
    cases g with
    | none => exact Sh.none 59
    | some v => exact Sh.int 59 v
  rw [ne_sh h h, eqv_refl h.1]; rfl
theorem gT_eq (G G' : List (Option Int)) : dEq (gT G) (gT G') = some (.bool (PyData.eqv (gT G) (gT G'))) := by
  have h : ∀ G : List (Option Int), Sh 60 (gT G) := fun G => Sh.tuple (n := 59) fun d hd => by
    obtain ⟨g, _, rfl⟩ := List.mem_map.mp hd
    cases g with
    | none => exact Sh.none 59
    | some v => exact Sh.int 59 v
  exact eq_sh (h G) (h G')
theorem gT_refl (G : List (Option Int)) : PyData.eqv (gT G) (gT G) = true := by
  have h : Sh 60 (gT G) := Sh.tuple (n := 59) fun d hd => by
    obtain ⟨g, _, rfl⟩ := List.mem_map.mp hd
    cases g with
    | none => exact Sh.none 59
    | some v => exact Sh.int 59 v
  exact eqv_refl h.1
end PT

namespace PT
open PySem PySem.Spec PyProof.Rows L2
/-! ## k16: the law -/
def kf (g : Nat → Int) (x : Nat) : Dt := .tuple [.int (g x), .int (x : Int)]
theorem T_ix {m : Nat} {T : List Int} (hT : IsTab m T) {p : Nat} (hp : p < m) : dIx (tI' T) (.int (p : Int)) = some (.int (T.getD p 0)) := atI_of (j := p) (ixN_nat (by rw [List.length_map, hT.1]; exact hp)) (by rw [List.getElem?_map, List.getElem?_eq_getElem (by rw [hT.1]; exact hp), List.getD_eq_getElem?_getD, List.getElem?_eq_getElem (by rw [hT.1]; exact hp)]; rfl)
theorem w_l1 {m : Nat} {T : List Int} (S0 D0 : Dt) (P : List Nat) (g : Nat → Int) (h2 : 2 ≤ m) (h12 : m ≤ 12) (hT : IsTab m T) (A2 H2 : List Dt) : ∃ hs : List (Nat × Option Int), ∃ j7, forL [7] (gNm 7) b1_law (rgL 0 m) [some (.sh (S0)), some (.sh (D0)), some (.sh (.int m)), some (.sh (tI' T)), some (.sh (.list (P.map (kf g)))), some (.sht (m : Int) ((List.replicate m (none : Option Int)).map gd) (List.map hd [])), some (.sht (m : Int) A2 H2), none, none, none, none] = some (.nx [some (.sh (S0)), some (.sh (D0)), some (.sh (.int m)), some (.sh (tI' T)), some (.sh (.list (P.map (kf g)))), some (.sht (m : Int) ((T.map some).map gd) (hs.map hd)), some (.sht (m : Int) A2 H2), j7, none, none, none]) := by
  obtain ⟨ρ', h1, hs, j7, hl, h3⟩ := forL_inv (sl := [7]) (tg := gNm 7) (body := b1_law) (fun i ρ => ∃ (hs : List (Nat × Option Int)) (j7 : Option SV), hs.length = i ∧ ρ = [some (.sh (S0)), some (.sh (D0)), some (.sh (.int m)), some (.sh (tI' T)), some (.sh (.list (P.map (kf g)))), some (.sht (m : Int) ((part m T (fun x => decide (x < i))).map gd) (hs.map hd)), some (.sht (m : Int) A2 H2), j7, none, none, none]) (rgL 0 m) 0 [some (.sh (S0)), some (.sh (D0)), some (.sh (.int m)), some (.sh (tI' T)), some (.sh (.list (P.map (kf g)))), some (.sht (m : Int) ((List.replicate m (none : Option Int)).map gd) (List.map hd [])), some (.sht (m : Int) A2 H2), none, none, none, none] ⟨[], none, rfl, by rw [part_no (S := fun x => decide (x < 0)) fun x _ => rfl]⟩ (by
    rintro i x ρ hx ⟨hs, j7, hl, rfl⟩
    obtain ⟨hi, rfl⟩ := rgL_at hx
    rw [Nat.zero_add] at hl ⊢
    rw [Int.zero_add]
    have dT := T_ix hT hi
    have ht := hT.get hi
    have fe := fe_ok (hs := hs) h2 (part_ok hT (fun x => decide (x < i))) hi ht.1 ht.2 (by unfold lim; omega)
    refine ⟨_, ?_, hs ++ [(i, (part m T (fun x => decide (x < i)))[i]?.getD none)], some (.sh (.int (i : Int))), by rw [List.length_append, hl]; rfl, rfl⟩
    have e : part m T (fun x => decide (x < i + 1)) = (part m T (fun x => decide (x < i))).set i (some (T.getD i 0)) := by
      rw [show some (T.getD i 0) = (if true = true then some (T.getD i 0) else none) from rfl, part_set hi true]
      refine part_congr fun x _ => ?_
      by_cases q : x = i
      · rw [if_pos q]; exact decide_eq_true (by omega)
      · rw [if_neg q]
        by_cases q2 : x < i
        · rw [decide_eq_true q2, decide_eq_true (by omega)]
        · rw [decide_eq_false q2, decide_eq_false (by omega)]
    rw [e]
    unfold turn
    show b1_law [some (.sh (S0)), some (.sh (D0)), some (.sh (.int m)), some (.sh (tI' T)), some (.sh (.list (P.map (kf g)))), some (.sht (m : Int) ((part m T (fun x => decide (x < i))).map gd) (hs.map hd)), some (.sht (m : Int) A2 H2), some (.sh (.int (i : Int))), none, none, none] = _
    unfold b1_law
    exact doX_v (cx_v rfl (ds := [.int (i : Int), .int (T.getD i 0)]) (by simp only [w_bnd, w_bndX, w_bndN, w_bndS, w_bndSX, w_bndSN, w_bndI, w_bndA, w_c, w_bin, w_un, w_nil, w_cons, w_fn, w_seq, w_nop, w_set, w_setO, w_ret, w_do, w_if, w_v0, w_o0, w_o0f, w_vs, w_clr0, w_clrs, w_nm, w_pr, w_add, w_sub, w_mul, w_addI, w_mulI, w_lt, w_le, w_gt, w_ge, w_truB, w_truI, w_truL, w_truT, w_truN, w_lenL, w_lenT, w_tupL, w_listT, w_listL, w_app, w_aug, w_for, List.set_cons_zero, List.set_cons_succ, List.getElem?_cons_zero, List.getElem?_cons_succ, List.length_cons, List.length_nil, Option.map_some, Option.map_none, Option.bind_some, Bool.or_true, Bool.true_or, eq_self, ite_true, ite_false, decide_true, decide_false, Int.reduceLT, Int.reduceLE, Int.reduceAdd, Int.reduceSub, Int.reduceMul, Int.reduceNeg, Nat.reduceAdd, Nat.reduceLT, Nat.reduceLeDiff, Nat.reduceEqDiff, reduceIte, w_lim, w_tup, w_lst, w_unp, w_and, w_or, w_andT, w_orT, w_not, w_ife, w_chain, w_isi, w_neg, w_isN, w_notN, w_raise, w_un0, w_max2, w_intI, w_intB, w_par, Bool.not_true, Bool.not_false, Int.zero_add, Nat.zero_add, dT]) rfl fe))
  rw [rgL_length, Nat.zero_add] at hl h3
  rw [part_all hT (S := fun x => decide (x < m)) fun x hx => decide_eq_true hx] at h3
  subst h3
  exact ⟨hs, j7, h1⟩
theorem take_mem_step {P : List Nat} {i p : Nat} (h : P[i]? = some p) (x : Nat) : (x ∈ P.take (i + 1)) ↔ (x = p ∨ x ∈ P.take i) := by
  rw [take_snoc h, List.mem_append, List.mem_singleton]
  exact or_comm
theorem nodup_take {P : List Nat} (hn : P.Nodup) {i p : Nat} (h : P[i]? = some p) : p ∉ P.take i := fun z => by
  have h1 : (P.take (i + 1)).Nodup := hn.sublist (List.take_sublist _ _)
  rw [take_snoc h] at h1
  exact (List.nodup_append.mp h1).2.2 p z p List.mem_cons_self rfl
theorem w_l2 {m : Nat} {T : List Int} (S0 D0 : Dt) (P : List Nat) (g : Nat → Int) (h2 : 2 ≤ m) (h6 : m ≤ 6) (hT : IsTab m T) (hf : fault m T = none) (hPl : P.length = m) (hPm : ∀ x ∈ P, x < m) (hPn : P.Nodup) (A1 H1 A3 H3 : List Dt) (j7 : Option SV) : ∃ j7' j9, forL [9, 7] (gPr (gNm 9) (gNm 7)) b2_law (P.map (kf g)) [some (.sh (S0)), some (.sh (D0)), some (.sh (.int m)), some (.sh (tI' T)), some (.sh (.list (P.map (kf g)))), some (.sht (m : Int) A1 H1), some (.sht (m : Int) ((List.replicate m (none : Option Int)).map gd) (List.map hd [])), j7, some (.sht (m : Int) A3 H3), none, none] = some (.nx [some (.sh (S0)), some (.sh (D0)), some (.sh (.int m)), some (.sh (tI' T)), some (.sh (.list (P.map (kf g)))), some (.sht (m : Int) A1 H1), some (.sht (m : Int) ((part m T (fun x => decide (x ∈ P))).map gd) ((P.map fun p => (p, (none : Option Int))).map hd)), j7', some (.sht (m : Int) A3 H3), j9, none]) := by
  obtain ⟨ρ', h1, j7', j9, h3⟩ := forL_inv (sl := [9, 7]) (tg := gPr (gNm 9) (gNm 7)) (body := b2_law) (fun i ρ => ∃ (j7 j9 : Option SV), ρ = [some (.sh (S0)), some (.sh (D0)), some (.sh (.int m)), some (.sh (tI' T)), some (.sh (.list (P.map (kf g)))), some (.sht (m : Int) A1 H1), some (.sht (m : Int) ((part m T (fun x => decide (x ∈ P.take i))).map gd) (((P.take i).map fun p => (p, (none : Option Int))).map hd)), j7, some (.sht (m : Int) A3 H3), j9, none]) (P.map (kf g)) 0 [some (.sh (S0)), some (.sh (D0)), some (.sh (.int m)), some (.sh (tI' T)), some (.sh (.list (P.map (kf g)))), some (.sht (m : Int) A1 H1), some (.sht (m : Int) ((List.replicate m (none : Option Int)).map gd) (List.map hd [])), j7, some (.sht (m : Int) A3 H3), none, none] ⟨j7, none, by rw [part_no (S := fun x => decide (x ∈ P.take 0)) fun x _ => by simp]; rfl⟩ (by
    rintro i x ρ hx ⟨j7, j9, rfl⟩
    rw [Nat.zero_add]
    rw [List.getElem?_map] at hx
    cases hp : P[i]? with
    | none => rw [hp] at hx; cases hx
    | some p =>
      rw [hp] at hx
      cases hx
      have hil : i < P.length := (List.getElem?_eq_some_iff.mp hp).1
      have hpm : p < m := hPm p (List.mem_of_getElem? hp)
      have dT := T_ix hT hpm
      have ht := hT.get hpm
      have hG := part_ok hT (fun x => decide (x ∈ P.take i))
      have hnp := nodup_take hPn hp
      have hold : (part m T (fun x => decide (x ∈ P.take i)))[p]?.getD none = none := by
        rw [part_get T _ hpm, decide_eq_false hnp]; rfl
      have fe := fe_ok (hs := (P.take i).map fun p => (p, (none : Option Int))) h2 hG hpm ht.1 ht.2 (by rw [List.length_map, List.length_take]; unfold lim; omega)
      rw [hold] at fe
      refine ⟨_, ?_, some (.sh (.int (p : Int))), some (.sh (.int (g p))), rfl⟩
      have e : part m T (fun x => decide (x ∈ P.take (i + 1))) = (part m T (fun x => decide (x ∈ P.take i))).set p (some (T.getD p 0)) := by
        rw [show some (T.getD p 0) = (if true = true then some (T.getD p 0) else none) from rfl, part_set hpm true]
        refine part_congr fun x _ => ?_
        by_cases q : x = p
        · rw [if_pos q]; exact decide_eq_true ((take_mem_step hp x).mpr (.inl q))
        · rw [if_neg q]
          by_cases q2 : x ∈ P.take i
          · rw [decide_eq_true q2, decide_eq_true ((take_mem_step hp x).mpr (.inr q2))]
          · rw [decide_eq_false q2, decide_eq_false fun z => ((take_mem_step hp x).mp z).elim q q2]
      have e2 : (P.take (i + 1)).map (fun p => (p, (none : Option Int))) = (P.take i).map (fun p => (p, (none : Option Int))) ++ [(p, none)] := by rw [take_snoc hp, List.map_append]; rfl
      rw [e, e2]
      unfold turn
      show b2_law [some (.sh (S0)), some (.sh (D0)), some (.sh (.int m)), some (.sh (tI' T)), some (.sh (.list (P.map (kf g)))), some (.sht (m : Int) A1 H1), some (.sht (m : Int) ((part m T (fun x => decide (x ∈ P.take i))).map gd) (((P.take i).map fun p => (p, (none : Option Int))).map hd)), some (.sh (.int (p : Int))), some (.sht (m : Int) A3 H3), some (.sh (.int (g p))), none] = _
      unfold b2_law
      have hgf := gaps_flt (part m T (fun x => decide (x ∈ P.take i)))
      rw [part_len] at hgf
      have hln := w_mlen m ((part m T (fun x => decide (x ∈ P.take i))).map gd) (((P.take i).map fun p => (p, (none : Option Int))).map hd) (by rw [List.length_map, part_len]; omega)
      have ln : eSp lenOk F_m___len__ (eVar 6) true [some (.sh (S0)), some (.sh (D0)), some (.sh (.int m)), some (.sh (tI' T)), some (.sh (.list (P.map (kf g)))), some (.sht (m : Int) A1 H1), some (.sh (shD (m : Int) ((part m T (fun x => decide (x ∈ P.take i))).map gd) (((P.take i).map fun p => (p, (none : Option Int))).map hd))), some (.sh (.int (p : Int))), some (.sht (m : Int) A3 H3), some (.sh (.int (g p))), none] = some (.val (.int (((((part m T (fun x => decide (x ∈ P.take i))).map gd).filter fun d => !isN d).length : Nat) : Int))) := by
        show (match F_m___len__ [shD (m : Int) ((part m T (fun x => decide (x ∈ P.take i))).map gd) (((P.take i).map fun p => (p, (none : Option Int))).map hd)] with | some (.val d) => if lenOk d = true then some (Rs.val d) else none | _ => none) = _
        rw [hln]
        refine if_pos ?_
        unfold lenOk
        rw [Bool.and_eq_true, decide_eq_true_eq, decide_eq_true_eq]
        omega
      refine (seq_nx (ρ' := [some (.sh (S0)), some (.sh (D0)), some (.sh (.int m)), some (.sh (tI' T)), some (.sh (.list (P.map (kf g)))), some (.sht (m : Int) A1 H1), some (.sht (m : Int) ((part m T (fun x => decide (x ∈ P.take i))).map gd) (((P.take i).map fun p => (p, (none : Option Int))).map hd)), some (.sh (.int (p : Int))), some (.sht (m : Int) A3 H3), some (.sh (.int (g p))), none]) ?_).trans (doX_v (cx_v rfl (ds := [.int (p : Int), .int (T.getD p 0)]) (by simp only [w_bnd, w_bndX, w_bndN, w_bndS, w_bndSX, w_bndSN, w_bndI, w_bndA, w_c, w_bin, w_un, w_nil, w_cons, w_fn, w_seq, w_nop, w_set, w_setO, w_ret, w_do, w_if, w_v0, w_o0, w_o0f, w_vs, w_clr0, w_clrs, w_nm, w_pr, w_add, w_sub, w_mul, w_addI, w_mulI, w_lt, w_le, w_gt, w_ge, w_truB, w_truI, w_truL, w_truT, w_truN, w_lenL, w_lenT, w_tupL, w_listT, w_listL, w_app, w_aug, w_for, List.set_cons_zero, List.set_cons_succ, List.getElem?_cons_zero, List.getElem?_cons_succ, List.length_cons, List.length_nil, Option.map_some, Option.map_none, Option.bind_some, Bool.or_true, Bool.true_or, eq_self, ite_true, ite_false, decide_true, decide_false, Int.reduceLT, Int.reduceLE, Int.reduceAdd, Int.reduceSub, Int.reduceMul, Int.reduceNeg, Nat.reduceAdd, Nat.reduceLT, Nat.reduceLeDiff, Nat.reduceEqDiff, reduceIte, w_lim, w_tup, w_lst, w_unp, w_and, w_or, w_andT, w_orT, w_not, w_ife, w_chain, w_isi, w_neg, w_isN, w_notN, w_raise, w_un0, w_max2, w_intI, w_intB, w_par, Bool.not_true, Bool.not_false, Int.zero_add, Nat.zero_add, dT]) rfl fe))
      · refine ifX_vw (d := .bool false) ?_ rfl
        show eAndT _ _ true [some (.sh (S0)), some (.sh (D0)), some (.sh (.int m)), some (.sh (tI' T)), some (.sh (.list (P.map (kf g)))), some (.sht (m : Int) A1 H1), some (.sh (shD (m : Int) ((part m T (fun x => decide (x ∈ P.take i))).map gd) (((P.take i).map fun p => (p, (none : Option Int))).map hd))), some (.sh (.int (p : Int))), some (.sht (m : Int) A3 H3), some (.sh (.int (g p))), none] = _
        by_cases hge : (m : Int) ≤ (((((part m T (fun x => decide (x ∈ P.take i))).map gd).filter fun d => !isN d).length : Nat) : Int) + 3
        · have hz : m ^ gaps (part m T (fun x => decide (x ∈ P.take i))) ≤ 1000 := Nat.le_trans (Nat.pow_le_pow_right (by omega) (show gaps (part m T (fun x => decide (x ∈ P.take i))) ≤ 3 by omega)) (Nat.le_trans (Nat.pow_le_pow_left h6 3) (by decide))
          have op := w_optp (((P.take i).map fun p => (p, (none : Option Int))).map hd) hpm h2 (by omega) hG hz
          have op2 : eMt 2 F_m_options (eVar 6) (aCons (eVar 7) (aNil)) true [some (.sh (S0)), some (.sh (D0)), some (.sh (.int m)), some (.sh (tI' T)), some (.sh (.list (P.map (kf g)))), some (.sht (m : Int) A1 H1), some (.sh (shD (m : Int) ((part m T (fun x => decide (x ∈ P.take i))).map gd) (((P.take i).map fun p => (p, (none : Option Int))).map hd))), some (.sh (.int (p : Int))), some (.sht (m : Int) A3 H3), some (.sh (.int (g p))), none] = some (.val (.list (sset ((cmpl m (part m T (fun x => decide (x ∈ P.take i)))).map (fp p))))) := op
          have sm := sset_mem (l := (cmpl m (part m T (fun x => decide (x ∈ P.take i)))).map (fp p)) (x := T.getD p 0) (List.mem_map.mpr ⟨tI' T, part_cmpl hT hf _, fp_tI p T⟩)
          simp only [w_bnd, w_bndX, w_bndN, w_bndS, w_bndSX, w_bndSN, w_bndI, w_bndA, w_c, w_bin, w_un, w_nil, w_cons, w_fn, w_seq, w_nop, w_set, w_setO, w_ret, w_do, w_if, w_v0, w_o0, w_o0f, w_vs, w_clr0, w_clrs, w_nm, w_pr, w_add, w_sub, w_mul, w_addI, w_mulI, w_lt, w_le, w_gt, w_ge, w_truB, w_truI, w_truL, w_truT, w_truN, w_lenL, w_lenT, w_tupL, w_listT, w_listL, w_app, w_aug, w_for, List.set_cons_zero, List.set_cons_succ, List.getElem?_cons_zero, List.getElem?_cons_succ, List.length_cons, List.length_nil, Option.map_some, Option.map_none, Option.bind_some, Bool.or_true, Bool.true_or, eq_self, ite_true, ite_false, decide_true, decide_false, Int.reduceLT, Int.reduceLE, Int.reduceAdd, Int.reduceSub, Int.reduceMul, Int.reduceNeg, Nat.reduceAdd, Nat.reduceLT, Nat.reduceLeDiff, Nat.reduceEqDiff, reduceIte, w_lim, w_tup, w_lst, w_unp, w_and, w_or, w_andT, w_orT, w_not, w_ife, w_chain, w_isi, w_neg, w_isN, w_notN, w_raise, w_un0, w_max2, w_intI, w_intB, w_par, Bool.not_true, Bool.not_false, Int.zero_add, Nat.zero_add, ln, hge, dT, op2, sm]
        · simp only [w_bnd, w_bndX, w_bndN, w_bndS, w_bndSX, w_bndSN, w_bndI, w_bndA, w_c, w_bin, w_un, w_nil, w_cons, w_fn, w_seq, w_nop, w_set, w_setO, w_ret, w_do, w_if, w_v0, w_o0, w_o0f, w_vs, w_clr0, w_clrs, w_nm, w_pr, w_add, w_sub, w_mul, w_addI, w_mulI, w_lt, w_le, w_gt, w_ge, w_truB, w_truI, w_truL, w_truT, w_truN, w_lenL, w_lenT, w_tupL, w_listT, w_listL, w_app, w_aug, w_for, List.set_cons_zero, List.set_cons_succ, List.getElem?_cons_zero, List.getElem?_cons_succ, List.length_cons, List.length_nil, Option.map_some, Option.map_none, Option.bind_some, Bool.or_true, Bool.true_or, eq_self, ite_true, ite_false, decide_true, decide_false, Int.reduceLT, Int.reduceLE, Int.reduceAdd, Int.reduceSub, Int.reduceMul, Int.reduceNeg, Nat.reduceAdd, Nat.reduceLT, Nat.reduceLeDiff, Nat.reduceEqDiff, reduceIte, w_lim, w_tup, w_lst, w_unp, w_and, w_or, w_andT, w_orT, w_not, w_ife, w_chain, w_isi, w_neg, w_isN, w_notN, w_raise, w_un0, w_max2, w_intI, w_intB, w_par, Bool.not_true, Bool.not_false, Int.zero_add, Nat.zero_add, ln, hge])
  rw [List.length_map, Nat.zero_add, hPl] at h3
  have e : P.take m = P := by rw [← hPl, List.take_length]
  rw [e] at h3
  exact ⟨j7', j9, by rw [h1, h3]⟩
theorem w_l3 {m : Nat} {T : List Int} (S0 D0 : Dt) (P : List Nat) (g : Nat → Int) (h2 : 2 ≤ m) (h6 : m ≤ 6) (hT : IsTab m T) (hPl : P.length = m) (hPm : ∀ x ∈ P, x < m) (hPn : P.Nodup) (A1 H1 A3 H3 A4 H4 : List Dt) (j7 j9 : Option SV) : ∃ j7', forL [7] (gNm 7) b3_law (rgL 0 m) [some (.sh (S0)), some (.sh (D0)), some (.sh (.int m)), some (.sh (tI' T)), some (.sh (.list (P.map (kf g)))), some (.sht (m : Int) A1 H1), some (.sht (m : Int) ((part m T (fun x => decide (x ∈ P.take m))).map gd) (((P.take m).map fun p => (p, (none : Option Int))).map hd)), j7, some (.sht (m : Int) A3 H3), j9, some (.sht (m : Int) A4 H4)] = some (.nx [some (.sh (S0)), some (.sh (D0)), some (.sh (.int m)), some (.sh (tI' T)), some (.sh (.list (P.map (kf g)))), some (.sht (m : Int) A1 H1), some (.sht (m : Int) ((List.replicate m (none : Option Int)).map gd) (List.map hd [])), j7', some (.sht (m : Int) A3 H3), j9, some (.sht (m : Int) A4 H4)]) := by
  obtain ⟨ρ', h1, j7', h3⟩ := forL_inv (sl := [7]) (tg := gNm 7) (body := b3_law) (fun i ρ => ∃ (j7 : Option SV), ρ = [some (.sh (S0)), some (.sh (D0)), some (.sh (.int m)), some (.sh (tI' T)), some (.sh (.list (P.map (kf g)))), some (.sht (m : Int) A1 H1), some (.sht (m : Int) ((part m T (fun x => decide (x ∈ P.take (m - i)))).map gd) (((P.take (m - i)).map fun p => (p, (none : Option Int))).map hd)), j7, some (.sht (m : Int) A3 H3), j9, some (.sht (m : Int) A4 H4)]) (rgL 0 m) 0 [some (.sh (S0)), some (.sh (D0)), some (.sh (.int m)), some (.sh (tI' T)), some (.sh (.list (P.map (kf g)))), some (.sht (m : Int) A1 H1), some (.sht (m : Int) ((part m T (fun x => decide (x ∈ P.take m))).map gd) (((P.take m).map fun p => (p, (none : Option Int))).map hd)), j7, some (.sht (m : Int) A3 H3), j9, some (.sht (m : Int) A4 H4)] ⟨j7, by rw [Nat.sub_zero]⟩ (by
    rintro i x ρ hx ⟨j7, rfl⟩
    obtain ⟨hi, rfl⟩ := rgL_at hx
    rw [Nat.zero_add, Int.zero_add]
    obtain ⟨k, hk⟩ : ∃ k, m - i = k + 1 := ⟨m - i - 1, by omega⟩
    have hk2 : m - (i + 1) = k := by omega
    rw [hk, hk2]
    have hkl : k < P.length := by omega
    have hp : P[k]? = some P[k] := List.getElem?_eq_getElem hkl
    generalize P[k] = p at hp
    have hpm : p < m := hPm p (List.mem_of_getElem? hp)
    have hnp := nodup_take hPn hp
    have e2 : (P.take (k + 1)).map (fun p => (p, (none : Option Int))) = (P.take k).map (fun p => (p, (none : Option Int))) ++ [(p, none)] := by rw [take_snoc hp, List.map_append]; rfl
    have fu := fu_ok (m := (m : Int)) (G := part m T (fun x => decide (x ∈ P.take (k + 1)))) (hs := (P.take k).map fun p => (p, (none : Option Int))) (p := p) (o := none) (by rw [part_len]; exact hpm)
    have e : (part m T (fun x => decide (x ∈ P.take (k + 1)))).set p none = part m T (fun x => decide (x ∈ P.take k)) := by
      rw [show (none : Option Int) = (if false = true then some (T.getD p 0) else none) from rfl, part_set hpm false]
      refine part_congr fun x _ => ?_
      by_cases q : x = p
      · rw [if_pos q]; exact (decide_eq_false (by rw [q]; exact hnp)).symm
      · rw [if_neg q]
        by_cases q2 : x ∈ P.take k
        · rw [decide_eq_true q2, decide_eq_true ((take_mem_step hp x).mpr (.inr q2))]
        · rw [decide_eq_false q2, decide_eq_false fun z => ((take_mem_step hp x).mp z).elim q q2]
    rw [e] at fu
    have hix : dIx (.list (P.map (kf g))) (.int ((m : Int) - 1 - (i : Int))) = some (kf g p) := by
      have e0 : (m : Int) - 1 - (i : Int) = ((k : Nat) : Int) := by omega
      rw [e0]
      exact w_ixL (by rw [List.getElem?_map, hp]; rfl)
    have hix2 : dIx (kf g p) (.int 1) = some (.int (p : Int)) := rfl
    rw [e2]
    refine ⟨_, ?_, some (.sh (.int (i : Int))), rfl⟩
    unfold turn
    show b3_law [some (.sh (S0)), some (.sh (D0)), some (.sh (.int m)), some (.sh (tI' T)), some (.sh (.list (P.map (kf g)))), some (.sht (m : Int) A1 H1), some (.sht (m : Int) ((part m T (fun x => decide (x ∈ P.take (k + 1)))).map gd) (((P.take k).map (fun p => (p, (none : Option Int))) ++ [(p, none)]).map hd)), some (.sh (.int (i : Int))), some (.sht (m : Int) A3 H3), j9, some (.sht (m : Int) A4 H4)] = _
    unfold b3_law
    exact ifX_f (xne_v (ρ' := [some (.sh (S0)), some (.sh (D0)), some (.sh (.int m)), some (.sh (tI' T)), some (.sh (.list (P.map (kf g)))), some (.sht (m : Int) A1 H1), some (.sht (m : Int) ((part m T (fun x => decide (x ∈ P.take k))).map gd) (((P.take k).map fun p => (p, (none : Option Int))).map hd)), some (.sh (.int (i : Int))), some (.sht (m : Int) A3 H3), j9, some (.sht (m : Int) A4 H4)]) (d2 := .int (p : Int)) (cx_v rfl (ds := []) rfl rfl fu) (by simp only [w_bnd, w_bndX, w_bndN, w_bndS, w_bndSX, w_bndSN, w_bndI, w_bndA, w_c, w_bin, w_un, w_nil, w_cons, w_fn, w_seq, w_nop, w_set, w_setO, w_ret, w_do, w_if, w_v0, w_o0, w_o0f, w_vs, w_clr0, w_clrs, w_nm, w_pr, w_add, w_sub, w_mul, w_addI, w_mulI, w_lt, w_le, w_gt, w_ge, w_truB, w_truI, w_truL, w_truT, w_truN, w_lenL, w_lenT, w_tupL, w_listT, w_listL, w_app, w_aug, w_for, List.set_cons_zero, List.set_cons_succ, List.getElem?_cons_zero, List.getElem?_cons_succ, List.length_cons, List.length_nil, Option.map_some, Option.map_none, Option.bind_some, Bool.or_true, Bool.true_or, eq_self, ite_true, ite_false, decide_true, decide_false, Int.reduceLT, Int.reduceLE, Int.reduceAdd, Int.reduceSub, Int.reduceMul, Int.reduceNeg, Nat.reduceAdd, Nat.reduceLT, Nat.reduceLeDiff, Nat.reduceEqDiff, reduceIte, w_lim, w_tup, w_lst, w_unp, w_and, w_or, w_andT, w_orT, w_not, w_ife, w_chain, w_isi, w_neg, w_isN, w_notN, w_raise, w_un0, w_max2, w_intI, w_intB, w_par, Bool.not_true, Bool.not_false, Int.zero_add, Nat.zero_add, hix, hix2]) (by rw [ne_sh (Sh.int 60 _) (Sh.int 60 _), eqv_refl rfl]; rfl)))
  rw [rgL_length, Nat.zero_add, Nat.sub_self] at h3
  rw [part_no (S := fun x => decide (x ∈ P.take 0)) fun x _ => by simp] at h3
  exact ⟨j7', by rw [h1, h3]; rfl⟩
end PT

namespace PT
open PySem PySem.Spec PyProof.Rows L2
/-! ## k16, put together -/
theorem eqv_hd {a b : Dt} {r r' : List Dt} (h : PyData.eqv a b = false) : PyData.eqv (.tuple (a :: r)) (.tuple (b :: r')) = false := by
  show (PyData.eqv a b && _) = false
  rw [h]
  rfl
def uK : Dt → Nat
  | .tuple [_, .int x] => x.toNat
  | _ => 0
theorem keyed_of (g : Nat → Int) (m : Nat) : ∃ P : List Nat, isort ((List.range m).map (kf g)) = P.map (kf g) ∧ P.length = m ∧ (∀ x ∈ P, x < m) ∧ P.Nodup ∧ ∀ x, x < m → x ∈ P := by
  have hp := isort_perm ((List.range m).map (kf g))
  have hu : ∀ x, uK (kf g x) = x := fun x => Int.toNat_natCast x
  have e0 : ((List.range m).map (kf g)).map uK = List.range m := by
    rw [List.map_map]
    exact (List.map_congr_left fun x _ => hu x).trans (List.map_id _)
  have hq := hp.map uK
  rw [e0] at hq
  refine ⟨(isort ((List.range m).map (kf g))).map uK, ?_, by rw [hq.length_eq, List.length_range], fun x hx => List.mem_range.mp (hq.mem_iff.mp hx), hq.nodup_iff.mpr List.nodup_range, fun x hx => hq.mem_iff.mpr (List.mem_range.mpr hx)⟩
  rw [List.map_map]
  refine ((List.map_congr_left fun d hd => ?_).trans (List.map_id _)).symm
  obtain ⟨x, _, rfl⟩ := List.mem_map.mp (hp.mem_iff.mp hd)
  show kf g (uK (kf g x)) = kf g x
  rw [hu]
theorem eqS_v {m m' : Int} {es hs es' hs' : List Dt} {b : Bool} (h : dEq (.tuple es) (.tuple es') = some (.bool b)) : (match F_m___eq__ [shD m es hs, shD m' es' hs'] with
  | some (.val (.bool b)) => some (Rs.val (.bool b))
  | _ => none) = some (.val (.bool b)) := by
  rw [w_meq, h]
  rfl
theorem neS_v {m m' : Int} {es hs es' hs' : List Dt} {b : Bool} (h : dEq (.tuple es) (.tuple es') = some (.bool b)) : (match F_m___eq__ [shD m es hs, shD m' es' hs'] with
  | some (.val (.bool b)) => some (Rs.val (.bool (!b)))
  | _ => none) = some (.val (.bool (!b))) := by
  rw [w_meq, h]
  rfl
theorem xand_t {f g : XF} {ρ ρ' : En} (h : f ρ = some (.bool true, ρ')) : xAnd f g ρ = g ρ' := by unfold xAnd; simp only [h]
theorem retX_v {f : XF} {ρ ρ' : En} {d : Dt} (h : f ρ = some (d, ρ')) : sRetX f ρ = some (.rt d) := by unfold sRetX; simp only [h]
theorem law_plain (ns : List Int) : F_law [scr ns] = some (.val (.bool true)) := by
  obtain ⟨L, hrow, hL, hLr⟩ := w_row ns 5
  obtain ⟨nums, hnum, hnl, hnb⟩ := w_lnumbers ns 2
  have hrow' : F__law_row [scr ns, .int 5] = some (.val (.list (L.map .int))) := hrow
  have hnum' : F__law_numbers [scr ns, .int 2] = some (.val (tI' nums)) := hnum
  have e0 : start0 11 [scr ns] = [some (.sh (scr ns)), none, none, none, none, none, none, none, none, none, none] := rfl
  generalize hs0 : scr ns = S0 at hrow' hnum' e0 ⊢
  have d0 : dIx (.list (L.map .int)) (.int 0) = some (.int (L.getD 0 0)) := w_ixLi (by omega) (by omega)
  obtain ⟨m, hm⟩ : ∃ m : Nat, (m : Int) = 2 + L.getD 0 0 % 5 := ⟨(2 + L.getD 0 0 % 5).toNat, Int.toNat_of_nonneg (by omega)⟩
  have h2 : 2 ≤ m := by omega
  have h6 : m ≤ 6 := by omega
  have h12 : m ≤ 12 := by omega
  have hmp : (0 : Int) < m := by omega
  obtain ⟨T, hTe⟩ : ∃ T, T = ltab m nums := ⟨_, rfl⟩
  have hT : IsTab m T := by rw [hTe]; exact ltab_tab (by omega) nums
  have hf : fault m T = none := by rw [hTe]; exact ltab_pol h2 h12 nums
  have htab : F__law_table [.int m, tI' nums] = some (.val (tI' T)) := by
    rw [hTe]
    exact w_ltable m nums (by omega) (by omega) fun y hy => by have := hnb y hy; omega
  let g : Nat → Int := fun x => L.getD (10 + x) 0 % 50
  obtain ⟨P, hP, hPl, hPm, hPn, hPa⟩ := keyed_of g m
  have hkl : (eLc [7] (gNm 7) (iRg1 (eVar 2)) (eC (.bool true)) (eTup (aCons (eBin dMod (eBin dIx (eVar 1) (eBin dAdd (eC (.int 10)) (eVar 7))) (eC (.int 50))) (aCons (eVar 7) (aNil))))) true [some (.sh (S0)), some (.sh (.list (L.map .int))), some (.sh (.int m)), some (.sh (tI' T)), none, none, none, none, none, none, none] = some (.val (.list ((List.range m).map (kf g)))) := by
    have hl : lcL (eC (.bool true)) (eTup (aCons (eBin dMod (eBin dIx (eVar 1) (eBin dAdd (eC (.int 10)) (eVar 7))) (eC (.int 50))) (aCons (eVar 7) (aNil)))) (gNm 7) [some (.sh (S0)), some (.sh (.list (L.map .int))), some (.sh (.int m)), some (.sh (tI' T)), none, none, none, none, none, none, none] (rgL 0 m) = some ((rgL 0 m).map fun d => match d with | .int x => kf g x.toNat | d => d) := by
      refine lcL_map _ _ fun x hx => ?_
      obtain ⟨j, hj⟩ := List.mem_iff_getElem?.mp hx
      obtain ⟨hjm, rfl⟩ := rgL_at hj
      have e1 : dIx (.list (L.map .int)) (.int (10 + ((0 : Int) + (j : Int)))) = some (.int (L.getD (10 + j) 0)) := by
        rw [w_ixLi (by omega) (by omega)]
        have : (10 + ((0 : Int) + (j : Int))).toNat = 10 + j := by omega
        rw [this]
      refine ⟨_, rfl, ?_⟩
      have e2 : ((0 : Int) + (j : Int)).toNat = j := by omega
      rw [Int.zero_add] at e1 ⊢
      simp only [w_bnd, w_bndX, w_bndN, w_bndS, w_bndSX, w_bndSN, w_bndI, w_bndA, w_c, w_bin, w_un, w_nil, w_cons, w_fn, w_seq, w_nop, w_set, w_setO, w_ret, w_do, w_if, w_v0, w_o0, w_o0f, w_vs, w_clr0, w_clrs, w_nm, w_pr, w_add, w_sub, w_mul, w_addI, w_mulI, w_lt, w_le, w_gt, w_ge, w_truB, w_truI, w_truL, w_truT, w_truN, w_lenL, w_lenT, w_tupL, w_listT, w_listL, w_app, w_aug, w_for, List.set_cons_zero, List.set_cons_succ, List.getElem?_cons_zero, List.getElem?_cons_succ, List.length_cons, List.length_nil, Option.map_some, Option.map_none, Option.bind_some, Bool.or_true, Bool.true_or, eq_self, ite_true, ite_false, decide_true, decide_false, Int.reduceLT, Int.reduceLE, Int.reduceAdd, Int.reduceSub, Int.reduceMul, Int.reduceNeg, Nat.reduceAdd, Nat.reduceLT, Nat.reduceLeDiff, Nat.reduceEqDiff, reduceIte, w_lim, w_tup, w_lst, w_unp, w_and, w_or, w_andT, w_orT, w_not, w_ife, w_chain, w_isi, w_neg, w_isN, w_notN, w_raise, w_un0, w_max2, w_intI, w_intB, w_par, Bool.not_true, Bool.not_false, Int.zero_add, Nat.zero_add, e1, w_mod, Int.toNat_natCast]
      rfl
    have e : (rgL 0 m).map (fun d => match d with | .int x => kf g x.toNat | d => d) = (List.range m).map (kf g) := by
      apply List.ext_getElem?
      intro j
      by_cases hj : j < m
      · rw [List.getElem?_map, rgL_get hj, List.getElem?_map, List.getElem?_range hj]
        show some (kf g ((0 : Int) + (j : Int)).toNat) = some (kf g j)
        have : ((0 : Int) + (j : Int)).toNat = j := by omega
        rw [this]
      · rw [List.getElem?_eq_none (by rw [List.length_map, rgL_length]; omega), List.getElem?_eq_none (by rw [List.length_map, List.length_range]; omega)]
    rw [e] at hl
    exact w_lc (w_rg1 (n := m) rfl (by omega)) rfl (by rw [rgL_length]; unfold lim; omega) hl
  have hso : dSorted (.list ((List.range m).map (kf g))) = some (.list (P.map (kf g))) := by
    show (if okS ((List.range m).map (kf g)) = true then some (PyData.list (isort ((List.range m).map (kf g)))) else none) = _
    rw [if_pos (okS_tabs (m := 2) (by omega) fun d hd => by
      obtain ⟨x, _, rfl⟩ := List.mem_map.mp hd
      exact ⟨[g x, (x : Int)], rfl, rfl⟩), hP]
  have hnw : newD (.int (m : Int)) = some (m, shD m (List.replicate m .none) []) := by
    unfold newD
    simp only [if_pos (show (2 : Int) ≤ m ∧ (m : Int) ≤ 12 by omega), Int.toNat_natCast]
  have hnw1 : newD (.int ((m : Int) + 1)) = some (m + 1, shD ((m : Int) + 1) (List.replicate (m + 1) .none) []) := by
    unfold newD
    simp only [if_pos (show (2 : Int) ≤ (m : Int) + 1 ∧ (m : Int) + 1 ≤ 12 by omega), show ((m : Int) + 1).toNat = m + 1 by omega]
  obtain ⟨hs1, j7, hl1⟩ := w_l1 S0 (.list (L.map .int)) P g h2 h12 hT ((List.replicate m (none : Option Int)).map gd) (List.map hd [])
  obtain ⟨j7', j9, hl2⟩ := w_l2 S0 (.list (L.map .int)) P g h2 h6 hT hf hPl hPm hPn ((T.map some).map gd) (hs1.map hd) ((List.replicate m (none : Option Int)).map gd) (List.map hd []) j7
  rw [part_all hT (S := fun x => decide (x ∈ P)) fun x hx => decide_eq_true (hPa x hx)] at hl2
  obtain ⟨j7'', hl3⟩ := w_l3 S0 (.list (L.map .int)) P g h2 h6 hT hPl hPm hPn ((T.map some).map gd) (hs1.map hd) ((List.replicate m (none : Option Int)).map gd) (List.map hd []) ((T.map some).map gd) (List.map hd []) j7' j9
  have etk : P.take m = P := by rw [← hPl, List.take_length]
  rw [etk, part_all hT (S := fun x => decide (x ∈ P)) fun x hx => decide_eq_true (hPa x hx)] at hl3
  obtain ⟨t0, T', rfl⟩ : ∃ t0 T', T = t0 :: T' := by
    cases T with
    | nil => have := hT.1; simp at this; omega
    | cons x T' => exact ⟨x, T', rfl⟩
  have ht0 := hT.get (i := 0) (by omega)
  have hGT : GOk m ((t0 :: T').map some) := ⟨by rw [List.length_map]; exact hT.1, fun v hv => by
    obtain ⟨u, hu, e⟩ := List.mem_map.mp hv
    cases e
    exact hT.2 _ hu⟩
  have q1 : PyData.eqv (gT ((t0 :: T').map some)) (gT (List.replicate m none)) = false := by
    obtain ⟨k, rfl⟩ : ∃ k, m = k + 1 := ⟨m - 1, by omega⟩
    exact eqv_hd rfl
  have q4 : dEq (gT (List.replicate m none)) (gT (List.replicate (m + 1) none)) = some (.bool false) := by
    have : m = 2 ∨ m = 3 ∨ m = 4 ∨ m = 5 ∨ m = 6 := by omega
    rcases this with rfl | rfl | rfl | rfl | rfl <;> rfl
  have qs : dEq (gT ((t0 :: T').map some)) (gT ((t0 :: T').map some)) = some (.bool true) := by rw [gT_eq, gT_refl]
  have qr : dEq (gT (List.replicate m none)) (gT (List.replicate m none)) = some (.bool true) := by rw [gT_eq, gT_refl]
  have hv0 := Int.emod_nonneg (t0 + 1) (show (m : Int) ≠ 0 by omega)
  have hv1 := Int.emod_lt_of_pos (t0 + 1) hmp
  have ht0' : 0 ≤ t0 ∧ t0 < m := ht0
  have hvne : (t0 + 1) % (m : Int) ≠ t0 := by
    intro z
    by_cases e : t0 + 1 = m
    · rw [e, Int.emod_self] at z; omega
    · rw [Int.emod_eq_of_lt (by omega) (by omega)] at z; omega
  have q5 : PyData.eqv (gT (((t0 :: T').map some).set 0 (some ((t0 + 1) % (m : Int))))) (gT ((t0 :: T').map some)) = false := by
    refine eqv_hd (a := .int ((t0 + 1) % (m : Int))) (b := .int t0) ?_
    show decide _ = false
    exact decide_eq_false hvne
  refine run_rt ?_
  rw [e0]
  unfold g_law
  rw [seq_nx (ρ' := [some (.sh (S0)), some (.sh (.list (L.map .int))), none, none, none, none, none, none, none, none, none]) (set_v (by simp only [w_bnd, w_bndX, w_bndN, w_bndS, w_bndSX, w_bndSN, w_bndI, w_bndA, w_c, w_bin, w_un, w_nil, w_cons, w_fn, w_seq, w_nop, w_set, w_setO, w_ret, w_do, w_if, w_v0, w_o0, w_o0f, w_vs, w_clr0, w_clrs, w_nm, w_pr, w_add, w_sub, w_mul, w_addI, w_mulI, w_lt, w_le, w_gt, w_ge, w_truB, w_truI, w_truL, w_truT, w_truN, w_lenL, w_lenT, w_tupL, w_listT, w_listL, w_app, w_aug, w_for, List.set_cons_zero, List.set_cons_succ, List.getElem?_cons_zero, List.getElem?_cons_succ, List.length_cons, List.length_nil, Option.map_some, Option.map_none, Option.bind_some, Bool.or_true, Bool.true_or, eq_self, ite_true, ite_false, decide_true, decide_false, Int.reduceLT, Int.reduceLE, Int.reduceAdd, Int.reduceSub, Int.reduceMul, Int.reduceNeg, Nat.reduceAdd, Nat.reduceLT, Nat.reduceLeDiff, Nat.reduceEqDiff, reduceIte, w_lim, w_tup, w_lst, w_unp, w_and, w_or, w_andT, w_orT, w_not, w_ife, w_chain, w_isi, w_neg, w_isN, w_notN, w_raise, w_un0, w_max2, w_intI, w_intB, w_par, Bool.not_true, Bool.not_false, Int.zero_add, Nat.zero_add, hrow']))]
  unfold t1_law
  rw [seq_nx (ρ' := [some (.sh (S0)), some (.sh (.list (L.map .int))), some (.sh (.int m)), none, none, none, none, none, none, none, none]) (set_v (by simp only [w_bnd, w_bndX, w_bndN, w_bndS, w_bndSX, w_bndSN, w_bndI, w_bndA, w_c, w_bin, w_un, w_nil, w_cons, w_fn, w_seq, w_nop, w_set, w_setO, w_ret, w_do, w_if, w_v0, w_o0, w_o0f, w_vs, w_clr0, w_clrs, w_nm, w_pr, w_add, w_sub, w_mul, w_addI, w_mulI, w_lt, w_le, w_gt, w_ge, w_truB, w_truI, w_truL, w_truT, w_truN, w_lenL, w_lenT, w_tupL, w_listT, w_listL, w_app, w_aug, w_for, List.set_cons_zero, List.set_cons_succ, List.getElem?_cons_zero, List.getElem?_cons_succ, List.length_cons, List.length_nil, Option.map_some, Option.map_none, Option.bind_some, Bool.or_true, Bool.true_or, eq_self, ite_true, ite_false, decide_true, decide_false, Int.reduceLT, Int.reduceLE, Int.reduceAdd, Int.reduceSub, Int.reduceMul, Int.reduceNeg, Nat.reduceAdd, Nat.reduceLT, Nat.reduceLeDiff, Nat.reduceEqDiff, reduceIte, w_lim, w_tup, w_lst, w_unp, w_and, w_or, w_andT, w_orT, w_not, w_ife, w_chain, w_isi, w_neg, w_isN, w_notN, w_raise, w_un0, w_max2, w_intI, w_intB, w_par, Bool.not_true, Bool.not_false, Int.zero_add, Nat.zero_add, d0, w_mod, ← hm]))]
  unfold t2_law
  rw [seq_nx (ρ' := [some (.sh (S0)), some (.sh (.list (L.map .int))), some (.sh (.int m)), some (.sh (tI' (t0 :: T'))), none, none, none, none, none, none, none]) (set_v (by simp only [w_bnd, w_bndX, w_bndN, w_bndS, w_bndSX, w_bndSN, w_bndI, w_bndA, w_c, w_bin, w_un, w_nil, w_cons, w_fn, w_seq, w_nop, w_set, w_setO, w_ret, w_do, w_if, w_v0, w_o0, w_o0f, w_vs, w_clr0, w_clrs, w_nm, w_pr, w_add, w_sub, w_mul, w_addI, w_mulI, w_lt, w_le, w_gt, w_ge, w_truB, w_truI, w_truL, w_truT, w_truN, w_lenL, w_lenT, w_tupL, w_listT, w_listL, w_app, w_aug, w_for, List.set_cons_zero, List.set_cons_succ, List.getElem?_cons_zero, List.getElem?_cons_succ, List.length_cons, List.length_nil, Option.map_some, Option.map_none, Option.bind_some, Bool.or_true, Bool.true_or, eq_self, ite_true, ite_false, decide_true, decide_false, Int.reduceLT, Int.reduceLE, Int.reduceAdd, Int.reduceSub, Int.reduceMul, Int.reduceNeg, Nat.reduceAdd, Nat.reduceLT, Nat.reduceLeDiff, Nat.reduceEqDiff, reduceIte, w_lim, w_tup, w_lst, w_unp, w_and, w_or, w_andT, w_orT, w_not, w_ife, w_chain, w_isi, w_neg, w_isN, w_notN, w_raise, w_un0, w_max2, w_intI, w_intB, w_par, Bool.not_true, Bool.not_false, Int.zero_add, Nat.zero_add, hnum', htab]))]
  unfold t3_law
  rw [seq_nx (ρ' := [some (.sh (S0)), some (.sh (.list (L.map .int))), some (.sh (.int m)), some (.sh (tI' (t0 :: T'))), some (.sh (.list (P.map (kf g)))), none, none, none, none, none, none]) (set_v (by rw [w_un, hkl, w_bnd, hso]; rfl))]
  unfold t4_law
  refine (seq_nx (ρ' := [some (.sh (S0)), some (.sh (.list (L.map .int))), some (.sh (.int m)), some (.sh (tI' (t0 :: T'))), some (.sh (.list (P.map (kf g)))), some (.sht (m : Int) ((List.replicate m (none : Option Int)).map gd) (List.map hd [])), some (.sht (m : Int) ((List.replicate m (none : Option Int)).map gd) (List.map hd [])), none, none, none, none]) ?_).trans ?_
  · rw [List.map_replicate]
    unfold sNew2
    show (match newD (.int (m : Int)), newD (.int (m : Int)) with
      | some (m, _), some (n, _) => _
      | _, _ => none) = _
    rw [hnw]
    rfl
  unfold t5_law
  rw [seq_nx ((for_it (w_rg1 (n := m) rfl (by omega))).trans hl1)]
  unfold t6_law
  refine (seq_nx (ρ' := [some (.sh (S0)), some (.sh (.list (L.map .int))), some (.sh (.int m)), some (.sh (tI' (t0 :: T'))), some (.sh (.list (P.map (kf g)))), some (.sht (m : Int) (((t0 :: T').map some).map gd) (hs1.map hd)), some (.sht (m : Int) ((List.replicate m (none : Option Int)).map gd) (List.map hd [])), j7, some (.sht (m : Int) ((List.replicate m (none : Option Int)).map gd) (List.map hd [])), none, none]) ?_).trans ?_
  · rw [List.map_replicate]
    unfold sNewS
    show (match newD (.int (m : Int)) with
      | some (m, _) => _
      | none => none) = _
    rw [hnw]
    rfl
  unfold t7_law
  refine (seq_nx (ρ' := [some (.sh (S0)), some (.sh (.list (L.map .int))), some (.sh (.int m)), some (.sh (tI' (t0 :: T'))), some (.sh (.list (P.map (kf g)))), some (.sht (m : Int) (((t0 :: T').map some).map gd) (hs1.map hd)), some (.sht (m : Int) ((List.replicate m (none : Option Int)).map gd) (List.map hd [])), j7, some (.sht (m : Int) ((List.replicate m (none : Option Int)).map gd) (List.map hd [])), none, none]) ?_).trans ?_
  · refine ifX_vw (d := .bool false) ?_ rfl
    show eOrT _ _ true [some (.sh (S0)), some (.sh (.list (L.map .int))), some (.sh (.int m)), some (.sh (tI' (t0 :: T'))), some (.sh (.list (P.map (kf g)))), some (.sh (shD (m : Int) (((t0 :: T').map some).map gd) (hs1.map hd))), some (.sht (m : Int) ((List.replicate m (none : Option Int)).map gd) (List.map hd [])), j7, some (.sh (shD (m : Int) ((List.replicate m (none : Option Int)).map gd) (List.map hd []))), none, none] = _
    have r1 : eEqS F_m___eq__ (eVar 5) (eVar 8) true [some (.sh (S0)), some (.sh (.list (L.map .int))), some (.sh (.int m)), some (.sh (tI' (t0 :: T'))), some (.sh (.list (P.map (kf g)))), some (.sh (shD (m : Int) (((t0 :: T').map some).map gd) (hs1.map hd))), some (.sht (m : Int) ((List.replicate m (none : Option Int)).map gd) (List.map hd [])), j7, some (.sh (shD (m : Int) ((List.replicate m (none : Option Int)).map gd) (List.map hd []))), none, none] = some (.val (.bool false)) := eqS_v (by rw [gT_eq, q1])
    have r2 : eEqS F_m___eq__ (eVar 5) (eMt0 F_m_state (eVar 5)) true [some (.sh (S0)), some (.sh (.list (L.map .int))), some (.sh (.int m)), some (.sh (tI' (t0 :: T'))), some (.sh (.list (P.map (kf g)))), some (.sh (shD (m : Int) (((t0 :: T').map some).map gd) (hs1.map hd))), some (.sht (m : Int) ((List.replicate m (none : Option Int)).map gd) (List.map hd [])), j7, some (.sh (shD (m : Int) ((List.replicate m (none : Option Int)).map gd) (List.map hd []))), none, none] = some (.val (.bool false)) := by
      show (match F_m___eq__ [shD (m : Int) (((t0 :: T').map some).map gd) (hs1.map hd), gT ((t0 :: T').map some)] with | some (.val (.bool b)) => some (Rs.val (.bool b)) | _ => none) = _
      rw [w_meq_no _ _ _ _ rfl]
    have r3 : eEqS F_m___eq__ (eVar 5) (eSp isStr F_m___str__ (eVar 5)) true [some (.sh (S0)), some (.sh (.list (L.map .int))), some (.sh (.int m)), some (.sh (tI' (t0 :: T'))), some (.sh (.list (P.map (kf g)))), some (.sh (shD (m : Int) (((t0 :: T').map some).map gd) (hs1.map hd))), some (.sht (m : Int) ((List.replicate m (none : Option Int)).map gd) (List.map hd [])), j7, some (.sh (shD (m : Int) ((List.replicate m (none : Option Int)).map gd) (List.map hd []))), none, none] = some (.val (.bool false)) := by
      have sr : eSp isStr F_m___str__ (eVar 5) false [some (.sh (S0)), some (.sh (.list (L.map .int))), some (.sh (.int m)), some (.sh (tI' (t0 :: T'))), some (.sh (.list (P.map (kf g)))), some (.sh (shD (m : Int) (((t0 :: T').map some).map gd) (hs1.map hd))), some (.sht (m : Int) ((List.replicate m (none : Option Int)).map gd) (List.map hd [])), j7, some (.sh (shD (m : Int) ((List.replicate m (none : Option Int)).map gd) (List.map hd []))), none, none] = some (.val (.str (Txt.join "," (((t0 :: T').map some).map tx)))) := by
        show (match F_m___str__ [shD (m : Int) (((t0 :: T').map some).map gd) (hs1.map hd)] with | some (.val d) => if isStr d = true then some (Rs.val d) else none | _ => none) = _
        rw [w_mstr (hs1.map hd) hGT h12]
        rfl
      unfold eEqS
      rw [sr]
      show (match F_m___eq__ [shD (m : Int) (((t0 :: T').map some).map gd) (hs1.map hd), .str (Txt.join "," (((t0 :: T').map some).map tx))] with | some (.val (.bool b)) => some (Rs.val (.bool b)) | _ => none) = _
      rw [w_meq_no _ _ _ _ rfl]
    have r4 : eEqS F_m___eq__ (eVar 8) (eNew (eBin dAdd (eVar 2) (eC (.int 1)))) true [some (.sh (S0)), some (.sh (.list (L.map .int))), some (.sh (.int m)), some (.sh (tI' (t0 :: T'))), some (.sh (.list (P.map (kf g)))), some (.sh (shD (m : Int) (((t0 :: T').map some).map gd) (hs1.map hd))), some (.sht (m : Int) ((List.replicate m (none : Option Int)).map gd) (List.map hd [])), j7, some (.sh (shD (m : Int) ((List.replicate m (none : Option Int)).map gd) (List.map hd []))), none, none] = some (.val (.bool false)) := by
      have nw : eNew (eBin dAdd (eVar 2) (eC (.int 1))) false [some (.sh (S0)), some (.sh (.list (L.map .int))), some (.sh (.int m)), some (.sh (tI' (t0 :: T'))), some (.sh (.list (P.map (kf g)))), some (.sh (shD (m : Int) (((t0 :: T').map some).map gd) (hs1.map hd))), some (.sht (m : Int) ((List.replicate m (none : Option Int)).map gd) (List.map hd [])), j7, some (.sh (shD (m : Int) ((List.replicate m (none : Option Int)).map gd) (List.map hd []))), none, none] = some (.val (shD ((m : Int) + 1) (List.replicate (m + 1) .none) [])) := by
        show ((newD (.int ((m : Int) + 1))).map fun q => Rs.val q.2) = _
        rw [hnw1]
        rfl
      unfold eEqS
      rw [nw]
      refine eqS_v ?_
      rw [← q4]
      show dEq (.tuple _) (.tuple (List.replicate (m + 1) .none)) = dEq (.tuple _) (.tuple ((List.replicate (m + 1) (none : Option Int)).map gd))
      rw [List.map_replicate (f := gd) (n := m + 1)]
      rfl
    simp only [w_bnd, w_bndX, w_bndN, w_bndS, w_bndSX, w_bndSN, w_bndI, w_bndA, w_c, w_bin, w_un, w_nil, w_cons, w_fn, w_seq, w_nop, w_set, w_setO, w_ret, w_do, w_if, w_v0, w_o0, w_o0f, w_vs, w_clr0, w_clrs, w_nm, w_pr, w_add, w_sub, w_mul, w_addI, w_mulI, w_lt, w_le, w_gt, w_ge, w_truB, w_truI, w_truL, w_truT, w_truN, w_lenL, w_lenT, w_tupL, w_listT, w_listL, w_app, w_aug, w_for, List.set_cons_zero, List.set_cons_succ, List.getElem?_cons_zero, List.getElem?_cons_succ, List.length_cons, List.length_nil, Option.map_some, Option.map_none, Option.bind_some, Bool.or_true, Bool.true_or, eq_self, ite_true, ite_false, decide_true, decide_false, Int.reduceLT, Int.reduceLE, Int.reduceAdd, Int.reduceSub, Int.reduceMul, Int.reduceNeg, Nat.reduceAdd, Nat.reduceLT, Nat.reduceLeDiff, Nat.reduceEqDiff, reduceIte, w_lim, w_tup, w_lst, w_unp, w_and, w_or, w_andT, w_orT, w_not, w_ife, w_chain, w_isi, w_neg, w_isN, w_notN, w_raise, w_un0, w_max2, w_intI, w_intB, w_par, Bool.not_true, Bool.not_false, Int.zero_add, Nat.zero_add, r1, r2, r3, r4]
  unfold t8_law
  rw [seq_nx ((for_it (xs := P.map (kf g)) rfl).trans hl2)]
  unfold t9_law
  refine (seq_nx (ρ' := [some (.sh (S0)), some (.sh (.list (L.map .int))), some (.sh (.int m)), some (.sh (tI' (t0 :: T'))), some (.sh (.list (P.map (kf g)))), some (.sht (m : Int) (((t0 :: T').map some).map gd) (hs1.map hd)), some (.sht (m : Int) (((t0 :: T').map some).map gd) ((P.map fun p => (p, (none : Option Int))).map hd)), j7', some (.sht (m : Int) ((List.replicate m (none : Option Int)).map gd) (List.map hd [])), j9, none]) ?_).trans ?_
  · refine ifX_vw (d := .bool false) ?_ rfl
    show eOrT _ _ true [some (.sh (S0)), some (.sh (.list (L.map .int))), some (.sh (.int m)), some (.sh (tI' (t0 :: T'))), some (.sh (.list (P.map (kf g)))), some (.sh (shD (m : Int) (((t0 :: T').map some).map gd) (hs1.map hd))), some (.sh (shD (m : Int) (((t0 :: T').map some).map gd) ((P.map fun p => (p, (none : Option Int))).map hd))), j7', some (.sht (m : Int) ((List.replicate m (none : Option Int)).map gd) (List.map hd [])), j9, none] = _
    have r1 : eNeS F_m___eq__ (eVar 5) (eVar 6) true [some (.sh (S0)), some (.sh (.list (L.map .int))), some (.sh (.int m)), some (.sh (tI' (t0 :: T'))), some (.sh (.list (P.map (kf g)))), some (.sh (shD (m : Int) (((t0 :: T').map some).map gd) (hs1.map hd))), some (.sh (shD (m : Int) (((t0 :: T').map some).map gd) ((P.map fun p => (p, (none : Option Int))).map hd))), j7', some (.sht (m : Int) ((List.replicate m (none : Option Int)).map gd) (List.map hd [])), j9, none] = some (.val (.bool false)) := neS_v (b := true) qs
    have r2 : eFn 2 F_is_polynomial (aCons (eVar 2) (aCons (eMt0 F_m_state (eVar 6)) (aNil))) true [some (.sh (S0)), some (.sh (.list (L.map .int))), some (.sh (.int m)), some (.sh (tI' (t0 :: T'))), some (.sh (.list (P.map (kf g)))), some (.sh (shD (m : Int) (((t0 :: T').map some).map gd) (hs1.map hd))), some (.sh (shD (m : Int) (((t0 :: T').map some).map gd) ((P.map fun p => (p, (none : Option Int))).map hd))), j7', some (.sht (m : Int) ((List.replicate m (none : Option Int)).map gd) (List.map hd [])), j9, none] = some (.val (.bool true)) := by
      have e : ((t0 :: T').map some).map gd = (t0 :: T').map PyData.int := by rw [List.map_map]; rfl
      show F_is_polynomial [.int (m : Int), .tuple (((t0 :: T').map some).map gd)] = _
      rw [e]
      refine (w_ispol m (t0 :: T') h2 h12 hT).trans ?_
      rw [hf]
      rfl
    rw [w_orT, r1, w_bnd]
    show eNot _ true [some (.sh (S0)), some (.sh (.list (L.map .int))), some (.sh (.int m)), some (.sh (tI' (t0 :: T'))), some (.sh (.list (P.map (kf g)))), some (.sh (shD (m : Int) (((t0 :: T').map some).map gd) (hs1.map hd))), some (.sh (shD (m : Int) (((t0 :: T').map some).map gd) ((P.map fun p => (p, (none : Option Int))).map hd))), j7', some (.sht (m : Int) ((List.replicate m (none : Option Int)).map gd) (List.map hd [])), j9, none] = _
    rw [w_not, r2]
    rfl
  unfold t10_law
  have hall : (((t0 :: T').map some).map gd).all scl = true := List.all_eq_true.mpr fun d hd => by
    obtain ⟨g', _, rfl⟩ := List.mem_map.mp hd
    exact scl_gd g'
  refine (seq_nx (ρ' := [some (.sh (S0)), some (.sh (.list (L.map .int))), some (.sh (.int m)), some (.sh (tI' (t0 :: T'))), some (.sh (.list (P.map (kf g)))), some (.sht (m : Int) (((t0 :: T').map some).map gd) (hs1.map hd)), some (.sht (m : Int) (((t0 :: T').map some).map gd) ((P.map fun p => (p, (none : Option Int))).map hd)), j7', some (.sht (m : Int) ((List.replicate m (none : Option Int)).map gd) (List.map hd [])), j9, some (.sht (m : Int) (((t0 :: T').map some).map gd) (List.map hd []))]) ?_).trans ?_
  · show (if ((2 : Int) ≤ (m : Int) ∧ (m : Int) ≤ 12) ∧ (((t0 :: T').map some).map gd).all scl = true ∧ 10 < 11 then _ else none) = _
    rw [if_pos ⟨⟨by omega, by omega⟩, hall, by decide⟩]
    rfl
  unfold t11_law
  have rne : ∀ b, eNeS F_m___eq__ (eVar 10) (eVar 6) b [some (.sh (S0)), some (.sh (.list (L.map .int))), some (.sh (.int m)), some (.sh (tI' (t0 :: T'))), some (.sh (.list (P.map (kf g)))), some (.sht (m : Int) (((t0 :: T').map some).map gd) (hs1.map hd)), some (.sh (shD (m : Int) (((t0 :: T').map some).map gd) ((P.map fun p => (p, (none : Option Int))).map hd))), j7', some (.sht (m : Int) ((List.replicate m (none : Option Int)).map gd) (List.map hd [])), j9, some (.sh (shD (m : Int) (((t0 :: T').map some).map gd) (List.map hd [])))] = some (.val (.bool false)) := fun b => neS_v (b := true) qs
  refine (seq_nx (ρ' := [some (.sh (S0)), some (.sh (.list (L.map .int))), some (.sh (.int m)), some (.sh (tI' (t0 :: T'))), some (.sh (.list (P.map (kf g)))), some (.sht (m : Int) (((t0 :: T').map some).map gd) (hs1.map hd)), some (.sht (m : Int) (((t0 :: T').map some).map gd) ((P.map fun p => (p, (none : Option Int))).map hd)), j7', some (.sht (m : Int) ((List.replicate m (none : Option Int)).map gd) (List.map hd [])), j9, some (.sht (m : Int) (((t0 :: T').map some).map gd) (List.map hd []))]) ?_).trans ?_
  · exact ifX_f ((xor_f (xvw_f (d := .bool false) (rne true) rfl)).trans (xne_v (cx_v rfl (ds := [.int 1, .none, .none]) rfl rfl (fx_none _)) rfl rfl))
  unfold t12_law
  have fe := fe_ok (hs := []) h2 hGT (p := 0) (by omega) hv0 hv1 (by unfold lim; simp)
  have dT := T_ix hT (p := 0) (by omega)
  have fu := fu_ok (m := (m : Int)) (G := ((t0 :: T').map some).set 0 (some ((t0 + 1) % (m : Int)))) (hs := []) (p := 0) (o := ((t0 :: T').map some)[0]?.getD none) (by rw [List.length_set, List.length_map, hT.1]; omega)
  refine (seq_nx (ρ' := [some (.sh (S0)), some (.sh (.list (L.map .int))), some (.sh (.int m)), some (.sh (tI' (t0 :: T'))), some (.sh (.list (P.map (kf g)))), some (.sht (m : Int) (((t0 :: T').map some).map gd) (hs1.map hd)), some (.sht (m : Int) (((t0 :: T').map some).map gd) ((P.map fun p => (p, (none : Option Int))).map hd)), j7', some (.sht (m : Int) ((List.replicate m (none : Option Int)).map gd) (List.map hd [])), j9, some (.sht (m : Int) ((((t0 :: T').map some).set 0 (some ((t0 + 1) % m))).map gd) (([] ++ [(0, ((t0 :: T').map some)[0]?.getD none)]).map hd))]) (doX_v (cx_v rfl (ds := [.int 0, .int ((t0 + 1) % (m : Int))]) ?_ rfl fe))).trans ?_
  · have dT' : dIx (tI' (t0 :: T')) (.int 0) = some (.int t0) := dT
    simp only [w_bnd, w_bndX, w_bndN, w_bndS, w_bndSX, w_bndSN, w_bndI, w_bndA, w_c, w_bin, w_un, w_nil, w_cons, w_fn, w_seq, w_nop, w_set, w_setO, w_ret, w_do, w_if, w_v0, w_o0, w_o0f, w_vs, w_clr0, w_clrs, w_nm, w_pr, w_add, w_sub, w_mul, w_addI, w_mulI, w_lt, w_le, w_gt, w_ge, w_truB, w_truI, w_truL, w_truT, w_truN, w_lenL, w_lenT, w_tupL, w_listT, w_listL, w_app, w_aug, w_for, List.set_cons_zero, List.set_cons_succ, List.getElem?_cons_zero, List.getElem?_cons_succ, List.length_cons, List.length_nil, Option.map_some, Option.map_none, Option.bind_some, Bool.or_true, Bool.true_or, eq_self, ite_true, ite_false, decide_true, decide_false, Int.reduceLT, Int.reduceLE, Int.reduceAdd, Int.reduceSub, Int.reduceMul, Int.reduceNeg, Nat.reduceAdd, Nat.reduceLT, Nat.reduceLeDiff, Nat.reduceEqDiff, reduceIte, w_lim, w_tup, w_lst, w_unp, w_and, w_or, w_andT, w_orT, w_not, w_ife, w_chain, w_isi, w_neg, w_isN, w_notN, w_raise, w_un0, w_max2, w_intI, w_intB, w_par, Bool.not_true, Bool.not_false, Int.zero_add, Nat.zero_add, dT', w_mod hmp]
  unfold t13_law
  refine (seq_nx (ρ' := [some (.sh (S0)), some (.sh (.list (L.map .int))), some (.sh (.int m)), some (.sh (tI' (t0 :: T'))), some (.sh (.list (P.map (kf g)))), some (.sht (m : Int) (((t0 :: T').map some).map gd) (hs1.map hd)), some (.sht (m : Int) (((t0 :: T').map some).map gd) ((P.map fun p => (p, (none : Option Int))).map hd)), j7', some (.sht (m : Int) ((List.replicate m (none : Option Int)).map gd) (List.map hd [])), j9, some (.sht (m : Int) (((t0 :: T').map some).map gd) (List.map hd []))]) ?_).trans ?_
  · have r1 : eEqS F_m___eq__ (eVar 10) (eVar 6) true [some (.sh (S0)), some (.sh (.list (L.map .int))), some (.sh (.int m)), some (.sh (tI' (t0 :: T'))), some (.sh (.list (P.map (kf g)))), some (.sht (m : Int) (((t0 :: T').map some).map gd) (hs1.map hd)), some (.sh (shD (m : Int) (((t0 :: T').map some).map gd) ((P.map fun p => (p, (none : Option Int))).map hd))), j7', some (.sht (m : Int) ((List.replicate m (none : Option Int)).map gd) (List.map hd [])), j9, some (.sh (shD (m : Int) ((((t0 :: T').map some).set 0 (some ((t0 + 1) % m))).map gd) (([] ++ [(0, ((t0 :: T').map some)[0]?.getD none)]).map hd)))] = some (.val (.bool false)) := eqS_v (by rw [gT_eq, q5])
    exact ifX_f ((xor_f (xvw_f (d := .bool false) r1 rfl)).trans ((xor_f (xne_v (cx_v rfl (ds := []) rfl rfl fu) rfl rfl)).trans (xvw_f (d := .bool false) (rne true) rfl)))
  unfold t14_law
  rw [seq_nx ((for_it (w_rg1 (n := m) rfl (by omega))).trans hl3)]
  unfold t15_law
  have hgf := gaps_flt ((t0 :: T').map some)
  have hg0 : gaps ((t0 :: T').map some) = 0 := by
    have : ∀ l : List Int, gaps (l.map some) = 0 := fun l => by
      induction l with
      | nil => rfl
      | cons x l ih => exact ih
    exact this _
  rw [hg0, hGT.len] at hgf
  have hln := w_mlen m (((t0 :: T').map some).map gd) (hs1.map hd) (by rw [List.length_map, hGT.len]; omega)
  have ln : ∀ b, eSp lenOk F_m___len__ (eVar 5) b [some (.sh (S0)), some (.sh (.list (L.map .int))), some (.sh (.int m)), some (.sh (tI' (t0 :: T'))), some (.sh (.list (P.map (kf g)))), some (.sh (shD (m : Int) (((t0 :: T').map some).map gd) (hs1.map hd))), some (.sht (m : Int) ((List.replicate m (none : Option Int)).map gd) (List.map hd [])), j7'', some (.sht (m : Int) ((List.replicate m (none : Option Int)).map gd) (List.map hd [])), j9, some (.sht (m : Int) (((t0 :: T').map some).map gd) (List.map hd []))] = some (.val (.int (m : Int))) := fun b => by
    show (match F_m___len__ [shD (m : Int) (((t0 :: T').map some).map gd) (hs1.map hd)] with | some (.val d) => if lenOk d = true then some (Rs.val d) else none | _ => none) = _
    rw [hln, show ((((t0 :: T').map some).map gd).filter fun d => !isN d).length = m by omega]
    refine if_pos ?_
    unfold lenOk
    rw [Bool.and_eq_true, decide_eq_true_eq, decide_eq_true_eq]
    omega
  have v1 : xVv [6, 8] (eEqS F_m___eq__ (eVar 6) (eVar 8)) [some (.sh (S0)), some (.sh (.list (L.map .int))), some (.sh (.int m)), some (.sh (tI' (t0 :: T'))), some (.sh (.list (P.map (kf g)))), some (.sht (m : Int) (((t0 :: T').map some).map gd) (hs1.map hd)), some (.sht (m : Int) ((List.replicate m (none : Option Int)).map gd) (List.map hd [])), j7'', some (.sht (m : Int) ((List.replicate m (none : Option Int)).map gd) (List.map hd [])), j9, some (.sht (m : Int) (((t0 :: T').map some).map gd) (List.map hd []))] = some (.bool true, [some (.sh (S0)), some (.sh (.list (L.map .int))), some (.sh (.int m)), some (.sh (tI' (t0 :: T'))), some (.sh (.list (P.map (kf g)))), some (.sht (m : Int) (((t0 :: T').map some).map gd) (hs1.map hd)), some (.sht (m : Int) ((List.replicate m (none : Option Int)).map gd) (List.map hd [])), j7'', some (.sht (m : Int) ((List.replicate m (none : Option Int)).map gd) (List.map hd [])), j9, some (.sht (m : Int) (((t0 :: T').map some).map gd) (List.map hd []))]) := by
    have r : eEqS F_m___eq__ (eVar 6) (eVar 8) false [some (.sh (S0)), some (.sh (.list (L.map .int))), some (.sh (.int m)), some (.sh (tI' (t0 :: T'))), some (.sh (.list (P.map (kf g)))), some (.sht (m : Int) (((t0 :: T').map some).map gd) (hs1.map hd)), some (.sh (shD (m : Int) ((List.replicate m (none : Option Int)).map gd) (List.map hd []))), j7'', some (.sh (shD (m : Int) ((List.replicate m (none : Option Int)).map gd) (List.map hd []))), j9, some (.sht (m : Int) (((t0 :: T').map some).map gd) (List.map hd []))] = some (.val (.bool true)) := eqS_v qr
    unfold xVv
    rw [show vws [6, 8] [some (.sh (S0)), some (.sh (.list (L.map .int))), some (.sh (.int m)), some (.sh (tI' (t0 :: T'))), some (.sh (.list (P.map (kf g)))), some (.sht (m : Int) (((t0 :: T').map some).map gd) (hs1.map hd)), some (.sht (m : Int) ((List.replicate m (none : Option Int)).map gd) (List.map hd [])), j7'', some (.sht (m : Int) ((List.replicate m (none : Option Int)).map gd) (List.map hd [])), j9, some (.sht (m : Int) (((t0 :: T').map some).map gd) (List.map hd []))] = [some (.sh (S0)), some (.sh (.list (L.map .int))), some (.sh (.int m)), some (.sh (tI' (t0 :: T'))), some (.sh (.list (P.map (kf g)))), some (.sht (m : Int) (((t0 :: T').map some).map gd) (hs1.map hd)), some (.sh (shD (m : Int) ((List.replicate m (none : Option Int)).map gd) (List.map hd []))), j7'', some (.sh (shD (m : Int) ((List.replicate m (none : Option Int)).map gd) (List.map hd []))), j9, some (.sht (m : Int) (((t0 :: T').map some).map gd) (List.map hd []))] from rfl, r]
  have v2 : xEq (eCX 4 fx__law_entered 6 (aCons (eC (.int 1)) (aCons (eC .none) (aCons (eC .none) (aNil))))) (eC (.str "nothing")) [some (.sh (S0)), some (.sh (.list (L.map .int))), some (.sh (.int m)), some (.sh (tI' (t0 :: T'))), some (.sh (.list (P.map (kf g)))), some (.sht (m : Int) (((t0 :: T').map some).map gd) (hs1.map hd)), some (.sht (m : Int) ((List.replicate m (none : Option Int)).map gd) (List.map hd [])), j7'', some (.sht (m : Int) ((List.replicate m (none : Option Int)).map gd) (List.map hd [])), j9, some (.sht (m : Int) (((t0 :: T').map some).map gd) (List.map hd []))] = some (.bool true, [some (.sh (S0)), some (.sh (.list (L.map .int))), some (.sh (.int m)), some (.sh (tI' (t0 :: T'))), some (.sh (.list (P.map (kf g)))), some (.sht (m : Int) (((t0 :: T').map some).map gd) (hs1.map hd)), some (.sht (m : Int) ((List.replicate m (none : Option Int)).map gd) (List.map hd [])), j7'', some (.sht (m : Int) ((List.replicate m (none : Option Int)).map gd) (List.map hd [])), j9, some (.sht (m : Int) (((t0 :: T').map some).map gd) (List.map hd []))]) := by
    unfold xEq
    rw [cx_v (i := 6) (n := 4) (F := fx__law_entered) (g := aCons (eC (.int 1)) (aCons (eC .none) (aCons (eC .none) (aNil)))) (ρ := [some (.sh (S0)), some (.sh (.list (L.map .int))), some (.sh (.int m)), some (.sh (tI' (t0 :: T'))), some (.sh (.list (P.map (kf g)))), some (.sht (m : Int) (((t0 :: T').map some).map gd) (hs1.map hd)), some (.sht (m : Int) ((List.replicate m (none : Option Int)).map gd) (List.map hd [])), j7'', some (.sht (m : Int) ((List.replicate m (none : Option Int)).map gd) (List.map hd [])), j9, some (.sht (m : Int) (((t0 :: T').map some).map gd) (List.map hd []))]) rfl (ds := [.int 1, .none, .none]) rfl rfl (fx_none _)]
    rfl
  have v3 : xVv [5] (eBin dEq (eSp lenOk F_m___len__ (eVar 5)) (eVar 2)) [some (.sh (S0)), some (.sh (.list (L.map .int))), some (.sh (.int m)), some (.sh (tI' (t0 :: T'))), some (.sh (.list (P.map (kf g)))), some (.sht (m : Int) (((t0 :: T').map some).map gd) (hs1.map hd)), some (.sht (m : Int) ((List.replicate m (none : Option Int)).map gd) (List.map hd [])), j7'', some (.sht (m : Int) ((List.replicate m (none : Option Int)).map gd) (List.map hd [])), j9, some (.sht (m : Int) (((t0 :: T').map some).map gd) (List.map hd []))] = some (.bool true, [some (.sh (S0)), some (.sh (.list (L.map .int))), some (.sh (.int m)), some (.sh (tI' (t0 :: T'))), some (.sh (.list (P.map (kf g)))), some (.sht (m : Int) (((t0 :: T').map some).map gd) (hs1.map hd)), some (.sht (m : Int) ((List.replicate m (none : Option Int)).map gd) (List.map hd [])), j7'', some (.sht (m : Int) ((List.replicate m (none : Option Int)).map gd) (List.map hd [])), j9, some (.sht (m : Int) (((t0 :: T').map some).map gd) (List.map hd []))]) := by
    have r : eBin dEq (eSp lenOk F_m___len__ (eVar 5)) (eVar 2) false [some (.sh (S0)), some (.sh (.list (L.map .int))), some (.sh (.int m)), some (.sh (tI' (t0 :: T'))), some (.sh (.list (P.map (kf g)))), some (.sh (shD (m : Int) (((t0 :: T').map some).map gd) (hs1.map hd))), some (.sht (m : Int) ((List.replicate m (none : Option Int)).map gd) (List.map hd [])), j7'', some (.sht (m : Int) ((List.replicate m (none : Option Int)).map gd) (List.map hd [])), j9, some (.sht (m : Int) (((t0 :: T').map some).map gd) (List.map hd []))] = some (.val (.bool true)) := by
      simp only [w_bnd, w_bndX, w_bndN, w_bndS, w_bndSX, w_bndSN, w_bndI, w_bndA, w_c, w_bin, w_un, w_nil, w_cons, w_fn, w_seq, w_nop, w_set, w_setO, w_ret, w_do, w_if, w_v0, w_o0, w_o0f, w_vs, w_clr0, w_clrs, w_nm, w_pr, w_add, w_sub, w_mul, w_addI, w_mulI, w_lt, w_le, w_gt, w_ge, w_truB, w_truI, w_truL, w_truT, w_truN, w_lenL, w_lenT, w_tupL, w_listT, w_listL, w_app, w_aug, w_for, List.set_cons_zero, List.set_cons_succ, List.getElem?_cons_zero, List.getElem?_cons_succ, List.length_cons, List.length_nil, Option.map_some, Option.map_none, Option.bind_some, Bool.or_true, Bool.true_or, eq_self, ite_true, ite_false, decide_true, decide_false, Int.reduceLT, Int.reduceLE, Int.reduceAdd, Int.reduceSub, Int.reduceMul, Int.reduceNeg, Nat.reduceAdd, Nat.reduceLT, Nat.reduceLeDiff, Nat.reduceEqDiff, reduceIte, w_lim, w_tup, w_lst, w_unp, w_and, w_or, w_andT, w_orT, w_not, w_ife, w_chain, w_isi, w_neg, w_isN, w_notN, w_raise, w_un0, w_max2, w_intI, w_intB, w_par, Bool.not_true, Bool.not_false, Int.zero_add, Nat.zero_add, ln, w_eqI]
    unfold xVv
    rw [show vws [5] [some (.sh (S0)), some (.sh (.list (L.map .int))), some (.sh (.int m)), some (.sh (tI' (t0 :: T'))), some (.sh (.list (P.map (kf g)))), some (.sht (m : Int) (((t0 :: T').map some).map gd) (hs1.map hd)), some (.sht (m : Int) ((List.replicate m (none : Option Int)).map gd) (List.map hd [])), j7'', some (.sht (m : Int) ((List.replicate m (none : Option Int)).map gd) (List.map hd [])), j9, some (.sht (m : Int) (((t0 :: T').map some).map gd) (List.map hd []))] = [some (.sh (S0)), some (.sh (.list (L.map .int))), some (.sh (.int m)), some (.sh (tI' (t0 :: T'))), some (.sh (.list (P.map (kf g)))), some (.sh (shD (m : Int) (((t0 :: T').map some).map gd) (hs1.map hd))), some (.sht (m : Int) ((List.replicate m (none : Option Int)).map gd) (List.map hd [])), j7'', some (.sht (m : Int) ((List.replicate m (none : Option Int)).map gd) (List.map hd [])), j9, some (.sht (m : Int) (((t0 :: T').map some).map gd) (List.map hd []))] from rfl, r]
  exact retX_v ((xand_t v1).trans ((xand_t v2).trans v3))
end PT

namespace PT
open PySem PySem.Spec PyProof.Rows L2
/-! ## the head -/
namespace Hd
def d_in_range : He.DefD := ⟨("in_range", none), "in_range", "in_range", defArgs st_in_range, defBody st_in_range, defScope st_in_range, [], []⟩
def d_difference_row : He.DefD := ⟨("difference_row", none), "difference_row", "difference_row", defArgs st_difference_row, defBody st_difference_row, defScope st_difference_row, [], []⟩
def d_greatest_divisor : He.DefD := ⟨("greatest_divisor", none), "greatest_divisor", "greatest_divisor", defArgs st_greatest_divisor, defBody st_greatest_divisor, defScope st_greatest_divisor, [], []⟩
def d_tuples : He.DefD := ⟨("tuples", none), "tuples", "tuples", defArgs st_tuples, defBody st_tuples, defScope st_tuples, [], []⟩
def d_filled : He.DefD := ⟨("filled", none), "filled", "filled", defArgs st_filled, defBody st_filled, defScope st_filled, [], []⟩
def d__law_cell : He.DefD := ⟨("_law_cell", none), "_law_cell", "_law_cell", defArgs st__law_cell, defBody st__law_cell, defScope st__law_cell, [], []⟩
def d__law_value : He.DefD := ⟨("_law_value", none), "_law_value", "_law_value", defArgs st__law_value, defBody st__law_value, defScope st__law_value, [], []⟩
def d_check_modulus : He.DefD := ⟨("check_modulus", none), "check_modulus", "check_modulus", defArgs st_check_modulus, defBody st_check_modulus, defScope st_check_modulus, [], []⟩
def d_is_valid_table : He.DefD := ⟨("is_valid_table", none), "is_valid_table", "is_valid_table", defArgs st_is_valid_table, defBody st_is_valid_table, defScope st_is_valid_table, [], []⟩
def d_check_place : He.DefD := ⟨("check_place", none), "check_place", "check_place", defArgs st_check_place, defBody st_check_place, defScope st_check_place, [], []⟩
def d_divisors : He.DefD := ⟨("divisors", none), "divisors", "divisors", defArgs st_divisors, defBody st_divisors, defScope st_divisors, [], []⟩
def d__law_row : He.DefD := ⟨("_law_row", none), "_law_row", "_law_row", defArgs st__law_row, defBody st__law_row, defScope st__law_row, [], []⟩
def d__law_table : He.DefD := ⟨("_law_table", none), "_law_table", "_law_table", defArgs st__law_table, defBody st__law_table, defScope st__law_table, [], []⟩
def d_check_table : He.DefD := ⟨("check_table", none), "check_table", "check_table", defArgs st_check_table, defBody st_check_table, defScope st_check_table, [], []⟩
def d_first_fault : He.DefD := ⟨("first_fault", none), "first_fault", "first_fault", defArgs st_first_fault, defBody st_first_fault, defScope st_first_fault, [], []⟩
def d__law_numbers : He.DefD := ⟨("_law_numbers", none), "_law_numbers", "_law_numbers", defArgs st__law_numbers, defBody st__law_numbers, defScope st__law_numbers, [], []⟩
def d_is_polynomial : He.DefD := ⟨("is_polynomial", none), "is_polynomial", "is_polynomial", defArgs st_is_polynomial, defBody st_is_polynomial, defScope st_is_polynomial, [], []⟩
def d_completions : He.DefD := ⟨("completions", none), "completions", "completions", defArgs st_completions, defBody st_completions, defScope st_completions, [], []⟩
def d__law_entered : He.DefD := ⟨("_law_entered", none), "_law_entered", "_law_entered", defArgs st__law_entered, defBody st__law_entered, defScope st__law_entered, [], []⟩
def d_law : He.DefD := ⟨("law", none), "law", "law", defArgs st_law, defBody st_law, defScope st_law, [], []⟩
def d_sh___init__ : He.DefD := ⟨("Sheet", some "__init__"), "__init__", "Sheet.__init__", defArgs st_sh___init__, defBody st_sh___init__, defScope st_sh___init__, [], []⟩
def d_sh_enter : He.DefD := ⟨("Sheet", some "enter"), "enter", "Sheet.enter", defArgs st_sh_enter, defBody st_sh_enter, defScope st_sh_enter, [], []⟩
def d_sh_undo : He.DefD := ⟨("Sheet", some "undo"), "undo", "Sheet.undo", defArgs st_sh_undo, defBody st_sh_undo, defScope st_sh_undo, [], []⟩
def d_sh_duplicate : He.DefD := ⟨("Sheet", some "duplicate"), "duplicate", "Sheet.duplicate", defArgs st_sh_duplicate, defBody st_sh_duplicate, defScope st_sh_duplicate, [], []⟩
def d_sh_state : He.DefD := ⟨("Sheet", some "state"), "state", "Sheet.state", defArgs st_m_state, defBody st_m_state, defScope st_m_state, [], []⟩
def d_sh___len__ : He.DefD := ⟨("Sheet", some "__len__"), "__len__", "Sheet.__len__", defArgs st_m___len__, defBody st_m___len__, defScope st_m___len__, [], []⟩
def d_sh___str__ : He.DefD := ⟨("Sheet", some "__str__"), "__str__", "Sheet.__str__", defArgs st_m___str__, defBody st_m___str__, defScope st_m___str__, [], []⟩
def d_sh___eq__ : He.DefD := ⟨("Sheet", some "__eq__"), "__eq__", "Sheet.__eq__", defArgs st_m___eq__, defBody st_m___eq__, defScope st_m___eq__, [], []⟩
def d_sh_options : He.DefD := ⟨("Sheet", some "options"), "options", "Sheet.options", defArgs st_m_options, defBody st_m_options, defScope st_m_options, [], []⟩
def fnL : List He.DefD := [d_in_range, d_difference_row, d_greatest_divisor, d_tuples, d_filled, d__law_cell, d__law_value, d_check_modulus, d_is_valid_table, d_check_place, d_divisors, d__law_row, d__law_table, d_check_table, d_first_fault, d__law_numbers, d_is_polynomial, d_completions, d__law_entered, d_law, d_sh___init__, d_sh_enter, d_sh_undo, d_sh_duplicate, d_sh_state, d_sh___len__, d_sh___str__, d_sh___eq__, d_sh_options]
def faL : List He.Fa := [.free "len", .free "range", .free "isinstance", .free "int", .free "bool", .free "tuple", .free "list", .free "str", .free "set", .free "sorted", .free "max", .free "min", .free "zip", .free "enumerate", .free "reversed", .glo "in_range", .glo "difference_row", .glo "greatest_divisor", .glo "tuples", .glo "filled", .glo "_law_cell", .glo "_law_value", .glo "check_modulus", .glo "is_valid_table", .glo "check_place", .glo "divisors", .glo "_law_row", .glo "_law_table", .glo "check_table", .glo "first_fault", .glo "_law_numbers", .glo "is_polynomial", .glo "completions", .glo "_law_entered", .glo "law", .int "MAX_MODULUS" 12, .int "MAX_FILLED" 1000, .glo "InvalidValue", .exc "InvalidValue", .glo "NothingToUndo", .exc "NothingToUndo", .glo "InvalidModulus", .exc "InvalidModulus", .glo "InvalidPlace", .exc "InvalidPlace", .glo "InvalidTable", .exc "InvalidTable", .glo "TooMany", .exc "TooMany", .glo "NothingToUndo", .glo "TooMany", .glo "InvalidValue", .glo "InvalidPlace", .glo "Sheet", .mkr "Sheet", .meth "Sheet" "enter", .meth "Sheet" "undo", .meth "Sheet" "state", .meth "Sheet" "__len__", .meth "Sheet" "__str__", .meth "Sheet" "__eq__", .meth "Sheet" "options", .meth "Sheet" "duplicate"]
abbrev R : PySem.W.OpenRow := PySem.W.OpenLaw.row PySem.Challenge.rw_polytables_k16_whole_two_sheets
def chk (K : PySem.W.Frag) : Bool := chkE EM K && shB K && shXB K && neB K && nfB K
abbrev hk : PySem.W.Hook := hookQ 4 faL fnL chk
def ob (s : PySem.W.SharedT) : He.AlD := obsQG 4 faL fnL chk (HandSHeadRun.getT s)
theorem ob_eq (s : PySem.W.SharedT) : ob s = hk.obs s.abs := obsQG_eq (HandSHeadRun.getT_eq s)
def lo : List Str := (["TableError", "InvalidModulus", "InvalidTable", "InvalidPlace", "InvalidValue", "TooMany", "NothingToUndo", "Sheet", "MAX_MODULUS", "MAX_FILLED", "in_range", "check_modulus", "is_valid_table", "check_table", "check_place", "difference_row", "greatest_divisor", "divisors", "first_fault", "is_polynomial", "tuples", "filled", "completions", "_law_cell", "_law_row", "_law_value", "_law_numbers", "_law_table", "_law_entered"] : List Str)
theorem run (w : World) : HandSHeadRun.RunEq R (PySem.W.view R.prog [35]) hk ob 40000 lo w := by
  intro os
  kernel_rfl
variable {P : Program} {w : World} {K : PySem.W.Frag} {h base : Heap} {mg : Str → Option Value}
theorem bi (X : K.In h) (G : h.Ns mainGlobals mg) (c : He.SaysD faL fnL K) (S : ShK K) : Bi ⟨P, w, K, mg, base⟩ := ⟨He.free_ok X G (c.fact 0), He.free_ok X G (c.fact 1), He.free_ok X G (c.fact 2), He.free_ok X G (c.fact 3), He.free_ok X G (c.fact 4), He.free_ok X G (c.fact 5), He.free_ok X G (c.fact 6), He.free_ok X G (c.fact 7), He.free_ok X G (c.fact 8), He.free_ok X G (c.fact 9), He.free_ok X G (c.fact 10), He.free_ok X G (c.fact 11), He.free_ok X G (c.fact 12), He.free_ok X G (c.fact 13), He.free_ok X G (c.fact 14), S⟩
theorem facts (X : K.In h) (G : h.Ns mainGlobals mg) (c : He.SaysD faL fnL K) (ce : chk K = true) : ∃ fd : FuncData, (∀ (s : Shared) (v : Value), BindsTo s fd ⟨[v], []⟩ [("script", v)]) ∧ ∀ base : Heap, FnOk P w K mg base (L2.CX P w) 8 (He.ga K "law") fd ["script"] (spF K mg 1 F_law) := by
  obtain ⟨fd0, D0⟩ := c.def_ 0 (d := d_in_range) rfl
  obtain ⟨fd1, D1⟩ := c.def_ 1 (d := d_difference_row) rfl
  obtain ⟨fd2, D2⟩ := c.def_ 2 (d := d_greatest_divisor) rfl
  obtain ⟨fd3, D3⟩ := c.def_ 3 (d := d_tuples) rfl
  obtain ⟨fd4, D4⟩ := c.def_ 4 (d := d_filled) rfl
  obtain ⟨fd5, D5⟩ := c.def_ 5 (d := d__law_cell) rfl
  obtain ⟨fd6, D6⟩ := c.def_ 6 (d := d__law_value) rfl
  obtain ⟨fd7, D7⟩ := c.def_ 7 (d := d_check_modulus) rfl
  obtain ⟨fd8, D8⟩ := c.def_ 8 (d := d_is_valid_table) rfl
  obtain ⟨fd9, D9⟩ := c.def_ 9 (d := d_check_place) rfl
  obtain ⟨fd10, D10⟩ := c.def_ 10 (d := d_divisors) rfl
  obtain ⟨fd11, D11⟩ := c.def_ 11 (d := d__law_row) rfl
  obtain ⟨fd12, D12⟩ := c.def_ 12 (d := d__law_table) rfl
  obtain ⟨fd13, D13⟩ := c.def_ 13 (d := d_check_table) rfl
  obtain ⟨fd14, D14⟩ := c.def_ 14 (d := d_first_fault) rfl
  obtain ⟨fd15, D15⟩ := c.def_ 15 (d := d__law_numbers) rfl
  obtain ⟨fd16, D16⟩ := c.def_ 16 (d := d_is_polynomial) rfl
  obtain ⟨fd17, D17⟩ := c.def_ 17 (d := d_completions) rfl
  obtain ⟨fd18, D18⟩ := c.def_ 18 (d := d__law_entered) rfl
  obtain ⟨fd19, D19⟩ := c.def_ 19 (d := d_law) rfl
  have bb := FunD.bindsA (ps := ["script"]) D19 fun _ _ _ _ _ _ us hl => match us, hl with | [_], _ => rfl
  refine ⟨fd19, fun s v => bb s [v] rfl, fun base => ?_⟩
  unfold chk at ce
  simp only [Bool.and_eq_true] at ce
  have B : Bi ⟨P, w, K, mg, base⟩ := bi X G c (shB_ok ce.1.1.1.2)
  have h_MAX_MODULUS := He.int_ok X G (c.fact 35 (f := .int "MAX_MODULUS" 12))
  have h_MAX_FILLED := He.int_ok X G (c.fact 36 (f := .int "MAX_FILLED" 1000))
  have h_InvalidValue : ExcC ⟨P, w, K, mg, base⟩ "InvalidValue" := ⟨_, He.glo_ok X G (c.fact 37 (f := .glo "InvalidValue")), He.exc_ok (c.fact 38 (f := .exc "InvalidValue"))⟩
  have h_NothingToUndo : ExcC ⟨P, w, K, mg, base⟩ "NothingToUndo" := ⟨_, He.glo_ok X G (c.fact 39 (f := .glo "NothingToUndo")), He.exc_ok (c.fact 40 (f := .exc "NothingToUndo"))⟩
  have h_InvalidModulus : ExcC ⟨P, w, K, mg, base⟩ "InvalidModulus" := ⟨_, He.glo_ok X G (c.fact 41 (f := .glo "InvalidModulus")), He.exc_ok (c.fact 42 (f := .exc "InvalidModulus"))⟩
  have h_InvalidPlace : ExcC ⟨P, w, K, mg, base⟩ "InvalidPlace" := ⟨_, He.glo_ok X G (c.fact 43 (f := .glo "InvalidPlace")), He.exc_ok (c.fact 44 (f := .exc "InvalidPlace"))⟩
  have h_InvalidTable : ExcC ⟨P, w, K, mg, base⟩ "InvalidTable" := ⟨_, He.glo_ok X G (c.fact 45 (f := .glo "InvalidTable")), He.exc_ok (c.fact 46 (f := .exc "InvalidTable"))⟩
  have h_TooMany : ExcC ⟨P, w, K, mg, base⟩ "TooMany" := ⟨_, He.glo_ok X G (c.fact 47 (f := .glo "TooMany")), He.exc_ok (c.fact 48 (f := .exc "TooMany"))⟩
  have h_cls_NothingToUndo : ∃ C, (⟨P, w, K, mg, base⟩ : Gc).mg "NothingToUndo" = some (.ref C) := ⟨_, He.glo_ok X G (c.fact 49 (f := .glo "NothingToUndo"))⟩
  have h_cls_TooMany : ∃ C, (⟨P, w, K, mg, base⟩ : Gc).mg "TooMany" = some (.ref C) := ⟨_, He.glo_ok X G (c.fact 50 (f := .glo "TooMany"))⟩
  have h_cls_InvalidValue : ∃ C, (⟨P, w, K, mg, base⟩ : Gc).mg "InvalidValue" = some (.ref C) := ⟨_, He.glo_ok X G (c.fact 51 (f := .glo "InvalidValue"))⟩
  have h_cls_InvalidPlace : ∃ C, (⟨P, w, K, mg, base⟩ : Gc).mg "InvalidPlace" = some (.ref C) := ⟨_, He.glo_ok X G (c.fact 52 (f := .glo "InvalidPlace"))⟩
  have hE : EmOk ⟨P, w, K, mg, base⟩ EM := chkE_ok X G ce.1.1.1.1
  have h_in_range : FnIs ⟨P, w, K, mg, base⟩ "in_range" 1 3 F_in_range := fn_in_range B   (He.glo_ok X G (c.fact 15 (f := .glo "in_range"))) D0
  have h_difference_row : FnIs ⟨P, w, K, mg, base⟩ "difference_row" 1 3 F_difference_row := fn_difference_row B   (He.glo_ok X G (c.fact 16 (f := .glo "difference_row"))) D1
  have h_greatest_divisor : FnIs ⟨P, w, K, mg, base⟩ "greatest_divisor" 1 2 F_greatest_divisor := fn_greatest_divisor B   (He.glo_ok X G (c.fact 17 (f := .glo "greatest_divisor"))) D2
  have h_tuples : FnIs ⟨P, w, K, mg, base⟩ "tuples" 1 1 F_tuples := fn_tuples B   (He.glo_ok X G (c.fact 18 (f := .glo "tuples"))) D3
  have h_filled : FnIs ⟨P, w, K, mg, base⟩ "filled" 1 2 F_filled := fn_filled B   (He.glo_ok X G (c.fact 19 (f := .glo "filled"))) D4
  have h__law_cell : FnIs ⟨P, w, K, mg, base⟩ "_law_cell" 1 2 F__law_cell := fn__law_cell B   (He.glo_ok X G (c.fact 20 (f := .glo "_law_cell"))) D5
  have h__law_value : FnIs ⟨P, w, K, mg, base⟩ "_law_value" 1 3 F__law_value := fn__law_value B   (He.glo_ok X G (c.fact 21 (f := .glo "_law_value"))) D6
  have h_check_modulus : FnIs ⟨P, w, K, mg, base⟩ "check_modulus" 2 1 F_check_modulus := fn_check_modulus B h_in_range h_MAX_MODULUS h_InvalidModulus  (He.glo_ok X G (c.fact 22 (f := .glo "check_modulus"))) D7
  have h_is_valid_table : FnIs ⟨P, w, K, mg, base⟩ "is_valid_table" 2 2 F_is_valid_table := fn_is_valid_table B h_in_range  (He.glo_ok X G (c.fact 23 (f := .glo "is_valid_table"))) D8
  have h_check_place : FnIs ⟨P, w, K, mg, base⟩ "check_place" 2 2 F_check_place := fn_check_place B h_in_range h_InvalidPlace  (He.glo_ok X G (c.fact 24 (f := .glo "check_place"))) D9
  have h_divisors : FnIs ⟨P, w, K, mg, base⟩ "divisors" 2 1 F_divisors := fn_divisors B h_greatest_divisor  (He.glo_ok X G (c.fact 25 (f := .glo "divisors"))) D10
  have h__law_row : FnIs ⟨P, w, K, mg, base⟩ "_law_row" 2 2 F__law_row := fn__law_row B h__law_cell  (He.glo_ok X G (c.fact 26 (f := .glo "_law_row"))) D11
  have h__law_table : FnIs ⟨P, w, K, mg, base⟩ "_law_table" 2 2 F__law_table := fn__law_table B h__law_value  (He.glo_ok X G (c.fact 27 (f := .glo "_law_table"))) D12
  have h_check_table : FnIs ⟨P, w, K, mg, base⟩ "check_table" 3 2 F_check_table := fn_check_table B h_check_modulus h_is_valid_table h_InvalidTable  (He.glo_ok X G (c.fact 28 (f := .glo "check_table"))) D13
  have h_first_fault : FnIs ⟨P, w, K, mg, base⟩ "first_fault" 3 2 F_first_fault := fn_first_fault B h_difference_row h_divisors  (He.glo_ok X G (c.fact 29 (f := .glo "first_fault"))) D14
  have h__law_numbers : FnIs ⟨P, w, K, mg, base⟩ "_law_numbers" 3 2 F__law_numbers := fn__law_numbers B h__law_row  (He.glo_ok X G (c.fact 30 (f := .glo "_law_numbers"))) D15
  have S : ShX K := shXB_ok ce.1.1.2
  obtain ⟨fds0, Ds0⟩ := c.def_ 20 (d := d_sh___init__) rfl
  obtain ⟨fds1, Ds1⟩ := c.def_ 21 (d := d_sh_enter) rfl
  obtain ⟨fds2, Ds2⟩ := c.def_ 22 (d := d_sh_undo) rfl
  obtain ⟨fds3, Ds3⟩ := c.def_ 23 (d := d_sh_duplicate) rfl
  obtain ⟨fds4, Ds4⟩ := c.def_ 24 (d := d_sh_state) rfl
  obtain ⟨fds5, Ds5⟩ := c.def_ 25 (d := d_sh___len__) rfl
  obtain ⟨fds6, Ds6⟩ := c.def_ 26 (d := d_sh___str__) rfl
  obtain ⟨fds7, Ds7⟩ := c.def_ 27 (d := d_sh___eq__) rfl
  obtain ⟨fds8, Ds8⟩ := c.def_ 28 (d := d_sh_options) rfl
  have h_sh_new : NewS ⟨P, w, K, mg, base⟩ 3 := sh_new B S h_check_modulus (He.mkr_ok (c.fact 54 (f := .mkr "Sheet"))) (He.glo_ok X G (c.fact 53 (f := .glo "Sheet"))) Ds0
  have h_x_enter : MtX ⟨P, w, K, mg, base⟩ "enter" 3 3 fx_enter := x_enter B S h_check_place h_in_range h_InvalidValue (He.meth_ok (c.fact 55 (f := .meth "Sheet" "enter"))) Ds1
  have h_x_undo : MtX ⟨P, w, K, mg, base⟩ "undo" 1 1 fx_undo := x_undo B S h_NothingToUndo (He.meth_ok (c.fact 56 (f := .meth "Sheet" "undo"))) Ds2
  have hmS : (⟨P, w, K, mg, base⟩ : Gc).mg "Sheet" = some (.ref (He.ga K "Sheet")) := He.glo_ok X G (c.fact 53 (f := .glo "Sheet"))
  have hNe := neB_ok ce.1.2
  have nf := nfB_ok ce.2
  have h_mt_dup : MtD ⟨P, w, K, mg, base⟩ 5 := x_dup B S h_sh_new (He.meth_ok (c.fact 62 (f := .meth "Sheet" "duplicate"))) Ds3
  have h_mt_state : MtIs ⟨P, w, K, mg, base⟩ "state" 1 1 F_m_state := mt_state B S (He.meth_ok (c.fact 57 (f := .meth "Sheet" "state"))) Ds4
  have h_sp___len__ : ShS ⟨P, w, K, mg, base⟩ "__len__" 1 1 F_m___len__ := mt___len__ B S (He.meth_ok (c.fact 58 (f := .meth "Sheet" "__len__"))) Ds5
  have h_sp___str__ : ShS ⟨P, w, K, mg, base⟩ "__str__" 1 1 F_m___str__ := mt___str__ B S (He.meth_ok (c.fact 59 (f := .meth "Sheet" "__str__"))) Ds6
  have h_sp___eq__ : ShS ⟨P, w, K, mg, base⟩ "__eq__" 2 2 F_m___eq__ := mt___eq__ B S h_mt_state hmS (He.meth_ok (c.fact 60 (f := .meth "Sheet" "__eq__"))) Ds7
  have h_is_polynomial : FnIs ⟨P, w, K, mg, base⟩ "is_polynomial" 4 2 F_is_polynomial := fn_is_polynomial B h_check_table h_first_fault  (He.glo_ok X G (c.fact 31 (f := .glo "is_polynomial"))) D16
  have h_completions : FnIs ⟨P, w, K, mg, base⟩ "completions" 4 2 F_completions := fn_completions B h_check_modulus h_is_valid_table h_tuples h_filled h_first_fault h_MAX_FILLED h_InvalidTable h_TooMany  (He.glo_ok X G (c.fact 32 (f := .glo "completions"))) D17
  have h_mt_options : MtIs ⟨P, w, K, mg, base⟩ "options" 6 2 F_m_options := mt_options B h_check_place h_completions S h_mt_state (He.meth_ok (c.fact 61 (f := .meth "Sheet" "options"))) Ds8
  have h__law_entered : FnIs ⟨P, w, K, mg, base⟩ "_law_entered" 7 4 F__law_entered := fn__law_entered B h_mt_options h_cls_NothingToUndo h_cls_TooMany h_cls_InvalidValue h_cls_InvalidPlace hE (He.glo_ok X G (c.fact 33 (f := .glo "_law_entered"))) D18
  have h_fx__law_entered : FnX ⟨P, w, K, mg, base⟩ "_law_entered" 4 4 fx__law_entered := x__law_entered B hE h_x_enter h_x_undo h_cls_NothingToUndo h_cls_TooMany h_cls_InvalidValue h_cls_InvalidPlace (He.glo_ok X G (c.fact 33 (f := .glo "_law_entered"))) D18
  exact fn_okD (G := ⟨P, w, K, mg, base⟩) D19 sc_law (b_law B h__law_row h__law_table h__law_numbers h_is_polynomial h_mt_state h_mt_options h_sp___eq__ h_sp___str__ h_sp___len__ nf hNe h_mt_dup h_fx__law_entered h_sh_new h_x_enter h_x_undo ) (fun _ _ _ h => h)
end Hd
end PT
open PySem PySem.W PySem.Calls PyProof.Rows
theorem PySem.Challenge.cw_polytables_k16_whole_two_sheets_holds : PySem.Challenge.rw_polytables_k16_whole_two_sheets.Holds := by
  w_on; o_law
  refine HandSHeadRun.head_any (r := OpenLaw.row PySem.Challenge.rw_polytables_k16_whole_two_sheets) (q := view (OpenLaw.row PySem.Challenge.rw_polytables_k16_whole_two_sheets).prog [35]) (H := PT.Hd.hk) (ob := PT.Hd.ob) (M := 40000) (loose := PT.Hd.lo) (d := HandSHeadRun.topDef (OpenLaw.row PySem.Challenge.rw_polytables_k16_whole_two_sheets).prog 35) (kwd := []) PT.Hd.ob_eq
    (by kernel_rfl) (fun s => by kernel_rfl) PT.Hd.run (by kernel_rfl) (by kernel_rfl) (by kernel_rfl) (by rfl) (by first | assumption | decide +kernel) (by decide +kernel) ⟨rfl, rfl, rfl, rfl, rfl, by decide +kernel⟩ ?hw ?hc
  case hw => w_witness2
  case hc =>
    refine PT.walk_pt (l := PySem.Challenge.rw_polytables_k16_whole_two_sheets) (n := 63) (k := 8) (x := "script") (CX := fun w => L2.CX (PySem.Challenge.rw_polytables_k16_whole_two_sheets).prog w) rfl (by decide) (by kernel_rfl) ⟨rfl, by decide, by decide⟩ ?F (fun w H s e s2 z => ?_)
    case F =>
      intro w mg f h Y G hm0
      obtain ⟨K, KX, c0⟩ := Y
      obtain ⟨c, ce⟩ := PT.SaysP.says c0
      have hm : mg ("law" : PySem.Str) = some (.ref f) := by
        have e : (HandSHeadRun.topDef (OpenLaw.row PySem.Challenge.rw_polytables_k16_whole_two_sheets).prog 35).name = ("law" : PySem.Str) := by kernel_rfl
        rw [← e]
        exact hm0
      have e := hm.symm.trans (He.glo_ok KX G (c.fact 34 (f := .glo "law")))
      cases e
      obtain ⟨fd, hb, hF⟩ := PT.Hd.facts (P := (PySem.Challenge.rw_polytables_k16_whole_two_sheets).prog) (w := w) KX G c ce
      exact ⟨K, fd, _, KX, hb, fun H a ns hl hO hS => PT.law_sp (fun ns _ => PT.law_plain ns) H a ns hl hO hS, fun base _ _ => hF base⟩
    obtain ⟨_, _, _, _, _, _, _, _, _, _, _, _, z⟩ := z
    exact z
