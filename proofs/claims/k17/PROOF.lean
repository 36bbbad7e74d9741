import PyProof.Rows.All
import Wide.All
import OpenK.AllK
import Wide.FinOn
import HandS.ForMost
import HandS.ForExc
import HandS.Walk
import HandS.Zip
import HandS.Rev
import HandS.TupAny
import HandS.TupMul
import HandS.IsInst
import HandS.Deep
import HandS.Flow
import HandS.Conv
import HandS.CallSlots
import HandS.TryMany
import HandS.SortInts
import HandS.Strs
import HandS.TupSets
import HandS.Wide
import KE.DataEq
import KE.KStateDown
import KE.GoesNew
import KE.KDictZip
import HandS.Defaults
import HandS.Head0
import HandS.Head1
import HandS.Head2
import HandS.HeadEnd
import HandS.HeadHook1
import HandS.HeadHook2
import HandS.SetFor
import KE.SortData
import HandS.ExcIs
import KE.DataFind
import HandS.SortKw
import HandS.Text
import HandS.FStr
import KE.KIndexOf
import HandS.Iter
import HandS.ExcInit
import HandS.ExcField
import HandS.ClsMeth
import KE.KExcIs
import KE.KCallOwn
import HandS.RaiseMore
import PySem.Challenge.RW_polytables_k17_exceptions
set_option Elab.async false
set_option linter.all false
set_option maxRecDepth 100000
set_option maxHeartbeats 4000000
namespace PT
open PySem PySem.Spec PyProof.Rows L2

/-! ## data, environments, results -/
abbrev Dt := PyData
/-- a slot: a list that this slot alone holds, or any data; a sheet that this slot alone holds -/
inductive SV where
  | own (xs : List Dt)
  | sh (d : Dt)
  | sht (m : Int) (es hs : List Dt)
abbrev En := List (Option SV)
inductive Rs where
  | val (d : Dt)
  | exc (n : Str) (pl : Option Dt)
abbrev EF := Bool → En → Option Rs
def bnd (x : Option Rs) (k : Dt → Option Rs) : Option Rs :=
  match x with
  | some (.val d) => k d
  | y => y
/-- what is owned: by a slot (f: its list, g: its sheet), and by those around (x) -/
structure Ow where
  f : Nat → Option Addr
  x : Addr → Prop
  g : Nat → Addr → Prop
/-- owned by those around alone -/
def Ow.out (O : Addr → Prop) : Ow := ⟨fun _ => none, O, fun _ _ => False⟩
def OI (ow : Ow) (a : Addr) : Prop := ∃ i, ow.f i = some a ∨ ow.g i a
def OA (ow : Ow) (a : Addr) : Prop := OI ow a ∨ ow.x a

/-! ## what a value stands for -/
/-- the script, as data: no list of the program's own -/
def scr (ns : List Int) : Dt := .dict (ns.map fun i => (.int i, .none))
/-- the script: locked, or of the written part -/
def ScrAt (K : PySem.W.Frag) (H : Hp) (a : Addr) (ns : List Int) : Prop := (∃ o, H a = some (.frz o (.lst (ns.map V.int)))) ∨
  ∃ (o : Obj) (its : Array Value) (n : Nat), K.lookup a = some o ∧ o.cls = .type "list" ∧ o.dict = none ∧ o.data = .seq its n ∧ its.size ≤ sizeLine ∧ Vals (ns.map V.int) its.toList
theorem ScrAt.sq {K : PySem.W.Frag} {H : Hp} {a : Addr} {ns : List Int} (h : ScrAt K H a ns) : SqL K H a (ns.map V.int) := by
  rcases h with ⟨o, h⟩ | h
  · exact .inl (.inr ⟨o, h⟩)
  · exact .inr h
theorem ScrAt.imp {K : PySem.W.Frag} {H H' : Hp} {a : Addr} {ns : List Int} (e : ∀ o u, H a = some (.frz o u) → H' a = some (.frz o u)) (h : ScrAt K H a ns) : ScrAt K H' a ns := by
  rcases h with ⟨o, h⟩ | h
  · exact .inl ⟨o, e _ _ h⟩
  · exact .inr h
/-- a tuple made by the program: known to the object, which has no dict -/
def FT (H : Hp) (a : Addr) (xs : List V) : Prop := ∃ o : Obj, H a = some (.frz o (.tup xs)) ∧ o.dict = none
theorem FT.sq {K : PySem.W.Frag} {H : Hp} {a : Addr} {xs : List V} (h : FT H a xs) : SqT K H a xs := let ⟨o, h, _⟩ := h; .inl (.inr ⟨o, h⟩)
/-- a sheet, as data -/
def shD (m : Int) (es hs : List Dt) : Dt := .dict [(.none, .tuple [.int m, .list es, .list hs])]
/-- the names of the methods -/
def shM : List Str := ["state", "enter", "options", "undo", "duplicate"]
/-- the fields of the sheet at a -/
def ShF (K : PySem.W.Frag) (H : Hp) (a : Addr) (m : Int) (e h : Addr) : Prop := ∃ dx fs, H a = some (.ins (He.ga K "Sheet") dx fs) ∧ fs.length < 100 ∧ fs.lookup ("modulus" : Str) = some (V.int m) ∧ fs.lookup ("entries" : Str) = some (V.ref e) ∧ fs.lookup ("history" : Str) = some (V.ref h) ∧ ∀ n ∈ shM, fs.lookup n = none
theorem ShF.imp {K : PySem.W.Frag} {H H' : Hp} {a : Addr} {m : Int} {e h : Addr} (k : ∀ o, H a = some o → H' a = some o) (s : ShF K H a m e h) : ShF K H' a m e h := let ⟨dx, fs, h1, r⟩ := s; ⟨dx, fs, k _ h1, r⟩
mutual
inductive Rp (K : PySem.W.Frag) (O : Addr → Prop) (H : Hp) : V → Dt → Prop
  | non : Rp K O H .non .none
  | bl (b : Bool) : Rp K O H (.bl b) (.bool b)
  | int (i : Int) : Rp K O H (.int i) (.int i)
  | str (x : Str) : Rp K O H (.str x) (.str x)
  | lst {a : Addr} {xs : List V} {ds : List Dt} : H a = some (.lst xs) → ¬ O a → RpAll K O H xs ds → Rp K O H (.ref a) (.list ds)
  | tup {a : Addr} {xs : List V} {ds : List Dt} : FT H a xs → RpAll K O H xs ds → Rp K O H (.ref a) (.tuple ds)
  | scr {a : Addr} {ns : List Int} : ScrAt K H a ns → Rp K O H (.ref a) (.dict (ns.map fun i => (.int i, .none)))
  | sht {a e h : Addr} {m : Int} {vs ws : List V} {ds hs : List Dt} : ShF K H a m e h → H e = some (.lst vs) → H h = some (.lst ws) → ¬ O a → ¬ O e → ¬ O h → RpAll K O H vs ds → RpAll K O H ws hs → Rp K O H (.ref a) (.dict [(.none, .tuple [.int m, .list ds, .list hs])])
inductive RpAll (K : PySem.W.Frag) (O : Addr → Prop) (H : Hp) : List V → List Dt → Prop
  | nil : RpAll K O H [] []
  | cons {v : V} {vs : List V} {d : Dt} {ds : List Dt} : Rp K O H v d → RpAll K O H vs ds → RpAll K O H (v :: vs) (d :: ds)
end
abbrev NoO : Addr → Prop := fun _ => False
/-- every owned address bears a list -/
structure OkO (ow : Ow) (H : Hp) : Prop where
  lst : ∀ i a, ow.f i = some a → ∃ ys, H a = some (.lst ys)
  ext : ∀ a, ow.x a → H a ≠ none
  gs : ∀ i a, ow.g i a → (∃ ys, H a = some (.lst ys)) ∨ ∃ C dx fs, H a = some (.ins C dx fs)
/-- what stood and is not owned by a slot stands -/
structure Kp (ow : Ow) (H H' : Hp) : Prop where
  keep : ∀ a o, H a = some o → ¬ OI ow a → H' a = some o
  dom : ∀ a, H a ≠ none → H' a ≠ none
structure Stp (ow : Ow) (H : Hp) (ow' : Ow) (H' : Hp) : Prop where
  kp : Kp ow H H'
  new : ∀ a, OI ow' a → OI ow a ∨ H a = none
  ext : ow'.x = ow.x
theorem Same.dom {H H' : Hp} (e : Same H H') (a : Addr) (h : H a ≠ none) : H' a ≠ none := by
  cases q : H a with
  | none => exact absurd q h
  | some o => rw [e a o q]; exact fun z => nomatch z
theorem Same.kp {ow : Ow} {H H' : Hp} (e : Same H H') : Kp ow H H' := ⟨fun a o h _ => e a o h, Same.dom e⟩
theorem Same.stp {ow : Ow} {H H' : Hp} (e : Same H H') : Stp ow H ow H' := ⟨Same.kp e, fun _ h => .inl h, rfl⟩
theorem Stp.refl (ow : Ow) (H : Hp) : Stp ow H ow H := Same.stp (Same.refl H)
theorem Stp.kp2 {ow ow1 : Ow} {H H1 H2 : Hp} (a : Stp ow H ow1 H1) (b : Kp ow1 H1 H2) : Kp ow H H2 :=
  ⟨fun x o h n => b.keep x o (a.kp.keep x o h n) fun q => (a.new x q).elim n (fun z => by rw [z] at h; cases h), fun x h => b.dom x (a.kp.dom x h)⟩
theorem Stp.trans {ow ow1 ow2 : Ow} {H H1 H2 : Hp} (a : Stp ow H ow1 H1) (b : Stp ow1 H1 ow2 H2) : Stp ow H ow2 H2 :=
  ⟨a.kp2 b.kp, fun x q => (b.new x q).elim (fun z => a.new x z) fun z => by
    cases e : H x with
    | none => exact .inr rfl
    | some o => exact absurd z (a.kp.dom x (by rw [e]; exact fun z => nomatch z)), b.ext.trans a.ext⟩
theorem Same.upd {H : Hp} {p : Addr} {o : HO} (h : H p = none) : Same H (upd H p o) := fun a u e => by
  rw [upd_ne (ne_of_none e h)]
  exact e
theorem OkO.not {ow : Ow} {H : Hp} {a : Addr} {o : HO} (ok : OkO ow H) (e : H a = some o) (n : ∀ ys, o ≠ .lst ys) (n2 : ∀ C dx fs, o ≠ .ins C dx fs) : ¬ OI ow a := fun ⟨i, hi⟩ => by
  rcases hi with hi | hi
  · obtain ⟨ys, hy⟩ := ok.lst i a hi
    rw [e] at hy
    exact n ys (Option.some.inj hy)
  · rcases ok.gs i a hi with ⟨ys, hy⟩ | ⟨C, dx, fs, hy⟩
    · rw [e] at hy
      exact n ys (Option.some.inj hy)
    · rw [e] at hy
      exact n2 C dx fs (Option.some.inj hy)
theorem OkO.new {ow : Ow} {H : Hp} {a : Addr} (ok : OkO ow H) (e : H a = none) : ¬ OA ow a := fun q => by
  rcases q with ⟨i, hi | hi⟩ | q
  · obtain ⟨ys, hy⟩ := ok.lst i a hi
    rw [e] at hy; cases hy
  · rcases ok.gs i a hi with ⟨ys, hy⟩ | ⟨C, dx, fs, hy⟩ <;> rw [e] at hy <;> cases hy
  · exact ok.ext a q e
theorem OkO.at_ {ow : Ow} {H : Hp} {a : Addr} (ok : OkO ow H) (h : OA ow a) : H a ≠ none := fun e => ok.new e h
theorem Stp.notOA {ow ow' : Ow} {H H' : Hp} (s : Stp ow H ow' H') {a : Addr} {o : HO} (h : H a = some o) (n : ¬ OA ow a) : ¬ OA ow' a := fun q => q.elim (fun q => (s.new _ q).elim (fun z => n (.inl z)) fun z => by rw [z] at h; cases h) fun q => n (.inr (by rw [← s.ext]; exact q))
mutual
theorem Rp.stp {K : PySem.W.Frag} {ow ow' : Ow} {H H' : Hp} (ok : OkO ow H) (s : Stp ow H ow' H') : ∀ {v : V} {d : Dt}, Rp K (OA ow) H v d → Rp K (OA ow') H' v d
  | _, _, .non => .non
  | _, _, .bl b => .bl b
  | _, _, .int i => .int i
  | _, _, .str x => .str x
  | _, _, .lst h n r => .lst (s.kp.keep _ _ h fun z => n (.inl z)) (fun q => q.elim (fun q => (s.new _ q).elim (fun z => n (.inl z)) fun z => by rw [z] at h; cases h) fun q => n (.inr (by rw [← s.ext]; exact q))) (RpAll.stp ok s r)
  | _, _, .tup ⟨o, h, hd⟩ r => .tup ⟨o, s.kp.keep _ _ h (ok.not h (fun _ z => by cases z) fun _ _ _ z => by cases z), hd⟩ (RpAll.stp ok s r)
  | _, _, .scr h => .scr (h.imp fun _ _ h => s.kp.keep _ _ h (ok.not h (fun _ z => by cases z) fun _ _ _ z => by cases z))
  | _, _, .sht f he hh n1 n2 n3 r1 r2 => .sht (f.imp fun o q => s.kp.keep _ _ q fun z => n1 (.inl z)) (s.kp.keep _ _ he fun z => n2 (.inl z)) (s.kp.keep _ _ hh fun z => n3 (.inl z)) (let ⟨_, _, q, _⟩ := f; s.notOA q n1) (s.notOA he n2) (s.notOA hh n3) (RpAll.stp ok s r1) (RpAll.stp ok s r2)
theorem RpAll.stp {K : PySem.W.Frag} {ow ow' : Ow} {H H' : Hp} (ok : OkO ow H) (s : Stp ow H ow' H') : ∀ {vs : List V} {ds : List Dt}, RpAll K (OA ow) H vs ds → RpAll K (OA ow') H' vs ds
  | _, _, .nil => .nil
  | _, _, .cons a r => .cons (Rp.stp ok s a) (RpAll.stp ok s r)
end
mutual
theorem Rp.fresh {K : PySem.W.Frag} {O O' : Addr → Prop} {H : Hp} (n : ∀ a o, H a = some o → ¬ O a → ¬ O' a) : ∀ {v : V} {d : Dt}, Rp K O H v d → Rp K O' H v d
  | _, _, .non => .non
  | _, _, .bl b => .bl b
  | _, _, .int i => .int i
  | _, _, .str x => .str x
  | _, _, .lst h q r => .lst h (n _ _ h q) (RpAll.fresh n r)
  | _, _, .tup h r => .tup h (RpAll.fresh n r)
  | _, _, .scr h => .scr h
  | _, _, .sht f he hh n1 n2 n3 r1 r2 => .sht f he hh (let ⟨_, _, q, _⟩ := f; n _ _ q n1) (n _ _ he n2) (n _ _ hh n3) (RpAll.fresh n r1) (RpAll.fresh n r2)
theorem RpAll.fresh {K : PySem.W.Frag} {O O' : Addr → Prop} {H : Hp} (n : ∀ a o, H a = some o → ¬ O a → ¬ O' a) : ∀ {vs : List V} {ds : List Dt}, RpAll K O H vs ds → RpAll K O' H vs ds
  | _, _, .nil => .nil
  | _, _, .cons a r => .cons (Rp.fresh n a) (RpAll.fresh n r)
end
theorem Rp.noO {K : PySem.W.Frag} {O : Addr → Prop} {H : Hp} {v : V} {d : Dt} (h : Rp K O H v d) : Rp K NoO H v d := Rp.fresh (fun _ _ _ _ z => z) h
theorem RpAll.noO {K : PySem.W.Frag} {O : Addr → Prop} {H : Hp} {v : List V} {d : List Dt} (h : RpAll K O H v d) : RpAll K NoO H v d := RpAll.fresh (fun _ _ _ _ z => z) h
mutual
theorem Rp.same {K : PySem.W.Frag} {O : Addr → Prop} {H H' : Hp} (e : Same H H') : ∀ {v : V} {d : Dt}, Rp K O H v d → Rp K O H' v d
  | _, _, .non => .non
  | _, _, .bl b => .bl b
  | _, _, .int i => .int i
  | _, _, .str x => .str x
  | _, _, .lst h q r => .lst (e _ _ h) q (RpAll.same e r)
  | _, _, .tup ⟨o, h, hd⟩ r => .tup ⟨o, e _ _ h, hd⟩ (RpAll.same e r)
  | _, _, .scr h => .scr (h.imp fun _ _ h => e _ _ h)
  | _, _, .sht f he hh n1 n2 n3 r1 r2 => .sht (f.imp fun o q => e _ _ q) (e _ _ he) (e _ _ hh) n1 n2 n3 (RpAll.same e r1) (RpAll.same e r2)
theorem RpAll.same {K : PySem.W.Frag} {O : Addr → Prop} {H H' : Hp} (e : Same H H') : ∀ {vs : List V} {ds : List Dt}, RpAll K O H vs ds → RpAll K O H' vs ds
  | _, _, .nil => .nil
  | _, _, .cons a r => .cons (Rp.same e a) (RpAll.same e r)
end
/-! no script within: PyData.plain -/
mutual
theorem Rp.dp {K : PySem.W.Frag} {O : Addr → Prop} {H : Hp} : ∀ {v : V} {d : Dt}, Rp K O H v d → PyData.plain d = true → Dp K H v d
  | _, _, .non, _ => .non
  | _, _, .bl b, _ => .bl b
  | _, _, .int i, _ => .int i
  | _, _, .str x, _ => .str x
  | _, _, .lst h _ r, q => .lst (SqL.of h) (RpAll.dp r q)
  | _, _, .tup h r, q => .tup h.sq (RpAll.dp r q)
  | _, _, .scr h, q => by cases q
  | _, _, .sht .., q => by cases q
theorem RpAll.dp {K : PySem.W.Frag} {O : Addr → Prop} {H : Hp} : ∀ {vs : List V} {ds : List Dt}, RpAll K O H vs ds → PyData.plainAll ds = true → DpAll K H vs ds
  | _, _, .nil, _ => .nil
  | _, _, .cons a r, q => by
    unfold PyData.plainAll at q
    rw [Bool.and_eq_true] at q
    exact .cons (Rp.dp a q.1) (RpAll.dp r q.2)
end
theorem RpAll.length {K : PySem.W.Frag} {O : Addr → Prop} {H : Hp} : ∀ {vs : List V} {ds : List Dt}, RpAll K O H vs ds → vs.length = ds.length
  | _, _, .nil => rfl
  | _, _, .cons _ r => by simp [RpAll.length r]
theorem RpAll.get {K : PySem.W.Frag} {O : Addr → Prop} {H : Hp} : ∀ {vs : List V} {ds : List Dt} {i : Nat} {d : Dt}, RpAll K O H vs ds → ds[i]? = some d → ∃ v, vs[i]? = some v ∧ Rp K O H v d
  | _, _, _, _, .nil, e => by simp at e
  | _, _, 0, _, .cons a _, e => by simp at e; subst e; exact ⟨_, rfl, a⟩
  | _, _, i + 1, d, .cons _ r, e => by
    obtain ⟨v, h1, h2⟩ := RpAll.get (i := i) (d := d) r (by simpa using e)
    exact ⟨v, by simpa using h1, h2⟩
theorem RpAll.append {K : PySem.W.Frag} {O : Addr → Prop} {H : Hp} : ∀ {vs vs' : List V} {ds ds' : List Dt}, RpAll K O H vs ds → RpAll K O H vs' ds' → RpAll K O H (vs ++ vs') (ds ++ ds')
  | _, _, _, _, .nil, s => s
  | _, _, _, _, .cons a r, s => .cons a (RpAll.append r s)
theorem RpAll.take {K : PySem.W.Frag} {O : Addr → Prop} {H : Hp} : ∀ {vs : List V} {ds : List Dt} (n : Nat), RpAll K O H vs ds → RpAll K O H (vs.take n) (ds.take n)
  | _, _, 0, _ => .nil
  | _, _, _ + 1, .nil => .nil
  | _, _, n + 1, .cons a r => .cons a (RpAll.take n r)
theorem RpAll.drop {K : PySem.W.Frag} {O : Addr → Prop} {H : Hp} : ∀ {vs : List V} {ds : List Dt} (n : Nat), RpAll K O H vs ds → RpAll K O H (vs.drop n) (ds.drop n)
  | _, _, 0, r => r
  | _, _, _ + 1, .nil => .nil
  | _, _, n + 1, .cons _ r => RpAll.drop n r
theorem RpAll.set {K : PySem.W.Frag} {O : Addr → Prop} {H : Hp} {v : V} {d : Dt} (q : Rp K O H v d) : ∀ {vs : List V} {ds : List Dt} (i : Nat), RpAll K O H vs ds → RpAll K O H (vs.set i v) (ds.set i d)
  | _, _, _, .nil => .nil
  | _, _, 0, .cons _ r => .cons q r
  | _, _, i + 1, .cons a r => .cons a (RpAll.set q i r)

/-! ## the environment and the slots -/
def SlotOk (K : PySem.W.Frag) (ow : Ow) (i : Nat) (H : Hp) (v : V) : SV → Prop
  | .sh d => Rp K (OA ow) H v d
  | .own xs => ∃ a vs, v = .ref a ∧ ow.f i = some a ∧ H a = some (.lst vs) ∧ RpAll K (OA ow) H vs xs
  | .sht m es hs => ∃ a e h vs ws, v = .ref a ∧ ow.g i a ∧ ow.g i e ∧ ow.g i h ∧ e ≠ h ∧ ShF K H a m e h ∧ H e = some (.lst vs) ∧ H h = some (.lst ws) ∧ RpAll K (OA ow) H vs es ∧ RpAll K (OA ow) H ws hs
structure Good (K : PySem.W.Frag) (ow : Ow) (ρ : En) (σ : L2.St) (H : Hp) : Prop where
  len : ρ.length = σ.length
  inj : ∀ i j a, ow.f i = some a → ow.f j = some a → i = j
  ok : OkO ow H
  disj : ∀ i a, ow.f i = some a → ¬ ow.x a
  slot : ∀ i s, ρ[i]? = some (some s) → ∃ v, σ[i]? = some (some v) ∧ SlotOk K ow i H v s
  has : ∀ i a, ow.f i = some a → ∃ xs, ρ[i]? = some (some (.own xs))
  ginj : ∀ i j a, ow.g i a → ow.g j a → i = j
  gf : ∀ i j a, ow.g i a → ow.f j = some a → False
  gx : ∀ i a, ow.g i a → ¬ ow.x a
  ghas : ∀ i a, ow.g i a → ∃ m es hs, ρ[i]? = some (some (.sht m es hs))
theorem OkO.same {ow : Ow} {H H' : Hp} (h : OkO ow H) (e : Same H H') : OkO ow H' := ⟨fun i a q => let ⟨ys, z⟩ := h.lst i a q; ⟨ys, e _ _ z⟩, fun a q => Same.dom e a (h.ext a q), fun i a q => (h.gs i a q).elim (fun ⟨ys, z⟩ => .inl ⟨ys, e _ _ z⟩) fun ⟨C, dx, fs, z⟩ => .inr ⟨C, dx, fs, e _ _ z⟩⟩
theorem Good.same {K : PySem.W.Frag} {ow : Ow} {ρ : En} {σ : L2.St} {H H' : Hp} (g : Good K ow ρ σ H) (e : Same H H') : Good K ow ρ σ H' := by
  refine ⟨g.len, g.inj, g.ok.same e, g.disj, fun i s h => ?_, g.has, g.ginj, g.gf, g.gx, g.ghas⟩
  obtain ⟨v, hv, q⟩ := g.slot i s h
  refine ⟨v, hv, ?_⟩
  cases s with
  | sh d => exact Rp.same e q
  | own xs =>
    obtain ⟨a, vs, h1, h2, h3, h4⟩ := q
    exact ⟨a, vs, h1, h2, e _ _ h3, RpAll.same e h4⟩
  | sht m es hs =>
    obtain ⟨a, e1, h1, vs, ws, q1, q2, q3, q4, q5, q6, q7, q8, q9, q10⟩ := q
    exact ⟨a, e1, h1, vs, ws, q1, q2, q3, q4, q5, q6.imp fun o z => e _ _ z, e _ _ q7, e _ _ q8, RpAll.same e q9, RpAll.same e q10⟩
/-- as a borrowed thing: data, or a list whose own address may be owned -/
def RpB (b : Bool) (K : PySem.W.Frag) (ow : Ow) (H : Hp) (v : V) (d : Dt) : Prop :=
  Rp K (OA ow) H v d ∨ (b = true ∧ ∃ a vs ds, v = .ref a ∧ d = .list ds ∧ H a = some (.lst vs) ∧ ¬ ow.x a ∧ RpAll K (OA ow) H vs ds)
theorem RpB.same {b : Bool} {K : PySem.W.Frag} {ow : Ow} {H H' : Hp} {v : V} {d : Dt} (e : Same H H') (h : RpB b K ow H v d) : RpB b K ow H' v d := by
  rcases h with h | ⟨hb, a, vs, ds, h1, h2, h3, h4, h5⟩
  · exact .inl (Rp.same e h)
  · exact .inr ⟨hb, a, vs, ds, h1, h2, e _ _ h3, h4, RpAll.same e h5⟩
theorem RpB.of {b : Bool} {K : PySem.W.Frag} {ow : Ow} {H : Hp} {v : V} {d : Dt} (h : Rp K (OA ow) H v d) : RpB b K ow H v d := .inl h
theorem RpB.rp {K : PySem.W.Frag} {ow : Ow} {H : Hp} {v : V} {d : Dt} (h : RpB false K ow H v d) : Rp K (OA ow) H v d := by
  rcases h with h | ⟨hb, _⟩
  · exact h
  · cases hb
theorem RpB.dp {b : Bool} {K : PySem.W.Frag} {ow : Ow} {H : Hp} {v : V} {d : Dt} (h : RpB b K ow H v d) (q : PyData.plain d = true) : Dp K H v d := by
  rcases h with h | ⟨hb, a, vs, ds, rfl, rfl, h3, h5, h4⟩
  · exact h.dp q
  · exact .lst (SqL.of h3) (h4.dp q)
/-- what is handed out -/
theorem RpB.out {b : Bool} {K : PySem.W.Frag} {ow : Ow} {H : Hp} {v : V} {d : Dt} (h : RpB b K ow H v d) : Rp K ow.x H v d := by
  rcases h with h | ⟨hb, a, vs, ds, rfl, rfl, h3, h5, h4⟩
  · exact Rp.fresh (fun _ _ _ n z => n (.inr z)) h
  · exact .lst h3 h5 (RpAll.fresh (fun _ _ _ n z => n (.inr z)) h4)
/-! what a borrowed list, a tuple, is -/
theorem RpB.list {b : Bool} {K : PySem.W.Frag} {ow : Ow} {H : Hp} {v : V} {ds : List Dt} (h : RpB b K ow H v (.list ds)) : ∃ a vs, v = .ref a ∧ H a = some (.lst vs) ∧ RpAll K (OA ow) H vs ds := by
  rcases h with h | ⟨hb, a, vs, ds', rfl, e, h3, h5, h4⟩
  · cases h with
    | lst h _ r => exact ⟨_, _, rfl, h, r⟩
  · cases e; exact ⟨a, vs, rfl, h3, h4⟩
theorem RpB.tuple {b : Bool} {K : PySem.W.Frag} {ow : Ow} {H : Hp} {v : V} {ds : List Dt} (h : RpB b K ow H v (.tuple ds)) : ∃ a vs, v = .ref a ∧ FT H a vs ∧ RpAll K (OA ow) H vs ds := by
  rcases h with h | ⟨hb, a, vs, ds', rfl, e, h3, h5, h4⟩
  · cases h with
    | tup h r => exact ⟨_, _, rfl, h, r⟩
  · cases e
theorem RpB.int {b : Bool} {K : PySem.W.Frag} {ow : Ow} {H : Hp} {v : V} {i : Int} (h : RpB b K ow H v (.int i)) : v = .int i := by
  rcases h with h | ⟨hb, a, vs, ds', rfl, e, h3, h5, h4⟩
  · cases h; rfl
  · cases e
theorem RpB.bool {b : Bool} {K : PySem.W.Frag} {ow : Ow} {H : Hp} {v : V} {i : Bool} (h : RpB b K ow H v (.bool i)) : v = .bl i := by
  rcases h with h | ⟨hb, a, vs, ds', rfl, e, h3, h5, h4⟩
  · cases h; rfl
  · cases e
theorem RpB.str {b : Bool} {K : PySem.W.Frag} {ow : Ow} {H : Hp} {v : V} {i : Str} (h : RpB b K ow H v (.str i)) : v = .str i := by
  rcases h with h | ⟨hb, a, vs, ds', rfl, e, h3, h5, h4⟩
  · cases h; rfl
  · cases e
theorem RpB.none {b : Bool} {K : PySem.W.Frag} {ow : Ow} {H : Hp} {v : V} (h : RpB b K ow H v .none) : v = .non := by
  rcases h with h | ⟨hb, a, vs, ds', rfl, e, h3, h5, h4⟩
  · cases h; rfl
  · cases e
theorem RpB.script {b : Bool} {K : PySem.W.Frag} {ow : Ow} {H : Hp} {v : V} {kv : List (PyData × PyData)} (h : RpB b K ow H v (.dict kv)) :
    (∃ (a : Addr) (ns : List Int), v = .ref a ∧ kv = ns.map (fun i => ((.int i : PyData), (.none : PyData))) ∧ ScrAt K H a ns) ∨ ∃ (a : Addr) (d : Dt), v = .ref a ∧ kv = [(.none, d)] ∧ ∃ dx fs, H a = some (.ins (He.ga K "Sheet") dx fs) := by
  rcases h with h | ⟨hb, a, vs, ds', rfl, e, h3, h5, h4⟩
  · generalize hd : (PyData.dict kv) = d at h
    cases h with
    | scr h => injection hd with hd; exact .inl ⟨_, _, rfl, hd, h⟩
    | sht f _ _ _ _ _ _ _ => injection hd with hd; exact .inr ⟨_, _, rfl, hd, let ⟨dx, fs, q, _⟩ := f; ⟨dx, fs, q⟩⟩
    | _ => cases hd
  · cases e

/-! ## the context of a piece of code -/
structure Gc where
  P : Program
  w : World
  K : PySem.W.Frag
  mg : Str → Option Value
  base : Heap
structure Ctx (G : Gc) (N : List Str) (sc : Scope) (fn : Str → Bool) (k : Nat) (X : Cx) : Prop where
  hP : X.prog = G.P
  hw : X.w = G.w
  hK : X.K = G.K
  hmg : X.mg = G.mg
  hb : X.base = G.base
  hN : X.N = N
  nd : N.Nodup
  hsc : X.env.scope = sc
  hfn : X.fn = fn
  calm : X.calm = true
  room : Room k X.A
def PayOk (K : PySem.W.Frag) (H : Hp) (d : Option Addr) : Option Dt → Prop
  | .none => d = .none
  | some x => ∃ a v, d = some a ∧ H a = some (.xd [((Str.ofString "line"), v)]) ∧ Rp K NoO H v x
/-- what is wished of an exception -/
def ExP (K : PySem.W.Frag) (mg : Str → Option Value) (W : WX) (σ : L2.St) (H : Hp) (n : Str) (pl : Option Dt) : Prop :=
  ∀ cls d H', mg n = some cls → Same H H' → PayOk K H' d pl → W cls d σ H'
theorem ExP.same {K : PySem.W.Frag} {mg : Str → Option Value} {W : WX} {σ : L2.St} {H H' : Hp} {n : Str} {pl : Option Dt} (h : ExP K mg W σ H n pl) (e : Same H H') : ExP K mg W σ H' n pl :=
  fun cls d H2 h1 h2 h3 => h cls d H2 h1 (e.trans h2) h3
/-- the reading of an expression by data -/
def tE (K : PySem.W.Frag) (mg : Str → Option Value) (W : WX) (b : Bool) (f : EF) : TE := fun σ H Q =>
  ∃ ρ ow r, f b ρ = some r ∧ Good K ow ρ σ H ∧ match r with
    | .val d => ∀ v H', Same H H' → RpB b K ow H' v d → Q v H'
    | .exc n pl => ExP K mg W σ H n pl
def SE (G : Gc) (N : List Str) (sc : Scope) (fn : Str → Bool) (k : Nat) (e : Expr) (f : EF) : Prop :=
  ∀ X, Ctx G N sc fn k X → ∀ W, Takes X W → ∀ b, PE X e (tE X.K X.mg W b f)
theorem PE.imp {X : Cx} {e : Expr} {t t' : TE} (h : PE X e t) (i : ∀ σ H Q, t' σ H Q → t σ H Q) : PE X e t' := ⟨fun pins s σ H Q I q => h.run pins s σ H Q I (i σ H Q q)⟩
theorem PT.imp {X : Cx} {e : Expr} {t t' : TT} (h : PT X e t) (i : ∀ σ H Q, t' σ H Q → t σ H Q) : PT X e t' := ⟨fun pins s σ H Q I q => h.run pins s σ H Q I (i σ H Q q)⟩
theorem PA.imp {X : Cx} {e : List Expr} {t t' : TA} (h : PA X e t) (i : ∀ σ H Q, t' σ H Q → t σ H Q) : PA X e t' := ⟨fun pos pins s σ H Q I q => h.run pos pins s σ H Q I (i σ H Q q)⟩
theorem PSs.imp {X : Cx} {e : List Stmt} {t t' : TS} (h : PSs X e t) (i : ∀ D σ H, t' D σ H → t D σ H) : PSs X e t' := ⟨fun pins s σ H D I q => h.run pins s σ H D I (i D σ H q)⟩
theorem PS.imp {X : Cx} {e : Stmt} {t t' : TS} (h : PS X e t) (i : ∀ D σ H, t' D σ H → t D σ H) : PS X e t' := ⟨fun pins s σ H D I q => h.run pins s σ H D I (i D σ H q)⟩
/-- one part evaluated, then the rest: the shape of most proofs below -/
theorem tE.go {K : PySem.W.Frag} {mg : Str → Option Value} {W : WX} {b : Bool} {f : EF} {ρ : En} {ow : Ow} {σ : L2.St} {H : Hp} {Q : VK} {k : Dt → Option Rs} {r : Rs} (g : Good K ow ρ σ H)
    (e : bnd (f b ρ) k = some r)
    (hx : ∀ n pl, r = .exc n pl → ExP K mg W σ H n pl)
    (hv : ∀ d, k d = some r → ∀ v H', Same H H' → RpB b K ow H' v d → Q v H') : tE K mg W b f σ H Q := by
  cases h : f b ρ with
  | none => rw [h] at e; cases e
  | some q =>
    rw [h] at e
    cases q with
    | val d => exact ⟨ρ, ow, .val d, h, g, fun v H' s q => hv d e v H' s q⟩
    | exc n pl => exact ⟨ρ, ow, .exc n pl, h, g, hx n pl (Option.some.inj e).symm⟩
end PT

namespace PT
open PySem PySem.Spec PyProof.Rows L2

/-! ## operators by data -/
def RD (K : PySem.W.Frag) (r : R2) (op : Dt → Dt → Option Dt) : Prop :=
  ∀ (x y : V) (H : Hp) (Q : VK) (ow : Ow) (dx dy dz : Dt), OkO ow H → RpB true K ow H x dx → RpB true K ow H y dy → op dx dy = some dz →
    (∀ v H', Same H H' → Rp K (OA ow) H' v dz → Q v H') → r x y H Q
def eBin (op : Dt → Dt → Option Dt) (f g : EF) : EF := fun _ ρ => bnd (f true ρ) fun x => bnd (g true ρ) fun y => (op x y).map .val
theorem Same.exp {K : PySem.W.Frag} {mg : Str → Option Value} {W : WX} {σ : L2.St} {H H' : Hp} {n : Str} {pl : Option Dt} (e : Same H H') (h : ExP K mg W σ H n pl) : ExP K mg W σ H' n pl := h.same e
/-- two parts, then an operation by data -/
theorem tOp_of {K : PySem.W.Frag} {mg : Str → Option Value} {W : WX} {b : Bool} {op : Dt → Dt → Option Dt} {f g : EF} {r : R2} {σ : L2.St} {H : Hp} {Q : VK} (hd : RD K r op)
    (h : tE K mg W b (eBin op f g) σ H Q) : tOp r (tE K mg W true f) (tE K mg W true g) σ H Q := by
  obtain ⟨ρ, ow, rs, he, gd, post⟩ := h
  refine tE.go gd he (fun n pl e => by subst e; exact post) fun d hd1 v H1 s1 r1 => ?_
  refine tE.go (gd.same s1) hd1 (fun n pl e => by subst e; exact post.same s1) fun d2 hd2 v2 H2 s2 r2 => ?_
  cases hz : op d d2 with
  | none => rw [hz] at hd2; cases hd2
  | some dz =>
    rw [hz] at hd2
    cases hd2
    exact hd v v2 H2 Q ow d d2 dz (gd.ok.same (s1.trans s2)) (r1.same s2) r2 hz fun v' H' s' q => post v' H' ((s1.trans s2).trans s') (.inl q)
theorem Takes.use {X : Cx} {W : WX} (t : Takes X W) : Takes X W := t

section
variable {G : Gc} {N : List Str} {sc : Scope} {fn : Str → Bool} {k : Nat} {pos : Pos}

/-! ### names, constants -/
def eVar (i : Nat) : EF := fun b ρ => match ρ[i]? with
  | some (some (.sh d)) => some (.val d)
  | some (some (.own xs)) => if b then some (.val (.list xs)) else none
  | _ => none
def eC (d : Dt) : EF := fun _ _ => some (.val d)
theorem se_var (i : Nat) {x : Str} (hN : N[i]? = some x := by rfl) (hv : Vis sc x := by first | exact Or.inl rfl | exact Or.inr (Or.inl rfl) | exact Or.inr (Or.inr rfl))
    (hd : (x == ("__debug__" : Str)) = false := by decide) (hcd : (x == ("__classdict__" : Str)) = false := by decide) : SE G N sc fn k (.Name x pos) (eVar i) := fun X C W tk b => by
  refine PE.imp (pe_var (by rw [C.hN]; exact hN) (by rw [C.hsc]; exact hv) hd hcd) fun σ H Q h => ?_
  obtain ⟨ρ, ow, r, he, gd, post⟩ := h
  unfold eVar at he
  split at he
  · rename_i d hi
    cases he
    obtain ⟨v, hv, q⟩ := gd.slot i _ hi
    exact ⟨v, hv, post v H (Same.refl H) (.inl q)⟩
  · rename_i xs hi
    cases b with
    | false => cases he
    | true =>
      cases he
      obtain ⟨v, hv, a, vs, rfl, h2, h3, h4⟩ := gd.slot i _ hi
      exact ⟨_, hv, post _ H (Same.refl H) (.inr ⟨rfl, a, vs, xs, rfl, rfl, h3, gd.disj _ _ h2, h4⟩)⟩
  · cases he
theorem tC_of {K : PySem.W.Frag} {mg : Str → Option Value} {W : WX} {b : Bool} {d : Dt} {v : V} {σ : L2.St} {H : Hp} {Q : VK} (hr : ∀ O, Rp K O H v d) (h : tE K mg W b (eC d) σ H Q) : tC v σ H Q := by
  obtain ⟨ρ, ow, r, he, gd, post⟩ := h
  cases he
  exact post v H (Same.refl H) (.inl (hr _))
theorem se_int {i : Int} {j : Nat} : SE G N sc fn k (.Constant (.int i) j pos) (eC (.int i)) := fun X C W tk b => PE.imp pe_int fun σ H Q h => tC_of (fun _ => .int i) h
theorem se_bl {i : Bool} {j : Nat} : SE G N sc fn k (.Constant (.bool i) j pos) (eC (.bool i)) := fun X C W tk b => PE.imp pe_bl fun σ H Q h => tC_of (fun _ => .bl i) h
theorem se_non {j : Nat} : SE G N sc fn k (.Constant .none j pos) (eC .none) := fun X C W tk b => PE.imp pe_non fun σ H Q h => tC_of (fun _ => .non) h
theorem se_str {i : Str} {j : Nat} : SE G N sc fn k (.Constant (.str i) j pos) (eC (.str i)) := fun X C W tk b => PE.imp pe_str fun σ H Q h => tC_of (fun _ => .str i) h
/-- a module's constant that is an int -/
theorem se_gint {x : Str} {i : Int} (hm : ∃ t, G.mg x = some (.int i t)) (hg : sc.names.lookup x = some .globalImplicit := by rfl) (hd : (x == ("__debug__" : Str)) = false := by decide) : SE G N sc fn k (.Name x pos) (eC (.int i)) := fun X C W tk b => by
  obtain ⟨t, hm⟩ := hm
  exact PE.imp (pe_glob (v := .int i) (by show X.env.scope.names.lookup x = _; rw [C.hsc]; exact hg) (by rw [C.hmg]; exact hm) ⟨t, rfl⟩ hd) fun σ H Q h => tC_of (fun _ => .int i) h
theorem se_gstr {x : Str} {i : Str} (hm : ∃ t, G.mg x = some (.str i t)) (hg : sc.names.lookup x = some .globalImplicit := by rfl) (hd : (x == ("__debug__" : Str)) = false := by decide) : SE G N sc fn k (.Name x pos) (eC (.str i)) := fun X C W tk b => by
  obtain ⟨t, hm⟩ := hm
  exact PE.imp (pe_glob (v := .str i) (by show X.env.scope.names.lookup x = _; rw [C.hsc]; exact hg) (by rw [C.hmg]; exact hm) ⟨t, rfl⟩ hd) fun σ H Q h => tC_of (fun _ => .str i) h

/-! ### new tuples -/
def nT (its : Array Value) : Obj := { cls := .type "tuple", data := .seq its }
theorem layT {X : Cx} {pins : List (Addr × Obj)} {σ : L2.St} {H : Hp} {s : Shared} {xs : List V} {its : List Value} (I : Inv X pins σ H s) (r : Vals xs its) (hz : xs.length ≤ sizeLine) (t : Nat) :
    Inv X pins σ (upd H s.heap.objs.size (.frz (nT its.toArray) (.tup xs))) { s with heap := s.heap.push (nT its.toArray), toks := t } :=
  I.laid (t' := t) (fun b ob q => Heap.get?_push_of_some _ q) (Nat.le_refl _) (show ObjOk X.prog X.w _ _ _ (.frz (nT its.toArray) (.tup xs)) from ⟨Heap.get?_push_size _ rfl, hz, its, r, IsTup.new _ _⟩)
def rCatF (K : PySem.W.Frag) : R2 := fun x y H Q => ∃ a b xs ys, x = .ref a ∧ y = .ref b ∧ SqT K H a xs ∧ SqT K H b ys ∧ xs.length + ys.length ≤ sizeLine ∧
  (xs = [] → Q (.ref b) H) ∧ (xs ≠ [] → ys = [] → Q (.ref a) H) ∧ (xs ≠ [] → ys ≠ [] → ∀ p o, H p = none → o.dict = none → Q (.ref p) (upd H p (.frz o (.tup (xs ++ ys)))))
theorem op_catF {X : Cx} : OpR X (binaryOp .Add) (rCatF X.K) := by
  intro pins s σ H x y v u Q I rx ry h
  obtain ⟨a, b, xs, ys, rfl, rfl, ha, hb, hz, q0, q1, q2⟩ := h
  by_cases hx : xs = []
  · subst hx
    cases rx
    cases ry
    obtain ⟨its, r1, p1, _⟩ := I.tuple ha
    obtain ⟨its2, r2, p2, _⟩ := I.tuple hb
    cases r1
    exact cat_tup0 p1 p2 ⟨.ref b, H, I, rfl, q0 rfl⟩
  · cases rx
    cases ry
    obtain ⟨its, r1, p1, _⟩ := I.tuple ha
    obtain ⟨its2, r2, p2, _⟩ := I.tuple hb
    refine HT.cat_tup p1 p2 (fun z => hx (r1.nil_iff.mp z)) (fun z => ⟨.ref a, H, I, rfl, q1 hx (r2.nil_iff.mp z)⟩) (fun z => ?_) (by rw [← r1.length, ← r2.length]; exact hz)
    exact ⟨.ref s.heap.objs.size, _, layT I (r1.append r2) (by rw [List.length_append]; exact hz) s.toks, rfl, q2 hx (fun w => z (r2.nil_iff.mpr w)) _ _ (I.hok.fresh (Nat.le_refl _)) rfl⟩
def rRepF (K : PySem.W.Frag) : R2 := fun x y H Q => ∃ l k xs, x = .ref l ∧ y = .int k ∧ SqT K H l xs ∧ xs ≠ [] ∧ 2 ≤ k ∧ k ≤ 1000 ∧ xs.length ≤ 1000 ∧ ∀ p o, H p = none → o.dict = none → Q (.ref p) (upd H p (.frz o (.tup (List.replicate k.toNat xs).flatten)))
theorem op_repF {X : Cx} : OpR X (binaryOp .Mult) (rRepF X.K) := by
  intro pins s σ H x y v u Q I rx ry h
  obtain ⟨l, k, xs, rfl, rfl, hT, hne, h1, h2, hz, q⟩ := h
  cases rx
  obtain ⟨t, rfl⟩ := ry
  obtain ⟨its, r, ⟨⟨cls, dd, data, sl⟩, ho, hc, n, hd⟩, hs⟩ := I.tuple hT
  simp only at hc hd
  subst hc hd
  have hle : its.length = xs.length := r.length.symm
  have hn : its ≠ [] := fun e => hne (by
    rw [e] at hle
    exact List.eq_nil_of_length_eq_zero hle.symm)
  have hi : its.toArray.isEmpty = false := by
    cases its with
    | nil => exact absurd rfl hn
    | cons a b => rfl
  have hsz0 : its.toArray.size = xs.length := by rw [List.size_toArray, hle]
  have hm : ((its.toArray.size : Nat) : Int) * k ≤ 1000000 := by
    rw [hsz0]
    have a1 : ((xs.length : Nat) : Int) * k ≤ 1000 * k := Int.mul_le_mul_of_nonneg_right (by omega) (by omega)
    omega
  have flen : (List.replicate k.toNat its).flatten.length ≤ sizeLine := by
    rw [PyProof.Rows.lm_len_rep_flat, hle, sizeLine_eq]
    have a1 : k.toNat * xs.length ≤ 1000 * 1000 := Nat.mul_le_mul (by omega) hz
    omega
  have c0 : (decide (k < -(2 ^ 63)) || decide (k ≥ 2 ^ 63)) = false := by
    rw [decide_eq_false (by omega), decide_eq_false (by omega)] <;> rfl
  have c1 : (its.toArray.isEmpty || k == 1) = false := by
    rw [hi, Bool.false_or]
    exact beq_eq_false_iff_ne.mpr (by omega)
  have c2 : (decide (k ≤ 0) || its.toArray.isEmpty) = false := by
    rw [hi, Bool.or_false]
    exact decide_eq_false (by omega)
  have c4 : Builtin.Tuple.tupleTooMany (((its.toArray.size : Nat) : Int) * k) = false := by
    unfold Builtin.Tuple.tupleTooMany
    rw [sizeLine_eq]
    exact decide_eq_false (by omega)
  refine wpAny_binaryOp_repeat_ref (T := "tuple") (U := "int") (by decide) ⟨_, ho, rfl⟩ (fun s' => typeIs_int s' k t) noFill_tuple_mul F.fills_int_mul F.slot_int_rmul repeat_tuple F.slot_int_index.lookup
    (call_meets F.slot_int_rmul (typeIs_int s k t) F.entry_int_rmul (F.args_int_rmul_2 _ _) (int_rmul_tuple k t l its.toArray n dd sl)
      ⟨ho, rfl, ⟨_, ho, rfl⟩, call_meets F.slot_tuple_mul ⟨_, ho, rfl⟩ F.entry_tuple_mul (F.args_tuple_mul_2 _ _) (tuple_mulW l its.toArray n dd sl k t c0 c1 c2 (by omega) c4 (by rw [size_rep, List.size_toArray]; exact flen)) ⟨ho, ?_⟩⟩)
  rw [size_rep]
  exact ⟨.ref s.heap.objs.size, _, layT I (r.rep k.toNat) (by rw [PyProof.Rows.lm_len_rep_flat, sizeLine_eq]; have a1 : k.toNat * xs.length ≤ 1000 * 1000 := Nat.mul_le_mul (by omega) hz; omega) s.toks, rfl, q _ _ (I.hok.fresh (Nat.le_refl _)) rfl⟩
/-! ### arithmetic -/
variable {a b c : Expr} {f g h : EF}
theorem se_bin {op : Operator} {r : PySem.W.Frag → R2} {dop : Dt → Dt → Option Dt} (ho : ∀ X : Cx, OpR X (binaryOp op) (r X.K)) (hd : ∀ K, RD K (r K) dop) (ha : SE G N sc fn k a f) (hb : SE G N sc fn k b g) :
    SE G N sc fn k (.BinOp a op b pos) (eBin dop f g) := fun X C W tk b' => PE.imp (pe_op (ho X) (ha X C W tk true) (hb X C W tk true)) fun σ H Q h => tOp_of (hd X.K) h
def lim : Nat := 1000000
theorem lim_le {n : Nat} (h : n ≤ lim) : n ≤ sizeLine := Nat.le_trans h (by decide)
def dAdd : Dt → Dt → Option Dt
  | .int i, .int j => some (.int (i + j))
  | .tuple xs, .tuple ys => if xs.length + ys.length ≤ lim then some (.tuple (xs ++ ys)) else none
  | .list xs, .list ys => if xs.length + ys.length ≤ lim then some (.list (xs ++ ys)) else none
  | .str x, .str y => if x.length + y.length ≤ lim then some (.str (x ++ y)) else none
  | _, _ => none
def rAddD (K : PySem.W.Frag) : R2 := fun x y H Q => rI0 (fun i j => .int (i + j)) x y H Q ∨ (rCatF K x y H Q ∨ (rCat x y H Q ∨ (∃ i j, x = .str i ∧ y = .str j ∧ i.length + j.length ≤ sizeLine ∧ Q (.str (i ++ j)) H)))
theorem rd_add (K : PySem.W.Frag) : RD K (rAddD K) dAdd := by
  intro x y H Q ow dx dy dz ok rx ry e post
  unfold dAdd at e
  split at e
  · cases e
    obtain rfl := rx.int
    obtain rfl := ry.int
    exact .inl ⟨_, _, rfl, rfl, post _ H (Same.refl H) (.int _)⟩
  · rename_i xs ys
    split at e
    · rename_i hz
      cases e
      obtain ⟨a, vs, rfl, h1, r1⟩ := rx.tuple
      obtain ⟨b, ws, rfl, h2, r2⟩ := ry.tuple
      refine .inr (.inl ⟨a, b, vs, ws, rfl, rfl, h1.sq, h2.sq, by rw [r1.length, r2.length]; exact lim_le hz, fun e => ?_, fun e1 e2 => ?_, fun e1 e2 p o hp ho => ?_⟩)
      · subst e
        cases r1
        exact post _ H (Same.refl H) (.tup h2 r2)
      · subst e2
        cases r2
        rw [List.append_nil] at post
        exact post _ H (Same.refl H) (.tup h1 r1)
      · exact post _ _ (Same.upd hp) (.tup ⟨o, upd_same, ho⟩ (RpAll.same (Same.upd hp) (r1.append r2)))
    · cases e
  · rename_i xs ys
    split at e
    · rename_i hz
      cases e
      obtain ⟨a, vs, rfl, h1, r1⟩ := rx.list
      obtain ⟨b, ws, rfl, h2, r2⟩ := ry.list
      exact .inr (.inr (.inl ⟨a, b, vs, ws, rfl, rfl, h1, h2, by rw [r1.length, r2.length]; exact lim_le hz, fun p hp =>
        post _ _ (Same.upd hp) (.lst upd_same (ok.new hp) (RpAll.same (Same.upd hp) (r1.append r2)))⟩))
    · cases e
  · rename_i x' y'
    split at e
    · rename_i hz
      cases e
      obtain rfl := rx.str
      obtain rfl := ry.str
      exact .inr (.inr (.inr ⟨_, _, rfl, rfl, lim_le hz, post _ H (Same.refl H) (.str _)⟩))
    · cases e
  · cases e
theorem se_add (ha : SE G N sc fn k a f) (hb : SE G N sc fn k b g) : SE G N sc fn k (.BinOp a .Add b pos) (eBin dAdd f g) :=
  se_bin (r := rAddD) (fun X => op_add.or (op_catF.or (op_cat.or op_add_str))) rd_add ha hb
/-- ints alone -/
def dI (C : Int → Int → Bool) (o : Int → Int → Int) : Dt → Dt → Option Dt
  | .int i, .int j => if C i j then some (.int (o i j)) else none
  | _, _ => none
theorem rd_I {K : PySem.W.Frag} {C : Int → Int → Bool} {C' : Int → Int → Prop} {o : Int → Int → Int} (hc : ∀ i j, C i j = true → C' i j) : RD K (rI C' fun i j => .int (o i j)) (dI C o) := by
  intro x y H Q ow dx dy dz ok rx ry e post
  unfold dI at e
  split at e
  · split at e
    · rename_i i j hcc
      cases e
      obtain rfl := rx.int
      obtain rfl := ry.int
      exact ⟨_, _, rfl, rfl, hc _ _ hcc, post _ H (Same.refl H) (.int _)⟩
    · cases e
  · cases e
def dSub : Dt → Dt → Option Dt
  | .int i, .int j => some (.int (i - j))
  | _, _ => none
theorem rd_sub (K : PySem.W.Frag) : RD K (rI0 fun i j => .int (i - j)) dSub := by
  intro x y H Q ow dx dy dz ok rx ry e post
  unfold dSub at e
  split at e
  · cases e
    obtain rfl := rx.int
    obtain rfl := ry.int
    exact ⟨_, _, rfl, rfl, post _ H (Same.refl H) (.int _)⟩
  · cases e
theorem se_sub (ha : SE G N sc fn k a f) (hb : SE G N sc fn k b g) : SE G N sc fn k (.BinOp a .Sub b pos) (eBin dSub f g) :=
  se_bin (r := fun _ => rI0 fun i j => .int (i - j)) (fun X => op_sub) rd_sub ha hb
/-! guards that a kernel does not unroll -/
def sml : Int → Bool
  | .ofNat n => Nat.blt n 18446744073709551616
  | .negSucc n => Nat.blt n 18446744073709551615
theorem sml_iff {i : Int} : sml i = true ↔ -(2 ^ 64) < i ∧ i < 2 ^ 64 := by
  cases i with
  | ofNat n =>
    show Nat.blt n 18446744073709551616 = true ↔ _
    rw [Nat.blt_eq]
    show n < 18446744073709551616 ↔ -(2 ^ 64) < (n : Int) ∧ (n : Int) < 2 ^ 64
    omega
  | negSucc n =>
    show Nat.blt n 18446744073709551615 = true ↔ _
    rw [Nat.blt_eq]
    have : Int.negSucc n = -((n : Int) + 1) := rfl
    rw [this]
    omega
def okI : Int → Bool
  | .ofNat n => Nat.ble n 1000000
  | .negSucc n => Nat.ble n 999999
theorem okI_iff {i : Int} : okI i = true ↔ i ≤ 1000000 ∧ -1000000 ≤ i := by
  cases i with
  | ofNat n =>
    show Nat.ble n 1000000 = true ↔ _
    rw [Nat.ble_eq]
    show n ≤ 1000000 ↔ (n : Int) ≤ 1000000 ∧ -1000000 ≤ (n : Int)
    omega
  | negSucc n =>
    show Nat.ble n 999999 = true ↔ _
    rw [Nat.ble_eq]
    have : Int.negSucc n = -((n : Int) + 1) := rfl
    rw [this]
    omega
def okM : Int → Bool
  | .ofNat n => Nat.ble 2 n && Nat.ble n 1000
  | .negSucc _ => false
theorem okM_iff {i : Int} : okM i = true ↔ 2 ≤ i ∧ i ≤ 1000 := by
  cases i with
  | ofNat n =>
    show (Nat.ble 2 n && Nat.ble n 1000) = true ↔ _
    rw [Bool.and_eq_true, Nat.ble_eq, Nat.ble_eq]
    show 2 ≤ n ∧ n ≤ 1000 ↔ 2 ≤ (n : Int) ∧ (n : Int) ≤ 1000
    omega
  | negSucc n =>
    have : Int.negSucc n = -((n : Int) + 1) := rfl
    show false = true ↔ _
    rw [this]
    simp
    omega
def dMul : Dt → Dt → Option Dt
  | .int i, .int j => if sml i || sml j then some (.int (i * j)) else none
  | .list xs, .int j => if xs.length * j.toNat ≤ lim ∧ okI j = true then some (.list (List.replicate j.toNat xs).flatten) else none
  | .tuple xs, .int j => if xs ≠ [] ∧ okM j = true ∧ xs.length ≤ 1000 then some (.tuple (List.replicate j.toNat xs).flatten) else none
  | _, _ => none
theorem RpAll.rep {K : PySem.W.Frag} {O : Addr → Prop} {H : Hp} {vs : List V} {ds : List Dt} (r : RpAll K O H vs ds) : ∀ n : Nat, RpAll K O H (List.replicate n vs).flatten (List.replicate n ds).flatten
  | 0 => .nil
  | n + 1 => by
    rw [List.replicate_succ, List.replicate_succ, List.flatten_cons, List.flatten_cons]
    exact r.append (RpAll.rep r n)
def rMulD (K : PySem.W.Frag) : R2 := fun x y H Q => rI CMul (fun i j => .int (i * j)) x y H Q ∨ (rRep x y H Q ∨ rRepF K x y H Q)
theorem rd_mul (K : PySem.W.Frag) : RD K (rMulD K) dMul := by
  intro x y H Q ow dx dy dz ok rx ry e post
  unfold dMul at e
  split at e
  · split at e
    · rename_i i j hz
      cases e
      obtain rfl := rx.int
      obtain rfl := ry.int
      refine .inl ⟨_, _, rfl, rfl, ?_, post _ H (Same.refl H) (.int _)⟩
      rw [Bool.or_eq_true, sml_iff, sml_iff] at hz
      exact hz
    · cases e
  · split at e
    · rename_i xs j hz
      cases e
      obtain ⟨a, vs, rfl, h1, r1⟩ := rx.list
      obtain rfl := ry.int
      have hz2 := okI_iff.mp hz.2
      exact .inr (.inl ⟨a, j, vs, rfl, rfl, h1, by omega, by omega, by rw [r1.length]; exact lim_le hz.1, fun p hp =>
        post _ _ (Same.upd hp) (.lst upd_same (ok.new hp) (RpAll.same (Same.upd hp) (r1.rep _)))⟩)
    · cases e
  · split at e
    · rename_i xs j hz
      cases e
      obtain ⟨a, vs, rfl, h1, r1⟩ := rx.tuple
      obtain rfl := ry.int
      refine .inr (.inr ⟨a, j, vs, rfl, rfl, h1.sq, fun z => ?_, (okM_iff.mp hz.2.1).1, (okM_iff.mp hz.2.1).2, by rw [r1.length]; exact hz.2.2, fun p o hp ho =>
        post _ _ (Same.upd hp) (.tup ⟨o, upd_same, ho⟩ (RpAll.same (Same.upd hp) (r1.rep _)))⟩)
      subst z
      cases r1
      exact hz.1 rfl
    · cases e
  · cases e
theorem se_mul (ha : SE G N sc fn k a f) (hb : SE G N sc fn k b g) : SE G N sc fn k (.BinOp a .Mult b pos) (eBin dMul f g) :=
  se_bin (r := rMulD) (fun X => op_mul.or (op_rep.or op_repF)) rd_mul ha hb
def dDiv : Dt → Dt → Option Dt := dI (fun _ j => decide (j ≠ 0) && decide (j.natAbs < 1073741824)) fun i j => i.fdiv j
theorem se_div (ha : SE G N sc fn k a f) (hb : SE G N sc fn k b g) : SE G N sc fn k (.BinOp a .FloorDiv b pos) (eBin dDiv f g) :=
  se_bin (r := fun _ => rI CDivN fun i j => .int (i.fdiv j)) (fun X => op_fdivN) (fun K => rd_I fun i j h => by simpa [CDivN] using h) ha hb
def dMod : Dt → Dt → Option Dt := dI (fun _ j => decide (j ≠ 0)) fun i j => i.fmod j
theorem se_mod (ha : SE G N sc fn k a f) (hb : SE G N sc fn k b g) : SE G N sc fn k (.BinOp a .Mod b pos) (eBin dMod f g) :=
  se_bin (r := fun _ => rI (fun _ j => j ≠ 0) fun i j => .int (i.fmod j)) (fun X => op_modN) (fun K => rd_I fun i j h => by simpa using h) ha hb
def dPow : Dt → Dt → Option Dt := dI (fun i j => decide (0 ≤ j) && okI j && decide (i.natAbs < 2 ^ 64)) fun i j => i ^ j.toNat
theorem se_pow (ha : SE G N sc fn k a f) (hb : SE G N sc fn k b g) : SE G N sc fn k (.BinOp a .Pow b pos) (eBin dPow f g) :=
  se_bin (r := fun _ => rI CPow fun i j => .int (i ^ j.toNat)) (fun X => op_pow) (fun K => rd_I fun i j h => by
    rw [Bool.and_eq_true, Bool.and_eq_true, decide_eq_true_eq, decide_eq_true_eq, okI_iff] at h
    unfold CPow
    exact ⟨h.1.1, h.1.2.1, h.2⟩) ha hb
def eUn (op : Dt → Option Dt) (f : EF) : EF := fun _ ρ => bnd (f true ρ) fun x => (op x).map .val
def dNeg : Dt → Option Dt
  | .int i => some (.int (-i))
  | _ => none
theorem se_neg (ha : SE G N sc fn k a f) : SE G N sc fn k (.UnaryOp .USub a pos) (eUn dNeg f) := fun X C W tk b => PE.imp (pe_un un_neg (ha X C W tk true)) fun σ H Q h => by
  obtain ⟨ρ, ow, rs, he, gd, post⟩ := h
  refine tE.go gd he (fun n pl e => by subst e; exact post) fun d hd1 v H1 s1 r1 => ?_
  unfold dNeg at hd1
  split at hd1
  · cases hd1
    obtain rfl := r1.int
    exact ⟨_, rfl, post _ H1 s1 (.inl (.int _))⟩
  · cases hd1
end
end PT

namespace PT
open PySem PySem.Spec PyProof.Rows L2

/-! ## comparisons -/
def dep (d : Dt) : Bool := decide (d.depth ≤ 60)
def dEq (x y : Dt) : Option Dt := if x.plain && y.plain && (dep x || dep y) then some (.bool (PyData.eqv x y)) else none
def dNe (x y : Dt) : Option Dt := if x.plain && y.plain && (dep x || dep y) then some (.bool (!PyData.eqv x y)) else none
def rEqP (K : PySem.W.Frag) : R2 := fun x y H Q => ∃ d e, Dp K H x d ∧ Dp K H y e ∧ d.plain = true ∧ e.plain = true ∧ (d.depth ≤ 60 ∨ e.depth ≤ 60) ∧ Q (.bl (PyData.eqv d e)) H
def rNeP (K : PySem.W.Frag) : R2 := fun x y H Q => ∃ d e, Dp K H x d ∧ Dp K H y e ∧ d.plain = true ∧ e.plain = true ∧ (d.depth ≤ 60 ∨ e.depth ≤ 60) ∧ Q (.bl (!PyData.eqv d e)) H
theorem op_eqP {X : Cx} (hu : X.A.units + 64 < cLine) : OpR X (compareOp .Eq) (rEqP X.K) := by
  intro pins s σ H x y v u Q I rx ry h
  obtain ⟨d, e, hd, he, sd, se, hm, q⟩ := h
  obtain ⟨as, r1⟩ := Dp.reads I d x v hd rx
  obtain ⟨bs, r2⟩ := Dp.reads I e y u he ry
  exact SeqAt.eq_plain r1 r2 sd se (by omega) ⟨.bl _, H, I, rfl, q⟩
theorem op_neP {X : Cx} (hu : X.A.units + 64 < cLine) : OpR X (compareOp .NotEq) (rNeP X.K) := by
  intro pins s σ H x y v u Q I rx ry h
  obtain ⟨d, e, hd, he, sd, se, hm, q⟩ := h
  obtain ⟨as, r1⟩ := Dp.reads I d x v hd rx
  obtain ⟨bs, r2⟩ := Dp.reads I e y u he ry
  exact SeqAt.ne_plain r1 r2 sd se (by omega) ⟨.bl _, H, I, rfl, q⟩
theorem rd_eq (K : PySem.W.Frag) : RD K (rEqP K) dEq := by
  intro x y H Q ow dx dy dz ok rx ry e post
  unfold dEq at e
  split at e
  · rename_i hc
    cases e
    simp only [Bool.and_eq_true, Bool.or_eq_true, dep, decide_eq_true_eq] at hc
    exact ⟨dx, dy, rx.dp hc.1.1, ry.dp hc.1.2, hc.1.1, hc.1.2, hc.2, post _ H (Same.refl H) (.bl _)⟩
  · cases e
theorem rd_ne (K : PySem.W.Frag) : RD K (rNeP K) dNe := by
  intro x y H Q ow dx dy dz ok rx ry e post
  unfold dNe at e
  split at e
  · rename_i hc
    cases e
    simp only [Bool.and_eq_true, Bool.or_eq_true, dep, decide_eq_true_eq] at hc
    exact ⟨dx, dy, rx.dp hc.1.1, ry.dp hc.1.2, hc.1.1, hc.1.2, hc.2, post _ H (Same.refl H) (.bl _)⟩
  · cases e
def dCmp (p : Int → Int → Bool) : Dt → Dt → Option Dt
  | .int i, .int j => some (.bool (p i j))
  | _, _ => none
theorem rd_cmp {K : PySem.W.Frag} {p : Int → Int → Bool} : RD K (rI0 fun i j => .bl (p i j)) (dCmp p) := by
  intro x y H Q ow dx dy dz ok rx ry e post
  unfold dCmp at e
  split at e
  · cases e
    obtain rfl := rx.int
    obtain rfl := ry.int
    exact ⟨_, _, rfl, rfl, post _ H (Same.refl H) (.bl _)⟩
  · cases e
abbrev dLt := dCmp fun i j => decide (i < j)
abbrev dLe := dCmp fun i j => decide (i ≤ j)
abbrev dGt := dCmp fun i j => decide (j < i)
abbrev dGe := dCmp fun i j => decide (j ≤ i)
def isN : Dt → Bool
  | .none => true
  | _ => false
def dIsN : Dt → Dt → Option Dt
  | x, .none => some (.bool (isN x))
  | _, _ => none
def dNotN : Dt → Dt → Option Dt
  | x, .none => some (.bool (!isN x))
  | _, _ => none
theorem RpB.isN {b : Bool} {K : PySem.W.Frag} {ow : Ow} {H : Hp} {v : V} {d : Dt} (h : RpB b K ow H v d) : decide (v = .non) = isN d := by
  cases d with
  | none => rw [h.none]; rfl
  | bool b => rw [h.bool]; rfl
  | int b => rw [h.int]; rfl
  | str b => rw [h.str]; rfl
  | list b => obtain ⟨a, vs, rfl, _⟩ := h.list; rfl
  | tuple b => obtain ⟨a, vs, rfl, _⟩ := h.tuple; rfl
  | dict b => rcases h.script with ⟨a, ns, rfl, _⟩ | ⟨a, d, rfl, _⟩ <;> rfl
theorem rd_isN (K : PySem.W.Frag) : RD K (fun x y H Q => y = .non ∧ Q (.bl (decide (x = .non))) H) dIsN := by
  intro x y H Q ow dx dy dz ok rx ry e post
  unfold dIsN at e
  split at e
  · cases e
    refine ⟨ry.none, ?_⟩
    rw [rx.isN]
    exact post _ H (Same.refl H) (.bl _)
  · cases e
theorem rd_notN (K : PySem.W.Frag) : RD K (fun x y H Q => y = .non ∧ Q (.bl (!decide (x = .non))) H) dNotN := by
  intro x y H Q ow dx dy dz ok rx ry e post
  unfold dNotN at e
  split at e
  · cases e
    refine ⟨ry.none, ?_⟩
    rw [rx.isN]
    exact post _ H (Same.refl H) (.bl _)
  · cases e
/-! ### in, not in -/
def dIn : Dt → Dt → Option Dt
  | x, .list ys => if x.plain && PyData.plainAll ys && dep x then some (.bool (ys.any fun y => PyData.eqv y x)) else none
  | x, .tuple ys => if x.plain && PyData.plainAll ys && dep x then some (.bool (ys.any fun y => PyData.eqv y x)) else none
  | .str i, .str j => some (.bool (!(Builtin.Str.occurrences j i 0 j.length 1).isEmpty))
  | _, _ => none
def dNotIn : Dt → Dt → Option Dt
  | x, .list ys => if x.plain && PyData.plainAll ys && dep x then some (.bool (!ys.any fun y => PyData.eqv y x)) else none
  | x, .tuple ys => if x.plain && PyData.plainAll ys && dep x then some (.bool (!ys.any fun y => PyData.eqv y x)) else none
  | .str i, .str j => some (.bool (!(!(Builtin.Str.occurrences j i 0 j.length 1).isEmpty)))
  | _, _ => none
def rInD (K : PySem.W.Frag) (neg : Bool) : R2 := fun x y H Q => ∃ d ds, Dp K H x d ∧ (Dp K H y (.list ds) ∨ Dp K H y (.tuple ds)) ∧ d.plain = true ∧ PyData.plainAll ds = true ∧ d.depth ≤ 60 ∧
  Q (.bl (if neg then !ds.any fun y => PyData.eqv y d else ds.any fun y => PyData.eqv y d)) H
theorem op_inD {X : Cx} (hu : X.A.units + 64 < cLine) : OpR X (compareOp .In) (rInD X.K false) := by
  intro pins s σ H x y v u Q I rx ry h
  obtain ⟨d, ds, hd, he, sd, se, hm, q⟩ := h
  obtain ⟨as, r1⟩ := Dp.reads I d x v hd rx
  rcases he with he | he
  · obtain ⟨bs, r2⟩ := Dp.reads I _ y u he ry
    exact SeqAt.in_list_data r2 r1 se sd (by omega) ⟨.bl _, H, I, rfl, q⟩
  · obtain ⟨bs, r2⟩ := Dp.reads I _ y u he ry
    exact SeqAt.in_tuple_data r2 r1 se sd (by omega) ⟨.bl _, H, I, rfl, q⟩
theorem op_notInD {X : Cx} (hu : X.A.units + 64 < cLine) : OpR X (compareOp .NotIn) (rInD X.K true) := by
  intro pins s σ H x y v u Q I rx ry h
  obtain ⟨d, ds, hd, he, sd, se, hm, q⟩ := h
  obtain ⟨as, r1⟩ := Dp.reads I d x v hd rx
  rcases he with he | he
  · obtain ⟨bs, r2⟩ := Dp.reads I _ y u he ry
    exact SeqAt.notIn_list_data r2 r1 se sd (by omega) ⟨.bl _, H, I, rfl, q⟩
  · obtain ⟨bs, r2⟩ := Dp.reads I _ y u he ry
    exact SeqAt.notIn_tuple_data r2 r1 se sd (by omega) ⟨.bl _, H, I, rfl, q⟩
def rInA (K : PySem.W.Frag) : R2 := fun x y H Q => rInD K false x y H Q ∨ (∃ i j, x = .str i ∧ y = .str j ∧ Q (.bl (!(Builtin.Str.occurrences j i 0 j.length 1).isEmpty)) H)
def rNotInA (K : PySem.W.Frag) : R2 := fun x y H Q => rInD K true x y H Q ∨ (∃ i j, x = .str i ∧ y = .str j ∧ Q (.bl (!(!(Builtin.Str.occurrences j i 0 j.length 1).isEmpty))) H)
theorem rd_in (K : PySem.W.Frag) : RD K (rInA K) dIn := by
  intro x y H Q ow dx dy dz ok rx ry e post
  unfold dIn at e
  split at e
  · split at e
    · rename_i hc
      cases e
      simp only [Bool.and_eq_true, dep, decide_eq_true_eq] at hc
      exact .inl ⟨_, _, rx.dp hc.1.1, .inl (ry.dp hc.1.2), hc.1.1, hc.1.2, hc.2, post _ H (Same.refl H) (.bl _)⟩
    · cases e
  · split at e
    · rename_i hc
      cases e
      simp only [Bool.and_eq_true, dep, decide_eq_true_eq] at hc
      exact .inl ⟨_, _, rx.dp hc.1.1, .inr (ry.dp hc.1.2), hc.1.1, hc.1.2, hc.2, post _ H (Same.refl H) (.bl _)⟩
    · cases e
  · cases e
    exact .inr ⟨_, _, rx.str, ry.str, post _ H (Same.refl H) (.bl _)⟩
  · cases e
theorem rd_notIn (K : PySem.W.Frag) : RD K (rNotInA K) dNotIn := by
  intro x y H Q ow dx dy dz ok rx ry e post
  unfold dNotIn at e
  split at e
  · split at e
    · rename_i hc
      cases e
      simp only [Bool.and_eq_true, dep, decide_eq_true_eq] at hc
      exact .inl ⟨_, _, rx.dp hc.1.1, .inl (ry.dp hc.1.2), hc.1.1, hc.1.2, hc.2, post _ H (Same.refl H) (.bl _)⟩
    · cases e
  · split at e
    · rename_i hc
      cases e
      simp only [Bool.and_eq_true, dep, decide_eq_true_eq] at hc
      exact .inl ⟨_, _, rx.dp hc.1.1, .inr (ry.dp hc.1.2), hc.1.1, hc.1.2, hc.2, post _ H (Same.refl H) (.bl _)⟩
    · cases e
  · cases e
    exact .inr ⟨_, _, rx.str, ry.str, post _ H (Same.refl H) (.bl _)⟩
  · cases e

/-! ## tests -/
def tru : Dt → Option Bool
  | .none => some false
  | .bool b => some b
  | .int i => some (i != 0)
  | .str s => if s.length ≤ lim then some ((s.length : Int) != 0) else none
  | .list xs => some (!xs.isEmpty)
  | .tuple xs => some (!xs.isEmpty)
  | .dict _ => none
def tT (K : PySem.W.Frag) (mg : Str → Option Value) (W : WX) (f : EF) : TT := fun σ H Q =>
  ∃ ρ ow r, f true ρ = some r ∧ Good K ow ρ σ H ∧ match r with
    | .val d => ∃ c, tru d = some c ∧ ∀ H', Same H H' → Q c H'
    | .exc n pl => ExP K mg W σ H n pl
def ST (G : Gc) (N : List Str) (sc : Scope) (fn : Str → Bool) (k : Nat) (e : Expr) (f : EF) : Prop :=
  ∀ X, Ctx G N sc fn k X → ∀ W, Takes X W → PT X e (tT X.K X.mg W f)
theorem isEmptyA {K : PySem.W.Frag} {O : Addr → Prop} {H : Hp} {vs : List V} {ds : List Dt} (r : RpAll K O H vs ds) : (!vs.isEmpty) = !ds.isEmpty := by
  cases r <;> rfl
theorem RpB.tru {b : Bool} {K : PySem.W.Frag} {ow : Ow} {H : Hp} {v : V} {d : Dt} {c : Bool} (h : RpB b K ow H v d) (e : tru d = some c) : TruV K v H c := by
  cases d with
  | none => rw [h.none]; cases e; rfl
  | bool b => rw [h.bool]; cases e; rfl
  | int b => rw [h.int]; cases e; rfl
  | str b =>
    rw [h.str]
    simp only [PT.tru] at e
    split at e
    · rename_i hz; cases e; exact ⟨lim_le hz, rfl⟩
    · cases e
  | list b => obtain ⟨a, vs, rfl, h1, r⟩ := h.list; cases e; exact .inl ⟨vs, SqL.of h1, (isEmptyA r).symm⟩
  | tuple b => obtain ⟨a, vs, rfl, h1, r⟩ := h.tuple; cases e; exact .inr (.inl ⟨vs, h1.sq, (isEmptyA r).symm⟩)
  | dict b => cases e
theorem tT.go {K : PySem.W.Frag} {mg : Str → Option Value} {W : WX} {f : EF} {ρ : En} {ow : Ow} {σ : L2.St} {H : Hp} {Q : Bool → Hp → Prop} {k : Dt → Option Rs} {r : Rs} (g : Good K ow ρ σ H)
    (e : bnd (f true ρ) k = some r)
    (hx : ∀ n pl, r = .exc n pl → ExP K mg W σ H n pl)
    (hv : ∀ d, k d = some r → ∃ c, tru d = some c ∧ ∀ H', Same H H' → Q c H') : tT K mg W f σ H Q := by
  cases h : f true ρ with
  | none => rw [h] at e; cases e
  | some q =>
    rw [h] at e
    cases q with
    | val d => exact ⟨ρ, ow, .val d, h, g, hv d e⟩
    | exc n pl => exact ⟨ρ, ow, .exc n pl, h, g, hx n pl (Option.some.inj e).symm⟩

section
variable {G : Gc} {N : List Str} {sc : Scope} {fn : Str → Bool} {k : Nat} {pos : Pos} {a b c : Expr} {f g h : EF}
/-- any expression whose test is its value's truth -/
theorem st_val (ha : SE G N sc fn k a f) (he : ∀ env whole, isTrue a env whole = (do let v ← whole; standAt a.pos; holding [v] (truthy v)) := by intros; rfl) : ST G N sc fn k a f := fun X C W tk =>
  PT.imp (pt_truth (ha X C W tk true) (he X.env)) fun σ H Q h => by
    obtain ⟨ρ, ow, r, he, gd, post⟩ := h
    refine ⟨ρ, ow, r, he, gd, ?_⟩
    cases r with
    | exc n pl => exact post
    | val d =>
      obtain ⟨c, hc, q⟩ := post
      exact fun v H' s' r' => ⟨c, r'.tru hc, q H' s'⟩
theorem tB_of {K : PySem.W.Frag} {mg : Str → Option Value} {W : WX} {op : Dt → Dt → Option Dt} {f g : EF} {r : R2} {σ : L2.St} {H : Hp} {Q : Bool → Hp → Prop} (hd : RD K r op) (hbl : ∀ x y z, op x y = some z → ∃ c, z = .bool c)
    (h : tT K mg W (eBin op f g) σ H Q) : tTest (tOp r (tE K mg W true f) (tE K mg W true g)) σ H Q := by
  obtain ⟨ρ, ow, rs, he, gd, post⟩ := h
  refine tOp_of (b := true) hd ⟨ρ, ow, rs, he, gd, ?_⟩
  cases rs with
  | exc n pl => exact post
  | val d =>
    obtain ⟨c, hc, q⟩ := post
    obtain ⟨c', rfl⟩ : ∃ c, d = .bool c := by
      unfold eBin at he
      cases h1 : f true ρ with
      | none => rw [h1] at he; cases he
      | some r1 =>
        cases r1 with
        | exc n pl => rw [h1] at he; cases he
        | val x =>
          cases h2 : g true ρ with
          | none => rw [h1, h2] at he; cases he
          | some r2 =>
            cases r2 with
            | exc n pl => rw [h1, h2] at he; cases he
            | val y =>
              rw [h1, h2] at he
              cases hz : op x y with
              | none => simp [bnd, hz] at he
              | some z =>
                simp [bnd, hz] at he
                subst he
                exact hbl x y z hz
    cases hc
    exact fun v H' s' r' => ⟨_, r'.bool, q H' s'⟩
/-- a comparison as a value, as a test -/
theorem se_cmp {op : CmpOp} {r : PySem.W.Frag → R2} {dop : Dt → Dt → Option Dt} (ho : ∀ X : Cx, X.A.units + 64 < cLine → OpR X (compareOp op) (r X.K)) (hd : ∀ K, RD K (r K) dop) (ha : SE G N sc fn k a f) (hb : SE G N sc fn k b g)
    (hm : behindInMarks op b = false) : SE G N sc fn k (.Compare a [op] [b] pos) (eBin dop f g) := fun X C W tk b' => PE.imp (pe_cmpR (ho X C.room.units) (ha X C W tk true) (hb X C W tk true) hm) fun σ H Q h => tOp_of (hd X.K) h
theorem st_cmp {op : CmpOp} {r : PySem.W.Frag → R2} {dop : Dt → Dt → Option Dt} (ho : ∀ X : Cx, X.A.units + 64 < cLine → OpR X (compareOp op) (r X.K)) (hd : ∀ K, RD K (r K) dop) (hbl : ∀ x y z, dop x y = some z → ∃ c, z = .bool c) (ha : SE G N sc fn k a f) (hb : SE G N sc fn k b g)
    (hm : behindInMarks op b = false) : ST G N sc fn k (.Compare a [op] [b] pos) (eBin dop f g) := fun X C W tk => PT.imp (pt_cmpR (ho X C.room.units) (ha X C W tk true) (hb X C W tk true) hm) fun σ H Q h => tB_of (hd X.K) hbl h
theorem bl_cmp {p : Int → Int → Bool} : ∀ x y z, dCmp p x y = some z → ∃ c, z = .bool c := fun x y z e => by
  unfold dCmp at e
  split at e
  · cases e; exact ⟨_, rfl⟩
  · cases e
theorem bl_eq : ∀ x y z, dEq x y = some z → ∃ c, z = .bool c := fun x y z e => by
  unfold dEq at e
  split at e
  · cases e; exact ⟨_, rfl⟩
  · cases e
theorem bl_ne : ∀ x y z, dNe x y = some z → ∃ c, z = .bool c := fun x y z e => by
  unfold dNe at e
  split at e
  · cases e; exact ⟨_, rfl⟩
  · cases e
theorem bl_isN : ∀ x y z, dIsN x y = some z → ∃ c, z = .bool c := fun x y z e => by
  unfold dIsN at e
  split at e
  · cases e; exact ⟨_, rfl⟩
  · cases e
theorem bl_notN : ∀ x y z, dNotN x y = some z → ∃ c, z = .bool c := fun x y z e => by
  unfold dNotN at e
  split at e
  · cases e; exact ⟨_, rfl⟩
  · cases e
theorem bl_in : ∀ x y z, dIn x y = some z → ∃ c, z = .bool c := fun x y z e => by
  unfold dIn at e
  split at e
  · split at e
    · cases e; exact ⟨_, rfl⟩
    · cases e
  · split at e
    · cases e; exact ⟨_, rfl⟩
    · cases e
  · cases e; exact ⟨_, rfl⟩
  · cases e
theorem bl_notIn : ∀ x y z, dNotIn x y = some z → ∃ c, z = .bool c := fun x y z e => by
  unfold dNotIn at e
  split at e
  · split at e
    · cases e; exact ⟨_, rfl⟩
    · cases e
  · split at e
    · cases e; exact ⟨_, rfl⟩
    · cases e
  · cases e; exact ⟨_, rfl⟩
  · cases e
theorem se_eq (ha : SE G N sc fn k a f) (hb : SE G N sc fn k b g) : SE G N sc fn k (.Compare a [.Eq] [b] pos) (eBin dEq f g) := se_cmp (r := rEqP) (fun _ hu => op_eqP hu) rd_eq ha hb (nomark _)
theorem st_eq (ha : SE G N sc fn k a f) (hb : SE G N sc fn k b g) : ST G N sc fn k (.Compare a [.Eq] [b] pos) (eBin dEq f g) := st_cmp (r := rEqP) (fun _ hu => op_eqP hu) rd_eq bl_eq ha hb (nomark _)
theorem se_ne (ha : SE G N sc fn k a f) (hb : SE G N sc fn k b g) : SE G N sc fn k (.Compare a [.NotEq] [b] pos) (eBin dNe f g) := se_cmp (r := rNeP) (fun _ hu => op_neP hu) rd_ne ha hb (nomark _)
theorem st_ne (ha : SE G N sc fn k a f) (hb : SE G N sc fn k b g) : ST G N sc fn k (.Compare a [.NotEq] [b] pos) (eBin dNe f g) := st_cmp (r := rNeP) (fun _ hu => op_neP hu) rd_ne bl_ne ha hb (nomark _)
theorem se_lt (ha : SE G N sc fn k a f) (hb : SE G N sc fn k b g) : SE G N sc fn k (.Compare a [.Lt] [b] pos) (eBin dLt f g) := se_cmp (r := fun _ => _) (fun _ hu => op_lt) (fun _ => rd_cmp) ha hb (nomark _)
theorem st_lt (ha : SE G N sc fn k a f) (hb : SE G N sc fn k b g) : ST G N sc fn k (.Compare a [.Lt] [b] pos) (eBin dLt f g) := st_cmp (r := fun _ => _) (fun _ hu => op_lt) (fun _ => rd_cmp) bl_cmp ha hb (nomark _)
theorem se_le (ha : SE G N sc fn k a f) (hb : SE G N sc fn k b g) : SE G N sc fn k (.Compare a [.LtE] [b] pos) (eBin dLe f g) := se_cmp (r := fun _ => _) (fun _ hu => op_le) (fun _ => rd_cmp) ha hb (nomark _)
theorem st_le (ha : SE G N sc fn k a f) (hb : SE G N sc fn k b g) : ST G N sc fn k (.Compare a [.LtE] [b] pos) (eBin dLe f g) := st_cmp (r := fun _ => _) (fun _ hu => op_le) (fun _ => rd_cmp) bl_cmp ha hb (nomark _)
theorem se_gt (ha : SE G N sc fn k a f) (hb : SE G N sc fn k b g) : SE G N sc fn k (.Compare a [.Gt] [b] pos) (eBin dGt f g) := se_cmp (r := fun _ => _) (fun _ hu => op_gt) (fun _ => rd_cmp) ha hb (nomark _)
theorem st_gt (ha : SE G N sc fn k a f) (hb : SE G N sc fn k b g) : ST G N sc fn k (.Compare a [.Gt] [b] pos) (eBin dGt f g) := st_cmp (r := fun _ => _) (fun _ hu => op_gt) (fun _ => rd_cmp) bl_cmp ha hb (nomark _)
theorem se_ge (ha : SE G N sc fn k a f) (hb : SE G N sc fn k b g) : SE G N sc fn k (.Compare a [.GtE] [b] pos) (eBin dGe f g) := se_cmp (r := fun _ => _) (fun _ hu => op_ge) (fun _ => rd_cmp) ha hb (nomark _)
theorem st_ge (ha : SE G N sc fn k a f) (hb : SE G N sc fn k b g) : ST G N sc fn k (.Compare a [.GtE] [b] pos) (eBin dGe f g) := st_cmp (r := fun _ => _) (fun _ hu => op_ge) (fun _ => rd_cmp) bl_cmp ha hb (nomark _)
theorem se_isN (ha : SE G N sc fn k a f) (hb : SE G N sc fn k b g) : SE G N sc fn k (.Compare a [.Is] [b] pos) (eBin dIsN f g) := se_cmp (r := fun _ => _) (fun _ hu => op_isN) rd_isN ha hb (nomark _)
theorem st_isN (ha : SE G N sc fn k a f) (hb : SE G N sc fn k b g) : ST G N sc fn k (.Compare a [.Is] [b] pos) (eBin dIsN f g) := st_cmp (r := fun _ => _) (fun _ hu => op_isN) rd_isN bl_isN ha hb (nomark _)
theorem se_notN (ha : SE G N sc fn k a f) (hb : SE G N sc fn k b g) : SE G N sc fn k (.Compare a [.IsNot] [b] pos) (eBin dNotN f g) := se_cmp (r := fun _ => _) (fun _ hu => op_notN) rd_notN ha hb (nomark _)
theorem st_notN (ha : SE G N sc fn k a f) (hb : SE G N sc fn k b g) : ST G N sc fn k (.Compare a [.IsNot] [b] pos) (eBin dNotN f g) := st_cmp (r := fun _ => _) (fun _ hu => op_notN) rd_notN bl_notN ha hb (nomark _)
theorem se_in (ha : SE G N sc fn k a f) (hb : SE G N sc fn k b g) (hm : behindInMarks .In b = false := by rfl) : SE G N sc fn k (.Compare a [.In] [b] pos) (eBin dIn f g) := se_cmp (r := rInA) (fun _ hu => (op_inD hu).or op_in_str) rd_in ha hb hm
theorem st_in (ha : SE G N sc fn k a f) (hb : SE G N sc fn k b g) (hm : behindInMarks .In b = false := by rfl) : ST G N sc fn k (.Compare a [.In] [b] pos) (eBin dIn f g) := st_cmp (r := rInA) (fun _ hu => (op_inD hu).or op_in_str) rd_in bl_in ha hb hm
theorem se_notIn (ha : SE G N sc fn k a f) (hb : SE G N sc fn k b g) (hm : behindInMarks .NotIn b = false := by rfl) : SE G N sc fn k (.Compare a [.NotIn] [b] pos) (eBin dNotIn f g) := se_cmp (r := rNotInA) (fun _ hu => (op_notInD hu).or op_notin_str) rd_notIn ha hb hm
theorem st_notIn (ha : SE G N sc fn k a f) (hb : SE G N sc fn k b g) (hm : behindInMarks .NotIn b = false := by rfl) : ST G N sc fn k (.Compare a [.NotIn] [b] pos) (eBin dNotIn f g) := st_cmp (r := rNotInA) (fun _ hu => (op_notInD hu).or op_notin_str) rd_notIn bl_notIn ha hb hm
/-! ### a <= b <= c (ints) -/
def eChain (f g h : EF) : EF := fun _ ρ => bnd (f true ρ) fun x => bnd (g true ρ) fun y => match x, y with
  | .int i, .int j => if i ≤ j then bnd (h true ρ) fun z => (match z with | .int l => some (.val (.bool (decide (j ≤ l)))) | _ => none) else some (.val (.bool false))
  | _, _ => none
theorem tChain_of {K : PySem.W.Frag} {mg : Str → Option Value} {W : WX} {b : Bool} {f g h : EF} {σ : L2.St} {H : Hp} {Q : VK} (hh : tE K mg W b (eChain f g h) σ H Q) :
    tChain (rI0 fun i j => .bl (decide (i ≤ j))) (rI0 fun i j => .bl (decide (i ≤ j))) (tE K mg W true f) (tE K mg W true g) (tE K mg W true h) σ H Q := by
  obtain ⟨ρ, ow, rs, he, gd, post⟩ := hh
  refine tE.go gd he (fun n pl e => by subst e; exact post) fun d hd1 v H1 s1 r1 => ?_
  refine tE.go (gd.same s1) hd1 (fun n pl e => by subst e; exact post.same s1) fun d2 hd2 v2 H2 s2 r2 => ?_
  split at hd2
  · rename_i i j
    obtain rfl := r1.int
    obtain rfl := r2.int
    refine ⟨i, j, rfl, rfl, decide (i ≤ j), rfl, ?_⟩
    by_cases hij : i ≤ j
    · rw [if_pos (decide_eq_true hij)]
      rw [if_pos hij] at hd2
      refine tE.go (gd.same (s1.trans s2)) hd2 (fun n pl e => by subst e; exact post.same (s1.trans s2)) fun d3 hd3 v3 H3 s3 r3 => ?_
      split at hd3
      · cases hd3
        obtain rfl := r3.int
        exact ⟨j, _, rfl, rfl, post _ H3 ((s1.trans s2).trans s3) (.inl (.bl _))⟩
      · cases hd3
    · rw [if_neg (by rw [decide_eq_false hij]; decide)]
      rw [if_neg hij] at hd2
      cases hd2
      exact post _ H2 (s1.trans s2) (.inl (.bl _))
  · cases hd2
theorem chain_bl {f g h : EF} {b : Bool} {ρ : En} {d : Dt} (he : eChain f g h b ρ = some (.val d)) : ∃ c, d = .bool c := by
  unfold eChain at he
  cases h1 : f true ρ with
  | none => rw [h1] at he; cases he
  | some r1 =>
    cases r1 with
    | exc n pl => rw [h1] at he; cases he
    | val x =>
      rw [h1] at he
      cases h2 : g true ρ with
      | none => rw [h2] at he; cases he
      | some r2 =>
        cases r2 with
        | exc n pl => rw [h2] at he; cases he
        | val y =>
          rw [h2] at he
          simp only [bnd] at he
          split at he
          · split at he
            · cases h3 : h true ρ with
              | none => rw [h3] at he; cases he
              | some r3 =>
                cases r3 with
                | exc n pl => rw [h3] at he; cases he
                | val z =>
                  rw [h3] at he
                  simp only at he
                  split at he
                  · cases he; exact ⟨_, rfl⟩
                  · cases he
            · cases he; exact ⟨_, rfl⟩
          · cases he
theorem se_chain (ha : SE G N sc fn k a f) (hb : SE G N sc fn k b g) (hc : SE G N sc fn k c h) (hm : lastMarks [.LtE, .LtE] [b, c] = false := by with_unfolding_all rfl) : SE G N sc fn k (.Compare a [.LtE, .LtE] [b, c] pos) (eChain f g h) := fun X C W tk b' =>
  PE.imp (pe_chain op_le op_le (ha X C W tk true) (hb X C W tk true) (hc X C W tk true) hm) fun σ H Q h => tChain_of h
theorem st_chain (ha : SE G N sc fn k a f) (hb : SE G N sc fn k b g) (hc : SE G N sc fn k c h) (hm : lastMarks [.LtE, .LtE] [b, c] = false := by with_unfolding_all rfl) : ST G N sc fn k (.Compare a [.LtE, .LtE] [b, c] pos) (eChain f g h) := fun X C W tk =>
  PT.imp (pt_chain op_le op_le (ha X C W tk true) (hb X C W tk true) (hc X C W tk true) hm) fun σ H Q hh => by
    obtain ⟨ρ, ow, rs, he, gd, post⟩ := hh
    refine tChain_of (b := true) ⟨ρ, ow, rs, he, gd, ?_⟩
    cases rs with
    | exc n pl => exact post
    | val d =>
      obtain ⟨c, hc, q⟩ := post
      obtain ⟨c', rfl⟩ := chain_bl he
      cases hc
      exact fun v H' s' r' => ⟨_, r'.bool, q H' s'⟩
/-! ### and, or, not, if-else -/
def eAnd (f g : EF) : EF := fun b ρ => bnd (f true ρ) fun x => match x with
  | .bool true => g b ρ
  | .bool false => some (.val (.bool false))
  | _ => none
def eOr (f g : EF) : EF := fun b ρ => bnd (f true ρ) fun x => match x with
  | .bool true => some (.val (.bool true))
  | .bool false => g b ρ
  | _ => none
def eAndT (f g : EF) : EF := fun b ρ => bnd (f true ρ) fun x => match tru x with
  | some true => g b ρ
  | some false => some (.val (.bool false))
  | none => none
def eOrT (f g : EF) : EF := fun b ρ => bnd (f true ρ) fun x => match tru x with
  | some true => some (.val (.bool true))
  | some false => g b ρ
  | none => none
def eNot (f : EF) : EF := fun _ ρ => bnd (f true ρ) fun x => (tru x).map fun c => .val (.bool (!c))
def eIf (c f g : EF) : EF := fun b ρ => bnd (c true ρ) fun x => match tru x with
  | some true => f b ρ
  | some false => g b ρ
  | none => none
variable {rest : List Expr}
theorem se_one {op : BoolOp} (ha : SE G N sc fn k a f) : SE G N sc fn k (.BoolOp op [a] pos) f := fun X C W tk b' => pe_one (ha X C W tk b')
theorem se_and (ha : SE G N sc fn k a f) (hb : SE G N sc fn k (.BoolOp .And (b :: rest) pos) g) : SE G N sc fn k (.BoolOp .And (a :: b :: rest) pos) (eAnd f g) := fun X C W tk b' =>
  PE.imp (pe_and (ha X C W tk true) (hb X C W tk b')) fun σ H Q h => by
    obtain ⟨ρ, ow, rs, he, gd, post⟩ := h
    refine tE.go gd he (fun n pl e => by subst e; exact post) fun d hd1 v H1 s1 r1 => ?_
    split at hd1
    · obtain rfl := r1.bool
      refine ⟨true, rfl, ?_⟩
      rw [if_pos rfl]
      refine ⟨ρ, ow, rs, hd1, gd.same s1, ?_⟩
      cases rs with
      | val d => exact fun v' H' s' r' => post v' H' (s1.trans s') r'
      | exc n pl => exact post.same s1
    · obtain rfl := r1.bool
      cases hd1
      refine ⟨false, rfl, ?_⟩
      rw [if_neg Bool.false_ne_true]
      exact post _ H1 s1 (.inl (.bl _))
    · cases hd1
theorem se_or (ha : SE G N sc fn k a f) (hb : SE G N sc fn k (.BoolOp .Or (b :: rest) pos) g) : SE G N sc fn k (.BoolOp .Or (a :: b :: rest) pos) (eOr f g) := fun X C W tk b' =>
  PE.imp (pe_or (ha X C W tk true) (hb X C W tk b')) fun σ H Q h => by
    obtain ⟨ρ, ow, rs, he, gd, post⟩ := h
    refine tE.go gd he (fun n pl e => by subst e; exact post) fun d hd1 v H1 s1 r1 => ?_
    split at hd1
    · obtain rfl := r1.bool
      cases hd1
      refine ⟨true, rfl, ?_⟩
      rw [if_pos rfl]
      exact post _ H1 s1 (.inl (.bl _))
    · obtain rfl := r1.bool
      refine ⟨false, rfl, ?_⟩
      rw [if_neg Bool.false_ne_true]
      refine ⟨ρ, ow, rs, hd1, gd.same s1, ?_⟩
      cases rs with
      | val d => exact fun v' H' s' r' => post v' H' (s1.trans s') r'
      | exc n pl => exact post.same s1
    · cases hd1
theorem se_not (ha : SE G N sc fn k a f) : SE G N sc fn k (.UnaryOp .Not a pos) (eNot f) := fun X C W tk b' =>
  PE.imp (pe_notT (ha X C W tk true)) fun σ H Q h => by
    obtain ⟨ρ, ow, rs, he, gd, post⟩ := h
    refine tE.go gd he (fun n pl e => by subst e; exact post) fun d hd1 v H1 s1 r1 => ?_
    cases hc : tru d with
    | none => rw [hc] at hd1; cases hd1
    | some c =>
      rw [hc] at hd1
      cases hd1
      exact ⟨c, r1.tru hc, post _ H1 s1 (.inl (.bl _))⟩
theorem se_if (hc : ST G N sc fn k c h) (ha : SE G N sc fn k a f) (hb : SE G N sc fn k b g) : SE G N sc fn k (.IfExp c a b pos) (eIf h f g) := fun X C W tk b' =>
  PE.imp (pe_ifExp (hc X C W tk) (ha X C W tk b') (hb X C W tk b')) fun σ H Q h => by
    obtain ⟨ρ, ow, rs, he, gd, post⟩ := h
    refine tT.go gd he (fun n pl e => by subst e; exact post) fun d hd1 => ?_
    split at hd1
    · rename_i hc
      refine ⟨true, hc, fun H1 s1 => ?_⟩
      rw [if_pos rfl]
      refine ⟨ρ, ow, rs, hd1, gd.same s1, ?_⟩
      cases rs with
      | val d => exact fun v' H' s' r' => post v' H' (s1.trans s') r'
      | exc n pl => exact post.same s1
    · rename_i hc
      refine ⟨false, hc, fun H1 s1 => ?_⟩
      rw [if_neg Bool.false_ne_true]
      refine ⟨ρ, ow, rs, hd1, gd.same s1, ?_⟩
      cases rs with
      | val d => exact fun v' H' s' r' => post v' H' (s1.trans s') r'
      | exc n pl => exact post.same s1
    · cases hd1
/-! as tests -/
def SW (G : Gc) (N : List Str) (sc : Scope) (fn : Str → Bool) (k : Nat) (e : Expr) (f : EF) : Prop :=
  ∀ X, Ctx G N sc fn k X → ∀ W, Takes X W → PW X e (tT X.K X.mg W f)
theorem PW.imp {X : Cx} {e : Expr} {t t' : TT} (h : PW X e t) (i : ∀ σ H Q, t' σ H Q → t σ H Q) : PW X e t' := ⟨fun wh pins s σ H Q I q => h.run wh pins s σ H Q I (i σ H Q q)⟩
theorem st_w {e : Expr} (h : SW G N sc fn k e f) : ST G N sc fn k e f := fun X C W tk => (h X C W tk).pt
theorem sw_and1 (ha : ST G N sc fn k a f) : SW G N sc fn k (.BoolOp .And [a] pos) f := fun X C W tk => pw_and1 (ha X C W tk)
theorem sw_or1 (ha : ST G N sc fn k a f) : SW G N sc fn k (.BoolOp .Or [a] pos) f := fun X C W tk => pw_or1 (ha X C W tk)
theorem sw_and (ha : ST G N sc fn k a f) (hb : SW G N sc fn k (.BoolOp .And (b :: rest) pos) g) : SW G N sc fn k (.BoolOp .And (a :: b :: rest) pos) (eAndT f g) := fun X C W tk =>
  PW.imp (pw_and (ha X C W tk) (hb X C W tk)) fun σ H Q h => by
    obtain ⟨ρ, ow, rs, he, gd, post⟩ := h
    refine tT.go gd he (fun n pl e => by subst e; exact post) fun d hd1 => ?_
    split at hd1
    · rename_i hc
      refine ⟨true, hc, fun H1 s1 => ?_⟩
      rw [if_pos rfl]
      refine ⟨ρ, ow, rs, hd1, gd.same s1, ?_⟩
      cases rs with
      | val d => obtain ⟨c, hc, q⟩ := post; exact ⟨c, hc, fun H' s' => q H' (s1.trans s')⟩
      | exc n pl => exact post.same s1
    · rename_i hc
      cases hd1
      obtain ⟨c, hc', q⟩ := post
      cases hc'
      exact ⟨false, hc, fun H1 s1 => by rw [if_neg Bool.false_ne_true]; exact q H1 s1⟩
    · cases hd1
theorem sw_or (ha : ST G N sc fn k a f) (hb : SW G N sc fn k (.BoolOp .Or (b :: rest) pos) g) : SW G N sc fn k (.BoolOp .Or (a :: b :: rest) pos) (eOrT f g) := fun X C W tk =>
  PW.imp (pw_or (ha X C W tk) (hb X C W tk)) fun σ H Q h => by
    obtain ⟨ρ, ow, rs, he, gd, post⟩ := h
    refine tT.go gd he (fun n pl e => by subst e; exact post) fun d hd1 => ?_
    split at hd1
    · rename_i hc
      cases hd1
      obtain ⟨c, hc', q⟩ := post
      cases hc'
      exact ⟨true, hc, fun H1 s1 => by rw [if_pos rfl]; exact q H1 s1⟩
    · rename_i hc
      refine ⟨false, hc, fun H1 s1 => ?_⟩
      rw [if_neg Bool.false_ne_true]
      refine ⟨ρ, ow, rs, hd1, gd.same s1, ?_⟩
      cases rs with
      | val d => obtain ⟨c, hc, q⟩ := post; exact ⟨c, hc, fun H' s' => q H' (s1.trans s')⟩
      | exc n pl => exact post.same s1
    · cases hd1
theorem st_not (ha : ST G N sc fn k a f) : ST G N sc fn k (.UnaryOp .Not a pos) (eNot f) := fun X C W tk =>
  PT.imp (pt_not (ha X C W tk)) fun σ H Q h => by
    obtain ⟨ρ, ow, rs, he, gd, post⟩ := h
    refine tT.go gd he (fun n pl e => by subst e; exact post) fun d hd1 => ?_
    cases hc : tru d with
    | none => rw [hc] at hd1; cases hd1
    | some c =>
      rw [hc] at hd1
      cases hd1
      obtain ⟨c', hc', q⟩ := post
      cases hc'
      exact ⟨c, rfl, fun H1 s1 => q H1 s1⟩
end
end PT

namespace PT
open PySem PySem.Spec PyProof.Rows L2

/-! ## argument lists, displays -/
inductive Rss where
  | vals (ds : List Dt)
  | exc (n : Str) (pl : Option Dt)
abbrev AF := En → Option Rss
def bndA (x : Option Rss) (k : List Dt → Option Rs) : Option Rs :=
  match x with
  | some (.vals d) => k d
  | some (.exc n pl) => some (.exc n pl)
  | none => none
def aNil : AF := fun _ => some (.vals [])
def aCons (f : EF) (g : AF) : AF := fun ρ => match f false ρ with
  | some (.val d) => (match g ρ with
    | some (.vals ds) => some (.vals (d :: ds))
    | y => y)
  | some (.exc n pl) => some (.exc n pl)
  | none => none
def tA (K : PySem.W.Frag) (mg : Str → Option Value) (W : WX) (f : AF) : TA := fun σ H Q =>
  ∃ ρ ow r, f ρ = some r ∧ Good K ow ρ σ H ∧ match r with
    | .vals ds => ∀ vs H', Same H H' → RpAll K (OA ow) H' vs ds → Q vs H'
    | .exc n pl => ExP K mg W σ H n pl
def SA (G : Gc) (N : List Str) (sc : Scope) (fn : Str → Bool) (k : Nat) (es : List Expr) (f : AF) : Prop :=
  ∀ X, Ctx G N sc fn k X → ∀ W, Takes X W → PA X es (tA X.K X.mg W f)
theorem tA.go {K : PySem.W.Frag} {mg : Str → Option Value} {W : WX} {f : AF} {ρ : En} {ow : Ow} {σ : L2.St} {H : Hp} {Q : List V → Hp → Prop} {k : List Dt → Option Rs} {r : Rs} (g : Good K ow ρ σ H)
    (e : bndA (f ρ) k = some r)
    (hx : ∀ n pl, r = .exc n pl → ExP K mg W σ H n pl)
    (hv : ∀ ds, k ds = some r → ∀ vs H', Same H H' → RpAll K (OA ow) H' vs ds → Q vs H') : tA K mg W f σ H Q := by
  cases h : f ρ with
  | none => rw [h] at e; cases e
  | some q =>
    rw [h] at e
    cases q with
    | vals d => exact ⟨ρ, ow, .vals d, h, g, fun v H' s q => hv d e v H' s q⟩
    | exc n pl => exact ⟨ρ, ow, .exc n pl, h, g, hx n pl (Option.some.inj e).symm⟩
abbrev GL (sc : Scope) (x : Str) : Prop := sc.names.lookup x = some .globalImplicit
abbrev NS (e : Expr) : Prop := ∀ (es : List Expr) (env : PySem.Env), starEach (e :: es) env = (false, eval e env) :: starEach es env
theorem noStar : ∀ (es : List Expr) (env : PySem.Env) (pos : Pos), (∀ e ∈ es, NS e) → (backTo pos (starEach es env)).any (·.1) = false
  | [], env, pos, _ => rfl
  | e :: es, env, pos, h => by
    rw [h e List.mem_cons_self es env]
    have ih := noStar es env pos fun x hx => h x (List.mem_cons_of_mem _ hx)
    simpa [backTo] using ih
structure SAs (G : Gc) (N : List Str) (sc : Scope) (fn : Str → Bool) (k : Nat) (es : List Expr) (f : AF) : Prop where
  pa : SA G N sc fn k es f
  ns : ∀ e ∈ es, NS e
section
variable {G : Gc} {N : List Str} {sc : Scope} {fn : Str → Bool} {k : Nat} {pos p p2 : Pos} {a b c : Expr} {f g h : EF} {es : List Expr} {ar : AF}
theorem sa_nil : SAs G N sc fn k [] aNil := ⟨fun X C W tk => PA.imp pa_nil fun σ H Q h => by
  obtain ⟨ρ, ow, rs, he, gd, post⟩ := h
  cases he
  exact post [] H (Same.refl H) .nil, fun _ z => nomatch z⟩
theorem sa_cons (ha : SE G N sc fn k a f) (hr : SAs G N sc fn k es ar) (ns : NS a := by intro _ _; rfl) : SAs G N sc fn k (a :: es) (aCons f ar) := ⟨fun X C W tk => PA.imp (pa_cons (ha X C W tk false) (hr.pa X C W tk) (ns es X.env)) fun σ H Q h => by
  obtain ⟨ρ, ow, rs, he, gd, post⟩ := h
  unfold aCons at he
  cases h1 : f false ρ with
  | none => rw [h1] at he; cases he
  | some r1 =>
    cases r1 with
    | exc n pl => rw [h1] at he; cases he; exact ⟨ρ, ow, _, h1, gd, post⟩
    | val d =>
      rw [h1] at he
      refine ⟨ρ, ow, _, h1, gd, fun v H1 s1 q1 => ?_⟩
      cases h2 : ar ρ with
      | none => rw [h2] at he; cases he
      | some r2 =>
        rw [h2] at he
        cases r2 with
        | exc n pl => cases he; exact ⟨ρ, ow, _, h2, gd.same s1, ExP.same post s1⟩
        | vals ds =>
          cases he
          exact ⟨ρ, ow, _, h2, gd.same s1, fun vs H2 s2 q2 => post _ H2 (s1.trans s2) (.cons (Rp.same s2 q1.rp) q2)⟩,
  fun e he => (List.mem_cons.mp he).elim (fun z => by rw [z]; exact ns) (hr.ns e)⟩
/-- one borrowed argument -/
def a1 (f : EF) : AF := fun ρ => match f true ρ with
  | some (.val d) => some (.vals [d])
  | some (.exc n pl) => some (.exc n pl)
  | none => none
def eTup (g : AF) : EF := fun _ ρ => bndA (g ρ) fun ds => if ds.length ≤ lim then some (.val (.tuple ds)) else none
def eLst (g : AF) : EF := fun _ ρ => bndA (g ρ) fun ds => if ds.length ≤ lim then some (.val (.list ds)) else none
def tTupF (t : TA) : TE := fun σ H Q => t σ H fun xs H1 => xs.length ≤ sizeLine ∧ ∀ p o, H1 p = none → o.dict = none → Q (.ref p) (upd H1 p (.frz o (.tup xs)))
theorem pe_tupF {X : Cx} {t : TA} {x1} (h : PA X es t) : PE X (.Tuple es x1 pos) (tTupF t) := by
  refine ⟨fun pins s σ H Q I hq => ?_⟩
  refine wpAny_Tuple_spliced (thn (h.run pos pins s σ H _ I hq) fun us s1 ⟨xs, H1, I1, r, z, q⟩ => ⟨by rw [← r.length]; exact z, ?_⟩)
  have hf : H1 s1.heap.objs.size = none := I1.hok.fresh (Nat.le_refl _)
  exact ⟨.ref s1.heap.objs.size, _, layT I1 r z s1.toks, rfl, q _ _ hf rfl⟩
theorem se_tup {x1 : Nat} (h : SAs G N sc fn k es ar) : SE G N sc fn k (.Tuple es x1 pos) (eTup ar) := fun X C W tk b' => PE.imp (pe_tupF (h.pa X C W tk)) fun σ H Q h => by
  obtain ⟨ρ, ow, rs, he, gd, post⟩ := h
  refine tA.go gd he (fun n pl e => by subst e; exact post) fun ds hd vs H1 s1 r1 => ?_
  split at hd
  · rename_i hz
    cases hd
    exact ⟨by rw [r1.length]; exact lim_le hz, fun p o hp ho => post _ _ (s1.trans (Same.upd hp)) (.inl (.tup ⟨o, upd_same, ho⟩ (RpAll.same (Same.upd hp) r1)))⟩
  · cases hd
theorem se_lst (h : SAs G N sc fn k es ar) : SE G N sc fn k (.List es pos) (eLst ar) := fun X C W tk b' => PE.imp (pe_lst (h.pa X C W tk)) fun σ H Q h => by
  obtain ⟨ρ, ow, rs, he, gd, post⟩ := h
  refine tA.go gd he (fun n pl e => by subst e; exact post) fun ds hd vs H1 s1 r1 => ?_
  split at hd
  · rename_i hz
    cases hd
    exact ⟨by rw [r1.length]; exact lim_le hz, fun p hp => post _ _ (s1.trans (Same.upd hp)) (.inl (.lst upd_same ((gd.ok.same s1).new hp) (RpAll.same (Same.upd hp) r1)))⟩
  · cases hd

/-! ## subscripts and slices -/
def dIx : Dt → Dt → Option Dt
  | .list xs, .int i => atI xs i
  | .tuple xs, .int i => atI xs i
  | .dict kv, .int i => match atI kv i with
    | some (.int j, _) => some (.int j)
    | _ => none
  | _, _ => none
theorem atI_some {α : Type} {xs : List α} {i : Int} {d : α} (h : atI xs i = some d) : ∃ j, ixN xs.length i = some j ∧ xs[j]? = some d := by
  unfold atI at h
  cases e : ixN xs.length i with
  | none => rw [e] at h; cases h
  | some j => rw [e] at h; exact ⟨j, rfl, h⟩
theorem atI_of {α : Type} {xs : List α} {i : Int} {j : Nat} {d : α} (h : ixN xs.length i = some j) (h2 : xs[j]? = some d) : atI xs i = some d := by
  unfold atI
  rw [h]
  exact h2
def rIxA (K : PySem.W.Frag) : R2 := fun x y H Q => rIxL K x y H Q ∨ rIxT K x y H Q
theorem rd_ix (K : PySem.W.Frag) : RD K (rIxA K) dIx := by
  intro x y H Q ow dx dy dz ok rx ry e post
  unfold dIx at e
  split at e
  · obtain ⟨a, vs, rfl, h1, r1⟩ := rx.list
    obtain rfl := ry.int
    obtain ⟨j, hj, hd⟩ := atI_some e
    obtain ⟨v, hv, rv⟩ := r1.get hd
    exact .inl ⟨a, vs, _, v, rfl, rfl, SqL.of h1, atI_of (by rw [r1.length]; exact hj) hv, post v H (Same.refl H) rv⟩
  · obtain ⟨a, vs, rfl, h1, r1⟩ := rx.tuple
    obtain rfl := ry.int
    obtain ⟨j, hj, hd⟩ := atI_some e
    obtain ⟨v, hv, rv⟩ := r1.get hd
    exact .inr ⟨a, vs, _, v, rfl, rfl, h1.sq, atI_of (by rw [r1.length]; exact hj) hv, post v H (Same.refl H) rv⟩
  · rename_i kv i
    split at e
    · rename_i j0 w0 e1
      cases e
      obtain ⟨j, hj, hd⟩ := atI_some e1
      obtain rfl := ry.int
      rcases rx.script with ⟨a, ns, rfl, rfl, h1⟩ | ⟨a, d, _, rfl, _⟩
      · rw [List.getElem?_map] at hd
        rw [List.length_map] at hj
        cases e2 : ns[j]? with
        | none => rw [e2] at hd; cases hd
        | some n =>
          rw [e2] at hd
          cases hd
          exact .inl ⟨a, ns.map V.int, _, .int _, rfl, rfl, h1.sq, atI_of (by rw [List.length_map]; exact hj) (by rw [List.getElem?_map, e2]; rfl), post _ H (Same.refl H) (.int _)⟩
      · cases j with
        | zero => cases hd
        | succ j => cases hd
    · cases e
  · cases e
theorem se_ix (ha : SE G N sc fn k a f) (hb : SE G N sc fn k b g) (hs : PlainIx b := by intro _ _; rfl) : SE G N sc fn k (.Subscript a b pos) (eBin dIx f g) := fun X C W tk b' =>
  PE.imp (pe_ix (ix_list.or ix_tup) (ha X C W tk true) (hb X C W tk true) hs) fun σ H Q h => tOp_of (rd_ix X.K) h
/-- a part of a slice -/
abbrev OF := En → Option (Option Int × Option Rs)
def oNo : En → Option (Option Int) := fun _ => some none
def oSo (f : EF) : En → Option (Option Int) := fun ρ => match f true ρ with
  | some (.val (.int i)) => some (some i)
  | _ => none
def tO (K : PySem.W.Frag) (f : En → Option (Option Int)) : TO := fun σ H Q => ∃ ρ ow o, f ρ = some o ∧ Good K ow ρ σ H ∧ ∀ H', Same H H' → Q o H'
def SO (G : Gc) (N : List Str) (sc : Scope) (fn : Str → Bool) (k : Nat) (e : Option Expr) (f : En → Option (Option Int)) : Prop :=
  ∀ X, Ctx G N sc fn k X → ∀ W, Takes X W → PO X e (tO X.K f)
theorem PO.imp {X : Cx} {e : Option Expr} {t t' : TO} (h : PO X e t) (i : ∀ σ H Q, t' σ H Q → t σ H Q) : PO X e t' := ⟨fun pins s σ H Q I q => h.run pins s σ H Q I (i σ H Q q)⟩
theorem so_none : SO G N sc fn k none oNo := fun X C W tk => PO.imp po_none fun σ H Q h => by
  obtain ⟨ρ, ow, o, he, gd, post⟩ := h
  cases he
  exact post H (Same.refl H)
theorem so_some (ha : SE G N sc fn k a f) : SO G N sc fn k (some a) (oSo f) := fun X C W tk => PO.imp (po_some (ha X C W tk true)) fun σ H Q h => by
  obtain ⟨ρ, ow, o, he, gd, post⟩ := h
  unfold oSo at he
  split at he
  · rename_i i hi
    cases he
    exact ⟨ρ, ow, _, hi, gd, fun v H' s' r' => ⟨i, r'.int, post H' s'⟩⟩
  · cases he
def cut {α : Type} (xs : List α) (lo hi : Option Int) : List α := (xs.drop (HT.sIx xs.length 0 lo)).take (HT.sIx xs.length xs.length hi - HT.sIx xs.length 0 lo)
def dSl : Dt → Option Int → Option Int → Option Dt
  | .list xs, lo, hi => some (.list (cut xs lo hi))
  | .tuple xs, lo, hi => some (.tuple (cut xs lo hi))
  | .str z, lo, hi => if z.length ≤ lim then some (.str (cutS z lo hi)) else none
  | _, _, _ => none
def eSl (f : EF) (lo hi : En → Option (Option Int)) : EF := fun _ ρ => bnd (f true ρ) fun x => match lo ρ, hi ρ with
  | some l, some u => (dSl x l u).map .val
  | _, _ => none
def rSlF (K : PySem.W.Frag) : V → Option Int → Option Int → Hp → VK → Prop := fun x lo hi H Q => ∃ a xs, x = .ref a ∧ SqT K H a xs ∧
  (HT.sIx xs.length 0 lo = 0 ∧ HT.sIx xs.length xs.length hi = xs.length → Q (.ref a) H) ∧ (¬ (HT.sIx xs.length 0 lo = 0 ∧ HT.sIx xs.length xs.length hi = xs.length) → ∀ p o, H p = none → o.dict = none → Q (.ref p) (upd H p (.frz o (.tup (cutV xs lo hi)))))
theorem sl_tupF {X : Cx} : SlR X (rSlF X.K) := by
  intro pins s σ H x v vl vu lo hi sl Q I rx hs pl pu h
  obtain ⟨a, xs, rfl, hx, q1, q2⟩ := h
  cases rx
  obtain ⟨its, r, ht, hz⟩ := I.tuple hx
  have hlen : its.toArray.size = xs.length := by rw [List.size_toArray]; exact r.length.symm
  refine ⟨"tuple", _, PyProof.Rows.slot_tuple_getitem.lookup, ht.typeIs, ?_⟩
  by_cases hw : HT.sIx xs.length 0 lo = 0 ∧ HT.sIx xs.length xs.length hi = xs.length
  · exact getItem_tuple_whole ht hs pl pu (by rw [hlen]; exact hw) ⟨.ref a, H, I, rfl, q1 hw⟩
  · refine HT.getItem_tuple_cut ht hs pl pu (by rw [hlen]; exact hw) ?_ (by rw [hlen]; exact hz)
    rw [hlen]
    exact ⟨.ref s.heap.objs.size, _, layT I ((r.drop (HT.sIx xs.length 0 lo)).take (HT.sIx xs.length xs.length hi - HT.sIx xs.length 0 lo)) (Nat.le_trans (cutV_length xs lo hi) hz) s.toks, rfl, q2 hw _ _ (I.hok.fresh (Nat.le_refl _)) rfl⟩
def rSlD (K : PySem.W.Frag) : V → Option Int → Option Int → Hp → VK → Prop := fun x lo hi H Q => rSlL K x lo hi H Q ∨ (rSlF K x lo hi H Q ∨ rSlS x lo hi H Q)
theorem RpAll.cut {K : PySem.W.Frag} {O : Addr → Prop} {H : Hp} {vs : List V} {ds : List Dt} (r : RpAll K O H vs ds) (lo hi : Option Int) : RpAll K O H (cutV vs lo hi) (PT.cut ds lo hi) := by
  unfold cutV PT.cut
  rw [r.length]
  exact (r.drop _).take _
theorem cut_all {α : Type} {xs : List α} {lo hi : Option Int} (h : HT.sIx xs.length 0 lo = 0 ∧ HT.sIx xs.length xs.length hi = xs.length) : cut xs lo hi = xs := by
  unfold cut
  rw [h.1, h.2]
  simp
theorem se_sl {lo hi : Option Expr} {ol oh : En → Option (Option Int)} (ha : SE G N sc fn k a f) (hl : SO G N sc fn k lo ol) (hh : SO G N sc fn k hi oh) : SE G N sc fn k (.Subscript a (.Slice lo hi none p2) pos) (eSl f ol oh) := fun X C W tk b' =>
  PE.imp (pe_slice (sl_list.or (sl_tupF.or sl_str)) (ha X C W tk true) (hl X C W tk) (hh X C W tk)) fun σ H Q h => by
    obtain ⟨ρ, ow, rs, he, gd, post⟩ := h
    refine tE.go gd he (fun n pl e => by subst e; exact post) fun d hd1 v H1 s1 r1 => ?_
    split at hd1
    · rename_i l u hl hu
      refine ⟨ρ, ow, l, hl, gd.same s1, fun H2 s2 => ⟨ρ, ow, u, hu, gd.same (s1.trans s2), fun H3 s3 => ?_⟩⟩
      have r3 := r1.same (s2.trans s3)
      have s13 := (s1.trans s2).trans s3
      have ok3 := gd.ok.same s13
      cases d with
      | list xs =>
        cases hd1
        obtain ⟨a, vs, rfl, h1, r⟩ := r3.list
        exact .inl ⟨a, vs, rfl, SqL.of h1, fun p hp => post _ _ (s13.trans (Same.upd hp)) (.inl (.lst upd_same (ok3.new hp) (RpAll.same (Same.upd hp) (r.cut l u))))⟩
      | tuple xs =>
        cases hd1
        obtain ⟨a, vs, rfl, h1, r⟩ := r3.tuple
        refine .inr (.inl ⟨a, vs, rfl, h1.sq, fun hw => ?_, fun hw p o hp ho => post _ _ (s13.trans (Same.upd hp)) (.inl (.tup ⟨o, upd_same, ho⟩ (RpAll.same (Same.upd hp) (r.cut l u))))⟩)
        rw [cut_all (by rw [← r.length]; exact hw)] at post
        exact post _ _ s13 (.inl (.tup h1 r))
      | str z =>
        simp only [dSl] at hd1
        split at hd1
        · rename_i hz
          cases hd1
          obtain rfl := r3.str
          exact .inr (.inr ⟨z, rfl, lim_le hz, post _ _ s13 (.inl (.str _))⟩)
        · cases hd1
      | none => cases hd1
      | bool _ => cases hd1
      | int _ => cases hd1
      | dict _ => cases hd1
    · cases hd1

/-! ## calls of built-ins -/
/-- what is known of the class Sheet -/
structure ShK (K : PySem.W.Frag) : Prop where
  cl : Cls K (He.ga K "Sheet")
  ha : PySem.W.findIn K (.ref (He.ga K "Sheet")) "__class__" = some (some (.builtin "object.__class__"))
  hn : PySem.W.specialIn K (.builtin "object.__class__") "__get__" = some (some (.builtin "getset_descriptor.__get__"))
  ht : PySem.W.takesIn K (.builtin "object.__class__") = some true
  hm : PySem.W.mroIn K (He.ga K "Sheet") (.type "object") = some true
  no : ∀ T ∈ ["int", "bool", "str", "tuple", "list"], PySem.W.kitOne K (.ref (He.ga K "Sheet")) (.type T) = some false
structure Bi (G : Gc) : Prop where
  len : G.mg "len" = none
  range : G.mg "range" = none
  isinstance : G.mg "isinstance" = none
  int : G.mg "int" = none
  bool : G.mg "bool" = none
  tuple : G.mg "tuple" = none
  list : G.mg "list" = none
  str : G.mg "str" = none
  set : G.mg "set" = none
  sorted : G.mg "sorted" = none
  max : G.mg "max" = none
  min : G.mg "min" = none
  zip : G.mg "zip" = none
  enumerate : G.mg "enumerate" = none
  reversed : G.mg "reversed" = none
  sht : ShK G.K
/-- a call's rule on one borrowed value -/
def CD1 (K : PySem.W.Frag) (r : List V → Hp → VK → Prop) (op : Dt → Option Dt) : Prop :=
  ∀ (x : V) (H : Hp) (Q : VK) (ow : Ow) (dx dz : Dt), OkO ow H → RpB true K ow H x dx → op dx = some dz → (∀ v H', Same H H' → Rp K (OA ow) H' v dz → Q v H') → r [x] H Q
theorem tCB_of {K : PySem.W.Frag} {mg : Str → Option Value} {W : WX} {b : Bool} {op : Dt → Option Dt} {f : EF} {r : List V → Hp → VK → Prop} {σ : L2.St} {H : Hp} {Q : VK} (hd : CD1 K r op)
    (h : tE K mg W b (eUn op f) σ H Q) : tCB r (tCons (tE K mg W true f) tNil) σ H Q := by
  obtain ⟨ρ, ow, rs, he, gd, post⟩ := h
  refine tE.go gd he (fun n pl e => by subst e; exact post) fun d hd1 v H1 s1 r1 => ?_
  cases hz : op d with
  | none => rw [hz] at hd1; cases hd1
  | some dz =>
    rw [hz] at hd1
    cases hd1
    exact hd v H1 Q ow d dz (gd.ok.same s1) r1 hz fun v' H' s' q => post v' H' (s1.trans s') (.inl q)
theorem Ctx.gl {X : Cx} (C : Ctx G N sc fn k X) {x : Str} (h : GL sc x) : Gl X x := by
  show X.env.scope.names.lookup x = _
  rw [C.hsc]; exact h
theorem se_b1 {x : Str} {id : String} {r : PySem.W.Frag → List V → Hp → VK → Prop} {op : Dt → Option Dt} (hc : ∀ X : Cx, X.calm = true → CallR X (.builtin id) (r X.K)) (hd : ∀ K, CD1 K (r K) op) (hm : G.mg x = none) (hv : bootBuiltins x = some (.builtin id)) (ha : SE G N sc fn k a f)
    (hg : GL sc x) (hn : x ≠ "__name__") (hdb : (x == ("__debug__" : Str)) = false) (ns : NS a) : SE G N sc fn k (.Call (.Name x p) [a] [] pos) (eUn op f) := fun X C W tk b' =>
  PE.imp (pe_callB (hc X C.calm) (C.gl hg) (by rw [C.hmg]; exact hm) hv (pa_cons (ha X C W tk true) pa_nil (ns [] X.env)) hn hdb (ns [] X.env) rfl) fun σ H Q h => tCB_of (hd X.K) h
theorem se_t1 {x : Str} {id : String} {r : PySem.W.Frag → List V → Hp → VK → Prop} {op : Dt → Option Dt} (hc : ∀ X : Cx, X.calm = true → CallR X (.type id) (r X.K)) (hd : ∀ K, CD1 K (r K) op) (hm : G.mg x = none) (hv : bootBuiltins x = some (.type id)) (ha : SE G N sc fn k a f)
    (hg : GL sc x) (hn : x ≠ "__name__") (hdb : (x == ("__debug__" : Str)) = false) (ns : NS a) : SE G N sc fn k (.Call (.Name x p) [a] [] pos) (eUn op f) := fun X C W tk b' =>
  PE.imp (pe_callTy (hc X C.calm) (C.gl hg) (by rw [C.hmg]; exact hm) hv (pa_cons (ha X C W tk true) pa_nil (ns [] X.env)) hn hdb (ns [] X.env) rfl) fun σ H Q h => tCB_of (hd X.K) h
/-- the script's shape -/
def isScr : List (Dt × Dt) → Bool
  | (.none, _) :: _ => false
  | _ => true
def dLen : Dt → Option Dt
  | .list xs => some (.int xs.length)
  | .tuple xs => some (.int xs.length)
  | .dict kv => if isScr kv = true then some (.int kv.length) else none
  | .str z => if z.length ≤ lim then some (.int z.length) else none
  | _ => none
theorem cd_len (K : PySem.W.Frag) : CD1 K (fun xs H Q => ∃ x n, xs = [x] ∧ LenV K x H n ∧ Q (.int n) H) dLen := by
  intro x H Q ow dx dz ok rx e post
  unfold dLen at e
  split at e
  · cases e
    obtain ⟨a, vs, rfl, h1, r⟩ := rx.list
    refine ⟨_, vs.length, rfl, .inl ⟨vs, SqL.of h1, rfl⟩, ?_⟩
    rw [r.length]
    exact post _ H (Same.refl H) (.int _)
  · cases e
    obtain ⟨a, vs, rfl, h1, r⟩ := rx.tuple
    refine ⟨_, vs.length, rfl, .inr ⟨vs, h1.sq, rfl⟩, ?_⟩
    rw [r.length]
    exact post _ H (Same.refl H) (.int _)
  · split at e
    · rename_i hsc
      cases e
      rcases rx.script with ⟨a, ns, rfl, rfl, h1⟩ | ⟨a, d, _, rfl, _⟩
      · refine ⟨_, ns.length, rfl, .inl ⟨ns.map V.int, h1.sq, by rw [List.length_map]⟩, ?_⟩
        rw [List.length_map] at post
        exact post _ H (Same.refl H) (.int _)
      · cases hsc
    · cases e
  · split at e
    · rename_i hz
      cases e
      obtain rfl := rx.str
      exact ⟨_, _, rfl, ⟨lim_le hz, rfl⟩, post _ H (Same.refl H) (.int _)⟩
    · cases e
  · cases e
theorem se_len (B : Bi G) (ha : SE G N sc fn k a f) (hg : GL sc "len" := by rfl) (ns : NS a := by intro _ _; rfl) : SE G N sc fn k (.Call (.Name "len" p) [a] [] pos) (eUn dLen f) :=
  se_b1 (r := fun K xs H Q => ∃ x n, xs = [x] ∧ LenV K x H n ∧ Q (.int n) H) (fun X _ => call_len) cd_len B.len PySem.boot_len ha hg (by decide) (by decide) ns
def dTuple : Dt → Option Dt
  | .list xs => some (.tuple xs)
  | .tuple xs => some (.tuple xs)
  | _ => none
theorem call_tuple_F {X : Cx} : CallR X (.type "tuple") (fun xs H Q => ∃ p ys, xs = [.ref p] ∧ ((SqL X.K H p ys ∧ ∀ l o, H l = none → o.dict = none → Q (.ref l) (upd H l (.frz o (.tup ys)))) ∨ (SqT X.K H p ys ∧ Q (.ref p) H))) := by
  intro pins s σ H xs us Q I r h
  obtain ⟨p, ys, rfl, h⟩ := h
  obtain ⟨u, rfl, rx⟩ := vals1 r
  cases rx
  rcases h with ⟨hq, q⟩ | ⟨hq, q⟩
  · obtain ⟨its, r', pl, hz⟩ := I.list hq
    have hlen := r'.length
    refine call_tuple_list pl.isList (fun h' kp => ?_) (by simp only [List.size_toArray] <;> omega)
    have I1 : Inv X pins σ H { s with heap := h' } := I.kept (t' := s.toks) kp
    exact ⟨.ref h'.objs.size, _, layT I1 r' hz s.toks, rfl, q _ _ (I1.hok.fresh (Nat.le_refl _)) rfl⟩
  · obtain ⟨its, r', pl, hz⟩ := I.tuple hq
    exact call_tuple_same pl ⟨.ref p, H, I, rfl, q⟩
theorem cd_tuple (K : PySem.W.Frag) : CD1 K (fun xs H Q => ∃ p ys, xs = [.ref p] ∧ ((SqL K H p ys ∧ ∀ l o, H l = none → o.dict = none → Q (.ref l) (upd H l (.frz o (.tup ys)))) ∨ (SqT K H p ys ∧ Q (.ref p) H))) dTuple := by
  intro x H Q ow dx dz ok rx e post
  unfold dTuple at e
  split at e
  · cases e
    obtain ⟨a, vs, rfl, h1, r⟩ := rx.list
    exact ⟨a, vs, rfl, .inl ⟨SqL.of h1, fun l o hl ho => post _ _ (Same.upd hl) (.tup ⟨o, upd_same, ho⟩ (RpAll.same (Same.upd hl) r))⟩⟩
  · cases e
    obtain ⟨a, vs, rfl, h1, r⟩ := rx.tuple
    exact ⟨a, vs, rfl, .inr ⟨h1.sq, post _ H (Same.refl H) (.tup h1 r)⟩⟩
  · cases e
theorem se_tuple (B : Bi G) (ha : SE G N sc fn k a f) (hg : GL sc "tuple" := by rfl) (ns : NS a := by intro _ _; rfl) : SE G N sc fn k (.Call (.Name "tuple" p) [a] [] pos) (eUn dTuple f) :=
  se_t1 (r := fun K xs H Q => ∃ p ys, xs = [.ref p] ∧ ((SqL K H p ys ∧ ∀ l o, H l = none → o.dict = none → Q (.ref l) (upd H l (.frz o (.tup ys)))) ∨ (SqT K H p ys ∧ Q (.ref p) H))) (fun X _ => call_tuple_F) cd_tuple B.tuple PyProof.Rows.boot_tuple ha hg (by decide) (by decide) ns
def dList : Dt → Option Dt
  | .list xs => some (.list xs)
  | .tuple xs => some (.list xs)
  | _ => none
theorem cd_list (K : PySem.W.Frag) : CD1 K (fun xs H Q => ∃ p ys, xs = [.ref p] ∧ (SqL K H p ys ∨ SqT K H p ys) ∧ ∀ l, H l = none → Q (.ref l) (upd H l (.lst ys))) dList := by
  intro x H Q ow dx dz ok rx e post
  unfold dList at e
  split at e
  · cases e
    obtain ⟨a, vs, rfl, h1, r⟩ := rx.list
    exact ⟨a, vs, rfl, .inl (SqL.of h1), fun l hl => post _ _ (Same.upd hl) (.lst upd_same (ok.new hl) (RpAll.same (Same.upd hl) r))⟩
  · cases e
    obtain ⟨a, vs, rfl, h1, r⟩ := rx.tuple
    exact ⟨a, vs, rfl, .inr (h1.sq), fun l hl => post _ _ (Same.upd hl) (.lst upd_same (ok.new hl) (RpAll.same (Same.upd hl) r))⟩
  · cases e
theorem se_list (B : Bi G) (ha : SE G N sc fn k a f) (hg : GL sc "list" := by rfl) (ns : NS a := by intro _ _; rfl) : SE G N sc fn k (.Call (.Name "list" p) [a] [] pos) (eUn dList f) :=
  se_t1 (r := fun K xs H Q => ∃ p ys, xs = [.ref p] ∧ (SqL K H p ys ∨ SqT K H p ys) ∧ ∀ l, H l = none → Q (.ref l) (upd H l (.lst ys))) (fun X _ => call_list_of) cd_list B.list PyProof.Rows.boot_list ha hg (by decide) (by decide) ns
/-! tuple(range(n)), list(range(n)) -/
def rgD (n : Int) : List Dt := (List.range n.toNat).map fun i => .int (i : Nat)
def dTupRg : Dt → Option Dt
  | .int n => if okI n = true then some (.tuple (rgD n)) else none
  | _ => none
def dLstRg : Dt → Option Dt
  | .int n => if okI n = true then some (.list (rgD n)) else none
  | _ => none
theorem rp_map {K : PySem.W.Frag} {O : Addr → Prop} {H : Hp} {α : Type} (v : α → V) (d : α → Dt) : ∀ l : List α, (∀ x ∈ l, Rp K O H (v x) (d x)) → RpAll K O H (l.map v) (l.map d)
  | [], _ => .nil
  | x :: l, h => .cons (h x List.mem_cons_self) (rp_map v d l fun y hy => h y (List.mem_cons_of_mem _ hy))
theorem rp_rg {K : PySem.W.Frag} {O : Addr → Prop} {H : Hp} (n : Int) : RpAll K O H (rgV 0 n) (rgD n) := by
  unfold rgV rgD
  rw [Int.sub_zero]
  refine rp_map _ _ _ fun i _ => ?_
  rw [Int.zero_add]
  exact .int _
def tTupRgF (te : L2.St → Hp → (Int → Int → Hp → Prop) → Prop) : TE := fun σ H Q => te σ H fun a b H1 => RgOk a b ∧ ∀ q o, H1 q = none → o.dict = none → Q (.ref q) (upd H1 q (.frz o (.tup (rgV a b))))
theorem pe_tupRgF {X : Cx} {e : Expr} {te : L2.St → Hp → (Int → Int → Hp → Prop) → Prop} {p pos : Pos} (hc : X.calm = true) (hg : Gl X "tuple") (hm : X.mg "tuple" = none) (he : PRg X e te) (na : starEach [e] X.env = (false, eval e X.env) :: starEach [] X.env := by rfl) : PE X (.Call (.Name "tuple" p) [e] [] pos) (tTupRgF te) := by
  refine ⟨fun pins s σ H Q I h => ?_⟩
  refine Call_ (ld_blt I hg hm boot_tuple (PyProof.Rows.callWith_type1 (args_cons (thn (he pins s σ H _ I h) fun x s1 ⟨r, a, b, t, u, v, H1, ex, hr, I1, ok, q⟩ => args_nil ?_) na) na))
  subst ex
  obtain ⟨b1, b2, b3, b4, b5⟩ := ok
  refine call_tuple_range (n := (b - a).toNat) (I1.ok.hd hc) hr (small_one b1 b2 b3 b4) (rangeSize_nat a b) b5 fun h' tk acc hk hi => ?_
  have I2 : Inv X pins σ H1 { s1 with heap := h', toks := tk } := I1.kept hk
  have hl := layT I2 (vals_rg hi) (by rw [rgV_length, sizeLine_eq]; omega) tk
  rw [Array.toArray_toList] at hl
  exact ⟨.ref h'.objs.size, _, hl, rfl, q _ _ (I2.hok.fresh (Nat.le_refl _)) rfl⟩
theorem se_tupRg (B : Bi G) (ha : SE G N sc fn k a f) (hg : GL sc "tuple" := by rfl) (hg2 : GL sc "range" := by rfl) (ns : NS a := by intro _ _; rfl) : SE G N sc fn k (.Call (.Name "tuple" p) [.Call (.Name "range" p2) [a] [] pos] [] pos) (eUn dTupRg f) := fun X C W tk b' =>
  PE.imp (pe_tupRgF C.calm (C.gl hg) (by rw [C.hmg]; exact B.tuple) (prg_1 (C.gl hg2) (by rw [C.hmg]; exact B.range) (ha X C W tk true) (ns [] X.env))) fun σ H Q h => by
    obtain ⟨ρ, ow, rs, he, gd, post⟩ := h
    refine tE.go gd he (fun n pl e => by subst e; exact post) fun d hd1 v H1 s1 r1 => ?_
    unfold dTupRg at hd1
    split at hd1
    · split at hd1
      · rename_i n hn
        rw [okI_iff] at hn
        cases hd1
        exact ⟨n, r1.int, ⟨by omega, by omega, by omega, by omega, by omega⟩, fun q o hq ho => post _ _ (s1.trans (Same.upd hq)) (.inl (.tup ⟨o, upd_same, ho⟩ (rp_rg n)))⟩
      · cases hd1
    · cases hd1
theorem se_lstRg (B : Bi G) (ha : SE G N sc fn k a f) (hg : GL sc "list" := by rfl) (hg2 : GL sc "range" := by rfl) (ns : NS a := by intro _ _; rfl) {q1 : Pos} : SE G N sc fn k (.Call (.Name "list" p) [.Call (.Name "range" p2) [a] [] q1] [] pos) (eUn dLstRg f) := fun X C W tk b' =>
  PE.imp (pe_listRg C.calm (C.gl hg) (by rw [C.hmg]; exact B.list) (prg_1 (C.gl hg2) (by rw [C.hmg]; exact B.range) (ha X C W tk true) (ns [] X.env))) fun σ H Q h => by
    obtain ⟨ρ, ow, rs, he, gd, post⟩ := h
    refine tE.go gd he (fun n pl e => by subst e; exact post) fun d hd1 v H1 s1 r1 => ?_
    unfold dLstRg at hd1
    split at hd1
    · split at hd1
      · rename_i n hn
        rw [okI_iff] at hn
        cases hd1
        exact ⟨n, r1.int, ⟨by omega, by omega, by omega, by omega, by omega⟩, fun q hq => post _ _ (s1.trans (Same.upd hq)) (.inl (.lst upd_same ((gd.ok.same s1).new hq) (rp_rg n)))⟩
      · cases hd1
    · cases hd1
/-! isinstance(x, T) -/
def tyN : Dt → String
  | .none => "NoneType"
  | .bool _ => "bool"
  | .int _ => "int"
  | .str _ => "str"
  | .list _ => "list"
  | .tuple _ => "tuple"
  | .dict kv => if isScr kv = true then "list" else "Sheet"
def dIsi (T : String) (d : Dt) : Bool := tyN d == T || (T == "int" && tyN d == "bool")
def eIsi (T : String) (f : EF) : EF := fun _ ρ => bnd (f true ρ) fun x => some (.val (.bool (dIsi T x)))
theorem isScr_map (ns : List Int) : isScr (ns.map fun i => ((.int i : PyData), (.none : PyData))) = true := by cases ns <;> rfl
def isSht : Dt → Bool
  | .dict kv => !isScr kv
  | _ => false
def KitOk (T : String) : Prop := T ∈ ["int", "bool", "str", "tuple", "list"] ∧ ∀ (K : PySem.W.Frag) (d : Dt), isSht d = false → PySem.W.kitOne K (.type (tyN d)) (.type T) = some (dIsi T d)
theorem dIsi_sht {T : String} (h : T ∈ ["int", "bool", "str", "tuple", "list"]) (d : Dt) : dIsi T (.dict [(.none, d)]) = false := by
  simp only [List.mem_cons, List.not_mem_nil, or_false] at h
  rcases h with rfl | rfl | rfl | rfl | rfl <;> rfl
theorem RpB.ty {T : String} {b : Bool} {K : PySem.W.Frag} {ow : Ow} {H : Hp} {v : V} {d : Dt} (S : ShK K) (hk : KitOk T) (h : RpB b K ow H v d) : ∃ t, TyX K H v t ∧ PySem.W.kitOne K t (.type T) = some (dIsi T d) := by
  have go : ∀ {d : Dt}, isSht d = false → TyX K H v (.type (tyN d)) → ∃ t, TyX K H v t ∧ PySem.W.kitOne K t (.type T) = some (dIsi T d) := fun {d} hs h => ⟨_, h, hk.2 K d hs⟩
  cases d with
  | none => refine go rfl ?_; rw [h.none]; exact .base .non
  | bool b => refine go rfl ?_; rw [h.bool]; exact .base (.bl b)
  | int b => refine go rfl ?_; rw [h.int]; exact .base (.int b)
  | str b => refine go rfl ?_; rw [h.str]; exact .base (.str b)
  | list b => refine go rfl ?_; obtain ⟨a, vs, rfl, h1, _⟩ := h.list; exact .base (.lst h1)
  | tuple b => refine go rfl ?_; obtain ⟨a, vs, rfl, ⟨o, h1, _⟩, _⟩ := h.tuple; exact .fTuple h1
  | dict b =>
    rcases h.script with ⟨a, ns, rfl, rfl, h1⟩ | ⟨a, d, rfl, rfl, dx, fs, h1⟩
    · refine go (by show (!isScr _) = false; rw [isScr_map]; rfl) ?_
      have e : tyN (.dict (ns.map fun i => ((.int i : PyData), (.none : PyData)))) = "list" := by
        show (if isScr _ = true then "list" else "Sheet") = _
        rw [isScr_map]; rfl
      rw [e]
      rcases h1 with ⟨o, h1⟩ | ⟨o, its, n, h1, h2, _⟩
      · exact .base (.frz h1)
      · exact .kList h1 h2
    · exact ⟨_, .base (.ins h1 S.cl S.ha S.hn S.ht S.hm), by rw [dIsi_sht hk.1]; exact S.no T hk.1⟩
theorem se_isi {T : String} {x : Str} (B : Bi G) (hk : KitOk T) (ha : SE G N sc fn k a f) (hm : G.mg x = none) (hv : bootBuiltins x = some (.type T)) (hg : GL sc "isinstance" := by rfl) (hg2 : GL sc x := by rfl)
    (hn : x ≠ "__name__" := by decide) (hdb : (x == ("__debug__" : Str)) = false := by decide) (ns : NS a := by intro _ _; rfl) : SE G N sc fn k (.Call (.Name "isinstance" p) [a, .Name x p2] [] pos) (eIsi T f) := fun X C W tk b' =>
  PE.imp (pe_callB call_isi (C.gl hg) (by rw [C.hmg]; exact B.isinstance) boot_isinstance (pa_cons (ha X C W tk true) (pa_cons (pe_bltn (v := .ty T) (C.gl hg2) (by rw [C.hmg]; exact hm) hv rfl hn hdb) pa_nil) (ns _ X.env)) (by decide) (by decide) (ns _ X.env) rfl) fun σ H Q h => by
    obtain ⟨ρ, ow, rs, he, gd, post⟩ := h
    refine tE.go gd he (fun n pl e => by subst e; exact post) fun d hd1 v H1 s1 r1 => ?_
    cases hd1
    obtain ⟨t, h1, h2⟩ := r1.ty (T := T) (by rw [C.hK]; exact B.sht) hk
    exact ⟨v, .ty T, _, _, _, rfl, .ty T, h1, h2, post _ H1 s1 (.inl (.bl _))⟩
/-! int(flag), int(n), str(n), max(m, n) -/
def dInt : Dt → Option Dt
  | .int i => some (.int i)
  | .bool b => some (.int (if b then 1 else 0))
  | _ => none
theorem cd_int (K : PySem.W.Frag) : CD1 K (fun xs H Q => (∃ i, xs = [.int i] ∧ Q (.int i) H) ∨ ∃ k, xs = [.bl k] ∧ Q (.int (if k then 1 else 0)) H) dInt := by
  intro x H Q ow dx dz ok rx e post
  unfold dInt at e
  split at e
  · cases e
    obtain rfl := rx.int
    exact .inl ⟨_, rfl, post _ H (Same.refl H) (.int _)⟩
  · cases e
    obtain rfl := rx.bool
    exact .inr ⟨_, rfl, post _ H (Same.refl H) (.int _)⟩
  · cases e
theorem se_intC (B : Bi G) (ha : SE G N sc fn k a f) (hg : GL sc "int" := by rfl) (ns : NS a := by intro _ _; rfl) : SE G N sc fn k (.Call (.Name "int" p) [a] [] pos) (eUn dInt f) :=
  se_t1 (r := fun K xs H Q => (∃ i, xs = [.int i] ∧ Q (.int i) H) ∨ ∃ k, xs = [.bl k] ∧ Q (.int (if k then 1 else 0)) H) (fun X _ => call_int1) cd_int B.int PyProof.Rows.boot_int ha hg (by decide) (by decide) ns
def dStr : Dt → Option Dt
  | .int i => if i.natAbs.log2 < 1920 then some (.str (toString i)) else none
  | _ => none
theorem cd_str (K : PySem.W.Frag) : CD1 K (fun xs H Q => ∃ i, xs = [.int i] ∧ i.natAbs.log2 < 1920 ∧ Q (.str (toString i)) H) dStr := by
  intro x H Q ow dx dz ok rx e post
  unfold dStr at e
  split at e
  · split at e
    · rename_i hz
      cases e
      obtain rfl := rx.int
      exact ⟨_, rfl, hz, post _ H (Same.refl H) (.str _)⟩
    · cases e
  · cases e
theorem se_strC (B : Bi G) (ha : SE G N sc fn k a f) (hg : GL sc "str" := by rfl) (ns : NS a := by intro _ _; rfl) : SE G N sc fn k (.Call (.Name "str" p) [a] [] pos) (eUn dStr f) :=
  se_t1 (r := fun K xs H Q => ∃ i, xs = [.int i] ∧ i.natAbs.log2 < 1920 ∧ Q (.str (toString i)) H) (fun X _ => call_str_int) cd_str B.str PyProof.Rows.boot_str ha hg (by decide) (by decide) ns
def dMax2 : Dt → Dt → Option Dt
  | .int i, .int j => some (.int (if j > i then j else i))
  | _, _ => none
theorem se_max2 (B : Bi G) (ha : SE G N sc fn k a f) (hb : SE G N sc fn k b g) (hg : GL sc "max" := by rfl) (ns : NS a := by intro _ _; rfl) (ns2 : NS b := by intro _ _; rfl) : SE G N sc fn k (.Call (.Name "max" p) [a, b] [] pos) (eBin dMax2 f g) := fun X C W tk b' =>
  PE.imp (pe_callB (call_max2 C.calm) (C.gl hg) (by rw [C.hmg]; exact B.max) boot_max (pa_cons (ha X C W tk true) (pa_cons (hb X C W tk true) pa_nil (ns2 _ X.env)) (ns _ X.env)) (by decide) (by decide) (ns _ X.env) (noStar _ _ _ fun e he => by rw [List.mem_singleton.mp he]; exact ns2)) fun σ H Q h => by
    obtain ⟨ρ, ow, rs, he, gd, post⟩ := h
    refine tE.go gd he (fun n pl e => by subst e; exact post) fun d hd1 v H1 s1 r1 => ?_
    refine tE.go (gd.same s1) hd1 (fun n pl e => by subst e; exact post.same s1) fun d2 hd2 v2 H2 s2 r2 => ?_
    unfold dMax2 at hd2
    split at hd2
    · cases hd2
      obtain rfl := r1.int
      obtain rfl := r2.int
      exact ⟨_, _, rfl, post _ H2 (s1.trans s2) (.inl (.int _))⟩
    · cases hd2

/-! ## calls of own defs -/
def spF (K : PySem.W.Frag) (mg : Str → Option Value) (n : Nat) (F : List Dt → Option Rs) : Sp := fun vs H Q E =>
  vs.length = n ∧ ∃ (O : Addr → Prop) (ds : List Dt) (r : Rs), (∀ a, O a → H a ≠ none) ∧ RpAll K O H vs ds ∧ F ds = some r ∧ match r with
    | .val d => ∀ v H', Same H H' → Rp K O H' v d → Q v H'
    | .exc n pl => ∀ cls d H', mg n = some cls → Same H H' → PayOk K H' d pl → E cls d H'
/-- the def of that name computes F, at level j -/
def FnIs (G : Gc) (x : Str) (j n : Nat) (F : List Dt → Option Rs) : Prop :=
  ∃ f fd ps, G.mg x = some (.ref f) ∧ PySem.W.keepIn G.K (.ref f) = true ∧ Binds G.K fd ps [] ∧ ps.length = n ∧ FnOk G.P G.w G.K G.mg G.base (L2.CX G.P G.w) j f fd ps (spF G.K G.mg n F)
def eFn (n : Nat) (F : List Dt → Option Rs) (g : AF) : EF := fun _ ρ => bndA (g ρ) fun ds => if ds.length = n then F ds else none
theorem se_fn {x : Str} {j n : Nat} {F : List Dt → Option Rs} (hF : FnIs G x j n F) (hr : SAs G N sc fn k (a :: es) ar) (hj : j ≤ k := by decide) (hg : GL sc x := by rfl) (hdb : (x == ("__debug__" : Str)) = false := by decide) :
    SE G N sc fn k (.Call (.Name x p) (a :: es) [] pos) (eFn n F ar) := fun X C W tk b' => by
  obtain ⟨f, fd, ps, hm, hkp, hb, hl, hok⟩ := hF
  rw [← C.hP, ← C.hw, ← C.hK, ← C.hmg, ← C.hb] at hok
  rw [← C.hK] at hkp hb
  rw [← C.hmg] at hm
  have na := hr.ns a List.mem_cons_self
  refine PE.imp (pe_callS (E := WE W) hok (C.room.mono hj) (C.gl hg) hm hkp hb (fun σ => passAt tk σ) (hr.pa X C W tk) hdb (na es X.env) (noStar _ _ _ fun e he => hr.ns e (List.mem_cons_of_mem _ he))) fun σ H Q h => ?_
  obtain ⟨ρ, ow, rs, he, gd, post⟩ := h
  refine tA.go gd he (fun n pl e => by subst e; exact post) fun ds hd vs H1 s1 r1 => ?_
  split at hd
  · rename_i hn
    refine ⟨by rw [r1.length]; exact hn, OA ow, ds, rs, fun q hq => ?_, r1, hd, ?_⟩
    · exact (gd.ok.same s1).at_ hq
    · cases rs with
      | val d => exact fun v H' s' r' => post v H' (s1.trans s') (.inl r')
      | exc n pl => exact fun cls d H' hc s' pk => post cls d H' hc (s1.trans s') pk
  · cases hd
end
end PT

namespace PT
open PySem PySem.Spec PyProof.Rows L2

/-! ## slots cleared, slots set -/
def clr (ρ : En) : List Nat → En
  | [] => ρ
  | v :: vs => (clr ρ vs).set v none
theorem clr_length (ρ : En) : ∀ vs : List Nat, (clr ρ vs).length = ρ.length
  | [] => rfl
  | v :: vs => by unfold clr; rw [List.length_set, clr_length ρ vs]
theorem clr_some {ρ : En} {i : Nat} {x : SV} : ∀ {vs : List Nat}, (clr ρ vs)[i]? = some (some x) → ρ[i]? = some (some x) ∧ i ∉ vs
  | [], h => ⟨h, by simp⟩
  | v :: vs, h => by
    unfold clr at h
    by_cases hi : v = i
    · subst hi
      by_cases hv : v < (clr ρ vs).length
      · rw [List.getElem?_set_self hv] at h; cases h
      · rw [List.getElem?_eq_none (by simpa using hv)] at h; cases h
    · rw [List.getElem?_set_ne hi] at h
      obtain ⟨h1, h2⟩ := clr_some h
      exact ⟨h1, by simp only [List.mem_cons, not_or]; exact ⟨fun e => hi e.symm, h2⟩⟩
theorem clr_ne {ρ : En} {i : Nat} : ∀ {vs : List Nat}, i ∉ vs → (clr ρ vs)[i]? = ρ[i]?
  | [], _ => rfl
  | v :: vs, h => by
    simp only [List.mem_cons, not_or] at h
    unfold clr
    rw [List.getElem?_set_ne (fun e => h.1 e.symm)]
    exact clr_ne h.2
theorem wipe_ne {σ : L2.St} {i : Nat} : ∀ {vs : List Nat}, i ∉ vs → (wipe σ vs)[i]? = σ[i]?
  | [], _ => rfl
  | v :: vs, h => by
    simp only [List.mem_cons, not_or] at h
    unfold wipe
    rw [List.getElem?_set_ne (fun e => h.1 e.symm)]
    exact wipe_ne h.2
theorem wipe_at {σ : L2.St} {i : Nat} : ∀ {vs : List Nat}, i ∈ vs → i < σ.length → (wipe σ vs)[i]? = some none
  | v :: vs, h, hl => by
    unfold wipe
    by_cases e : v = i
    · subst e
      exact List.getElem?_set_self (by rw [wipe_length]; exact hl)
    · rw [List.getElem?_set_ne e]
      exact wipe_at ((List.mem_cons.mp h).elim (fun z => absurd z.symm e) id) hl
theorem wipe_eq {σ σ' : L2.St} {vs : List Nat} (hl : σ'.length = σ.length) (h : ∀ j, j ∉ vs → σ'[j]? = σ[j]?) : wipe σ' vs = wipe σ vs := by
  apply List.ext_getElem?
  intro i
  by_cases hi : i ∈ vs
  · by_cases hlt : i < σ.length
    · rw [wipe_at hi hlt, wipe_at hi (by omega)]
    · rw [List.getElem?_eq_none (by rw [wipe_length]; omega), List.getElem?_eq_none (by rw [wipe_length]; omega)]
  · rw [wipe_ne hi, wipe_ne hi, h i hi]
def Ow.clr (ow : Ow) (sl : List Nat) : Ow := { ow with f := fun i => if i ∈ sl then none else ow.f i, g := fun i a => i ∉ sl ∧ ow.g i a }
theorem Ow.clr_some {ow : Ow} {sl : List Nat} {i : Nat} {a : Addr} (h : (ow.clr sl).f i = some a) : ow.f i = some a ∧ i ∉ sl := by
  have h : (if i ∈ sl then none else ow.f i) = some a := h
  split at h
  · cases h
  · rename_i hn; exact ⟨h, hn⟩
theorem Ow.clr_stp (ow : Ow) (sl : List Nat) (H : Hp) : Stp ow H (ow.clr sl) H := ⟨(Stp.refl ow H).kp, fun a ⟨i, hi⟩ => .inl ⟨i, hi.elim (fun hi => .inl (Ow.clr_some hi).1) fun hi => .inr hi.2⟩, rfl⟩
theorem Ow.clr_none {ow : Ow} {sl : List Nat} : ∀ j ∈ sl, (ow.clr sl).f j = none ∧ ∀ a, ¬ (ow.clr sl).g j a := fun j hj => by
  refine ⟨?_, fun a h => h.1 hj⟩
  show (if j ∈ sl then none else ow.f j) = none
  rw [if_pos hj]
section
variable {K : PySem.W.Frag} {ow : Ow} {ρ : En} {σ : L2.St} {H : Hp}
theorem SlotOk.stp {ow' : Ow} {H' : Hp} {i : Nat} {v : V} {s : SV} (ok : OkO ow H) (st : Stp ow H ow' H') (he : ∀ xs, s = .own xs → ow'.f i = ow.f i) (hk : ∀ a, ow.f i = some a → ∀ o, H a = some o → H' a = some o) (h : SlotOk K ow i H v s) (hg : ∀ a, ow.g i a → ow'.g i a ∧ ∀ o, H a = some o → H' a = some o) : SlotOk K ow' i H' v s := by
  cases s with
  | sh d => exact Rp.stp ok st h
  | own xs =>
    obtain ⟨a, vs, h1, h2, h3, h4⟩ := h
    exact ⟨a, vs, h1, by rw [he xs rfl]; exact h2, hk a h2 _ h3, RpAll.stp ok st h4⟩
  | sht m es hs =>
    obtain ⟨a, e, h, vs, ws, q1, q2, q3, q4, q5, q6, q7, q8, q9, q10⟩ := h
    exact ⟨a, e, h, vs, ws, q1, (hg a q2).1, (hg e q3).1, (hg h q4).1, q5, q6.imp (hg a q2).2, (hg e q3).2 _ q7, (hg h q4).2 _ q8, RpAll.stp ok st q9, RpAll.stp ok st q10⟩
theorem Good.clr (g : Good K ow ρ σ H) (sl : List Nat) : Good K (ow.clr sl) (PT.clr ρ sl) σ H := by
  refine ⟨by rw [clr_length]; exact g.len, fun i j a h1 h2 => g.inj i j a (Ow.clr_some h1).1 (Ow.clr_some h2).1, ⟨fun i a h => g.ok.lst i a (Ow.clr_some h).1, g.ok.ext, fun i a h => g.ok.gs i a h.2⟩, fun i a h => g.disj i a (Ow.clr_some h).1, fun i s h => ?_, fun i a h => ?_, fun i j a h1 h2 => g.ginj i j a h1.2 h2.2, fun i j a h1 h2 => g.gf i j a h1.2 (Ow.clr_some h2).1, fun i a h => g.gx i a h.2, fun i a h => by rw [clr_ne h.1]; exact g.ghas i a h.2⟩
  · obtain ⟨h1, h2⟩ := clr_some h
    obtain ⟨v, hv, q⟩ := g.slot i s h1
    exact ⟨v, hv, q.stp g.ok (Ow.clr_stp ow sl H) (fun _ _ => by show (if i ∈ sl then none else ow.f i) = _; rw [if_neg h2]) (fun _ _ _ e => e) fun a ha => ⟨⟨h2, ha⟩, fun _ e => e⟩⟩
  · obtain ⟨h1, h2⟩ := Ow.clr_some h
    rw [clr_ne h2]
    exact g.has i a h1
/-- within a comprehension's block -/
theorem Good.blk {vs : List Nat} (g : Good K ow ρ σ H) (hn : ∀ j ∈ vs, ow.f j = none ∧ ∀ a, ¬ ow.g j a) : Good K ow (PT.clr ρ vs) (wipe σ vs) H := by
  refine ⟨by rw [clr_length, wipe_length]; exact g.len, g.inj, g.ok, g.disj, fun i s h => ?_, fun i a h => ?_, g.ginj, g.gf, g.gx, fun i a h => by rw [clr_ne fun z => (hn i z).2 a h]; exact g.ghas i a h⟩
  · obtain ⟨h1, h2⟩ := clr_some h
    obtain ⟨v, hv, q⟩ := g.slot i s h1
    exact ⟨v, by rw [wipe_ne h2]; exact hv, q⟩
  · have h2 : i ∉ vs := fun z => by rw [(hn i z).1] at h; cases h
    rw [clr_ne h2]
    exact g.has i a h
def noOwn (ρ : En) (sl : List Nat) : Bool := sl.all fun i => match ρ[i]? with
  | some (some (.own _)) => false
  | some (some (.sht ..)) => false
  | _ => true
theorem noOwn_of {sl : List Nat} (g : Good K ow ρ σ H) (h : noOwn ρ sl = true) : ∀ j ∈ sl, ow.f j = none ∧ ∀ a, ¬ ow.g j a := fun j hj => by
  have := List.all_eq_true.mp h j hj
  refine ⟨?_, fun a ha => ?_⟩
  · cases e : ow.f j with
    | none => rfl
    | some a =>
      obtain ⟨xs, hx⟩ := g.has j a e
      rw [hx] at this
      cases this
  · obtain ⟨m, es, hs, hx⟩ := g.ghas j a ha
    rw [hx] at this
    cases this
theorem Good.set {i : Nat} {v : V} {d : Dt} (g : Good K ow ρ σ H) (hn : ow.f i = none ∧ ∀ a, ¬ ow.g i a) (r : Rp K (OA ow) H v d) : Good K ow (ρ.set i (some (.sh d))) (σ.set i (some v)) H := by
  refine ⟨by rw [List.length_set, List.length_set]; exact g.len, g.inj, g.ok, g.disj, fun j s h => ?_, fun j a h => ?_, g.ginj, g.gf, g.gx, fun j a h => by rw [List.getElem?_set_ne fun e => hn.2 a (by rw [e]; exact h)]; exact g.ghas j a h⟩
  · by_cases hj : i = j
    · subst hj
      by_cases hi : i < ρ.length
      · rw [List.getElem?_set_self hi] at h
        cases h
        exact ⟨v, List.getElem?_set_self (by rw [← g.len]; exact hi), r⟩
      · rw [List.getElem?_eq_none (by simpa using hi)] at h; cases h
    · rw [List.getElem?_set_ne hj] at h
      rw [List.getElem?_set_ne hj]
      exact g.slot j s h
  · by_cases hj : i = j
    · subst hj; rw [hn.1] at h; cases h
    · rw [List.getElem?_set_ne hj]; exact g.has j a h
end

/-! ## targets -/
abbrev GF := Dt → En → Option En
/-- what an iterable hands out: data, or a pair made for the turn alone -/
inductive Shp where
  | d
  | p (s t : Shp)
def RpS (K : PySem.W.Frag) (O : Addr → Prop) (H : Hp) : Shp → V → Dt → Prop
  | .d, v, d => Rp K O H v d
  | .p s t, v, d => ∃ a x y dx dy, v = .ref a ∧ H a = some (.tup [x, y]) ∧ d = .tuple [dx, dy] ∧ RpS K O H s x dx ∧ RpS K O H t y dy
theorem RpS.stp {K : PySem.W.Frag} {ow ow' : Ow} {H H' : Hp} (ok : OkO ow H) (s : Stp ow H ow' H') : ∀ {sh : Shp} {v : V} {d : Dt}, RpS K (OA ow) H sh v d → RpS K (OA ow') H' sh v d
  | .d, _, _, h => Rp.stp ok s h
  | .p _ _, _, _, ⟨a, x, y, dx, dy, e1, h, e2, r1, r2⟩ => ⟨a, x, y, dx, dy, e1, s.kp.keep _ _ h (ok.not h (fun _ z => by cases z) fun _ _ _ z => by cases z), e2, RpS.stp ok s r1, RpS.stp ok s r2⟩
def tG (sh : Shp) (K : PySem.W.Frag) (sl : List Nat) (f : GF) : TG := fun v σ H Q => ∃ ρ ow d ρ', (∀ j ∈ sl, ow.f j = none ∧ ∀ a, ¬ ow.g j a) ∧ f d ρ = some ρ' ∧ Good K ow ρ σ H ∧ RpS K (OA ow) H sh v d ∧
  ∀ σ', Good K ow ρ' σ' H → σ'.length = σ.length → (∀ j, j ∉ sl → σ'[j]? = σ[j]?) → Q σ' H
theorem PG.imp {X : Cx} {e : Expr} {t t' : TG} (h : PG X e t) (i : ∀ v σ H Q, t' v σ H Q → t v σ H Q) : PG X e t' := ⟨fun pins s σ H v u Q I r q => h.run pins s σ H v u Q I r (i v σ H Q q)⟩
def SG (G : Gc) (N : List Str) (sc : Scope) (fn : Str → Bool) (k : Nat) (sh : Shp) (e : Expr) (sl : List Nat) (f : GF) : Prop := ∀ X, Ctx G N sc fn k X → PG X e (tG sh X.K sl f)
def gNm (i : Nat) : GF := fun d ρ => some (ρ.set i (some (.sh d)))
def gPr (f g : GF) : GF := fun d ρ => match d with
  | .tuple [x, y] => (f x ρ).bind (g y)
  | _ => none
section
variable {G : Gc} {N : List Str} {sc : Scope} {fn : Str → Bool} {k : Nat} {pos p p2 : Pos}
theorem sg_nm (i : Nat) {x : Str} (hi : N[i]? = some x := by rfl) (hx : Loc sc x := by first | exact Or.inl rfl | exact Or.inr rfl) (hf : fn x = true ∨ sc.names.lookup x = some .local := by first | exact .inl rfl | exact .inr rfl) : SG G N sc fn k .d (.Name x pos) [i] (gNm i) := fun X C =>
  PG.imp (pg_name (by rw [C.hN]; exact C.nd) (by rw [C.hN]; exact hi) (by rw [C.hsc]; exact hx) (by rw [C.hfn, C.hsc]; exact hf)) fun v σ H Q h => by
    obtain ⟨ρ, ow, d, ρ', hn, he, gd, r, post⟩ := h
    cases he
    refine post _ (gd.set (hn i List.mem_cons_self) r) (List.length_set ..) fun j hj => ?_
    exact List.getElem?_set_ne fun e => hj (by rw [e]; exact List.mem_cons_self)
theorem sg_pr {e1 e2 : Expr} {kk : Nat} {sl1 sl2 : List Nat} {f g : GF} (h1 : SG G N sc fn k .d e1 sl1 f) (h2 : SG G N sc fn k .d e2 sl2 g)
    (hn : ∀ env, (assignEach [e1, e2] env).length = 2 := by intro _; rfl) (hst : ∀ env, (assignEach [e1, e2] env).findIdx? (·.1) = none := by intro _; rfl)
    (hs : ∀ env, (assignEach (e1 :: [e2]) env).map (·.2) = assign e1 env :: (assignEach [e2] env).map (·.2) := by intro _; rfl) (hs2 : ∀ env, (assignEach (e2 :: []) env).map (·.2) = assign e2 env :: (assignEach [] env).map (·.2) := by intro _; rfl) :
    SG G N sc fn k .d (.Tuple [e1, e2] kk pos) (sl1 ++ sl2) (gPr f g) := fun X C =>
  PG.imp (pg_tup (n := 2) C.calm (pgs_cons (h1 X C) (pgs_cons (h2 X C) pgs_nil (hs2 X.env)) (hs X.env)) (hn X.env) (hst X.env)) fun v σ H Q h => by
    obtain ⟨ρ, ow, d, ρ', hn, he, gd, r, post⟩ := h
    unfold gPr at he
    split at he
    · rename_i x y
      have r : Rp X.K (OA ow) H v (.tuple [x, y]) := r
      cases r with
      | tup ha ra =>
        cases ra with
        | cons rx rr =>
          cases rr with
          | cons ry rn =>
            cases rn
            rename_i a vx vy
            cases h1 : f x ρ with
            | none => rw [h1] at he; cases he
            | some ρ1 =>
              rw [h1] at he
              refine ⟨a, [vx, vy], rfl, ha.sq, rfl, vx, [vy], rfl, ρ, ow, x, ρ1, fun j hj => hn j (List.mem_append_left _ hj), h1, gd, rx, fun σ1 g1 l1 a1 => ?_⟩
              refine ⟨vy, [], rfl, ρ1, ow, y, ρ', fun j hj => hn j (List.mem_append_right _ hj), he, g1, ry, fun σ2 g2 l2 a2 => ⟨rfl, ?_⟩⟩
              refine post σ2 g2 (l2.trans l1) fun j hj => ?_
              rw [List.mem_append, not_or] at hj
              rw [a2 j hj.2, a1 j hj.1]
    · cases he
end

section
variable {G : Gc} {N : List Str} {sc : Scope} {fn : Str → Bool} {k : Nat} {pos p p2 : Pos}
theorem sg_prR {e1 e2 : Expr} {kk : Nat} {sl1 sl2 : List Nat} {f g : GF} {s1 s2 : Shp} (h1 : SG G N sc fn k s1 e1 sl1 f) (h2 : SG G N sc fn k s2 e2 sl2 g)
    (hn : ∀ env, (assignEach [e1, e2] env).length = 2 := by intro _; rfl) (hst : ∀ env, (assignEach [e1, e2] env).findIdx? (·.1) = none := by intro _; rfl)
    (hs : ∀ env, (assignEach (e1 :: [e2]) env).map (·.2) = assign e1 env :: (assignEach [e2] env).map (·.2) := by intro _; rfl) (hs2 : ∀ env, (assignEach (e2 :: []) env).map (·.2) = assign e2 env :: (assignEach [] env).map (·.2) := by intro _; rfl) :
    SG G N sc fn k (.p s1 s2) (.Tuple [e1, e2] kk pos) (sl1 ++ sl2) (gPr f g) := fun X C =>
  PG.imp (pg_tup (n := 2) C.calm (pgs_cons (h1 X C) (pgs_cons (h2 X C) pgs_nil (hs2 X.env)) (hs X.env)) (hn X.env) (hst X.env)) fun v σ H Q h => by
    obtain ⟨ρ, ow, d, ρ', hn, he, gd, r, post⟩ := h
    obtain ⟨a, vx, vy, x, y, rfl, ha, rfl, rx, ry⟩ := r
    have he : (f x ρ).bind (g y) = some ρ' := he
    cases h1 : f x ρ with
    | none => rw [h1] at he; cases he
    | some ρ1 =>
      rw [h1] at he
      refine ⟨a, [vx, vy], rfl, SqT.of ha, rfl, vx, [vy], rfl, ρ, ow, x, ρ1, fun j hj => hn j (List.mem_append_left _ hj), h1, gd, rx, fun σ1 g1 l1 a1 => ?_⟩
      refine ⟨vy, [], rfl, ρ1, ow, y, ρ', fun j hj => hn j (List.mem_append_right _ hj), he, g1, ry, fun σ2 g2 l2 a2 => ⟨rfl, ?_⟩⟩
      refine post σ2 g2 (l2.trans l1) fun j hj => ?_
      rw [List.mem_append, not_or] at hj
      rw [a2 j hj.2, a1 j hj.1]
end

/-! ## what is walked -/
inductive Irs where
  | it (xs : List Dt)
  | exc (n : Str) (pl : Option Dt)
abbrev IF := Bool → En → Option Irs
/-- a new address is owned by those around -/
def Ow.addx (ow : Ow) (D : Addr) : Ow := { ow with x := fun a => ow.x a ∨ a = D }
def RelT (ow : Ow) (H : Hp) (ow1 : Ow) (H1 : Hp) : Prop := (ow1.f = ow.f ∧ ow1.g = ow.g) ∧ (∀ a, ow1.x a → ow.x a ∨ H a = none) ∧ Same H H1
def Rel (b : Bool) (ow : Ow) (H : Hp) (ow1 : Ow) (H1 : Hp) : Prop := if b = true then RelT ow H ow1 H1 else Stp ow H ow1 H1
theorem RelT.notOA {ow ow1 : Ow} {H H1 : Hp} (r : RelT ow H ow1 H1) : ∀ a o, H a = some o → ¬ OA ow a → ¬ OA ow1 a := fun a o h n q => by
  rcases q with ⟨i, hi⟩ | q
  · exact n (.inl ⟨i, by rw [← r.1.1, ← r.1.2]; exact hi⟩)
  · exact (r.2.1 a q).elim (fun z => n (.inr z)) fun z => by rw [z] at h; cases h
theorem Rel.rp {b : Bool} {K : PySem.W.Frag} {ow ow1 : Ow} {H H1 : Hp} {v : V} {d : Dt} (ok : OkO ow H) (h : Rel b ow H ow1 H1) (r : Rp K (OA ow) H v d) : Rp K (OA ow1) H1 v d := by
  cases b with
  | true => have h : RelT ow H ow1 H1 := h; exact Rp.same h.2.2 (Rp.fresh h.notOA r)
  | false => exact Rp.stp ok h r
/-- what does not reach D, without D -/
def dropH (H : Hp) (D : Addr) : Hp := fun b => if b = D then none else H b
theorem dropH_ne {H : Hp} {D b : Addr} (h : b ≠ D) : dropH H D b = H b := by unfold dropH; rw [if_neg h]
mutual
theorem Rp.drp {K : PySem.W.Frag} {O : Addr → Prop} {H : Hp} {D : Addr} {xs : List V} (hD : H D = some (.lst xs)) (hO : O D) : ∀ {v : V} {d : Dt}, Rp K O H v d → Rp K O (dropH H D) v d
  | _, _, .non => .non
  | _, _, .bl b => .bl b
  | _, _, .int i => .int i
  | _, _, .str x => .str x
  | _, _, .lst h q r => .lst (by rw [dropH_ne (fun e => q (by rw [e]; exact hO))]; exact h) q (RpAll.drp hD hO r)
  | _, _, .tup ⟨o, h, hd⟩ r => .tup ⟨o, by rw [dropH_ne (ne_of h hD (by intro z; cases z))]; exact h, hd⟩ (RpAll.drp hD hO r)
  | _, _, .scr h => .scr (h.imp fun _ _ h => by rw [dropH_ne (ne_of h hD (by intro z; cases z))]; exact h)
  | _, _, .sht f he hh n1 n2 n3 r1 r2 => .sht (f.imp fun o q => by rw [dropH_ne (fun e => n1 (by rw [e]; exact hO))]; exact q) (by rw [dropH_ne (fun e => n2 (by rw [e]; exact hO))]; exact he) (by rw [dropH_ne (fun e => n3 (by rw [e]; exact hO))]; exact hh) n1 n2 n3 (RpAll.drp hD hO r1) (RpAll.drp hD hO r2)
theorem RpAll.drp {K : PySem.W.Frag} {O : Addr → Prop} {H : Hp} {D : Addr} {xs : List V} (hD : H D = some (.lst xs)) (hO : O D) : ∀ {vs : List V} {ds : List Dt}, RpAll K O H vs ds → RpAll K O (dropH H D) vs ds
  | _, _, .nil => .nil
  | _, _, .cons a r => .cons (Rp.drp hD hO a) (RpAll.drp hD hO r)
end
theorem OA.addx {ow : Ow} {D a : Addr} (h : OA ow a) : OA (ow.addx D) a := h.elim (fun z => .inl z) fun z => .inr (.inl z)
theorem notOA_addx {ow : Ow} {D a : Addr} (h : ¬ OA ow a) (hn : a ≠ D) : ¬ OA (ow.addx D) a := fun q => by
  rcases q with q | q | q
  · exact h (.inl q)
  · exact h (.inr q)
  · exact hn q
theorem Good.addx {K : PySem.W.Frag} {ow : Ow} {ρ : En} {σ : L2.St} {H1 H : Hp} {D : Addr} {o : HO} (g : Good K ow ρ σ H1) (hD : H1 D = none) (s : Same H1 H) (hH : H D = some o) : Good K (ow.addx D) ρ σ H := by
  have nn : ∀ a u, H1 a = some u → ¬ OA ow a → ¬ OA (ow.addx D) a := fun a u h n => notOA_addx n (ne_of_none h hD)
  refine ⟨g.len, g.inj, ⟨(g.ok.same s).lst, fun a q => ?_, (g.ok.same s).gs⟩, fun i a h q => ?_, fun i sv h => ?_, g.has, g.ginj, g.gf, fun i a h q => ?_, g.ghas⟩
  · rcases q with q | q
    · exact (g.ok.same s).ext a q
    · rw [q, hH]; exact fun z => nomatch z
  · rcases q with q | q
    · exact g.disj i a h q
    · obtain ⟨ys, hy⟩ := g.ok.lst i a h
      exact ne_of_none hy hD q
  · obtain ⟨v, hv, q⟩ := g.slot i sv h
    refine ⟨v, hv, ?_⟩
    cases sv with
    | sh d => exact Rp.same s (Rp.fresh nn q)
    | own xs =>
      obtain ⟨a, vs, h1, h2, h3, h4⟩ := q
      exact ⟨a, vs, h1, h2, s _ _ h3, RpAll.same s (RpAll.fresh nn h4)⟩
    | sht m es hs =>
      obtain ⟨a, e1, h1, vs, ws, q1, q2, q3, q4, q5, q6, q7, q8, q9, q10⟩ := q
      exact ⟨a, e1, h1, vs, ws, q1, q2, q3, q4, q5, q6.imp fun o z => s _ _ z, s _ _ q7, s _ _ q8, RpAll.same s (RpAll.fresh nn q9), RpAll.same s (RpAll.fresh nn q10)⟩
  · rcases q with q | q
    · exact g.gx i a h q
    · subst q
      exact g.ok.new hD (.inl ⟨i, .inr h⟩)
structure WD1 (sh : Shp) (K : PySem.W.Frag) (ow1 : Ow) (H1 : Hp) (J : It) (xs : List Dt) : Prop where
  go : ∀ i, i < xs.length → J.go i H1
  stop : J.stop xs.length H1
  yld : ∀ i x H2, i < xs.length → J.yld i H1 x H2 → Same H1 H2 ∧ ∃ d, xs[i]? = some d ∧ RpS K (OA ow1) H2 sh x d
def WD (sh : Shp) (b : Bool) (K : PySem.W.Frag) (ow : Ow) (H : Hp) (J : It) (xs : List Dt) : Prop := ∀ ow1 H1, Rel b ow H ow1 H1 → OkO ow1 H1 → WD1 sh K ow1 H1 J xs
def tI (sh : Shp) (K : PySem.W.Frag) (mg : Str → Option Value) (W : WX) (b : Bool) (f : IF) : TI := fun σ H R => ∃ ρ ow r, f b ρ = some r ∧ Good K ow ρ σ H ∧ match r with
  | .it xs => ∀ J H', Same H H' → WD sh b K ow H' J xs → R J H'
  | .exc n pl => ExP K mg W σ H n pl
def SI (G : Gc) (N : List Str) (sc : Scope) (fn : Str → Bool) (k : Nat) (sh : Shp) (tg e : Expr) (f : IF) : Prop :=
  ∀ X, Ctx G N sc fn k X → ∀ W, Takes X W → ∀ b, PI X tg e (tI sh X.K X.mg W b f)
theorem PI.imp {X : Cx} {tg e : Expr} {t t' : TI} (h : PI X tg e t) (i : ∀ σ H R, t' σ H R → t σ H R) : PI X tg e t' := ⟨fun pins s σ H R I q => h.run pins s σ H R I (i σ H R q)⟩
def bndI (x : Option Rs) (k : Dt → Option Irs) : Option Irs :=
  match x with
  | some (.val d) => k d
  | some (.exc n pl) => some (.exc n pl)
  | none => none
theorem tE.goI {K : PySem.W.Frag} {mg : Str → Option Value} {W : WX} {b : Bool} {f : EF} {ρ : En} {ow : Ow} {σ : L2.St} {H : Hp} {Q : VK} {k : Dt → Option Irs} {r : Irs} (g : Good K ow ρ σ H)
    (e : bndI (f b ρ) k = some r)
    (hx : ∀ n pl, r = .exc n pl → ExP K mg W σ H n pl)
    (hv : ∀ d, k d = some r → ∀ v H', Same H H' → RpB b K ow H' v d → Q v H') : tE K mg W b f σ H Q := by
  cases h : f b ρ with
  | none => rw [h] at e; cases e
  | some q =>
    rw [h] at e
    cases q with
    | val d => exact ⟨ρ, ow, .val d, h, g, fun v H' s q => hv d e v H' s q⟩
    | exc n pl => exact ⟨ρ, ow, .exc n pl, h, g, hx n pl (Option.some.inj e).symm⟩
/-- a list that is read: it stands as long as nothing that is owned changes it -/
theorem RpB.list_stp {b : Bool} {K : PySem.W.Frag} {ow ow1 : Ow} {H H1 : Hp} {v : V} {ds : List Dt} (ok : OkO ow H) (h : RpB b K ow H v (.list ds)) (r : Rel b ow H ow1 H1) : RpB b K ow1 H1 v (.list ds) := by
  rcases h with h | ⟨hb, a, vs, ds', rfl, e, h3, h5, h4⟩
  · exact .inl (r.rp ok h)
  · subst hb
    have r : RelT ow H ow1 H1 := r
    exact .inr ⟨rfl, a, vs, ds', rfl, e, r.2.2 _ _ h3, fun q => (r.2.1 a q).elim h5 (fun z => by rw [z] at h3; cases h3), RpAll.same r.2.2 (RpAll.fresh r.notOA h4)⟩
theorem RpB.tup_stp {b : Bool} {K : PySem.W.Frag} {ow ow1 : Ow} {H H1 : Hp} {v : V} {ds : List Dt} (ok : OkO ow H) (h : RpB b K ow H v (.tuple ds)) (r : Rel b ow H ow1 H1) : RpB b K ow1 H1 v (.tuple ds) := by
  rcases h with h | ⟨hb, a, vs, ds', rfl, e, h3, h5, h4⟩
  · exact .inl (r.rp ok h)
  · cases e
theorem wd_list {b : Bool} {K : PySem.W.Frag} {ow : Ow} {H : Hp} {a : Addr} {xs : List Dt} (ok : OkO ow H) (h : RpB b K ow H (.ref a) (.list xs)) : WD .d b K ow H (Itl K a) xs := fun ow1 H1 r ok1 => by
  obtain ⟨a', vs, e, h1, r1⟩ := (h.list_stp ok r).list
  cases e
  refine ⟨fun i hi => ⟨vs, vs[i]'(by rw [r1.length]; exact hi), SqL.of h1, by simp [show i < vs.length by rw [r1.length]; exact hi]⟩, ⟨vs, SqL.of h1, by rw [r1.length]; exact Nat.le_refl _⟩, fun i x H2 hi y => ?_⟩
  obtain ⟨rfl, y⟩ := y
  refine ⟨Same.refl _, xs[i], by simp [hi], ?_⟩
  obtain ⟨v, hv, q⟩ := r1.get (i := i) (d := xs[i]) (by simp [hi])
  rw [y vs (SqL.of h1)] at hv
  cases hv
  exact q
theorem wd_tup {b : Bool} {K : PySem.W.Frag} {ow : Ow} {H : Hp} {a : Addr} {xs : List Dt} (ok : OkO ow H) (h : RpB b K ow H (.ref a) (.tuple xs)) : WD .d b K ow H (Itt K a) xs := fun ow1 H1 r ok1 => by
  obtain ⟨a', vs, e, h1, r1⟩ := (h.tup_stp ok r).tuple
  cases e
  refine ⟨fun i hi => ⟨vs, vs[i]'(by rw [r1.length]; exact hi), h1.sq, by simp [show i < vs.length by rw [r1.length]; exact hi]⟩, ⟨vs, h1.sq, by rw [r1.length]; exact Nat.le_refl _⟩, fun i x H2 hi y => ?_⟩
  obtain ⟨rfl, y⟩ := y
  refine ⟨Same.refl _, xs[i], by simp [hi], ?_⟩
  obtain ⟨v, hv, q⟩ := r1.get (i := i) (d := xs[i]) (by simp [hi])
  rw [y vs (h1.sq)] at hv
  cases hv
  exact q
def rgL (lo : Int) (n : Nat) : List Dt := (List.range n).map fun i => .int (lo + (i : Nat))
theorem rgL_length (lo : Int) (n : Nat) : (rgL lo n).length = n := by unfold rgL; rw [List.length_map, List.length_range]
theorem rgL_get {lo : Int} {n i : Nat} (h : i < n) : (rgL lo n)[i]? = some (.int (lo + (i : Nat))) := by
  unfold rgL
  rw [List.getElem?_map, List.getElem?_range h]
  rfl
theorem wd_rg {b : Bool} {K : PySem.W.Frag} {ow : Ow} {H : Hp} {lo : Int} {n : Nat} : WD .d b K ow H (Itr lo n) (rgL lo n) := fun ow1 H1 r ok1 => by
  refine ⟨fun i hi => by rw [rgL_length] at hi; exact hi, by rw [rgL_length]; exact Nat.le_refl _, fun i x H2 hi y => ?_⟩
  obtain ⟨rfl, rfl⟩ := y
  rw [rgL_length] at hi
  exact ⟨Same.refl _, _, rgL_get hi, .int _⟩
section
variable {G : Gc} {N : List Str} {sc : Scope} {fn : Str → Bool} {k : Nat} {pos p p2 : Pos} {tg a b c : Expr} {f g h : EF}
def iSeq (f : EF) : IF := fun b ρ => bndI (f b ρ) fun x => match x with
  | .list xs => some (.it xs)
  | .tuple xs => some (.it xs)
  | _ => none
theorem si_seq (ha : SE G N sc fn k a f) : SI G N sc fn k .d tg a (iSeq f) := fun X C W tk b => ⟨fun pins s σ H R I h => by
  obtain ⟨ρ, ow, r, he, gd, post⟩ := h
  cases h1 : f b ρ with
  | none => simp [iSeq, h1, bndI] at he
  | some r1 =>
    cases r1 with
    | exc n pl =>
      have e1 := he
      simp [iSeq, h1, bndI] at e1
      subst e1
      exact (pi_list (ha X C W tk b)).run pins s σ H R I ⟨ρ, ow, _, h1, gd, post⟩
    | val d =>
      have e1 := he
      simp only [iSeq, h1, bndI] at e1
      split at e1
      · cases e1
        refine (pi_list (ha X C W tk b)).run pins s σ H R I ⟨ρ, ow, _, h1, gd, fun v H' s' r' => ?_⟩
        obtain ⟨a', vs, rfl, q1, q2⟩ := r'.list
        exact ⟨a', rfl, ⟨vs, SqL.of q1⟩, post _ H' s' (wd_list (gd.ok.same s') r')⟩
      · cases e1
        refine (pi_tup (ha X C W tk b)).run pins s σ H R I ⟨ρ, ow, _, h1, gd, fun v H' s' r' => ?_⟩
        obtain ⟨a', vs, rfl, q1, q2⟩ := r'.tuple
        exact ⟨a', rfl, ⟨vs, q1.sq⟩, post _ H' s' (wd_tup (gd.ok.same s') r')⟩
      · cases e1⟩
def iRg1 (f : EF) : IF := fun _ ρ => bndI (f true ρ) fun x => match x with
  | .int n => if okI n = true then some (.it (rgL 0 n.toNat)) else none
  | _ => none
theorem si_rg1 (B : Bi G) (ha : SE G N sc fn k a f) (hg : GL sc "range" := by rfl) (ns : NS a := by intro _ _; rfl) : SI G N sc fn k .d tg (.Call (.Name "range" p) [a] [] pos) (iRg1 f) := fun X C W tk b =>
  PI.imp (pi_range1 (C.gl hg) (by rw [C.hmg]; exact B.range) (pa_cons (ha X C W tk true) pa_nil (ns [] X.env)) (by rw [ns [] X.env]; rfl)) fun σ H R h => by
    obtain ⟨ρ, ow, r, he, gd, post⟩ := h
    refine tE.goI gd he (fun n pl e => by subst e; exact post) fun d hd v H' s' r' => ?_
    split at hd
    · split at hd
      · rename_i n hn
        rw [okI_iff] at hn
        cases hd
        obtain rfl := r'.int
        exact ⟨n, rfl, by omega, by omega, post _ H' s' wd_rg⟩
      · cases hd
    · cases hd
def iRg2 (f g : EF) : IF := fun _ ρ => bndI (f true ρ) fun x => bndI (g true ρ) fun y => match x, y with
  | .int i, .int j => if okI i = true ∧ okI j = true then some (.it (rgL i (j - i).toNat)) else none
  | _, _ => none
theorem si_rg2 (B : Bi G) (ha : SE G N sc fn k a f) (hb : SE G N sc fn k b g) (hg : GL sc "range" := by rfl) (ns : NS a := by intro _ _; rfl) (ns2 : NS b := by intro _ _; rfl) : SI G N sc fn k .d tg (.Call (.Name "range" p) [a, b] [] pos) (iRg2 f g) := fun X C W tk b' =>
  PI.imp (pi_range2 (C.gl hg) (by rw [C.hmg]; exact B.range) (pa_cons (ha X C W tk true) (pa_cons (hb X C W tk true) pa_nil (ns2 [] X.env)) (ns [b] X.env)) (by rw [ns [b] X.env, ns2 [] X.env]; rfl) (by rw [ns2 [] X.env]; rfl)) fun σ H R h => by
    obtain ⟨ρ, ow, r, he, gd, post⟩ := h
    refine tE.goI gd he (fun n pl e => by subst e; exact post) fun d hd v H1 s1 r1 => ?_
    refine tE.goI (gd.same s1) hd (fun n pl e => by subst e; exact ExP.same post s1) fun d2 hd2 v2 H2 s2 r2 => ?_
    split at hd2
    · split at hd2
      · rename_i i j hn
        rw [okI_iff, okI_iff] at hn
        cases hd2
        obtain rfl := r1.int
        obtain rfl := r2.int
        exact ⟨i, j, rfl, ⟨by omega, by omega, by omega, by omega⟩, post _ H2 (s1.trans s2) wd_rg⟩
      · cases hd2
    · cases hd2

/-! ## comprehensions -/
def lcL (c e : EF) (tg : GF) (ρ : En) : List Dt → Option (List Dt)
  | [] => some []
  | x :: xs => match tg x ρ with
    | none => none
    | some ρ1 => match c true ρ1 with
      | some (.val d) => (match tru d with
        | some true => (match e false ρ1 with
          | some (.val y) => (lcL c e tg ρ xs).map (y :: ·)
          | _ => none)
        | some false => lcL c e tg ρ xs
        | none => none)
      | _ => none
def eLc (sl : List Nat) (tg : GF) (it : IF) (c e : EF) : EF := fun _ ρ => match it true ρ with
  | some (.it xs) => if noOwn ρ sl && decide (xs.length ≤ lim) then (lcL c e tg (clr ρ sl) xs).map fun ys => .val (.list ys) else none
  | some (.exc n pl) => some (.exc n pl)
  | none => none
/-- the tests of a clause -/
def STs (G : Gc) (N : List Str) (sc : Scope) (fn : Str → Bool) (k : Nat) (es : List Expr) (f : EF) : Prop :=
  ∀ X, Ctx G N sc fn k X → ∀ W, Takes X W → PTs X es (tT X.K X.mg W f)
theorem PTs.imp {X : Cx} {e : List Expr} {t t' : TT} (h : PTs X e t) (i : ∀ σ H Q, t' σ H Q → t σ H Q) : PTs X e t' := ⟨fun pins s σ H Q I q => h.run pins s σ H Q I (i σ H Q q)⟩
theorem sts_nil : STs G N sc fn k [] (eC (.bool true)) := fun X C W tk => PTs.imp pts_nil fun σ H Q h => by
  obtain ⟨ρ, ow, r, he, gd, post⟩ := h
  cases he
  obtain ⟨c, hc, q⟩ := post
  cases hc
  exact q H (Same.refl H)
theorem sts_one (ha : ST G N sc fn k a f) : STs G N sc fn k [a] f := fun X C W tk => pts_one (ha X C W tk)
theorem Ctx.blk {X : Cx} (C : Ctx G N sc fn k X) (s : Shared) (H : Hp) (scope : Scope) (C' : Addr) (cl : List (Str × Addr)) (fp : List Addr) :
    Ctx G N (relS scope sc) (fun x => scope.names.lookup x == some .cell) k (X.blk s H scope (compEnvC scope cl C' X.env) fp) :=
  ⟨C.hP, C.hw, C.hK, C.hmg, C.hb, C.hN, C.nd, by show relS scope X.env.scope = _; rw [C.hsc], rfl, C.calm, C.room⟩
/-- what the comprehension's new list is: for expressions whose value is a new list -/
def tL (K : PySem.W.Frag) (mg : Str → Option Value) (W : WX) (f : EF) : TE := fun σ H Q =>
  ∃ ρ ow r, f true ρ = some r ∧ Good K ow ρ σ H ∧ match r with
    | .val d => ∃ ds, d = .list ds ∧ ∀ p vs H1, Same H H1 → H1 p = none → RpAll K (OA ow) H1 vs ds → Q (.ref p) (upd H1 p (.lst vs))
    | .exc n pl => ExP K mg W σ H n pl
theorem RpAll.snoc {K : PySem.W.Frag} {O : Addr → Prop} {H : Hp} {vs : List V} {ds : List Dt} {v : V} {d : Dt} (r : RpAll K O H vs ds) (q : Rp K O H v d) : RpAll K O H (vs ++ [v]) (ds ++ [d]) := r.append (.cons q .nil)
/-- the list at D so far, everything else as it was -/
structure Cw (K : PySem.W.Frag) (ow : Ow) (H1 : Hp) (D : Addr) (ys : List Dt) (H : Hp) : Prop where
  ex : ∃ vs H2, H = upd H2 D (.lst vs) ∧ Same H1 H2 ∧ H2 D = none ∧ RpAll K (OA ow) H2 vs ys
theorem lc_sound {sh : Shp} {K : PySem.W.Frag} {W0 : WX} {mg : Str → Option Value} {sl : List Nat} {tg : GF} {c e : EF} {ρ : En} {ow : Ow} {σ : L2.St} {H1 : Hp} {J : It} {xs ys : List Dt} {Q : VK} (gd : Good K ow ρ σ H1) (hn : ∀ j ∈ sl, ow.f j = none ∧ ∀ a, ¬ ow.g j a)
    (wd : WD sh true K ow H1 J xs) (hl : lcL c e tg (clr ρ sl) xs = some ys) (hz : xs.length ≤ lim)
    (post : ∀ p vs H2, Same H1 H2 → H2 p = none → RpAll K (OA ow) H2 vs ys → Q (.ref p) (upd H2 p (.lst vs))) :
    ∀ D, H1 D = none → ∃ Wv : Nat → Nat → Hp → Prop, (∃ m, Wv 0 m (upd H1 D (.lst []))) ∧ ∀ i m H, Wv i m H →
      (J.stop i H ∧ Q (.ref D) H) ∨ (J.go i H ∧ ∃ Nx : Hp → Prop, (∀ H', Nx H' → ∃ m', m' < m ∧ Wv (i + 1) m' H') ∧ ∀ x H', J.yld i H x H' → tG sh K sl tg x (wipe σ sl) H' fun σ2 H2 => wipe σ2 sl = wipe σ sl ∧ tT K mg W0 c σ2 H2 fun b H3 =>
        if b = true then tE K mg W0 false e σ2 H3 fun y H4 => ∃ acc, H4 D = some (.lst acc) ∧ acc.length < sizeLine ∧ Nx (upd H4 D (.lst (acc ++ [y]))) else Nx H3) := by
  intro D hD
  -- what is made of the first i items, and the rest
  let Wv : Nat → Nat → Hp → Prop := fun i m H => m = xs.length - i ∧ i ≤ xs.length ∧ ∃ zs ws, ys = zs ++ ws ∧ zs.length ≤ i ∧ lcL c e tg (clr ρ sl) (xs.drop i) = some ws ∧ Cw K ow H1 D zs H
  refine ⟨Wv, ⟨xs.length, by simp, Nat.zero_le _, [], ys, rfl, Nat.le_refl _, by simpa using hl, ⟨[], H1, rfl, Same.refl H1, hD, .nil⟩⟩, ?_⟩
  rintro i m H ⟨rfl, hi, zs, ws, hys, hzl, hws, ⟨vs, H2, rfl, s2, hD2, rv⟩⟩
  have sD : Same H1 (upd H2 D (.lst vs)) := s2.trans (Same.upd hD2)
  have gD : ∀ {H : Hp}, Same (upd H2 D (.lst vs)) H → Good K (ow.addx D) ρ σ H := fun {H} s => gd.addx hD (sD.trans s) (s D _ upd_same)
  have wd1 := wd (ow.addx D) _ (show Rel true ow H1 (ow.addx D) (upd H2 D (.lst vs)) from ⟨⟨rfl, rfl⟩, fun a q => q.elim .inl fun e => .inr (by rw [e]; exact hD), sD⟩) (gD (Same.refl _)).ok
  have hOD : OA (ow.addx D) D := .inr (.inr rfl)
  by_cases hlt : i < xs.length
  · right
    rw [List.drop_eq_getElem_cons hlt] at hws
    refine ⟨wd1.go i hlt, fun H => Wv (i + 1) (xs.length - (i + 1)) H, fun H' h => ⟨_, by omega, h⟩, fun x H' y => ?_⟩
    obtain ⟨sH', d, hd, rx⟩ := wd1.yld i x H' hlt y
    have hd' : xs[i] = d := by rw [List.getElem?_eq_getElem hlt] at hd; exact Option.some.inj hd
    rw [hd'] at hws
    unfold lcL at hws
    cases ht : tg d (clr ρ sl) with
    | none => rw [ht] at hws; cases hws
    | some ρ1 =>
      rw [ht] at hws
      simp only at hws
      refine ⟨clr ρ sl, ow.addx D, d, ρ1, hn, ht, (gD sH').blk hn, rx, fun σ2 g2 l2 a2 => ⟨?_, ?_⟩⟩
      · rw [wipe_eq (σ := wipe σ sl) l2 a2]
        exact wipe_eq (wipe_length _ _) fun j hj => wipe_ne hj
      · cases hc : c true ρ1 with
        | none => rw [hc] at hws; cases hws
        | some rc =>
          rw [hc] at hws
          cases rc with
          | exc n pl => cases hws
          | val dc =>
            simp only at hws
            cases htr : tru dc with
            | none => rw [htr] at hws; cases hws
            | some bb =>
              rw [htr] at hws
              refine ⟨ρ1, ow.addx D, _, hc, g2, bb, htr, fun H3 s3 => ?_⟩
              -- the list at D stands in H3
              have hH3 : H3 D = some (.lst vs) := (sH'.trans s3) D _ upd_same
              have s13 : Same H1 H3 := (sD.trans sH').trans s3
              have sd : ∀ {H4 : Hp}, Same H3 H4 → Same H1 (dropH H4 D) ∧ Same H2 (dropH H4 D) ∧ H4 D = some (.lst vs) := fun {H4} s4 => by
                refine ⟨fun b o hb => ?_, fun b o hb => ?_, s4 D _ hH3⟩
                · rw [dropH_ne (ne_of_none hb hD)]; exact s4 b o (s13 b o hb)
                · rw [dropH_ne (ne_of_none hb hD2)]; exact s4 b o ((sH'.trans s3) b o (by rw [upd_ne (ne_of_none hb hD2)]; exact hb))
              have hdrop : ∀ {H4 : Hp} {o : HO}, upd (dropH H4 D) D o = upd H4 D o := fun {H4 o} => by
                funext b
                by_cases hb : b = D
                · subst hb; rw [upd_same, upd_same]
                · rw [upd_ne hb, upd_ne hb, dropH_ne hb]
              have hself : ∀ {H4 : Hp}, H4 D = some (.lst vs) → upd (dropH H4 D) D (.lst vs) = H4 := fun {H4} h4 => by
                funext b
                by_cases hb : b = D
                · subst hb; rw [upd_same, h4]
                · rw [upd_ne hb, dropH_ne hb]
              have dN : ∀ {H4 : Hp}, dropH H4 D D = none := fun {H4} => by unfold dropH; rw [if_pos rfl]
              cases bb with
              | false =>
                show Wv (i + 1) (xs.length - (i + 1)) H3
                obtain ⟨q1, q2, q3⟩ := sd (Same.refl H3)
                exact ⟨rfl, hlt, zs, ws, hys, by omega, hws, ⟨vs, dropH H3 D, (hself q3).symm, q1, dN, RpAll.same q2 rv⟩⟩
              | true =>
                show tE K mg W0 false e σ2 H3 _
                cases hev : e false ρ1 with
                | none => rw [hev] at hws; cases hws
                | some re =>
                  rw [hev] at hws
                  cases re with
                  | exc n pl => cases hws
                  | val dy =>
                    simp only at hws
                    cases hrec : lcL c e tg (clr ρ sl) (xs.drop (i + 1)) with
                    | none => rw [hrec] at hws; cases hws
                    | some ws' =>
                      rw [hrec] at hws
                      have hws' : ws = dy :: ws' := (Option.some.inj hws).symm
                      subst hws'
                      refine ⟨ρ1, ow.addx D, _, hev, g2.same s3, fun y H4 s4 ry => ?_⟩
                      obtain ⟨q1, q2, q3⟩ := sd s4
                      refine ⟨vs, q3, by rw [rv.length]; exact Nat.lt_of_le_of_lt (Nat.le_trans hzl (Nat.le_trans (Nat.le_of_lt hlt) hz)) (by decide), rfl, hlt, zs ++ [dy], ws', by rw [hys]; simp, by simp; omega, hrec, ⟨vs ++ [y], dropH H4 D, hdrop.symm, q1, dN, ?_⟩⟩
                      exact RpAll.snoc (RpAll.same q2 rv) (Rp.fresh (fun _ _ _ n z => n (OA.addx z)) (Rp.drp q3 hOD ry.rp))
  · left
    have e : i = xs.length := by omega
    subst e
    rw [List.drop_length] at hws
    cases hws
    rw [List.append_nil] at hys
    subst hys
    exact ⟨wd1.stop, post D vs H2 s2 hD2 rv⟩
/-- [e for target in iter if c], as a value -/
theorem se_lc {sh : Shp} {elt iter : Expr} {ifs : List Expr} {scope : Scope} {own : List (Str × Nat)} {it : IF} {gf : GF} {c e : EF} (hi : SI G N sc fn k sh tg iter it) (ok : blkC N sc scope own = true) (hg : SG G N (relS scope sc) (fun x => scope.names.lookup x == some .cell) k sh tg (own.map (·.2)) gf)
    (ht : STs G N (relS scope sc) (fun x => scope.names.lookup x == some .cell) k ifs c) (he : SE G N (relS scope sc) (fun x => scope.names.lookup x == some .cell) k elt e) (hs : ∀ env x, foldedSetIterable iter env x = pure x := by intro _ _; rfl) :
    SE G N sc fn k (.ListComp elt [⟨tg, iter, ifs, 0⟩] scope pos) (eLc (own.map (·.2)) gf it c e) := fun X C W tk b => by
  have ok' := blkOk_by ok
  refine PE.imp (pe_lc (own := own) (g := tG sh X.K (own.map (·.2)) gf) (tt := tT X.K X.mg (fun _ _ _ _ => False) c) (te := tE X.K X.mg (fun _ _ _ _ => False) false e) C.calm (by rw [C.hN]; exact C.nd) (hi X C W tk true) (by rw [C.hN, C.hsc]; exact ok') (fun s H C' cl fp => hg _ (C.blk s H scope C' cl fp)) (fun s H C' cl fp => ht _ (C.blk s H scope C' cl fp) (fun _ _ _ _ => False) takes0)
    (fun s H C' cl fp => he _ (C.blk s H scope C' cl fp) (fun _ _ _ _ => False) takes0 false) (hs X.env)) fun σ H Q h => ?_
  obtain ⟨ρ, ow, r, he', gd, post⟩ := h
  unfold eLc at he'
  cases h1 : it true ρ with
  | none => rw [h1] at he'; cases he'
  | some ir =>
    rw [h1] at he'
    cases ir with
    | exc n pl => cases he'; exact ⟨ρ, ow, _, h1, gd, post⟩
    | it xs =>
      simp only at he'
      split at he'
      · rename_i hc
        rw [Bool.and_eq_true, decide_eq_true_eq] at hc
        cases h2 : lcL c e gf (clr ρ (own.map (·.2))) xs with
        | none => rw [h2] at he'; cases he'
        | some ys =>
          rw [h2] at he'
          cases he'
          refine ⟨ρ, ow, _, h1, gd, fun J H' s' wd => ?_⟩
          exact lc_sound (gd.same s') (noOwn_of gd hc.1) wd h2 hc.2 fun p vs H2 s2 hp rv => post _ _ ((s'.trans s2).trans (Same.upd hp)) (.inl (.lst upd_same ((gd.ok.same (s'.trans s2)).new hp) (RpAll.same (Same.upd hp) rv)))
      · cases he'
end
end PT

namespace PT
open PySem PySem.Spec PyProof.Rows L2

/-! ## statements -/
inductive Out where
  | nx (ρ : En)
  | rt (d : Dt)
  | ex (n : Str) (pl : Option Dt)
abbrev SF := En → Option Out
def PostS (K : PySem.W.Frag) (mg : Str → Option Value) (W : WX) (D : Ends) (ow : Ow) (H : Hp) : Out → Prop
  | .nx ρ' => ∀ ow' σ' H', Stp ow H ow' H' → Good K ow' ρ' σ' H' → D.nx σ' H'
  | .rt d => ∀ v H', Kp ow H H' → Rp K ow.x H' v d → D.rt v H'
  | .ex n pl => ∀ cls d σ' H', mg n = some cls → Kp ow H H' → PayOk K H' d pl → W cls d σ' H'
def tS (K : PySem.W.Frag) (mg : Str → Option Value) (W : WX) (g : SF) : TS := fun D σ H => ∃ ρ ow o, g ρ = some o ∧ Good K ow ρ σ H ∧ PostS K mg W D ow H o
theorem PostS.stp {K : PySem.W.Frag} {mg : Str → Option Value} {W : WX} {D : Ends} {ow ow' : Ow} {H H' : Hp} {o : Out} (h : PostS K mg W D ow H o) (s : Stp ow H ow' H') : PostS K mg W D ow' H' o := by
  cases o with
  | nx ρ' => exact fun ow2 σ2 H2 s2 g2 => h ow2 σ2 H2 (s.trans s2) g2
  | rt d => exact fun v H2 k2 r2 => h v H2 (s.kp2 k2) (by rw [← s.ext]; exact r2)
  | ex n pl => exact fun cls d σ2 H2 hc k2 p2 => h cls d σ2 H2 hc (s.kp2 k2) p2
theorem PostS.exp {K : PySem.W.Frag} {mg : Str → Option Value} {W : WX} {D : Ends} {ow : Ow} {H : Hp} {σ : L2.St} {n : Str} {pl : Option Dt} (h : PostS K mg W D ow H (.ex n pl)) : ExP K mg W σ H n pl :=
  fun cls d H' hc s p => h cls d σ H' hc (Same.kp s) p
/-- X is a def's own body (no comprehension's block) -/
structure TopX (X : Cx) : Prop where
  stk : X.stack = X.env :: X.outer
  fr : X.env.frame = some X.env.locals
def SB (G : Gc) (N : List Str) (sc : Scope) (fn : Str → Bool) (k : Nat) (st : List Stmt) (g : SF) : Prop :=
  ∀ X, Ctx G N sc fn k X → TopX X → ∀ W, Takes X W → PassesOwn (model X.prog X.w) X.A X.env X.xe → PSs X st (tS X.K X.mg W g)
def SS (G : Gc) (N : List Str) (sc : Scope) (fn : Str → Bool) (k : Nat) (st : Stmt) (g : SF) : Prop :=
  ∀ X, Ctx G N sc fn k X → TopX X → ∀ W, Takes X W → PassesOwn (model X.prog X.w) X.A X.env X.xe → PS X st (tS X.K X.mg W g)
def sNop : SF := fun ρ => some (.nx ρ)
def sSeq (g h : SF) : SF := fun ρ => match g ρ with
  | some (.nx ρ') => h ρ'
  | y => y
/-- from a value to a statement's end -/
def bndS (x : Option Rs) (k : Dt → Option Out) : Option Out :=
  match x with
  | some (.val d) => k d
  | some (.exc n pl) => some (.ex n pl)
  | none => none
theorem tE.goS {K : PySem.W.Frag} {mg : Str → Option Value} {W : WX} {b : Bool} {f : EF} {ρ : En} {ow : Ow} {σ : L2.St} {H : Hp} {Q : VK} {k : Dt → Option Out} {o : Out} {D : Ends} (g : Good K ow ρ σ H)
    (e : bndS (f b ρ) k = some o) (post : PostS K mg W D ow H o)
    (hv : ∀ d, k d = some o → ∀ v H', Same H H' → RpB b K ow H' v d → Q v H') : tE K mg W b f σ H Q := by
  cases h : f b ρ with
  | none => rw [h] at e; cases e
  | some q =>
    rw [h] at e
    cases q with
    | val d => exact ⟨ρ, ow, .val d, h, g, fun v H' s q => hv d e v H' s q⟩
    | exc n pl =>
      cases e
      exact ⟨ρ, ow, .exc n pl, h, g, post.exp⟩
theorem tT.goS {K : PySem.W.Frag} {mg : Str → Option Value} {W : WX} {f : EF} {ρ : En} {ow : Ow} {σ : L2.St} {H : Hp} {Q : Bool → Hp → Prop} {k : Dt → Option Out} {o : Out} {D : Ends} (g : Good K ow ρ σ H)
    (e : bndS (f true ρ) k = some o) (post : PostS K mg W D ow H o)
    (hv : ∀ d, k d = some o → ∃ c, tru d = some c ∧ ∀ H', Same H H' → Q c H') : tT K mg W f σ H Q := by
  cases h : f true ρ with
  | none => rw [h] at e; cases e
  | some q =>
    rw [h] at e
    cases q with
    | val d => exact ⟨ρ, ow, .val d, h, g, hv d e⟩
    | exc n pl =>
      cases e
      exact ⟨ρ, ow, .exc n pl, h, g, post.exp⟩

/-! ### slots that own -/
def Ow.put (ow : Ow) (i : Nat) (p : Addr) : Ow := { ow with f := fun j => if j = i then some p else ow.f j, g := fun j a => j ≠ i ∧ ow.g j a }
theorem Ow.put_self (ow : Ow) (i : Nat) (p : Addr) : (ow.put i p).f i = some p := by show (if i = i then some p else ow.f i) = _; rw [if_pos rfl]
theorem Ow.put_ne {ow : Ow} {i j : Nat} {p : Addr} (h : j ≠ i) : (ow.put i p).f j = ow.f j := by show (if j = i then some p else ow.f j) = _; rw [if_neg h]
section
variable {K : PySem.W.Frag} {ow : Ow} {ρ : En} {σ : L2.St} {H : Hp}
theorem Ow.put_stp {i : Nat} {p : Addr} {o : HO} (hp : H p = none) : Stp ow H (ow.put i p) (upd H p o) := by
  refine ⟨Same.kp (Same.upd hp), fun a ⟨j, hj⟩ => ?_, rfl⟩
  rcases hj with hj | hj
  · by_cases e : j = i
    · subst e; rw [Ow.put_self] at hj; cases hj; exact .inr hp
    · rw [Ow.put_ne e] at hj; exact .inl ⟨j, .inl hj⟩
  · exact .inl ⟨j, .inr hj.2⟩
theorem Good.setO {i : Nat} {p : Addr} {vs : List V} {ds : List Dt} (g : Good K ow ρ σ H) (hi : i < ρ.length) (hp : H p = none) (r : RpAll K (OA ow) H vs ds) : Good K (ow.put i p) (ρ.set i (some (.own ds))) (σ.set i (some (.ref p))) (upd H p (.lst vs)) := by
  have st : Stp ow H (ow.put i p) (upd H p (.lst vs)) := Ow.put_stp hp
  have tr : ∀ j a, ow.f j = some a → a ≠ p := fun j a h => by
    obtain ⟨ys, hy⟩ := g.ok.lst j a h
    exact ne_of_none hy hp
  have trg : ∀ j a, ow.g j a → a ≠ p := fun j a h e => g.ok.new hp (.inl ⟨j, .inr (by rw [← e]; exact h)⟩)
  refine ⟨by rw [List.length_set, List.length_set]; exact g.len, fun j l a h1 h2 => ?_, ⟨fun j a h => ?_, fun a h => Same.dom (Same.upd hp) a (g.ok.ext a h), fun j a h => by rw [upd_ne (trg j a h.2)]; exact g.ok.gs j a h.2⟩, fun j a h q => ?_, fun j s h => ?_, fun j a h => ?_,
    fun j l a h1 h2 => g.ginj j l a h1.2 h2.2, fun j l a h1 h2 => ?_, fun j a h => g.gx j a h.2, fun j a h => by rw [List.getElem?_set_ne fun e => h.1 e.symm]; exact g.ghas j a h.2⟩
  · by_cases e1 : j = i <;> by_cases e2 : l = i
    · rw [e1, e2]
    · subst e1; rw [Ow.put_self] at h1; cases h1; rw [Ow.put_ne e2] at h2; exact absurd rfl (tr l _ h2)
    · subst e2; rw [Ow.put_self] at h2; cases h2; rw [Ow.put_ne e1] at h1; exact absurd rfl (tr j _ h1)
    · rw [Ow.put_ne e1] at h1; rw [Ow.put_ne e2] at h2; exact g.inj j l a h1 h2
  · by_cases e1 : j = i
    · subst e1; rw [Ow.put_self] at h; cases h; exact ⟨vs, upd_same⟩
    · rw [Ow.put_ne e1] at h
      obtain ⟨ys, hy⟩ := g.ok.lst j a h
      exact ⟨ys, by rw [upd_ne (tr j a h)]; exact hy⟩
  · by_cases e1 : j = i
    · subst e1; rw [Ow.put_self] at h; cases h; exact g.ok.ext _ q hp
    · rw [Ow.put_ne e1] at h; exact g.disj j a h q
  · by_cases e1 : i = j
    · subst e1
      rw [List.getElem?_set_self hi] at h
      cases h
      exact ⟨.ref p, List.getElem?_set_self (by rw [← g.len]; exact hi), p, vs, rfl, Ow.put_self .., upd_same, RpAll.stp g.ok st r⟩
    · rw [List.getElem?_set_ne e1] at h
      rw [List.getElem?_set_ne e1]
      obtain ⟨v, hv, q⟩ := g.slot j s h
      exact ⟨v, hv, q.stp g.ok st (fun _ _ => Ow.put_ne fun e => e1 e.symm) (fun a ha o e => by rw [upd_ne (tr j a ha)]; exact e) fun a ha => ⟨⟨fun e => e1 e.symm, ha⟩, fun o e => by rw [upd_ne (trg j a ha)]; exact e⟩⟩
  · by_cases e1 : i = j
    · subst e1; exact ⟨ds, List.getElem?_set_self hi⟩
    · rw [Ow.put_ne fun e => e1 e.symm] at h
      rw [List.getElem?_set_ne e1]
      exact g.has j a h
  · by_cases e1 : l = i
    · subst e1; rw [Ow.put_self] at h2; cases h2; exact trg j _ h1.2 rfl
    · rw [Ow.put_ne e1] at h2; exact g.gf j l a h1.2 h2
/-- an owned list changes -/
theorem Ow.mut_stp {i : Nat} {a : Addr} {o : HO} (hi : ow.f i = some a) : Stp ow H ow (upd H a o) := by
  refine ⟨⟨fun b u h n => ?_, fun b h => ?_⟩, fun b h => .inl h, rfl⟩
  · rw [upd_ne fun e => n ⟨i, .inl (by rw [e]; exact hi)⟩]; exact h
  · by_cases e : b = a
    · rw [e, upd_same]; exact fun z => nomatch z
    · rw [upd_ne e]; exact h
theorem Good.mut {i : Nat} {a : Addr} {vs : List V} {ds : List Dt} (g : Good K ow ρ σ H) (ha : ow.f i = some a) (r : RpAll K (OA ow) H vs ds) : Good K ow (ρ.set i (some (.own ds))) σ (upd H a (.lst vs)) := by
  have st : Stp ow H ow (upd H a (.lst vs)) := Ow.mut_stp ha
  have hi : i < ρ.length := by
    obtain ⟨xs, hx⟩ := g.has i a ha
    exact (List.getElem?_eq_some_iff.mp hx).1
  have trg : ∀ j b, ow.g j b → b ≠ a := fun j b h e => g.gf j i b h (by rw [e]; exact ha)
  refine ⟨by rw [List.length_set]; exact g.len, g.inj, ⟨fun j b h => ?_, fun b h => st.kp.dom b (g.ok.ext b h), fun j b h => by rw [upd_ne (trg j b h)]; exact g.ok.gs j b h⟩, g.disj, fun j s h => ?_, fun j b h => ?_, g.ginj, g.gf, g.gx, fun j b h => ?_⟩
  · by_cases e : b = a
    · subst e; exact ⟨vs, upd_same⟩
    · obtain ⟨ys, hy⟩ := g.ok.lst j b h
      exact ⟨ys, by rw [upd_ne e]; exact hy⟩
  · by_cases e1 : i = j
    · subst e1
      rw [List.getElem?_set_self hi] at h
      cases h
      obtain ⟨xs, hx⟩ := g.has i a ha
      obtain ⟨v, hv, a', vs', rfl, h2, h3, h4⟩ := g.slot i _ hx
      rw [ha] at h2
      cases h2
      exact ⟨_, hv, a, vs, rfl, ha, upd_same, RpAll.stp g.ok st r⟩
    · rw [List.getElem?_set_ne e1] at h
      obtain ⟨v, hv, q⟩ := g.slot j s h
      refine ⟨v, hv, q.stp g.ok st (fun _ _ => rfl) (fun b hb o e => ?_) fun b hb => ⟨hb, fun o e => by rw [upd_ne (trg j b hb)]; exact e⟩⟩
      rw [upd_ne fun z => e1 (g.inj i j a ha (by rw [← z]; exact hb))]
      exact e
  · by_cases e1 : i = j
    · subst e1; exact ⟨ds, List.getElem?_set_self hi⟩
    · rw [List.getElem?_set_ne e1]; exact g.has j b h
  · have e1 : i ≠ j := fun e => by
      subst e
      obtain ⟨xs, hx⟩ := g.has i a ha
      obtain ⟨m, es, hs, hy⟩ := g.ghas i b h
      rw [hx] at hy
      cases hy
    rw [List.getElem?_set_ne e1]
    exact g.ghas j b h
/-- a slot gives up what it owns -/
def unown (i : Nat) (ρ : En) : En := match ρ[i]? with
  | some (some (.own xs)) => ρ.set i (some (.sh (.list xs)))
  | _ => ρ
/-- only what a slot's list is -/
def Ow.clf (ow : Ow) (i : Nat) : Ow := { ow with f := fun j => if j = i then none else ow.f j }
theorem Good.unown (g : Good K ow ρ σ H) (i : Nat) (hg : ∀ a, ¬ ow.g i a) : Good K (ow.clr [i]) (PT.unown i ρ) σ H := by
  have st := Ow.clr_stp ow [i] H
  unfold PT.unown
  split
  · rename_i xs hx
    have hi : i < ρ.length := (List.getElem?_eq_some_iff.mp hx).1
    refine ⟨by rw [List.length_set]; exact g.len, fun j l a h1 h2 => g.inj j l a (Ow.clr_some h1).1 (Ow.clr_some h2).1, ⟨fun j a h => g.ok.lst j a (Ow.clr_some h).1, g.ok.ext, fun j a h => g.ok.gs j a h.2⟩, fun j a h => g.disj j a (Ow.clr_some h).1, fun j s h => ?_, fun j a h => ?_,
      fun j l a h1 h2 => g.ginj j l a h1.2 h2.2, fun j l a h1 h2 => g.gf j l a h1.2 (Ow.clr_some h2).1, fun j a h => g.gx j a h.2, fun j a h => by rw [List.getElem?_set_ne fun e => h.1 (by rw [e]; exact List.mem_cons_self)]; exact g.ghas j a h.2⟩
    · by_cases e1 : i = j
      · subst e1
        rw [List.getElem?_set_self hi] at h
        cases h
        obtain ⟨v, hv, a, vs, rfl, h2, h3, h4⟩ := g.slot i _ hx
        refine ⟨_, hv, .lst h3 (fun q => ?_) (RpAll.stp g.ok st h4)⟩
        rcases q with ⟨j, hj | hj⟩ | q
        · obtain ⟨h5, h6⟩ := Ow.clr_some hj
          exact h6 (by rw [g.inj j i a h5 h2]; exact List.mem_cons_self)
        · exact g.gf j i a hj.2 h2
        · exact g.disj i a h2 q
      · rw [List.getElem?_set_ne e1] at h
        obtain ⟨v, hv, q⟩ := g.slot j s h
        exact ⟨v, hv, q.stp g.ok st (fun _ _ => by show (if j ∈ [i] then none else ow.f j) = _; rw [if_neg (by simp; exact fun e => e1 e.symm)]) (fun _ _ _ e => e) fun a ha => ⟨⟨by simp; exact fun e => e1 e.symm, ha⟩, fun _ e => e⟩⟩
    · obtain ⟨h1, h2⟩ := Ow.clr_some h
      have : i ≠ j := fun e => h2 (by rw [e]; exact List.mem_cons_self)
      rw [List.getElem?_set_ne this]
      exact g.has j a h1
  · rename_i hn
    have hf : ow.f i = none := by
      cases e : ow.f i with
      | none => rfl
      | some a => obtain ⟨xs, hx⟩ := g.has i a e; exact absurd hx (hn xs)
    refine ⟨g.len, fun j l a h1 h2 => g.inj j l a (Ow.clr_some h1).1 (Ow.clr_some h2).1, ⟨fun j a h => g.ok.lst j a (Ow.clr_some h).1, g.ok.ext, fun j a h => g.ok.gs j a h.2⟩, fun j a h => g.disj j a (Ow.clr_some h).1, fun j s h => ?_, fun j a h => g.has j a (Ow.clr_some h).1,
      fun j l a h1 h2 => g.ginj j l a h1.2 h2.2, fun j l a h1 h2 => g.gf j l a h1.2 (Ow.clr_some h2).1, fun j a h => g.gx j a h.2, fun j a h => g.ghas j a h.2⟩
    obtain ⟨v, hv, q⟩ := g.slot j s h
    refine ⟨v, hv, q.stp g.ok st (fun xs e => ?_) (fun _ _ _ e => e) fun a ha => ⟨⟨fun z => hg a (by rw [← List.mem_singleton.mp z]; exact ha), ha⟩, fun _ e => e⟩⟩
    have : j ≠ i := fun z => by subst z; subst e; exact hn xs h
    show (if j ∈ [i] then none else ow.f j) = _
    rw [if_neg (by simpa using this)]
theorem Good.unownE (g : Good K ow ρ σ H) (i : Nat) : ∃ ow', Stp ow H ow' H ∧ Good K ow' (PT.unown i ρ) σ H := by
  by_cases hg : ∃ a, ow.g i a
  · obtain ⟨a, ha⟩ := hg
    obtain ⟨m, es, hs, hx⟩ := g.ghas i a ha
    refine ⟨ow, Stp.refl ow H, ?_⟩
    unfold PT.unown
    rw [hx]
    exact g
  · exact ⟨_, Ow.clr_stp ow [i] H, g.unown i fun a ha => hg ⟨a, ha⟩⟩
/-- a slot is given data -/
theorem Good.setA {i : Nat} {v : V} {d : Dt} (g : Good K ow ρ σ H) (r : Rp K (OA ow) H v d) : Good K (ow.clr [i]) (ρ.set i (some (.sh d))) (σ.set i (some v)) H := by
  have g1 := g.clr [i]
  have r1 : Rp K (OA (ow.clr [i])) H v d := Rp.stp g.ok (Ow.clr_stp ow [i] H) r
  have g2 := g1.set (i := i) (Ow.clr_none i List.mem_cons_self) r1
  have e : (PT.clr ρ [i]).set i (some (.sh d)) = ρ.set i (some (.sh d)) := by
    show (ρ.set i none).set i (some (SV.sh d)) = _
    rw [List.set_set]
  rw [e] at g2
  exact g2
end

section
variable {G : Gc} {N : List Str} {sc : Scope} {fn : Str → Bool} {k : Nat} {pos p p2 : Pos} {st : Stmt} {rest : List Stmt} {a b c : Expr} {f g h : EF} {s1 s2 : SF}
theorem sb_nil : SB G N sc fn k [] sNop := fun X C T W tk hp => PSs.imp pss_nil fun D σ H h => by
  obtain ⟨ρ, ow, o, he, gd, post⟩ := h
  cases he
  exact post ow σ H (Stp.refl ow H) gd
theorem sb_cons (h1 : SS G N sc fn k st s1) (h2 : SB G N sc fn k rest s2) : SB G N sc fn k (st :: rest) (sSeq s1 s2) := fun X C T W tk hp => PSs.imp (pss_cons (h1 X C T W tk hp) (h2 X C T W tk hp)) fun D σ H h => by
  obtain ⟨ρ, ow, o, he, gd, post⟩ := h
  unfold sSeq at he
  cases h1 : s1 ρ with
  | none => rw [h1] at he; cases he
  | some o1 =>
    rw [h1] at he
    refine ⟨ρ, ow, o1, h1, gd, ?_⟩
    cases o1 with
    | nx ρ1 => exact fun ow' σ' H' st' g' => ⟨ρ1, ow', o, he, g', post.stp st'⟩
    | rt d => cases he; exact post
    | ex n pl => cases he; exact post
theorem sb_one (h1 : SS G N sc fn k st s1) : SB G N sc fn k [st] s1 := fun X C T W tk hp => pss_one (h1 X C T W tk hp)
theorem ss_pass : SS G N sc fn k (.Pass pos) sNop := fun X C T W tk hp => PS.imp ps_pass fun D σ H h => by
  obtain ⟨ρ, ow, o, he, gd, post⟩ := h
  cases he
  exact post ow σ H (Stp.refl ow H) gd
theorem ss_unown (i : Nat) (h : SS G N sc fn k st s1) : SS G N sc fn k st (fun ρ => s1 (unown i ρ)) := fun X C T W tk hp => PS.imp (h X C T W tk hp) fun D σ H h => by
  obtain ⟨ρ, ow, o, he, gd, post⟩ := h
  obtain ⟨ow', st', g'⟩ := gd.unownE i
  exact ⟨_, _, o, he, g', post.stp st'⟩
/-! ### x = e -/
def SAg (G : Gc) (N : List Str) (sc : Scope) (fn : Str → Bool) (k : Nat) (y : Str) (i : Nat) (e : Expr) (f : EF) : Prop :=
  ∀ X, Ctx G N sc fn k X → ∀ W, Takes X W → ∀ py spos, PS X (.Assign [.Name y py] e spos) (tAsg (tE X.K X.mg W false f) (gName i))
def SAgL (G : Gc) (N : List Str) (sc : Scope) (fn : Str → Bool) (k : Nat) (y : Str) (i : Nat) (e : Expr) (f : EF) : Prop :=
  ∀ X, Ctx G N sc fn k X → ∀ W, Takes X W → ∀ py spos, PS X (.Assign [.Name y py] e spos) (tAsg (tL X.K X.mg W f) (gName i))
def SL (G : Gc) (N : List Str) (sc : Scope) (fn : Str → Bool) (k : Nat) (e : Expr) (f : EF) : Prop :=
  ∀ X, Ctx G N sc fn k X → ∀ W, Takes X W → PE X e (tL X.K X.mg W f)
theorem ag_of (i : Nat) {y : Str} (he : SE G N sc fn k a f) (hi : N[i]? = some y := by rfl) (hx : Loc sc y := by first | exact Or.inl rfl | exact Or.inr rfl) (hf : fn y = true ∨ sc.names.lookup y = some .local := by first | exact .inl rfl | exact .inr rfl)
    (hs : ∀ (py : Pos) (l : Nat) (env : PySem.Env), swapsWith a (some (.Name y py)) l env = pure false := by intro _ _ _; rfl) : SAg G N sc fn k y i a f := fun X C W tk py spos =>
  ps_set (by rw [C.hN]; exact C.nd) (by rw [C.hN]; exact hi) (by rw [C.hsc]; exact hx) (he X C W tk false) (hs py spos.line X.env) (by rw [C.hfn, C.hsc]; exact hf)
theorem agL_of (i : Nat) {y : Str} (he : SL G N sc fn k a f) (hi : N[i]? = some y := by rfl) (hx : Loc sc y := by first | exact Or.inl rfl | exact Or.inr rfl) (hf : fn y = true ∨ sc.names.lookup y = some .local := by first | exact .inl rfl | exact .inr rfl)
    (hs : ∀ (py : Pos) (l : Nat) (env : PySem.Env), swapsWith a (some (.Name y py)) l env = pure false := by intro _ _ _; rfl) : SAgL G N sc fn k y i a f := fun X C W tk py spos =>
  ps_set (by rw [C.hN]; exact C.nd) (by rw [C.hN]; exact hi) (by rw [C.hsc]; exact hx) (he X C W tk) (hs py spos.line X.env) (by rw [C.hfn, C.hsc]; exact hf)
def sSet (i : Nat) (f : EF) : SF := fun ρ => bndS (f false ρ) fun d => some (.nx (ρ.set i (some (.sh d))))
def sSetO (i : Nat) (f : EF) : SF := fun ρ => bndS (f true ρ) fun d => match d with
  | .list ds => if i < ρ.length then some (.nx (ρ.set i (some (.own ds)))) else none
  | _ => none
theorem ss_set {i : Nat} {y : Str} (h : SAg G N sc fn k y i a f) : SS G N sc fn k (.Assign [.Name y p] a pos) (sSet i f) := fun X C T W tk hp => PS.imp (h X C W tk p pos) fun D σ H h => by
  obtain ⟨ρ, ow, o, he, gd, post⟩ := h
  refine tE.goS gd he post fun d hd v H1 s1 r1 => ?_
  cases hd
  exact post (ow.clr [i]) _ H1 ((Same.stp s1).trans (Ow.clr_stp ow [i] H1)) ((gd.same s1).setA r1.rp)
theorem ss_setO {i : Nat} {y : Str} (h : SAgL G N sc fn k y i a f) : SS G N sc fn k (.Assign [.Name y p] a pos) (sSetO i f) := fun X C T W tk hp => PS.imp (h X C W tk p pos) fun D σ H h => by
  obtain ⟨ρ, ow, o, he, gd, post⟩ := h
  unfold sSetO at he
  cases h1 : f true ρ with
  | none => rw [h1] at he; cases he
  | some r1 =>
    rw [h1] at he
    cases r1 with
    | exc n pl => cases he; exact ⟨ρ, ow, _, h1, gd, post.exp⟩
    | val d =>
      simp only [bndS] at he
      split at he
      · rename_i ds
        split at he
        · rename_i hi
          cases he
          exact ⟨ρ, ow, _, h1, gd, ds, rfl, fun q vs H1 s1 hq r1 => post _ _ _ ((Same.stp s1).trans (Ow.put_stp hq)) ((gd.same s1).setO hi hq r1)⟩
        · cases he
      · cases he
/-! fresh lists -/
theorem sl_lst {es : List Expr} {ar : AF} (h : SAs G N sc fn k es ar) : SL G N sc fn k (.List es pos) (eLst ar) := fun X C W tk => PE.imp (pe_lst (h.pa X C W tk)) fun σ H Q h => by
  obtain ⟨ρ, ow, rs, he, gd, post⟩ := h
  refine tA.go gd he (fun n pl e => by subst e; exact post) fun ds hd vs H1 s1 r1 => ?_
  split at hd
  · rename_i hz
    cases hd
    obtain ⟨ds', e, post⟩ := post
    cases e
    exact ⟨by rw [r1.length]; exact lim_le hz, fun p hp => post p vs H1 s1 hp r1⟩
  · cases hd
theorem sl_list (B : Bi G) (ha : SE G N sc fn k a f) (hg : GL sc "list" := by rfl) (ns : NS a := by intro _ _; rfl) : SL G N sc fn k (.Call (.Name "list" p) [a] [] pos) (eUn dList f) := fun X C W tk =>
  PE.imp (pe_callTy call_list_of (C.gl hg) (by rw [C.hmg]; exact B.list) PyProof.Rows.boot_list (pa_cons (ha X C W tk true) pa_nil (ns [] X.env)) (by decide) (by decide) (ns [] X.env) rfl) fun σ H Q h => by
    obtain ⟨ρ, ow, rs, he, gd, post⟩ := h
    refine tE.go gd he (fun n pl e => by subst e; exact post) fun d hd1 v H1 s1 r1 => ?_
    unfold dList at hd1
    split at hd1
    · cases hd1
      obtain ⟨ds', e, post⟩ := post
      cases e
      obtain ⟨q, vs, rfl, h1, r⟩ := r1.list
      exact ⟨q, vs, rfl, .inl (SqL.of h1), fun l hl => post l vs H1 s1 hl r⟩
    · cases hd1
      obtain ⟨ds', e, post⟩ := post
      cases e
      obtain ⟨q, vs, rfl, h1, r⟩ := r1.tuple
      exact ⟨q, vs, rfl, .inr (h1.sq), fun l hl => post l vs H1 s1 hl r⟩
    · cases hd1
theorem tL_op {K : PySem.W.Frag} {mg : Str → Option Value} {W : WX} {op : Dt → Dt → Option Dt} {r : R2} {σ : L2.St} {H : Hp} {Q : VK} (h : tL K mg W (eBin op f g) σ H Q)
    (hr : ∀ x y H1 ow dx dy ds, RpB true K ow H1 x dx → RpB true K ow H1 y dy → op dx dy = some (.list ds) → (∀ p vs, H1 p = none → RpAll K (OA ow) H1 vs ds → Q (.ref p) (upd H1 p (.lst vs))) → r x y H1 Q) : tOp r (tE K mg W true f) (tE K mg W true g) σ H Q := by
  obtain ⟨ρ, ow, rs, he, gd, post⟩ := h
  refine tE.go gd he (fun n pl e => by subst e; exact post) fun d hd1 v H1 s1 r1 => ?_
  refine tE.go (gd.same s1) hd1 (fun n pl e => by subst e; exact ExP.same post s1) fun d2 hd2 v2 H2 s2 r2 => ?_
  cases hz : op d d2 with
  | none => rw [hz] at hd2; cases hd2
  | some dz =>
    rw [hz] at hd2
    cases hd2
    obtain ⟨ds, rfl, post⟩ := post
    exact hr v v2 H2 ow d d2 ds (r1.same s2) r2 hz fun p vs hp rv => post p vs H2 (s1.trans s2) hp rv
theorem sl_add (ha : SE G N sc fn k a f) (hb : SE G N sc fn k b g) : SL G N sc fn k (.BinOp a .Add b pos) (eBin dAdd f g) := fun X C W tk => PE.imp (pe_op op_cat (ha X C W tk true) (hb X C W tk true)) fun σ H Q h => tL_op h fun x y H1 ow dx dy ds rx ry e post => by
  unfold dAdd at e
  split at e
  · cases e
  · split at e <;> cases e
  · split at e
    · rename_i hz
      cases e
      obtain ⟨a, vs, rfl, h1, r1⟩ := rx.list
      obtain ⟨b, ws, rfl, h2, r2⟩ := ry.list
      exact ⟨a, b, vs, ws, rfl, rfl, h1, h2, by rw [r1.length, r2.length]; exact lim_le hz, fun p hp => post p _ hp (r1.append r2)⟩
    · cases e
  · split at e <;> cases e
  · cases e
theorem sl_mul (ha : SE G N sc fn k a f) (hb : SE G N sc fn k b g) : SL G N sc fn k (.BinOp a .Mult b pos) (eBin dMul f g) := fun X C W tk => PE.imp (pe_op op_rep (ha X C W tk true) (hb X C W tk true)) fun σ H Q h => tL_op h fun x y H1 ow dx dy ds rx ry e post => by
  unfold dMul at e
  split at e
  · split at e <;> cases e
  · split at e
    · rename_i xs j hz
      cases e
      obtain ⟨a, vs, rfl, h1, r1⟩ := rx.list
      obtain rfl := ry.int
      have hz2 := okI_iff.mp hz.2
      exact ⟨a, j, vs, rfl, rfl, h1, by omega, by omega, by rw [r1.length]; exact lim_le hz.1, fun p hp => post p _ hp (r1.rep _)⟩
    · cases e
  · split at e <;> cases e
  · cases e
theorem sl_sl {lo hi : Option Expr} {ol oh : En → Option (Option Int)} (ha : SE G N sc fn k a f) (hl : SO G N sc fn k lo ol) (hh : SO G N sc fn k hi oh) : SL G N sc fn k (.Subscript a (.Slice lo hi none p2) pos) (eSl f ol oh) := fun X C W tk =>
  PE.imp (pe_slice L2.sl_list (ha X C W tk true) (hl X C W tk) (hh X C W tk)) fun σ H Q h => by
    obtain ⟨ρ, ow, rs, he, gd, post⟩ := h
    refine tE.go gd he (fun n pl e => by subst e; exact post) fun d hd1 v H1 s1 r1 => ?_
    split at hd1
    · rename_i l u hl hu
      refine ⟨ρ, ow, l, hl, gd.same s1, fun H2 s2 => ⟨ρ, ow, u, hu, gd.same (s1.trans s2), fun H3 s3 => ?_⟩⟩
      have r3 := r1.same (s2.trans s3)
      cases d with
      | list xs =>
        cases hd1
        obtain ⟨ds, e, post⟩ := post
        cases e
        obtain ⟨a, vs, rfl, h1, r⟩ := r3.list
        exact ⟨a, vs, rfl, SqL.of h1, fun p hp => post p _ H3 ((s1.trans s2).trans s3) hp (r.cut l u)⟩
      | tuple xs => cases hd1; obtain ⟨ds, e, post⟩ := post; cases e
      | str z =>
        simp only [dSl] at hd1
        split at hd1
        · cases hd1; obtain ⟨ds, e, post⟩ := post; cases e
        · cases hd1
      | none => cases hd1
      | bool _ => cases hd1
      | int _ => cases hd1
      | dict _ => cases hd1
    · cases hd1
/-! a comprehension given to a name -/
section
variable {elt iter tg : Expr} {ifs : List Expr} {scope : Scope} {own : List (Str × Nat)} {it : IF} {gf : GF} {cf ef : EF} {y : Str} {py spos : Pos}
theorem tLc_val {X : Cx} {W : WX} {σ : L2.St} {H : Hp} {Q : VK} {ρ : En} {ow : Ow} {r : Rs} (he' : eLc (own.map (·.2)) gf it cf ef false ρ = some r) (gd : Good X.K ow ρ σ H)
    (hx : ∀ n pl, r = .exc n pl → ExP X.K X.mg W σ H n pl)
    (hv : ∀ ys, r = .val (.list ys) → ∀ p vs H2, Same H H2 → H2 p = none → RpAll X.K (OA ow) H2 vs ys → Q (.ref p) (upd H2 p (.lst vs))) :
    tLc (tI sh X.K X.mg W true it) (tG sh X.K (own.map (·.2)) gf) (tT X.K X.mg (fun _ _ _ _ => False) cf) (tE X.K X.mg (fun _ _ _ _ => False) false ef) (own.map (·.2)) σ H Q := by
  unfold eLc at he'
  cases h1 : it true ρ with
  | none => rw [h1] at he'; cases he'
  | some ir =>
    rw [h1] at he'
    cases ir with
    | exc n pl => cases he'; exact ⟨ρ, ow, _, h1, gd, hx n pl rfl⟩
    | it xs =>
      simp only at he'
      split at he'
      · rename_i hc
        rw [Bool.and_eq_true, decide_eq_true_eq] at hc
        cases h2 : lcL cf ef gf (clr ρ (own.map (·.2))) xs with
        | none => rw [h2] at he'; cases he'
        | some ys =>
          rw [h2] at he'
          cases he'
          refine ⟨ρ, ow, _, h1, gd, fun J H' s' wd => ?_⟩
          exact lc_sound (gd.same s') (noOwn_of gd hc.1) wd h2 hc.2 fun p vs H2 s2 hp rv => hv ys rfl p vs H2 (s'.trans s2) hp rv
      · cases he'
theorem eLc_val {sl : List Nat} {b : Bool} {ρ : En} {d : Dt} (h : eLc sl gf it cf ef b ρ = some (.val d)) : ∃ ys, d = .list ys := by
  unfold eLc at h
  split at h
  · split at h
    · cases e : lcL cf ef gf (clr ρ sl) _ with
      | none => rw [e] at h; cases h
      | some ys => rw [e] at h; cases h; exact ⟨ys, rfl⟩
    · cases h
  · cases h
  · cases h
theorem ag_lc (i : Nat) (hi : SI G N sc fn k sh tg iter it) (ok : blkC N sc scope own = true) (hg : SG G N (relS scope sc) (fun x => scope.names.lookup x == some .cell) k sh tg (own.map (·.2)) gf)
    (ht : STs G N (relS scope sc) (fun x => scope.names.lookup x == some .cell) k ifs cf) (he : SE G N (relS scope sc) (fun x => scope.names.lookup x == some .cell) k elt ef)
    (hy : N[i]? = some y := by rfl) (hyl : sc.names.lookup y = some .local := by rfl) (hk : sc.kind = .function := by rfl) (ha : (scope.names.any fun (n, k) => n == y && (k == .local || k == .cell)) = false := by decide +kernel) (hln : (p.line == pos.line) = true := by rfl) (hs : ∀ env x, foldedSetIterable iter env x = pure x := by intro _ _; rfl) :
    SS G N sc fn k (.Assign [.Name y p] (.ListComp elt [⟨tg, iter, ifs, 0⟩] scope pos) spos) (sSet i (eLc (own.map (·.2)) gf it cf ef)) := fun X C T W tk hp => by
  have ok' := blkOk_by ok
  refine PS.imp (ps_setLc (i := i) (own := own) (g := tG sh X.K (own.map (·.2)) gf) (tt := tT X.K X.mg (fun _ _ _ _ => False) cf) (te := tE X.K X.mg (fun _ _ _ _ => False) false ef) C.calm (by rw [C.hN]; exact C.nd) (by rw [C.hN]; exact hy) (by rw [C.hsc]; exact hyl)
    (sw_true (by rw [C.hsc]; exact hk) (by rw [C.hsc]; exact hyl) hln ha) (hi X C W tk true) (by rw [C.hN, C.hsc]; exact ok') (fun s H C' cl fp => hg _ (C.blk s H scope C' cl fp)) (fun s H C' cl fp => ht _ (C.blk s H scope C' cl fp) (fun _ _ _ _ => False) takes0)
    (fun s H C' cl fp => he _ (C.blk s H scope C' cl fp) (fun _ _ _ _ => False) takes0 false) (hs X.env)) fun D σ H h => ?_
  obtain ⟨ρ, ow, o, he', gd, post⟩ := h
  unfold sSet at he'
  cases h1 : eLc (own.map (·.2)) gf it cf ef false ρ with
  | none => rw [h1] at he'; cases he'
  | some r =>
    rw [h1] at he'
    refine tLc_val (W := W) h1 gd (fun n pl e => ?_) fun ys e p vs H2 s2 hp rv => ?_
    · subst e; cases he'; exact post.exp
    · subst e
      cases he'
      have s3 : Same H (upd H2 p (.lst vs)) := s2.trans (Same.upd hp)
      exact post (ow.clr [i]) _ _ ((Same.stp s3).trans (Ow.clr_stp ow [i] _)) ((gd.same s3).setA (.lst upd_same ((gd.ok.same s2).new hp) (RpAll.same (Same.upd hp) rv)))
theorem ag_lcO (i : Nat) (hi : SI G N sc fn k sh tg iter it) (ok : blkC N sc scope own = true) (hg : SG G N (relS scope sc) (fun x => scope.names.lookup x == some .cell) k sh tg (own.map (·.2)) gf)
    (ht : STs G N (relS scope sc) (fun x => scope.names.lookup x == some .cell) k ifs cf) (he : SE G N (relS scope sc) (fun x => scope.names.lookup x == some .cell) k elt ef)
    (hy : N[i]? = some y := by rfl) (hyl : sc.names.lookup y = some .local := by rfl) (hk : sc.kind = .function := by rfl) (ha : (scope.names.any fun (n, k) => n == y && (k == .local || k == .cell)) = false := by decide +kernel) (hln : (p.line == pos.line) = true := by rfl) (hs : ∀ env x, foldedSetIterable iter env x = pure x := by intro _ _; rfl) :
    SS G N sc fn k (.Assign [.Name y p] (.ListComp elt [⟨tg, iter, ifs, 0⟩] scope pos) spos) (sSetO i (eLc (own.map (·.2)) gf it cf ef)) := fun X C T W tk hp => by
  have ok' := blkOk_by ok
  refine PS.imp (ps_setLc (i := i) (own := own) (g := tG sh X.K (own.map (·.2)) gf) (tt := tT X.K X.mg (fun _ _ _ _ => False) cf) (te := tE X.K X.mg (fun _ _ _ _ => False) false ef) C.calm (by rw [C.hN]; exact C.nd) (by rw [C.hN]; exact hy) (by rw [C.hsc]; exact hyl)
    (sw_true (by rw [C.hsc]; exact hk) (by rw [C.hsc]; exact hyl) hln ha) (hi X C W tk true) (by rw [C.hN, C.hsc]; exact ok') (fun s H C' cl fp => hg _ (C.blk s H scope C' cl fp)) (fun s H C' cl fp => ht _ (C.blk s H scope C' cl fp) (fun _ _ _ _ => False) takes0)
    (fun s H C' cl fp => he _ (C.blk s H scope C' cl fp) (fun _ _ _ _ => False) takes0 false) (hs X.env)) fun D σ H h => ?_
  obtain ⟨ρ, ow, o, he', gd, post⟩ := h
  unfold sSetO at he'
  cases h1 : eLc (own.map (·.2)) gf it cf ef true ρ with
  | none => rw [h1] at he'; cases he'
  | some r =>
    rw [h1] at he'
    refine tLc_val (W := W) h1 gd (fun n pl e => ?_) fun ys e p vs H2 s2 hp rv => ?_
    · subst e; cases he'; exact post.exp
    · subst e
      simp only [bndS] at he'
      split at he'
      · rename_i hi
        cases he'
        exact post _ _ _ ((Same.stp s2).trans (Ow.put_stp hp)) ((gd.same s2).setO hi hp rv)
      · cases he'
end
end
end PT

namespace PT
open PySem PySem.Spec PyProof.Rows L2
section
variable {G : Gc} {N : List Str} {sc : Scope} {fn : Str → Bool} {k : Nat} {pos p p2 q1 q2 q3 : Pos} {st : Stmt} {rest : List Stmt} {a b c : Expr} {f g h : EF} {s1 s2 : SF}
/-! ### unpacking a tuple -/
def sUnp (sl : List Nat) (gf : GF) (f : EF) : SF := fun ρ => bndS (f false ρ) fun d => (gf d (clr ρ sl)).map .nx
theorem ss_unp {tg : Expr} {sl : List Nat} {gf : GF} (he : SE G N sc fn k a f) (hg : SG G N sc fn k .d tg sl gf)
    (hs : ∀ (l : Nat) (env : PySem.Env), swapsWithSole [tg] a l env = pure false := by intro _ _; rfl) (hw : ∀ env : PySem.Env, swappedStores [tg] a env = pure none := by intro _; rfl)
    (h1 : ∀ env : PySem.Env, (assignEach [tg] env).map (·.2) = [assign tg env] := by intro _; rfl) : SS G N sc fn k (.Assign [tg] a pos) (sUnp sl gf f) := fun X C T W tk hp =>
  PS.imp (ps_asg (he X C W tk false) (hg X C) (hs _ X.env) (hw X.env) (h1 X.env)) fun D σ H h => by
    obtain ⟨ρ, ow, o, he, gd, post⟩ := h
    refine tE.goS gd he post fun d hd v H1 s1 r1 => ?_
    cases hz : gf d (clr ρ sl) with
    | none => rw [hz] at hd; cases hd
    | some ρ1 =>
      rw [hz] at hd
      cases hd
      have g1 := (gd.same s1).clr sl
      exact ⟨clr ρ sl, ow.clr sl, d, ρ1, Ow.clr_none, hz, g1, Rp.stp (gd.ok.same s1) (Ow.clr_stp ow sl H1) r1.rp, fun σ' g' _ _ => post _ σ' H1 ((Same.stp s1).trans (Ow.clr_stp ow sl H1)) g'⟩
theorem sw_const {x y : Str} {px py : Pos} {kt k2 j1 j2 : Nat} {pt pt2 : Pos} {c1 c2 : Const} (env : PySem.Env) :
    swappedStores [.Tuple [.Name x px, .Name y py] kt pt] (.Tuple [.Constant c1 j1 q1, .Constant c2 j2 q2] k2 pt2) env = pure none := by
  unfold swappedStores
  simp [foldedForSure]
/-! ### a, b = e1, e2 -/
def sPar (i j : Nat) (f g : EF) : SF := fun ρ => bndS (f false ρ) fun x => bndS (g false ρ) fun y => if i < ρ.length then some (.nx ((ρ.set i (some (.sh x))).set j (some (.sh y)))) else none
theorem sw_par {x y : Str} {px py : Pos} {kt k2 : Nat} {pt pt2 : Pos} {env : PySem.Env} (hk : env.scope.kind = .function) (hx : env.scope.names.lookup x = some .local) (hy : env.scope.names.lookup y = some .local) (hl : (px.line == py.line) = true) (hxy : (x == y) = false)
    (hst : ([a, b].any fun | .Starred .. => true | _ => false) = false) (hc : [a, b].all (constantsAlone 8) = false) (hf : [a, b].all (foldedForSure 8) = false) :
    swappedStores [.Tuple [.Name x px, .Name y py] kt pt] (.Tuple [a, b] k2 pt2) env = pure (some [x, y]) := by
  have hb : env.blockKind = .function := by unfold Env.blockKind; rw [hk]; rfl
  have kx : env.kindOf x = some .local := hx
  have ky : env.kindOf y = some .local := hy
  have e1 : px.line = py.line := by simpa using hl
  have hne : x ≠ y := by simpa using hxy
  have hne2 : (y == x) = false := by simp; exact fun e => hne e.symm
  unfold swappedStores
  simp only [hc, hf, hb, kx, ky, e1]
  simp [List.eraseDups_cons, hxy, hne2, kx, ky, e1, Expr.pos]
  intro hq
  simp only [List.any_cons, List.any_nil, Bool.or_false, Bool.or_eq_false_iff] at hst
  rcases hq with hq | hq
  · exact absurd ((hst.1.symm.trans hq : false = true)) (by decide)
  · exact absurd ((hst.2.symm.trans hq : false = true)) (by decide)
theorem tPar_of {K : PySem.W.Frag} {mg : Str → Option Value} {W : WX} {i j : Nat} {D : Ends} {σ : L2.St} {H : Hp} (h : tS K mg W (sPar i j f g) D σ H) : tPar i j (tCons (tE K mg W false f) (tCons (tE K mg W false g) tNil)) D σ H := by
  obtain ⟨ρ, ow, o, he, gd, post⟩ := h
  refine tE.goS gd he post fun d hd v H1 s1 r1 => ?_
  refine tE.goS (gd.same s1) hd (post.stp (Same.stp s1)) fun d2 hd2 v2 H2 s2 r2 => ?_
  split at hd2
  · cases hd2
    refine ⟨v, v2, rfl, ?_⟩
    have g1 := ((gd.same (s1.trans s2)).setA (i := i) (Rp.same s2 r1.rp))
    have g2 := g1.setA (i := j) (Rp.stp (gd.ok.same (s1.trans s2)) (Ow.clr_stp ow [i] H2) r2.rp)
    exact post _ _ H2 (((Same.stp (s1.trans s2)).trans (Ow.clr_stp ow [i] H2)).trans (Ow.clr_stp (ow.clr [i]) [j] H2)) g2
  · cases hd2
theorem ss_par (i j : Nat) {x y : Str} {px py : Pos} {kt k2 : Nat} {pt pt2 : Pos} (ha : SE G N sc fn k a f) (hb : SE G N sc fn k b g) (hi : N[i]? = some x := by rfl) (hj : N[j]? = some y := by rfl) (hij : i ≠ j := by decide)
    (hk : sc.kind = .function := by rfl) (hx : sc.names.lookup x = some .local := by rfl) (hy : sc.names.lookup y = some .local := by rfl) (hl : (px.line == py.line) = true := by rfl) (hxy : (x == y) = false := by decide)
    (hst : ([a, b].any fun | .Starred .. => true | _ => false) = false := by rfl) (hc : [a, b].all (constantsAlone 8) = false := by rfl) (hf : [a, b].all (foldedForSure 8) = false := by rfl)
    (hs : ∀ (l : Nat) (env : PySem.Env), swapsWithSole [.Tuple [.Name x px, .Name y py] kt pt] (.Tuple [a, b] k2 pt2) l env = pure false := by intro _ _; rfl) (ns : NS a := by intro _ _; rfl) (ns2 : NS b := by intro _ _; rfl) :
    SS G N sc fn k (.Assign [.Tuple [.Name x px, .Name y py] kt pt] (.Tuple [a, b] k2 pt2) pos) (sPar i j f g) := fun X C T W tk hp =>
  PS.imp (ps_par C.calm (by rw [C.hN]; exact C.nd) (by rw [C.hN]; exact hi) (by rw [C.hN]; exact hj) hij (by rw [C.hsc]; exact hx) (by rw [C.hsc]; exact hy) (pa_cons (ha X C W tk false) (pa_cons (hb X C W tk false) pa_nil (ns2 _ X.env)) (ns _ X.env))
    (sw_par (by rw [C.hsc]; exact hk) (by rw [C.hsc]; exact hx) (by rw [C.hsc]; exact hy) hl hxy hst hc hf) (hs _ X.env)) fun D σ H h => tPar_of h
/-- a, b = [..], e: a new list, and data -/
def sParO (i j : Nat) (f g : EF) : SF := fun ρ => bndS (f true ρ) fun x => bndS (g false ρ) fun y => match x with
  | .list ds => if i < ρ.length then some (.nx ((ρ.set i (some (.own ds))).set j (some (.sh y)))) else none
  | _ => none
theorem List_set_two {α : Type} (l : List α) {i j : Nat} (h : i ≠ j) (x y : α) : (l.set i x).set j y = (l.set j y).set i x := List.set_comm _ _ h
/-! ### x op= e (ints) -/
def sAug (i : Nat) (op : Dt → Dt → Option Dt) (f : EF) : SF := fun ρ => match ρ[i]? with
  | some (some (.sh x)) => bndS (f true ρ) fun y => (op x y).map fun z => .nx (ρ.set i (some (.sh z)))
  | _ => none
theorem ss_aug (i : Nat) {y : Str} {op : Operator} {r : R2} {dop : Dt → Dt → Option Dt} (ho : ∀ X : Cx, OpR X (inplaceOp op) r) (hd : ∀ K, RD K r dop) (ha : SE G N sc fn k a f) (hi : N[i]? = some y) (hx : Loc sc y) (hf : fn y = true ∨ sc.names.lookup y = some .local) :
    SS G N sc fn k (.AugAssign (.Name y p) op a pos) (sAug i dop f) := fun X C T W tk hp =>
  PS.imp (ps_aug (ti := r) (by rw [C.hN]; exact C.nd) (by rw [C.hN]; exact hi) (by rw [C.hsc]; exact hx) (ha X C W tk true) (fun pins s σ H x y v u Q I rx ry q => ho X pins s σ H x y v u Q I rx ry q) (by rw [C.hfn, C.hsc]; exact hf)) fun D σ H h => by
    obtain ⟨ρ, ow, o, he, gd, post⟩ := h
    unfold sAug at he
    split at he
    · rename_i x hx
      obtain ⟨v, hv, rv⟩ := gd.slot i _ hx
      refine ⟨v, hv, tE.goS gd he post fun d hd1 v1 H1 s1 r1 => ?_⟩
      cases hz : dop x d with
      | none => rw [hz] at hd1; cases hd1
      | some z =>
        rw [hz] at hd1
        cases hd1
        exact hd X.K v v1 H1 _ ow x d z (gd.ok.same s1) (.inl (Rp.same s1 rv)) r1 hz fun v' H' s' q => post _ _ H' ((Same.stp (s1.trans s')).trans (Ow.clr_stp ow [i] H')) ((gd.same (s1.trans s')).setA q)
    · cases he
def dAddI : Dt → Dt → Option Dt
  | .int i, .int j => some (.int (i + j))
  | _, _ => none
theorem rd_addI (K : PySem.W.Frag) : RD K (rI0 fun i j => .int (i + j)) dAddI := by
  intro x y H Q ow dx dy dz ok rx ry e post
  unfold dAddI at e
  split at e
  · cases e
    obtain rfl := rx.int
    obtain rfl := ry.int
    exact ⟨_, _, rfl, rfl, post _ H (Same.refl H) (.int _)⟩
  · cases e
def dMulI : Dt → Dt → Option Dt := dI (fun i j => sml i || sml j) fun i j => i * j
def dDivI : Dt → Dt → Option Dt := dI (fun _ j => decide (0 < j) && decide (j < 1073741824)) fun i j => i / j
theorem ss_augAdd (i : Nat) {y : Str} (ha : SE G N sc fn k a f) (hi : N[i]? = some y := by rfl) (hx : Loc sc y := by first | exact Or.inl rfl | exact Or.inr rfl) (hf : fn y = true ∨ sc.names.lookup y = some .local := by first | exact .inl rfl | exact .inr rfl) : SS G N sc fn k (.AugAssign (.Name y p) .Add a pos) (sAug i dAddI f) :=
  ss_aug i (fun X => iop_add) rd_addI ha hi hx hf
theorem ss_augMul (i : Nat) {y : Str} (ha : SE G N sc fn k a f) (hi : N[i]? = some y := by rfl) (hx : Loc sc y := by first | exact Or.inl rfl | exact Or.inr rfl) (hf : fn y = true ∨ sc.names.lookup y = some .local := by first | exact .inl rfl | exact .inr rfl) : SS G N sc fn k (.AugAssign (.Name y p) .Mult a pos) (sAug i dMulI f) :=
  ss_aug i (fun X => iop_mul) (fun K => rd_I fun i j h => by rw [Bool.or_eq_true, sml_iff, sml_iff] at h; exact h) ha hi hx hf
theorem ss_augDiv (i : Nat) {y : Str} (ha : SE G N sc fn k a f) (hi : N[i]? = some y := by rfl) (hx : Loc sc y := by first | exact Or.inl rfl | exact Or.inr rfl) (hf : fn y = true ∨ sc.names.lookup y = some .local := by first | exact .inl rfl | exact .inr rfl) : SS G N sc fn k (.AugAssign (.Name y p) .FloorDiv a pos) (sAug i dDivI f) :=
  ss_aug i (fun X => iop_fdiv) (fun K => rd_I fun i j h => by simpa [CDiv] using h) ha hi hx hf
/-! ### lists that a slot owns: append, extend, xs[i] = e -/
def sApp (i : Nat) (f : EF) : SF := fun ρ => match ρ[i]? with
  | some (some (.own xs)) => bndS (f false ρ) fun d => if xs.length < lim then some (.nx (ρ.set i (some (.own (xs ++ [d]))))) else none
  | _ => none
theorem own_at {K : PySem.W.Frag} {ow : Ow} {ρ : En} {σ : L2.St} {H : Hp} {i : Nat} {xs : List Dt} (gd : Good K ow ρ σ H) (h : ρ[i]? = some (some (.own xs))) : ∃ a vs, σ[i]? = some (some (.ref a)) ∧ ow.f i = some a ∧ H a = some (.lst vs) ∧ RpAll K (OA ow) H vs xs := by
  obtain ⟨v, hv, a, vs, rfl, h2, h3, h4⟩ := gd.slot i _ h
  exact ⟨a, vs, hv, h2, h3, h4⟩
theorem pe_vr {X : Cx} (C : Ctx G N sc fn k X) (i : Nat) {x : Str} {q : Pos} (hN : N[i]? = some x) (hv : Vis sc x) (hd : (x == ("__debug__" : Str)) = false) (hcd : (x == ("__classdict__" : Str)) = false) : PE X (.Name x q) (tVar i) :=
  pe_var (by rw [C.hN]; exact hN) (by rw [C.hsc]; exact hv) hd hcd
theorem ss_app (i : Nat) {x : Str} (ha : SE G N sc fn k a f) (hN : N[i]? = some x := by rfl) (hv : Vis sc x := by first | exact Or.inl rfl | exact Or.inr (Or.inl rfl) | exact Or.inr (Or.inr rfl)) (hd : (x == ("__debug__" : Str)) = false := by decide) (hcd : (x == ("__classdict__" : Str)) = false := by decide)
    (ns : NS a := by intro _ _; rfl) (hb : ∀ env : PySem.Env, attributeBase (.Name x q1) "append" env (eval (.Name x q1) env) = eval (.Name x q1) env := by intro _; rfl) (hln : (q2.endLine == q3.line) = true := by rfl) :
    SS G N sc fn k (.Expr (.Call (.Attribute (.Name x q1) "append" q2) [a] [] q3) pos) (sApp i f) := fun X C T W tk hp =>
  PS.imp (ps_expr (pe_bm PySem.F.plainAttrs_list PySem.F.slot_list_append PySem.F.type_list_append mt_append (pe_vr C i hN hv hd hcd) (pa_cons (ha X C W tk false) pa_nil (ns _ X.env)) (hb X.env) (by rw [ns [] X.env]; rfl) hln (ns _ X.env) rfl)) fun D σ H h => by
    obtain ⟨ρ, ow, o, he, gd, post⟩ := h
    unfold sApp at he
    split at he
    · rename_i xs hx
      obtain ⟨a', vs, hs, ho, hH, rv⟩ := own_at gd hx
      refine ⟨_, hs, .inl ⟨rfl, vs, SqL.of hH⟩, tE.goS gd he post fun d hd1 v1 H1 s1 r1 => ?_⟩
      split at hd1
      · rename_i hz
        cases hd1
        refine ⟨a', vs, v1, rfl, rfl, s1 _ _ hH, by rw [rv.length]; exact Nat.lt_of_lt_of_le hz (by decide), ?_⟩
        exact post ow σ _ ((Same.stp s1).trans (Ow.mut_stp ho)) ((gd.same s1).mut ho (RpAll.snoc (RpAll.same s1 rv) r1.rp))
      · cases hd1
    · cases he
def sExt (i : Nat) (f : EF) : SF := fun ρ => match ρ[i]? with
  | some (some (.own xs)) => bndS (f true ρ) fun d => (match d with
    | .list ys => if xs.length + ys.length ≤ lim then some (.nx (ρ.set i (some (.own (xs ++ ys))))) else none
    | _ => none)
  | _ => none
theorem ss_ext (i : Nat) {x : Str} (ha : SE G N sc fn k a f) (hN : N[i]? = some x := by rfl) (hv : Vis sc x := by first | exact Or.inl rfl | exact Or.inr (Or.inl rfl) | exact Or.inr (Or.inr rfl)) (hd : (x == ("__debug__" : Str)) = false := by decide) (hcd : (x == ("__classdict__" : Str)) = false := by decide)
    (ns : NS a := by intro _ _; rfl) (hb : ∀ env : PySem.Env, attributeBase (.Name x q1) "extend" env (eval (.Name x q1) env) = eval (.Name x q1) env := by intro _; rfl) (hln : (q2.endLine == q3.line) = true := by rfl) :
    SS G N sc fn k (.Expr (.Call (.Attribute (.Name x q1) "extend" q2) [a] [] q3) pos) (sExt i f) := fun X C T W tk hp =>
  PS.imp (ps_expr (pe_bm PySem.F.plainAttrs_list PySem.F.slot_list_extend PySem.F.type_list_extend mt_extend (pe_vr C i hN hv hd hcd) (pa_cons (ha X C W tk true) pa_nil (ns _ X.env)) (hb X.env) (by rw [ns [] X.env]; rfl) hln (ns _ X.env) rfl)) fun D σ H h => by
    obtain ⟨ρ, ow, o, he, gd, post⟩ := h
    unfold sExt at he
    split at he
    · rename_i xs hx
      obtain ⟨a', vs, hs, ho, hH, rv⟩ := own_at gd hx
      refine ⟨_, hs, .inl ⟨rfl, vs, SqL.of hH⟩, tE.goS gd he post fun d hd1 v1 H1 s1 r1 => ?_⟩
      split at hd1
      · split at hd1
        · rename_i ys hz
          cases hd1
          obtain ⟨b', ws, rfl, hb, rw'⟩ := r1.list
          refine ⟨a', b', vs, ws, rfl, rfl, s1 _ _ hH, hb, by rw [rv.length, rw'.length]; exact lim_le hz, ?_⟩
          exact post ow σ _ ((Same.stp s1).trans (Ow.mut_stp ho)) ((gd.same s1).mut ho ((RpAll.same s1 rv).append rw'))
        · cases hd1
      · cases hd1
    · cases he
/-- x[e1] = e2, x owned; e2 first, then e1 -/
def sPut (i : Nat) (f g : EF) : SF := fun ρ => match ρ[i]? with
  | some (some (.own xs)) => bndS (g false ρ) fun d => bndS (f true ρ) fun j => (match j with
    | .int m => (match ixN xs.length m with
      | some n => some (.nx (ρ.set i (some (.own (xs.set n d)))))
      | none => none)
    | _ => none)
  | _ => none
theorem ss_put (i : Nat) {x : Str} (ha : SE G N sc fn k a f) (hb : SE G N sc fn k b g) (hN : N[i]? = some x := by rfl) (hv : Vis sc x := by first | exact Or.inl rfl | exact Or.inr (Or.inl rfl) | exact Or.inr (Or.inr rfl)) (hd : (x == ("__debug__" : Str)) = false := by decide) (hcd : (x == ("__classdict__" : Str)) = false := by decide)
    (hsa : ∀ (env : PySem.Env) v, assign (.Subscript (.Name x q1) a q2) env v = (do
      let ov ← holding [v] (eval (.Name x q1) env)
      let iv ← holding [v, ov] (eval a env)
      standAt q2
      holding [v, ov, iv] (setItem ov iv v)
      release [v, ov, iv] []) := by intro _ _; rfl)
    (hs : ∀ (l : Nat) (env : PySem.Env), swapsWithSole [.Subscript (.Name x q1) a q2] b l env = pure false := by intro _ _; rfl) (hw : ∀ env : PySem.Env, swappedStores [.Subscript (.Name x q1) a q2] b env = pure none := by intro _; rfl)
    (h1 : ∀ env : PySem.Env, (assignEach [.Subscript (.Name x q1) a q2] env).map (·.2) = [assign (.Subscript (.Name x q1) a q2) env] := by intro _; rfl) :
    SS G N sc fn k (.Assign [.Subscript (.Name x q1) a q2] b pos) (sPut i f g) := fun X C T W tk hp =>
  PS.imp (ps_asg (hb X C W tk false) (pg_sub (pe_vr C i hN hv hd hcd) (ha X C W tk true) set_list (hsa X.env)) (hs _ X.env) (hw X.env) (h1 X.env)) fun D σ H h => by
    obtain ⟨ρ, ow, o, he, gd, post⟩ := h
    unfold sPut at he
    split at he
    · rename_i xs hx
      obtain ⟨a', vs, hs, ho, hH, rv⟩ := own_at gd hx
      refine tE.goS gd he post fun d hd1 v1 H1 s1 r1 => ⟨_, hs, tE.goS (gd.same s1) hd1 (post.stp (Same.stp s1)) fun d2 hd2 v2 H2 s2 r2 => ?_⟩
      split at hd2
      · split at hd2
        · rename_i m _ n hn
          cases hd2
          obtain rfl := r2.int
          refine ⟨a', vs, m, n, rfl, rfl, s2 _ _ (s1 _ _ hH), by rw [rv.length]; exact hn, ?_⟩
          exact post ow σ _ ((Same.stp (s1.trans s2)).trans (Ow.mut_stp ho)) ((gd.same (s1.trans s2)).mut ho (RpAll.set (Rp.same s2 r1.rp) n (RpAll.same (s1.trans s2) rv)))
        · cases hd2
      · cases hd2
    · cases he
/-! ### e; return e; raise; if -/
def sDo (f : EF) : SF := fun ρ => bndS (f true ρ) fun _ => some (.nx ρ)
theorem ss_do (ha : SE G N sc fn k a f) (hs : ∀ (l : Nat) (env : PySem.Env), swapsWith a none l env = pure false := by intro _ _; rfl) : SS G N sc fn k (.Expr a pos) (sDo f) := fun X C T W tk hp =>
  PS.imp (ps_expr (ha X C W tk true) (hs _ X.env)) fun D σ H h => by
    obtain ⟨ρ, ow, o, he, gd, post⟩ := h
    refine tE.goS gd he post fun d hd v H1 s1 r1 => ?_
    cases hd
    exact post ow σ H1 (Same.stp s1) (gd.same s1)
def sRet (f : EF) : SF := fun ρ => bndS (f true ρ) fun d => some (.rt d)
theorem ss_ret (ha : SE G N sc fn k a f) : SS G N sc fn k (.Return (some a) pos) (sRet f) := fun X C T W tk hp =>
  PS.imp (ps_ret (ha X C W tk true)) fun D σ H h => by
    obtain ⟨ρ, ow, o, he, gd, post⟩ := h
    refine tE.goS gd he post fun d hd v H1 s1 r1 => ?_
    cases hd
    exact post v H1 (Same.kp s1) r1.out
/-- an own exception class without an own __init__ -/
def ExcC (G : Gc) (x : Str) : Prop := ∃ C, G.mg x = some (.ref C) ∧ PySem.W.excIn G.K C [.type "ValueError", .type "Exception", .type "BaseException", .type "object"] "ValueError.__new__" = true ∧ PySem.W.keepIn G.K (.ref C) = true ∧ PySem.W.subIn G.K (.ref C) (.type "BaseException") = some true ∧ PySem.W.typeIn G.K (.ref C) = some (.type "type")
def sRaise (x : Str) : SF := fun _ => some (.ex x none)
theorem ss_raise {x m : Str} {j : Nat} {q : Pos} (E : ExcC G x) (hg : GL sc x := by rfl) (hdb : (x == ("__debug__" : Str)) = false := by decide) : SS G N sc fn k (.Raise (some (.Call (.Name x p) [.Constant (.str m) j p2] [] q)) none pos) (sRaise x) := fun X C T W tk hp => by
  obtain ⟨A, h1, h2, h3, h4, h5⟩ := E
  refine PS.imp (ps_raise C.calm tk (pmk_own PySem.F.excBase_ValueError (by rw [C.hK]; exact h2) (by rw [C.hmg]; exact h1) (by rw [C.hK]; exact h3) (raises_own (by rw [C.hK]; exact h4) (by rw [C.hK]; exact h5)) (C.gl hg) hdb)) fun D σ H h => ?_
  obtain ⟨ρ, ow, o, he, gd, post⟩ := h
  cases he
  exact post _ _ σ H (by rw [C.hmg]; exact h1) (Same.kp (Same.refl H)) rfl
def sIf (c : EF) (g h : SF) : SF := fun ρ => bndS (c true ρ) fun x => match tru x with
  | some true => g ρ
  | some false => h ρ
  | none => none
theorem ss_if {as bs : List Stmt} (hc : ST G N sc fn k c f) (ha : SB G N sc fn k as s1) (hb : SB G N sc fn k bs s2) : SS G N sc fn k (.If c as bs pos) (sIf f s1 s2) := fun X C T W tk hp =>
  PS.imp (ps_if (hc X C W tk) (ha X C T W tk hp) (hb X C T W tk hp)) fun D σ H h => by
    obtain ⟨ρ, ow, o, he, gd, post⟩ := h
    refine tT.goS gd he post fun d hd => ?_
    split at hd
    · rename_i hc
      exact ⟨true, hc, fun H1 s1 => by rw [if_pos rfl]; exact ⟨ρ, ow, o, hd, gd.same s1, post.stp (Same.stp s1)⟩⟩
    · rename_i hc
      exact ⟨false, hc, fun H1 s1 => by rw [if_neg Bool.false_ne_true]; exact ⟨ρ, ow, o, hd, gd.same s1, post.stp (Same.stp s1)⟩⟩
    · cases hd
/-! ### for -/
def forL (sl : List Nat) (tg : GF) (body : SF) : List Dt → En → Option Out
  | [], ρ => some (.nx ρ)
  | x :: xs, ρ => match tg x (clr ρ sl) with
    | none => none
    | some ρ1 => match body ρ1 with
      | some (.nx ρ2) => forL sl tg body xs ρ2
      | y => y
def sFor (sl : List Nat) (tg : GF) (it : IF) (body : SF) : SF := fun ρ => match it false ρ with
  | some (.it xs) => forL sl tg body xs ρ
  | some (.exc n pl) => some (.ex n pl)
  | none => none
theorem ss_for {sh : Shp} {tg iter : Expr} {body : List Stmt} {sl : List Nat} {gf : GF} {it : IF} (hi : SI G N sc fn k sh tg iter it) (hg : SG G N sc fn k sh tg sl gf) (hb : SB G N sc fn k body s1) (hs : ∀ (env : PySem.Env) x, foldedSetIterable iter env x = pure x := by intro _ _; rfl) :
    SS G N sc fn k (.For tg iter body [] pos) (sFor sl gf it s1) := fun X C T W tk hp =>
  PS.imp (ps_for hp C.calm (hi X C W tk false) (hg X C) (hb X C T W tk hp) (hs X.env)) fun D σ H h => by
    obtain ⟨ρ, ow, o, he, gd, post⟩ := h
    unfold sFor at he
    cases h1 : it false ρ with
    | none => rw [h1] at he; cases he
    | some ir =>
      rw [h1] at he
      cases ir with
      | exc n pl => cases he; exact ⟨ρ, ow, _, h1, gd, post.exp⟩
      | it xs =>
        simp only at he
        refine ⟨ρ, ow, _, h1, gd, fun J H1 sH1 wd => ?_⟩
        have post1 := post.stp (Same.stp sH1)
        let Wv : Nat → Nat → L2.St → Hp → Prop := fun i m σ' H' => m = xs.length - i ∧ i ≤ xs.length ∧ ∃ ρ' ow', forL sl gf s1 (xs.drop i) ρ' = some o ∧ Stp ow H1 ow' H' ∧ Good X.K ow' ρ' σ' H'
        refine ⟨Wv, ⟨xs.length, by simp, Nat.zero_le _, ρ, ow, by simpa using he, Stp.refl ow H1, gd.same sH1⟩, ?_⟩
        rintro i m σ' H' ⟨rfl, hi, ρ', ow', hf, st', g'⟩
        have wd1 := wd ow' H' st' g'.ok
        by_cases hlt : i < xs.length
        · right
          rw [List.drop_eq_getElem_cons hlt] at hf
          refine ⟨wd1.go i hlt, fun σ2 H2 => Wv (i + 1) (xs.length - (i + 1)) σ2 H2, fun σ2 H2 h => ⟨_, by omega, h⟩, fun x H2 y => ?_⟩
          obtain ⟨s2, d, hd, rx⟩ := wd1.yld i x H2 hlt y
          have hd' : xs[i] = d := by rw [List.getElem?_eq_getElem hlt] at hd; exact Option.some.inj hd
          rw [hd'] at hf
          unfold forL at hf
          have g2 := g'.same s2
          cases ht : gf d (clr ρ' sl) with
          | none => rw [ht] at hf; cases hf
          | some ρ1 =>
            rw [ht] at hf
            simp only at hf
            refine ⟨clr ρ' sl, ow'.clr sl, d, ρ1, Ow.clr_none, ht, g2.clr sl, RpS.stp g2.ok (Ow.clr_stp ow' sl H2) rx, fun σ3 g3 _ _ => ?_⟩
            cases hbd : s1 ρ1 with
            | none => rw [hbd] at hf; cases hf
            | some o1 =>
              rw [hbd] at hf
              have st3 : Stp ow H1 (ow'.clr sl) H2 := (st'.trans (Same.stp s2)).trans (Ow.clr_stp ow' sl H2)
              refine ⟨ρ1, ow'.clr sl, o1, hbd, g3, ?_⟩
              cases o1 with
              | nx ρ2 => exact fun ow4 σ4 H4 st4 g4 => ⟨rfl, hlt, ρ2, ow4, hf, st3.trans st4, g4⟩
              | rt dd => cases hf; exact post1.stp st3
              | ex n pl => cases hf; exact post1.stp st3
        · left
          have e : i = xs.length := by omega
          subst e
          rw [List.drop_length] at hf
          cases hf
          exact ⟨wd1.stop, post1 ow' σ' H' st' g'⟩
/-! ### while -/
def whl (c : EF) (body : SF) : Nat → En → Option Out
  | 0, _ => none
  | n + 1, ρ => bndS (c true ρ) fun x => match tru x with
    | some true => (match body ρ with
      | some (.nx ρ') => whl c body n ρ'
      | y => y)
    | some false => some (.nx ρ)
    | none => none
def sWhile (m : Nat) (c : EF) (body : SF) : SF := whl c body m
theorem ss_while (m : Nat) {body : List Stmt} (hc : ST G N sc fn k c f) (hb : SB G N sc fn k body s1) : SS G N sc fn k (.While c body [] pos) (sWhile m f s1) := fun X C T W tk hp =>
  PS.imp (ps_while hp (hc X C W tk) (hb X C T W tk hp)) fun D σ H h => by
    obtain ⟨ρ, ow, o, he, gd, post⟩ := h
    refine ⟨fun n σ' H' => ∃ ρ' ow', whl f s1 n ρ' = some o ∧ Stp ow H ow' H' ∧ Good X.K ow' ρ' σ' H', ⟨m, ρ, ow, he, Stp.refl ow H, gd⟩, ?_⟩
    rintro n σ' H' ⟨ρ', ow', hw, st', g'⟩
    cases n with
    | zero => cases hw
    | succ n =>
      unfold whl at hw
      refine tT.goS g' hw (post.stp st') fun d hd => ?_
      split at hd
      · rename_i hc
        refine ⟨true, hc, fun H1 s1' => ?_⟩
        rw [if_pos rfl]
        refine ⟨fun σ2 H2 => ∃ ρ' ow', whl f s1 n ρ' = some o ∧ Stp ow H ow' H2 ∧ Good X.K ow' ρ' σ2 H2, fun σ2 H2 h => ⟨n, Nat.lt_succ_self n, h⟩, ?_⟩
        cases hbd : s1 ρ' with
        | none => rw [hbd] at hd; cases hd
        | some o1 =>
          rw [hbd] at hd
          have st1 := st'.trans (Same.stp s1')
          refine ⟨ρ', ow', o1, hbd, g'.same s1', ?_⟩
          cases o1 with
          | nx ρ2 => exact fun ow4 σ4 H4 st4 g4 => ⟨ρ2, ow4, hd, st1.trans st4, g4⟩
          | rt dd => cases hd; exact post.stp st1
          | ex n pl => cases hd; exact post.stp st1
      · rename_i hc
        cases hd
        refine ⟨false, hc, fun H1 s1' => ?_⟩
        rw [if_neg Bool.false_ne_true]
        exact post ow' σ' H1 (st'.trans (Same.stp s1')) (g'.same s1')
      · cases hd
end

/-! ## a def -/
def start0 (n : Nat) (ds : List Dt) : En := ds.map (fun d => some (.sh d)) ++ List.replicate (n - ds.length) none
def runB (n : Nat) (g : SF) (ds : List Dt) : Option Rs := match g (start0 n ds) with
  | some (.rt d) => some (.val d)
  | some (.nx _) => some (.val .none)
  | some (.ex n pl) => some (.exc n pl)
  | none => none
theorem RpAll.start {K : PySem.W.Frag} {O : Addr → Prop} {H : Hp} {ow : Ow} (hO : OA ow = O) : ∀ {vs : List V} {ds : List Dt}, RpAll K O H vs ds → ∀ (i : Nat) (s : SV), (ds.map (fun d => some (SV.sh d)))[i]? = some (some s) → ∃ v, (vs.map some)[i]? = some (some v) ∧ SlotOk K ow i H v s := by
  intro vs ds r i s h
  rw [List.getElem?_map] at h
  cases e : ds[i]? with
  | none => rw [e] at h; cases h
  | some d =>
    rw [e] at h
    cases h
    obtain ⟨v, hv, q⟩ := r.get e
    exact ⟨v, by rw [List.getElem?_map, hv]; rfl, by show Rp K (OA ow) H v d; rw [hO]; exact q⟩
theorem good0 {K : PySem.W.Frag} {O : Addr → Prop} {H : Hp} {vs : List V} {ds : List Dt} {N : List Str} (hO : ∀ a, O a → H a ≠ none) (r : RpAll K O H vs ds) : Good K (Ow.out O) (start0 N.length ds) (L2.start N vs) H := by
  have hOA : OA (Ow.out O) = O := by
    funext a
    apply propext
    constructor
    · rintro (⟨i, hi | hi⟩ | h)
      · cases hi
      · exact hi.elim
      · exact h
    · exact fun h => .inr h
  refine ⟨?_, fun i j a h => (nomatch h), ⟨fun i a h => (nomatch h), hO, fun _ _ h => h.elim⟩, fun i a h => (nomatch h), fun i s h => ?_, fun i a h => (nomatch h), fun _ _ _ h => h.elim, fun _ _ _ h => h.elim, fun _ _ h => h.elim, fun _ _ h => h.elim⟩
  · unfold start0 L2.start
    rw [List.length_append, List.length_append, List.length_map, List.length_map, List.length_replicate, List.length_replicate, r.length]
  · unfold start0 at h
    unfold L2.start
    by_cases hi : i < ds.length
    · rw [List.getElem?_append_left (by rw [List.length_map]; exact hi)] at h
      obtain ⟨v, hv, q⟩ := r.start hOA i s h
      exact ⟨v, by rw [List.getElem?_append_left (by rw [List.length_map, r.length]; exact hi)]; exact hv, q⟩
    · rw [List.getElem?_append_right (by rw [List.length_map]; omega)] at h
      rw [List.getElem?_replicate] at h
      split at h
      · cases h
      · cases h
theorem fn_okD {G : Gc} {x qual : Str} {params : Arguments} {body : List Stmt} {scope : Scope} {f : Addr} {fd : FuncData} {N ps : List Str} {k : Nat} {g : SF} {F : List Dt → Option Rs} (Fu : FunD G.K x qual params body scope [] [] f fd) (S : FnScope N ps scope)
    (hB : SB G N scope (fun x => true) k body g) (hF : ∀ ds r, ds.length = ps.length → F ds = some r → runB N.length g ds = some r) : FnOk G.P G.w G.K G.mg G.base (L2.CX G.P G.w) (k + 1) f fd ps (spF G.K G.mg ps.length F) := by
  refine Fu.ok S (fun vs H Q E h => h.1) fun cdv A outer s H vs Q E hr h => ?_
  obtain ⟨hl, O, ds, r, hO, rv, hFd, post⟩ := h
  refine ⟨_, hB _ ⟨rfl, rfl, rfl, rfl, rfl, rfl, S.nd, rfl, rfl, rfl, hr⟩ ⟨rfl, rfl⟩ _ (takes_of (E := E) rfl rfl rfl rfl) (passes_of rfl), ?_⟩
  have hrun := hF ds r (by rw [← rv.length]; exact hl) hFd
  unfold runB at hrun
  cases hg : g (start0 N.length ds) with
  | none => rw [hg] at hrun; cases hrun
  | some o =>
    rw [hg] at hrun
    refine ⟨start0 N.length ds, Ow.out O, o, hg, good0 hO rv, ?_⟩
    have hk : ∀ {H' : Hp}, Kp (Ow.out O) H H' → Same H H' := fun kp a o h => kp.keep a o h fun ⟨i, hi⟩ => hi.elim (fun z => by cases z) fun z => z
    cases o with
    | nx ρ' => cases hrun; exact fun ow' σ' H' st' g' => post .non H' (hk st'.kp) .non
    | rt d => cases hrun; exact fun v H' kp r' => post v H' (hk kp) r'
    | ex n pl => cases hrun; exact fun cls d σ' H' hc kp pk => post cls d H' hc (hk kp) pk
theorem fn_is {G : Gc} {x qual : Str} {params : Arguments} {body : List Stmt} {scope : Scope} {f : Addr} {fd : FuncData} {N ps : List Str} {k : Nat} {g : SF} {F : List Dt → Option Rs} (hm : G.mg x = some (.ref f)) (Fu : FunD G.K x qual params body scope [] [] f fd) (S : FnScope N ps scope) (hb : Binds G.K fd ps [])
    (hB : SB G N scope (fun x => true) k body g) (hF : ∀ ds r, ds.length = ps.length → F ds = some r → runB N.length g ds = some r) : FnIs G x (k + 1) ps.length F :=
  ⟨f, fd, ps, hm, Fu.kp, hb, rfl, fn_okD Fu S hB hF⟩
/-! ## the law's promise -/
theorem law_sp {K : PySem.W.Frag} {mg : Str → Option Value} {F : List Dt → Option Rs} (hF : ∀ ns : List Int, ns.length ≤ 63 → F [scr ns] = some (.val (.bool true))) (H : Hp) (a : Addr) (ns : List Int) (hl : ns.length ≤ 63) (hO : Only H) (hS : SqL K H a (ns.map V.int)) :
    spF K mg 1 F [.ref a] H (fun v _ => v = .bl true) fun _ _ _ => False := by
  have hs : ScrAt K H a ns := by
    rcases hS with (h | ⟨o, h⟩) | h
    · rcases hO a with z | ⟨o, xs, z⟩
      · rw [z] at h; cases h
      · rw [z] at h; cases h
    · exact .inl ⟨o, h⟩
    · exact .inr h
  refine ⟨rfl, NoO, [scr ns], _, fun _ z => z.elim, .cons (.scr hs) .nil, hF ns hl, fun v H' s' r' => ?_⟩
  cases r'
  rfl
end PT

namespace PT
open PySem PySem.Spec PyProof.Rows L2

/-! ## zip and enumerate over lists and tuples, in any mix -/
def SIt (k : Bool) (h : Heap) (it a : Addr) (i : Nat) : Prop := match k with
  | true => h.IsListIter it a i
  | false => h.IsTupleIter it a i
def SHp (k : Bool) (h : Heap) (a : Addr) (its : Array Value) : Prop := match k with
  | true => h.IsList a its
  | false => h.IsTuple a its
def SAt (k : Bool) (K : PySem.W.Frag) (H : Hp) (a : Addr) (xs : List V) : Prop := match k with
  | true => SqL K H a xs
  | false => SqT K H a xs
def sOb (k : Bool) (a : Addr) : Obj := match k with
  | true => { cls := .type "list_iterator", data := .fields #[.ref a, .int 0 0] }
  | false => { cls := .type "tuple_iterator", data := .fields #[.ref a, .int 0 0] }
theorem draws {prog : Program} {w : World} {A : Around} (hh : A.handled = none) (k : Bool) (it a : Addr) (hne : a ≠ it) (items : Array Value) :
    Draws prog w A it [it, a] items.size (fun i v => items[i]? = some v) (fun i h => SIt k h it a i ∧ SHp k h a items) := by
  cases k
  · exact Draws.tuple hh it a hne items
  · exact Draws.list hh it a hne items
theorem begins (k : Bool) (a : Addr) (items : Array Value) : Begins (.ref a) (sOb k a) fun h => SHp k h a items := by
  cases k
  · exact begins_tuple a items
  · exact begins_list a items
theorem SIt.at {k : Bool} {h h' : Heap} {it a : Addr} {i : Nat} (s : SIt k h it a i) (e : ∀ o, h.get? it = some o → h'.get? it = some o) : SIt k h' it a i := by
  cases k
  · have s : h.IsTupleIter it a i := s
    exact s.at e
  · have s : h.IsListIter it a i := s
    exact s.at e
theorem SIt.new {k : Bool} {h : Heap} {it a : Addr} (e : h.get? it = some (sOb k a)) : SIt k h it a 0 := by
  cases k
  · exact ⟨_, e, rfl, rfl⟩
  · exact ⟨_, e, rfl, rfl⟩
theorem SIt.obj {k : Bool} {h : Heap} {it a : Addr} {i : Nat} (s : SIt k h it a i) : ∃ o, h.get? it = some o ∧ ∀ v, o.data ≠ .cell v := by
  cases k
  · obtain ⟨o, e, _, d⟩ := (show h.IsTupleIter it a i from s); exact ⟨o, e, fun v z => by rw [d] at z; cases z⟩
  · obtain ⟨o, e, _, d⟩ := (show h.IsListIter it a i from s); exact ⟨o, e, fun v z => by rw [d] at z; cases z⟩
theorem SHp.lt {k : Bool} {h : Heap} {a : Addr} {its : Array Value} (s : SHp k h a its) : a < h.objs.size := by
  cases k
  · obtain ⟨o, e, _⟩ := (show h.IsTuple a its from s); exact Heap.lt_size e
  · obtain ⟨o, e, _⟩ := (show h.IsList a its from s); exact Heap.lt_size e
section
variable {X : Cx} {pins : List (Addr × Obj)} {σ : L2.St} {H : Hp} {s : Shared} {a : Addr} {xs ys : List V}
theorem src_at (I : Inv X pins σ H s) {k : Bool} (h : SAt k X.K H a xs) : ∃ its : List Value, Vals xs its ∧ SHp k s.heap a its.toArray ∧ xs.length ≤ sizeLine := by
  cases k
  · obtain ⟨its, r, p, z⟩ := I.tuple h; exact ⟨its, r, p, z⟩
  · obtain ⟨its, r, p, z⟩ := I.list h; exact ⟨its, r, p.isList, z⟩
theorem src_inj (I : Inv X pins σ H s) {k : Bool} (h : SAt k X.K H a xs) (h' : SAt k X.K H a ys) : xs = ys := by
  cases k
  · exact I.tuple_inj h h'
  · exact I.list_inj h h'
end
/-- zip -/
def Izm (k1 k2 : Bool) (K : PySem.W.Frag) (a b : Addr) : It :=
  ⟨fun i H => ∃ (xs ys : List V) (x y : V), SAt k1 K H a xs ∧ SAt k2 K H b ys ∧ xs[i]? = some x ∧ ys[i]? = some y,
    fun i H v H' => ∃ T x y, v = .ref T ∧ H T = none ∧ H' = upd H T (.tup [x, y]) ∧ (∀ xs, SAt k1 K H a xs → xs[i]? = some x) ∧ ∀ ys, SAt k2 K H b ys → ys[i]? = some y,
    fun i H => ∃ xs ys : List V, SAt k1 K H a xs ∧ SAt k2 K H b ys ∧ i = min xs.length ys.length⟩
theorem turn_zm {P : Program} {w : World} {K : PySem.W.Frag} {elts : List Expr} {kk : Nat} {tpos : Pos} (k1 k2 : Bool) {a b z TI TO i1 i2 : Addr} (S : ZipSep2 z TI TO i1 i2 [i1, a] [i2, b]) (ne1 : a ≠ i1) (ne2 : b ≠ i2) :
    Turn P w K (.Tuple elts kk tpos) (Izm k1 k2 K a b) [z, TI, TO, i1, i2] z (fun i h => IsZip h z TI TO .none ∧ IsTupOf2 h TI (.ref i1) (.ref i2) ∧ (∃ x y, IsTupOf2 h TO x y) ∧ SIt k1 h i1 a i ∧ SIt k2 h i2 b i) where
  mem := by simp
  obj := fun i h st c hc => by
    obtain ⟨hz, hTI, ⟨x, y, hTO⟩, h1, h2⟩ := st
    have e' : c = z ∨ c = TI ∨ c = TO ∨ c = i1 ∨ c = i2 := by simpa using hc
    rcases e' with q | q | q | q | q
    · rw [q]; exact ⟨_, hz, fun v q => nomatch q⟩
    · rw [q]; exact ⟨_, hTI, fun v q => nomatch q⟩
    · rw [q]; exact ⟨_, hTO, fun v q => nomatch q⟩
    · rw [q]; exact h1.obj
    · rw [q]; exact h2.obj
  keep := fun i h h' st k => by
    obtain ⟨hz, hTI, ⟨x, y, hTO⟩, h1, h2⟩ := st
    exact ⟨k z (by simp) _ hz, k TI (by simp) _ hTI, ⟨x, y, k TO (by simp) _ hTO⟩, h1.at fun o q => k i1 (by simp) o q, h2.at fun o q => k i2 (by simp) o q⟩
  item := by
    intro X hP hw hK hc i pins s σ H E I hf st hg
    subst hP hw hK
    obtain ⟨hz, hTI, hTO, h1, h2⟩ := st
    obtain ⟨xs, ys, x, y, hqx, hqy, hx, hy⟩ := hg
    obtain ⟨its, rv, p, _⟩ := src_at I hqx
    obtain ⟨its2, rv2, p2, _⟩ := src_at I hqy
    obtain ⟨u, hu, ru⟩ := rv.get hx
    obtain ⟨u2, hu2, ru2⟩ := rv2.get hy
    have hh : X.A.in1.handled = none := I.ok.hd hc
    have W := GoesN.zip2 (elts := elts) (x1 := kk) (pos := tpos) S (draws (prog := X.prog) (w := X.w) hh k1 i1 a ne1 its.toArray) (draws hh k2 i2 b ne2 its2.toArray)
    have hi1 : i < its.length := (List.getElem?_eq_some_iff.mp hu).1
    have hi2 : i < its2.length := (List.getElem?_eq_some_iff.mp hu2).1
    refine W.goes i s _ _ (by simp; omega) ⟨hz, hTI, hTO, ⟨h1, p⟩, ⟨h2, p2⟩⟩ fun v h' tk hY st' hk htk => ?_
    obtain ⟨T, ux, uy, rfl, hT, hux, huy, hTT⟩ := hY
    obtain ⟨hz', hTI', hTO', ⟨h1', _⟩, ⟨h2', _⟩⟩ := st'
    have ex : ux = u := by
      have q : its[i]? = some ux := by simpa using hux
      rw [hu] at q; exact (Option.some.inj q).symm
    have ey : uy = u2 := by
      have q : its2[i]? = some uy := by simpa using huy
      rw [hu2] at q; exact (Option.some.inj q).symm
    subst ex ey
    have new : ObjOk X.prog X.w (upd H T (.tup [x, y])) h' T (.tup [x, y]) :=
      ⟨by show 2 ≤ sizeLine; decide, [ux, uy], .cons ru (.cons ru2 .nil), hTT⟩
    have I1 : Inv X pins σ (upd H T (.tup [x, y])) { s with heap := h', toks := tk } :=
      I.turnedNew (t' := tk) (ch := [z, TI, TO, i1, i2]) (fun c o hb q => hk c o (fun q' => hb (by
        have e' : c = z ∨ c = TO ∨ c = i1 ∨ c = i2 := by simpa using q'
        rcases e' with q | q | q | q <;> simp [q])) q) hf hT new
    refine ⟨.ref T, _, I1, rfl, ⟨T, x, y, rfl, I.hok.fresh hT, rfl, fun l hl => by rw [src_inj I hl hqx]; exact hx, fun l hl => by rw [src_inj I hl hqy]; exact hy⟩, ⟨hz', hTI', hTO', h1', h2'⟩, fun c hcm => ?_⟩
    have hlt : c < s.heap.objs.size := by
      have e' : c = z ∨ c = TI ∨ c = TO ∨ c = i1 ∨ c = i2 := by simpa using hcm
      rcases e' with q | q | q | q | q
      · rw [q]; exact Heap.lt_size hz
      · rw [q]; exact Heap.lt_size hTI
      · obtain ⟨_, _, hTO⟩ := hTO; rw [q]; exact Heap.lt_size hTO
      · obtain ⟨_, e1, _⟩ := h1.obj; rw [q]; exact Heap.lt_size e1
      · obtain ⟨_, e1, _⟩ := h2.obj; rw [q]; exact Heap.lt_size e1
    rw [upd_ne (Nat.ne_of_lt (Nat.lt_of_lt_of_le hlt hT))]
    exact (hf c hcm).1
  done := by
    intro X hP hw hK hc i pins s σ H E I hf st hg
    subst hP hw hK
    obtain ⟨hz, hTI, hTO, h1, h2⟩ := st
    obtain ⟨xs, ys, hqx, hqy, hend⟩ := hg
    obtain ⟨its, rv, p, _⟩ := src_at I hqx
    obtain ⟨its2, rv2, p2, _⟩ := src_at I hqy
    have hh : X.A.in1.handled = none := I.ok.hd hc
    have W := GoesN.zip2 (elts := elts) (x1 := kk) (pos := tpos) S (draws (prog := X.prog) (w := X.w) hh k1 i1 a ne1 its.toArray) (draws hh k2 i2 b ne2 its2.toArray)
    have hn : i = min its.toArray.size its2.toArray.size := by simp [hend, rv.length, rv2.length]
    subst hn
    refine W.stops s (fun s1 => Inv X pins σ H s1) E ⟨hz, hTI, hTO, ⟨h1, p⟩, ⟨h2, p2⟩⟩ fun h' tk hk htk => ?_
    exact I.turnedL (t' := tk) (ch := [z, TI, TO, i1, i2]) (fun c o hb q => hk c o (fun q' => hb (by
        have e' : c = z ∨ c = TO ∨ c = i1 ∨ c = i2 := by simpa using q'
        rcases e' with q | q | q | q <;> simp [q])) q) hf
  self := fun A i s Q E st h => wpAny_pyIter_zip st.1 h
theorem ne_off {n k m : Nat} (h : m < n) : m ≠ n + k := by omega
theorem sep_of {n a b : Nat} (ha : a < n) (hb : b < n) : ZipSep2 (n + 4) (n + 2) (n + 3) n (n + 1) [n, a] [n + 1, b] :=
  zip_sep2 (fp1 := [a]) (fp2 := [b]) (fun c hc => by rw [List.mem_singleton.mp hc]; exact ha) fun c hc => by rw [List.mem_singleton.mp hc]; exact hb
def iZm (K : PySem.W.Frag) (ta : TA) : TI := fun σ H R => ta σ H fun vs H1 => ∃ a b k1 k2 xs ys, vs = [.ref a, .ref b] ∧ SAt k1 K H1 a xs ∧ SAt k2 K H1 b ys ∧ R (Izm k1 k2 K a b) H1
theorem pi_zm {X : Cx} {e e2 : Expr} {ta : TA} {p pos tpos : Pos} {elts : List Expr} {kk : Nat} (hg : Gl X "zip") (hm : X.mg "zip" = none) (ha : PA X [e, e2] ta)
    (hs : starEach [e, e2] X.env = (false, eval e X.env) :: starEach [e2] X.env) (hpl : (backTo pos (starEach [e2] X.env)).any (·.1) = false) :
    PI X (.Tuple elts kk tpos) (.Call (.Name "zip" p) [e, e2] [] pos) (iZm X.K ta) := by
  refine ⟨fun pins s σ H R I h => ?_⟩
  refine Call_ (ld_blt I hg hm PyProof.Rows.boot_zip (PyProof.Rows.callWith_type1 (thn (ha.run pos pins s σ H _ I h) fun us s1 ⟨vs, H1, I1, r1, q1⟩ => ?_) hs hpl))
  obtain ⟨a, b, k1, k2, xs, ys, ex, hqx, hqy, q⟩ := q1
  subst ex
  cases r1 with
  | cons r rr =>
    cases rr with
    | cons r' rr =>
      cases rr
      cases r
      cases r'
      obtain ⟨its, rv, p1, _⟩ := src_at I1 hqx
      obtain ⟨its2, rv2, p2, _⟩ := src_at I1 hqy
      have la : a < s1.heap.objs.size := p1.lt
      have lb : b < s1.heap.objs.size := p2.lt
      refine zip_begins2 (begins k1 a its.toArray) (begins k2 b its2.toArray) p1 p2 fun h' hz hTI hTO g1 g2 hsz hk => wpAny_pyIter_zip hz ?_
      have I2 : Inv X pins σ H1 { s1 with heap := h' } := I1.kept (t' := s1.toks) hk
      refine ⟨s1.heap.objs.size + 4, [s1.heap.objs.size + 4, s1.heap.objs.size + 2, s1.heap.objs.size + 3, s1.heap.objs.size, s1.heap.objs.size + 1], _, _, H1, rfl, I2, turn_zm k1 k2 (sep_of la lb) (Nat.ne_of_lt la) (ne_off lb), ⟨hz, hTI, ⟨_, _, hTO⟩, SIt.new g1, SIt.new g2⟩, fun c hcm => ?_, q⟩
      have e' : c = s1.heap.objs.size + 4 ∨ c = s1.heap.objs.size + 2 ∨ c = s1.heap.objs.size + 3 ∨ c = s1.heap.objs.size ∨ c = s1.heap.objs.size + 1 := by simpa using hcm
      have hle : s1.heap.objs.size ≤ c := by
        rcases e' with z | z | z | z | z
        · rw [z]; exact Nat.le_add_right _ _
        · rw [z]; exact Nat.le_add_right _ _
        · rw [z]; exact Nat.le_add_right _ _
        · rw [z]; exact Nat.le_refl _
        · rw [z]; exact Nat.le_add_right _ _
      exact I1.fpOk hle (I1.hok.fresh hle)
/-- enumerate -/
def Iem (k : Bool) (K : PySem.W.Frag) (a : Addr) : It :=
  ⟨fun i H => ∃ (xs : List V) (x : V), SAt k K H a xs ∧ xs[i]? = some x,
    fun i H v H' => ∃ T x, v = .ref T ∧ H T = none ∧ H' = upd H T (.tup [.int (i : Nat), x]) ∧ (∀ xs, SAt k K H a xs → xs[i]? = some x),
    fun i H => ∃ xs : List V, SAt k K H a xs ∧ i = xs.length⟩
theorem turn_em {P : Program} {w : World} {K : PySem.W.Frag} {elts : List Expr} {kk : Nat} {tpos : Pos} (k : Bool) {a e it : Addr} (nei : e ≠ it) (nea : e ≠ a) (nai : a ≠ it) :
    Turn P w K (.Tuple elts kk tpos) (Iem k K a) [e, it] e (fun i h => (∃ old, IsEnum h e it (i : Int) old) ∧ SIt k h it a i) where
  mem := by simp
  obj := fun i h st c hc => by
    obtain ⟨⟨old, he⟩, h1⟩ := st
    have e' : c = e ∨ c = it := by simpa using hc
    rcases e' with q | q
    · rw [q]; exact ⟨_, he, fun v q => nomatch q⟩
    · rw [q]; exact h1.obj
  keep := fun i h h' st k => by
    obtain ⟨⟨old, he⟩, h1⟩ := st
    exact ⟨⟨old, k e (by simp) _ he⟩, h1.at fun o q => k it (by simp) o q⟩
  item := by
    intro X hP hw hK hc i pins s σ H E I hf st hg
    subst hP hw hK
    obtain ⟨⟨old, he⟩, h1⟩ := st
    obtain ⟨xs, x, hqx, hx⟩ := hg
    obtain ⟨its, rv, p, _⟩ := src_at I hqx
    obtain ⟨u, hu, ru⟩ := rv.get hx
    have hh : X.A.in1.handled = none := I.ok.hd hc
    have W := GoesN.enumFrom (elts := elts) (x1 := kk) (pos := tpos) 0 (draws (prog := X.prog) (w := X.w) hh k it a nai its.toArray) e nei (by simp; exact ⟨nei, nea⟩) (by simp)
    have hi1 : i < its.length := (List.getElem?_eq_some_iff.mp hu).1
    refine W.goes i s _ _ (by simp; omega) ⟨⟨old, by rw [Int.zero_add]; exact he⟩, ⟨h1, p⟩⟩ fun v h' tk hY st' hk htk => ?_
    obtain ⟨T, t, ux, rfl, hT, hux, hTT⟩ := hY
    obtain ⟨⟨old', he'⟩, ⟨h1', _⟩⟩ := st'
    rw [Int.zero_add] at he' hTT
    have ex : ux = u := by
      have q : its[i]? = some ux := by simpa using hux
      rw [hu] at q; exact (Option.some.inj q).symm
    subst ex
    have new : ObjOk X.prog X.w (upd H T (.tup [.int (i : Nat), x])) h' T (.tup [.int (i : Nat), x]) :=
      ⟨by show 2 ≤ sizeLine; decide, [.int (i : Nat) t, ux], .cons ⟨t, rfl⟩ (.cons ru .nil), hTT⟩
    have I1 : Inv X pins σ (upd H T (.tup [.int (i : Nat), x])) { s with heap := h', toks := tk } :=
      I.turnedNew (t' := tk) (ch := [e, it]) (fun c o hb q => hk c o hb q) hf hT new
    refine ⟨.ref T, _, I1, rfl, ⟨T, x, rfl, I.hok.fresh hT, rfl, fun l hl => by rw [src_inj I hl hqx]; exact hx⟩, ⟨⟨old', he'⟩, h1'⟩, fun c hcm => ?_⟩
    have hlt : c < s.heap.objs.size := by
      have e' : c = e ∨ c = it := by simpa using hcm
      rcases e' with q | q
      · rw [q]; exact Heap.lt_size he
      · obtain ⟨_, e1, _⟩ := h1.obj; rw [q]; exact Heap.lt_size e1
    rw [upd_ne (Nat.ne_of_lt (Nat.lt_of_lt_of_le hlt hT))]
    exact (hf c hcm).1
  done := by
    intro X hP hw hK hc i pins s σ H E I hf st hg
    subst hP hw hK
    obtain ⟨⟨old, he⟩, h1⟩ := st
    obtain ⟨xs, hqx, hend⟩ := hg
    obtain ⟨its, rv, p, _⟩ := src_at I hqx
    have hh : X.A.in1.handled = none := I.ok.hd hc
    have W := GoesN.enumFrom (elts := elts) (x1 := kk) (pos := tpos) 0 (draws (prog := X.prog) (w := X.w) hh k it a nai its.toArray) e nei (by simp; exact ⟨nei, nea⟩) (by simp)
    have hn : i = its.toArray.size := by simp [hend, rv.length]
    subst hn
    refine W.stops s (fun s1 => Inv X pins σ H s1) E ⟨⟨old, by rw [Int.zero_add]; exact he⟩, ⟨h1, p⟩⟩ fun h' tk hk htk => ?_
    exact I.turnedL (t' := tk) (ch := [e, it]) (fun c o hb q => hk c o hb q) hf
  self := fun A i s Q E st h => by
    obtain ⟨⟨old, he⟩, _⟩ := st
    exact wpAny_pyIter_enum he h
set_option maxHeartbeats 1000000 in
theorem meets_enum1 {v : Value} {o : Obj} {H : Heap → Prop} (B : Begins v o H) :
    Meets (Builtin.«enumerate.__new__» ⟨[.type "enumerate", v], []⟩) (fun _ R s => H s.heap ∧
      R (.ok (.ret (.ref (s.heap.push o).objs.size))) { s with heap := (s.heap.push o).push { cls := .type "enumerate", data := .fields #[.none, .bool false, .ref s.heap.objs.size, rawInt 0, .none, .none] } }) :=
  .of_wp fun prog w A R s h => by
    obtain ⟨hp, g, d, tk, os⟩ := s; obtain ⟨h1, h⟩ := h
    have hsub := sub_enumerate
    have q1 : ∀ {A' : Around} {E : Value → Shared → Prop} {Q : Value → Shared → Prop}, Q (.ref hp.objs.size) ⟨hp.push o, g, d, tk, os⟩ → wpAny (model prog w) A' (pyIter v) Q E ⟨hp, g, d, tk, os⟩ :=
      fun q => B.iter prog w _ _ ⟨hp, g, d, tk, os⟩ _ h1 q
    wp_walk using q1
    refine wpAny_stack_any fun st => wpAny_pure ?_
    split
    · rename_i c _ _ _ _ _
      cases (c == Value.type "enumerate")
      · wp_walk using q1
        exact ⟨_, rfl, h⟩
      · wp_walk using q1
        exact ⟨_, rfl, h⟩
    · wp_walk using q1
      exact ⟨_, rfl, h⟩
theorem enum_begins1 {prog : Program} {w : World} {A : Around} {E : Value → Shared → Prop} {s : Shared} {v : Value} {o : Obj} {H : Heap → Prop} {Q : Value → Shared → Prop} (B : Begins v o H) (h1 : H s.heap)
    (h : ∀ h', IsEnum h' (s.heap.objs.size + 1) s.heap.objs.size 0 .none → h'.get? s.heap.objs.size = some o → h'.objs.size = s.heap.objs.size + 2 →
      (∀ b o, s.heap.get? b = some o → h'.get? b = some o) → Q (.ref (s.heap.objs.size + 1)) { s with heap := h' }) :
    wpAny (model prog w) A (call (.type "enumerate") [v]) Q E s := by
  refine callType_new F.called_enumerate (by decide) (F.typeCall_enumerate_1 _) (F.newCall_enumerate_1 _) (fun obj => F.args_object_init_2 obj _) F.entry_enumerate_new
    (meets_enum1 B) ⟨h1, ?_⟩
  have hz : (s.heap.push o).objs.size = s.heap.objs.size + 1 := Heap.size_push ..
  show _ ∧ _
  rw [hz]
  have he : IsEnum ((s.heap.push o).push { cls := .type "enumerate", data := .fields #[.none, .bool false, .ref s.heap.objs.size, rawInt 0, .none, .none] }) (s.heap.objs.size + 1) s.heap.objs.size 0 .none := by
    have := Heap.get?_push_size (s.heap.push o) (o := { cls := .type "enumerate", data := .fields #[.none, .bool false, .ref s.heap.objs.size, rawInt 0, .none, .none] }) rfl
    rw [hz] at this; exact this
  exact ⟨⟨_, he, rfl⟩, h _ he (Heap.get?_push_of_some _ (Heap.get?_push_size _ B.free)) (by rw [Heap.size_push, hz]) fun b o x => Heap.get?_push_of_some _ (Heap.get?_push_of_some _ x)⟩
def iEm (K : PySem.W.Frag) (te : TE) : TI := fun σ H R => te σ H fun v H1 => ∃ a k xs, v = .ref a ∧ SAt k K H1 a xs ∧ R (Iem k K a) H1
theorem pi_em {X : Cx} {e : Expr} {te : TE} {p pos tpos : Pos} {elts : List Expr} {kk : Nat} (hg : Gl X "enumerate") (hm : X.mg "enumerate" = none) (ha : PE X e te) (hs : starEach [e] X.env = (false, eval e X.env) :: starEach [] X.env) :
    PI X (.Tuple elts kk tpos) (.Call (.Name "enumerate" p) [e] [] pos) (iEm X.K te) := by
  refine ⟨fun pins s σ H R I h => ?_⟩
  have hA : PA X [e] (tCons te tNil) := pa_cons ha pa_nil hs
  refine Call_ (ld_blt I hg hm boot_enumerate (PyProof.Rows.callWith_type1 (thn (hA.run pos pins s σ H (fun vs H1 => ∃ v, vs = [v] ∧ ∃ a k xs, v = .ref a ∧ SAt k X.K H1 a xs ∧ R (Iem k X.K a) H1) I ?_) fun us s1 ⟨vs, H1, I1, r1, q1⟩ => ?_) hs rfl))
  · have h : te σ H fun v H1 => ∃ a k xs, v = .ref a ∧ SAt k X.K H1 a xs ∧ R (Iem k X.K a) H1 := h
    have e : (fun v H1 => ∃ a k xs, v = .ref a ∧ SAt k X.K H1 a xs ∧ R (Iem k X.K a) H1) = fun (v : V) (H1 : Hp) => tNil σ H1 fun xs H2 => ∃ w, v :: xs = [w] ∧ ∃ a k xs, w = .ref a ∧ SAt k X.K H2 a xs ∧ R (Iem k X.K a) H2 := by
      funext v H1
      apply propext
      constructor
      · exact fun q => ⟨v, rfl, q⟩
      · rintro ⟨w, e, q⟩; cases e; exact q
    show te σ H _
    rw [← e]
    exact h
  · obtain ⟨v, rfl, a, k, xs, rfl, hqx, q⟩ := q1
    cases r1 with
    | cons r rr =>
      cases rr
      cases r
      obtain ⟨its, rv, p1, _⟩ := src_at I1 hqx
      have la : a < s1.heap.objs.size := p1.lt
      refine enum_begins1 (begins k a its.toArray) p1 fun h' he g1 hsz hk => wpAny_pyIter_enum he ?_
      have I2 : Inv X pins σ H1 { s1 with heap := h' } := I1.kept (t' := s1.toks) hk
      refine ⟨s1.heap.objs.size + 1, [s1.heap.objs.size + 1, s1.heap.objs.size], _, _, H1, rfl, I2, turn_em k (Nat.succ_ne_self _) (Ne.symm (ne_off la)) (Nat.ne_of_lt la), ⟨⟨_, he⟩, SIt.new g1⟩, fun c hcm => ?_, q⟩
      have e' : c = s1.heap.objs.size + 1 ∨ c = s1.heap.objs.size := by simpa using hcm
      have hle : s1.heap.objs.size ≤ c := by
        rcases e' with z | z
        · rw [z]; exact Nat.le_add_right _ _
        · rw [z]; exact Nat.le_refl _
      exact I1.fpOk hle (I1.hok.fresh hle)
/-! ### by data -/
def seqOf : Dt → Option (Bool × List Dt)
  | .list xs => some (true, xs)
  | .tuple xs => some (false, xs)
  | _ => none
theorem RpB.src {b : Bool} {K : PySem.W.Frag} {ow : Ow} {H : Hp} {v : V} {d : Dt} {k : Bool} {xs : List Dt} (h : RpB b K ow H v d) (e : seqOf d = some (k, xs)) : ∃ a vs, v = .ref a ∧ SAt k K H a vs ∧ RpAll K (OA ow) H vs xs := by
  unfold seqOf at e
  split at e
  · cases e; obtain ⟨a, vs, rfl, h1, r⟩ := h.list; exact ⟨a, vs, rfl, SqL.of h1, r⟩
  · cases e; obtain ⟨a, vs, rfl, h1, r⟩ := h.tuple; exact ⟨a, vs, rfl, h1.sq, r⟩
  · cases e
theorem RpB.seq_stp {b : Bool} {K : PySem.W.Frag} {ow ow1 : Ow} {H H1 : Hp} {v : V} {d : Dt} {k : Bool} {xs : List Dt} (e : seqOf d = some (k, xs)) (ok : OkO ow H) (h : RpB b K ow H v d) (r : Rel b ow H ow1 H1) : RpB b K ow1 H1 v d := by
  unfold seqOf at e
  split at e
  · exact h.list_stp ok r
  · exact h.tup_stp ok r
  · cases e
/-- the list that is read there is one -/
theorem src_one {b : Bool} {K : PySem.W.Frag} {ow : Ow} {H : Hp} {a : Addr} {d : Dt} {k : Bool} {xs : List Dt} (h : RpB b K ow H (.ref a) d) (e : seqOf d = some (k, xs)) : ∃ vs, SAt k K H a vs ∧ RpAll K (OA ow) H vs xs := by
  obtain ⟨a', vs, e', h1, r⟩ := h.src e
  cases e'
  exact ⟨vs, h1, r⟩
def zipD (xs ys : List Dt) : List Dt := List.zipWith (fun x y => .tuple [x, y]) xs ys
theorem wd_zm {b : Bool} {K : PySem.W.Frag} {ow : Ow} {H : Hp} {a a2 : Addr} {d d2 : Dt} {k k2 : Bool} {xs ys : List Dt} (ok : OkO ow H) (h : RpB b K ow H (.ref a) d) (e : seqOf d = some (k, xs)) (h2 : RpB b K ow H (.ref a2) d2) (e2 : seqOf d2 = some (k2, ys)) :
    WD (.p .d .d) b K ow H (Izm k k2 K a a2) (zipD xs ys) := fun ow1 H1 r ok1 => by
  obtain ⟨vs, s1, r1⟩ := src_one (h.seq_stp e ok r) e
  obtain ⟨ws, s2, r2⟩ := src_one (h2.seq_stp e2 ok r) e2
  have hl : (zipD xs ys).length = min xs.length ys.length := by unfold zipD; rw [List.length_zipWith]
  refine ⟨fun i hi => ?_, ⟨vs, ws, s1, s2, by rw [hl, r1.length, r2.length]⟩, fun i x H2 hi y => ?_⟩
  · rw [hl] at hi
    have i1 : i < vs.length := by rw [r1.length]; omega
    have i2 : i < ws.length := by rw [r2.length]; omega
    exact ⟨vs, ws, vs[i], ws[i], s1, s2, by simp [i1], by simp [i2]⟩
  · rw [hl] at hi
    obtain ⟨T, x, y, rfl, hT, rfl, hx, hy⟩ := y
    have i1 : i < xs.length := by omega
    have i2 : i < ys.length := by omega
    obtain ⟨v1, hv1, q1⟩ := r1.get (i := i) (d := xs[i]) (by simp [i1])
    obtain ⟨v2, hv2, q2⟩ := r2.get (i := i) (d := ys[i]) (by simp [i2])
    rw [hx vs s1] at hv1
    rw [hy ws s2] at hv2
    cases hv1
    cases hv2
    refine ⟨Same.upd hT, .tuple [xs[i], ys[i]], ?_, T, _, _, _, _, rfl, upd_same, rfl, Rp.same (Same.upd hT) q1, Rp.same (Same.upd hT) q2⟩
    unfold zipD
    rw [List.getElem?_zipWith]
    simp [i1, i2]
def enumD (xs : List Dt) : List Dt := List.zipWith (fun x y => .tuple [x, y]) (rgL 0 xs.length) xs
theorem wd_em {b : Bool} {K : PySem.W.Frag} {ow : Ow} {H : Hp} {a : Addr} {d : Dt} {k : Bool} {xs : List Dt} (ok : OkO ow H) (h : RpB b K ow H (.ref a) d) (e : seqOf d = some (k, xs)) : WD (.p .d .d) b K ow H (Iem k K a) (enumD xs) := fun ow1 H1 r ok1 => by
  obtain ⟨vs, s1, r1⟩ := src_one (h.seq_stp e ok r) e
  have hl : (enumD xs).length = xs.length := by unfold enumD; rw [List.length_zipWith, rgL_length]; omega
  refine ⟨fun i hi => ?_, ⟨vs, s1, by rw [hl, r1.length]⟩, fun i x H2 hi y => ?_⟩
  · rw [hl] at hi
    have i1 : i < vs.length := by rw [r1.length]; omega
    exact ⟨vs, vs[i], s1, by simp [i1]⟩
  · rw [hl] at hi
    obtain ⟨T, x, rfl, hT, rfl, hx⟩ := y
    obtain ⟨v1, hv1, q1⟩ := r1.get (i := i) (d := xs[i]) (by simp [hi])
    rw [hx vs s1] at hv1
    cases hv1
    refine ⟨Same.upd hT, .tuple [.int (i : Nat), xs[i]], ?_, T, _, _, _, _, rfl, upd_same, rfl, .int _, Rp.same (Same.upd hT) q1⟩
    unfold enumD
    rw [List.getElem?_zipWith, rgL_get hi]
    simp [hi]
section
variable {G : Gc} {N : List Str} {sc : Scope} {fn : Str → Bool} {k : Nat} {pos p p2 tpos : Pos} {a b c : Expr} {f g h : EF} {elts : List Expr} {kk : Nat}
def iZip (f g : EF) : IF := fun bb ρ => bndI (f bb ρ) fun x => bndI (g bb ρ) fun y => match seqOf x, seqOf y with
  | some (_, xs), some (_, ys) => some (.it (zipD xs ys))
  | _, _ => none
theorem si_zip (B : Bi G) (ha : SE G N sc fn k a f) (hb : SE G N sc fn k b g) (hg : GL sc "zip" := by rfl) (ns : NS a := by intro _ _; rfl) (ns2 : NS b := by intro _ _; rfl) : SI G N sc fn k (.p .d .d) (.Tuple elts kk tpos) (.Call (.Name "zip" p) [a, b] [] pos) (iZip f g) := fun X C W tk b' =>
  PI.imp (pi_zm (C.gl hg) (by rw [C.hmg]; exact B.zip) (pa_cons (ha X C W tk b') (pa_cons (hb X C W tk b') pa_nil (ns2 [] X.env)) (ns [b] X.env)) (ns [b] X.env) (noStar _ _ _ fun e he => by rw [List.mem_singleton.mp he]; exact ns2)) fun σ H R h => by
    obtain ⟨ρ, ow, r, he, gd, post⟩ := h
    refine tE.goI gd he (fun n pl e => by subst e; exact post) fun d hd v H1 s1 r1 => ?_
    refine tE.goI (gd.same s1) hd (fun n pl e => by subst e; exact ExP.same post s1) fun d2 hd2 v2 H2 s2 r2 => ?_
    split at hd2
    · rename_i k1 xs k2 ys e1 e2
      cases hd2
      have r1' := r1.same s2
      obtain ⟨a1, vs, rfl, q1, w1⟩ := r1'.src e1
      obtain ⟨a2, ws, rfl, q2, w2⟩ := r2.src e2
      exact ⟨a1, a2, k1, k2, vs, ws, rfl, q1, q2, post _ H2 (s1.trans s2) (wd_zm (gd.ok.same (s1.trans s2)) r1' e1 r2 e2)⟩
    · cases hd2
def iEnum (f : EF) : IF := fun bb ρ => bndI (f bb ρ) fun x => match seqOf x with
  | some (_, xs) => some (.it (enumD xs))
  | _ => none
theorem si_enum (B : Bi G) (ha : SE G N sc fn k a f) (hg : GL sc "enumerate" := by rfl) (ns : NS a := by intro _ _; rfl) : SI G N sc fn k (.p .d .d) (.Tuple elts kk tpos) (.Call (.Name "enumerate" p) [a] [] pos) (iEnum f) := fun X C W tk b' =>
  PI.imp (pi_em (C.gl hg) (by rw [C.hmg]; exact B.enumerate) (ha X C W tk b') (ns [] X.env)) fun σ H R h => by
    obtain ⟨ρ, ow, r, he, gd, post⟩ := h
    refine tE.goI gd he (fun n pl e => by subst e; exact post) fun d hd v H1 s1 r1 => ?_
    split at hd
    · rename_i k1 xs e1
      cases hd
      obtain ⟨a1, vs, rfl, q1, w1⟩ := r1.src e1
      exact ⟨a1, k1, vs, rfl, q1, post _ H1 s1 (wd_em (gd.ok.same s1) r1 e1)⟩
    · cases hd
def iRev (f : EF) : IF := fun bb ρ => bndI (f bb ρ) fun x => match seqOf x with
  | some (_, xs) => some (.it xs.reverse)
  | _ => none
theorem si_rev {tg : Expr} (B : Bi G) (ha : SE G N sc fn k a f) (hg : GL sc "reversed" := by rfl) (ns : NS a := by intro _ _; rfl) : SI G N sc fn k .d tg (.Call (.Name "reversed" p) [a] [] pos) (iRev f) := fun X C W tk b' =>
  PI.imp (RT.pi_revA (C.gl hg) (by rw [C.hmg]; exact B.reversed) (ha X C W tk b') (ns [] X.env)) fun σ H R h => by
    obtain ⟨ρ, ow, r, he, gd, post⟩ := h
    refine tE.goI gd he (fun n pl e => by subst e; exact post) fun d hd v H1 s1 r1 => ?_
    cases d with
    | list xs =>
      cases hd
      obtain ⟨a1, vs, rfl, q1, w1⟩ := r1.list
      refine ⟨a1, vs, rfl, .inl ⟨SqL.of q1, post _ H1 s1 fun ow1 H2 r ok1 => ?_⟩⟩
      obtain ⟨us, t1, w2⟩ := src_one (k := true) (r1.list_stp (gd.ok.same s1) r) rfl
      have hn : us.length = vs.length := by rw [w2.length, w1.length]
      have hx : xs.length = vs.length := w1.length.symm
      refine ⟨fun i hi => ?_, by rw [List.length_reverse, hx]; exact Nat.le_refl _, fun i x H3 hi y => ?_⟩
      · rw [List.length_reverse, hx] at hi
        exact ⟨hi, us, us[vs.length - 1 - i]'(by omega), t1, by simp [show vs.length - 1 - i < us.length by omega]⟩
      · rw [List.length_reverse, hx] at hi
        obtain ⟨rfl, y⟩ := y
        refine ⟨Same.refl _, xs[vs.length - 1 - i]'(by omega), ?_, ?_⟩
        · rw [List.getElem?_reverse (by omega), List.getElem?_eq_getElem (by omega)]
          simp [hx]
        · obtain ⟨v, hv, q⟩ := w2.get (i := vs.length - 1 - i) (d := xs[vs.length - 1 - i]'(by omega)) (by simp [show vs.length - 1 - i < xs.length by omega])
          rw [y us t1] at hv
          cases hv
          exact q
    | tuple xs =>
      cases hd
      obtain ⟨a1, vs, rfl, q1, w1⟩ := r1.tuple
      refine ⟨a1, vs, rfl, .inr ⟨q1.sq, post _ H1 s1 fun ow1 H2 r ok1 => ?_⟩⟩
      obtain ⟨us, t1, w2⟩ := src_one (k := false) (r1.tup_stp (gd.ok.same s1) r) rfl
      have hn : us.length = vs.length := by rw [w2.length, w1.length]
      have hx : xs.length = vs.length := w1.length.symm
      refine ⟨fun i hi => ?_, by rw [List.length_reverse, hx]; exact Nat.le_refl _, fun i x H3 hi y => ?_⟩
      · rw [List.length_reverse, hx] at hi
        exact ⟨hi, us, us[vs.length - 1 - i]'(by omega), t1, by simp [show vs.length - 1 - i < us.length by omega]⟩
      · rw [List.length_reverse, hx] at hi
        obtain ⟨rfl, y⟩ := y
        refine ⟨Same.refl _, xs[vs.length - 1 - i]'(by omega), ?_, ?_⟩
        · rw [List.getElem?_reverse (by omega), List.getElem?_eq_getElem (by omega)]
          simp [hx]
        · obtain ⟨v, hv, q⟩ := w2.get (i := vs.length - 1 - i) (d := xs[vs.length - 1 - i]'(by omega)) (by simp [show vs.length - 1 - i < xs.length by omega])
          rw [y us t1] at hv
          cases hv
          exact q
    | none => cases hd
    | bool _ => cases hd
    | int _ => cases hd
    | str _ => cases hd
    | dict _ => cases hd
end
end PT

namespace PT
open PySem PySem.Spec PyProof.Rows L2

/-! ## sorted: insertion, by a plain order -/
mutual
def dlt : Dt → Dt → Bool
  | .int a, .int b => decide (a < b)
  | .tuple xs, .tuple ys => dltAll xs ys
  | _, _ => false
def dltAll : List Dt → List Dt → Bool
  | x :: xs, y :: ys => if PyData.eqv x y then dltAll xs ys else dlt x y
  | [], _ :: _ => true
  | _, _ => false
end
def dle (a b : Dt) : Bool := !dlt b a
def ins (x : Dt) : List Dt → List Dt
  | [] => [x]
  | y :: ys => if dle x y then x :: y :: ys else y :: ins x ys
def isort : List Dt → List Dt
  | [] => []
  | x :: xs => ins x (isort xs)
def isI : Dt → Bool
  | .int _ => true
  | _ => false
def isTI : Dt → Bool
  | .tuple (x :: r) => isI x && r.all isI
  | _ => false
def okS (ds : List Dt) : Bool := ds.all isI || ds.all isTI
theorem isI_out {d : Dt} (h : isI d = true) : ∃ i, d = .int i := by
  cases d with
  | int i => exact ⟨i, rfl⟩
  | _ => cases h
theorem allI_out : ∀ {ds : List Dt}, ds.all isI = true → ∃ ns : List Int, ds = ns.map .int
  | [], _ => ⟨[], rfl⟩
  | d :: ds, h => by
    simp only [List.all_cons, Bool.and_eq_true] at h
    obtain ⟨i, rfl⟩ := isI_out h.1
    obtain ⟨ns, rfl⟩ := allI_out h.2
    exact ⟨i :: ns, rfl⟩
theorem isTI_out {d : Dt} (h : isTI d = true) : ∃ (i : Int) (ns : List Int), d = .tuple (.int i :: ns.map .int) := by
  cases d with
  | tuple xs =>
    cases xs with
    | nil => cases h
    | cons x r =>
      simp only [isTI, Bool.and_eq_true] at h
      obtain ⟨i, rfl⟩ := isI_out h.1
      obtain ⟨ns, rfl⟩ := allI_out h.2
      exact ⟨i, ns, rfl⟩
  | _ => cases h
theorem eqv_int (a b : Int) : PyData.eqv (.int a) (.int b) = decide (a = b) := by simp [PyData.eqv]; rfl
theorem toksI (x : Int) (r : List Dt) : PySem.W.keyToksAll (.int x :: r) = .inl 1 :: (.inl x :: PySem.W.keyToksAll r) := by
  unfold PySem.W.keyToksAll
  rw [PySem.W.keyToks]
  cases r <;> rfl
theorem dlt_ints : ∀ xs ys : List Int, dltAll (xs.map .int) (ys.map .int) = lexLt itemOrd (PySem.W.keyToksAll (xs.map .int)) (PySem.W.keyToksAll (ys.map .int))
  | [], [] => by
    show false = _
    exact (lex_irrefl (O := itemOrd) _).symm
  | [], y :: ys => by
    simp only [List.map_nil, List.map_cons, dltAll]
    rw [toksI]
    show true = lexLt itemOrd [.inl 0] _
    rw [PySem.W.lex_atom (by simp), PySem.W.lex_one]
    rfl
  | x :: xs, [] => by
    simp only [List.map_nil, List.map_cons, dltAll]
    rw [toksI]
    show false = lexLt itemOrd _ [.inl 0]
    rw [PySem.W.lex_atom (by simp), PySem.W.lex_one]
    rfl
  | x :: xs, y :: ys => by
    simp only [List.map_cons, dltAll]
    cases e : PyData.eqv (.int x) (.int y) with
    | true => rw [if_pos rfl, PySem.W.dataLt_all_yes (by simp [PySem.W.alike]) e, dlt_ints]
    | false =>
      rw [if_neg Bool.false_ne_true, PySem.W.dataLt_all_no (by simp [PySem.W.alike]) e, PySem.W.dataLt_int]
      rfl
theorem dlt_ok {ds : List Dt} (h : okS ds = true) : ∀ a ∈ ds, ∀ b ∈ ds, dle a b = PySem.W.dataLe false (fun d : Dt => d) a b := by
  intro a ha b hb
  show (!dlt b a) = (!PySem.W.dataLt b a)
  unfold okS at h
  rw [Bool.or_eq_true] at h
  rcases h with h | h
  · obtain ⟨i, rfl⟩ := isI_out (List.all_eq_true.mp h a ha)
    obtain ⟨j, rfl⟩ := isI_out (List.all_eq_true.mp h b hb)
    rw [PySem.W.dataLt_int]; rfl
  · obtain ⟨i, ns, rfl⟩ := isTI_out (List.all_eq_true.mp h a ha)
    obtain ⟨j, ms, rfl⟩ := isTI_out (List.all_eq_true.mp h b hb)
    rw [PySem.W.dataLt_tuple]
    exact congrArg _ (dlt_ints (j :: ms) (i :: ns))
theorem ins_perm (x : Dt) : ∀ l, (ins x l).Perm (x :: l)
  | [] => .refl _
  | y :: ys => by
    unfold ins
    split
    · exact .refl _
    · exact ((ins_perm x ys).cons y).trans (.swap x y ys)
theorem isort_perm : ∀ l, (isort l).Perm l
  | [] => .refl _
  | x :: xs => (ins_perm x _).trans ((isort_perm xs).cons x)
section
variable {le : Dt → Dt → Bool} (T : PySem.W.TotalLe le)
include T
theorem ins_sorted {x : Dt} : ∀ {l : List Dt}, (∀ a ∈ x :: l, ∀ b ∈ x :: l, dle a b = le a b) → l.Pairwise (fun a b => le a b = true) → (ins x l).Pairwise (fun a b => le a b = true)
  | [], _, _ => List.pairwise_singleton _ _
  | y :: ys, hq, h => by
    have hxy := hq x List.mem_cons_self y (List.mem_cons_of_mem _ List.mem_cons_self)
    unfold ins
    split
    · rename_i hc
      rw [hxy] at hc
      refine List.pairwise_cons.mpr ⟨fun z hz => ?_, h⟩
      rcases List.mem_cons.mp hz with e | hz
      · rw [e]; exact hc
      · exact T.trans _ _ _ hc ((List.pairwise_cons.mp h).1 z hz)
    · rename_i hc
      rw [hxy] at hc
      have hyx : le y x = true := (T.total x y).resolve_left hc
      refine List.pairwise_cons.mpr ⟨fun z hz => ?_, ins_sorted (fun a ha b hb => hq a ?_ b ?_) (List.pairwise_cons.mp h).2⟩
      · rcases List.mem_cons.mp ((ins_perm x ys).mem_iff.mp hz) with e | hz
        · rw [e]; exact hyx
        · exact (List.pairwise_cons.mp h).1 z hz
      · rcases List.mem_cons.mp ha with e | e
        · rw [e]; exact List.mem_cons_self
        · exact List.mem_cons_of_mem _ (List.mem_cons_of_mem _ e)
      · rcases List.mem_cons.mp hb with e | e
        · rw [e]; exact List.mem_cons_self
        · exact List.mem_cons_of_mem _ (List.mem_cons_of_mem _ e)
theorem ins_stable {x : Dt} (c : Dt) : ∀ {l : List Dt}, (∀ a ∈ x :: l, ∀ b ∈ x :: l, dle a b = le a b) → (ins x l).filter (PySem.W.sameRank le c) = (x :: l).filter (PySem.W.sameRank le c)
  | [], _ => rfl
  | y :: ys, hq => by
    have hxy := hq x List.mem_cons_self y (List.mem_cons_of_mem _ List.mem_cons_self)
    unfold ins
    split
    · rfl
    · rename_i hc
      rw [hxy] at hc
      have ih := ins_stable c (x := x) (l := ys) (fun a ha b hb => hq a (by
        rcases List.mem_cons.mp ha with e | e
        · rw [e]; exact List.mem_cons_self
        · exact List.mem_cons_of_mem _ (List.mem_cons_of_mem _ e)) b (by
        rcases List.mem_cons.mp hb with e | e
        · rw [e]; exact List.mem_cons_self
        · exact List.mem_cons_of_mem _ (List.mem_cons_of_mem _ e)))
      rw [List.filter_cons, ih]
      simp only [List.filter_cons]
      cases e1 : PySem.W.sameRank le c y with
      | false => rw [if_neg Bool.false_ne_true, if_neg Bool.false_ne_true]
      | true =>
        cases e2 : PySem.W.sameRank le c x with
        | false => rw [if_neg Bool.false_ne_true, if_neg Bool.false_ne_true]
        | true =>
          exfalso
          apply hc
          simp only [PySem.W.sameRank, Bool.and_eq_true] at e1 e2
          exact T.trans _ _ _ e2.2 e1.1
theorem isort_sorted : ∀ {l : List Dt}, (∀ a ∈ l, ∀ b ∈ l, dle a b = le a b) → (isort l).Pairwise (fun a b => le a b = true)
  | [], _ => List.Pairwise.nil
  | x :: xs, h => ins_sorted T (fun a ha b hb => h a (((isort_perm xs).cons x).mem_iff.mp ha) b (((isort_perm xs).cons x).mem_iff.mp hb)) (isort_sorted fun a ha b hb => h a (List.mem_cons_of_mem _ ha) b (List.mem_cons_of_mem _ hb))
theorem isort_stable (c : Dt) : ∀ {l : List Dt}, (∀ a ∈ l, ∀ b ∈ l, dle a b = le a b) → (isort l).filter (PySem.W.sameRank le c) = l.filter (PySem.W.sameRank le c)
  | [], _ => rfl
  | x :: xs, h => by
    show (ins x (isort xs)).filter _ = _
    rw [ins_stable T c (fun a ha b hb => h a (((isort_perm xs).cons x).mem_iff.mp ha) b (((isort_perm xs).cons x).mem_iff.mp hb)), List.filter_cons, isort_stable c (fun a ha b hb => h a (List.mem_cons_of_mem _ ha) b (List.mem_cons_of_mem _ hb)), ← List.filter_cons]
theorem isort_merge {l : List Dt} (h : ∀ a ∈ l, ∀ b ∈ l, dle a b = le a b) : isort l = l.mergeSort le := PySem.W.sort_unique T (isort_sorted T h) fun c => isort_stable T c h
end
theorem isort_data {ds : List Dt} (h : okS ds = true) : ds.mergeSort (PySem.W.dataLe false fun d : Dt => d) = isort ds := (isort_merge (PySem.W.sortLe_total _ _ _) (dlt_ok h)).symm
theorem okS_alike {ds : List Dt} (h : okS ds = true) : PySem.W.AllAlike (ds.map fun d => d) := by
  intro a ha b hb
  rw [List.map_id'] at ha hb
  unfold okS at h
  rw [Bool.or_eq_true] at h
  rcases h with h | h
  · obtain ⟨i, rfl⟩ := isI_out (List.all_eq_true.mp h a ha)
    obtain ⟨j, rfl⟩ := isI_out (List.all_eq_true.mp h b hb)
    simp [PySem.W.alike]
  · obtain ⟨i, ns, rfl⟩ := isTI_out (List.all_eq_true.mp h a ha)
    obtain ⟨j, ms, rfl⟩ := isTI_out (List.all_eq_true.mp h b hb)
    rw [PySem.W.alike]
    exact PySem.W.alike_ints (i :: ns) (j :: ms)
theorem okS_sortable {ds : List Dt} (h : okS ds = true) : PySem.W.Sortable (ds.map fun d => d) := by
  rw [List.map_id']
  unfold okS at h
  rw [Bool.or_eq_true] at h
  rcases h with h | h
  · refine .inr fun d hd => ?_
    obtain ⟨i, rfl⟩ := isI_out (List.all_eq_true.mp h d hd)
    refine ⟨fun z => ?_, fun _ z => ?_⟩ <;> cases z
  · refine .inl fun d hd => ?_
    obtain ⟨i, ns, rfl⟩ := isTI_out (List.all_eq_true.mp h d hd)
    exact ⟨_, _, rfl⟩
theorem okS_depth {ds : List Dt} (h : okS ds = true) : ∀ d ∈ ds, d.depth ≤ 1 := by
  intro d hd
  unfold okS at h
  rw [Bool.or_eq_true] at h
  rcases h with h | h
  · obtain ⟨i, rfl⟩ := isI_out (List.all_eq_true.mp h d hd)
    simp [PyData.depth]
  · obtain ⟨i, ns, rfl⟩ := isTI_out (List.all_eq_true.mp h d hd)
    rw [PyData.depth]
    have := PySem.W.depth_ints (i :: ns)
    rw [List.map_cons] at this
    rw [this]
    decide
theorem plainI : ∀ ns : List Int, PyData.plainAll (ns.map .int) = true
  | [] => by simp [PyData.plainAll]
  | x :: xs => by
    rw [List.map_cons, PyData.plainAll, plainI xs]
    simp [PyData.plain]
theorem okS_plain {ds : List Dt} (h : okS ds = true) : ∀ d ∈ ds, d.plain = true := by
  intro d hd
  unfold okS at h
  rw [Bool.or_eq_true] at h
  rcases h with h | h
  · obtain ⟨i, rfl⟩ := isI_out (List.all_eq_true.mp h d hd)
    simp [PyData.plain]
  · obtain ⟨i, ns, rfl⟩ := isTI_out (List.all_eq_true.mp h d hd)
    rw [PyData.plain]
    exact plainI (i :: ns)
def PE2 (R : V → Dt → Prop) : List V → List Dt → Prop := PySem.W.EachIs R
def rSortedD (K : PySem.W.Frag) : List V → Hp → VK → Prop := fun vs H Q => ∃ (a : Addr) (xs : List V) (ds : List Dt) (R : V → Dt → Prop), vs = [.ref a] ∧ SqL K H a xs ∧ okS ds = true ∧ PySem.W.EachIs (fun v d => R v d ∧ Dp K H v d) xs ds ∧
  ∀ ys p, PySem.W.EachIs R ys (isort ds) → H p = none → Q (.ref p) (upd H p (.lst ys))
theorem each_vals {R : V → Dt → Prop} : ∀ {xs : List V} {us : List Value} {ds : List Dt}, Vals xs us → PySem.W.EachIs R xs ds → PySem.W.EachIs (fun u d => ∃ v, RelV v u ∧ R v d) us ds
  | _, _, _, .nil, .nil => .nil
  | _, _, _, .cons r t, .cons h hs => .cons ⟨_, r, h⟩ (each_vals t hs)
theorem vals_each {R : V → Dt → Prop} : ∀ {us : List Value} {ds : List Dt}, PySem.W.EachIs (fun u d => ∃ v, RelV v u ∧ R v d) us ds → ∃ xs, Vals xs us ∧ PySem.W.EachIs R xs ds
  | _, _, .nil => ⟨[], .nil, .nil⟩
  | _, _, .cons ⟨v, r, h⟩ t => let ⟨xs, h1, h2⟩ := vals_each t; ⟨v :: xs, .cons r h1, .cons h h2⟩
theorem cr_sortedD {X : Cx} (hu : X.A.units + 64 < cLine) : CallR X (.builtin "sorted") (rSortedD X.K) := by
  intro pins s σ H vs us Q I r h
  obtain ⟨a, xs, ds, R, rfl, hs, hok, he, q⟩ := h
  obtain ⟨its, rv, hl, hz⟩ := I.list hs
  rw [Vals.ref1 r]
  have e2 := each_vals rv he
  refine PySem.W.sorted_data (enc := fun d : Dt => d) (R := fun u d => ∃ v, RelV v u ∧ R v d) hl.isList (e2.mono fun u d ⟨v, h1, h2, _⟩ => ⟨v, h1, h2⟩) (e2.mono fun u d ⟨v, h1, _, h2⟩ => Dp.reads I d v u h2 h1) (okS_alike hok) (okS_sortable hok) (by rw [← e2.length, ← rv.length]; exact hz) (fun b hb => by have := okS_depth hok b hb; omega) fun out h1 h2 => ?_
  rw [isort_data hok] at h2
  obtain ⟨ys, hv, hy⟩ := vals_each h2
  obtain ⟨ep, he'⟩ := PyProof.Rows.sortedAll_at s.heap its out.toArray
  have hlen : ys.length ≤ sizeLine := by
    rw [hv.length, h1, ← e2.length, ← rv.length]
    exact hz
  exact ⟨.ref _, upd H (s.heap.objs.size + 1) (.lst ys), I.laid (t' := s.toks) (fun _ _ => PyProof.Rows.sortedAll_old) (Nat.le_succ _) ⟨hlen, out, ep, hv, he'⟩, rfl, q _ _ hy (I.hok.fresh (Nat.le_succ _))⟩
theorem RpAll.each {K : PySem.W.Frag} {O : Addr → Prop} {H : Hp} : ∀ {vs : List V} {ds : List Dt}, RpAll K O H vs ds → (∀ d ∈ ds, d.plain = true) → PySem.W.EachIs (fun v d => Rp K O H v d ∧ Dp K H v d) vs ds
  | _, _, .nil, _ => .nil
  | _, _, .cons h t, hp => .cons ⟨h, h.dp (hp _ List.mem_cons_self)⟩ (RpAll.each t fun d hd => hp d (List.mem_cons_of_mem _ hd))
theorem each_rp {K : PySem.W.Frag} {O : Addr → Prop} {H : Hp} : ∀ {vs : List V} {ds : List Dt}, PySem.W.EachIs (fun v d => Rp K O H v d) vs ds → RpAll K O H vs ds
  | _, _, .nil => .nil
  | _, _, .cons h t => .cons h (each_rp t)
def dSorted : Dt → Option Dt
  | .list ds => if okS ds then some (.list (isort ds)) else none
  | _ => none
theorem cd_sorted (K : PySem.W.Frag) : CD1 K (rSortedD K) dSorted := by
  intro x H Q ow dx dz ok rx e post
  unfold dSorted at e
  split at e
  · split at e
    · rename_i hok
      cases e
      obtain ⟨a, vs, rfl, h1, r⟩ := rx.list
      exact ⟨a, vs, _, _, rfl, SqL.of h1, hok, r.each (okS_plain hok), fun ys p hy hp => post _ _ (Same.upd hp) (.lst upd_same (ok.new hp) (RpAll.same (Same.upd hp) (each_rp hy)))⟩
    · cases e
  · cases e
/-! ### set(t) of a tuple of ints, under sorted and len -/
def ddup : List Int → List Int
  | [] => []
  | x :: xs => if xs.contains x then ddup xs else x :: ddup xs
theorem ddup_mem : ∀ {l : List Int} {k : Int}, k ∈ ddup l ↔ k ∈ l
  | [], _ => Iff.rfl
  | x :: xs, k => by
    unfold ddup
    split
    · rename_i h
      rw [ddup_mem, List.mem_cons]
      exact ⟨.inr, fun z => z.elim (fun e => by rw [e]; simpa using h) id⟩
    · rw [List.mem_cons, List.mem_cons, ddup_mem]
theorem ddup_nodup : ∀ l : List Int, (ddup l).Nodup
  | [] => List.nodup_nil
  | x :: xs => by
    unfold ddup
    split
    · exact ddup_nodup xs
    · rename_i h
      exact List.nodup_cons.mpr ⟨fun z => h (by simpa using ddup_mem.mp z), ddup_nodup xs⟩
theorem nodup_len : ∀ {a b : List Int}, a.Nodup → (∀ k, k ∈ a → k ∈ b) → a.length ≤ b.length := by
  intro a
  induction a with
  | nil => exact fun _ _ => Nat.zero_le _
  | cons x xs ih =>
    intro b hn h
    have hx : x ∈ b := h x List.mem_cons_self
    have hl := List.length_erase_of_mem hx
    have hp := List.length_pos_of_mem hx
    have := ih (b := b.erase x) (List.nodup_cons.mp hn).2 fun k hk => (List.mem_erase_of_ne (fun (e : k = x) => (List.nodup_cons.mp hn).1 (by rw [← e]; exact hk))).mpr (h k (List.mem_cons_of_mem _ hk))
    simp only [List.length_cons]
    omega
theorem setR_len {w : World} {h : Heap} {a : Addr} {ns : List Int} {c : Nat} (R : SetR w h a (fun j => decide (j ∈ ns)) c) : c = (ddup ns).length := by
  obtain ⟨o, es, ep, t, ho, hx, hd, hg, hn, hm, hb, hf, hc, _⟩ := R
  have e1 : (es.toList.map keyOf).length = c := by rw [List.length_map, Array.length_toList]; exact hc
  have hq : ∀ k, k ∈ es.toList.map keyOf ↔ k ∈ ddup ns := fun k => by rw [← hm k, ddup_mem, decide_eq_true_eq]
  have a1 := nodup_len hn fun k hk => (hq k).mp hk
  have a2 := nodup_len (ddup_nodup ns) fun k hk => (hq k).mpr hk
  omega
def rSetT (K : PySem.W.Frag) (w : World) : List V → Hp → VK → Prop := fun vs H Q => ∃ (p : Addr) (ns : List Int), vs = [.ref p] ∧ SqT K H p (ns.map V.int) ∧ ns.length ≤ 1000 ∧ ∀ l, H l = none → Q (.ref l) (upd H l (SetO w l (fun j => decide (j ∈ ns)) (ddup ns).length))
theorem cr_setT {X : Cx} (hc : X.calm = true) : CallR X (.type "set") (rSetT X.K X.w) := by
  intro pins s σ H vs us Q I r h
  obtain ⟨p, ns, rfl, hq, hl, q⟩ := h
  obtain ⟨its, rv, pt, hz⟩ := I.tuple hq
  rw [Vals.ref1 r]
  refine call_set_tupI ns (I.ok.hd hc) pt (by simpa using rv.ints) (by unfold scanBound; omega) fun h' tk c R hcn kk => ?_
  have e := setR_len R
  subst e
  exact ⟨.ref _, _, I.laid (t' := tk) kk (Nat.le_refl _) (setO_new R), rfl, q _ (I.hok.fresh (Nat.le_refl _))⟩
def rLenSetO (w : World) : List V → Hp → VK → Prop := fun vs H Q => ∃ (a : Addr) (S : Int → Bool) (n : Nat), vs = [V.ref a] ∧ H a = some (SetO w a S n) ∧ Q (.int n) H
theorem cr_lenSetO {X : Cx} : CallR X (.builtin "len") (rLenSetO X.w) := by
  intro pins s σ H vs us Q I r h
  obtain ⟨a, S, n, rfl, ha, q⟩ := h
  obtain ⟨o, es, ep, t, ho, hx, hd, hg, hn, hm, hb, hf, hc, _⟩ := setO_get I ha
  rw [Vals.ref1 r]
  exact call_len_set ho hx hd hf (by unfold scanBound at hb; omega) ⟨.int n, H, I.tok _, ⟨_, by rw [hc]⟩, q⟩
def unI : List Dt → Option (List Int)
  | [] => some []
  | .int i :: r => (unI r).map (i :: ·)
  | _ :: _ => none
theorem unI_eq : ∀ {ds : List Dt} {ns : List Int}, unI ds = some ns → ds = ns.map .int
  | [], _, h => by cases h; rfl
  | d :: ds, ns, h => by
    cases d with
    | int i =>
      simp only [unI] at h
      cases e : unI ds with
      | none => rw [e] at h; cases h
      | some m => rw [e] at h; cases h; rw [unI_eq e]; rfl
    | _ => cases h
theorem unI_map (ns : List Int) : unI (ns.map .int) = some ns := by
  induction ns with
  | nil => rfl
  | cons n ns ih => simp [unI, ih]
theorem RpAll.ints {K : PySem.W.Frag} {O : Addr → Prop} {H : Hp} : ∀ {ns : List Int} {vs : List V}, RpAll K O H vs (ns.map .int) → vs = ns.map V.int
  | [], _, .nil => rfl
  | n :: ns, _, .cons h t => by
    rw [RpAll.ints t]
    cases h
    rfl
theorem rp_ints {K : PySem.W.Frag} {O : Addr → Prop} {H : Hp} (ns : List Int) : RpAll K O H (ns.map V.int) (ns.map .int) := rp_map _ _ ns fun x _ => .int x
/-- the members in order -/
def sset (ns : List Int) : List Dt := isort ((ddup ns).map .int)
def dSortSet : Dt → Option Dt
  | .tuple ds => match unI ds with
    | some ns => if ns.length < 64 then some (.list (sset ns)) else none
    | none => none
  | _ => none
def dLenSet : Dt → Option Dt
  | .tuple ds => match unI ds with
    | some ns => if ns.length < 64 then some (.int (ddup ns).length) else none
    | none => none
  | _ => none
theorem dlt_int (a b : Int) : dlt (.int a) (.int b) = decide (a < b) := by rw [dlt]
theorem ins_int (x : Int) : ∀ l : List Int, ∃ m : List Int, ins (.int x) (l.map .int) = m.map .int
  | [] => ⟨[x], rfl⟩
  | y :: ys => by
    simp only [List.map_cons, ins]
    split
    · exact ⟨x :: y :: ys, rfl⟩
    · obtain ⟨m, hm⟩ := ins_int x ys
      exact ⟨y :: m, by rw [hm]; rfl⟩
theorem isort_int : ∀ l : List Int, ∃ m : List Int, isort (l.map .int) = m.map .int
  | [] => ⟨[], rfl⟩
  | x :: xs => by
    obtain ⟨m, hm⟩ := isort_int xs
    show ∃ m, ins (.int x) (isort (xs.map .int)) = _
    rw [hm]
    exact ins_int x m
theorem lt_unique : ∀ {a b : List Int}, a.Pairwise (· < ·) → b.Pairwise (· < ·) → (∀ k, k ∈ a ↔ k ∈ b) → a = b
  | [], [], _, _, _ => rfl
  | [], y :: ys, _, _, h => absurd ((h y).mpr List.mem_cons_self) (by simp)
  | x :: xs, [], _, _, h => absurd ((h x).mp List.mem_cons_self) (by simp)
  | x :: xs, y :: ys, ha, hb, h => by
    have pa := List.pairwise_cons.mp ha
    have pb := List.pairwise_cons.mp hb
    have e : x = y := by
      rcases List.mem_cons.mp ((h x).mp List.mem_cons_self) with e | e
      · exact e
      · rcases List.mem_cons.mp ((h y).mpr List.mem_cons_self) with e2 | e2
        · exact e2.symm
        · have := pb.1 x e
          have := pa.1 y e2
          omega
    subst e
    rw [lt_unique pa.2 pb.2 fun k => ?_]
    constructor
    · intro hk
      rcases List.mem_cons.mp ((h k).mp (List.mem_cons_of_mem _ hk)) with e | e
      · have := pa.1 k hk; omega
      · exact e
    · intro hk
      rcases List.mem_cons.mp ((h k).mpr (List.mem_cons_of_mem _ hk)) with e | e
      · have := pb.1 k hk; omega
      · exact e
theorem map_int_inj {a b : List Int} (h : a.map PyData.int = b.map PyData.int) : a = b := by
  have := congrArg unI h
  rw [unI_map, unI_map] at this
  exact Option.some.inj this
def toI : Dt → Option Int
  | .int i => some i
  | _ => none
theorem sset_eq (ns ms : List Int) (h1 : ms.Pairwise (· < ·)) (h2 : ∀ k, k ∈ ms ↔ k ∈ ns) : sset ns = ms.map .int := by
  obtain ⟨m, hm⟩ := isort_int (ddup ns)
  unfold sset
  rw [hm]
  have hok : okS ((ddup ns).map .int) = true := by
    unfold okS
    rw [Bool.or_eq_true]
    left
    rw [List.all_eq_true]
    intro d hd
    obtain ⟨i, _, rfl⟩ := List.mem_map.mp hd
    rfl
  have hs := isort_sorted (PySem.W.sortLe_total _ _ _) (dlt_ok hok)
  have hp := isort_perm ((ddup ns).map .int)
  rw [hm] at hs hp
  have hs2 : m.Pairwise (· ≤ ·) := by
    refine (List.pairwise_map.mp hs).imp fun {x y} h => ?_
    have h' : (!PySem.W.dataLt (.int y) (.int x)) = true := h
    rw [PySem.W.dataLt_int] at h'
    simpa using h'
  have hp2 : m.Perm (ddup ns) := by
    have e := hp.filterMap toI
    rw [List.filterMap_map, List.filterMap_map] at e
    have f : toI ∘ PyData.int = (some : Int → Option Int) := rfl
    rw [f, List.filterMap_some, List.filterMap_some] at e
    exact e
  have hn : m.Nodup := hp2.nodup_iff.mpr (ddup_nodup ns)
  rw [lt_unique (lt_of_le_nodup m hs2 hn) h1 fun k => by rw [hp2.mem_iff, ddup_mem, h2]]
section
variable {G : Gc} {N : List Str} {sc : Scope} {fn : Str → Bool} {k : Nat} {pos p p2 q1 q2 : Pos} {a b c : Expr} {f g h : EF}
theorem se_sorted (B : Bi G) (ha : SE G N sc fn k a f) (hg : GL sc "sorted" := by rfl) (ns : NS a := by intro _ _; rfl) : SE G N sc fn k (.Call (.Name "sorted" p) [a] [] pos) (eUn dSorted f) := fun X C W tk b' =>
  PE.imp (pe_callB (cr_sortedD C.room.units) (C.gl hg) (by rw [C.hmg]; exact B.sorted) PyProof.Rows.boot_sorted (pa_cons (ha X C W tk true) pa_nil (ns [] X.env)) (by decide) (by decide) (ns [] X.env) rfl) fun σ H Q h => tCB_of (cd_sorted X.K) h
theorem se_sortSet (B : Bi G) (ha : SE G N sc fn k a f) (hg : GL sc "sorted" := by rfl) (hg2 : GL sc "set" := by rfl) (ns : NS a := by intro _ _; rfl) : SE G N sc fn k (.Call (.Name "sorted" p) [.Call (.Name "set" p2) [a] [] q1] [] pos) (eUn dSortSet f) := fun X C W tk b' =>
  PE.imp (pe_callB (cr_sortedSet C.calm) (C.gl hg) (by rw [C.hmg]; exact B.sorted) PyProof.Rows.boot_sorted (pa_cons (pe_callTy (cr_setT C.calm) (C.gl hg2) (by rw [C.hmg]; exact B.set) PyProof.Rows.boot_set (pa_cons (ha X C W tk true) pa_nil (ns [] X.env)) (by decide) (by decide) (ns [] X.env) rfl) pa_nil rfl) (by decide) (by decide) rfl rfl) fun σ H Q h => by
    obtain ⟨ρ, ow, rs, he, gd, post⟩ := h
    refine tE.go gd he (fun n pl e => by subst e; exact post) fun d hd1 v H1 s1 r1 => ?_
    cases d with
    | tuple ds =>
      simp only [dSortSet] at hd1
      split at hd1
      · rename_i ns hns
        split at hd1
        · rename_i hl
          cases hd1
          obtain ⟨t, vs, rfl, hT, rr⟩ := r1.tuple
          obtain rfl := unI_eq hns
          obtain rfl := RpAll.ints rr
          refine ⟨t, ns, rfl, hT.sq, by omega, fun l hl0 => ⟨l, _, _, rfl, upd_same, ?_, fun ms p' h1 h2 _ hp' => ?_⟩⟩
          · have := nodup_len (ddup_nodup ns) (b := ns) fun k hk => ddup_mem.mp hk
            omega
          · have e := sset_eq ns ms h1 fun k => by rw [h2 k, decide_eq_true_eq]
            have s3 := (s1.trans (Same.upd hl0)).trans (Same.upd (o := .lst (ms.map V.int)) hp')
            refine post _ _ s3 (.inl ?_)
            rw [e]
            exact .lst upd_same ((gd.ok.same (s1.trans (Same.upd hl0))).new hp') (rp_ints ms)
        · cases hd1
      · cases hd1
    | _ => cases hd1
theorem se_lenSet (B : Bi G) (ha : SE G N sc fn k a f) (hg : GL sc "len" := by rfl) (hg2 : GL sc "set" := by rfl) (ns : NS a := by intro _ _; rfl) : SE G N sc fn k (.Call (.Name "len" p) [.Call (.Name "set" p2) [a] [] q1] [] pos) (eUn dLenSet f) := fun X C W tk b' =>
  PE.imp (pe_callB cr_lenSetO (C.gl hg) (by rw [C.hmg]; exact B.len) PySem.boot_len (pa_cons (pe_callTy (cr_setT C.calm) (C.gl hg2) (by rw [C.hmg]; exact B.set) PyProof.Rows.boot_set (pa_cons (ha X C W tk true) pa_nil (ns [] X.env)) (by decide) (by decide) (ns [] X.env) rfl) pa_nil rfl) (by decide) (by decide) rfl rfl) fun σ H Q h => by
    obtain ⟨ρ, ow, rs, he, gd, post⟩ := h
    refine tE.go gd he (fun n pl e => by subst e; exact post) fun d hd1 v H1 s1 r1 => ?_
    cases d with
    | tuple ds =>
      simp only [dLenSet] at hd1
      split at hd1
      · rename_i ns hns
        split at hd1
        · rename_i hl
          cases hd1
          obtain ⟨t, vs, rfl, hT, rr⟩ := r1.tuple
          obtain rfl := unI_eq hns
          obtain rfl := RpAll.ints rr
          refine ⟨t, ns, rfl, hT.sq, by omega, fun l hl0 => ⟨l, _, _, rfl, upd_same, ?_⟩⟩
          exact post _ _ (s1.trans (Same.upd hl0)) (.inl (.int _))
        · cases hd1
      · cases hd1
    | _ => cases hd1
end
end PT

namespace PT
open PySem PySem.Spec PyProof.Rows L2
theorem kit_int : KitOk "int" := ⟨by decide, by
  intro K d hs
  cases d with
  | dict kv =>
    have e : isScr kv = true := by simpa [isSht] using hs
    have e1 : tyN (.dict kv) = "list" := by show (if isScr kv = true then "list" else "Sheet") = _; rw [e]; rfl
    have e2 : dIsi "int" (.dict kv) = dIsi "int" (.list []) := by unfold dIsi; rw [e1]; rfl
    rw [e1, e2]
    kernel_rfl
  | _ => kernel_rfl⟩
theorem kit_bool : KitOk "bool" := ⟨by decide, by
  intro K d hs
  cases d with
  | dict kv =>
    have e : isScr kv = true := by simpa [isSht] using hs
    have e1 : tyN (.dict kv) = "list" := by show (if isScr kv = true then "list" else "Sheet") = _; rw [e]; rfl
    have e2 : dIsi "bool" (.dict kv) = dIsi "bool" (.list []) := by unfold dIsi; rw [e1]; rfl
    rw [e1, e2]
    kernel_rfl
  | _ => kernel_rfl⟩
theorem kit_tuple : KitOk "tuple" := ⟨by decide, by
  intro K d hs
  cases d with
  | dict kv =>
    have e : isScr kv = true := by simpa [isSht] using hs
    have e1 : tyN (.dict kv) = "list" := by show (if isScr kv = true then "list" else "Sheet") = _; rw [e]; rfl
    have e2 : dIsi "tuple" (.dict kv) = dIsi "tuple" (.list []) := by unfold dIsi; rw [e1]; rfl
    rw [e1, e2]
    kernel_rfl
  | _ => kernel_rfl⟩
theorem kit_str : KitOk "str" := ⟨by decide, by
  intro K d hs
  cases d with
  | dict kv =>
    have e : isScr kv = true := by simpa [isSht] using hs
    have e1 : tyN (.dict kv) = "list" := by show (if isScr kv = true then "list" else "Sheet") = _; rw [e]; rfl
    have e2 : dIsi "str" (.dict kv) = dIsi "str" (.list []) := by unfold dIsi; rw [e1]; rfl
    rw [e1, e2]
    kernel_rfl
  | _ => kernel_rfl⟩
theorem kit_list : KitOk "list" := ⟨by decide, by
  intro K d hs
  cases d with
  | dict kv =>
    have e : isScr kv = true := by simpa [isSht] using hs
    have e1 : tyN (.dict kv) = "list" := by show (if isScr kv = true then "list" else "Sheet") = _; rw [e]; rfl
    have e2 : dIsi "list" (.dict kv) = dIsi "list" (.list []) := by unfold dIsi; rw [e1]; rfl
    rw [e1, e2]
    kernel_rfl
  | _ => kernel_rfl⟩
section
variable {G : Gc} {N : List Str} {sc : Scope} {fn : Str → Bool} {k : Nat} {pos p p2 q1 q2 : Pos} {st : Stmt} {rest : List Stmt} {a b c : Expr} {f g h : EF} {s1 s2 : SF}
def sUn (i : Nat) (s : SF) : SF := fun ρ => s (unown i ρ)
theorem ss_un (i : Nat) (h : SS G N sc fn k st s1) : SS G N sc fn k st (sUn i s1) := ss_unown i h
/-! a comprehension given to a name that a comprehension holds on to -/
theorem sw_cell {elt : Expr} {gs : List Comprehension} {scope : Scope} {y : Str} {py : Pos} {l : Nat} {env : PySem.Env} (hy : env.scope.names.lookup y = some .cell) : swapsWith (.ListComp elt gs scope pos) (some (.Name y py)) l env = pure false := by
  have ky : env.kindOf y = some .cell := hy
  unfold swapsWith
  simp only [ky]
  have : (some NameKind.cell == some NameKind.local) = false := by decide
  rw [this]
  simp
theorem ag_ofC (i : Nat) {y : Str} {elt : Expr} {gs : List Comprehension} {scope : Scope} (he : SE G N sc fn k (.ListComp elt gs scope pos) f) (hi : N[i]? = some y := by rfl) (hx : sc.names.lookup y = some .cell := by rfl) (hf : fn y = true := by rfl) : SAg G N sc fn k y i (.ListComp elt gs scope pos) f := fun X C W tk py spos =>
  ps_set (by rw [C.hN]; exact C.nd) (by rw [C.hN]; exact hi) (by rw [C.hsc]; exact .inr hx) (he X C W tk false) (sw_cell (by rw [C.hsc]; exact hx)) (by rw [C.hfn, C.hsc]; exact .inl hf)
theorem agL_ofC (i : Nat) {y : Str} {elt : Expr} {gs : List Comprehension} {scope : Scope} (he : SL G N sc fn k (.ListComp elt gs scope pos) f) (hi : N[i]? = some y := by rfl) (hx : sc.names.lookup y = some .cell := by rfl) (hf : fn y = true := by rfl) : SAgL G N sc fn k y i (.ListComp elt gs scope pos) f := fun X C W tk py spos =>
  ps_set (by rw [C.hN]; exact C.nd) (by rw [C.hN]; exact hi) (by rw [C.hsc]; exact .inr hx) (he X C W tk) (sw_cell (by rw [C.hsc]; exact hx)) (by rw [C.hfn, C.hsc]; exact .inl hf)
end
/-! ## the end: the law's promise, exceptions by world -/
theorem walk_pt {l : PySem.W.OpenLaw} {n k : Nat} {q : Program} {loose : List Str} {XP : (Str → Option Value) → Heap → Prop} {YP : World → Heap → Prop} {d : DefRec} {CX : World → CXT} {x : Str} (hn : l.most = some n) (hn2 : n ≤ sizeLine) (hdf : d.params.defaults = []) (hr : Room k callerA)
    (F : ∀ (w : World) (mg : Str → Option Value) (f : Addr) (h : Heap), YP w h → h.Ns mainGlobals mg → mg d.name = some (.ref f) →
      ∃ (K : PySem.W.Frag) (fd : FuncData) (sp : Sp), K.In h ∧ (∀ (s : Shared) (u : Value), BindsTo s fd ⟨[u], []⟩ [(x, u)]) ∧
        (∀ (H : Hp) (a : Addr) (ns : List Int), ns.length ≤ n → Only H → SqL K H a (ns.map V.int) → sp [.ref a] H (fun v _ => v = .bl true) fun _ _ _ => False) ∧
        ∀ base : Heap, K.In base → base.Ns mainGlobals mg → FnOk l.prog w K mg base (CX w) k f fd [x] sp)
    (hX : ∀ (w : World) (H : Hp) (s : Shared) (e : Value) (s2 : Shared), CX w [] H s (fun _ _ _ => False) e s2 → False) : PySem.W.WalkO q loose XP YP l.row.toRowW d [] (fun f vs => PySem.call f vs) := by
  refine Att.attach_call hn hdf fun w s0 s1 mg mb f o pm cd doc a us ns G Y ho hd hcd hm hob hin hle hg => ?_
  obtain ⟨K, fd, sp, kx, hb, hq, hF⟩ := F w mg f _ Y G.T.g hm
  exact law_call kx G.T.g G.T.b G.T.builtins G.T.nolimit hg hob hin (Nat.le_trans hle hn2) hr hF hb (fun H hO hS => hq H a ns hle hO hS) fun H e s2 => hX w H s1 e s2
end PT

namespace PT
open PySem PySem.Spec PyProof.Rows L2
/-! ## plain working-out of the combinators -/
section
variable {b : Bool} {ρ : En} {f g h : EF} {d : Dt} {i : Nat}
@[simp] theorem w_bnd (d : Dt) (k : Dt → Option Rs) : bnd (some (.val d)) k = k d := Eq.trans rfl rfl
@[simp] theorem w_bndX (n : Str) (pl : Option Dt) (k : Dt → Option Rs) : bnd (some (.exc n pl)) k = some (.exc n pl) := Eq.trans rfl rfl
@[simp] theorem w_bndN (k : Dt → Option Rs) : bnd none k = none := Eq.trans rfl rfl
@[simp] theorem w_bndS (d : Dt) (k : Dt → Option Out) : bndS (some (.val d)) k = k d := Eq.trans rfl rfl
@[simp] theorem w_bndSX (n : Str) (pl : Option Dt) (k : Dt → Option Out) : bndS (some (.exc n pl)) k = some (.ex n pl) := Eq.trans rfl rfl
@[simp] theorem w_bndSN (k : Dt → Option Out) : bndS none k = none := Eq.trans rfl rfl
@[simp] theorem w_bndI (d : Dt) (k : Dt → Option Irs) : bndI (some (.val d)) k = k d := Eq.trans rfl rfl
@[simp] theorem w_bndA (d : List Dt) (k : List Dt → Option Rs) : bndA (some (.vals d)) k = k d := Eq.trans rfl rfl
@[simp] theorem w_c : eC d b ρ = some (.val d) := Eq.trans rfl rfl
@[simp] theorem w_bin (op : Dt → Dt → Option Dt) : eBin op f g b ρ = bnd (f true ρ) fun x => bnd (g true ρ) fun y => (op x y).map .val := Eq.trans rfl rfl
@[simp] theorem w_un (op : Dt → Option Dt) : eUn op f b ρ = bnd (f true ρ) fun x => (op x).map .val := Eq.trans rfl rfl
@[simp] theorem w_nil : aNil ρ = some (.vals []) := Eq.trans rfl rfl
@[simp] theorem w_cons (f : EF) (g : AF) : aCons f g ρ = (match f false ρ with
  | some (.val d) => (match g ρ with
    | some (.vals ds) => some (.vals (d :: ds))
    | y => y)
  | some (.exc n pl) => some (.exc n pl)
  | none => none) := Eq.trans rfl rfl
@[simp] theorem w_fn (n : Nat) (F : List Dt → Option Rs) (g : AF) : eFn n F g b ρ = bndA (g ρ) fun ds => if ds.length = n then F ds else none := Eq.trans rfl rfl
@[simp] theorem w_seq (s1 s2 : SF) : sSeq s1 s2 ρ = (match s1 ρ with
  | some (.nx ρ') => s2 ρ'
  | y => y) := Eq.trans rfl rfl
@[simp] theorem w_nop : sNop ρ = some (.nx ρ) := Eq.trans rfl rfl
@[simp] theorem w_set : sSet i f ρ = bndS (f false ρ) fun d => some (.nx (ρ.set i (some (.sh d)))) := Eq.trans rfl rfl
@[simp] theorem w_setO : sSetO i f ρ = bndS (f true ρ) fun d => match d with
  | .list ds => if i < ρ.length then some (.nx (ρ.set i (some (.own ds)))) else none
  | _ => none := Eq.trans rfl rfl
@[simp] theorem w_ret : sRet f ρ = bndS (f true ρ) fun d => some (.rt d) := Eq.trans rfl rfl
@[simp] theorem w_do : sDo f ρ = bndS (f true ρ) fun _ => some (.nx ρ) := Eq.trans rfl rfl
@[simp] theorem w_if (s1 s2 : SF) : sIf f s1 s2 ρ = bndS (f true ρ) fun x => match tru x with
  | some true => s1 ρ
  | some false => s2 ρ
  | none => none := Eq.trans rfl rfl
end
section
variable {b : Bool} {ρ : En} {f g h : EF} {d : Dt} {i n : Nat} {x y : Int}
@[simp] theorem w_v0 : eVar 0 b (some (.sh d) :: ρ) = some (.val d) := Eq.trans rfl rfl
@[simp] theorem w_o0 (xs : List Dt) : eVar 0 true (some (.own xs) :: ρ) = some (.val (.list xs)) := Eq.trans rfl rfl
@[simp] theorem w_o0f (xs : List Dt) : eVar 0 false (some (.own xs) :: ρ) = none := Eq.trans rfl rfl
@[simp] theorem w_vs (s : Option SV) : eVar (n + 1) b (s :: ρ) = eVar n b ρ := Eq.trans rfl rfl
@[simp] theorem w_clr0 : clr ρ [] = ρ := Eq.trans rfl rfl
@[simp] theorem w_clrs (v : Nat) (vs : List Nat) : clr ρ (v :: vs) = (clr ρ vs).set v none := Eq.trans rfl rfl
@[simp] theorem w_nm : gNm i d ρ = some (ρ.set i (some (.sh d))) := Eq.trans rfl rfl
@[simp] theorem w_pr (g1 g2 : GF) (p q : Dt) : gPr g1 g2 (.tuple [p, q]) ρ = (g1 p ρ).bind (g2 q) := Eq.trans rfl rfl
@[simp] theorem w_add : dAdd (.int x) (.int y) = some (.int (x + y)) := Eq.trans rfl rfl
@[simp] theorem w_sub : dSub (.int x) (.int y) = some (.int (x - y)) := Eq.trans rfl rfl
@[simp] theorem w_mul : dMul (.int x) (.int y) = if sml x || sml y then some (.int (x * y)) else none := Eq.trans rfl rfl
theorem w_mulI : dMulI (.int x) (.int y) = if sml x || sml y then some (.int (x * y)) else none := Eq.trans rfl rfl
@[simp] theorem w_addI : dAddI (.int x) (.int y) = some (.int (x + y)) := Eq.trans rfl rfl
theorem w_mod (h : 0 < y) : dMod (.int x) (.int y) = some (.int (x % y)) := by
  have e : (decide (y ≠ 0)) = true := decide_eq_true (by omega)
  show (if (decide (y ≠ 0)) = true then some (PyData.int (x.fmod y)) else none) = _
  rw [if_pos e, Int.fmod_eq_emod_of_nonneg x (by omega)]
theorem w_div (h : 0 < y) (h2 : y < 1073741824) : dDiv (.int x) (.int y) = some (.int (x / y)) := by
  have e : (decide (y ≠ 0) && decide (y.natAbs < 1073741824)) = true := by
    rw [Bool.and_eq_true]
    exact ⟨decide_eq_true (by omega), decide_eq_true (by omega)⟩
  show (if (decide (y ≠ 0) && decide (y.natAbs < 1073741824)) = true then some (PyData.int (x.fdiv y)) else none) = _
  rw [if_pos e, Int.fdiv_eq_ediv_of_nonneg x (by omega)]
@[simp] theorem w_lt : dLt (.int x) (.int y) = some (.bool (decide (x < y))) := Eq.trans rfl rfl
@[simp] theorem w_le : dLe (.int x) (.int y) = some (.bool (decide (x ≤ y))) := Eq.trans rfl rfl
@[simp] theorem w_gt : dGt (.int x) (.int y) = some (.bool (decide (y < x))) := Eq.trans rfl rfl
@[simp] theorem w_ge : dGe (.int x) (.int y) = some (.bool (decide (y ≤ x))) := Eq.trans rfl rfl
@[simp] theorem w_truB (c : Bool) : tru (.bool c) = some c := Eq.trans rfl rfl
@[simp] theorem w_truI : tru (.int x) = some (x != 0) := Eq.trans rfl rfl
@[simp] theorem w_truL (xs : List Dt) : tru (.list xs) = some (!xs.isEmpty) := Eq.trans rfl rfl
@[simp] theorem w_truT (xs : List Dt) : tru (.tuple xs) = some (!xs.isEmpty) := Eq.trans rfl rfl
@[simp] theorem w_truN : tru .none = some false := Eq.trans rfl rfl
@[simp] theorem w_lenL (xs : List Dt) : dLen (.list xs) = some (.int xs.length) := Eq.trans rfl rfl
@[simp] theorem w_lenT (xs : List Dt) : dLen (.tuple xs) = some (.int xs.length) := Eq.trans rfl rfl
@[simp] theorem w_tupL (xs : List Dt) : dTuple (.list xs) = some (.tuple xs) := Eq.trans rfl rfl
@[simp] theorem w_listT (xs : List Dt) : dList (.tuple xs) = some (.list xs) := Eq.trans rfl rfl
@[simp] theorem w_listL (xs : List Dt) : dList (.list xs) = some (.list xs) := Eq.trans rfl rfl
@[simp] theorem w_app0 (xs : List Dt) : sApp 0 f (some (.own xs) :: ρ) = bndS (f false (some (.own xs) :: ρ)) fun d => if xs.length < lim then some (.nx (some (.own (xs ++ [d])) :: ρ)) else none := Eq.trans rfl rfl
theorem w_app : sApp i f ρ = match ρ[i]? with
  | some (some (.own xs)) => bndS (f false ρ) fun d => if xs.length < lim then some (.nx (ρ.set i (some (.own (xs ++ [d]))))) else none
  | _ => none := Eq.trans rfl rfl
theorem w_aug (op : Dt → Dt → Option Dt) : sAug i op f ρ = match ρ[i]? with
  | some (some (.sh x)) => bndS (f true ρ) fun y => (op x y).map fun z => .nx (ρ.set i (some (.sh z)))
  | _ => none := Eq.trans rfl rfl
theorem w_for (sl : List Nat) (tg : GF) (it : IF) (body : SF) : sFor sl tg it body ρ = match it false ρ with
  | some (.it xs) => forL sl tg body xs ρ
  | some (.exc n pl) => some (.ex n pl)
  | none => none := Eq.trans rfl rfl
end
theorem ixN_nat {n k : Nat} (h : k < n) : ixN n (k : Int) = some k := by
  unfold ixN
  rw [if_pos (Int.natCast_nonneg k), if_pos (by omega)]
  simp
/-- one turn of a loop -/
def turn (sl : List Nat) (tg : GF) (body : SF) (x : Dt) (ρ : En) : Option Out := (tg x (clr ρ sl)).bind body
theorem forL_cons {sl : List Nat} {tg : GF} {body : SF} {x : Dt} {xs : List Dt} {ρ ρ2 : En} (h : turn sl tg body x ρ = some (.nx ρ2)) : forL sl tg body (x :: xs) ρ = forL sl tg body xs ρ2 := by
  unfold turn at h
  rw [forL]
  cases h1 : tg x (clr ρ sl) with
  | none => rw [h1] at h; cases h
  | some ρ1 =>
    rw [h1] at h
    have h' : body ρ1 = some (.nx ρ2) := h
    simp only [h']
theorem forL_stop {sl : List Nat} {tg : GF} {body : SF} {x : Dt} {xs : List Dt} {ρ : En} {d : Dt} (h : turn sl tg body x ρ = some (.rt d)) : forL sl tg body (x :: xs) ρ = some (.rt d) := by
  unfold turn at h
  rw [forL]
  cases h1 : tg x (clr ρ sl) with
  | none => rw [h1] at h; cases h
  | some ρ1 =>
    rw [h1] at h
    have h' : body ρ1 = some (.rt d) := h
    simp only [h']
theorem forL_inv {sl : List Nat} {tg : GF} {body : SF} (P : Nat → En → Prop) : ∀ (xs : List Dt) (i : Nat) (ρ : En), P i ρ → (∀ j x ρ, xs[j]? = some x → P (i + j) ρ → ∃ ρ2, turn sl tg body x ρ = some (.nx ρ2) ∧ P (i + j + 1) ρ2) →
    ∃ ρ', forL sl tg body xs ρ = some (.nx ρ') ∧ P (i + xs.length) ρ'
  | [], i, ρ, h0, _ => ⟨ρ, rfl, h0⟩
  | x :: xs, i, ρ, h0, hs => by
    obtain ⟨ρ2, h1, h3⟩ := hs 0 x ρ rfl h0
    obtain ⟨ρ', h4, h5⟩ := forL_inv P xs (i + 1) ρ2 h3 fun j y ρ hy hp => by
      have e : i + 1 + j = i + (j + 1) := by omega
      rw [e] at hp ⊢
      exact hs (j + 1) y ρ (by simpa using hy) hp
    refine ⟨ρ', ?_, ?_⟩
    · rw [forL_cons h1]
      exact h4
    · have e : i + (x :: xs).length = i + 1 + xs.length := by simp; omega
      rw [e]; exact h5

theorem lcL_filter {c e : EF} {tg : GF} {ρ : En} (p : Dt → Bool) (h : Dt → Dt) : ∀ (xs : List Dt), (∀ x ∈ xs, ∃ ρ1 d, tg x ρ = some ρ1 ∧ c true ρ1 = some (.val d) ∧ tru d = some (p x) ∧ (p x = true → e false ρ1 = some (.val (h x)))) → lcL c e tg ρ xs = some ((xs.filter p).map h)
  | [], _ => rfl
  | x :: xs, H => by
    obtain ⟨ρ1, d, h1, h2, h3, h4⟩ := H x List.mem_cons_self
    have ih := lcL_filter p h xs fun y hy => H y (List.mem_cons_of_mem _ hy)
    unfold lcL
    simp only [h1, h2, h3]
    cases hp : p x with
    | true => simp only [h4 hp, ih, List.filter_cons, hp, if_true, Option.map_some, List.map_cons]
    | false => simp [ih, List.filter_cons, hp]
theorem lcL_map {e : EF} {tg : GF} {ρ : En} (h : Dt → Dt) (xs : List Dt) (H : ∀ x ∈ xs, ∃ ρ1, tg x ρ = some ρ1 ∧ e false ρ1 = some (.val (h x))) : lcL (eC (.bool true)) e tg ρ xs = some (xs.map h) := by
  have := lcL_filter (c := eC (.bool true)) (e := e) (tg := tg) (ρ := ρ) (fun _ => true) h xs fun x hx => by
    obtain ⟨ρ1, h1, h2⟩ := H x hx
    exact ⟨ρ1, _, h1, rfl, rfl, fun _ => h2⟩
  rw [this, List.filter_eq_self.mpr fun _ _ => rfl]
theorem sml_of {x : Int} (h1 : -1000000 ≤ x) (h2 : x ≤ 1000000) : sml x = true := by
  rw [sml_iff]
  omega
theorem w_rg1 {f : EF} {b : Bool} {ρ : En} {n : Nat} (h : f true ρ = some (.val (.int (n : Int)))) (hn : n ≤ 1000000) : iRg1 f b ρ = some (.it (rgL 0 n)) := by
  unfold iRg1
  rw [h]
  show (if okI (n : Int) = true then some (Irs.it (rgL 0 (n : Int).toNat)) else none) = _
  rw [if_pos (okI_iff.mpr (by omega))]
  rfl
theorem w_rg2 {f g : EF} {b : Bool} {ρ : En} {lo hi : Int} (h : f true ρ = some (.val (.int lo))) (h' : g true ρ = some (.val (.int hi))) (h1 : -1000000 ≤ lo) (h2 : lo ≤ 1000000) (h3 : -1000000 ≤ hi) (h4 : hi ≤ 1000000) : iRg2 f g b ρ = some (.it (rgL lo (hi - lo).toNat)) := by
  unfold iRg2
  rw [h, h']
  show (if okI lo = true ∧ okI hi = true then some (Irs.it (rgL lo (hi - lo).toNat)) else none) = _
  rw [if_pos ⟨okI_iff.mpr (by omega), okI_iff.mpr (by omega)⟩]
theorem rgL_mem {lo : Int} {n : Nat} {x : Dt} (h : x ∈ rgL lo n) : ∃ i : Nat, i < n ∧ x = .int (lo + i) := by
  unfold rgL at h
  obtain ⟨i, hi, e⟩ := List.mem_map.mp h
  exact ⟨i, List.mem_range.mp hi, e.symm⟩
theorem rgL_at {lo : Int} {n j : Nat} {x : Dt} (h : (rgL lo n)[j]? = some x) : j < n ∧ x = .int (lo + j) := by
  have hj : j < n := by
    have := (List.getElem?_eq_some_iff.mp h).1
    rw [rgL_length] at this
    exact this
  rw [rgL_get hj] at h
  exact ⟨hj, (Option.some.inj h).symm⟩
theorem w_ixL {xs : List Dt} {i : Nat} {d : Dt} (h : xs[i]? = some d) : dIx (.list xs) (.int (i : Int)) = some d := atI_of (ixN_nat (List.getElem?_eq_some_iff.mp h).1) h
theorem w_ixT {xs : List Dt} {i : Nat} {d : Dt} (h : xs[i]? = some d) : dIx (.tuple xs) (.int (i : Int)) = some d := atI_of (ixN_nat (List.getElem?_eq_some_iff.mp h).1) h
theorem get_map_int {l : List Int} {i : Nat} (h : i < l.length) : (l.map PyData.int)[i]? = some (.int (l.getD i 0)) := by
  rw [List.getElem?_map, List.getElem?_eq_getElem h, List.getD_eq_getElem?_getD, List.getElem?_eq_getElem h]; rfl
theorem w_lc {sl : List Nat} {tg : GF} {it : IF} {c e : EF} {b : Bool} {ρ : En} {xs ys : List Dt} (h1 : it true ρ = some (.it xs)) (h2 : noOwn ρ sl = true) (h3 : xs.length ≤ lim) (h4 : lcL c e tg (clr ρ sl) xs = some ys) : eLc sl tg it c e b ρ = some (.val (.list ys)) := by
  unfold eLc
  rw [h1]
  simp only [h2, decide_eq_true h3, h4]
  rfl
theorem w_seqL {f : EF} {b : Bool} {ρ : En} {xs : List Dt} (h : f b ρ = some (.val (.list xs))) : iSeq f b ρ = some (.it xs) := by
  unfold iSeq
  rw [h]
  rfl
theorem w_seqT {f : EF} {b : Bool} {ρ : En} {xs : List Dt} (h : f b ρ = some (.val (.tuple xs))) : iSeq f b ρ = some (.it xs) := by
  unfold iSeq
  rw [h]
  rfl
theorem w_addL {xs ys : List Dt} (h : xs.length + ys.length ≤ lim) : dAdd (.list xs) (.list ys) = some (.list (xs ++ ys)) := by
  show (if xs.length + ys.length ≤ lim then some (PyData.list (xs ++ ys)) else none) = _
  rw [if_pos h]
theorem w_addT {xs ys : List Dt} (h : xs.length + ys.length ≤ lim) : dAdd (.tuple xs) (.tuple ys) = some (.tuple (xs ++ ys)) := by
  show (if xs.length + ys.length ≤ lim then some (PyData.tuple (xs ++ ys)) else none) = _
  rw [if_pos h]
theorem w_eqI (x y : Int) : dEq (.int x) (.int y) = some (.bool (decide (x = y))) := by
  have e1 : dEq (.int x) (.int y) = some (.bool (PyData.eqv (.int x) (.int y))) := Eq.trans rfl rfl
  rw [e1, eqv_int]
theorem w_neI (x y : Int) : dNe (.int x) (.int y) = some (.bool (!decide (x = y))) := by
  have e1 : dNe (.int x) (.int y) = some (.bool (!PyData.eqv (.int x) (.int y))) := Eq.trans rfl rfl
  rw [e1, eqv_int]
theorem sset_len (ns : List Int) : (sset ns).length = (ddup ns).length := by
  unfold sset
  rw [(isort_perm _).length_eq, List.length_map]
/-- a tuple of whole numbers -/
abbrev tI' (l : List Int) : Dt := .tuple (l.map .int)
end PT

namespace PT
open PySem PySem.Spec PyProof.Rows L2

/-! ## enumerate(zip(list, list)): the zip's last tuple may be held or gone -/
abbrev ZS (h : Heap) (z TI TO : Addr) (f0 : Value) (f : Bool) : Prop :=
  h.get? z = some { cls := .type "zip", dict := none, data := .fields #[f0, .bool f, .bool false, .ref TI, .ref TO], slots := #[] }
def Z0 (v : Value) : Prop := v = .none ∨ ∃ T : Nat, v = rawInt (T : Int)
section
variable {prog : Program} {w : World} {A : Around} {E : Value → Shared → Prop} {s : Shared}
theorem z_free {z TI TO : Addr} {f0 : Value} {f : Bool} {Q : Bool → Shared → Prop} (hz : ZS s.heap z TI TO f0 f) (h0 : f0 = .none ∨ ∃ T : Nat, f0 = rawInt (T : Int) ∧ s.heap.get? T = none) (h : Q true s) : wpAny (model prog w) A (Builtin.SmallTypes.ownedTupleIsFree (.ref z)) Q E s := by
  unfold Builtin.SmallTypes.ownedTupleIsFree
  rcases h0 with rfl | ⟨T, rfl, hT⟩
  · exact wpAny_bind (wpAny_field hz rfl (x := .none) rfl (wpAny_pure h))
  · refine wpAny_bind (wpAny_field hz rfl (x := rawInt T) rfl ?_)
    show wpAny _ _ (loadIfAlive ((T : Int).toNat) >>= _) _ _ _
    rw [Int.toNat_natCast]
    have q : wpAny (model prog w) A (loadIfAlive T) (fun o s' => o = none ∧ s' = s) E s := fun _ _ _ => ⟨hT, rfl⟩
    refine wpAny_bind (wpAny_mono q (fun o s' h' => ?_) fun _ _ e => e)
    obtain ⟨rfl, rfl⟩ := h'
    exact wpAny_pure h
theorem z_item {z TI TO i1 i2 l1 l2 : Addr} {k1 k2 : Nat} {f0 : Value} {f : Bool} {xs ys : Array Value} {x y a b : Value} {Q : Value → Shared → Prop} (D : ZipApart z TI TO i1 i2 l1 l2)
    (hz : ZS s.heap z TI TO f0 f) (h0 : Z0 f0) (hTI : IsPair s.heap TI (.ref i1) (.ref i2)) (hTO : IsPair s.heap TO a b) (h1 : s.heap.IsListIter i1 l1 k1) (h2 : s.heap.IsListIter i2 l2 k2) (hl1 : s.heap.IsList l1 xs) (hl2 : s.heap.IsList l2 ys) (hx : xs[k1]? = some x) (hy : ys[k2]? = some y)
    (hQ : ∀ h' f0' f' a' b', ZS h' z TI TO f0' f' → Z0 f0' → IsPair h' TO a' b' → h'.IsListIter i1 l1 (k1 + 1) → h'.IsListIter i2 l2 (k2 + 1) → IsPair h' s.heap.objs.size x y → h'.objs.size = s.heap.objs.size + 1 →
      (∀ c o, c ≠ z → c ≠ TO → c ≠ i1 → c ≠ i2 → s.heap.get? c = some o → h'.get? c = some o) → Q (.ref s.heap.objs.size) { s with heap := h' }) :
    wpAny (model prog w) A (Builtin.«zip.__next__» ⟨[.ref z], []⟩) (fun fin s' => ∃ v, fin = .done (.ret v) ∧ Q v s') E s := by
  have free : (f0 = .none ∨ ∃ T : Nat, f0 = rawInt (T : Int) ∧ s.heap.get? T = none) → wpAny (model prog w) A (Builtin.«zip.__next__» ⟨[.ref z], []⟩) (fun fin s' => ∃ v, fin = .done (.ret v) ∧ Q v s') E s := fun hfr => by
    show wpAny _ _ (field (.ref z) 2 >>= _) _ _ _
    refine wpAny_bind (wpAny_field hz rfl (x := .bool false) rfl ?_)
    show wpAny _ _ (field (.ref z) 3 >>= _) _ _ _
    refine wpAny_bind (wpAny_field hz rfl (x := .ref TI) rfl ?_)
    refine wpAny_bind (wpAny_seqItems hTI rfl ?_)
    show wpAny _ _ (Builtin.SmallTypes.ownedTupleIsFree (.ref z) >>= _) _ _ _
    refine wpAny_bind (z_free hz hfr ?_)
    simp only [if_true]
    refine wpAny_bind (wpAny_rule ?_)
    refine wpAny_bind (wpAny_field hz rfl (x := .ref TO) rfl ?_)
    refine wpAny_bind (wpAny_setField_rec hz (by simp) fun ha za sa => ?_)
    replace za : ZS ha z TI TO .ellipsis f := za
    refine wpAny_bind ?_
    simp only [List.zipIdx_cons, List.zipIdx_nil, List.forIn_cons, List.forIn_nil]
    refine wpAny_bind (wpAny_bind (wpAny_onRaise ?_))
    show wpAny _ _ (Builtin.SmallTypes.nextOf (.ref i1) >>= _) _ _ _
    refine wpAny_bind (wpAny_nextOf_list_item (h1.extBut sa.extBut D.i1z) (hl1.extBut sa.extBut D.l1z) hx fun hb h1b sb => wpAny_pure ?_)
    have tb : IsPair hb TO a b := sb.extBut _ _ D.TOi1 (sa.extBut _ _ D.TOz hTO)
    refine wpAny_bind (wpAny_seqItems tb rfl ?_)
    refine wpAny_bind (wpAny_updateSeq_pair tb fun hc tc sc => ?_)
    replace tc : IsPair hc TO x b := tc
    refine wpAny_bind (wpAny_letGo (wpAny_pure ?_))
    refine wpAny_bind (wpAny_bind (wpAny_onRaise ?_))
    show wpAny _ _ (Builtin.SmallTypes.nextOf (.ref i2) >>= _) _ _ _
    refine wpAny_bind (wpAny_nextOf_list_item (((h2.extBut sa.extBut D.i2z).extBut sb.extBut D.i12.symm).extBut sc.extBut D.TOi2.symm) (((hl2.extBut sa.extBut D.l2z).extBut sb.extBut D.l2i1).extBut sc.extBut D.l2TO) hy fun hd h2d sd => wpAny_pure ?_)
    have td : IsPair hd TO x b := sd.extBut _ _ D.TOi2 tc
    refine wpAny_bind (wpAny_seqItems td rfl ?_)
    refine wpAny_bind (wpAny_updateSeq_pair td fun he te se => ?_)
    replace te : IsPair he TO x y := te
    refine wpAny_bind (wpAny_letGo (wpAny_pure (wpAny_pure ?_)))
    refine wpAny_bind (wpAny_seqItems te rfl ?_)
    refine wpAny_bind (wpAny_newTuple ?_)
    have hsz : he.objs.size = s.heap.objs.size := by rw [se.1, sd.1, sc.1, sb.1, sa.1]
    have ze : ZS he z TI TO .ellipsis f := se.extBut _ _ D.TOz.symm (sd.extBut _ _ D.i2z.symm (sc.extBut _ _ D.TOz.symm (sb.extBut _ _ D.i1z.symm za)))
    have kk : ∀ c o, c ≠ z → c ≠ TO → c ≠ i1 → c ≠ i2 → s.heap.get? c = some o → he.get? c = some o := fun c o c1 c2 c3 c4 e => se.extBut _ _ c2 (sd.extBut _ _ c4 (sc.extBut _ _ c2 (sb.extBut _ _ c3 (sa.extBut _ _ c1 e))))
    have h1e : he.IsListIter i1 l1 (k1 + 1) := ((h1b.extBut sc.extBut D.TOi1.symm).extBut sd.extBut D.i12).extBut se.extBut D.TOi1.symm
    have h2e : he.IsListIter i2 l2 (k2 + 1) := h2d.extBut se.extBut D.TOi2.symm
    have zl : z < he.objs.size := Heap.lt_size ze
    show wpAny _ _ (Builtin.SmallTypes.ownedTupleHandOut (.ref z) (.ref he.objs.size) >>= _) _ _ _
    refine wpAny_bind ?_
    unfold Builtin.SmallTypes.ownedTupleHandOut
    have zf : ZS (he.push { cls := .type "tuple", data := .seq #[x, y] }) z TI TO .ellipsis f := Heap.get?_push_of_some _ ze
    refine wpAny_bind (wpAny_setField_rec zf (by simp) fun hg zg sg => ?_)
    replace zg : ZS hg z TI TO (rawInt he.objs.size) f := zg
    refine wpAny_setField_rec zg (by simp) fun hi zi si => ?_
    replace zi : ZS hi z TI TO (rawInt he.objs.size) false := zi
    have up : ∀ c o, c ≠ z → he.get? c = some o → hi.get? c = some o := fun c o c1 e => si.extBut _ _ c1 (sg.extBut _ _ c1 (Heap.get?_push_of_some _ e))
    have ti : IsPair hi he.objs.size x y := si.extBut _ _ (Nat.ne_of_gt zl) (sg.extBut _ _ (Nat.ne_of_gt zl) (Heap.get?_push_size _ rfl))
    have zz : hi.objs.size = he.objs.size + 1 := by rw [si.1, sg.1, Heap.size_push]
    rw [hsz] at zi ti zz
    refine wpAny_pure ⟨_, rfl, ?_⟩
    show Q (.ref he.objs.size) _
    rw [hsz]
    exact hQ hi _ _ _ _ zi (.inr ⟨_, rfl⟩) (up _ _ D.TOz te) (h1e.at fun o e => up _ o D.i1z e) (h2e.at fun o e => up _ o D.i2z e) ti zz fun c o c1 c2 c3 c4 e => up c o c1 (kk c o c1 c2 c3 c4 e)
  rcases h0 with e0 | ⟨T, e0⟩
  · exact free (.inl e0)
  · cases hT : s.heap.get? T with
    | none => exact free (.inr ⟨T, e0, hT⟩)
    | some oT =>
      subst e0
      refine zip_next_item_held D hz hT hTI h1 h2 hl1 hl2 hx hy fun h' z' a1 a2 p' sz kp => ?_
      exact hQ h' _ _ _ _ z' (.inr ⟨T, rfl⟩) (kp _ _ D.TOz D.TOi1 D.TOi2 hTO) a1 a2 p' sz fun c o c1 _ c3 c4 e => kp c o c1 c3 c4 e
theorem z_end {z TI TO i1 i2 l1 l2 : Addr} {k1 k2 : Nat} {f0 : Value} {f : Bool} {xs ys : Array Value} {a b : Value} {Q : Fin → Shared → Prop} (hh : A.handled = none) (D : ZipApart z TI TO i1 i2 l1 l2)
    (hz : ZS s.heap z TI TO f0 f) (h0 : Z0 f0) (hTI : IsPair s.heap TI (.ref i1) (.ref i2)) (hTO : IsPair s.heap TO a b) (h1 : s.heap.IsListIter i1 l1 k1) (h2 : s.heap.IsListIter i2 l2 k2) (hl1 : s.heap.IsList l1 xs) (hl2 : s.heap.IsList l2 ys) (hend : xs[k1]? = none ∨ ys[k2]? = none)
    (hE : ∀ h' e, (∀ c o, c ≠ z → c ≠ TO → c ≠ i1 → c ≠ i2 → s.heap.get? c = some o → h'.get? c = some o) → (∃ o, h'.get? e = some o ∧ o.cls = .type "StopIteration") → E (.ref e) { s with heap := h' }) :
    wpAny (model prog w) A (Builtin.«zip.__next__» ⟨[.ref z], []⟩) Q E s := by
  have free : (f0 = .none ∨ ∃ T : Nat, f0 = rawInt (T : Int) ∧ s.heap.get? T = none) → wpAny (model prog w) A (Builtin.«zip.__next__» ⟨[.ref z], []⟩) Q E s := fun hfr => by
    show wpAny _ _ (field (.ref z) 2 >>= _) _ _ _
    refine wpAny_bind (wpAny_field hz rfl (x := .bool false) rfl ?_)
    show wpAny _ _ (field (.ref z) 3 >>= _) _ _ _
    refine wpAny_bind (wpAny_field hz rfl (x := .ref TI) rfl ?_)
    refine wpAny_bind (wpAny_seqItems hTI rfl ?_)
    show wpAny _ _ (Builtin.SmallTypes.ownedTupleIsFree (.ref z) >>= _) _ _ _
    refine wpAny_bind (z_free hz hfr ?_)
    simp only [if_true]
    refine wpAny_bind (wpAny_rule ?_)
    refine wpAny_bind (wpAny_field hz rfl (x := .ref TO) rfl ?_)
    refine wpAny_bind (wpAny_setField_rec hz (by simp) fun ha za sa => ?_)
    replace za : ZS ha z TI TO .ellipsis f := za
    refine wpAny_bind ?_
    simp only [List.zipIdx_cons, List.zipIdx_nil, List.forIn_cons, List.forIn_nil]
    refine wpAny_bind (wpAny_bind (wpAny_onRaise ?_))
    show wpAny _ _ (Builtin.SmallTypes.nextOf (.ref i1) >>= _) _ _ _
    cases hx : xs[k1]? with
    | none =>
      refine wpAny_bind (wpAny_nextOf_list_end hh (h1.extBut sa.extBut D.i1z) (hl1.extBut sa.extBut D.l1z) hx fun hb e sb he => ?_)
      obtain ⟨oe, hoe, hce⟩ := he
      have zb : ZS hb z TI TO .ellipsis f := sb _ _ D.i1z.symm za
      have ne : e ≠ z := fun q => by subst q; rw [zb] at hoe; cases hoe; simp at hce
      refine wpAny_setField_rec zb (by simp) fun hc _ sc => hE hc e (fun c o c1 _ c3 _ q => sc.extBut _ _ c1 (sb _ _ c3 (sa.extBut _ _ c1 q))) ⟨oe, sc.extBut _ _ ne hoe, hce⟩
    | some x =>
      have hy : ys[k2]? = none := hend.resolve_left (by rw [hx]; exact fun q => nomatch q)
      refine wpAny_bind (wpAny_nextOf_list_item (h1.extBut sa.extBut D.i1z) (hl1.extBut sa.extBut D.l1z) hx fun hb h1b sb => wpAny_pure ?_)
      have tb : IsPair hb TO a b := sb.extBut _ _ D.TOi1 (sa.extBut _ _ D.TOz hTO)
      refine wpAny_bind (wpAny_seqItems tb rfl ?_)
      refine wpAny_bind (wpAny_updateSeq_pair tb fun hc tc sc => ?_)
      refine wpAny_bind (wpAny_letGo (wpAny_pure ?_))
      refine wpAny_bind (wpAny_bind (wpAny_onRaise ?_))
      show wpAny _ _ (Builtin.SmallTypes.nextOf (.ref i2) >>= _) _ _ _
      refine wpAny_bind (wpAny_nextOf_list_end hh (((h2.extBut sa.extBut D.i2z).extBut sb.extBut D.i12.symm).extBut sc.extBut D.TOi2.symm) (((hl2.extBut sa.extBut D.l2z).extBut sb.extBut D.l2i1).extBut sc.extBut D.l2TO) hy fun hd e sd he => ?_)
      obtain ⟨oe, hoe, hce⟩ := he
      have zd : ZS hd z TI TO .ellipsis f := sd _ _ D.i2z.symm (sc.extBut _ _ D.TOz.symm (sb.extBut _ _ D.i1z.symm za))
      have ne : e ≠ z := fun q => by subst q; rw [zd] at hoe; cases hoe; simp at hce
      refine wpAny_setField_rec zd (by simp) fun hg _ sg => hE hg e (fun c o c1 c2 c3 c4 q => sg.extBut _ _ c1 (sd _ _ c4 (sc.extBut _ _ c2 (sb.extBut _ _ c3 (sa.extBut _ _ c1 q))))) ⟨oe, sg.extBut _ _ ne hoe, hce⟩
  rcases h0 with e0 | ⟨T, e0⟩
  · exact free (.inl e0)
  · cases hT : s.heap.get? T with
    | none => exact free (.inr ⟨T, e0, hT⟩)
    | some oT =>
      subst e0
      exact zip_next_end_held hh D hz hT hTI h1 h2 hl1 hl2 hend fun h' e kp he => hE h' e (fun c o c1 _ c3 c4 q => kp c o c1 c3 c4 q) he
theorem z_next {z TI TO i1 i2 l1 l2 : Addr} {k1 k2 : Nat} {f0 : Value} {f : Bool} {xs ys : Array Value} {x y a b : Value} {Q : Value → Shared → Prop} (D : ZipApart z TI TO i1 i2 l1 l2)
    (hz : ZS s.heap z TI TO f0 f) (h0 : Z0 f0) (hTI : IsPair s.heap TI (.ref i1) (.ref i2)) (hTO : IsPair s.heap TO a b) (h1 : s.heap.IsListIter i1 l1 k1) (h2 : s.heap.IsListIter i2 l2 k2) (hl1 : s.heap.IsList l1 xs) (hl2 : s.heap.IsList l2 ys) (hx : xs[k1]? = some x) (hy : ys[k2]? = some y)
    (hQ : ∀ h' f0' f' a' b', ZS h' z TI TO f0' f' → Z0 f0' → IsPair h' TO a' b' → h'.IsListIter i1 l1 (k1 + 1) → h'.IsListIter i2 l2 (k2 + 1) → IsPair h' s.heap.objs.size x y → h'.objs.size = s.heap.objs.size + 1 →
      (∀ c o, c ≠ z → c ≠ TO → c ≠ i1 → c ≠ i2 → s.heap.get? c = some o → h'.get? c = some o) → Q (.ref s.heap.objs.size) { s with heap := h' }) :
    wpAny (model prog w) A (Builtin.SmallTypes.nextOf (.ref z)) Q E s := by
  have ty : s.TypeIs (.ref z) "zip" := ⟨_, hz, rfl⟩
  unfold Builtin.SmallTypes.nextOf
  exact wpAny_bind (wpAny_callSpecial?_slot (name := Str.ofString "__next__") ty F.slot_zip_next (wpAny_call_entry F.slot_zip_next ty F.entry_zip_next
    (z_item D hz h0 hTI hTO h1 h2 hl1 hl2 hx hy fun h' f0' f' a' b' q1 q2 q3 q4 q5 q6 q7 q8 => wpAny_pure (hQ h' f0' f' a' b' q1 q2 q3 q4 q5 q6 q7 q8)) (F.args_zip_next_1 _)))
theorem z_stop {z TI TO i1 i2 l1 l2 : Addr} {k1 k2 : Nat} {f0 : Value} {f : Bool} {xs ys : Array Value} {a b : Value} {Q : Value → Shared → Prop} (hh : A.handled = none) (D : ZipApart z TI TO i1 i2 l1 l2)
    (hz : ZS s.heap z TI TO f0 f) (h0 : Z0 f0) (hTI : IsPair s.heap TI (.ref i1) (.ref i2)) (hTO : IsPair s.heap TO a b) (h1 : s.heap.IsListIter i1 l1 k1) (h2 : s.heap.IsListIter i2 l2 k2) (hl1 : s.heap.IsList l1 xs) (hl2 : s.heap.IsList l2 ys) (hend : xs[k1]? = none ∨ ys[k2]? = none)
    (hE : ∀ h' e, (∀ c o, c ≠ z → c ≠ TO → c ≠ i1 → c ≠ i2 → s.heap.get? c = some o → h'.get? c = some o) → (∃ o, h'.get? e = some o ∧ o.cls = .type "StopIteration") → E (.ref e) { s with heap := h' }) :
    wpAny (model prog w) A (Builtin.SmallTypes.nextOf (.ref z)) Q E s := by
  have ty : s.TypeIs (.ref z) "zip" := ⟨_, hz, rfl⟩
  unfold Builtin.SmallTypes.nextOf
  exact wpAny_bind (wpAny_callSpecial?_slot (name := Str.ofString "__next__") ty F.slot_zip_next (wpAny_call_entry F.slot_zip_next ty F.entry_zip_next (z_end hh D hz h0 hTI hTO h1 h2 hl1 hl2 hend hE) (F.args_zip_next_1 _)))
/-- the rest of a turn of enumerate, the item being at hand -/
theorem en_rest {e it : Addr} {c : Int} {old x : Value} {Q : Value → Shared → Prop} (he : IsEnum s.heap e it c old)
    (hx : wpAny (model prog w) A (Builtin.SmallTypes.nextOf (.ref it)) (fun v s1 => v = x ∧ ∃ h1, s1 = { s with heap := h1 } ∧ IsEnum h1 e it c old ∧
      ∀ h' tk, IsEnumOut h' e it (c + 1) x h1.objs.size → h'.get? h1.objs.size = some { cls := .type "tuple", data := .seq #[.int c tk, x] } → h'.objs.size = h1.objs.size + 1 → (∀ b o, b ≠ e → h1.get? b = some o → h'.get? b = some o) → Q (.ref h1.objs.size) { s with heap := h', toks := tk + 1 }) E s) :
    wpAny (model prog w) A (Builtin.«enumerate.__next__» ⟨[.ref e], []⟩) (fun fin s' => ∃ v, fin = .done (.ret v) ∧ Q v s') E s := by
  obtain ⟨hp, g, d, tk0, os⟩ := s
  show wpAny _ _ (field (.ref e) 2 >>= _) _ _ _
  refine wpAny_bind (wpAny_field he rfl (x := .ref it) rfl ?_)
  refine wpAny_bind (wpAny_mono hx (fun v s1 h => ?_) fun _ _ q => q)
  obtain ⟨rfl, h1, rfl, e1, hQ⟩ := h
  show wpAny _ _ (field (.ref e) 3 >>= _) _ _ ⟨h1, g, d, tk0, os⟩
  refine wpAny_bind (wpAny_field e1 rfl (x := rawInt c) rfl ?_)
  show wpAny _ _ (field (.ref e) 4 >>= _) _ _ ⟨h1, g, d, tk0, os⟩
  refine wpAny_bind (wpAny_field e1 rfl (x := .none) rfl ?_)
  show wpAny _ _ (mkInt c >>= _) _ _ ⟨h1, g, d, tk0, os⟩
  refine wpAny_bind (wpAny_mkInt ?_)
  show wpAny _ _ (setField (.ref e) 3 (rawInt (c + 1)) >>= _) _ _ ⟨h1, g, d, tk0 + 1, os⟩
  refine wpAny_bind (wpAny_setField_rec e1 (by simp) fun h2 e2 s2 => ?_)
  replace s2 : Heap.SameBut e h1 h2 := s2
  replace e2 : IsEnum h2 e it (c + 1) old := e2
  show wpAny _ _ (setField (.ref e) 4 .none >>= _) _ _ ⟨h2, g, d, tk0 + 1, os⟩
  refine wpAny_bind (wpAny_setField_rec e2 (by simp) fun h3 e3 s3 => ?_)
  replace s3 : Heap.SameBut e h2 h3 := s3
  replace e3 : IsEnum h3 e it (c + 1) old := e3
  show wpAny _ _ (newTuple [.int c tk0, v] >>= _) _ _ ⟨h3, g, d, tk0 + 1, os⟩
  refine wpAny_bind (wpAny_newTuple ?_)
  have e4 : IsEnum (h3.push { cls := .type "tuple", data := .seq #[.int c tk0, v] }) e it (c + 1) old := Heap.get?_push_of_some _ e3
  generalize q4 : h3.push { cls := .type "tuple", data := .seq #[.int c tk0, v] } = h4 at e4
  have hsz : h3.objs.size = h1.objs.size := by rw [s3.1, s2.1]
  have el : e < h1.objs.size := Heap.lt_size e1
  have t4 : h4.get? h1.objs.size = some { cls := .type "tuple", data := .seq #[.int c tk0, v] } := by rw [← q4, ← hsz]; exact Heap.get?_push_size _ rfl
  have z4 : h4.objs.size = h1.objs.size + 1 := by rw [← q4, Heap.size_push, hsz]
  have k4 : ∀ b o, b ≠ e → h1.get? b = some o → h4.get? b = some o := fun b o be hb => by
    rw [← q4]; exact Heap.get?_push_of_some _ (s3.extBut b o be (s2.extBut b o be hb))
  show wpAny _ _ (Builtin.SmallTypes.ownedTupleIsFree (.ref e) >>= _) _ _ ⟨h4, g, d, tk0 + 1, os⟩
  rw [hsz]
  refine wpAny_bind ?_
  unfold Builtin.SmallTypes.ownedTupleIsFree
  refine wpAny_bind (wpAny_field e4 rfl (x := .none) rfl (wpAny_pure ?_))
  simp only [if_true]
  refine wpAny_bind (wpAny_rule ?_)
  refine wpAny_bind (wpAny_field e4 rfl (x := old) rfl ?_)
  refine wpAny_bind (wpAny_setField_rec e4 (by simp) fun h5 e5 s5 => ?_)
  replace s5 : Heap.SameBut e h4 h5 := s5
  replace e5 : IsEnum h5 e it (c + 1) v := e5
  show wpAny _ _ (Builtin.SmallTypes.ownedTupleHandOut (.ref e) (.ref h1.objs.size) >>= _) _ _ ⟨h5, g, d, tk0 + 1, os⟩
  refine wpAny_bind ?_
  unfold Builtin.SmallTypes.ownedTupleHandOut
  refine wpAny_bind (wpAny_setField_rec e5 (by simp) fun h6 e6 s6 => ?_)
  replace s6 : Heap.SameBut e h5 h6 := s6
  replace e6 : IsEnumOut h6 e it (c + 1) v h1.objs.size := e6
  refine wpAny_setField_rec e6 (by simp) fun h7 e7 s7 => ?_
  replace s7 : Heap.SameBut e h6 h7 := s7
  replace e7 : IsEnumOut h7 e it (c + 1) v h1.objs.size := e7
  refine wpAny_bind (wpAny_letGo (wpAny_pure ⟨_, rfl, hQ h7 tk0 e7 ?_ ?_ ?_⟩))
  · exact s7.extBut _ _ (Nat.ne_of_gt el) (s6.extBut _ _ (Nat.ne_of_gt el) (s5.extBut _ _ (Nat.ne_of_gt el) t4))
  · rw [s7.1, s6.1, s5.1, z4]
  · exact fun b o be hb => s7.extBut b o be (s6.extBut b o be (s5.extBut b o be (k4 b o be hb)))
end
/-- the turns -/
def Iez (K : PySem.W.Frag) (a b : Addr) : It :=
  ⟨fun i H => ∃ (xs ys : List V) (x y : V), SqL K H a xs ∧ SqL K H b ys ∧ xs[i]? = some x ∧ ys[i]? = some y,
    fun i H v H' => ∃ T U x y, v = .ref U ∧ H T = none ∧ upd H T (.tup [x, y]) U = none ∧ H' = upd (upd H T (.tup [x, y])) U (.tup [.int (i : Nat), .ref T]) ∧ (∀ xs, SqL K H a xs → xs[i]? = some x) ∧ ∀ ys, SqL K H b ys → ys[i]? = some y,
    fun i H => ∃ xs ys : List V, SqL K H a xs ∧ SqL K H b ys ∧ i = min xs.length ys.length⟩
def ezSt (e z TI TO i1 i2 a b : Addr) (i : Nat) (h : Heap) : Prop := (∃ old, IsEnum h e z (i : Int) old) ∧ (∃ f0 f, ZS h z TI TO f0 f ∧ Z0 f0) ∧ IsPair h TI (.ref i1) (.ref i2) ∧ (∃ x y, IsPair h TO x y) ∧ h.IsListIter i1 a i ∧ h.IsListIter i2 b i
theorem mem6 {c e z TI TO i1 i2 : Addr} : c ∈ [e, z, TI, TO, i1, i2] ↔ c = e ∨ c = z ∨ c = TI ∨ c = TO ∨ c = i1 ∨ c = i2 := by simp
theorem turn_ez {P : Program} {w : World} {K : PySem.W.Frag} {elts : List Expr} {kk : Nat} {tpos : Pos} {a b e z TI TO i1 i2 : Addr} (D : ZipApart z TI TO i1 i2 a b) (ne : e ≠ z ∧ e ≠ TI ∧ e ≠ TO ∧ e ≠ i1 ∧ e ≠ i2) :
    Turn P w K (.Tuple elts kk tpos) (Iez K a b) [e, z, TI, TO, i1, i2] e (ezSt e z TI TO i1 i2 a b) where
  mem := by simp
  obj := fun i h st c hc => by
    obtain ⟨⟨old, he⟩, ⟨f0, f, hz, _⟩, hTI, ⟨x, y, hTO⟩, ⟨o1, q1, _, d1⟩, ⟨o2, q2, _, d2⟩⟩ := st
    rcases mem6.mp hc with q | q | q | q | q | q
    · rw [q]; exact ⟨_, he, fun v q => nomatch q⟩
    · rw [q]; exact ⟨_, hz, fun v q => nomatch q⟩
    · rw [q]; exact ⟨_, hTI, fun v q => nomatch q⟩
    · rw [q]; exact ⟨_, hTO, fun v q => nomatch q⟩
    · rw [q]; exact ⟨_, q1, fun v z => by rw [d1] at z; cases z⟩
    · rw [q]; exact ⟨_, q2, fun v z => by rw [d2] at z; cases z⟩
  keep := fun i h h' st k => by
    obtain ⟨⟨old, he⟩, ⟨f0, f, hz, h0⟩, hTI, ⟨x, y, hTO⟩, h1, h2⟩ := st
    exact ⟨⟨old, k e (by simp) _ he⟩, ⟨f0, f, k z (by simp) _ hz, h0⟩, k TI (by simp) _ hTI, ⟨x, y, k TO (by simp) _ hTO⟩, h1.at fun o q => k i1 (by simp) o q, h2.at fun o q => k i2 (by simp) o q⟩
  item := by
    intro X hP hw hK hc i pins s σ H E I hf st hg
    subst hP hw hK
    obtain ⟨⟨old, he⟩, ⟨f0, f, hz, h0⟩, hTI, ⟨ta, tb, hTO⟩, h1, h2⟩ := st
    obtain ⟨xs, ys, x, y, hqx, hqy, hx, hy⟩ := hg
    obtain ⟨its, rv, p, _⟩ := I.list hqx
    obtain ⟨its2, rv2, p2, _⟩ := I.list hqy
    obtain ⟨u, hu, ru⟩ := rv.get hx
    obtain ⟨u2, hu2, ru2⟩ := rv2.get hy
    have ty : s.TypeIs (.ref e) "enumerate" := ⟨_, he, rfl⟩
    have lts : ∀ c ∈ [e, z, TI, TO, i1, i2], c < s.heap.objs.size := fun c hcm => by
      obtain ⟨o1, q1, _⟩ := h1
      obtain ⟨o2, q2, _⟩ := h2
      rcases mem6.mp hcm with q | q | q | q | q | q
      · rw [q]; exact Heap.lt_size he
      · rw [q]; exact Heap.lt_size hz
      · rw [q]; exact Heap.lt_size hTI
      · rw [q]; exact Heap.lt_size hTO
      · rw [q]; exact Heap.lt_size q1
      · rw [q]; exact Heap.lt_size q2
    unfold pyNext
    refine wpAny_bind (wpAny_attempt (wpAny_callSpecial?_slot (name := Str.ofString "__next__") ty F.slot_enumerate_next (wpAny_call_entry F.slot_enumerate_next ty F.entry_enumerate_next
      (en_rest (x := .ref s.heap.objs.size) he (z_next D hz h0 hTI hTO h1 h2 p.isList p2.isList (x := u) (y := u2) (by simpa using hu) (by simpa using hu2) fun h' f0' f' a' b' g1 g2 g3 g4 g5 g6 g7 g8 => ⟨rfl, h', rfl, g8 e _ ne.1 ne.2.2.1 ne.2.2.2.1 ne.2.2.2.2 he, fun h2' tk w1 w2 w3 w4 => wpAny_pure ?_⟩)) (F.args_enumerate_next_1 _))))
    refine ⟨_, rfl, ?_⟩
    have key : ∀ h3 tk', IsEnum h3 e z ((i : Int) + 1) (.ref s.heap.objs.size) → (∀ c o, c ≠ e → h2'.get? c = some o → h3.get? c = some o) →
        ∃ x' H', Inv X pins σ H' { s with heap := h3, toks := tk' } ∧ RelV x' (.ref h'.objs.size) ∧ (Iez X.K a b).yld i H x' H' ∧ ezSt e z TI TO i1 i2 a b (i + 1) h3 ∧ ∀ c ∈ [e, z, TI, TO, i1, i2], H' c = none := fun h3 tk' w5 w6 => by
      have hm : ∀ c o, c ≠ e → h'.get? c = some o → h3.get? c = some o := fun c o ce q => w6 c o ce (w4 c o ce q)
      have le : e < s.heap.objs.size := lts e (by simp)
      have I1 : Inv X pins σ (upd H s.heap.objs.size (.tup [x, y])) { s with heap := s.heap.push { cls := .type "tuple", data := .seq #[u, u2] } } :=
        I.laid (t' := s.toks) (fun _ _ q => Heap.get?_push_of_some _ q) (Nat.le_refl _) ⟨by show 2 ≤ sizeLine; decide, [u, u2], .cons ru (.cons ru2 .nil), ⟨_, Heap.get?_push_size _ rfl, rfl, _, rfl⟩⟩
      have sz1 : (s.heap.push { cls := .type "tuple", data := .seq #[u, u2] }).objs.size = s.heap.objs.size + 1 := Heap.size_push ..
      have hU : upd H s.heap.objs.size (.tup [x, y]) h'.objs.size = none := by
        rw [upd_ne (by rw [g7]; exact Nat.succ_ne_self _)]
        exact I.hok.fresh (by rw [g7]; exact Nat.le_succ _)
      have tup : h3.get? h'.objs.size = some { cls := .type "tuple", data := .seq #[.int (i : Int) tk, .ref s.heap.objs.size] } := w6 _ _ (Nat.ne_of_gt (by rw [g7]; exact Nat.lt_succ_of_lt le)) w2
      have I2 : Inv X pins σ (upd (upd H s.heap.objs.size (.tup [x, y])) h'.objs.size (.tup [.int (i : Nat), .ref s.heap.objs.size])) { s with heap := h3, toks := tk' } := by
        refine I1.turnedNew (t' := tk') (ch := [e, z, TI, TO, i1, i2]) (fun c o hb q => ?_) (fun c hcm => ?_) (by rw [sz1, g7]; exact Nat.le_refl _) ⟨by show 2 ≤ sizeLine; decide, [.int (i : Int) tk, .ref s.heap.objs.size], .cons ⟨tk, rfl⟩ (.cons rfl .nil), ⟨_, tup, rfl, _, rfl⟩⟩
        · have ce : c ≠ e := fun z => hb (by simp [z])
          refine hm c o ce ?_
          by_cases hcs : c = s.heap.objs.size
          · subst hcs
            have q2 : (s.heap.push { cls := .type "tuple", data := .seq #[u, u2] }).get? s.heap.objs.size = some { cls := .type "tuple", data := .seq #[u, u2] } := Heap.get?_push_size _ rfl
            have q' : (s.heap.push { cls := .type "tuple", data := .seq #[u, u2] }).get? s.heap.objs.size = some o := q
            rw [q2] at q'
            cases q'
            exact g6
          · have hlt : c < s.heap.objs.size := by
              have := Heap.lt_size (show (s.heap.push { cls := .type "tuple", data := .seq #[u, u2] }).get? c = some o from q)
              rw [sz1] at this
              exact Nat.lt_of_le_of_ne (Nat.le_of_lt_succ this) hcs
            have q' : s.heap.get? c = some o := by
              have e1 := Heap.get?_push_ne s.heap c { cls := .type "tuple", data := .seq #[u, u2] } hcs
              rw [← e1]; exact q
            exact g8 c o (fun z => hb (by simp [z])) (fun z => hb (by simp [z])) (fun z => hb (by simp [z])) (fun z => hb (by simp [z])) q'
        · have q := hf c hcm
          refine ⟨?_, q.2⟩
          rw [upd_ne (Nat.ne_of_lt (lts c hcm))]
          exact q.1
      refine ⟨.ref h'.objs.size, _, I2, rfl, ⟨s.heap.objs.size, h'.objs.size, x, y, rfl, I.hok.fresh (Nat.le_refl _), hU, rfl, fun l hl => by rw [I.list_inj hl hqx]; exact hx, fun l hl => by rw [I.list_inj hl hqy]; exact hy⟩, ?_, fun c hcm => ?_⟩
      · exact ⟨⟨_, by have := w5; rw [← Int.natCast_succ] at this; exact this⟩, ⟨f0', f', hm _ _ ne.1.symm g1, g2⟩, hm _ _ ne.2.1.symm (g8 _ _ D.TIz D.TITO D.TIi1 D.TIi2 hTI), ⟨a', b', hm _ _ ne.2.2.1.symm g3⟩, g4.at fun o q => hm _ o ne.2.2.2.1.symm q, g5.at fun o q => hm _ o ne.2.2.2.2.symm q⟩
      · have hlt := lts c hcm
        rw [upd_ne (Nat.ne_of_lt (by rw [g7]; exact Nat.lt_succ_of_lt hlt)), upd_ne (Nat.ne_of_lt hlt)]
        exact (hf c hcm).1
    refine wpAny_letOwnedTupleGo_enum w1 fun h3 w5 w6 => ?_
    exact key h3 (tk + 1) w5 fun c o ce q => w6.extBut c o ce q
  done := by
    intro X hP hw hK hc i pins s σ H E I hf st hg
    subst hP hw hK
    obtain ⟨⟨old, he⟩, ⟨f0, f, hz, h0⟩, hTI, ⟨ta, tb, hTO⟩, h1, h2⟩ := st
    obtain ⟨xs, ys, hqx, hqy, hend⟩ := hg
    obtain ⟨its, rv, p, _⟩ := I.list hqx
    obtain ⟨its2, rv2, p2, _⟩ := I.list hqy
    have hh : X.A.in1.handled = none := I.ok.hd hc
    have ty : s.TypeIs (.ref e) "enumerate" := ⟨_, he, rfl⟩
    have hn : its.toArray[i]? = none ∨ its2.toArray[i]? = none := by
      have l1 := rv.length
      have l2 := rv2.length
      by_cases hc : xs.length ≤ ys.length
      · left; simp; omega
      · right; simp; omega
    unfold pyNext
    refine wpAny_bind (wpAny_attempt (wpAny_callSpecial?_slot (name := Str.ofString "__next__") ty F.slot_enumerate_next (wpAny_call_entry F.slot_enumerate_next ty F.entry_enumerate_next ?_ (F.args_enumerate_next_1 _))))
    show wpAny _ _ (field (.ref e) 2 >>= _) _ _ _
    refine wpAny_bind (wpAny_field he rfl (x := .ref z) rfl ?_)
    refine wpAny_bind (z_stop hh D hz h0 hTI hTO h1 h2 p.isList p2.isList hn fun h' ex kp hx => ?_)
    obtain ⟨o, ho, hc'⟩ := hx
    refine wpAny_bind (wpAny_isInstance (T := "StopIteration") (b := true) ⟨o, ho, hc'⟩ isSubtype_stop ?_)
    refine wpAny_pure ⟨rfl, ?_⟩
    exact I.turnedL (t' := s.toks) (ch := [e, z, TI, TO, i1, i2]) (fun c o hb q => kp c o (fun z => hb (by simp [z])) (fun z => hb (by simp [z])) (fun z => hb (by simp [z])) (fun z => hb (by simp [z])) q) hf
  self := fun A i s Q E st h => by
    obtain ⟨⟨old, he⟩, _⟩ := st
    exact wpAny_pyIter_enum he h
set_option maxHeartbeats 1000000 in
theorem meets_ez {z TI TO : Addr} :
    Meets (Builtin.«enumerate.__new__» ⟨[.type "enumerate", .ref z], []⟩) (fun _ R s => IsZip s.heap z TI TO .none ∧
      R (.ok (.ret (.ref s.heap.objs.size))) { s with heap := s.heap.push { cls := .type "enumerate", data := .fields #[.none, .bool false, .ref z, rawInt 0, .none, .none] } }) :=
  .of_wp fun prog w A R s h => by
    obtain ⟨hp, g, d, tk, os⟩ := s; obtain ⟨h1, h⟩ := h
    have hsub := sub_enumerate
    have q1 : ∀ {A' : Around} {E : Value → Shared → Prop} {Q : Value → Shared → Prop}, Q (.ref z) ⟨hp, g, d, tk, os⟩ → wpAny (model prog w) A' (pyIter (.ref z)) Q E ⟨hp, g, d, tk, os⟩ :=
      fun q => wpAny_pyIter_zip (s := ⟨hp, g, d, tk, os⟩) h1 q
    wp_walk using q1
    refine wpAny_stack_any fun st => wpAny_pure ?_
    split
    · rename_i c _ _ _ _ _
      cases (c == Value.type "enumerate")
      · wp_walk using q1
        exact ⟨_, rfl, h⟩
      · wp_walk using q1
        exact ⟨_, rfl, h⟩
    · wp_walk using q1
      exact ⟨_, rfl, h⟩
theorem ez_begins {prog : Program} {w : World} {A : Around} {E : Value → Shared → Prop} {s : Shared} {z TI TO : Addr} {Q : Value → Shared → Prop} (h1 : IsZip s.heap z TI TO .none)
    (h : ∀ h', IsEnum h' s.heap.objs.size z 0 .none → (∀ b o, s.heap.get? b = some o → h'.get? b = some o) → Q (.ref s.heap.objs.size) { s with heap := h' }) : wpAny (model prog w) A (call (.type "enumerate") [.ref z]) Q E s := by
  refine callType_new F.called_enumerate (by decide) (F.typeCall_enumerate_1 _) (F.newCall_enumerate_1 _) (fun obj => F.args_object_init_2 obj _) F.entry_enumerate_new
    meets_ez ⟨h1, ?_⟩
  have he : IsEnum (s.heap.push { cls := .type "enumerate", data := .fields #[.none, .bool false, .ref z, rawInt 0, .none, .none] }) s.heap.objs.size z 0 .none := Heap.get?_push_size _ rfl
  exact ⟨⟨_, he, rfl⟩, h _ he fun b o x => Heap.get?_push_of_some _ x⟩
def iEz (K : PySem.W.Frag) (ta : TA) : TI := fun σ H R => ta σ H fun vs H1 => ∃ a b xs ys, vs = [.ref a, .ref b] ∧ SqL K H1 a xs ∧ SqL K H1 b ys ∧ R (Iez K a b) H1
theorem apart_of {n a b : Nat} (ha : a < n) (hb : b < n) : ZipApart (n + 4) (n + 2) (n + 3) n (n + 1) a b := by
  constructor <;> (intro h; replace h : @Eq Nat _ _ := h; omega)
theorem five_ne {n : Nat} : @Ne Addr (n + 5) (n + 4) ∧ @Ne Addr (n + 5) (n + 2) ∧ @Ne Addr (n + 5) (n + 3) ∧ @Ne Addr (n + 5) n ∧ @Ne Addr (n + 5) (n + 1) := by
  refine ⟨?_, ?_, ?_, ?_, ?_⟩ <;> (intro h; replace h : @Eq Nat _ _ := h; omega)
theorem pi_ez {X : Cx} {e e2 : Expr} {ta : TA} {p p2 q1 pos tpos : Pos} {elts : List Expr} {kk : Nat} (hge : Gl X "enumerate") (hme : X.mg "enumerate" = none) (hg : Gl X "zip") (hm : X.mg "zip" = none) (ha : PA X [e, e2] ta)
    (hs : starEach [e, e2] X.env = (false, eval e X.env) :: starEach [e2] X.env) (hpl : (backTo q1 (starEach [e2] X.env)).any (·.1) = false) :
    PI X (.Tuple elts kk tpos) (.Call (.Name "enumerate" p) [.Call (.Name "zip" p2) [e, e2] [] q1] [] pos) (iEz X.K ta) := by
  refine ⟨fun pins s σ H R I h => ?_⟩
  refine Call_ (ld_blt I hge hme boot_enumerate ?_)
  refine PyProof.Rows.callWith_type1 (PyProof.Rows.args_cons ?_ rfl) rfl rfl
  refine Call_ (ld_blt I hg hm PyProof.Rows.boot_zip (PyProof.Rows.callWith_type1 (thn (ha.run q1 pins s σ H _ I h) fun us s1 ⟨vs, H1, I1, r1, w1⟩ => ?_) hs hpl))
  obtain ⟨a, b, xs, ys, ex, hqx, hqy, q⟩ := w1
  subst ex
  cases r1 with
  | cons r rr =>
    cases rr with
    | cons r' rr =>
      cases rr
      cases r
      cases r'
      obtain ⟨its, rv, p1, _⟩ := I1.list hqx
      obtain ⟨its2, rv2, p2, _⟩ := I1.list hqy
      have la : a < s1.heap.objs.size := by obtain ⟨o, e, _⟩ := p1.isList; exact Heap.lt_size e
      have lb : b < s1.heap.objs.size := by obtain ⟨o, e, _⟩ := p2.isList; exact Heap.lt_size e
      refine zip_begins2 (begins_list a its.toArray) (begins_list b its2.toArray) p1.isList p2.isList fun h' hz hTI hTO g1 g2 hsz hk => PyProof.Rows.args_nil ?_
      refine ez_begins (s := { s1 with heap := h' }) hz fun h2 he hk2 => wpAny_pyIter_enum he ?_
      have I2 : Inv X pins σ H1 { s1 with heap := h2 } := I1.kept (t' := s1.toks) fun c o q => hk2 c o (hk c o q)
      have esz : ({ s1 with heap := h' } : Shared).heap.objs.size = s1.heap.objs.size + 5 := hsz
      rw [esz] at he ⊢
      refine ⟨s1.heap.objs.size + 5, [s1.heap.objs.size + 5, s1.heap.objs.size + 4, s1.heap.objs.size + 2, s1.heap.objs.size + 3, s1.heap.objs.size, s1.heap.objs.size + 1], _, _, H1, rfl, I2, turn_ez (apart_of la lb) five_ne, ⟨⟨_, he⟩, ⟨_, _, hk2 _ _ hz, .inl rfl⟩, hk2 _ _ hTI, ⟨_, _, hk2 _ _ hTO⟩, ⟨_, hk2 _ _ g1, rfl, rfl⟩, ⟨_, hk2 _ _ g2, rfl, rfl⟩⟩, fun c hcm => ?_, q⟩
      have hle : s1.heap.objs.size ≤ c := by
        rcases mem6.mp hcm with z | z | z | z | z | z
        · rw [z]; exact Nat.le_add_right _ _
        · rw [z]; exact Nat.le_add_right _ _
        · rw [z]; exact Nat.le_add_right _ _
        · rw [z]; exact Nat.le_add_right _ _
        · rw [z]; exact Nat.le_refl _
        · rw [z]; exact Nat.le_add_right _ _
      exact I1.fpOk hle (I1.hok.fresh hle)
/-! ### by data -/
def enumZ (xs ys : List Dt) : List Dt := List.zipWith (fun x y => .tuple [x, y]) (rgL 0 (min xs.length ys.length)) (zipD xs ys)
theorem zipD_len (xs ys : List Dt) : (zipD xs ys).length = min xs.length ys.length := by unfold zipD; rw [List.length_zipWith]
theorem enumZ_len (xs ys : List Dt) : (enumZ xs ys).length = min xs.length ys.length := by
  unfold enumZ
  rw [List.length_zipWith, rgL_length, zipD_len]
  omega
theorem enumZ_get {xs ys : List Dt} {i : Nat} (h1 : i < xs.length) (h2 : i < ys.length) : (enumZ xs ys)[i]? = some (.tuple [.int (0 + (i : Nat)), .tuple [xs[i], ys[i]]]) := by
  unfold enumZ
  rw [List.getElem?_zipWith, rgL_get (by omega)]
  unfold zipD
  rw [List.getElem?_zipWith, List.getElem?_eq_getElem h1, List.getElem?_eq_getElem h2]
theorem wd_ez {b : Bool} {K : PySem.W.Frag} {ow : Ow} {H : Hp} {a a2 : Addr} {xs ys : List Dt} (ok : OkO ow H) (h : RpB b K ow H (.ref a) (.list xs)) (h2 : RpB b K ow H (.ref a2) (.list ys)) : WD (.p .d (.p .d .d)) b K ow H (Iez K a a2) (enumZ xs ys) := fun ow1 H1 r ok1 => by
  obtain ⟨vs, s1, r1⟩ := src_one (h.seq_stp (k := true) rfl ok r) rfl
  obtain ⟨ws, s2, r2⟩ := src_one (h2.seq_stp (k := true) rfl ok r) rfl
  refine ⟨fun i hi => ?_, ⟨vs, ws, s1, s2, by rw [enumZ_len, r1.length, r2.length]⟩, fun i x H2 hi y => ?_⟩
  · rw [enumZ_len] at hi
    have i1 : i < vs.length := by rw [r1.length]; omega
    have i2 : i < ws.length := by rw [r2.length]; omega
    exact ⟨vs, ws, vs[i], ws[i], s1, s2, by simp [i1], by simp [i2]⟩
  · rw [enumZ_len] at hi
    obtain ⟨T, U, x, y, rfl, hT, hU, rfl, hx, hy⟩ := y
    have i1 : i < xs.length := by omega
    have i2 : i < ys.length := by omega
    obtain ⟨v1, hv1, q1⟩ := r1.get (i := i) (d := xs[i]) (by simp [i1])
    obtain ⟨v2, hv2, q2⟩ := r2.get (i := i) (d := ys[i]) (by simp [i2])
    rw [hx vs s1] at hv1
    rw [hy ws s2] at hv2
    cases hv1
    cases hv2
    have sm : Same H1 (upd (upd H1 T (.tup [x, y])) U (.tup [.int (i : Nat), .ref T])) := (Same.upd hT).trans (Same.upd hU)
    refine ⟨sm, _, enumZ_get i1 i2, ?_⟩
    rw [Int.zero_add]
    exact ⟨U, _, _, _, _, rfl, upd_same, rfl, .int _, T, _, _, _, _, rfl, Same.upd hU _ _ upd_same, rfl, Rp.same sm q1, Rp.same sm q2⟩
section
variable {G : Gc} {N : List Str} {sc : Scope} {fn : Str → Bool} {k : Nat} {pos p p2 q1 tpos : Pos} {a b : Expr} {f g : EF} {elts : List Expr} {kk : Nat}
def iEnumZip (f g : EF) : IF := fun bb ρ => bndI (f bb ρ) fun x => bndI (g bb ρ) fun y => match x, y with
  | .list xs, .list ys => some (.it (enumZ xs ys))
  | _, _ => none
theorem si_enumZip (B : Bi G) (ha : SE G N sc fn k a f) (hb : SE G N sc fn k b g) (hge : GL sc "enumerate" := by rfl) (hg : GL sc "zip" := by rfl) (ns : NS a := by intro _ _; rfl) (ns2 : NS b := by intro _ _; rfl) : SI G N sc fn k (.p .d (.p .d .d)) (.Tuple elts kk tpos) (.Call (.Name "enumerate" p) [.Call (.Name "zip" p2) [a, b] [] q1] [] pos) (iEnumZip f g) := fun X C W tk b' =>
  PI.imp (pi_ez (C.gl hge) (by rw [C.hmg]; exact B.enumerate) (C.gl hg) (by rw [C.hmg]; exact B.zip) (pa_cons (ha X C W tk b') (pa_cons (hb X C W tk b') pa_nil (ns2 [] X.env)) (ns [b] X.env)) (ns [b] X.env) (noStar _ _ _ fun e he => by rw [List.mem_singleton.mp he]; exact ns2)) fun σ H R h => by
    obtain ⟨ρ, ow, r, he, gd, post⟩ := h
    refine tE.goI gd he (fun n pl e => by subst e; exact post) fun d hd v H1 s1 r1 => ?_
    refine tE.goI (gd.same s1) hd (fun n pl e => by subst e; exact ExP.same post s1) fun d2 hd2 v2 H2 s2 r2 => ?_
    split at hd2
    · cases hd2
      have r1' := r1.same s2
      obtain ⟨a1, vs, rfl, q1, w1⟩ := r1'.list
      obtain ⟨a2, ws, rfl, q2, w2⟩ := r2.list
      exact ⟨a1, a2, vs, ws, rfl, SqL.of q1, SqL.of q2, post _ H2 (s1.trans s2) (wd_ez (gd.ok.same (s1.trans s2)) r1' r2)⟩
    · cases hd2
end
end PT

namespace PT
open PySem PySem.Spec PyProof.Rows L2
section
variable {b : Bool} {ρ : En} {f g h : EF} {d : Dt} {i n : Nat} {x y : Int}
theorem w_lim : lim = 1000000 := Eq.trans rfl rfl
theorem w_tup (g : AF) : eTup g b ρ = bndA (g ρ) fun ds => if ds.length ≤ lim then some (.val (.tuple ds)) else none := Eq.trans rfl rfl
theorem w_lst (g : AF) : eLst g b ρ = bndA (g ρ) fun ds => if ds.length ≤ lim then some (.val (.list ds)) else none := Eq.trans rfl rfl
theorem w_unp (sl : List Nat) (gf : GF) : sUnp sl gf f ρ = bndS (f false ρ) fun d => (gf d (clr ρ sl)).map .nx := Eq.trans rfl rfl
theorem w_and : eAnd f g b ρ = bnd (f true ρ) fun x => match x with
  | .bool true => g b ρ
  | .bool false => some (.val (.bool false))
  | _ => none := Eq.trans rfl rfl
theorem w_or : eOr f g b ρ = bnd (f true ρ) fun x => match x with
  | .bool true => some (.val (.bool true))
  | .bool false => g b ρ
  | _ => none := Eq.trans rfl rfl
theorem w_andT : eAndT f g b ρ = bnd (f true ρ) fun x => match tru x with
  | some true => g b ρ
  | some false => some (.val (.bool false))
  | none => none := Eq.trans rfl rfl
theorem w_orT : eOrT f g b ρ = bnd (f true ρ) fun x => match tru x with
  | some true => some (.val (.bool true))
  | some false => g b ρ
  | none => none := Eq.trans rfl rfl
theorem w_not : eNot f b ρ = bnd (f true ρ) fun x => (tru x).map fun c => .val (.bool (!c)) := Eq.trans rfl rfl
theorem w_ife : eIf h f g b ρ = bnd (h true ρ) fun x => match tru x with
  | some true => f b ρ
  | some false => g b ρ
  | none => none := Eq.trans rfl rfl
theorem w_chain : eChain f g h b ρ = bnd (f true ρ) fun x => bnd (g true ρ) fun y => match x, y with
  | .int i, .int j => if i ≤ j then bnd (h true ρ) fun z => (match z with | .int l => some (.val (.bool (decide (j ≤ l)))) | _ => none) else some (.val (.bool false))
  | _, _ => none := Eq.trans rfl rfl
theorem w_isi (T : String) : eIsi T f b ρ = bnd (f true ρ) fun x => some (.val (.bool (dIsi T x))) := Eq.trans rfl rfl
theorem w_neg : dNeg (.int x) = some (.int (-x)) := Eq.trans rfl rfl
theorem w_isN (d : Dt) : dIsN d .none = some (.bool (isN d)) := Eq.trans rfl rfl
theorem w_notN (d : Dt) : dNotN d .none = some (.bool (!isN d)) := Eq.trans rfl rfl
theorem w_raise (n : Str) : sRaise n ρ = some (.ex n none) := Eq.trans rfl rfl
theorem w_put : sPut i f g ρ = match ρ[i]? with
  | some (some (.own xs)) => bndS (g false ρ) fun d => bndS (f true ρ) fun j => (match j with
    | .int m => (match ixN xs.length m with
      | some n => some (.nx (ρ.set i (some (.own (xs.set n d)))))
      | none => none)
    | _ => none)
  | _ => none := Eq.trans rfl rfl
theorem w_un0 (s : SF) : sUn i s ρ = s (unown i ρ) := Eq.trans rfl rfl
theorem w_max2 : dMax2 (.int x) (.int y) = some (.int (if y > x then y else x)) := Eq.trans rfl rfl
theorem w_intI : dInt (.int x) = some (.int x) := Eq.trans rfl rfl
theorem w_intB (c : Bool) : dInt (.bool c) = some (.int (if c then 1 else 0)) := Eq.trans rfl rfl
theorem w_par (i j : Nat) : sPar i j f g ρ = bndS (f false ρ) fun x => bndS (g false ρ) fun y => if i < ρ.length then some (.nx ((ρ.set i (some (.sh x))).set j (some (.sh y)))) else none := Eq.trans rfl rfl
end
theorem ixN_lt {n : Nat} {m : Int} (h0 : 0 ≤ m) (h1 : m < n) : ixN n m = some m.toNat := by
  unfold ixN
  rw [if_pos h0, if_pos h1]
/-- an index that is a whole number, not below 0 -/
theorem w_ixLi {l : List Int} {i : Int} (h0 : 0 ≤ i) (h1 : i < l.length) : dIx (.list (l.map .int)) (.int i) = some (.int (l.getD i.toNat 0)) := by
  have := w_ixL (xs := l.map .int) (i := i.toNat) (get_map_int (by omega))
  rw [Int.toNat_of_nonneg h0] at this
  exact this
theorem w_ixTi {l : List Int} {i : Int} (h0 : 0 ≤ i) (h1 : i < l.length) : dIx (tI' l) (.int i) = some (.int (l.getD i.toNat 0)) := by
  have := w_ixT (xs := l.map .int) (i := i.toNat) (get_map_int (by omega))
  rw [Int.toNat_of_nonneg h0] at this
  exact this
theorem getD_mem {l : List Int} {i : Nat} (h : i < l.length) : l.getD i 0 ∈ l := by
  rw [List.getD_eq_getElem?_getD, List.getElem?_eq_getElem h]
  exact List.getElem_mem h
theorem w_rg1i {f : EF} {b : Bool} {ρ : En} {n : Int} (h : f true ρ = some (.val (.int n))) (h0 : 0 ≤ n) (hn : n ≤ 1000000) : iRg1 f b ρ = some (.it (rgL 0 n.toNat)) := by
  refine w_rg1 ?_ (by omega)
  rw [h, Int.toNat_of_nonneg h0]
/-- a comprehension over a range, ints out -/
theorem lcL_rg {e : EF} {tg : GF} {ρ : En} (n : Nat) (v : Nat → Int) (H : ∀ i, i < n → ∃ ρ1, tg (.int (i : Int)) ρ = some ρ1 ∧ e false ρ1 = some (.val (.int (v i)))) : lcL (eC (.bool true)) e tg ρ (rgL 0 n) = some (((List.range n).map v).map .int) := by
  have e1 : ((List.range n).map v).map PyData.int = (rgL 0 n).map fun d => match d with
    | .int i => .int (v i.toNat)
    | y => y := by
    unfold rgL
    rw [List.map_map, List.map_map]
    refine List.map_congr_left fun i _ => ?_
    show PyData.int (v i) = PyData.int (v (0 + (i : Int)).toNat)
    congr 2
    omega
  rw [e1]
  refine lcL_map _ _ fun x hx => ?_
  obtain ⟨i, hi, rfl⟩ := rgL_mem hx
  obtain ⟨ρ1, h1, h2⟩ := H i hi
  refine ⟨ρ1, by rw [Int.zero_add]; exact h1, ?_⟩
  rw [h2]
  show _ = some (Rs.val (PyData.int (v (0 + (i : Int)).toNat)))
  congr 3
  rw [Int.zero_add]; rfl
/-- a loop that may end by a return -/
theorem forL_find {sl : List Nat} {tg : GF} {body : SF} (P : En → Prop) (p : Nat → Bool) (r : Nat → Dt) : ∀ (xs : List Dt) (i : Nat) (ρ : En), P ρ → (∀ j x ρ, xs[j]? = some x → P ρ → (p (i + j) = false ∧ ∃ ρ2, turn sl tg body x ρ = some (.nx ρ2) ∧ P ρ2) ∨ (p (i + j) = true ∧ turn sl tg body x ρ = some (.rt (r (i + j))))) →
    match (List.range' i xs.length).find? p with
    | some j => forL sl tg body xs ρ = some (.rt (r j))
    | none => ∃ ρ', forL sl tg body xs ρ = some (.nx ρ') ∧ P ρ'
  | [], i, ρ, h0, _ => ⟨ρ, rfl, h0⟩
  | x :: xs, i, ρ, h0, hs => by
    show match (List.range' i (xs.length + 1)).find? p with
    | some j => forL sl tg body (x :: xs) ρ = some (.rt (r j))
    | none => ∃ ρ', forL sl tg body (x :: xs) ρ = some (.nx ρ') ∧ P ρ'
    rw [List.range'_succ, List.find?_cons]
    rcases hs 0 x ρ rfl h0 with ⟨h1, ρ2, h2, h3⟩ | ⟨h1, h2⟩
    · rw [Nat.add_zero] at h1
      rw [h1]
      have ih := forL_find P p r xs (i + 1) ρ2 h3 fun j y ρ hy hp => by
        have e : i + 1 + j = i + (j + 1) := by omega
        rw [e]
        exact hs (j + 1) y ρ (by simpa using hy) hp
      rw [forL_cons h2]
      exact ih
    · rw [Nat.add_zero] at h1 h2
      rw [h1]
      exact forL_stop h2
theorem whl_step {c : EF} {body : SF} {n : Nat} {ρ ρ2 : En} {d : Dt} (h1 : c true ρ = some (.val d)) (h2 : tru d = some true) (h3 : body ρ = some (.nx ρ2)) : whl c body (n + 1) ρ = whl c body n ρ2 := by
  rw [whl, h1]
  simp only [w_bndS, h2, h3]
theorem whl_end {c : EF} {body : SF} {n : Nat} {ρ : En} {d : Dt} (h1 : c true ρ = some (.val d)) (h2 : tru d = some false) : whl c body (n + 1) ρ = some (.nx ρ) := by
  rw [whl, h1]
  simp only [w_bndS, h2]
theorem seq_nx {s1 s2 : SF} {ρ ρ' : En} (h : s1 ρ = some (.nx ρ')) : sSeq s1 s2 ρ = s2 ρ' := by rw [w_seq, h]
theorem seq_rt {s1 s2 : SF} {ρ : En} {d : Dt} (h : s1 ρ = some (.rt d)) : sSeq s1 s2 ρ = some (.rt d) := by rw [w_seq, h]
theorem seq_ex {s1 s2 : SF} {ρ : En} {n : Str} {pl : Option Dt} (h : s1 ρ = some (.ex n pl)) : sSeq s1 s2 ρ = some (.ex n pl) := by rw [w_seq, h]
theorem run_rt {n : Nat} {g : SF} {ds : List Dt} {d : Dt} (h : g (start0 n ds) = some (.rt d)) : runB n g ds = some (.val d) := by unfold runB; rw [h]
theorem run_nx {n : Nat} {g : SF} {ds : List Dt} {ρ : En} (h : g (start0 n ds) = some (.nx ρ)) : runB n g ds = some (.val .none) := by unfold runB; rw [h]
theorem run_ex {n : Nat} {g : SF} {ds : List Dt} {x : Str} {pl : Option Dt} (h : g (start0 n ds) = some (.ex x pl)) : runB n g ds = some (.exc x pl) := by unfold runB; rw [h]
theorem for_it {sl : List Nat} {tg : GF} {it : IF} {body : SF} {ρ : En} {xs : List Dt} (h : it false ρ = some (.it xs)) : sFor sl tg it body ρ = forL sl tg body xs ρ := by rw [w_for, h]
theorem set_v {i : Nat} {f : EF} {ρ : En} {d : Dt} (h : f false ρ = some (.val d)) : sSet i f ρ = some (.nx (ρ.set i (some (.sh d)))) := by rw [w_set, h, w_bndS]
theorem setO_v {i : Nat} {f : EF} {ρ : En} {ds : List Dt} (h : f true ρ = some (.val (.list ds))) (hi : i < ρ.length) : sSetO i f ρ = some (.nx (ρ.set i (some (.own ds)))) := by
  rw [w_setO, h, w_bndS]
  exact if_pos hi
theorem ret_v {f : EF} {ρ : En} {d : Dt} (h : f true ρ = some (.val d)) : sRet f ρ = some (.rt d) := by rw [w_ret, h, w_bndS]
theorem do_v {f : EF} {ρ : En} {d : Dt} (h : f true ρ = some (.val d)) : sDo f ρ = some (.nx ρ) := by rw [w_do, h, w_bndS]
theorem if_t {f : EF} {s1 s2 : SF} {ρ : En} {d : Dt} (h : f true ρ = some (.val d)) (ht : tru d = some true) : sIf f s1 s2 ρ = s1 ρ := by rw [w_if, h, w_bndS, ht]
theorem if_f {f : EF} {s1 s2 : SF} {ρ : En} {d : Dt} (h : f true ρ = some (.val d)) (ht : tru d = some false) : sIf f s1 s2 ρ = s2 ρ := by rw [w_if, h, w_bndS, ht]
end PT

namespace PT
open PySem PySem.Spec PyProof.Rows L2

/-! ## try, several clauses «except X as e» -/
abbrev Cl := Value × Nat × (Addr → Value → Option Addr → TS)
def endsAs (D : Ends) (i : Nat) : Ends := { nx := fun σ' H' => D.nx (σ'.set i none) H', rt := D.rt, bk := fun σ' H' => D.bk (σ'.set i none) H', ct := fun σ' H' => D.ct (σ'.set i none) H' }
def wAsM (K : PySem.W.Frag) (Wout : WX) (D : Ends) : List Cl → WX
  | [] => Wout
  | (c, i, ts) :: r => fun cls d σ H => ∃ b, PySem.W.exmOne K cls c = some b ∧ (b = true → i < σ.length → ∀ a, H a = none → ts a cls d (endsAs D i) (σ.set i (some (.ref a))) H) ∧ (b = false → wAsM K Wout D r cls d σ H)
inductive HdsAs (X : Cx) : List ExceptHandler → List Cl → Prop
  | nil : HdsAs X [] []
  | cons {x n : Str} {c : Value} {i : Nat} {ts : Addr → Value → Option Addr → TS} {b0 : Stmt} {suite : List Stmt} {np hp : Pos} {hds : List ExceptHandler} {l : List Cl} (hi : X.N[i]? = some n) (hln : X.env.kindOf n = some .local) (hc : Names X x c)
      (hsu : ∀ (a : Addr) (oe : Obj) (cls : Value) (d : Option Addr) (pn : List (Addr × Obj)), Zc cls d oe → (∃ vs, oe.data = .fields vs) → PSs (X.suite a ((a, oe) :: pn)) (b0 :: suite) (ts a cls d)) (r : HdsAs X hds l) :
      HdsAs X (.ExceptHandler (some (.Name x np)) (some n) (b0 :: suite) hp :: hds) ((c, i, ts) :: l)
section
variable {X : Cx} {body : List Stmt} {h0 : ExceptHandler} {hds : List ExceptHandler} {l : List Cl} {pos : Pos} {tb : WX → TS} {Wout : WX}
theorem ps_tryAs (hs : X.stack = X.env :: X.outer) (hf : X.env.frame = some X.env.locals) (hN : X.N.Nodup) (tk : Takes X Wout)
    (hb : ∀ (W : WX) (pn : List (Addr × Obj)) (xe : Value → Shared → Prop), Takes (X.tr pn xe) W → PassesOwn (model X.prog X.w) X.A X.env xe → PSs (X.tr pn xe) body (tb W))
    (hh : HdsAs X (h0 :: hds) l) : PS X (.Try body (h0 :: hds) [] [] pos) (fun D σ H => tb (wAsM X.K Wout D l) D σ H) := by
  refine ⟨fun pins s σ H D I h => ?_⟩
  have ok := I.ok
  have hfr : X.A.frames = some (X.env :: X.outer) := by rw [ok.frames, hs]
  refine wpAny_Try_except ?_
  refine wpAny_mono ((hb (wAsM X.K Wout D l) (X.pn ++ pins) (fun e s1 => wpAny (model X.prog X.w) X.A (noteFrame e X.env) (fun _ s2 => wpAny (model X.prog X.w) X.A (setFlight e none) (fun _ s3 =>
    wpAny (model X.prog X.w) X.A (handleBy e X.env (h0 :: hds)) (SP X pins D) X.xe s3) X.xe s2) X.xe s1) (fun u s' xx => ?_) PassesOwn.looking).run [] s σ H D (I.toTry _) h) (fun f s1 q => ?_) (fun e s1 he => he)
  · obtain ⟨a, B, sI, pins', σ', H', cls, d, rfl, J', nb, up, sky, na, os, ag, w⟩ := xx
    have J : Inv X pins σ' H' sI := J'.ofTry ok
    have sky' : Sky B (X.env :: X.outer) a (Zc cls d) X.env.locals s'.heap := by rw [← hs]; exact sky
    show wpAny (model X.prog X.w) X.A (noteFrame (.ref a) X.env) _ _ _
    refine Sky.land Zc.steady hfr hf sky' fun h3 f3 u3 => ?_
    have J3 : Inv X pins σ' H' { s' with heap := h3 } := J.landed nb f3.1 (up.trans u3) os ag
    obtain ⟨oe3, vs3, he3, hz3, hd3⟩ := f3.there
    have nfr : a ∉ frs (X.env :: X.outer) := fun hm => by
      obtain ⟨_, o', e', hnf⟩ := f3.2.2.1.mem hm
      rw [he3] at e'; cases e'
      exact hnf _ hd3
    have nL : a ≠ X.env.locals := fun z => nfr (List.mem_filterMap.mpr ⟨X.env, List.mem_cons_self, by rw [hf, z]⟩)
    have nF : a ∉ X.fs := fun hm => by
      obtain ⟨e, he, q⟩ := List.mem_filterMap.mp hm
      exact nfr (List.mem_filterMap.mpr ⟨e, List.mem_cons_of_mem _ he, q⟩)
    have S3 := J3.suite he3 hd3 na nL nF
    have go : ∀ {hds' : List ExceptHandler} {l' : List Cl}, HdsAs X hds' l' → wAsM X.K Wout D l' cls d σ' H' → wpAny (model X.prog X.w) X.A (handleBy (.ref a) X.env hds') (SP X pins D) X.xe { s' with heap := h3 } := by
      intro hds' l' hk
      induction hk with
      | nil =>
        intro w
        refine wpAny_handleBy_nil ?_
        obtain ⟨k1, k2, k3, oe, vs, T, oT, ts', he, hz, hd, h1, hr⟩ := id f3
        unfold PySem.passOn
        refine wpAny_bind (wpAny_field he hd h1 ?_)
        rw [if_neg (show ¬ ((Value.ref T == Value.none) = true) from by simp)]
        have fin : wpAny (model X.prog X.w) X.A (setFlight (.ref a) X.env.frame) (fun _ s4 => wpAny (model X.prog X.w) X.A (throw (.ref a) : Sem Flow) (SP X pins D) X.xe s4) X.xe { s' with heap := h3 } := by
          rw [hf]
          refine HandSPX.setFlight_upZ f3 fun h4 k4 u4 => wpAny_throw (tk _ _ ?_)
          exact ⟨a, B, sI, pins, σ', H', cls, d, rfl, J, nb, (up.trans u3).trans u4, .inr (.inr (by rw [hs]; exact k4)), na, os, ag, w⟩
        first
          | exact wpAny_bind (wpAny_pure (wpAny_bind fin))
          | exact wpAny_bind fin
      | @cons x n c i ts b0 suite np hp hds2 l2 hi hln hc hsu r ih =>
        intro w
        obtain ⟨b, hb1, hyes, hno⟩ := w
        refine wpAny_handleBy_cons (codeAny_handlers_test ?_) (by intro q; cases q)
        have LT : PySem.W.Looks (model X.prog X.w) h3 (typeOf (.ref a)) cls := fun A Q E s k q => wpAny_typeOf_ref (k _ _ he3) (by rw [hz3.1]; exact q)
        have LM := PySem.W.exm_one (M := model X.prog X.w) (J3.kIn) LT hb1
        have test : ∀ {Q : Value → Shared → Prop} {E : Value → Shared → Prop}, Q c { s' with heap := h3 } → wpAny (model X.prog X.w) (X.A.mark (some (.ref a))) (eval (.Name x np) X.env) Q E { s' with heap := h3 } := fun {Q E} q => by
          obtain ⟨hg, hdb, hm | ⟨hm, hv, hnn⟩⟩ := hc
          · exact ld_glob (X := X.suite a ((a, oe3) :: (X.pn ++ pins))) S3 hg hm q hdb
          · exact ld_blt (X := X.suite a ((a, oe3) :: (X.pn ++ pins))) S3 hg hm hv q hnn hdb
        refine test (LM.here ?_)
        cases b with
        | true =>
          refine codeAny_handlers_suite_as ?_
          refine HandSPX.lands_againZ f3 fun h4 f4 u4 => ?_
          have J4 : Inv X pins σ' H' { s' with heap := h4 } := J.landed nb f4.1 ((up.trans u3).trans u4) os ag
          obtain ⟨oe4, vs4, he4, hz4, hd4⟩ := f4.there
          have S4 := J4.suite he4 hd4 na nL nF
          refine store_ok (X := X.suite a ((a, oe4) :: (X.pn ++ pins))) (v := .ref a) S4 hN hi (.inl hln) rfl (fun s5 S5 => ?_) (.inr hln)
          refine wpAny_mono ((hsu a oe4 cls d (X.pn ++ pins) hz4 ⟨_, hd4⟩).run [] s5 _ H' _ S5 (hyes rfl (by rw [J.len]; exact (List.getElem?_eq_some_iff.mp hi).1) a na)) (fun f s6 q => ?_) (fun _ _ z => False.elim z)
          have fin : ∀ {σ6 : L2.St} {H6 : Hp} {Q : Shared → Prop}, Inv (X.suite a ((a, oe4) :: (X.pn ++ pins))) [] σ6 H6 s6 → (∀ s7, Inv X pins (σ6.set i none) H6 s7 → Q s7) →
              wpAny (model X.prog X.w) X.A (do bindName X.env n .none; unbindBehindTheSuite X.env n hp) (fun _ s7 => Q s7) X.xe s6 := fun {σ6 H6 Q} S6 hq => gone_ok (S6.unsuite ok) hN hi hln hq
          cases f with
          | next =>
            obtain ⟨σ6, H6, S6, q6⟩ := q
            exact fin S6 fun s7 J7 => ⟨_, _, J7, q6⟩
          | brk =>
            obtain ⟨σ6, H6, S6, q6⟩ := q
            exact fin S6 fun s7 J7 => ⟨_, _, J7, q6⟩
          | cont =>
            obtain ⟨σ6, H6, S6, q6⟩ := q
            exact fin S6 fun s7 J7 => ⟨_, _, J7, q6⟩
          | ret u =>
            obtain ⟨v6, σ6, H6, S6, r6, q6⟩ := q
            exact fin S6 fun s7 J7 => ⟨_, _, _, J7, r6, q6⟩
        | false =>
          show wpAny _ X.A (handleBy (.ref a) X.env hds2) _ _ _
          exact ih (hno rfl)
    exact go hh w
  · cases f with
    | next =>
      obtain ⟨σ', H', J', q⟩ := q
      exact wpAny_execs_nil ⟨σ', H', J'.ofTry ok, q⟩
    | brk =>
      obtain ⟨σ', H', J', q⟩ := q
      exact ⟨σ', H', J'.ofTry ok, q⟩
    | cont =>
      obtain ⟨σ', H', J', q⟩ := q
      exact ⟨σ', H', J'.ofTry ok, q⟩
    | ret u =>
      obtain ⟨v, σ', H', J', r, q⟩ := q
      exact ⟨v, σ', H', J'.ofTry ok, r, q⟩
end
/-! ### by data -/
/-- what is known of two classes of exceptions: the first is under the second, or not -/
def XRel (G : Gc) (x y : Str) (b : Bool) : Prop := ∃ C D, G.mg x = some (.ref C) ∧ G.mg y = some (.ref D) ∧ PySem.W.exmOne G.K (.ref C) (.ref D) = some b ∧ PySem.W.kitOne G.K (.ref C) (.ref D) = some b ∧ L2.ExcC G.K C
abbrev EMT := List (Str × Str × Bool)
def em (E : EMT) (x y : Str) : Option Bool := (E.find? fun t => t.1 == x && t.2.1 == y).map (·.2.2)
def EmOk (G : Gc) (E : EMT) : Prop := ∀ t ∈ E, XRel G t.1 t.2.1 t.2.2
theorem em_rel {G : Gc} {E : EMT} (h : EmOk G E) {x y : Str} {b : Bool} (e : em E x y = some b) : XRel G x y b := by
  unfold em at e
  cases q : E.find? fun t => t.1 == x && t.2.1 == y with
  | none => rw [q] at e; cases e
  | some t =>
    rw [q] at e
    cases e
    have h1 := List.find?_some q
    rw [Bool.and_eq_true] at h1
    have e1 : t.1 = x := by simpa using h1.1
    have e2 : t.2.1 = y := by simpa using h1.2
    rw [← e1, ← e2]
    exact h t (List.mem_of_find?_eq_some q)
/-- a clause's suite, by the exception's name -/
def SHd (G : Gc) (N : List Str) (sc : Scope) (fn : Str → Bool) (k : Nat) (suite : List Stmt) (i : Nat) (rf : Str → Option Dt) : Prop :=
  ∀ X, Ctx G N sc fn k X → ∃ ts : Addr → Value → Option Addr → TS,
    (∀ (a : Addr) (oe : Obj) (cls : Value) (d : Option Addr) (pn : List (Addr × Obj)), Zc cls d oe → (∃ vs, oe.data = .fields vs) → PSs (X.suite a ((a, oe) :: pn)) suite (ts a cls d)) ∧
    ∀ n r cls, rf n = some r → X.mg n = some cls → ∀ a (De : Ends) σ H, σ[i]? = some (some (.ref a)) → (∀ v, (∀ O H', Rp X.K O H' v r) → De.rt v H) → ts a cls none De σ H
/-- a clause: the class's name, the slot, what is returned by the exception's name -/
abbrev Clz := Str × Nat × (Str → Option Dt)
def tryGo (E : EMT) (n : Str) : List Clz → Option Out
  | [] => some (.ex n none)
  | (x, _, rf) :: r => match em E n x with
    | some true => (rf n).map .rt
    | some false => tryGo E n r
    | none => none
def sTry (E : EMT) (g : SF) (hs : List Clz) : SF := fun ρ => match g ρ with
  | some (.ex n none) => tryGo E n hs
  | some (.ex _ (some _)) => none
  | y => y
inductive SHs (G : Gc) (N : List Str) (sc : Scope) (fn : Str → Bool) (k : Nat) : List ExceptHandler → List Clz → Prop
  | nil : SHs G N sc fn k [] []
  | cons {x n : Str} {i : Nat} {rf : Str → Option Dt} {b0 : Stmt} {suite : List Stmt} {np hp : Pos} {hds : List ExceptHandler} {l : List Clz} (hi : N[i]? = some n) (hln : sc.names.lookup n = some .local) (hg : GL sc x) (hdb : (x == ("__debug__" : Str)) = false) (hx : ∃ C, G.mg x = some (.ref C))
      (hs : SHd G N sc fn k (b0 :: suite) i rf) (r : SHs G N sc fn k hds l) : SHs G N sc fn k (.ExceptHandler (some (.Name x np)) (some n) (b0 :: suite) hp :: hds) ((x, i, rf) :: l)
theorem SHs.hds {G : Gc} {N : List Str} {sc : Scope} {fn : Str → Bool} {k : Nat} {E : EMT} (hE : EmOk G E) {X : Cx} (C : Ctx G N sc fn k X) : ∀ {hds : List ExceptHandler} {l : List Clz}, SHs G N sc fn k hds l →
    ∃ cl, HdsAs X hds cl ∧ ∀ (W : WX) (D : Ends) (ow : Ow) (H : Hp) (n : Str) (o : Out), tryGo E n l = some o → PostS X.K X.mg W D ow H o → PostS X.K X.mg (wAsM X.K W D cl) D ow H (.ex n none)
  | _, _, .nil => ⟨[], .nil, fun W D ow H n o e post => by cases e; exact post⟩
  | _, _, @SHs.cons _ _ _ _ _ x n i rf b0 suite np hp hds l hi hln hg hdb hx hs r => by
    obtain ⟨cl, h1, h2⟩ := SHs.hds hE C r
    obtain ⟨ts, t1, t2⟩ := hs X C
    obtain ⟨Cx, hCx⟩ := hx
    refine ⟨(.ref Cx, i, ts) :: cl, .cons (by rw [C.hN]; exact hi) (by show X.env.scope.names.lookup n = _; rw [C.hsc]; exact hln) ⟨C.gl hg, hdb, .inl (by rw [C.hmg]; exact hCx)⟩ t1 h1, fun W D ow H nm o e post => ?_⟩
    intro cls d σ' H' hc kp pk
    have pk' : d = none := pk
    subst pk'
    unfold tryGo at e
    cases he : em E nm x with
    | none => rw [he] at e; cases e
    | some b =>
      rw [he] at e
      obtain ⟨C1, D1, m1, m2, x1, _, _⟩ := em_rel hE he
      rw [C.hmg, m1] at hc
      cases hc
      rw [hCx] at m2
      cases m2
      refine ⟨b, by rw [C.hK]; exact x1, fun hb hlt a na => ?_, fun hb => ?_⟩
      · subst hb
        cases hr : rf nm with
        | none => rw [hr] at e; cases e
        | some dd =>
          rw [hr] at e
          cases e
          refine t2 nm dd _ hr (by rw [C.hmg]; exact m1) a _ _ _ (List.getElem?_set_self hlt) fun v hv => ?_
          exact post v H' kp (hv _ _)
      · subst hb
        exact h2 W D ow H nm o e post _ _ σ' H' (by rw [C.hmg]; exact m1) kp rfl
theorem ss_try {G : Gc} {N : List Str} {sc : Scope} {fn : Str → Bool} {k : Nat} {E : EMT} (hE : EmOk G E) {body : List Stmt} {h0 : ExceptHandler} {hds : List ExceptHandler} {l : List Clz} {g : SF} {pos : Pos} (hb : SB G N sc fn k body g) (hh : SHs G N sc fn k (h0 :: hds) l) : SS G N sc fn k (.Try body (h0 :: hds) [] [] pos) (sTry E g l) := fun X C T W tk hp => by
  obtain ⟨cl, h1, h2⟩ := hh.hds hE C
  refine PS.imp (ps_tryAs (tb := fun W => tS X.K X.mg W g) T.stk T.fr (by rw [C.hN]; exact C.nd) tk (fun W' pn xe tk' hp' => hb (X.tr pn xe) ⟨C.hP, C.hw, C.hK, C.hmg, C.hb, C.hN, C.nd, C.hsc, C.hfn, C.calm, C.room⟩ ⟨T.stk, T.fr⟩ W' tk' hp') h1) fun D σ H h => ?_
  obtain ⟨ρ, ow, o, he, gd, post⟩ := h
  unfold sTry at he
  cases hg : g ρ with
  | none => rw [hg] at he; cases he
  | some o1 =>
    rw [hg] at he
    cases o1 with
    | nx ρ' => cases he; exact ⟨ρ, ow, _, hg, gd, post⟩
    | rt d => cases he; exact ⟨ρ, ow, _, hg, gd, post⟩
    | ex n pl =>
      cases pl with
      | none => exact ⟨ρ, ow, _, hg, gd, h2 W D ow H n o he post⟩
      | some _ => cases he
/-! the suite «return A if isinstance(e, P) and not isinstance(e, Q) else B» -/
def rfIs (E : EMT) (P Q A B : Str) : Str → Option Dt := fun n => match em E n P, em E n Q with
  | some b1, some b2 => some (.str (if b1 && !b2 then A else B))
  | _, _ => none
theorem shd_is {G : Gc} {N : List Str} {sc : Scope} {fn : Str → Bool} {k : Nat} {E : EMT} (hE : EmOk G E) (B : Bi G) (i : Nat) {e P Q A Bs : Str} {p1 p2 p3 p4 p5 p6 p7 p8 p9 p10 p11 p12 p13 p14 : Pos} {j1 j2 : Nat} (hi : N[i]? = some e := by rfl) (hv : Vis sc e := by exact Or.inl rfl) (hd : (e == ("__debug__" : Str)) = false := by decide) (hcd : (e == ("__classdict__" : Str)) = false := by decide)
    (hgi : GL sc "isinstance" := by rfl) (hgP : GL sc P := by rfl) (hgQ : GL sc Q := by rfl) (hdP : (P == ("__debug__" : Str)) = false := by decide) (hdQ : (Q == ("__debug__" : Str)) = false := by decide) :
    SHd G N sc fn k [.Return (some (.IfExp (.BoolOp .And [.Call (.Name "isinstance" p1) [.Name e p2, .Name P p3] [] p4, .UnaryOp .Not (.Call (.Name "isinstance" p5) [.Name e p6, .Name Q p7] [] p8) p9] p10) (.Constant (.str A) j1 p11) (.Constant (.str Bs) j2 p12) p13)) p14] i (rfIs E P Q A Bs) := fun X C => by
  refine ⟨fun a cls d De σ H => ∃ C1 D1 D2 b1 b2, cls = .ref C1 ∧ d = none ∧ L2.ExcC X.K C1 ∧ X.mg P = some (.ref D1) ∧ X.mg Q = some (.ref D2) ∧ PySem.W.kitOne X.K (.ref C1) (.ref D1) = some b1 ∧ PySem.W.kitOne X.K (.ref C1) (.ref D2) = some b2 ∧ σ[i]? = some (some (.ref a)) ∧ De.rt (.str (if b1 && !b2 then A else Bs)) H, ?_, ?_⟩
  · intro a oe cls d pn hz hfl
    refine ⟨fun pins s σ H De I h => ?_⟩
    obtain ⟨C1, D1, D2, b1, b2, rfl, rfl, hC, mP, mQ, k1, k2, hσ, hrt⟩ := h
    have hgl : ∀ {x : Str}, GL sc x → Gl (X.suite a ((a, oe) :: pn)) x := fun {x} h => by
      show X.env.scope.names.lookup x = _
      rw [C.hsc]; exact h
    have hmi : (X.suite a ((a, oe) :: pn)).mg "isinstance" = none := by show X.mg _ = none; rw [C.hmg]; exact B.isinstance
    have pv : ∀ q : Pos, PE (X.suite a ((a, oe) :: pn)) (.Name e q) (tVar i) := fun q => pe_var (by show X.N[i]? = _; rw [C.hN]; exact hi) (by show Vis X.env.scope e; rw [C.hsc]; exact hv) hd hcd
    have pP : ∀ q : Pos, PE (X.suite a ((a, oe) :: pn)) (.Name P q) (tC (.ref D1)) := fun q => pe_glob (hgl hgP) mP rfl hdP
    have pQ : ∀ q : Pos, PE (X.suite a ((a, oe) :: pn)) (.Name Q q) (tC (.ref D2)) := fun q => pe_glob (hgl hgQ) mQ rfl hdQ
    have c1 : PE (X.suite a ((a, oe) :: pn)) (.Call (.Name "isinstance" p1) [.Name e p2, .Name P p3] [] p4) _ := pe_callB (call_isE hC hz hfl) (hgl hgi) hmi boot_isinstance (pa_cons (pv p2) (pa_cons (pP p3) pa_nil))
    have c2 : PE (X.suite a ((a, oe) :: pn)) (.Call (.Name "isinstance" p5) [.Name e p6, .Name Q p7] [] p8) _ := pe_callB (call_isE hC hz hfl) (hgl hgi) hmi boot_isinstance (pa_cons (pv p6) (pa_cons (pQ p7) pa_nil))
    have all := pss_one (ps_ret (pos := p14) (pe_ifExp (pos := p13) (pw_and (pos := p10) (pt_val c1) (pw_and1 (pt_not (pos := p9) (pt_val c2)))).pt (pe_str (x := A) (j := j1) (pos := p11)) (pe_str (x := Bs) (j := j2) (pos := p12))))
    refine all.run pins s σ H De I ?_
    refine ⟨.ref a, hσ, .ref D1, .ref D1, b1, rfl, fun u hu => hu, k1, b1, rfl, ?_⟩
    cases b1 with
    | false => exact hrt
    | true =>
      rw [if_pos rfl]
      refine ⟨.ref a, hσ, .ref D2, .ref D2, b2, rfl, fun u hu => hu, k2, b2, rfl, ?_⟩
      cases b2 <;> exact hrt
  · intro n r cls hr hc a De σ H hσ hrt
    unfold rfIs at hr
    cases e1 : em E n P with
    | none => rw [e1] at hr; cases hr
    | some b1 =>
      cases e2 : em E n Q with
      | none => rw [e1, e2] at hr; cases hr
      | some b2 =>
        rw [e1, e2] at hr
        cases hr
        obtain ⟨C1, D1, m1, m2, _, x1, xc⟩ := em_rel hE e1
        obtain ⟨C2, D2, m3, m4, _, x2, _⟩ := em_rel hE e2
        rw [m1] at m3
        cases m3
        rw [C.hmg, m1] at hc
        cases hc
        exact ⟨C1, D1, D2, b1, b2, rfl, rfl, by rw [C.hK]; exact xc, by rw [C.hmg]; exact m2, by rw [C.hmg]; exact m4, by rw [C.hK]; exact x1, by rw [C.hK]; exact x2, hσ, hrt _ fun O H' => .str _⟩
end PT

namespace PT
open PySem PySem.Spec PyProof.Rows L2
/-! ## a hook with a check of one's own -/
def obsP (fa : List He.Fa) (fn : List He.DefD) (chk : PySem.W.Frag → Bool) (K : PySem.W.Frag) : He.AlD := ((He.obsD fa fn K).1 && chk K, (He.obsD fa fn K).2)
def SaysP (fa : List He.Fa) (fn : List He.DefD) (chk : PySem.W.Frag → Bool) (K : PySem.W.Frag) : Prop := obsP fa fn chk K = He.valD fn
theorem SaysP.says {fa : List He.Fa} {fn : List He.DefD} {chk : PySem.W.Frag → Bool} {K : PySem.W.Frag} (h : SaysP fa fn chk K) : He.SaysD fa fn K ∧ chk K = true := by
  have h1 : ((He.obsD fa fn K).1 && chk K) = true := congrArg (fun z : He.AlD => z.1) h
  have h2 : (He.obsD fa fn K).2 = fn.map He.DefD.val := congrArg (fun z : He.AlD => z.2) h
  rw [Bool.and_eq_true] at h1
  exact ⟨Prod.ext h1.1 h2, h1.2⟩
def obsPG (n : Nat) (fa : List He.Fa) (fn : List He.DefD) (chk : PySem.W.Frag → Bool) (g : Addr → Option Obj) : He.AlD := obsP fa fn chk (He.frG g (He.asD g n))
def hookP (n : Nat) (fa : List He.Fa) (fn : List He.DefD) (chk : PySem.W.Frag → Bool) : PySem.W.Hook where
  α := He.AlD
  obs := fun s => obsPG n fa fn chk s.heap.get?
  val := fun _ => He.valD fn
  says := fun _ h => ∃ K : PySem.W.Frag, K.In h ∧ SaysP fa fn chk K
  of := fun _ _ e => ⟨_, He.frG_in, e⟩
  keeps := fun _ _ _ ⟨K, hK, c⟩ k => ⟨K, PySem.W.Frag.In.keeps hK k, c⟩
theorem obsPG_eq {n : Nat} {fa : List He.Fa} {fn : List He.DefD} {chk : PySem.W.Frag → Bool} {g : Addr → Option Obj} {s : Shared} (h : ∀ a, g a = s.heap.get? a) : obsPG n fa fn chk g = (hookP n fa fn chk).obs s := by
  have e : g = s.heap.get? := funext h
  rw [e]
  rfl
def excB (K : PySem.W.Frag) (C : Addr) : Bool :=
  He.eqO (PySem.W.findIn K (.ref C) "__getattribute__") (some (some (.builtin "BaseException.__getattribute__"))) && (He.eqO (PySem.W.findIn K (.ref C) "__getattr__") (some none) && (decide (PySem.W.subIn K (.ref C) (.type "BaseException") = some true) && (PySem.W.hasDictIn K C &&
    (He.eqO (PySem.W.findIn K (.ref C) "__class__") (some (some (.builtin "object.__class__"))) && (He.eqO (PySem.W.specialIn K (.builtin "object.__class__") "__get__") (some (some (.builtin "getset_descriptor.__get__"))) &&
      (decide (PySem.W.takesIn K (.builtin "object.__class__") = some true) && decide (PySem.W.mroIn K C (.type "object") = some true)))))))
theorem excB_ok {K : PySem.W.Frag} {C : Addr} (h : excB K C = true) : L2.ExcC K C := by
  unfold excB at h
  simp only [Bool.and_eq_true, decide_eq_true_eq] at h
  obtain ⟨h1, h2, h3, h4, h5, h6, h7, h8⟩ := h
  exact ⟨He.eqO_ok h1, He.eqO_ok h2, h3, h4, He.eqO_ok h5, He.eqO_ok h6, h7, h8⟩
def relOk (K : PySem.W.Frag) (t : Str × Str × Bool) : Bool := He.eqO (PySem.W.nsIn K mainGlobals t.1) (some (some (.ref (He.ga K t.1)))) && (He.eqO (PySem.W.nsIn K mainGlobals t.2.1) (some (some (.ref (He.ga K t.2.1)))) &&
  (decide (PySem.W.exmOne K (.ref (He.ga K t.1)) (.ref (He.ga K t.2.1)) = some t.2.2) && (decide (PySem.W.kitOne K (.ref (He.ga K t.1)) (.ref (He.ga K t.2.1)) = some t.2.2) && excB K (He.ga K t.1))))
def chkE (E : EMT) (K : PySem.W.Frag) : Bool := E.all fun t => relOk K t
theorem chkE_ok {P : Program} {w : World} {K : PySem.W.Frag} {h base : Heap} {mg : Str → Option Value} {E : EMT} (X : K.In h) (G : h.Ns mainGlobals mg) (c : chkE E K = true) : EmOk ⟨P, w, K, mg, base⟩ E := fun t ht => by
  have h1 := List.all_eq_true.mp c t ht
  unfold relOk at h1
  simp only [Bool.and_eq_true, decide_eq_true_eq] at h1
  obtain ⟨a1, a2, a3, a4, a5⟩ := h1
  exact ⟨He.ga K t.1, He.ga K t.2.1, PySem.W.mg_of X G (He.eqO_ok a1), PySem.W.mg_of X G (He.eqO_ok a2), a3, a4, excB_ok a5⟩
end PT

namespace PT
open PySem PySem.Spec PyProof.Rows L2
/-! ## range with a step above 0 -/
def rgC (lo c : Int) (n : Nat) : List Dt := (List.range n).map fun i => .int (lo + (i : Nat) * c)
theorem rgC_length (lo c : Int) (n : Nat) : (rgC lo c n).length = n := by unfold rgC; rw [List.length_map, List.length_range]
theorem rgC_get {lo c : Int} {n i : Nat} (h : i < n) : (rgC lo c n)[i]? = some (.int (lo + (i : Nat) * c)) := by
  unfold rgC
  rw [List.getElem?_map, List.getElem?_range h]
  rfl
theorem wd_rgC {b : Bool} {K : PySem.W.Frag} {ow : Ow} {H : Hp} {lo c : Int} {n : Nat} : WD .d b K ow H (Itc lo c n) (rgC lo c n) := fun ow1 H1 r ok1 => by
  refine ⟨fun i hi => ?_, ?_, fun i x H2 hi y => ?_⟩
  · rw [rgC_length] at hi; exact hi
  · rw [rgC_length]; exact Nat.le_refl n
  · rw [rgC_length] at hi
    obtain ⟨rfl, rfl⟩ := y
    exact ⟨Same.refl _, _, rgC_get hi, .int _⟩
def stepN (i j c : Int) : Nat := if i < j then ((j - i - 1) / c + 1).toNat else 0
def okC : Int → Bool
  | .ofNat n => Nat.ble 1 n && Nat.ble n 1000000
  | .negSucc _ => false
theorem okC_iff {i : Int} : okC i = true ↔ 1 ≤ i ∧ i ≤ 1000000 := by
  cases i with
  | ofNat n =>
    show (Nat.ble 1 n && Nat.ble n 1000000) = true ↔ _
    rw [Bool.and_eq_true, Nat.ble_eq, Nat.ble_eq]
    show 1 ≤ n ∧ n ≤ 1000000 ↔ 1 ≤ (n : Int) ∧ (n : Int) ≤ 1000000
    omega
  | negSucc n =>
    have : Int.negSucc n = -((n : Int) + 1) := rfl
    show false = true ↔ _
    rw [this]
    simp
    omega
section
variable {G : Gc} {N : List Str} {sc : Scope} {fn : Str → Bool} {k : Nat} {pos p p2 q1 q2 : Pos} {a b c tg : Expr} {f g h : EF}
def iRg3 (f g h : EF) : IF := fun _ ρ => bndI (f true ρ) fun x => bndI (g true ρ) fun y => bndI (h true ρ) fun z => match x, y, z with
  | .int i, .int j, .int c => if okI i = true ∧ okI j = true ∧ okC c = true then some (.it (rgC i c (stepN i j c))) else none
  | _, _, _ => none
theorem stepC {i j c : Int} (hi : i ≤ 1000000 ∧ -1000000 ≤ i) (hj : j ≤ 1000000 ∧ -1000000 ≤ j) (hc : 1 ≤ c ∧ c ≤ 1000000) : RgC i j c (stepN i j c) := by
  refine ⟨by omega, by omega, ?_, ?_⟩
  · have hq : (j - i - 1) / c * c ≤ j - i - 1 ∨ True := .inr trivial
    have hpos : i < j → 0 ≤ (j - i - 1) / c ∧ (j - i - 1) / c ≤ j - i - 1 := fun h => ⟨Int.ediv_nonneg (by omega) (by omega), Int.ediv_le_self _ (by omega)⟩
    have hm : i < j → (j - i - 1) / c * c ≤ j - i - 1 ∧ 0 ≤ (j - i - 1) / c * c := fun h => ⟨Int.ediv_mul_le _ (by omega), Int.mul_nonneg (hpos h).1 (by omega)⟩
    unfold Builtin.Range.small Builtin.Range.rangeSize
    simp only [Builtin.Range.rangeFitsLong, Bool.and_eq_true, Bool.or_eq_true, decide_eq_true_eq, beq_iff_eq, show c > 0 by omega, if_true]
    split
    · rename_i h
      have h1 := hpos h
      have h2 := hm h
      omega
    · omega
  · unfold Builtin.Range.rangeSize stepN
    rw [if_pos (by omega)]
    split
    · have h0 : 0 ≤ (j - i - 1) / c := Int.ediv_nonneg (by omega) (by omega)
      rw [Int.toNat_of_nonneg (by omega)]
    · rfl
theorem si_rg3 (B : Bi G) (ha : SE G N sc fn k a f) (hb : SE G N sc fn k b g) (hc : SE G N sc fn k c h) (hg : GL sc "range" := by rfl) (ns : NS a := by intro _ _; rfl) (ns2 : NS b := by intro _ _; rfl) (ns3 : NS c := by intro _ _; rfl) : SI G N sc fn k .d tg (.Call (.Name "range" p) [a, b, c] [] pos) (iRg3 f g h) := fun X C W tk b' =>
  PI.imp (pi_range3 (C.gl hg) (by rw [C.hmg]; exact B.range) (pa_cons (ha X C W tk true) (pa_cons (hb X C W tk true) (pa_cons (hc X C W tk true) pa_nil (ns3 [] X.env)) (ns2 [c] X.env)) (ns [b, c] X.env)) (ns [b, c] X.env) (noStar _ _ _ fun e he => by
      rcases List.mem_cons.mp he with rfl | he
      · exact ns2
      · rw [List.mem_singleton.mp he]; exact ns3)) fun σ H R h => by
    obtain ⟨ρ, ow, r, he, gd, post⟩ := h
    refine tE.goI gd he (fun n pl e => by subst e; exact post) fun d hd v H1 s1 r1 => ?_
    refine tE.goI (gd.same s1) hd (fun n pl e => by subst e; exact ExP.same post s1) fun d2 hd2 v2 H2 s2 r2 => ?_
    refine tE.goI (gd.same (s1.trans s2)) hd2 (fun n pl e => by subst e; exact ExP.same post (s1.trans s2)) fun d3 hd3 v3 H3 s3 r3 => ?_
    split at hd3
    · split at hd3
      · rename_i i j cc hn
        rw [okI_iff, okI_iff, okC_iff] at hn
        cases hd3
        obtain rfl := r1.int
        obtain rfl := r2.int
        obtain rfl := r3.int
        exact ⟨i, j, cc, _, rfl, stepC hn.1 hn.2.1 hn.2.2, post _ H3 ((s1.trans s2).trans s3) wd_rgC⟩
      · cases hd3
    · cases hd3
/-! ## max, min of a list of whole numbers -/
def mxL : List Int → Option Int
  | [] => none
  | x :: l => match mxL l with
    | none => some x
    | some y => some (if x < y then y else x)
theorem mxL_ok : ∀ {l : List Int} {m : Int}, mxL l = some m → m ∈ l ∧ ∀ y ∈ l, y ≤ m
  | x :: l, m, h => by
    unfold mxL at h
    cases e : mxL l with
    | none =>
      rw [e] at h
      cases h
      have hl : l = [] := by
        cases l with
        | nil => rfl
        | cons a l => unfold mxL at e; cases q : mxL l <;> rw [q] at e <;> cases e
      subst hl
      exact ⟨List.mem_singleton.mpr rfl, fun y hy => by rw [List.mem_singleton.mp hy]; omega⟩
    | some y =>
      rw [e] at h
      have ih := mxL_ok e
      by_cases hxy : x < y
      · have hm : y = m := by simpa [hxy] using h
        subst hm
        refine ⟨List.mem_cons_of_mem _ ih.1, fun z hz => ?_⟩
        rcases List.mem_cons.mp hz with rfl | hz
        · omega
        · exact ih.2 z hz
      · have hm : x = m := by simpa [hxy] using h
        subst hm
        refine ⟨List.mem_cons_self, fun z hz => ?_⟩
        rcases List.mem_cons.mp hz with rfl | hz
        · omega
        · have := ih.2 z hz; omega
def mnL (l : List Int) : Option Int := (mxL (l.map fun x => -x)).map fun x => -x
theorem mnL_ok {l : List Int} {m : Int} (h : mnL l = some m) : m ∈ l ∧ ∀ y ∈ l, m ≤ y := by
  unfold mnL at h
  cases e : mxL (l.map fun x => -x) with
  | none => rw [e] at h; cases h
  | some y =>
    rw [e] at h
    cases h
    obtain ⟨h1, h2⟩ := mxL_ok e
    obtain ⟨z, hz, rfl⟩ := List.mem_map.mp h1
    refine ⟨by show -(-z) ∈ l; rw [Int.neg_neg]; exact hz, fun w hw => ?_⟩
    have := h2 (-w) (List.mem_map.mpr ⟨w, hw, rfl⟩)
    show -(-z) ≤ w
    omega
def dMaxL : Dt → Option Dt
  | .list ds => match unI ds with
    | some ns => (mxL ns).map .int
    | none => none
  | _ => none
def dMinL : Dt → Option Dt
  | .list ds => match unI ds with
    | some ns => (mnL ns).map .int
    | none => none
  | _ => none
theorem cd_maxL (K : PySem.W.Frag) : CD1 K (rMax K) dMaxL := by
  intro x H Q ow dx dz ok rx e post
  cases dx with
  | list ds =>
    simp only [dMaxL] at e
    cases hu : unI ds with
    | none => rw [hu] at e; cases e
    | some ns =>
      rw [hu] at e
      obtain rfl := unI_eq hu
      obtain ⟨a, vs, rfl, h1, r⟩ := rx.list
      obtain rfl := RpAll.ints r
      cases hm : mxL ns with
      | none => simp only [hm] at e; cases e
      | some m =>
        simp only [hm] at e
        cases e
        have hk := mxL_ok hm
        refine ⟨a, ns, rfl, SqL.of h1, List.length_pos_of_mem hk.1, fun m' h1' h2' => ?_⟩
        have : m' = m := Int.le_antisymm (hk.2 m' h1') (h2' m hk.1)
        subst this
        exact post _ H (Same.refl H) (.int _)
  | _ => cases e
theorem cd_minL (K : PySem.W.Frag) : CD1 K (rMin K) dMinL := by
  intro x H Q ow dx dz ok rx e post
  cases dx with
  | list ds =>
    simp only [dMinL] at e
    cases hu : unI ds with
    | none => rw [hu] at e; cases e
    | some ns =>
      rw [hu] at e
      obtain rfl := unI_eq hu
      obtain ⟨a, vs, rfl, h1, r⟩ := rx.list
      obtain rfl := RpAll.ints r
      cases hm : mnL ns with
      | none => simp only [hm] at e; cases e
      | some m =>
        simp only [hm] at e
        cases e
        have hk := mnL_ok hm
        refine ⟨a, ns, rfl, SqL.of h1, List.length_pos_of_mem hk.1, fun m' h1' h2' => ?_⟩
        have : m' = m := Int.le_antisymm (h2' m hk.1) (hk.2 m' h1')
        subst this
        exact post _ H (Same.refl H) (.int _)
  | _ => cases e
theorem se_maxL (B : Bi G) (ha : SE G N sc fn k a f) (hg : GL sc "max" := by rfl) (ns : NS a := by intro _ _; rfl) : SE G N sc fn k (.Call (.Name "max" p) [a] [] pos) (eUn dMaxL f) :=
  se_b1 (r := rMax) (fun X h => cr_max h) cd_maxL B.max boot_max ha hg (by decide) (by decide) ns
theorem se_minL (B : Bi G) (ha : SE G N sc fn k a f) (hg : GL sc "min" := by rfl) (ns : NS a := by intro _ _; rfl) : SE G N sc fn k (.Call (.Name "min" p) [a] [] pos) (eUn dMinL f) :=
  se_b1 (r := rMin) (fun X h => cr_min h) cd_minL B.min boot_min ha hg (by decide) (by decide) ns
/-! ## three names = a list -/
def gTr (f g h : GF) : GF := fun d ρ => match d with
  | .list [x, y, z] => (f x ρ).bind fun ρ1 => (g y ρ1).bind (h z)
  | _ => none
theorem sg_tr {e1 e2 e3 : Expr} {kk : Nat} {sl1 sl2 sl3 : List Nat} {f g h : GF} (h1 : SG G N sc fn k .d e1 sl1 f) (h2 : SG G N sc fn k .d e2 sl2 g) (h3 : SG G N sc fn k .d e3 sl3 h)
    (hn : ∀ env, (assignEach [e1, e2, e3] env).length = 3 := by intro _; rfl) (hst : ∀ env, (assignEach [e1, e2, e3] env).findIdx? (·.1) = none := by intro _; rfl)
    (hs : ∀ env, (assignEach [e1, e2, e3] env).map (·.2) = assign e1 env :: (assignEach [e2, e3] env).map (·.2) := by intro _; rfl) (hs2 : ∀ env, (assignEach [e2, e3] env).map (·.2) = assign e2 env :: (assignEach [e3] env).map (·.2) := by intro _; rfl) (hs3 : ∀ env, (assignEach [e3] env).map (·.2) = assign e3 env :: (assignEach [] env).map (·.2) := by intro _; rfl) :
    SG G N sc fn k .d (.Tuple [e1, e2, e3] kk pos) (sl1 ++ (sl2 ++ sl3)) (gTr f g h) := fun X C =>
  PG.imp (pg_lst (n := 3) C.calm (pgs_cons (h1 X C) (pgs_cons (h2 X C) (pgs_cons (h3 X C) pgs_nil (hs3 X.env)) (hs2 X.env)) (hs X.env)) (hn X.env) (hst X.env)) fun v σ H Q hh => by
    obtain ⟨ρ, ow, d, ρ', hn, he, gd, r, post⟩ := hh
    unfold gTr at he
    split at he
    · rename_i x y z
      have r : Rp X.K (OA ow) H v (.list [x, y, z]) := r
      cases r with
      | lst ha hno ra =>
        cases ra with
        | cons rx rr =>
          cases rr with
          | cons ry rr =>
            cases rr with
            | cons rz rn =>
              cases rn
              rename_i a vx vy vz
              cases q1 : f x ρ with
              | none => rw [q1] at he; cases he
              | some ρ1 =>
                rw [q1] at he
                simp only [Option.bind_some] at he
                cases q2 : g y ρ1 with
                | none => rw [q2] at he; cases he
                | some ρ2 =>
                  rw [q2] at he
                  refine ⟨a, [vx, vy, vz], rfl, SqL.of ha, rfl, vx, [vy, vz], rfl, ρ, ow, x, ρ1, fun j hj => hn j (List.mem_append_left _ hj), q1, gd, rx, fun σ1 g1 l1 a1 => ?_⟩
                  refine ⟨vy, [vz], rfl, ρ1, ow, y, ρ2, fun j hj => hn j (List.mem_append_right _ (List.mem_append_left _ hj)), q2, g1, ry, fun σ2 g2 l2 a2 => ?_⟩
                  refine ⟨vz, [], rfl, ρ2, ow, z, ρ', fun j hj => hn j (List.mem_append_right _ (List.mem_append_right _ hj)), he, g2, rz, fun σ3 g3 l3 a3 => ⟨rfl, ?_⟩⟩
                  refine post σ3 g3 (l3.trans (l2.trans l1)) fun j hj => ?_
                  rw [List.mem_append, List.mem_append, not_or, not_or] at hj
                  rw [a3 j hj.2.2, a2 j hj.2.1, a1 j hj.1]
    · cases he
end
end PT

namespace PT
open PySem PySem.Spec PyProof.Rows L2
/-! ## a tuple times 1, or more -/
theorem tuple_mulW1 (l : Addr) (items : Array Value) (n : Nat) (dd : Option Addr) (sl : Array (Option Value)) (u : Tok) :
    Meets (Builtin.«tuple.__mul__» ⟨[.ref l, .int 1 u], []⟩) (fun _ R s => s.heap.get? l = some { cls := .type "tuple", dict := dd, data := .seq items n, slots := sl } ∧ R (.ok (.ret (Value.ref l))) s) :=
  .of_wp fun prog w A R s h => by
    obtain ⟨hp, g, d, tk, os⟩ := s
    obtain ⟨hl, h⟩ := h
    have f1 := AutoSeq1.idx_int
    have c1 : (items.isEmpty || (1 : Int) == 1) = true := by simp
    wp_walk using wpAny_loadPart' hl
    exact ⟨_, rfl, h⟩
def rRepT1 (K : PySem.W.Frag) : R2 := fun x y H Q => ∃ l xs, x = .ref l ∧ y = .int 1 ∧ SqT K H l xs ∧ Q (.ref l) H
theorem op_repT1 {X : Cx} : OpR X (binaryOp .Mult) (rRepT1 X.K) := by
  intro pins s σ H x y v u Q I rx ry h
  obtain ⟨l, xs, rfl, rfl, hT, q⟩ := h
  cases rx
  obtain ⟨t, rfl⟩ := ry
  obtain ⟨its, r, ⟨⟨cls, dd, data, sl⟩, ho, hc, n, hd⟩, hs⟩ := I.tuple hT
  simp only at hc hd
  subst hc hd
  exact wpAny_binaryOp_repeat_ref (T := "tuple") (U := "int") (by decide) ⟨_, ho, rfl⟩ (fun s' => typeIs_int s' 1 t) noFill_tuple_mul F.fills_int_mul F.slot_int_rmul repeat_tuple F.slot_int_index.lookup
    (call_meets F.slot_int_rmul (typeIs_int s 1 t) F.entry_int_rmul (F.args_int_rmul_2 _ _) (int_rmul_tuple 1 t l its.toArray n dd sl)
      ⟨ho, rfl, ⟨_, ho, rfl⟩, call_meets F.slot_tuple_mul ⟨_, ho, rfl⟩ F.entry_tuple_mul (F.args_tuple_mul_2 _ _) (tuple_mulW1 l its.toArray n dd sl t) ⟨ho, ⟨.ref l, H, I, rfl, q⟩⟩⟩)
def dMulT : Dt → Dt → Option Dt
  | .tuple xs, .int j => if xs ≠ [] ∧ okM j = true ∧ xs.length ≤ 1000 then some (.tuple (List.replicate j.toNat xs).flatten) else if j = 1 then some (.tuple xs) else none
  | _, _ => none
def rMulT (K : PySem.W.Frag) : R2 := fun x y H Q => rRepF K x y H Q ∨ rRepT1 K x y H Q
theorem rd_mulT (K : PySem.W.Frag) : RD K (rMulT K) dMulT := by
  intro x y H Q ow dx dy dz ok rx ry e post
  unfold dMulT at e
  split at e
  · rename_i xs j
    split at e
    · rename_i hz
      cases e
      obtain ⟨a, vs, rfl, h1, r1⟩ := rx.tuple
      obtain rfl := ry.int
      refine .inl ⟨a, j, vs, rfl, rfl, h1.sq, fun z => ?_, (okM_iff.mp hz.2.1).1, (okM_iff.mp hz.2.1).2, by rw [r1.length]; exact hz.2.2, fun p o hp ho =>
        post _ _ (Same.upd hp) (.tup ⟨o, upd_same, ho⟩ (RpAll.same (Same.upd hp) (r1.rep _)))⟩
      subst z
      cases r1
      exact hz.1 rfl
    · split at e
      · rename_i hj
        subst hj
        cases e
        obtain ⟨a, vs, rfl, h1, r1⟩ := rx.tuple
        obtain rfl := ry.int
        exact .inr ⟨a, vs, rfl, rfl, h1.sq, post _ H (Same.refl H) (.tup h1 r1)⟩
      · cases e
  · cases e
section
variable {G : Gc} {N : List Str} {sc : Scope} {fn : Str → Bool} {k : Nat} {pos apos cpos p : Pos} {a b c : Expr} {f g h : EF}
theorem se_mulT (ha : SE G N sc fn k a f) (hb : SE G N sc fn k b g) : SE G N sc fn k (.BinOp a .Mult b pos) (eBin dMulT f g) :=
  se_bin (r := rMulT) (fun X => op_repF.or op_repT1) rd_mulT ha hb
/-! ## what is never reached -/
def eNo : EF := fun _ _ => none
theorem se_no {e : Expr} : SE G N sc fn k e eNo := fun X C W tk b => ⟨fun pins s σ H Q I h => by
  obtain ⟨ρ, ow, r, he, _⟩ := h
  cases he⟩
/-! ## list.count -/
def dCnt : Dt → Dt → Option Dt
  | .list xs, .int j => match unI xs with
    | some ns => some (.int (ns.count j : Nat))
    | none => none
  | _, _ => none
def isL : Dt → Bool
  | .list _ => true
  | _ => false
/-- a method of one argument, by data -/
def eMeth (T : Dt → Bool) (op : Dt → Dt → Option Dt) (f g : EF) : EF := fun _ ρ => bnd (f true ρ) fun x => if T x = true then bnd (g true ρ) fun y => (op x y).map .val else none
theorem se_cnt (ha : SE G N sc fn k a f) (hb : SE G N sc fn k b g) (hbase : ∀ env : PySem.Env, attributeBase a "count" env (eval a env) = eval a env := by intro _; rfl) (hline : (apos.endLine == cpos.line) = true := by rfl) (ns : NS b := by intro _ _; rfl) : SE G N sc fn k (.Call (.Attribute a "count" apos) [b] [] cpos) (eMeth isL dCnt f g) := fun X C W tk b' =>
  PE.imp (pe_bm PySem.F.plainAttrs_list PySem.F.slot_list_count PySem.F.type_list_count mt_lcount (ha X C W tk true) (pa_cons (hb X C W tk true) pa_nil (ns _ X.env)) (hbase X.env) (by
    rw [ns [] X.env]; rfl) hline (ns _ X.env) rfl) fun σ H Q h => by
    obtain ⟨ρ, ow, rs, he, gd, post⟩ := h
    refine tE.go gd he (fun n pl e => by subst e; exact post) fun d hd1 v H1 s1 r1 => ?_
    cases d with
    | list xs =>
      rw [if_pos (show isL (.list xs) = true from rfl)] at hd1
      obtain ⟨l, vs, rfl, h1, rv⟩ := r1.list
      refine ⟨.inl ⟨rfl, vs, SqL.of h1⟩, ?_⟩
      refine tE.go (gd.same s1) hd1 (fun n pl e => by subst e; exact post.same s1) fun d2 hd2 v2 H2 s2 r2 => ?_
      unfold dCnt at hd2
      split at hd2
      · rename_i e1
        split at hd2
        · rename_i ns hns
          cases e1
          cases hd2
          obtain rfl := r2.int
          rw [unI_eq hns] at rv
          have e2 := rv.ints
          subst e2
          exact ⟨l, ns, _, rfl, rfl, SqL.of (s2 _ _ h1), post _ H2 (s1.trans s2) (.inl (.int _))⟩
        · cases hd2
      · cases hd2
    | _ => cases hd1
end
end PT

namespace PT
open PySem PySem.Spec PyProof.Rows L2
/-! ## loops that end at the first find; loops that keep the first find -/
theorem forL_first {sl : List Nat} {tg : GF} {body : SF} (P : En → Prop) (q : Dt → Option Dt) : ∀ (xs : List Dt) (ρ : En), P ρ →
    (∀ x ∈ xs, ∀ ρ, P ρ → (q x = none ∧ ∃ ρ2, turn sl tg body x ρ = some (.nx ρ2) ∧ P ρ2) ∨ ∃ d, q x = some d ∧ turn sl tg body x ρ = some (.rt d)) →
    (xs.findSome? q = none ∧ ∃ ρ', forL sl tg body xs ρ = some (.nx ρ') ∧ P ρ') ∨ ∃ d, xs.findSome? q = some d ∧ forL sl tg body xs ρ = some (.rt d)
  | [], ρ, h0, _ => .inl ⟨rfl, ρ, rfl, h0⟩
  | x :: xs, ρ, h0, hs => by
    rcases hs x List.mem_cons_self ρ h0 with ⟨e, ρ2, h1, h2⟩ | ⟨d, e, h1⟩
    · rcases forL_first P q xs ρ2 h2 fun y hy => hs y (List.mem_cons_of_mem _ hy) with ⟨e2, ρ', h3, h4⟩ | ⟨d, e2, h3⟩
      · exact .inl ⟨by rw [List.findSome?_cons, e]; exact e2, ρ', by rw [forL_cons h1]; exact h3, h4⟩
      · exact .inr ⟨d, by rw [List.findSome?_cons, e]; exact e2, by rw [forL_cons h1]; exact h3⟩
    · exact .inr ⟨d, by rw [List.findSome?_cons, e], forL_stop h1⟩
theorem forL_or {sl : List Nat} {tg : GF} {body : SF} (P : Option Dt → En → Prop) (q : Dt → Option Dt) : ∀ (xs : List Dt) (acc : Option Dt) (ρ : En), P acc ρ →
    (∀ x ∈ xs, ∀ acc ρ, P acc ρ → ∃ ρ2, turn sl tg body x ρ = some (.nx ρ2) ∧ P (acc.or (q x)) ρ2) →
    ∃ ρ', forL sl tg body xs ρ = some (.nx ρ') ∧ P (acc.or (xs.findSome? q)) ρ'
  | [], acc, ρ, h0, _ => ⟨ρ, rfl, by rw [List.findSome?_nil, Option.or_none]; exact h0⟩
  | x :: xs, acc, ρ, h0, hs => by
    obtain ⟨ρ2, h1, h2⟩ := hs x List.mem_cons_self acc ρ h0
    obtain ⟨ρ', h3, h4⟩ := forL_or P q xs (acc.or (q x)) ρ2 h2 fun y hy => hs y (List.mem_cons_of_mem _ hy)
    refine ⟨ρ', by rw [forL_cons h1]; exact h3, ?_⟩
    have e : acc.or ((x :: xs).findSome? q) = (acc.or (q x)).or (xs.findSome? q) := by
      rw [List.findSome?_cons, Option.or_assoc]
      cases q x <;> rfl
    rw [e]
    exact h4
theorem findSome_flat {α β γ : Type} (f : α → List β) (g : β → Option γ) : ∀ xs : List α, (xs.flatMap f).findSome? g = xs.findSome? fun x => (f x).findSome? g
  | [] => rfl
  | x :: xs => by
    rw [List.flatMap_cons, List.findSome?_append, List.findSome?_cons, findSome_flat f g xs]
    cases (f x).findSome? g <;> rfl
theorem findSome_filter {β γ : Type} (p : β → Bool) (g : β → Option γ) : ∀ xs : List β, (xs.filter p).findSome? g = xs.findSome? fun x => if p x = true then g x else none
  | [] => rfl
  | x :: xs => by
    rw [List.filter_cons, List.findSome?_cons, ← findSome_filter p g xs]
    cases p x with
    | true => simp only [if_true, List.findSome?_cons]
    | false => simp
end PT

namespace PT
open PySem PySem.Spec PyProof.Rows L2
section
variable {G : Gc} {N : List Str} {sc : Scope} {fn : Str → Bool} {k : Nat} {pos p p2 q1 q2 : Pos} {a b c : Expr} {f g h : EF}
/-! ## a, b = [..], None -/
theorem ss_parO (i j : Nat) {x y : Str} {px py : Pos} {kt k2 j1 : Nat} {pt pt2 : Pos} (ha : SL G N sc fn k a f) (hi : N[i]? = some x := by rfl) (hj : N[j]? = some y := by rfl) (hij : i ≠ j := by decide)
    (hk : sc.kind = .function := by rfl) (hx : sc.names.lookup x = some .local := by rfl) (hy : sc.names.lookup y = some .local := by rfl) (hl : (px.line == py.line) = true := by rfl) (hxy : (x == y) = false := by decide)
    (hst : ([a, .Constant .none j1 q1].any fun | .Starred .. => true | _ => false) = false := by rfl) (hc : [a, .Constant .none j1 q1].all (constantsAlone 8) = false := by rfl) (hf : [a, .Constant .none j1 q1].all (foldedForSure 8) = false := by rfl)
    (hs : ∀ (l : Nat) (env : PySem.Env), swapsWithSole [.Tuple [.Name x px, .Name y py] kt pt] (.Tuple [a, .Constant .none j1 q1] k2 pt2) l env = pure false := by intro _ _; rfl) (ns : NS a := by intro _ _; rfl) :
    SS G N sc fn k (.Assign [.Tuple [.Name x px, .Name y py] kt pt] (.Tuple [a, .Constant .none j1 q1] k2 pt2) pos) (sParO i j f (eC .none)) := fun X C T W tk hp =>
  PS.imp (ps_par C.calm (by rw [C.hN]; exact C.nd) (by rw [C.hN]; exact hi) (by rw [C.hN]; exact hj) hij (by rw [C.hsc]; exact hx) (by rw [C.hsc]; exact hy) (pa_cons (ha X C W tk) (pa_cons pe_non pa_nil rfl) (ns _ X.env))
    (sw_par (by rw [C.hsc]; exact hk) (by rw [C.hsc]; exact hx) (by rw [C.hsc]; exact hy) hl hxy hst hc hf) (hs _ X.env)) fun D σ H h => by
    obtain ⟨ρ, ow, o, he, gd, post⟩ := h
    unfold sParO at he
    cases h1 : f true ρ with
    | none => rw [h1] at he; cases he
    | some r1 =>
      rw [h1] at he
      cases r1 with
      | exc n pl => cases he; exact ⟨ρ, ow, _, h1, gd, post.exp⟩
      | val d =>
        simp only [bndS, eC] at he
        split at he
        · rename_i ds
          split at he
          · rename_i hi
            cases he
            refine ⟨ρ, ow, _, h1, gd, ds, rfl, fun q vs H1 s1 hq r1 => ?_⟩
            refine ⟨.ref q, .non, rfl, ?_⟩
            have g1 := (gd.same s1).setO hi hq r1
            have g2 := g1.setA (i := j) (v := .non) (d := .none) .non
            exact post _ _ _ (((Same.stp s1).trans (Ow.put_stp hq)).trans (Ow.clr_stp (ow.put i q) [j] _)) g2
          · cases he
        · cases he
end
section
variable {ρ : En} {f g : EF}
theorem w_parO (i j : Nat) : sParO i j f g ρ = bndS (f true ρ) fun x => bndS (g false ρ) fun y => match x with
  | .list ds => if i < ρ.length then some (.nx ((ρ.set i (some (.own ds))).set j (some (.sh y)))) else none
  | _ => none := Eq.trans rfl rfl
theorem w_meth (T : Dt → Bool) (op : Dt → Dt → Option Dt) (b : Bool) : eMeth T op f g b ρ = bnd (f true ρ) fun x => if T x = true then bnd (g true ρ) fun y => (op x y).map .val else none := Eq.trans rfl rfl
theorem w_isL (xs : List Dt) : isL (.list xs) = true := Eq.trans rfl rfl
theorem w_cnt (ns : List Int) (x : Int) : dCnt (.list (ns.map .int)) (.int x) = some (.int (ns.count x : Nat)) := by
  show (match unI (ns.map PyData.int) with | some ns => some (PyData.int (ns.count x : Nat)) | none => none) = _
  rw [unI_map]
end
end PT

namespace PT
open PySem PySem.Spec PyProof.Rows L2
/-! ## sorted(set(xs)), xs a list of whole numbers -/
abbrev ob0 (w : World) : Obj := { cls := .type "set", dict := none, data := .set #[] 0 (.fresh 0 0 (!w.params.followText "set-order")) }
theorem set_of_list {P : Program} {w : World} {A : Around} {E : Value → Shared → Prop} {s : Shared} {l : Addr} {its : Array Value} (ns : List Int) {Q : Value → Shared → Prop} (hd0 : A.handled = none) (hl : s.heap.IsList l its) (hit : IntsAre its.toList ns) (hb : ns.length + 1 < scanBound)
    (h : ∀ (h' : Heap) (tk c : Nat), SetR w h' s.heap.objs.size (fun j => decide (j ∈ ns)) c → c ≤ ns.length → (∀ b o, s.heap.get? b = some o → h'.get? b = some o) → Q (.ref s.heap.objs.size) { s with heap := h', toks := tk }) :
    wpAny (model P w) A (call (.type "set") [.ref l]) Q E s := by
  have zz : its.size = ns.length := by have q := IntsAre.length hit; rw [Array.length_toList] at q; exact q
  obtain ⟨c, tl, f0⟩ := F.called_set.mro
  have f1 := F.called_set.made
  have f2 := F.called_set.sub
  refine wpAny_call (codeAny_of_tree (?_ : wpAny _ _ (callAny (.type "set") _) _ _ _))
  refine wpAny_pure ⟨Code.quiet_builtin _ (by decide +kernel), codeAny_builtin F.entry_type_call ?_⟩
  rw [Around.under_plain (weight_type_call_type "set" [.ref l] []) rfl]
  have f3 := F.called_set.notType
  have f4 := F.called_set.canCreate
  have f5 := F.typeCall_set_1 (.ref l)
  repeat (any_goals (first | assumption | wp_step))
  refine codeAny_mono (code_set_led1 (.ref l) (E := E) (Q₁ := fun ob t => ob = .ref s.heap.objs.size ∧ t = { s with heap := s.heap.push (ob0 w) }) ⟨rfl, rfl⟩) fun r t hr => ?_
  cases r with
  | error e => exact hr
  | ok fl =>
    cases fl with
    | ret ob =>
      obtain ⟨rfl, rfl⟩ := hr
      have g0 : (s.heap.push (ob0 w)).get? s.heap.objs.size = some (ob0 w) := Heap.get?_push_size _ rfl
      have g1 : Shared.TypeIs { s with heap := s.heap.push (ob0 w) } (.ref s.heap.objs.size) "set" := ⟨_, g0, rfl⟩
      have g2 := F.called_set.init.lookup
      have g3 := F.called_set.init.bind (.ref s.heap.objs.size)
      repeat (any_goals (first | assumption | wp_step))
      refine codeAny_mono (codeAny_call_builtin (R := wants (fun r t => r = .none ∧ ∃ h' tk c, t = { s with heap := h', toks := tk } ∧ SetR w h' s.heap.objs.size (fun j => decide (j ∈ ns)) c ∧ c ≤ ns.length ∧ (∀ b o, s.heap.get? b = some o → h'.get? b = some o)) E) F.called_set.init.plain F.entry_set_init (check_set_init_1 g1 ?_)) fun r2 t2 hr2 => ?_
      · obtain ⟨⟨ocl, odi, oda, osl⟩, o0, o1, nl, o2⟩ := hl
        simp only at o1 o2
        subst o1; subst o2
        have o3 : (s.heap.push (ob0 w)).get? l = some { cls := .type "list", dict := odi, data := .seq its nl, slots := osl } := Heap.get?_push_of_some _ o0
        have k1 := F.sub_list_set
        have k2 := F.sub_list_frozenset
        have k3 : (Value.type "list" == Value.type "dict") = false := by decide
        have k4 : (s.heap.push (ob0 w)).IsList l its := ⟨_, o3, rfl, nl, rfl⟩
        unfold Builtin.«set.__init__» noKeywords Builtin.Frozenset.updateFrom
        generalize hPI : pyIter = PI
        wp_walk
        subst hPI
        refine wpAny_pyIter_list k4 (wpAny_bind (wpAny_runValue ?_))
        have k5 : l < s.heap.objs.size := Heap.lt_size o0
        have k6 : A.in1.in1.in1.handled = none := by simp [hd0]
        have k7 : l ≠ (s.heap.push (ob0 w)).objs.size := by rw [Heap.size_push]; exact Nat.ne_of_lt (Nat.lt_succ_of_lt k5)
        have k8 : s.heap.objs.size ∉ [(s.heap.push (ob0 w)).objs.size, l] := by
          rw [Heap.size_push]
          simp only [List.mem_cons, List.not_mem_nil, or_false, not_or]
          exact ⟨Nat.ne_of_lt (Nat.lt_succ_self _), Nat.ne_of_gt k5⟩
        have k9 : ∀ (i : Nat) (v : Value), its[i]? = some v → ∃ k t, ns[i]? = some k ∧ v = .int k t := fun i v hv => by
          have hi : i < ns.length := by rw [← zz]; exact (Array.getElem?_eq_some_iff.mp hv).1
          obtain ⟨t, e⟩ := PyProof.Rows.IntsAre.int_at hit i v (by rw [Array.getElem?_toList]; exact hv)
          exact ⟨ns[i], t, List.getElem?_eq_getElem hi, by rw [e, List.getD_eq_getElem?_getD, List.getElem?_eq_getElem hi]; rfl⟩
        refine set_update_ints ((Walks.list k6 _ l k7 its).toS) s.heap.objs.size k8 ns zz hb k9 (its.size - 0) 0 _ (by omega) (Nat.zero_le _) ⟨⟨_, Heap.get?_push_size _ rfl, rfl, rfl⟩, (k4.push _)⟩ ?hS0 ?hR
        case hS0 =>
          exact ⟨0, Nat.le_refl 0, setR_new_at (Heap.get?_push_of_some _ g0)⟩
        case hR =>
          intro t' c' hm hc' hS'
          obtain ⟨h', g', d', tk', os'⟩ := t'
          obtain rfl : g' = s.gens := hm.gens
          obtain rfl : d' = s.drawn := hm.drawn
          obtain rfl : os' = s.os := hm.os
          refine (wpAny_pure ?_ : wpAny _ _ _ _ _ _)
          show wpAny _ _ (ret Value.none) _ _ _
          rw [zz] at hc'
          refine wpAny_pure ⟨rfl, h', tk', c', rfl, hS', hc', fun b o e => ?_⟩
          have b0 : b < s.heap.objs.size := Heap.lt_size e
          have b1 : b ≠ (s.heap.push (ob0 w)).objs.size := by rw [Heap.size_push]; exact Nat.ne_of_lt (Nat.lt_succ_of_lt b0)
          refine hm.heap b o ?_ (Heap.get?_push_of_some _ (Heap.get?_push_of_some _ e))
          simp only [List.mem_cons, List.not_mem_nil, or_false, not_or]
          exact ⟨Nat.ne_of_lt b0, b1⟩
      · cases r2 with
        | error e => exact hr2
        | ok fl2 =>
          cases fl2 with
          | ret r =>
            obtain ⟨rfl, h', tk, c', rfl, hS', hc', hk'⟩ := hr2
            repeat (any_goals (first | assumption | wp_step))
            exact h _ _ _ hS' hc' hk'
          | _ => exact hr2.elim
    | _ => exact hr.elim
def rSetLs (K : PySem.W.Frag) (w : World) : List V → Hp → VK → Prop := fun vs H Q => ∃ (p : Addr) (ns : List Int), vs = [.ref p] ∧ SqL K H p (ns.map V.int) ∧ ns.length ≤ 1000 ∧ ∀ l, H l = none → Q (.ref l) (upd H l (SetO w l (fun j => decide (j ∈ ns)) (ddup ns).length))
theorem cr_setLs {X : Cx} (hc : X.calm = true) : CallR X (.type "set") (rSetLs X.K X.w) := by
  intro pins s σ H vs us Q I r h
  obtain ⟨p, ns, rfl, hq, hl, q⟩ := h
  obtain ⟨its, rv, pt, hz⟩ := I.list hq
  rw [Vals.ref1 r]
  refine set_of_list ns (I.ok.hd hc) pt.isList (by simpa using rv.ints) (by unfold scanBound; omega) fun h' tk c R hcn kk => ?_
  have e := setR_len R
  subst e
  exact ⟨.ref _, _, I.laid (t' := tk) kk (Nat.le_refl _) (setO_new R), rfl, q _ (I.hok.fresh (Nat.le_refl _))⟩
def dSortSetL : Dt → Option Dt
  | .list ds => match unI ds with
    | some ns => if ns.length ≤ 1000 ∧ (ddup ns).length < 64 then some (.list (sset ns)) else none
    | none => none
  | _ => none
section
variable {G : Gc} {N : List Str} {sc : Scope} {fn : Str → Bool} {k : Nat} {pos p p2 q1 q2 : Pos} {a b c : Expr} {f g h : EF}
theorem se_sortSetL (B : Bi G) (ha : SE G N sc fn k a f) (hg : GL sc "sorted" := by rfl) (hg2 : GL sc "set" := by rfl) (ns : NS a := by intro _ _; rfl) : SE G N sc fn k (.Call (.Name "sorted" p) [.Call (.Name "set" p2) [a] [] q1] [] pos) (eUn dSortSetL f) := fun X C W tk b' =>
  PE.imp (pe_callB (cr_sortedSet C.calm) (C.gl hg) (by rw [C.hmg]; exact B.sorted) PyProof.Rows.boot_sorted (pa_cons (pe_callTy (cr_setLs C.calm) (C.gl hg2) (by rw [C.hmg]; exact B.set) PyProof.Rows.boot_set (pa_cons (ha X C W tk true) pa_nil (ns [] X.env)) (by decide) (by decide) (ns [] X.env) rfl) pa_nil rfl) (by decide) (by decide) rfl rfl) fun σ H Q h => by
    obtain ⟨ρ, ow, rs, he, gd, post⟩ := h
    refine tE.go gd he (fun n pl e => by subst e; exact post) fun d hd1 v H1 s1 r1 => ?_
    cases d with
    | list ds =>
      simp only [dSortSetL] at hd1
      split at hd1
      · rename_i ns hns
        split at hd1
        · rename_i hl
          cases hd1
          obtain ⟨t, vs, rfl, hT, rr⟩ := r1.list
          obtain rfl := unI_eq hns
          obtain rfl := RpAll.ints rr
          refine ⟨t, ns, rfl, SqL.of hT, hl.1, fun l hl0 => ⟨l, _, _, rfl, upd_same, hl.2, fun ms p' h1 h2 _ hp' => ?_⟩⟩
          have e := sset_eq ns ms h1 fun k => by rw [h2 k, decide_eq_true_eq]
          have s3 := (s1.trans (Same.upd hl0)).trans (Same.upd (o := .lst (ms.map V.int)) hp')
          refine post _ _ s3 (.inl ?_)
          rw [e]
          exact .lst upd_same ((gd.ok.same (s1.trans (Same.upd hl0))).new hp') (rp_ints ms)
        · cases hd1
      · cases hd1
    | _ => cases hd1
end
theorem w_ssetL {hs : List Int} (h : hs.length ≤ 1000) (h2 : (ddup hs).length < 64) : dSortSetL (.list (hs.map .int)) = some (.list (sset hs)) := by
  show (match unI (hs.map PyData.int) with | some ns => if ns.length ≤ 1000 ∧ (ddup ns).length < 64 then some (PyData.list (sset ns)) else none | none => none) = _
  rw [unI_map]
  show (if hs.length ≤ 1000 ∧ (ddup hs).length < 64 then some (PyData.list (sset hs)) else none) = _
  rw [if_pos ⟨h, h2⟩]
theorem ddup_small {l : List Int} {m : Nat} (h : ∀ x ∈ l, 0 ≤ x ∧ x < (m : Int)) : (ddup l).length ≤ m := by
  have := nodup_len (ddup_nodup l) (b := (List.range m).map fun i => ((i : Nat) : Int)) fun k hk => by
    have hb := h k (ddup_mem.mp hk)
    exact List.mem_map.mpr ⟨k.toNat, List.mem_range.mpr (by omega), by omega⟩
  simpa using this
end PT

namespace PT
open PySem PySem.Spec PyProof.Rows L2
/-! ## max(xs, default=d) -/
theorem args_maxd (a d : Value) : argsOk "max" ⟨[a], [("default", d)]⟩ := by unfold argsOk; kernel_rfl
section
variable {P : Program} {w : World} {A : Around} {R : Result → Shared → Prop} {I : Addr} {fp wr : List Addr} {n : Nat} {Pv : Nat → Value → Prop} {St : Nat → Heap → Prop}
abbrev lstO (vs : Array Value) (c : Nat) : Obj := { cls := .type "list", dict := none, data := .seq vs c, slots := #[] }
abbrev mxN : String := "max.loop"
theorem mx_name : (toString "max" ++ toString ".loop" : String) = mxN := by decide
theorem mx_loop (W : Walks P w A.in1 I fp wr n Pv St) (bt : Nat → Nat → Bool) (hc : CmpOf P w A.in1 .Gt Pv bt) (S : Addr) (hS0 : S ∉ fp) (d : Value) :
    ∀ (k j : Nat) (s : Shared) (vb : Value) (c : Nat), n - (j + 1) = k → j + 1 ≤ n → St (j + 1) s.heap → Pv (argBest bt j) vb → s.heap.get? S = some (lstO #[vb, vb] c) →
    (∀ v h' tk, Pv (argBest bt (n - 1)) v → (∀ b o, b ∉ wr → b ≠ S → s.heap.get? b = some o → h'.get? b = some o) → R (.ok (.ret v)) { s with heap := h', toks := tk }) →
    codeAny (model P w) A (.builtin mxN ⟨[.ref I, .none, .ref S], [("default", d)]⟩) R s := by
  have sw : S ∉ wr := fun h => hS0 (W.sub _ h)
  intro k
  induction k with
  | zero =>
    intro j s vb c hk hj hst pb gS hR
    have e0 : j + 1 = n := by omega
    refine codeAny_builtin F.entry_max_loop ?_
    rw [Around.under_plainId F.plain_max_loop _]
    refine (wpAny_bind (wpAny_seqItems gS rfl ?_) : wpAny _ A.in1 (seqItems? (.ref S) >>= _) _ _ s)
    refine (wpAny_bind (wpAny_tryCatch (W.done s _ _ (e0 ▸ hst) fun h' tk kk => ?_)) : wpAny _ A.in1 (tryCatch (pyNext (.ref I)) _ >>= _) _ _ s)
    have gS' := kk S _ sw gS
    refine (wpAny_bind ?_ : wpAny _ A.in1 (updateSeq S (fun _ => #[]) >>= _) _ _ _)
    refine wpAny_updateSeq gS' rfl (wpAny_bind (wpAny_letGo (wpAny_pure ?_)))
    exact hR vb _ tk (by rw [← e0]; exact pb) fun b o hb hbS e => (Heap.get?_update_other _ _ (Ne.symm hbS)).trans (kk b o hb e)
  | succ k ih =>
    intro j s vb c hk hj hst pb gS hR
    have e0 : j + 1 < n := by omega
    refine codeAny_builtin F.entry_max_loop ?_
    rw [Around.under_plainId F.plain_max_loop _]
    refine (wpAny_bind (wpAny_seqItems gS rfl ?_) : wpAny _ A.in1 (seqItems? (.ref S) >>= _) _ _ s)
    refine (wpAny_bind (wpAny_tryCatch (W.item (j + 1) s _ _ e0 hst fun v h' tk pv st' kk => ?_)) : wpAny _ A.in1 (tryCatch (pyNext (.ref I)) _ >>= _) _ _ s)
    have gS' := kk S _ sw gS
    refine (wpAny_bind (wpAny_tryCatch (wpAny_holding (wpAny_bind (hc (j + 1) (argBest bt j) v vb _ _ _ pv pb ?_)))) : wpAny _ A.in1 (tryCatch (holding [v, v] (richCompare .Gt v vb >>= _)) _ >>= _) _ _ _)
    refine wpAny_bind (wpAny_holding (wpAny_truthy_bool (wpAny_bind (wpAny_letGo (wpAny_pure ?_)))))
    cases hb : bt (j + 1) (argBest bt j) with
    | true =>
      simp only [if_true]
      refine wpAny_bind (wpAny_updateSeq gS' rfl (wpAny_bind (wpAny_letGo ?_)))
      rw [mx_name]
      refine wpAny_pure ⟨plainId_quiet F.plain_max_loop _, ih (j + 1) _ v _ (by omega) e0 (W.frame _ _ _ st' fun b hbf o e => ?_) (by simp only [argBest, hb, if_true]; exact pv) (Heap.get?_update_self _ gS' rfl) fun v' h2 t2 p2 k2 => ?_⟩
      · exact (Heap.get?_update_other _ _ (fun h : S = b => hS0 (h ▸ hbf))).trans e
      · exact hR v' h2 t2 p2 fun b o hbw hbS e => k2 b o hbw hbS ((Heap.get?_update_other _ _ (Ne.symm hbS)).trans (kk b o hbw e))
    | false =>
      simp only [Bool.false_eq_true, if_false]
      refine wpAny_bind (wpAny_letGo ?_)
      rw [mx_name]
      refine wpAny_pure ⟨plainId_quiet F.plain_max_loop _, ih (j + 1) _ vb c (by omega) e0 st' (by simp only [argBest, hb, Bool.false_eq_true, if_false]; exact pb) gS' fun v' h2 t2 p2 k2 => ?_⟩
      exact hR v' h2 t2 p2 fun b o hbw hbS e => k2 b o hbw hbS (kk b o hbw e)
theorem mx_first (W : Walks P w A.in1 I fp wr n Pv St) (bt : Nat → Nat → Bool) (hc : CmpOf P w A.in1 .Gt Pv bt) (S : Addr) (hS0 : S ∉ fp) (d : Value) {s : Shared} {c : Nat} (hst : St 0 s.heap) (gS : s.heap.get? S = some (lstO #[] c))
    (hR : 0 < n → ∀ v h' tk, Pv (argBest bt (n - 1)) v → (∀ b o, b ∉ wr → b ≠ S → s.heap.get? b = some o → h'.get? b = some o) → R (.ok (.ret v)) { s with heap := h', toks := tk })
    (hD : n = 0 → ∀ h' tk, (∀ b o, b ∉ wr → s.heap.get? b = some o → h'.get? b = some o) → R (.ok (.ret d)) { s with heap := h', toks := tk }) :
    codeAny (model P w) A (.builtin mxN ⟨[.ref I, .none, .ref S], [("default", d)]⟩) R s := by
  have sw : S ∉ wr := fun h => hS0 (W.sub _ h)
  refine codeAny_builtin F.entry_max_loop ?_
  rw [Around.under_plainId F.plain_max_loop _]
  refine (wpAny_bind (wpAny_seqItems gS rfl ?_) : wpAny _ A.in1 (seqItems? (.ref S) >>= _) _ _ s)
  by_cases hn : 0 < n
  · refine (wpAny_bind (wpAny_tryCatch (W.item 0 s _ _ hn hst fun v h' tk pv st' kk => ?_)) : wpAny _ A.in1 (tryCatch (pyNext (.ref I)) _ >>= _) _ _ s)
    have gS' := kk S _ sw gS
    refine (wpAny_bind ?_ : wpAny _ A.in1 (updateSeq S (fun _ => #[v, v]) >>= _) _ _ _)
    refine wpAny_updateSeq gS' rfl ?_
    rw [mx_name]
    refine wpAny_pure ⟨plainId_quiet F.plain_max_loop _, mx_loop W bt hc S hS0 d _ 0 _ v _ rfl hn (W.frame _ _ _ st' fun b hbf o e => ?_) pv (Heap.get?_update_self _ gS' rfl) fun v' h2 t2 p2 k2 => ?_⟩
    · exact (Heap.get?_update_other _ _ (fun h : S = b => hS0 (h ▸ hbf))).trans e
    · exact hR hn v' h2 t2 p2 fun b o hbw hbS e => k2 b o hbw hbS ((Heap.get?_update_other _ _ (Ne.symm hbS)).trans (kk b o hbw e))
  · have e0 : n = 0 := by omega
    refine (wpAny_bind (wpAny_tryCatch (W.done s _ _ (by rw [e0]; exact hst) fun h' tk kk => ?_)) : wpAny _ A.in1 (tryCatch (pyNext (.ref I)) _ >>= _) _ _ s)
    exact wpAny_bind (wpAny_rule (wpAny_pure (hD e0 h' tk kk)))
end
section
variable {P : Program} {w : World} {A : Around} {E : Value → Shared → Prop} {s : Shared}
theorem mxd_raw {l : Addr} {its : List Value} {ns : List Int} {d : Value} {Q : Value → Shared → Prop} (hh : A.handled = none) (hl : s.heap.IsList l its.toArray) (hi : IntsAre its ns)
    (h : 0 < ns.length → ∀ h' tk M t', (∀ b o, s.heap.get? b = some o → h'.get? b = some o) → M ∈ ns → (∀ a, a ∈ ns → a ≤ M) → Q (.int M t') { s with heap := h', toks := tk })
    (h0 : ns.length = 0 → ∀ h' tk, (∀ b o, s.heap.get? b = some o → h'.get? b = some o) → Q d { s with heap := h', toks := tk }) :
    wpAny (model P w) A (call (.builtin "max") [.ref l] [("default", d)]) Q E s := by
  obtain ⟨xs, e⟩ := hi.allInts.items
  have hn : numsOf (intItems xs).toList = ns := by rw [← e]; exact hi.numsOf
  rw [nums_intItems] at hn
  subst hn
  rw [e] at hl
  have zl : (xs.toList.map (·.1)).length = xs.size := by rw [List.length_map, Array.length_toList]
  refine wpAny_call (codeAny_call_builtin F.plain_max F.entry_max ?_)
  simp only [checkBuiltinCall, F.kind_max]
  have hbody : wpAny (model P w) A.in1 (Builtin.«max» ⟨[.ref l], [("default", d)]⟩) (fun fin s' => match fin with
      | .done f => (match (Except.ok f : Result) with | .ok (.ret v) => Q v s' | .ok _ => False | .error e => E e s')
      | .again c' => c'.quiet = true ∧ codeAny (model P w) A c' (fun r s' => match r with | .ok (.ret v) => Q v s' | .ok _ => False | .error e => E e s') s') E s := by
    refine (wpAny_bind (wpAny_of_eq (show Builtin.Builtins.bindParams "max" ["key", "default"] 0 ⟨[], [("default", d)]⟩ = pure [none, some d] from rfl) ?_) : wpAny _ A.in1 (Builtin.Builtins.bindParams "max" ["key", "default"] 0 ⟨[], [("default", d)]⟩ >>= _) _ _ s)
    refine wpAny_bind (wpAny_pure ?_)
    refine wpAny_bind (iter_intList hl fun s2 e2 st hfp hlI => ?_)
    subst e2
    refine wpAny_bind (wpAny_newObj_type ?_)
    rw [mx_name]
    have W := Walks.list (prog := P) (w := w) (A := A.in1) hh _ l hlI (intItems xs)
    refine wpAny_pure ⟨plainId_quiet F.plain_max_loop _, mx_first W _ (CmpOf.ints_gt (numAt xs) fun _ _ => intItems_at) _ (fun hm => Nat.lt_irrefl _ (hfp _ hm)) d (W.frame _ _ _ st fun b _ o e => Heap.get?_push_of_some _ e) (Heap.get?_push_size _ rfl) (fun hn v h' tk pv kk => ?_) (fun hn h' tk kk => ?_)⟩
    · have hsz : 0 < xs.size := by simpa [intItems] using hn
      have pv' : (intItems xs)[argBest (fun i j => decide (numAt xs i > numAt xs j)) (xs.size - 1)]? = some v := by simpa [intItems] using pv
      obtain ⟨t, rfl⟩ := intItems_at pv'
      obtain ⟨g1, g2⟩ := argBest_gt (numAt xs) (xs.size - 1)
      refine h (by rw [zl]; exact hsz) h' tk _ t (old_kept fun b o hb e => kk b o hb (Nat.ne_of_lt (Heap.lt_size e)) (Heap.get?_push_of_some _ e)) ?_ fun a ha => ?_
      · rw [numAt_eq]
        exact PySem.getD_mem (by rw [zl]; omega)
      · obtain ⟨j, hj, rfl⟩ := mem_getD ha
        rw [zl] at hj
        rw [← numAt_eq]
        exact g2 j (by omega)
    · have hsz : xs.size = 0 := by simpa [intItems] using hn
      exact h0 (by rw [zl]; exact hsz) h' tk (old_kept fun b o hb e => kk b o hb (Heap.get?_push_of_some _ e))
  cases hsig : Manifest.signature? "max" with
  | none => exact wpAny_pure hbody
  | some sig =>
    have ha' : Bind.checkArgs "max" sig ⟨[.ref l], [("default", d)]⟩ = pure () := by
      have := args_maxd (.ref l) d
      simpa only [argsOk, hsig] using this
    simp only [ha']
    exact wpAny_pure hbody
end
def rMaxd (K : PySem.W.Frag) : List V → List V → Hp → VK → Prop := fun vs zs H Q => ∃ (a : Addr) (ns : List Int) (d : V), vs = [V.ref a] ∧ zs = [d] ∧ SqL K H a (ns.map V.int) ∧ (0 < ns.length → ∀ m, m ∈ ns → (∀ y, y ∈ ns → y ≤ m) → Q (.int m) H) ∧ (ns.length = 0 → Q d H)
theorem cr_maxd {X : Cx} (hc : X.calm = true) : CallRK X (.builtin "max") ["default"] (rMaxd X.K) := by
  intro pins s σ H vs zs us ws Q I r rz h
  obtain ⟨a, ns, d, rfl, rfl, hs, q1, q2⟩ := h
  obtain ⟨its, rv, hl, _⟩ := I.list hs
  rw [Vals.ref1 r]
  cases rz with
  | cons r1 r2 =>
    cases r2
    exact mxd_raw (I.ok.hd hc) hl.isList rv.ints (fun hn h' tk m t' hk h1 h2 => ⟨.int _, H, I.kept hk, ⟨_, rfl⟩, q1 hn m h1 h2⟩) (fun hn h' tk hk => ⟨_, H, I.kept hk, r1, q2 hn⟩)
def dMaxD : Dt → Dt → Option Dt
  | .list ds, .int d => match unI ds with
    | some ns => some (.int ((mxL ns).getD d))
    | none => none
  | _, _ => none
section
variable {G : Gc} {N : List Str} {sc : Scope} {fn : Str → Bool} {k : Nat} {pos p kpos q1 q2 : Pos} {a b c : Expr} {f g h : EF}
theorem se_maxD (B : Bi G) (ha : SE G N sc fn k a f) (hb : SE G N sc fn k b g) (hg : GL sc "max" := by rfl) (ns : NS a := by intro _ _; rfl) : SE G N sc fn k (.Call (.Name "max" p) [a] [⟨some "default", b, kpos⟩] pos) (eBin dMaxD f g) := fun X C W tk b' =>
  PE.imp (pe_callBK (cr_maxd C.calm) (C.gl hg) (by rw [C.hmg]; exact B.max) boot_max (pa_cons (ha X C W tk true) pa_nil (ns [] X.env)) (pk_cons (hb X C W tk true) pk_nil) (by decide) (by decide) (by rw [ns [] X.env]; rfl) (by rw [ns [] X.env]; rfl)) fun σ H Q h => by
    obtain ⟨ρ, ow, rs, he, gd, post⟩ := h
    refine tE.go gd he (fun n pl e => by subst e; exact post) fun d hd1 v H1 s1 r1 => ?_
    refine tE.go (gd.same s1) hd1 (fun n pl e => by subst e; exact post.same s1) fun d2 hd2 v2 H2 s2 r2 => ?_
    unfold dMaxD at hd2
    split at hd2
    · split at hd2
      · rename_i ds dd _ ns hns
        cases hd2
        obtain ⟨l, vs, rfl, h1, rv⟩ := r1.list
        obtain rfl := r2.int
        obtain rfl := unI_eq hns
        obtain rfl := RpAll.ints rv
        refine ⟨l, ns, .int dd, rfl, rfl, SqL.of (s2 _ _ h1), fun hn m hm hy => ?_, fun hn => ?_⟩
        · cases e : mxL ns with
          | none =>
            cases ns with
            | nil => simp at hn
            | cons x l => unfold mxL at e; cases q : mxL l <;> rw [q] at e <;> cases e
          | some M =>
            rw [e] at post
            have hM := mxL_ok e
            have : m = M := by
              have a1 := hM.2 m hm
              have a2 := hy M hM.1
              omega
            rw [this]
            exact post _ H2 (s1.trans s2) (.inl (.int _))
        · have : ns = [] := List.eq_nil_of_length_eq_zero hn
          subst this
          exact post _ H2 (s1.trans s2) (.inl (.int _))
      · cases hd2
    · cases hd2
end
theorem w_maxD (ns : List Int) (d : Int) : dMaxD (.list (ns.map .int)) (.int d) = some (.int ((mxL ns).getD d)) := by
  show (match unI (ns.map PyData.int) with | some ns => some (PyData.int ((mxL ns).getD d)) | none => none) = _
  rw [unI_map]
end PT

namespace PT
open PySem PySem.Spec PyProof.Rows L2
/-! ## sep.join(texts), f-strings of a text and an int -/
def unS : List Dt → Option (List Str)
  | [] => some []
  | .str s :: r => (unS r).map (s :: ·)
  | _ :: _ => none
theorem unS_eq : ∀ {xs : List Dt} {ys : List Str}, unS xs = some ys → xs = ys.map PyData.str
  | [], ys, h => by cases h; rfl
  | .str s :: r, ys, h => by
    unfold unS at h
    cases hr : unS r with
    | none => rw [hr] at h; cases h
    | some zs =>
      rw [hr] at h
      cases h
      rw [unS_eq hr]
      rfl
  | .int _ :: _, _, h => by cases h
  | .bool _ :: _, _, h => by cases h
  | .none :: _, _, h => by cases h
  | .list _ :: _, _, h => by cases h
  | .tuple _ :: _, _, h => by cases h
theorem RpAll.strs {K : PySem.W.Frag} {O : Addr → Prop} {H : Hp} : ∀ {vs : List V} {ys : List Str}, RpAll K O H vs (ys.map PyData.str) → vs = ys.map V.str
  | _, [], h => by cases h; rfl
  | _, _ :: _, h => by
    cases h with
    | cons h1 h2 =>
      cases h1
      rw [RpAll.strs h2]
      rfl
def isStr : Dt → Bool
  | .str _ => true
  | _ => false
def dJoin : Dt → Dt → Option Dt
  | .str a, .list xs => match unS xs with
    | some ys => if (ys.map (·.length)).sum + ys.length * a.length ≤ 16777216 then some (.str (Txt.join a ys)) else none
    | none => none
  | _, _ => none
section
variable {G : Gc} {N : List Str} {sc : Scope} {fn : Str → Bool} {k : Nat} {pos apos cpos p : Pos} {a b c : Expr} {f g h : EF}
theorem se_join (ha : SE G N sc fn k a f) (hb : SE G N sc fn k b g) (hbase : ∀ env : PySem.Env, attributeBase a "join" env (eval a env) = eval a env := by intro _; rfl) (hline : (apos.endLine == cpos.line) = true := by rfl) (ns : NS b := by intro _ _; rfl) : SE G N sc fn k (.Call (.Attribute a "join" apos) [b] [] cpos) (eMeth isStr dJoin f g) := fun X C W tk b' =>
  PE.imp (pe_join (ha X C W tk true) (hb X C W tk true) (ns _ X.env) (hbase X.env) hline) fun σ H Q h => by
    obtain ⟨ρ, ow, rs, he, gd, post⟩ := h
    refine tE.go gd he (fun n pl e => by subst e; exact post) fun d hd1 v H1 s1 r1 => ?_
    cases d with
    | str t =>
      rw [if_pos (show isStr (.str t) = true from rfl)] at hd1
      obtain rfl := r1.str
      refine ⟨⟨t, rfl⟩, ?_⟩
      refine tE.go (gd.same s1) hd1 (fun n pl e => by subst e; exact post.same s1) fun d2 hd2 v2 H2 s2 r2 => ?_
      unfold dJoin at hd2
      split at hd2
      · rename_i e1
        split at hd2
        · rename_i ys hys
          split at hd2
          · rename_i hz
            cases e1
            cases hd2
            obtain ⟨l, vs, rfl, h1, rv⟩ := r2.list
            rw [unS_eq hys] at rv
            have e2 := rv.strs
            subst e2
            exact ⟨t, l, ys, rfl, rfl, .inl (SqL.of h1), hz, post _ H2 (s1.trans s2) (.inl (.str _))⟩
          · cases hd2
        · cases hd2
      · cases hd2
    | _ => cases hd1
/-- f"text{int}" -/
def eFs (t : Str) (f : EF) : EF := fun _ ρ => bnd (f true ρ) fun x => match x with
  | .int i => if i.natAbs.log2 < 1920 ∧ (Str.empty ++ t ++ (toString i : String)).length ≤ 16777216 then some (.val (.str (Str.empty ++ t ++ (toString i : String)))) else none
  | _ => none
theorem se_fs {t : Str} {j : Nat} {p1 p2 : Pos} (ha : SE G N sc fn k a f) (ht : (Str.empty ++ t).length ≤ sizeLine := by decide) : SE G N sc fn k (.JoinedStr [.Constant (.str t) j p1, .FormattedValue a (-1) none p2] pos) (eFs t f) := fun X C W tk b' =>
  PE.imp (pe_joined (.cons pe_str (.cons (pe_fmt (ha X C W tk true)) .nil))) fun σ H Q h => by
    obtain ⟨ρ, ow, rs, he, gd, post⟩ := h
    refine ⟨t, rfl, ht, ?_⟩
    refine tE.go gd he (fun n pl e => by subst e; exact post) fun d hd1 v H1 s1 r1 => ?_
    cases d with
    | int i =>
      simp only at hd1
      split at hd1
      · rename_i hz
        cases hd1
        obtain rfl := r1.int
        exact .inr ⟨i, rfl, hz.1, _, rfl, hz.2, post _ H1 s1 (.inl (.str _))⟩
      · cases hd1
    | _ => cases hd1
end
end PT

namespace PT
open PySem PySem.Spec PyProof.Rows L2
/-! ## methods of a tuple: index, count -/
def tBF (r : V → List V → Hp → VK → Prop) (to : TE) (t : TA) : TE := fun σ H Q => to σ H fun x H1 => (∃ a xs, x = .ref a ∧ FT H1 a xs) ∧ t σ H1 fun vs H2 => r x vs H2 Q
theorem pe_bmF {X : Cx} {id : String} {name : Str} {r : V → List V → Hp → VK → Prop} {o e : Expr} {es : List Expr} {to : TE} {t : TA} {apos cpos : Pos} (slot : Slot "tuple" name id) (hty : typeOf (.builtin id) = pure (.type "method_descriptor")) (hm : MtR X id r) (ho : PE X o to) (ha : PA X (e :: es) t)
    (hbase : attributeBase o name X.env (eval o X.env) = eval o X.env := by rfl)
    (hfew : ((backTo cpos (starEach (e :: es) X.env)).all (fun x => !x.1) && (backToKw cpos (keywordEach [] X.env)).all (fun x => x.1.isSome)
      && decide ((e :: es).length + ([] : List Keyword).length + (if ([] : List Keyword).isEmpty then 0 else 1) < 30)) = true := by rfl)
    (hline : (apos.endLine == cpos.line) = true := by rfl) (hs : starEach (e :: es) X.env = (false, eval e X.env) :: starEach es X.env := by rfl) (hplain : (backTo cpos (starEach es X.env)).any (·.1) = false := by rfl) :
    PE X (.Call (.Attribute o name apos) (e :: es) [] cpos) (tBF r to t) := by
  refine ⟨fun pins s σ H Q I h => ?_⟩
  refine wpAny_Call_method_late hbase hfew hline rfl (thn (ho.run pins s σ H _ I h) fun v s1 ⟨x, H1, I1, r1, ty, q1⟩ => ?_)
  obtain ⟨a, xs, rfl, ob, hob, hdn⟩ := ty
  have r1' := r1
  cases r1
  have hk := I1.hok a _ hob
  obtain ⟨its, _, hT, _⟩ := I1.tuple (FT.sq ⟨ob, hob, hdn⟩ : SqT X.K H1 a xs)
  refine ⟨"tuple", id, PySem.F.plainAttrs_tuple, slot, hty, hT.typeIs, fun b eb => ?_, ?_⟩
  · cases eb
    exact ⟨ob, hk.1, hdn⟩
  have hA := ha.run cpos pins s1 σ H1 _ I1 q1
  rw [hs] at hA ⊢
  refine Calls.callWith_builtin (by show (false || (backTo cpos (starEach es X.env)).any (·.1)) = false; rw [hplain] <;> rfl) (Calls.evalArgs_plain ?_)
  exact thn hA fun us s2 ⟨vs, H2, I2, r2, q2⟩ => hm pins s2 σ H2 _ vs _ us Q I2 r1' r2 q2
def rTix (K : PySem.W.Frag) : V → List V → Hp → VK → Prop := fun x xs H Q => ∃ (p : Addr) (ns : List Int) (k : Int), x = .ref p ∧ xs = [.int k] ∧ SqT K H p (ns.map V.int) ∧ k ∈ ns ∧ Q (.int (ns.idxOf k : Nat)) H
theorem mt_tix {X : Cx} : MtR X "tuple.index" (rTix X.K) := by
  intro pins s σ H x xs v us Q I rx rxs h
  obtain ⟨p, ns, k, rfl, rfl, hs, hk, q⟩ := h
  cases rx
  obtain ⟨u, rfl, ru⟩ := rxs.one
  obtain ⟨t, rfl⟩ := ru
  obtain ⟨its, rv, hT, hlen⟩ := I.tuple hs
  exact SeqAt.tuple_index_ints hT (intsAre_of rv) hk ⟨.int (ns.idxOf k : Nat), H, I.tok _, ⟨s.toks, rfl⟩, q⟩
def isT : Dt → Bool
  | .tuple _ => true
  | _ => false
def dTix : Dt → Dt → Option Dt
  | .tuple xs, .int j => match unI xs with
    | some ns => if j ∈ ns then some (.int (ns.idxOf j : Nat)) else none
    | none => none
  | _, _ => none
section
variable {G : Gc} {N : List Str} {sc : Scope} {fn : Str → Bool} {k : Nat} {pos apos cpos p : Pos} {a b c : Expr} {f g h : EF}
theorem se_tix (ha : SE G N sc fn k a f) (hb : SE G N sc fn k b g) (hbase : ∀ env : PySem.Env, attributeBase a "index" env (eval a env) = eval a env := by intro _; rfl) (hline : (apos.endLine == cpos.line) = true := by rfl) (ns : NS b := by intro _ _; rfl) : SE G N sc fn k (.Call (.Attribute a "index" apos) [b] [] cpos) (eMeth isT dTix f g) := fun X C W tk b' =>
  PE.imp (pe_bmF PySem.F.slot_tuple_index PySem.F.type_tuple_index mt_tix (ha X C W tk true) (pa_cons (hb X C W tk true) pa_nil (ns _ X.env)) (hbase X.env) (by
    rw [ns [] X.env]; rfl) hline (ns _ X.env) rfl) fun σ H Q h => by
    obtain ⟨ρ, ow, rs, he, gd, post⟩ := h
    refine tE.go gd he (fun n pl e => by subst e; exact post) fun d hd1 v H1 s1 r1 => ?_
    cases d with
    | tuple xs =>
      rw [if_pos (show isT (.tuple xs) = true from rfl)] at hd1
      obtain ⟨l, vs, rfl, h1, rv⟩ := r1.tuple
      refine ⟨⟨l, vs, rfl, h1⟩, ?_⟩
      refine tE.go (gd.same s1) hd1 (fun n pl e => by subst e; exact post.same s1) fun d2 hd2 v2 H2 s2 r2 => ?_
      unfold dTix at hd2
      split at hd2
      · rename_i e1
        split at hd2
        · rename_i ns hns
          split at hd2
          · rename_i hj
            cases e1
            cases hd2
            obtain rfl := r2.int
            rw [unI_eq hns] at rv
            have e2 := rv.ints
            subst e2
            obtain ⟨o, h1, ho⟩ := h1
            exact ⟨l, ns, _, rfl, rfl, FT.sq ⟨o, s2 _ _ h1, ho⟩, hj, post _ H2 (s1.trans s2) (.inl (.int _))⟩
          · cases hd2
        · cases hd2
      · cases hd2
    | _ => cases hd1
def dTcn : Dt → Dt → Option Dt
  | .tuple xs, y => if y.plain && PyData.plainAll xs && dep y then some (.int ((xs.countP fun z => PyData.eqv z y : Nat) : Int)) else none
  | _, _ => none
def rTcn (K : PySem.W.Frag) : V → List V → Hp → VK → Prop := fun x xs H Q => ∃ y ds d, xs = [y] ∧ Dp K H x (.tuple ds) ∧ Dp K H y d ∧ d.plain = true ∧ PyData.plainAll ds = true ∧ d.depth ≤ 60 ∧ Q (.int ((ds.countP fun z => PyData.eqv z d : Nat) : Int)) H
theorem mt_tcn {X : Cx} (hu : X.A.units + 64 < cLine) : MtR X "tuple.count" (rTcn X.K) := by
  intro pins s σ H x xs v us Q I rx rxs h
  obtain ⟨y, ds, d, rfl, h1, h2, sd, se, hm, q⟩ := h
  obtain ⟨u, rfl, ru⟩ := rxs.one
  obtain ⟨as, r1⟩ := Dp.reads I d y u h2 ru
  obtain ⟨bs, r2⟩ := Dp.reads I _ x v h1 rx
  cases r2 with
  | tuple g1 g2 g3 g4 => exact SeqAt.count_tuple_data ⟨_, g1, g2, _, g3⟩ g4 r1 se sd (by omega) ⟨.int _, H, I.tok _, ⟨s.toks, rfl⟩, q⟩
theorem se_tcn (ha : SE G N sc fn k a f) (hb : SE G N sc fn k b g) (hbase : ∀ env : PySem.Env, attributeBase a "count" env (eval a env) = eval a env := by intro _; rfl) (hline : (apos.endLine == cpos.line) = true := by rfl) (ns : NS b := by intro _ _; rfl) : SE G N sc fn k (.Call (.Attribute a "count" apos) [b] [] cpos) (eMeth isT dTcn f g) := fun X C W tk b' =>
  PE.imp (pe_bmF PySem.F.slot_tuple_count PySem.F.type_tuple_count (mt_tcn C.room.units) (ha X C W tk true) (pa_cons (hb X C W tk true) pa_nil (ns _ X.env)) (hbase X.env) (by
    rw [ns [] X.env]; rfl) hline (ns _ X.env) rfl) fun σ H Q h => by
    obtain ⟨ρ, ow, rs, he, gd, post⟩ := h
    refine tE.go gd he (fun n pl e => by subst e; exact post) fun d hd1 v H1 s1 r1 => ?_
    cases d with
    | tuple xs =>
      rw [if_pos (show isT (.tuple xs) = true from rfl)] at hd1
      obtain ⟨l, vs, ev, h1, rv⟩ := r1.tuple
      refine ⟨⟨l, vs, ev, h1⟩, ?_⟩
      refine tE.go (gd.same s1) hd1 (fun n pl e => by subst e; exact post.same s1) fun d2 hd2 v2 H2 s2 r2 => ?_
      unfold dTcn at hd2
      simp only at hd2
      split at hd2
      · rename_i hc
        cases hd2
        simp only [Bool.and_eq_true, dep, decide_eq_true_eq] at hc
        exact ⟨v2, xs, d2, rfl, (r1.same s2).dp hc.1.2, r2.dp hc.1.1, hc.1.1, hc.1.2, hc.2, post _ H2 (s1.trans s2) (.inl (.int _))⟩
      · cases hd2
    | _ => cases hd1
theorem se_tupR2 {p2 q1 : Pos} (B : Bi G) (ha : SE G N sc fn k a f) (hg : GL sc "tuple" := by rfl) (hg2 : GL sc "range" := by rfl) (ns : NS a := by intro _ _; rfl) : SE G N sc fn k (.Call (.Name "tuple" p) [.Call (.Name "range" p2) [a] [] q1] [] pos) (eUn dTupRg f) := fun X C W tk b' =>
  PE.imp (pe_tupRgF C.calm (C.gl hg) (by rw [C.hmg]; exact B.tuple) (prg_1 (C.gl hg2) (by rw [C.hmg]; exact B.range) (ha X C W tk true) (ns [] X.env))) fun σ H Q h => by
    obtain ⟨ρ, ow, rs, he, gd, post⟩ := h
    refine tE.go gd he (fun n pl e => by subst e; exact post) fun d hd1 v H1 s1 r1 => ?_
    unfold dTupRg at hd1
    split at hd1
    · split at hd1
      · rename_i n hn
        rw [okI_iff] at hn
        cases hd1
        exact ⟨n, r1.int, ⟨by omega, by omega, by omega, by omega, by omega⟩, fun q o hq ho => post _ _ (s1.trans (Same.upd hq)) (.inl (.tup ⟨o, upd_same, ho⟩ (rp_rg n)))⟩
      · cases hd1
    · cases hd1
end
end PT

namespace PT
open PySem PySem.Spec PyProof.Rows L2
/-! ## x.append(y.pop(0) if c else e): two lists of one's own -/
def sAppPop (i j : Nat) (c e : EF) : SF := fun ρ => match ρ[i]?, ρ[j]? with
  | some (some (.own xs)), some (some (.own ys)) => bndS (c true ρ) fun d => (match tru d with
    | some true => (match ys with
      | y :: r => if i ≠ j ∧ xs.length < lim then some (.nx ((ρ.set j (some (.own r))).set i (some (.own (xs ++ [y]))))) else none
      | [] => none)
    | some false => bndS (e false ρ) fun d2 => if xs.length < lim then some (.nx (ρ.set i (some (.own (xs ++ [d2]))))) else none
    | none => none)
  | _, _ => none
section
variable {G : Gc} {N : List Str} {sc : Scope} {fn : Str → Bool} {k : Nat} {pos q1 q2 q3 q4 q5 q6 q7 q8 : Pos} {a b c : Expr} {f g : EF}
theorem ss_appPop (i j : Nat) {x y : Str} {jj : Nat} (hc : ST G N sc fn k c f) (ha : SE G N sc fn k a g) (hN : N[i]? = some x := by rfl) (hv : Vis sc x := by first | exact Or.inl rfl | exact Or.inr (Or.inl rfl) | exact Or.inr (Or.inr rfl)) (hd : (x == ("__debug__" : Str)) = false := by decide) (hcd : (x == ("__classdict__" : Str)) = false := by decide)
    (hN2 : N[j]? = some y := by rfl) (hv2 : Vis sc y := by first | exact Or.inl rfl | exact Or.inr (Or.inl rfl) | exact Or.inr (Or.inr rfl)) (hd2 : (y == ("__debug__" : Str)) = false := by decide) (hcd2 : (y == ("__classdict__" : Str)) = false := by decide)
    (ns : NS (.IfExp c (.Call (.Attribute (.Name y q4) "pop" q5) [.Constant (.int 0) jj q6] [] q7) a q8) := by intro _ _; rfl) (hb : ∀ env : PySem.Env, attributeBase (.Name x q1) "append" env (eval (.Name x q1) env) = eval (.Name x q1) env := by intro _; rfl) (hln : (q2.endLine == q3.line) = true := by rfl)
    (hb2 : ∀ env : PySem.Env, attributeBase (.Name y q4) "pop" env (eval (.Name y q4) env) = eval (.Name y q4) env := by intro _; rfl) (hln2 : (q5.endLine == q7.line) = true := by rfl) :
    SS G N sc fn k (.Expr (.Call (.Attribute (.Name x q1) "append" q2) [.IfExp c (.Call (.Attribute (.Name y q4) "pop" q5) [.Constant (.int 0) jj q6] [] q7) a q8] [] q3) pos) (sAppPop i j f g) := fun X C T W tk hp =>
  PS.imp (ps_expr (pe_bm PySem.F.plainAttrs_list PySem.F.slot_list_append PySem.F.type_list_append mt_append (pe_vr C i hN hv hd hcd)
    (pa_cons (pe_ifExp (hc X C W tk) (pe_bm PySem.F.plainAttrs_list PySem.F.slot_list_pop PySem.F.type_list_pop mt_popAt (pe_vr C j hN2 hv2 hd2 hcd2) (pa_cons pe_int pa_nil rfl) (hb2 X.env) rfl hln2 rfl rfl) (ha X C W tk false)) pa_nil (ns _ X.env)) (hb X.env) (by rw [ns [] X.env]; rfl) hln (ns _ X.env) rfl)) fun D σ H h => by
    obtain ⟨ρ, ow, o, he, gd, post⟩ := h
    unfold sAppPop at he
    split at he
    · rename_i xs ys hx hy
      obtain ⟨a', vs, hs, ho, hH, rv⟩ := own_at gd hx
      obtain ⟨b', ws, hs2, ho2, hH2, rw2⟩ := own_at gd hy
      refine ⟨_, hs, .inl ⟨rfl, vs, SqL.of hH⟩, tT.goS gd he post fun d hd1 => ?_⟩
      split at hd1
      · rename_i ht
        refine ⟨true, ht, fun H1 s1 => ?_⟩
        split at hd1
        · rename_i y0 r
          split at hd1
          · rename_i hz
            cases hd1
            show tBM X.K "list" rPopAt (tVar j) _ σ H1 _
            have hne : a' ≠ b' := fun e => hz.1 (gd.inj i j a' ho (by rw [e]; exact ho2))
            cases rw2 with
            | cons r0 rr =>
              rename_i v0 ws'
              refine ⟨_, hs2, .inl ⟨rfl, _, SqL.of (s1 _ _ hH2)⟩, ?_⟩
              refine ⟨b', v0 :: ws', 0, 0, v0, rfl, rfl, s1 _ _ hH2, by decide, by decide, ?_, rfl, ?_⟩
              · simp [seqIndex?]
              have g1 := (gd.same s1).mut ho2 (RpAll.same s1 rr)
              have e1 : Stp ow H ow (upd H1 b' (.lst ws')) := (Same.stp s1).trans (Ow.mut_stp ho2)
              refine ⟨a', vs, v0, rfl, rfl, by show upd H1 b' (.lst ws') a' = _; rw [upd_ne hne]; exact s1 _ _ hH, by rw [rv.length]; exact Nat.lt_of_lt_of_le hz.2 (by decide), ?_⟩
              refine post ow σ _ (e1.trans (Ow.mut_stp ho)) (g1.mut ho (RpAll.snoc (RpAll.stp gd.ok e1 rv) (Rp.stp gd.ok e1 r0)))
          · cases hd1
        · cases hd1
      · rename_i ht
        refine ⟨false, ht, fun H1 s1 => ?_⟩
        show tE X.K X.mg W false g σ H1 _
        refine tE.goS (gd.same s1) hd1 (post.stp (Same.stp s1)) fun d2 hd2 v2 H2 s2 r2 => ?_
        split at hd2
        · rename_i hz
          cases hd2
          refine ⟨a', vs, v2, rfl, rfl, s2 _ _ (s1 _ _ hH), by rw [rv.length]; exact Nat.lt_of_lt_of_le hz (by decide), ?_⟩
          exact post ow σ _ ((Same.stp (s1.trans s2)).trans (Ow.mut_stp ho)) ((gd.same (s1.trans s2)).mut ho (RpAll.snoc (RpAll.same (s1.trans s2) rv) r2.rp))
        · cases hd2
      · cases hd1
    · cases he
end
end PT

namespace PT
open PySem PySem.Spec PyProof.Rows L2
/-! ## texts: signs, split, int(text), list.index(None) -/
/-- the signs of a text -/
def sgL (z : Str) : List Dt := z.cps.toList.map fun c => .str ⟨#[c]⟩
def iStrF (f : EF) : IF := fun b ρ => bndI (f b ρ) fun x => match x with
  | .str z => some (.it (sgL z))
  | _ => none
section
variable {G : Gc} {N : List Str} {sc : Scope} {fn : Str → Bool} {k : Nat} {pos apos cpos p p2 : Pos} {tg a b c : Expr} {f g h : EF}
theorem wd_str {b : Bool} {K : PySem.W.Frag} {ow : Ow} {H : Hp} {z : Str} : WD .d b K ow H (Its z) (sgL z) := fun ow1 H1 r ok1 => by
  have hl : (sgL z).length = z.cps.size := by unfold sgL; rw [List.length_map, Array.length_toList]
  refine ⟨fun i hi => by rw [hl] at hi; exact hi, by rw [hl]; exact Nat.le_refl _, fun i x H2 hi y => ?_⟩
  obtain ⟨rfl, c, hc, rfl⟩ := y
  refine ⟨Same.refl _, .str ⟨#[c]⟩, ?_, .str _⟩
  unfold sgL
  rw [List.getElem?_map, Array.getElem?_toList, hc]
  rfl
theorem si_str (ha : SE G N sc fn k a f) : SI G N sc fn k .d tg a (iStrF f) := fun X C W tk b =>
  PI.imp (pi_str (ha X C W tk b)) fun σ H R h => by
    obtain ⟨ρ, ow, r, he, gd, post⟩ := h
    refine tE.goI gd he (fun n pl e => by subst e; exact post) fun d hd v H' s' r' => ?_
    split at hd
    · cases hd
      exact ⟨_, r'.str, post _ H' s' wd_str⟩
    · cases hd
/-- int(text) -/
def dIntS : Dt → Option Dt
  | .str z => if z.length ≤ 640 then (PySem.intText? z).map .int else none
  | _ => none
theorem cd_intS (K : PySem.W.Frag) : CD1 K (fun xs H Q => ∃ a n, xs = [.str a] ∧ PySem.intText? a = some n ∧ a.length ≤ 640 ∧ Q (.int n) H) dIntS := by
  intro x H Q ow dx dz ok rx e post
  unfold dIntS at e
  split at e
  · split at e
    · rename_i z hz
      cases h1 : PySem.intText? z with
      | none => rw [h1] at e; cases e
      | some n =>
        rw [h1] at e
        cases e
        obtain rfl := rx.str
        exact ⟨z, n, rfl, h1, hz, post _ H (Same.refl H) (.int _)⟩
    · cases e
  · cases e
theorem se_intS (B : Bi G) (ha : SE G N sc fn k a f) (hg : GL sc "int" := by rfl) (ns : NS a := by intro _ _; rfl) : SE G N sc fn k (.Call (.Name "int" p) [a] [] pos) (eUn dIntS f) :=
  se_t1 (r := fun K xs H Q => ∃ a n, xs = [.str a] ∧ PySem.intText? a = some n ∧ a.length ≤ 640 ∧ Q (.int n) H) (fun X _ => call_int_str) cd_intS B.int PyProof.Rows.boot_int ha hg (by decide) (by decide) ns
/-- text.split(sep) -/
def dSplit : Dt → Dt → Option Dt
  | .str z, .str y => if y.length ≠ 0 ∧ z.length ≤ lim then some (.list ((Txt.split z y).map .str)) else none
  | _, _ => none
theorem rp_strs {K : PySem.W.Frag} {O : Addr → Prop} {H : Hp} : ∀ ys : List Str, RpAll K O H (ys.map V.str) (ys.map PyData.str)
  | [] => .nil
  | y :: ys => .cons (.str y) (rp_strs ys)
theorem se_split (ha : SE G N sc fn k a f) (hb : SE G N sc fn k b g) (hbase : ∀ env : PySem.Env, attributeBase a "split" env (eval a env) = eval a env := by intro _; rfl) (hline : (apos.endLine == cpos.line) = true := by rfl) (ns : NS b := by intro _ _; rfl) : SE G N sc fn k (.Call (.Attribute a "split" apos) [b] [] cpos) (eMeth isStr dSplit f g) := fun X C W tk b' =>
  PE.imp (pe_split (ha X C W tk true) (hb X C W tk true) (ns _ X.env) (hbase X.env) hline) fun σ H Q h => by
    obtain ⟨ρ, ow, rs, he, gd, post⟩ := h
    refine tE.go gd he (fun n pl e => by subst e; exact post) fun d hd1 v H1 s1 r1 => ?_
    cases d with
    | str t =>
      rw [if_pos (show isStr (.str t) = true from rfl)] at hd1
      obtain rfl := r1.str
      refine ⟨⟨t, rfl⟩, ?_⟩
      refine tE.go (gd.same s1) hd1 (fun n pl e => by subst e; exact post.same s1) fun d2 hd2 v2 H2 s2 r2 => ?_
      unfold dSplit at hd2
      split at hd2
      · rename_i z y e1
        split at hd2
        · rename_i hz
          cases e1
          cases hd2
          obtain rfl := r2.str
          refine ⟨t, y, rfl, rfl, by simpa using hz.1, Nat.le_trans (Nat.add_le_add_right hz.2 2) (by decide), fun q hq => post _ _ ((s1.trans s2).trans (Same.upd hq)) (.inl (.lst upd_same ((gd.ok.same (s1.trans s2)).new hq) (rp_strs _)))⟩
        · cases hd2
      · cases hd2
    | _ => cases hd1
/-- list.index(None) -/
def isNI : Dt → Bool
  | .none => true
  | .int _ => true
  | _ => false
def dLix : Dt → Dt → Option Dt
  | .list xs, .none => if xs.all isNI = true ∧ xs.findIdx isN < xs.length then some (.int (xs.findIdx isN : Nat)) else none
  | _, _ => none
theorem ni_flat {K : PySem.W.Frag} {O : Addr → Prop} {H : Hp} : ∀ {vs : List V} {ds : List Dt}, RpAll K O H vs ds → ds.all isNI = true → vs.all flatV = true ∧ ∀ (i : Nat) (v : V) (d : Dt), vs[i]? = some v → ds[i]? = some d → eqV v .non = isN d
  | _, _, .nil, _ => ⟨rfl, fun i v d h _ => by simp at h⟩
  | _, _, .cons h1 h2, ha => by
    rw [List.all_cons, Bool.and_eq_true] at ha
    obtain ⟨q1, q2⟩ := ni_flat h2 ha.2
    have key : ∀ {v : V} {d : Dt}, Rp K O H v d → isNI d = true → flatV v = true ∧ eqV v .non = isN d := fun {v d} r hn => by
      cases r with
      | non => exact ⟨rfl, rfl⟩
      | int i => exact ⟨rfl, rfl⟩
      | _ => cases hn
    obtain ⟨k1, k2⟩ := key h1 ha.1
    refine ⟨by rw [List.all_cons, k1, q1]; rfl, fun i v d hv hd => ?_⟩
    cases i with
    | zero =>
      simp at hv hd
      subst hv hd
      exact k2
    | succ i => exact q2 i v d (by simpa using hv) (by simpa using hd)
theorem se_lix (ha : SE G N sc fn k a f) (hb : SE G N sc fn k b g) (hbase : ∀ env : PySem.Env, attributeBase a "index" env (eval a env) = eval a env := by intro _; rfl) (hline : (apos.endLine == cpos.line) = true := by rfl) (ns : NS b := by intro _ _; rfl) : SE G N sc fn k (.Call (.Attribute a "index" apos) [b] [] cpos) (eMeth isL dLix f g) := fun X C W tk b' =>
  PE.imp (pe_bm PySem.F.plainAttrs_list PySem.F.slot_list_index PySem.F.type_list_index mt_index (ha X C W tk true) (pa_cons (hb X C W tk true) pa_nil (ns _ X.env)) (hbase X.env) (by
    rw [ns [] X.env]; rfl) hline (ns _ X.env) rfl) fun σ H Q h => by
    obtain ⟨ρ, ow, rs, he, gd, post⟩ := h
    refine tE.go gd he (fun n pl e => by subst e; exact post) fun d hd1 v H1 s1 r1 => ?_
    cases d with
    | list xs =>
      rw [if_pos (show isL (.list xs) = true from rfl)] at hd1
      obtain ⟨l, vs, rfl, h1, rv⟩ := r1.list
      refine ⟨.inl ⟨rfl, vs, SqL.of h1⟩, ?_⟩
      refine tE.go (gd.same s1) hd1 (fun n pl e => by subst e; exact post.same s1) fun d2 hd2 v2 H2 s2 r2 => ?_
      unfold dLix at hd2
      split at hd2
      · rename_i ys e1
        split at hd2
        · rename_i hz
          cases e1
          cases hd2
          obtain rfl := r2.none
          obtain ⟨q1, q2⟩ := ni_flat rv hz.1
          have hlen := rv.length
          have hlt : xs.findIdx isN < vs.length := by rw [hlen]; exact hz.2
          refine ⟨l, vs, .non, xs.findIdx isN, vs[xs.findIdx isN], rfl, rfl, SqL.of (s2 _ _ h1), rfl, q1, List.getElem?_eq_getElem hlt, ?_, fun m z' hm hz' => ?_, post _ H2 (s1.trans s2) (.inl (.int _))⟩
          · rw [q2 _ _ _ (List.getElem?_eq_getElem hlt) (List.getElem?_eq_getElem hz.2)]
            exact List.findIdx_getElem (w := hz.2)
          · have hmx : m < xs.length := Nat.lt_trans hm hz.2
            rw [q2 _ _ _ hz' (List.getElem?_eq_getElem hmx)]
            have := List.not_of_lt_findIdx hm
            simpa using this
        · cases hd2
      · cases hd2
    | _ => cases hd1
end
end PT

namespace PT
open PySem PySem.Spec PyProof.Rows L2
/-! ## an own exception class with a field «line» -/
/-- Base.__init__(self, ..), Base an own class without an own __init__ -/
theorem pe_oinit {X : Cx} {x : Str} {B : Addr} {mc : Value} {e : Expr} {es : List Expr} {ta : TA} {p1 p2 pos : Pos} {pl : Sem Bool} (hg : Gl X x) (hm : X.mg x = some (.ref B)) (rd : ClX.CRead X.K B mc)
    (vV : PySem.W.findCls X.K (.ref B) mc "__init__" = some (.val (.builtin "ValueError.__init__"))) (ha : PA X (e :: es) ta) (hdb : (x == ("__debug__" : Str)) = false := by decide)
    (hc : eval (.Call (.Attribute (.Name x p1) "__init__" p2) (e :: es) [] pos) X.env = (do
      let ov ← eval (.Name x p1) X.env
      standAt p2.atName
      let (f, first) ← holding [ov] (getMethod ov "__init__" pl)
      callWith pos f first (backTo pos (starEach (e :: es) X.env)) (backToKw pos (keywordEach [] X.env))) := by rfl)
    (hst : starEach (e :: es) X.env = (false, eval e X.env) :: starEach es X.env := by rfl) (hpl : (backTo pos (starEach es X.env)).any (·.1) = false := by rfl) :
    PE X (.Call (.Attribute (.Name x p1) "__init__" p2) (e :: es) [] pos) (tVeI X.K ta) := by
  refine ⟨fun pins s σ H Q I h => PySem.W.methodCall_KW (pl := pl) (ld_glob I hg hm ?_ hdb) hc⟩
  refine PySem.W.method_cls I.kIn rd.ga (PySem.W.cls_value I.kIn rd.rd vV (by decide +kernel) ?_)
  refine PyProof.Rows.callWith_method1 (first := []) (thn (ha.run pos pins _ σ H _ (I.tok _) h) fun us s1 hh => ?_) hst hpl
  obtain ⟨vs, H1, I1, r1, a, C, ws, ev, hl, T, ea, q⟩ := hh
  subst ev
  cases r1 with
  | cons ra rr =>
    have e0 := ra
    cases e0
    exact oinit_ok T I1 ea (by rw [← Paired.length rr, sizeLine_eq]; omega) fun s' J => ⟨.non, H1, J, rfl, q⟩
/-- what its __init__ keeps: the field is the argument -/
def spPE (K : PySem.W.Frag) : Sp := fun vs H Q _ => ∃ (a C : Addr) (y : V), vs = [.ref a, y] ∧ OexC K C ∧ PySem.W.findIn K (.ref C) "line" = some none ∧ H a = some (exo a C none) ∧
  ∀ dx, H dx = none → dx ≠ a → Q .non (upd (upd H dx (exd dx [(("line" : Str), y)])) a (exo a C (some dx)))
theorem pe_initOk {G : Gc} {base x qual m : Str} {params : Arguments} {scope : Scope} {f : Addr} {fd : FuncData} {B : Addr} {mc : Value} {p1 p2 p3 p4 p5 p6 p7 p8 p9 p10 : Pos} {j : Nat} {pl : PySem.Env → Sem Bool}
    (Fu : FunD G.K x qual params [.Expr (.Call (.Attribute (.Name base p1) "__init__" p2) [.Name "self" p3, .Constant (.str m) j p4] [] p5) p6, .Assign [.Attribute (.Name "self" p7) "line" p8] (.Name "line" p9) p10] scope [] [] f fd)
    (S : FnScope ["self", "line"] ["self", "line"] scope) (hm : G.mg base = some (.ref B)) (rd : ClX.CRead G.K B mc) (vV : PySem.W.findCls G.K (.ref B) mc "__init__" = some (.val (.builtin "ValueError.__init__")))
    (hg : GL scope base := by rfl) (hv : Vis scope "self" := by first | exact Or.inl rfl | exact Or.inr (Or.inl rfl) | exact Or.inr (Or.inr rfl)) (hv2 : Vis scope "line" := by first | exact Or.inl rfl | exact Or.inr (Or.inl rfl) | exact Or.inr (Or.inr rfl)) (hdb : (base == ("__debug__" : Str)) = false := by decide)
    (hc : ∀ env : PySem.Env, eval (.Call (.Attribute (.Name base p1) "__init__" p2) [.Name "self" p3, .Constant (.str m) j p4] [] p5) env = (do
      let ov ← eval (.Name base p1) env
      standAt p2.atName
      let (f, first) ← holding [ov] (getMethod ov "__init__" (pl env))
      callWith p5 f first (backTo p5 (starEach [.Name "self" p3, .Constant (.str m) j p4] env)) (backToKw p5 (keywordEach [] env))) := by intro _; rfl) :
    FnOk G.P G.w G.K G.mg G.base (L2.CX G.P G.w) 1 f fd ["self", "line"] (spPE G.K) := by
  refine Fu.ok S (fun vs H Q E h => by obtain ⟨a, C, y, rfl, _⟩ := h; rfl) fun cdv A outer s H vs Q E hr h => ?_
  refine ⟨_, pss_cons (ps_expr (pe_oinit (mc := mc) hg hm rd vV (pa_cons (pe_var (i := 0) rfl hv) (pa_cons pe_str pa_nil)) hdb (hc _))) (pss_one (ps_ost (pe_var (i := 0) rfl hv) (pe_var (i := 1) rfl hv2))), ?_⟩
  obtain ⟨a, C, y, rfl, T, hno, ha, q⟩ := h
  refine ⟨.ref a, rfl, a, C, [.str m], rfl, by simp, T, ha, ?_⟩
  exact ⟨y, rfl, .ref a, rfl, a, C, rfl, T, hno, .inl ⟨ha, fun dx n ne => q dx n ne⟩⟩
/-- the class: made by its __init__ -/
def PeC (G : Gc) (x : Str) : Prop := ∃ (C fI : Addr) (fd : FuncData), G.mg x = some (.ref C) ∧ OexC G.K C ∧ PySem.W.findIn G.K (.ref C) "__init__" = some (some (.ref fI)) ∧ PySem.W.typeIn G.K (.ref fI) = some (.type "function") ∧ PySem.W.findIn G.K (.ref C) "line" = some none ∧
  Binds G.K fd ["self", "line"] [] ∧ FnOk G.P G.w G.K G.mg G.base (L2.CX G.P G.w) 1 fI fd ["self", "line"] (spPE G.K)
def sRaiseP (x : Str) (f : EF) : SF := fun ρ => bndS (f false ρ) fun d => some (.ex x (some d))
section
variable {G : Gc} {N : List Str} {sc : Scope} {fn : Str → Bool} {k : Nat} {pos p p2 q : Pos} {a b c : Expr} {f g h : EF}
theorem ss_raiseP {x : Str} (E : PeC G x) (ha : SE G N sc fn k a f) (hk : 2 ≤ k := by decide) (hg : GL sc x := by rfl) (hdb : (x == ("__debug__" : Str)) = false := by decide) (ns : NS a := by intro _ _; rfl) :
    SS G N sc fn k (.Raise (some (.Call (.Name x p) [a] [] q)) none pos) (sRaiseP x f) := fun X C T W tk hp => by
  obtain ⟨A, fI, fd, h1, h2, h3, h4, h5, h6, h7⟩ := E
  rw [← C.hP, ← C.hw, ← C.hK, ← C.hmg, ← C.hb] at h7
  rw [← C.hK] at h2 h3 h4 h5 h6
  rw [← C.hmg] at h1
  refine PS.imp (ps_raise C.calm tk (pmk_oex h2 h3 h4 h7 (C.room.mono hk) h6 (dvs := []) .nil (passes_call tk fun _ _ _ _ z => z.elim) (C.gl hg) h1 (pa_cons (ha X C W tk false) pa_nil (ns [] X.env)) hdb (ns [] X.env) rfl)) fun D σ H h => ?_
  obtain ⟨ρ, ow, o, he, gd, post⟩ := h
  refine tE.goS gd he post fun d hd v H1 s1 r1 => ?_
  cases hd
  refine ⟨by simp, fun e he1 => ⟨e, A, v, rfl, h2, h5, upd_same, fun dx hdx hne => ?_⟩⟩
  rw [upd_ne hne] at hdx
  refine ⟨rfl, dx, _, upd_same, by rw [upd_ne hne, upd_same], hdx, ?_⟩
  have sm : Same H1 (upd (del (upd (upd (upd H1 e (exo e A none)) dx (exd dx [(("line" : Str), v)])) e (exo e A (some dx))) e) dx (.xd [(("line" : Str), v)])) := fun b o hb => by
    have hb1 : b ≠ e := ne_of_none hb he1
    have hb2 : b ≠ dx := ne_of_none hb hdx
    rw [upd_ne hb2, del_ne hb1, upd_ne hb1, upd_ne hb2, upd_ne hb1]
    exact hb
  exact post _ _ σ _ h1 (Same.kp (s1.trans sm)) ⟨dx, v, rfl, upd_same, (Rp.same sm r1.rp).noO⟩
end
/-! ### caught: its field, its classes -/
theorem call_isED {X : Cx} {a D : Addr} {d : Option Addr} {oe : Obj} {pn : List (Addr × Obj)} (C : L2.ExcC X.K D) (hz : Zc (.ref D) d oe) (hf : ∃ vs, oe.data = .fields vs) :
    CallR (X.suite a ((a, oe) :: pn)) (.builtin "isinstance") (fun xs H Q => (d = none ∨ ∃ dd fs, d = some dd ∧ H dd = some (.xd fs)) ∧ rIsE X.K D a xs H Q) := by
  intro pins s σ H xs us Q I r h
  obtain ⟨hd0, c, cv, b, rfl, hcv, e, q⟩ := h
  cases r with
  | cons rx rr =>
    cases rr with
    | cons rt rr =>
      cases rr
      cases rx
      have ec := hcv _ rt
      subst ec
      obtain ⟨hget, _⟩ := I.pin (a, oe) (List.mem_append.mpr (.inl List.mem_cons_self))
      obtain ⟨vs, hv⟩ := hf
      have J : ∃ od, PySem.W.InstAt s.heap a oe D od := by
        obtain ⟨oc, od, oda, osl⟩ := oe
        obtain ⟨h1, h2⟩ := hz
        dsimp only at h1 h2 hv
        subst h1 h2 hv
        rcases hd0 with rfl | ⟨dd, fs, rfl, hH⟩
        · exact ⟨none, hget, rfl, rfl, trivial⟩
        · have hx : ObjOk X.prog X.w H s.heap dd (.xd fs) := I.hok dd _ hH
          obtain ⟨mA, hns, _⟩ := hx
          obtain ⟨od, ho, _⟩ := lookIn_ns hns
          exact ⟨some od, hget, rfl, rfl, ho⟩
      obtain ⟨od, J⟩ := J
      have hcl : (PySem.W.clsIn X.K D).isSome = true := by
        obtain ⟨cd, hc, _⟩ := PySem.W.any_some C.hd
        rw [hc]; rfl
      exact PySem.W.kia_one (PySem.W.kitx_exc hcl C.hg C.hk C.hs C.ha C.hn C.ht C.hm) I.kIn J e (fun z => nomatch z) fun tk => ⟨.bl b, H, I.kept (t' := tk) fun _ _ z => z, rfl, q⟩
def scl : Dt → Bool
  | .list _ => false
  | .tuple _ => false
  | .dict _ => false
  | _ => true
theorem Rp.scl {K : PySem.W.Frag} {O O' : Addr → Prop} {H H' : Hp} {v : V} {d : Dt} (r : Rp K O H v d) (h : scl d = true) : Rp K O' H' v d := by
  cases r with
  | non => exact .non
  | bl b => exact .bl b
  | int i => exact .int i
  | str x => exact .str x
  | lst _ _ _ => cases h
  | tup _ _ => cases h
  | scr _ => cases h
  | sht _ _ _ _ _ _ _ _ => cases h
/-- «except x as e: return [A, e.line] if isinstance(e, P) and not isinstance(e, Q) else [B]» -/
def sTryP (E : EMT) (x P Q A B : Str) (g : SF) : SF := fun ρ => match g ρ with
  | some (.ex n pl) => (match em E n x with
    | some true => (match em E n P, em E n Q, pl with
      | some b1, some b2, some d => if scl d = true then some (.rt (if b1 && !b2 then .list [.str A, d] else .list [.str B])) else none
      | _, _, _ => none)
    | some false => some (.ex n pl)
    | none => none)
  | y => y
theorem em_pe {G : Gc} {E : EMT} (hE : EmOk G E) {n x : Str} {b : Bool} (h : em E n x = some b) {cls : Value} (hc : G.mg n = some cls) : ∃ C D, cls = .ref C ∧ G.mg x = some (.ref D) ∧ PySem.W.exmOne G.K (.ref C) (.ref D) = some b ∧ PySem.W.kitOne G.K (.ref C) (.ref D) = some b ∧ L2.ExcC G.K C := by
  obtain ⟨C, D, m1, m2, x1, x2, xc⟩ := em_rel hE h
  rw [m1] at hc
  cases hc
  exact ⟨C, D, rfl, m2, x1, x2, xc⟩
section
variable {G : Gc} {N : List Str} {sc : Scope} {fn : Str → Bool} {k : Nat} {E : EMT} {g : SF} {body : List Stmt} {e x P Q A Bs : Str} {pos np hp p1 p2 p3 p4 p5 p6 p7 p8 p9 p10 p11 p12 p13 p14 p15 p16 p17 p18 : Pos} {j1 j2 : Nat}
theorem ss_tryP (hE : EmOk G E) (B : Bi G) (i : Nat) (hno : ∀ n C, em E n x = some true → G.mg n = some (.ref C) → PySem.W.findIn G.K (.ref C) "line" = some none) (hxD : ∃ C, G.mg x = some (.ref C)) (hb : SB G N sc fn k body g)
    (hi : N[i]? = some e := by rfl) (hln : sc.names.lookup e = some .local := by rfl) (hv : Vis sc e := by exact Or.inl rfl) (hd : (e == ("__debug__" : Str)) = false := by decide) (hcd : (e == ("__classdict__" : Str)) = false := by decide)
    (hgx : GL sc x := by rfl) (hdx : (x == ("__debug__" : Str)) = false := by decide)
    (hgi : GL sc "isinstance" := by rfl) (hgP : GL sc P := by rfl) (hgQ : GL sc Q := by rfl) (hdP : (P == ("__debug__" : Str)) = false := by decide) (hdQ : (Q == ("__debug__" : Str)) = false := by decide) :
    SS G N sc fn k (.Try body [.ExceptHandler (some (.Name x np)) (some e) [.Return (some (.IfExp (.BoolOp .And [.Call (.Name "isinstance" p1) [.Name e p2, .Name P p3] [] p4, .UnaryOp .Not (.Call (.Name "isinstance" p5) [.Name e p6, .Name Q p7] [] p8) p9] p10)
      (.List [.Constant (.str A) j1 p11, .Attribute (.Name e p15) "line" p16] p17) (.List [.Constant (.str Bs) j2 p12] p18) p13)) p14] hp] [] [] pos) (sTryP E x P Q A Bs g) := fun X C T W tk hpo => by
  obtain ⟨Dx, hDx⟩ := hxD
  have hgl : ∀ {a : Addr} {pn : List (Addr × Obj)} {x : Str}, GL sc x → Gl (X.suite a pn) x := fun {a pn x} h => by
    show X.env.scope.names.lookup x = _
    rw [C.hsc]; exact h
  let ts : Addr → Value → Option Addr → TS := fun a cls d De σ H => ∃ (C1 D1 D2 : Addr) (b1 b2 : Bool) (dd : Addr) (v : V), cls = .ref C1 ∧ d = some dd ∧ L2.ExcC X.K C1 ∧ PySem.W.findIn X.K (.ref C1) "line" = some none ∧ X.mg P = some (.ref D1) ∧ X.mg Q = some (.ref D2) ∧ PySem.W.kitOne X.K (.ref C1) (.ref D1) = some b1 ∧ PySem.W.kitOne X.K (.ref C1) (.ref D2) = some b2 ∧
    σ[i]? = some (some (.ref a)) ∧ H dd = some (.xd [(("line" : Str), v)]) ∧ ∀ p, H p = none → De.rt (.ref p) (upd H p (.lst (if b1 && !b2 then [.str A, v] else [.str Bs])))
  have hsu : ∀ (a : Addr) (oe : Obj) (cls : Value) (d : Option Addr) (pn : List (Addr × Obj)), Zc cls d oe → (∃ vs, oe.data = .fields vs) → PSs (X.suite a ((a, oe) :: pn)) [.Return (some (.IfExp (.BoolOp .And [.Call (.Name "isinstance" p1) [.Name e p2, .Name P p3] [] p4, .UnaryOp .Not (.Call (.Name "isinstance" p5) [.Name e p6, .Name Q p7] [] p8) p9] p10)
      (.List [.Constant (.str A) j1 p11, .Attribute (.Name e p15) "line" p16] p17) (.List [.Constant (.str Bs) j2 p12] p18) p13)) p14] (ts a cls d) := by
    intro a oe cls d pn hz hfl
    refine ⟨fun pins s σ H De I h => ?_⟩
    obtain ⟨C1, D1, D2, b1, b2, dd, v, rfl, rfl, hC, hln0, mP, mQ, k1, k2, hσ, hH, hrt⟩ := h
    have hmi : (X.suite a ((a, oe) :: pn)).mg "isinstance" = none := by show X.mg _ = none; rw [C.hmg]; exact B.isinstance
    have pv : ∀ q : Pos, PE (X.suite a ((a, oe) :: pn)) (.Name e q) (tVar i) := fun q => pe_var (by show X.N[i]? = _; rw [C.hN]; exact hi) (by show Vis X.env.scope e; rw [C.hsc]; exact hv) hd hcd
    have pP : ∀ q : Pos, PE (X.suite a ((a, oe) :: pn)) (.Name P q) (tC (.ref D1)) := fun q => pe_glob (hgl hgP) mP rfl hdP
    have pQ : ∀ q : Pos, PE (X.suite a ((a, oe) :: pn)) (.Name Q q) (tC (.ref D2)) := fun q => pe_glob (hgl hgQ) mQ rfl hdQ
    have c1 : PE (X.suite a ((a, oe) :: pn)) (.Call (.Name "isinstance" p1) [.Name e p2, .Name P p3] [] p4) _ := pe_callB (call_isED hC hz hfl) (hgl hgi) hmi boot_isinstance (pa_cons (pv p2) (pa_cons (pP p3) pa_nil))
    have c2 : PE (X.suite a ((a, oe) :: pn)) (.Call (.Name "isinstance" p5) [.Name e p6, .Name Q p7] [] p8) _ := pe_callB (call_isED hC hz hfl) (hgl hgi) hmi boot_isinstance (pa_cons (pv p6) (pa_cons (pQ p7) pa_nil))
    have c3 : PE (X.suite a ((a, oe) :: pn)) (.Attribute (.Name e p15) "line" p16) _ := pe_xf ⟨hC.hg, hC.hk, hC.hs, hC.hd⟩ hln0 hz hfl (pv p15)
    have all := pss_one (ps_ret (pos := p14) (pe_ifExp (pos := p13) (pw_and (pos := p10) (pt_val c1) (pw_and1 (pt_not (pos := p9) (pt_val c2)))).pt (pe_lst (pos := p17) (pa_cons (pe_str (x := A) (j := j1) (pos := p11)) (pa_cons c3 pa_nil))) (pe_lst (pos := p18) (pa_cons (pe_str (x := Bs) (j := j2) (pos := p12)) pa_nil))))
    refine all.run pins s σ H De I ?_
    have hp0 : (some dd = none ∨ ∃ dd' fs, some dd = some dd' ∧ H dd' = some (.xd fs)) := .inr ⟨dd, _, rfl, hH⟩
    refine ⟨.ref a, hσ, hp0, .ref D1, .ref D1, b1, rfl, fun u hu => hu, k1, b1, rfl, ?_⟩
    cases b1 with
    | false => exact ⟨by show 1 ≤ sizeLine; rw [sizeLine_eq]; omega, hrt⟩
    | true =>
      rw [if_pos rfl]
      refine ⟨.ref a, hσ, hp0, .ref D2, .ref D2, b2, rfl, fun u hu => hu, k2, b2, rfl, ?_⟩
      cases b2 with
      | true => exact ⟨by show 1 ≤ sizeLine; rw [sizeLine_eq]; omega, hrt⟩
      | false => exact ⟨.ref a, hσ, rfl, rfl, dd, _, v, rfl, hH, rfl, by show 2 ≤ sizeLine; rw [sizeLine_eq]; omega, hrt⟩
  refine PS.imp (ps_tryAs (l := [(.ref Dx, i, ts)]) (tb := fun W => tS X.K X.mg W g) T.stk T.fr (by rw [C.hN]; exact C.nd) tk (fun W' pn xe tk' hp' => hb (X.tr pn xe) ⟨C.hP, C.hw, C.hK, C.hmg, C.hb, C.hN, C.nd, C.hsc, C.hfn, C.calm, C.room⟩ ⟨T.stk, T.fr⟩ W' tk' hp')
    (.cons (by rw [C.hN]; exact hi) (by show X.env.scope.names.lookup e = _; rw [C.hsc]; exact hln) ⟨C.gl hgx, hdx, .inl (by rw [C.hmg]; exact hDx)⟩ hsu .nil)) fun D σ H h => ?_
  obtain ⟨ρ, ow, o, he, gd, post⟩ := h
  unfold sTryP at he
  cases hg : g ρ with
  | none => rw [hg] at he; cases he
  | some o1 =>
    rw [hg] at he
    refine ⟨ρ, ow, o1, hg, gd, ?_⟩
    cases o1 with
    | nx ρ' => cases he; exact post
    | rt d => cases he; exact post
    | ex n pl =>
      simp only at he
      intro cls d σ' H' hc kp pk
      cases he1 : em E n x with
      | none => rw [he1] at he; cases he
      | some b =>
        rw [he1] at he
        obtain ⟨C1, D1, rfl, m1, x1, _, xc⟩ := em_pe hE he1 (by rw [← C.hmg]; exact hc)
        rw [hDx] at m1
        cases m1
        refine ⟨b, by rw [C.hK]; exact x1, fun hbt hlt a na => ?_, fun hbf => ?_⟩
        · subst hbt
          simp only at he
          split at he
          · rename_i b1 b2 dd hP hQ
            split at he
            · rename_i hs
              cases he
              obtain ⟨C2, D2, e2, m2, _, y2, _⟩ := em_pe hE hP (by rw [← C.hmg]; exact hc)
              cases e2
              obtain ⟨C3, D3, e3, m3, _, y3, _⟩ := em_pe hE hQ (by rw [← C.hmg]; exact hc)
              cases e3
              obtain ⟨da, v, rfl, hH, rv⟩ := pk
              refine ⟨C1, D2, D3, b1, b2, da, v, rfl, rfl, by rw [C.hK]; exact xc, by rw [C.hK]; exact hno n C1 he1 (by rw [← C.hmg]; exact hc), by rw [C.hmg]; exact m2, by rw [C.hmg]; exact m3, by rw [C.hK]; exact y2, by rw [C.hK]; exact y3, List.getElem?_set_self hlt, hH, fun p hp0 => ?_⟩
              have nx : ¬ ow.x p := fun q => kp.dom p (gd.ok.ext p q) hp0
              have kp2 : Kp ow H (upd H' p (.lst (if (b1 && !b2) = true then [.str A, v] else [.str Bs]))) := ⟨fun a o h1 h2 => by
                have z := kp.keep a o h1 h2
                rw [upd_ne (ne_of_none z hp0)]; exact z, fun a h1 => by
                have z := kp.dom a h1
                by_cases ha : a = p
                · subst ha; exact absurd hp0 z
                · rw [upd_ne ha]; exact z⟩
              refine post _ _ kp2 ?_
              cases hbb : (b1 && !b2) with
              | true => exact .lst upd_same nx (.cons (.str _) (.cons (rv.scl hs) .nil))
              | false => exact .lst upd_same nx (.cons (.str _) .nil)
            · cases he
          · cases he
        · subst hbf
          cases he
          exact post _ _ σ' H' hc kp pk
end
end PT

namespace PT
open PySem PySem.Spec PyProof.Rows L2
/-! ## a hook that sees the statics, too -/
def obsQG (n : Nat) (fa : List He.Fa) (fn : List He.DefD) (chk : PySem.W.Frag → Bool) (g : Addr → Option Obj) : He.AlD := obsP fa fn chk (He.frG g (cStatics :: He.asD g n))
def hookQ (n : Nat) (fa : List He.Fa) (fn : List He.DefD) (chk : PySem.W.Frag → Bool) : PySem.W.Hook where
  α := He.AlD
  obs := fun s => obsQG n fa fn chk s.heap.get?
  val := fun _ => He.valD fn
  says := fun _ h => ∃ K : PySem.W.Frag, K.In h ∧ SaysP fa fn chk K
  of := fun _ _ e => ⟨_, He.frG_in, e⟩
  keeps := fun _ _ _ ⟨K, hK, c⟩ k => ⟨K, PySem.W.Frag.In.keeps hK k, c⟩
theorem obsQG_eq {n : Nat} {fa : List He.Fa} {fn : List He.DefD} {chk : PySem.W.Frag → Bool} {g : Addr → Option Obj} {s : Shared} (h : ∀ a, g a = s.heap.get? a) : obsQG n fa fn chk g = (hookQ n fa fn chk).obs s := by
  have e : g = s.heap.get? := funext h
  rw [e]
  rfl
/-! ## what the head checks of an own exception class with __init__ -/
def oexL (K : PySem.W.Frag) (C : Addr) : Bool := match K.lookup C with
  | some ⟨.type "type", _, .cls cd, sl⟩ => (match cd.mro, sl.toList with
    | .ref D :: bm, [_, _, _, _, some (.builtin n), _] => decide (D = C) && (decide (n = "ValueError.__new__") && (!cd.hasDel && (cd.hasDict && PySem.HandSPX.refsVE bm)))
    | _, _ => false)
  | _ => false
def oexB (K : PySem.W.Frag) (C : Addr) : Bool := oexL K C && (He.eqO (PySem.W.findIn K (.ref C) "__setattr__") (some (some (.builtin "object.__setattr__"))) && (decide (PySem.W.subIn K (.ref C) (.type "BaseException") = some true) && (decide (PySem.W.typeIn K (.ref C) = some (.type "type")) && PySem.W.keepIn K (.ref C))))
theorem oexB_ok {K : PySem.W.Frag} {C : Addr} (h : oexB K C = true) : OexC K C := by
  unfold oexB at h
  simp only [Bool.and_eq_true, decide_eq_true_eq] at h
  obtain ⟨h0, h1, h2, h3, h4⟩ := h
  refine ⟨?_, He.eqO_ok h1, h2, h3, h4⟩
  unfold oexL at h0
  split at h0
  · rename_i dd cd sl ho
    split at h0
    · rename_i D bm k0 k1 k2 k3 n k5 hm hs
      simp only [Bool.and_eq_true, decide_eq_true_eq, Bool.not_eq_true'] at h0
      obtain ⟨e1, e2, e3, e4, e5⟩ := h0
      subst e1 e2
      obtain ⟨nm, bs, mro, ns, qn, hd, sn, sub, ab, col, dl⟩ := cd
      dsimp only at hm e3 e4
      subst hm e3 e4
      have q : sl = #[k0, k1, k2, k3, some (.builtin "ValueError.__new__"), k5] := Array.toList_inj.mp hs
      subst q
      exact ⟨nm, qn, ns, bs, bm, sn, sub, ab, col, dd, k0, k1, k2, k3, k5, ho, e5⟩
    · cases h0
  · cases h0
/-- the class x with its own __init__, over the class b without one -/
def peB (K : PySem.W.Frag) (x b : Str) : Bool := He.eqO (PySem.W.nsIn K mainGlobals x) (some (some (.ref (He.ga K x)))) && (He.eqO (PySem.W.nsIn K mainGlobals b) (some (some (.ref (He.ga K b)))) && (oexB K (He.ga K x) &&
  (He.eqO (PySem.W.findIn K (.ref (He.ga K x)) "__init__") (some (some (.ref (He.ma K (He.ga K x) "__init__")))) && (decide (PySem.W.typeIn K (.ref (He.ma K (He.ga K x) "__init__")) = some (.type "function")) && (He.eqO (PySem.W.findIn K (.ref (He.ga K x)) "line") (some none) &&
  (PySem.W.readsIn K (He.ga K b) (.type "type") && (He.eqO (PySem.W.specialIn K (.ref (He.ga K b)) "__getattribute__") (some (some (.builtin "type.__getattribute__"))) && (match PySem.W.findCls K (.ref (He.ga K b)) (.type "type") "__init__" with
    | some (.val v) => decide (v = .builtin "ValueError.__init__")
    | _ => false))))))))
structure PeF (K : PySem.W.Frag) (mg : Str → Option Value) (x b : Str) : Prop where
  mx : mg x = some (.ref (He.ga K x))
  mb : mg b = some (.ref (He.ga K b))
  ox : OexC K (He.ga K x)
  ini : PySem.W.findIn K (.ref (He.ga K x)) "__init__" = some (some (.ref (He.ma K (He.ga K x) "__init__")))
  ty : PySem.W.typeIn K (.ref (He.ma K (He.ga K x) "__init__")) = some (.type "function")
  no : PySem.W.findIn K (.ref (He.ga K x)) "line" = some none
  rd : ClX.CRead K (He.ga K b) (.type "type")
  vV : PySem.W.findCls K (.ref (He.ga K b)) (.type "type") "__init__" = some (.val (.builtin "ValueError.__init__"))
theorem peB_ok {K : PySem.W.Frag} {h : Heap} {mg : Str → Option Value} {x b : Str} (X : K.In h) (G : h.Ns mainGlobals mg) (c : peB K x b = true) : PeF K mg x b := by
  unfold peB at c
  simp only [Bool.and_eq_true, decide_eq_true_eq] at c
  obtain ⟨c1, c2, c3, c4, c5, c6, c7, c8, c9⟩ := c
  refine ⟨PySem.W.mg_of X G (He.eqO_ok c1), PySem.W.mg_of X G (He.eqO_ok c2), oexB_ok c3, He.eqO_ok c4, c5, He.eqO_ok c6, ⟨c7, He.eqO_ok c8⟩, ?_⟩
  split at c9
  · rename_i v hv
    rw [hv, of_decide_eq_true c9]
  · cases c9
theorem PeF.peC {G : Gc} {x b : Str} {fd : FuncData} (F : PeF G.K G.mg x b) (hb : Binds G.K fd ["self", "line"] []) (hf : FnOk G.P G.w G.K G.mg G.base (L2.CX G.P G.w) 1 (He.ma G.K (He.ga G.K x) "__init__") fd ["self", "line"] (spPE G.K)) : PeC G x :=
  ⟨_, _, fd, F.mx, F.ox, F.ini, F.ty, F.no, hb, hf⟩
theorem em_self {E : EMT} {n x : Str} (h : (E.all fun t => !(t.2.1 == x && t.2.2) || t.1 == x) = true) (e : em E n x = some true) : n = x := by
  unfold em at e
  cases q : E.find? fun t => t.1 == n && t.2.1 == x with
  | none => rw [q] at e; cases e
  | some t =>
    rw [q] at e
    have e2 : t.2.2 = true := Option.some.inj e
    have h1 := List.find?_some q
    rw [Bool.and_eq_true] at h1
    have h3 := List.all_eq_true.mp h t (List.mem_of_find?_eq_some q)
    rw [h1.2, e2] at h3
    simp only [Bool.and_self, Bool.not_true, Bool.false_or] at h3
    have a1 : t.1 = n := by simpa using h1.1
    have a2 : t.1 = x := by simpa using h3
    rw [← a1, a2]
theorem PeC.no {G : Gc} {E : EMT} {x : Str} (P : PeC G x) (h : (E.all fun t => !(t.2.1 == x && t.2.2) || t.1 == x) = true) : ∀ n C, em E n x = some true → G.mg n = some (.ref C) → PySem.W.findIn G.K (.ref C) "line" = some none := fun n C e hm => by
  obtain ⟨A, _, _, h1, _, _, _, h5, _⟩ := P
  rw [em_self h e, h1] at hm
  cases hm
  exact h5
theorem PeC.cls {G : Gc} {x : Str} (P : PeC G x) : ∃ C, G.mg x = some (.ref C) := let ⟨A, _, _, h1, _⟩ := P; ⟨A, h1⟩
/-- a method of a class: the statement of its def -/
def mth (c : Stmt) (i : Nat) : Stmt := match c with
  | .ClassDef _ _ _ body _ _ _ _ _ _ _ => body.getD i (.Pass ⟨0, 0, 0, 0⟩)
  | _ => .Pass ⟨0, 0, 0, 0⟩
end PT

namespace PT
open PySem PySem.Spec PyProof.Rows L2
/-! ## sheets as data: fields, methods -/
/-- more of the class Sheet -/
structure ShX (K : PySem.W.Frag) : Prop where
  na : ∀ f ∈ (["modulus", "entries", "history"] : List Str), NoAttr K (He.ga K "Sheet") f
  me : PySem.W.kitOne K (.ref (He.ga K "Sheet")) (.ref (He.ga K "Sheet")) = some true
  noC : ∀ T ∈ ["NoneType", "bool", "int", "str", "list", "tuple"], PySem.W.kitOne K (.type T) (.ref (He.ga K "Sheet")) = some false
def dMdl : Dt → Option Dt
  | .dict [(.none, .tuple [.int m, .list _, .list _])] => some (.int m)
  | _ => none
def dEnt : Dt → Option Dt
  | .dict [(.none, .tuple [.int _, .list es, .list _])] => some (.list es)
  | _ => none
def dHis : Dt → Option Dt
  | .dict [(.none, .tuple [.int _, .list _, .list hs])] => some (.list hs)
  | _ => none
theorem Rp.shOut {K : PySem.W.Frag} {O : Addr → Prop} {H : Hp} {v : V} {m : Int} {es hs : List Dt} (r : Rp K O H v (.dict [(.none, .tuple [.int m, .list es, .list hs])])) :
    ∃ a e h vs ws, v = .ref a ∧ ShF K H a m e h ∧ H e = some (.lst vs) ∧ H h = some (.lst ws) ∧ ¬ O a ∧ ¬ O e ∧ ¬ O h ∧ RpAll K O H vs es ∧ RpAll K O H ws hs := by
  generalize hd : (PyData.dict [(.none, .tuple [.int m, .list es, .list hs])]) = d at r
  cases r with
  | sht f he hh n1 n2 n3 r1 r2 =>
    cases hd
    exact ⟨_, _, _, _, _, rfl, f, he, hh, n1, n2, n3, r1, r2⟩
  | @scr a ns h =>
    exfalso
    cases ns with
    | nil => cases hd
    | cons i ns => cases hd
  | _ => cases hd
/-- a field -/
def eFl (op : Dt → Option Dt) (f : EF) : EF := fun _ ρ => bnd (f false ρ) fun x => (op x).map .val
section
variable {G : Gc} {N : List Str} {sc : Scope} {fn : Str → Bool} {k : Nat} {pos apos p p2 : Pos} {a b c : Expr} {es : List Expr} {f g h : EF} {ar : AF}
theorem se_mdl (B : Bi G) (S : ShX G.K) (ha : SE G N sc fn k a f) (hb : ∀ env : PySem.Env, attributeBase a "modulus" env (eval a env) = eval a env := by intro _; rfl) : SE G N sc fn k (.Attribute a "modulus" pos) (eFl dMdl f) := fun X C W tk b' =>
  PE.imp (pe_fld (ha X C W tk false) (hb X.env)) fun σ H Q h => by
    obtain ⟨ρ, ow, rs, he, gd, post⟩ := h
    refine tE.go gd he (fun n pl e => by subst e; exact post) fun d hd v H1 s1 r1 => ?_
    unfold dMdl at hd
    split at hd
    · cases hd
      obtain ⟨a, e, h, vs, ws, rfl, ⟨dx, fs, q1, _, q2, _⟩, _⟩ := r1.rp.shOut
      exact ⟨a, _, dx, fs, _, rfl, q1, by rw [C.hK]; exact B.sht.cl, by rw [C.hK]; exact S.na _ (by decide), q2, post _ H1 s1 (.inl (.int _))⟩
    · cases hd
theorem se_ent (B : Bi G) (S : ShX G.K) (ha : SE G N sc fn k a f) (hb : ∀ env : PySem.Env, attributeBase a "entries" env (eval a env) = eval a env := by intro _; rfl) : SE G N sc fn k (.Attribute a "entries" pos) (eFl dEnt f) := fun X C W tk b' =>
  PE.imp (pe_fld (ha X C W tk false) (hb X.env)) fun σ H Q h => by
    obtain ⟨ρ, ow, rs, he, gd, post⟩ := h
    refine tE.go gd he (fun n pl e => by subst e; exact post) fun d hd v H1 s1 r1 => ?_
    unfold dEnt at hd
    split at hd
    · cases hd
      obtain ⟨a, e, h, vs, ws, rfl, ⟨dx, fs, q1, _, _, q2, _⟩, he, _, _, ne, _, r2, _⟩ := r1.rp.shOut
      exact ⟨a, _, dx, fs, _, rfl, q1, by rw [C.hK]; exact B.sht.cl, by rw [C.hK]; exact S.na _ (by decide), q2, post _ H1 s1 (.inl (.lst he ne r2))⟩
    · cases hd
theorem se_his (B : Bi G) (S : ShX G.K) (ha : SE G N sc fn k a f) (hb : ∀ env : PySem.Env, attributeBase a "history" env (eval a env) = eval a env := by intro _; rfl) : SE G N sc fn k (.Attribute a "history" pos) (eFl dHis f) := fun X C W tk b' =>
  PE.imp (pe_fld (ha X C W tk false) (hb X.env)) fun σ H Q h => by
    obtain ⟨ρ, ow, rs, he, gd, post⟩ := h
    refine tE.go gd he (fun n pl e => by subst e; exact post) fun d hd v H1 s1 r1 => ?_
    unfold dHis at hd
    split at hd
    · cases hd
      obtain ⟨a, e, h, vs, ws, rfl, ⟨dx, fs, q1, _, _, _, q2, _⟩, _, hh, _, _, nh, _, r2⟩ := r1.rp.shOut
      exact ⟨a, _, dx, fs, _, rfl, q1, by rw [C.hK]; exact B.sht.cl, by rw [C.hK]; exact S.na _ (by decide), q2, post _ H1 s1 (.inl (.lst hh nh r2))⟩
    · cases hd
/-! ### methods that only read -/
/-- the method of that name computes F, at level j -/
def MtIs (G : Gc) (m : Str) (j n : Nat) (F : List Dt → Option Rs) : Prop :=
  ∃ f fd ps, Meth G.K (He.ga G.K "Sheet") m f ∧ Binds G.K fd ps [] ∧ ps.length = n ∧ FnOk G.P G.w G.K G.mg G.base (L2.CX G.P G.w) j f fd ps (spF G.K G.mg n F)
theorem mt_is {G : Gc} {m x qual : Str} {params : Arguments} {body : List Stmt} {scope : Scope} {f : Addr} {fd : FuncData} {N ps : List Str} {k : Nat} {g : SF} {F : List Dt → Option Rs} (hm : Meth G.K (He.ga G.K "Sheet") m f) (Fu : FunD G.K x qual params body scope [] [] f fd) (S : FnScope N ps scope) (hb : Binds G.K fd ps [])
    (hB : SB G N scope (fun x => true) k body g) (hF : ∀ ds r, ds.length = ps.length → F ds = some r → runB N.length g ds = some r) : MtIs G m (k + 1) ps.length F :=
  ⟨f, fd, ps, hm, hb, rfl, fn_okD Fu S hB hF⟩
end
section
variable {X : Cx} {CX : CXT} {k : Nat} {f C : Addr} {fd : FuncData} {ps : List Str} {sp : Sp} {E : L2.St → XK} {m : Str} {pos apos : Pos} {e o : Expr} {es : List Expr} {ta : TE} {t : TA}
def tMt (C : Addr) (m : Str) (sp : Sp) (E : L2.St → XK) (ta : TE) (t : TA) : TE := fun σ H Q => ta σ H fun x H1 => ∃ a dx fs, x = .ref a ∧ H1 a = some (.ins C dx fs) ∧ fs.lookup m = none ∧ t σ H1 fun vs H2 => sp (x :: vs) H2 Q (E σ)
theorem pe_mtS {pl : Sem Bool} (he : PE X o ta) (c : Cls X.K C) (hm : Meth X.K C m f) (F : FnOk X.prog X.w X.K X.mg X.base CX k f fd ps sp) (hr : Room k X.A) (hb : Binds X.K fd ps []) (hx : ∀ σ, PassesAt CX X σ (E σ)) (ha : PA X (e :: es) t)
    (hst : starEach (e :: es) X.env = (false, eval e X.env) :: starEach es X.env) (hpl : (backTo pos (starEach es X.env)).any (·.1) = false)
    (ht : eval (.Call (.Attribute o m apos) (e :: es) [] pos) X.env = (do
      let ov ← eval o X.env
      standAt apos.atName
      let (f, first) ← holding [ov] (getMethod ov m pl)
      callWith pos f first (backTo pos (starEach (e :: es) X.env)) (backToKw pos (keywordEach [] X.env)))) :
    PE X (.Call (.Attribute o m apos) (e :: es) [] pos) (tMt C m sp E ta t) := by
  refine ⟨fun pins s σ H Q I h => PySem.W.methodCall_KW (pl := pl) (thn (he.run pins s σ H _ I h) fun u s1 hh => ?_) ht⟩
  obtain ⟨x, H1, I1, rx, a, dx, fs, ex, ea, l, q⟩ := hh
  subst ex
  have e0 := rx
  cases e0
  refine getmeth_ok I1 ea c hm l (PySem.W.callWith_K (first := [.ref a]) (h₀ := X.base) I.ok.mod.kin hm.kp (thn (ha.run pos pins s1 σ H1 _ I1 q) fun us s2 hh => ?_) hst hpl)
  obtain ⟨vs, H2, I2, r, q2⟩ := hh
  exact ⟨I2.kIn, run_fnS (us := .ref a :: us) (vs := .ref a :: vs) F hr hb (hx σ) I2 (.cons rfl r) q2⟩
theorem pe_mtS0 {pl : Sem Bool} (he : PE X o ta) (c : Cls X.K C) (hm : Meth X.K C m f) (F : FnOk X.prog X.w X.K X.mg X.base CX k f fd ps sp) (hr : Room k X.A) (hb : Binds X.K fd ps []) (hx : ∀ σ, PassesAt CX X σ (E σ))
    (ht : eval (.Call (.Attribute o m apos) [] [] pos) X.env = (do
      let ov ← eval o X.env
      standAt apos.atName
      let (f, first) ← holding [ov] (getMethod ov m pl)
      callWith pos f first (backTo pos (starEach [] X.env)) (backToKw pos (keywordEach [] X.env)))) :
    PE X (.Call (.Attribute o m apos) [] [] pos) (tMt C m sp E ta tNil) := by
  refine ⟨fun pins s σ H Q I h => PySem.W.methodCall_KW (pl := pl) (thn (he.run pins s σ H _ I h) fun u s1 hh => ?_) ht⟩
  obtain ⟨x, H1, I1, rx, a, dx, fs, ex, ea, l, q⟩ := hh
  subst ex
  have e0 := rx
  cases e0
  exact getmeth_ok I1 ea c hm l (PySem.W.callWith_K0 (first := [.ref a]) I1.kIn hm.kp (run_fnS (us := [.ref a]) (vs := [.ref a]) F hr hb (hx σ) I1 (.cons rfl .nil) q))
end
/-- what stands alone: no list in it -/
def eMt0 (F : List Dt → Option Rs) (f : EF) : EF := fun _ ρ => bnd (f false ρ) fun x => if isSht x = true then F [x] else none
def eMt (n : Nat) (F : List Dt → Option Rs) (f : EF) (g : AF) : EF := fun _ ρ => bnd (f false ρ) fun x => if isSht x = true then bndA (g ρ) fun ds => if ds.length + 1 = n then F (x :: ds) else none else none
theorem Rp.isSh {K : PySem.W.Frag} {O : Addr → Prop} {H : Hp} {v : V} {d : Dt} (r : Rp K O H v d) (h : isSht d = true) : ∃ (a : Addr) (m : Int) (e1 h1 : Addr), v = .ref a ∧ ShF K H a m e1 h1 := by
  cases r with
  | scr _ => rw [show isSht _ = !isScr _ from rfl, isScr_map] at h; cases h
  | sht f _ _ _ _ _ _ _ => exact ⟨_, _, _, _, rfl, f⟩
  | _ => cases h
section
variable {G : Gc} {N : List Str} {sc : Scope} {fn : Str → Bool} {k : Nat} {pos apos p p2 : Pos} {a b c : Expr} {es : List Expr} {f g h : EF} {ar : AF}
theorem se_mt0 {m : Str} {j : Nat} {F : List Dt → Option Rs} {pl : PySem.Env → Sem Bool} (B : Bi G) (hF : MtIs G m j 1 F) (ha : SE G N sc fn k a f) (hm0 : m ∈ shM := by decide) (hj : j ≤ k := by decide)
    (ht : ∀ env : PySem.Env, eval (.Call (.Attribute a m apos) [] [] pos) env = (do
      let ov ← eval a env
      standAt apos.atName
      let (f, first) ← holding [ov] (getMethod ov m (pl env))
      callWith pos f first (backTo pos (starEach [] env)) (backToKw pos (keywordEach [] env))) := by intro _; rfl) :
    SE G N sc fn k (.Call (.Attribute a m apos) [] [] pos) (eMt0 F f) := fun X C W tk b' => by
  obtain ⟨f0, fd, ps, hm, hb, hl, hok⟩ := hF
  rw [← C.hP, ← C.hw, ← C.hK, ← C.hmg, ← C.hb] at hok
  rw [← C.hK] at hm hb
  refine PE.imp (pe_mtS0 (E := WE W) (ha X C W tk false) (by rw [C.hK]; exact B.sht.cl) hm hok (C.room.mono hj) hb (fun σ => passAt tk σ) (ht X.env)) fun σ H Q h => ?_
  obtain ⟨ρ, ow, rs, he, gd, post⟩ := h
  refine tE.go gd he (fun n pl e => by subst e; exact post) fun d hd v H1 s1 r1 => ?_
  split at hd
  · rename_i hs
    obtain ⟨a', m', e1, h1, rfl, dx, fs, q1, _, _, _, _, q2⟩ := r1.rp.isSh hs
    refine ⟨a', dx, fs, rfl, by rw [C.hK] at q1 ⊢; exact q1, q2 m hm0, rfl, OA ow, [d], rs, fun q hq => (gd.ok.same s1).at_ hq, .cons r1.rp .nil, hd, ?_⟩
    cases rs with
    | val d => exact fun v H' s' r' => post v H' (s1.trans s') (.inl r')
    | exc n pl => exact fun cls d H' hc s' pk => post cls d H' hc (s1.trans s') pk
  · cases hd
theorem se_mt {m : Str} {j n : Nat} {F : List Dt → Option Rs} {pl : PySem.Env → Sem Bool} (B : Bi G) (hF : MtIs G m j n F) (ha : SE G N sc fn k a f) (hr : SAs G N sc fn k (b :: es) ar) (hm0 : m ∈ shM := by decide) (hj : j ≤ k := by decide)
    (ht : ∀ env : PySem.Env, eval (.Call (.Attribute a m apos) (b :: es) [] pos) env = (do
      let ov ← eval a env
      standAt apos.atName
      let (f, first) ← holding [ov] (getMethod ov m (pl env))
      callWith pos f first (backTo pos (starEach (b :: es) env)) (backToKw pos (keywordEach [] env))) := by intro _; rfl) :
    SE G N sc fn k (.Call (.Attribute a m apos) (b :: es) [] pos) (eMt n F f ar) := fun X C W tk b' => by
  obtain ⟨f0, fd, ps, hm, hb, hl, hok⟩ := hF
  rw [← C.hP, ← C.hw, ← C.hK, ← C.hmg, ← C.hb] at hok
  rw [← C.hK] at hm hb
  have na := hr.ns b List.mem_cons_self
  refine PE.imp (pe_mtS (E := WE W) (ha X C W tk false) (by rw [C.hK]; exact B.sht.cl) hm hok (C.room.mono hj) hb (fun σ => passAt tk σ) (hr.pa X C W tk) (na es X.env) (noStar _ _ _ fun e he => hr.ns e (List.mem_cons_of_mem _ he)) (ht X.env)) fun σ H Q h => ?_
  obtain ⟨ρ, ow, rs, he, gd, post⟩ := h
  refine tE.go gd he (fun n pl e => by subst e; exact post) fun d hd v H1 s1 r1 => ?_
  split at hd
  · rename_i hs
    obtain ⟨a', m', e1, h1, rfl, dx, fs, q1, _, _, _, _, q2⟩ := r1.rp.isSh hs
    refine ⟨a', dx, fs, rfl, by rw [C.hK] at q1 ⊢; exact q1, q2 m hm0, ?_⟩
    refine tA.go (gd.same s1) hd (fun n pl e => by subst e; exact ExP.same post s1) fun ds hd2 vs H2 s2 r2 => ?_
    split at hd2
    · rename_i hn
      refine ⟨by rw [List.length_cons, r2.length]; exact hn, OA ow, d :: ds, rs, fun q hq => (gd.ok.same (s1.trans s2)).at_ hq, .cons (Rp.same s2 r1.rp) r2, hd2, ?_⟩
      cases rs with
      | val d => exact fun v H' s' r' => post v H' ((s1.trans s2).trans s') (.inl r')
      | exc n pl => exact fun cls d H' hc s' pk => post cls d H' hc ((s1.trans s2).trans s') pk
    · cases hd2
  · cases hd
end
end PT

namespace PT
open PySem PySem.Spec PyProof.Rows L2
/-! ## sheets: len, str, ==, isinstance -/
abbrev noX : XK := fun _ _ _ => False
section
variable {X : Cx} {pins : List (Addr × Obj)} {σ : L2.St} {H : Hp} {s : Shared} {n : Nat} {f C : Addr} {fd : FuncData} {ps : List Str} {sp : Sp}
theorem run_low {A : Around} {Q : VK} {us : List Value} {ws : List V} (F : FnOk X.prog X.w X.K X.mg X.base (L2.CX X.prog X.w) n f fd ps sp) (hr : Room n A) (e0 : Env0 X.prog X.w X.K X.mg X.base A X.stack s H) (hx : Passes (L2.CX X.prog X.w) X noX) (hb : Binds X.K fd ps []) (I : Inv X pins σ H s) (r : Vals ws us) (h : sp ws H Q noX) :
    wpAny (model X.prog X.w) A (call (.ref f) us) (EP X pins σ Q) X.xe s := by
  have hl : us.length = ps.length := by rw [← r.length]; exact F.len _ _ _ _ h
  have b := hb s us I.kIn (by rw [List.append_nil]; exact hl)
  rw [List.append_nil] at b
  refine wpAny_call (codeAny_mono (F.run A X.stack s H ⟨us, []⟩ us ws Q noX hr e0 b r h) fun r s' hq => ?_)
  cases r with
  | error e => exact hx pins σ H s e s' I hq
  | ok fl =>
    cases fl with
    | ret u => exact I.after hq
    | _ => exact False.elim hq
theorem ins_at {a dx : Addr} {fs : List (Str × V)} (I : Inv X pins σ H s) (e : H a = some (.ins C dx fs)) : ∃ ox od, PySem.W.InstAt s.heap a ox C od := by
  obtain ⟨mA, O, _⟩ := ins_get I.hok e
  obtain ⟨od, J, _⟩ := O.look
  exact ⟨_, _, J⟩
def rIn1 (C : Addr) (sp : Sp) (P : V → Prop) : List V → Hp → VK → Prop := fun xs H Q => ∃ a dx fs, xs = [.ref a] ∧ H a = some (.ins C dx fs) ∧ sp [.ref a] H (fun v H' => P v ∧ Q v H') noX
theorem call_lenS (hs : PySem.W.findIn X.K (.ref C) "__len__" = some (some (.ref f))) (hf : PySem.W.isFn X.K (.ref f) = true) (F : FnOk X.prog X.w X.K X.mg X.base (L2.CX X.prog X.w) n f fd ps sp) (hb : Binds X.K fd ps []) (hr : Room (n + 1) X.A) (hx : Passes (L2.CX X.prog X.w) X noX) :
    CallR X (.builtin "len") (rIn1 C sp fun v => ∃ i : Int, v = .int i ∧ 0 ≤ i ∧ i < 2 ^ 63) := by
  intro pins s σ H xs us Q I r h
  obtain ⟨a, dx, fs, rfl, ha, q⟩ := h
  obtain ⟨u, rfl, ru⟩ := r.one
  have e0 := ru
  cases e0
  obtain ⟨ox, od, J⟩ := ins_at I ha
  obtain ⟨m, hF⟩ := I.fr
  refine PySem.W.len_K hF I.ok.mod.kin J hs hf (wpAny_mono (run_low (us := [.ref a]) (ws := [.ref a]) F hr.in1 I.env0.in1 hx hb I (.cons rfl .nil) q) (fun w s' z => ?_) fun _ _ x => x)
  obtain ⟨z', H', I', rz, ⟨i, ei, h0, h1⟩, qz⟩ := z
  subst ei
  obtain ⟨t, e⟩ := (show ∃ t, w = Value.int i t from rz)
  cases e
  exact ⟨⟨h0, h1⟩, .int i, H', I'.tok _, ⟨_, rfl⟩, qz⟩
theorem call_strS (hs : PySem.W.findIn X.K (.ref C) "__str__" = some (some (.ref f))) (hf : PySem.W.isFn X.K (.ref f) = true) (F : FnOk X.prog X.w X.K X.mg X.base (L2.CX X.prog X.w) n f fd ps sp) (hb : Binds X.K fd ps []) (hr : Room (n + 2) X.A) (hx : Passes (L2.CX X.prog X.w) X noX) :
    CallR X (.type "str") (rIn1 C sp fun v => ∃ z : Str, v = .str z) := by
  intro pins s σ H xs us Q I r h
  obtain ⟨a, dx, fs, rfl, ha, q⟩ := h
  obtain ⟨u, rfl, ru⟩ := r.one
  have e0 := ru
  cases e0
  obtain ⟨ox, od, J⟩ := ins_at I ha
  have hr2 : Room n X.A.in1.in1 := (show Room (n + 1) X.A.in1 from Room.in1 hr).in1
  refine PySem.W.kso_call hr2.units0 I.kIn J hs hf (wpAny_mono (run_low (us := [.ref a]) (ws := [.ref a]) F hr2 I.env0.in1.in1 hx hb I (.cons rfl .nil) q) (fun w s' z => ?_) fun _ _ x => x)
  obtain ⟨z', H', I', rz, ⟨i, ei⟩, qz⟩ := z
  subst ei
  obtain ⟨t, e⟩ := (show ∃ t, w = Value.str i t from rz)
  cases e
  exact ⟨.str i, H', I', ⟨_, rfl⟩, qz⟩
def rEqS (K : PySem.W.Frag) (C : Addr) (sp : Sp) : R2 := fun x y H Q => ∃ a dx fs t, x = .ref a ∧ H a = some (.ins C dx fs) ∧ TyX K H y t ∧ PySem.W.notFirst K C t = true ∧ sp [.ref a, y] H (fun v H' => (∃ b, v = .bl b) ∧ Q v H') noX
theorem op_eqS (hs : PySem.W.findIn X.K (.ref C) "__eq__" = some (some (.ref f))) (hf : PySem.W.isFn X.K (.ref f) = true) (F : FnOk X.prog X.w X.K X.mg X.base (L2.CX X.prog X.w) n f fd ps sp) (hb : Binds X.K fd ps []) (hr : Room n X.A) (hx : Passes (L2.CX X.prog X.w) X noX) :
    OpR X (compareOp .Eq) (rEqS X.K C sp) := by
  intro pins s σ H x y v u Q I rx ry h
  obtain ⟨a, dx, fs, t, rfl, ha, ty, hn, q⟩ := h
  have e0 := rx
  cases e0
  obtain ⟨ox, od, J⟩ := ins_at I ha
  obtain ⟨m, hF⟩ := I.fr
  obtain ⟨P, kx, kp, _⟩ := kit_of I ry ty
  refine PySem.W.cmp_ofEq (PySem.W.cmp_K (op := .Eq) (tb := t) hr.units0 hF I.ok.mod.kin J (kx.ty _ _ I.kIn kp) hn hs hf ?_)
  refine wpAny_mono (run_low (us := [.ref a, u]) (ws := [.ref a, y]) F hr I.env0 hx hb I (.cons rfl (.cons ry .nil)) q) (fun w s' z => ?_) fun _ _ x => x
  obtain ⟨z', H', I', rz, ⟨b, eb⟩, qz⟩ := z
  subst eb
  have e1 : w = Value.bool b := rz
  subst e1
  exact ⟨.bl b, H', I', rfl, qz⟩
end
/-! ### by data -/
/-- the class's special methods; what it is to other types -/
structure ShS (G : Gc) (m : Str) (j n : Nat) (F : List Dt → Option Rs) : Prop where
  ex : ∃ f fd ps, PySem.W.findIn G.K (.ref (He.ga G.K "Sheet")) m = some (some (.ref f)) ∧ PySem.W.isFn G.K (.ref f) = true ∧ Binds G.K fd ps [] ∧ ps.length = n ∧ FnOk G.P G.w G.K G.mg G.base (L2.CX G.P G.w) j f fd ps (spF G.K G.mg n F)
theorem sh_is {G : Gc} {m x qual : Str} {params : Arguments} {body : List Stmt} {scope : Scope} {f : Addr} {fd : FuncData} {N ps : List Str} {k : Nat} {g : SF} {F : List Dt → Option Rs} (hm : Meth G.K (He.ga G.K "Sheet") m f) (Fu : FunD G.K x qual params body scope [] [] f fd) (S : FnScope N ps scope) (hb : Binds G.K fd ps [])
    (hB : SB G N scope (fun x => true) k body g) (hF : ∀ ds r, ds.length = ps.length → F ds = some r → runB N.length g ds = some r) : ShS G m (k + 1) ps.length F :=
  ⟨f, fd, ps, hm.at_, hm.fn, hb, rfl, fn_okD Fu S hB hF⟩
def eSp (P : Dt → Bool) (F : List Dt → Option Rs) (f : EF) : EF := fun _ ρ => bnd (f false ρ) fun x => if isSht x = true then (match F [x] with
  | some (.val d) => if P d = true then some (.val d) else none
  | _ => none) else none
def lenOk : Dt → Bool
  | .int i => decide (0 ≤ i) && decide (i < 1000000)
  | _ => false
theorem RpB.ty1 {b : Bool} {K : PySem.W.Frag} {ow : Ow} {H : Hp} {v : V} {d : Dt} (S : ShK K) (h : RpB b K ow H v d) : ∃ t, TyX K H v t ∧ (isSht d = false → t = .type (tyN d)) ∧ (isSht d = true → t = .ref (He.ga K "Sheet")) := by
  have go : ∀ {d : Dt}, isSht d = false → TyX K H v (.type (tyN d)) → ∃ t, TyX K H v t ∧ (isSht d = false → t = .type (tyN d)) ∧ (isSht d = true → t = .ref (He.ga K "Sheet")) := fun {d} hs h => ⟨_, h, fun _ => rfl, fun z => by rw [hs] at z; cases z⟩
  cases d with
  | none => refine go rfl ?_; rw [h.none]; exact .base .non
  | bool b => refine go rfl ?_; rw [h.bool]; exact .base (.bl b)
  | int b => refine go rfl ?_; rw [h.int]; exact .base (.int b)
  | str b => refine go rfl ?_; rw [h.str]; exact .base (.str b)
  | list b => refine go rfl ?_; obtain ⟨a, vs, rfl, h1, _⟩ := h.list; exact .base (.lst h1)
  | tuple b => refine go rfl ?_; obtain ⟨a, vs, rfl, ⟨o, h1, _⟩, _⟩ := h.tuple; exact .fTuple h1
  | dict b =>
    rcases h.script with ⟨a, ns, rfl, rfl, h1⟩ | ⟨a, d, rfl, rfl, dx, fs, h1⟩
    · refine go (by show (!isScr _) = false; rw [isScr_map]; rfl) ?_
      have e : tyN (.dict (ns.map fun i => ((.int i : PyData), (.none : PyData)))) = "list" := by
        show (if isScr _ = true then "list" else "Sheet") = _
        rw [isScr_map]; rfl
      rw [e]
      rcases h1 with ⟨o, h1⟩ | ⟨o, its, n, h1, h2, _⟩
      · exact .base (.frz h1)
      · exact .kList h1 h2
    · exact ⟨_, .base (.ins h1 S.cl S.ha S.hn S.ht S.hm), ⟨fun z => (nomatch (show true = false from z)), fun _ => rfl⟩⟩
theorem tyN_mem {d : Dt} (h : isSht d = false) : tyN d ∈ ["NoneType", "bool", "int", "str", "list", "tuple"] := by
  cases d with
  | dict kv =>
    have e : isScr kv = true := by simpa [isSht] using h
    show (if isScr kv = true then "list" else "Sheet") ∈ _
    rw [e]
    decide
  | none => exact List.mem_cons_self
  | bool _ => show "bool" ∈ _; decide
  | int _ => show "int" ∈ _; decide
  | str _ => show "str" ∈ _; decide
  | list _ => show "list" ∈ _; decide
  | tuple _ => show "tuple" ∈ _; decide
section
variable {G : Gc} {N : List Str} {sc : Scope} {fn : Str → Bool} {k : Nat} {pos apos p p2 : Pos} {a b c : Expr} {es : List Expr} {f g h : EF} {ar : AF}
theorem se_lenS {j : Nat} {F : List Dt → Option Rs} (B : Bi G) (hF : ShS G "__len__" j 1 F) (ha : SE G N sc fn k a f) (hj : j + 1 ≤ k := by decide) (hg : GL sc "len" := by rfl) (ns : NS a := by intro _ _; rfl) : SE G N sc fn k (.Call (.Name "len" p) [a] [] pos) (eSp lenOk F f) := fun X C W tk b' => by
  obtain ⟨f0, fd, ps, h1, h2, h3, h4, h5⟩ := hF.ex
  rw [← C.hP, ← C.hw, ← C.hK, ← C.hmg, ← C.hb] at h5
  rw [← C.hK] at h1 h2 h3
  refine PE.imp (pe_callB (call_lenS h1 h2 h5 h3 (C.room.mono hj) (passes_call tk fun _ _ _ _ z => z.elim)) (C.gl hg) (by rw [C.hmg]; exact B.len) PySem.boot_len (pa_cons (ha X C W tk false) pa_nil (ns [] X.env)) (by decide) (by decide) (ns [] X.env) rfl) fun σ H Q h => ?_
  obtain ⟨ρ, ow, rs, he, gd, post⟩ := h
  refine tE.go gd he (fun n pl e => by subst e; exact post) fun d hd v H1 s1 r1 => ?_
  split at hd
  · rename_i hs
    split at hd
    · rename_i d2 hd2
      split at hd
      · rename_i hp
        cases hd
        obtain ⟨a', m', e1, h1', rfl, dx, fs, q1, _⟩ := r1.rp.isSh hs
        refine ⟨a', dx, fs, rfl, q1, rfl, OA ow, [d], .val d2, fun q hq => (gd.ok.same s1).at_ hq, .cons r1.rp .nil, hd2, fun v H' s' r' => ?_⟩
        cases d2 with
        | int i =>
          simp only [lenOk, Bool.and_eq_true, decide_eq_true_eq] at hp
          have e := (RpB.of (b := false) r').int
          subst e
          exact ⟨⟨i, rfl, hp.1, by omega⟩, post _ H' (s1.trans s') (.inl r')⟩
        | _ => cases hp
      · cases hd
    · cases hd
  · cases hd
theorem se_strS {j : Nat} {F : List Dt → Option Rs} (B : Bi G) (hF : ShS G "__str__" j 1 F) (ha : SE G N sc fn k a f) (hj : j + 2 ≤ k := by decide) (hg : GL sc "str" := by rfl) (ns : NS a := by intro _ _; rfl) : SE G N sc fn k (.Call (.Name "str" p) [a] [] pos) (eSp isStr F f) := fun X C W tk b' => by
  obtain ⟨f0, fd, ps, h1, h2, h3, h4, h5⟩ := hF.ex
  rw [← C.hP, ← C.hw, ← C.hK, ← C.hmg, ← C.hb] at h5
  rw [← C.hK] at h1 h2 h3
  refine PE.imp (pe_callTy (call_strS h1 h2 h5 h3 (C.room.mono hj) (passes_call tk fun _ _ _ _ z => z.elim)) (C.gl hg) (by rw [C.hmg]; exact B.str) PyProof.Rows.boot_str (pa_cons (ha X C W tk false) pa_nil (ns [] X.env)) (by decide) (by decide) (ns [] X.env) rfl) fun σ H Q h => ?_
  obtain ⟨ρ, ow, rs, he, gd, post⟩ := h
  refine tE.go gd he (fun n pl e => by subst e; exact post) fun d hd v H1 s1 r1 => ?_
  split at hd
  · rename_i hs
    split at hd
    · rename_i d2 hd2
      split at hd
      · rename_i hp
        cases hd
        obtain ⟨a', m', e1, h1', rfl, dx, fs, q1, _⟩ := r1.rp.isSh hs
        refine ⟨a', dx, fs, rfl, q1, rfl, OA ow, [d], .val d2, fun q hq => (gd.ok.same s1).at_ hq, .cons r1.rp .nil, hd2, fun v H' s' r' => ?_⟩
        cases d2 with
        | str i =>
          have e := (RpB.of (b := false) r').str
          subst e
          exact ⟨⟨i, rfl⟩, post _ H' (s1.trans s') (.inl r')⟩
        | _ => cases hp
      · cases hd
    · cases hd
  · cases hd
def eEqS (F : List Dt → Option Rs) (f g : EF) : EF := fun _ ρ => bnd (f false ρ) fun x => bnd (g false ρ) fun y => if isSht x = true then (match F [x, y] with
  | some (.val (.bool b)) => some (.val (.bool b))
  | _ => none) else none
theorem se_eqS {j : Nat} {F : List Dt → Option Rs} (B : Bi G) (nf : ∀ T ∈ ["NoneType", "bool", "int", "str", "list", "tuple"], PySem.W.notFirst G.K (He.ga G.K "Sheet") (.type T) = true) (hF : ShS G "__eq__" j 2 F) (ha : SE G N sc fn k a f) (hb : SE G N sc fn k b g) (hj : j ≤ k := by decide) (hm : behindInMarks .Eq b = false := by rfl) :
    SE G N sc fn k (.Compare a [.Eq] [b] pos) (eEqS F f g) := fun X C W tk b' => by
  obtain ⟨f0, fd, ps, h1, h2, h3, h4, h5⟩ := hF.ex
  rw [← C.hP, ← C.hw, ← C.hK, ← C.hmg, ← C.hb] at h5
  rw [← C.hK] at h1 h2 h3
  refine PE.imp (pe_cmpR (op_eqS h1 h2 h5 h3 (C.room.mono hj) (passes_call tk fun _ _ _ _ z => z.elim)) (ha X C W tk false) (hb X C W tk false) hm) fun σ H Q h => ?_
  obtain ⟨ρ, ow, rs, he, gd, post⟩ := h
  refine tE.go gd he (fun n pl e => by subst e; exact post) fun d hd v H1 s1 r1 => ?_
  refine tE.go (gd.same s1) hd (fun n pl e => by subst e; exact post.same s1) fun d2 hd2 v2 H2 s2 r2 => ?_
  split at hd2
  · rename_i hs
    split at hd2
    · rename_i b0 hd3
      cases hd2
      obtain ⟨a', m', e1, h1', rfl, dx, fs, q1, _⟩ := r1.rp.isSh hs
      obtain ⟨t, t1, t2, t3⟩ := r2.ty1 (by rw [C.hK]; exact B.sht)
      refine ⟨a', dx, fs, t, rfl, s2 _ _ q1, t1, ?_, rfl, OA ow, [d, d2], .val (.bool b0), fun q hq => (gd.ok.same (s1.trans s2)).at_ hq, .cons (Rp.same s2 r1.rp) (.cons r2.rp .nil), hd3, fun v H' s' r' => ?_⟩
      · cases hsh : isSht d2 with
        | false => rw [t2 hsh, C.hK]; exact nf _ (tyN_mem hsh)
        | true => rw [t3 hsh]; unfold PySem.W.notFirst; simp
      · have e := (RpB.of (b := false) r').bool
        subst e
        exact ⟨⟨b0, rfl⟩, post _ H' ((s1.trans s2).trans s') (.inl r')⟩
    · cases hd2
  · cases hd2
/-- isinstance(x, Sheet) -/
def eIsS (f : EF) : EF := fun _ ρ => bnd (f true ρ) fun x => some (.val (.bool (isSht x)))
theorem se_isS (B : Bi G) (S : ShX G.K) (hmS : G.mg "Sheet" = some (.ref (He.ga G.K "Sheet"))) (ha : SE G N sc fn k a f) (hg : GL sc "isinstance" := by rfl) (hg2 : GL sc "Sheet" := by rfl) (ns : NS a := by intro _ _; rfl) :
    SE G N sc fn k (.Call (.Name "isinstance" p) [a, .Name "Sheet" p2] [] pos) (eIsS f) := fun X C W tk b' =>
  PE.imp (pe_callB call_isi (C.gl hg) (by rw [C.hmg]; exact B.isinstance) boot_isinstance (pa_cons (ha X C W tk true) (pa_cons (pe_glob (v := .ref (He.ga G.K "Sheet")) (C.gl hg2) (by rw [C.hmg]; exact hmS) rfl (by decide)) pa_nil) (ns _ X.env)) (by decide) (by decide) (ns _ X.env) rfl) fun σ H Q h => by
    obtain ⟨ρ, ow, rs, he, gd, post⟩ := h
    refine tE.go gd he (fun n pl e => by subst e; exact post) fun d hd1 v H1 s1 r1 => ?_
    cases hd1
    obtain ⟨t, h1, h2, h3⟩ := r1.ty1 (by rw [C.hK]; exact B.sht)
    refine ⟨v, .ref (He.ga G.K "Sheet"), t, _, isSht d, rfl, .own _, h1, ?_, post _ H1 s1 (.inl (.bl _))⟩
    cases hsh : isSht d with
    | false => rw [h2 hsh, C.hK]; exact S.noC _ (tyN_mem hsh)
    | true => rw [h3 hsh, C.hK]; exact S.me
/-- str(text) -/
def dStrS : Dt → Option Dt
  | .str z => some (.str z)
  | _ => none
theorem se_strStr (B : Bi G) (ha : SE G N sc fn k a f) (hg : GL sc "str" := by rfl) (ns : NS a := by intro _ _; rfl) : SE G N sc fn k (.Call (.Name "str" p) [a] [] pos) (eUn dStrS f) :=
  se_t1 (r := fun K xs H Q => ∃ a, xs = [.str a] ∧ Q (.str a) H) (fun X _ => SkE.call_str_str) (fun K x H Q ow dx dz ok rx e post => by
    unfold dStrS at e
    split at e
    · cases e
      obtain rfl := rx.str
      exact ⟨_, rfl, post _ H (Same.refl H) (.str _)⟩
    · cases e) B.str PyProof.Rows.boot_str ha hg (by decide) (by decide) ns
end
end PT

namespace PT
open PySem PySem.Spec PyProof.Rows L2
/-! ## sheets that change -/
/-- the sheet at a, its lists at e and h -/
structure At3 (K : PySem.W.Frag) (O : Addr → Prop) (H : Hp) (a e h : Addr) (m : Int) (es hs : List Dt) : Prop where
  f : ShF K H a m e h
  ne : e ≠ h
  l1 : ∃ vs, H e = some (.lst vs) ∧ RpAll K O H vs es
  l2 : ∃ ws, H h = some (.lst ws) ∧ RpAll K O H ws hs
def KpX (e h : Addr) (H H' : Hp) : Prop := ∀ b o, H b = some o → b ≠ e → b ≠ h → H' b = some o
theorem At3.ae {K : PySem.W.Frag} {O : Addr → Prop} {H : Hp} {a e h : Addr} {m : Int} {es hs : List Dt} (t : At3 K O H a e h m es hs) : a ≠ e ∧ a ≠ h := by
  obtain ⟨dx, fs, q, _⟩ := t.f
  obtain ⟨vs, h1, _⟩ := t.l1
  obtain ⟨ws, h2, _⟩ := t.l2
  refine ⟨fun z => ?_, fun z => ?_⟩
  · rw [z, h1] at q; cases q
  · rw [z, h2] at q; cases q
theorem At3.same {K : PySem.W.Frag} {O : Addr → Prop} {H H' : Hp} {a e h : Addr} {m : Int} {es hs : List Dt} (t : At3 K O H a e h m es hs) (s : Same H H') : At3 K O H' a e h m es hs :=
  ⟨t.f.imp fun o q => s _ _ q, t.ne, let ⟨vs, h1, r⟩ := t.l1; ⟨vs, s _ _ h1, RpAll.same s r⟩, let ⟨ws, h1, r⟩ := t.l2; ⟨ws, s _ _ h1, RpAll.same s r⟩⟩
theorem At3.fresh {K : PySem.W.Frag} {O O' : Addr → Prop} {H : Hp} {a e h : Addr} {m : Int} {es hs : List Dt} (t : At3 K O H a e h m es hs) (n : ∀ a o, H a = some o → ¬ O a → ¬ O' a) : At3 K O' H a e h m es hs :=
  ⟨t.f, t.ne, let ⟨vs, h1, r⟩ := t.l1; ⟨vs, h1, RpAll.fresh n r⟩, let ⟨ws, h1, r⟩ := t.l2; ⟨ws, h1, RpAll.fresh n r⟩⟩
theorem At3.rp {K : PySem.W.Frag} {O : Addr → Prop} {H : Hp} {a e h : Addr} {m : Int} {es hs : List Dt} (t : At3 K O H a e h m es hs) (n1 : ¬ O a) (n2 : ¬ O e) (n3 : ¬ O h) : Rp K O H (.ref a) (shD m es hs) := by
  obtain ⟨vs, h1, r1⟩ := t.l1
  obtain ⟨ws, h2, r2⟩ := t.l2
  exact .sht t.f h1 h2 n1 n2 n3 r1 r2
/-! ### made -/
/-- what Sheet.__init__ keeps -/
def spI (K : PySem.W.Frag) : Sp := fun vs H Q _ => ∃ (x dx : Addr) (m : Nat), vs = [.ref x, .int (m : Int)] ∧ H x = some (.ins (He.ga K "Sheet") dx []) ∧ 2 ≤ m ∧ m ≤ 12 ∧
  ∀ (H' : Hp) (e h : Addr), (∀ b o, b ≠ x → H b = some o → H' b = some o) → H e = none → H h = none → (∀ O, At3 K O H' x e h m (List.replicate m .none) []) → Q .non H'
def NewS (G : Gc) (j : Nat) : Prop := ∃ fI fd, Mk G.K (He.ga G.K "Sheet") fI ∧ Binds G.K fd ["self", "modulus"] [] ∧ FnOk G.P G.w G.K G.mg G.base (L2.CX G.P G.w) j fI fd ["self", "modulus"] (spI G.K) ∧ G.mg "Sheet" = some (.ref (He.ga G.K "Sheet"))
def newD : Dt → Option (Nat × Dt)
  | .int m => if 2 ≤ m ∧ m ≤ 12 then some (m.toNat, shD m (List.replicate m.toNat .none) []) else none
  | _ => none
def eNew (f : EF) : EF := fun _ ρ => bnd (f false ρ) fun x => (newD x).map fun q => .val q.2
section
variable {G : Gc} {N : List Str} {sc : Scope} {fn : Str → Bool} {k : Nat} {pos apos p p2 : Pos} {a b c : Expr} {es : List Expr} {f g h : EF} {ar : AF}
/-- Sheet(e), e a modulus: what is known of the new thing -/
def tNew (K : PySem.W.Frag) (mg : Str → Option Value) (W : WX) (f : EF) : TE := fun σ H Q => ∃ ρ ow d m dd, f false ρ = some (.val d) ∧ newD d = some (m, dd) ∧ Good K ow ρ σ H ∧
  ∀ x e h H', Same H H' → H x = none → H e = none → H h = none → (∀ O, At3 K O H' x e h (m : Nat) (List.replicate m .none) []) → Q (.ref x) H'
theorem pe_newS {j : Nat} (hN : NewS G j) {X : Cx} (C : Ctx G N sc fn k X) {W : WX} (tk : Takes X W) (ha : SE G N sc fn k a f) (hj : j + 1 ≤ k) (hg : GL sc "Sheet") (ns : NS a) : PE X (.Call (.Name "Sheet" p) [a] [] pos) (tNew X.K X.mg W f) := by
  obtain ⟨fI, fd, h1, h2, h3, h4⟩ := hN
  rw [← C.hP, ← C.hw, ← C.hK, ← C.hmg, ← C.hb] at h3
  rw [← C.hK] at h1 h2
  refine PE.imp (pe_make (E := noX) (dvs := []) h1 h3 (C.room.mono hj) (C.gl hg) (by rw [C.hmg, C.hK]; exact h4) h2 .nil (passes_call tk fun _ _ _ _ z => z.elim) (pa_cons (ha X C W tk false) pa_nil (ns [] X.env)) (by decide) (ns [] X.env) rfl) fun σ H Q h => ?_
  obtain ⟨ρ, ow, d, m, dd, he, hn, gd, post⟩ := h
  refine ⟨ρ, ow, .val d, he, gd, fun v H1 s1 r1 x dx hx hdx hne => ?_⟩
  unfold newD at hn
  split at hn
  · rename_i i
    split at hn
    · rename_i hm
      cases hn
      obtain rfl := r1.int
      have e0 : (i : Int) = ((i.toNat : Nat) : Int) := by omega
      refine ⟨x, dx, i.toNat, by rw [← e0]; rfl, upd_same, by omega, by omega, fun H' e h k1 he1 hh1 t => ⟨rfl, ?_⟩⟩
      have ox : ∀ {b : Addr}, upd (upd H1 dx (.own x)) x (.ins (He.ga X.K "Sheet") dx []) b = none → H1 b = none := fun {b} hb => by
        by_cases e1 : b = x
        · rw [e1]; exact hx
        · rw [upd_ne e1] at hb
          by_cases e2 : b = dx
          · rw [e2]; exact hdx
          · rw [upd_ne e2] at hb; exact hb
      have sm : Same H1 H' := fun b o hb => k1 b o (ne_of_none hb hx) (by rw [upd_ne (ne_of_none hb hx), upd_ne (ne_of_none hb hdx)]; exact hb)
      have old : ∀ {b : Addr}, H1 b = none → H b = none := fun {b} hb => by
        cases q : H b with
        | none => rfl
        | some o => rw [s1 b o q] at hb; cases hb
      exact post x e h H' (s1.trans sm) (old hx) (old (ox he1)) (old (ox hh1)) t
    · cases hn
  · cases hn
theorem se_new {j : Nat} (hN : NewS G j) (ha : SE G N sc fn k a f) (hj : j + 1 ≤ k := by decide) (hg : GL sc "Sheet" := by rfl) (ns : NS a := by intro _ _; rfl) : SE G N sc fn k (.Call (.Name "Sheet" p) [a] [] pos) (eNew f) := fun X C W tk b' => ⟨fun pins s σ H Q I h => by
  obtain ⟨ρ, ow, rs, he, gd, post⟩ := h
  unfold eNew at he
  cases h1 : f false ρ with
  | none => rw [h1] at he; cases he
  | some r1 =>
    rw [h1] at he
    cases r1 with
    | exc n pl =>
      cases he
      have hN' := hN
      obtain ⟨fI, fd, q1, q2, q3, q4⟩ := hN'
      rw [← C.hP, ← C.hw, ← C.hK, ← C.hmg, ← C.hb] at q3
      rw [← C.hK] at q1 q2
      exact (pe_make (E := noX) (dvs := []) q1 q3 (C.room.mono hj) (C.gl hg) (by rw [C.hmg, C.hK]; exact q4) q2 .nil (passes_call tk fun _ _ _ _ z => z.elim) (pa_cons (ha X C W tk false) pa_nil (ns [] X.env)) (by decide) (ns [] X.env) rfl).run pins s σ H Q I ⟨ρ, ow, _, h1, gd, post⟩
    | val d =>
      rw [w_bnd] at he
      cases hn : newD d with
      | none => rw [hn] at he; cases he
      | some q =>
        rw [hn] at he
        cases he
        obtain ⟨m, dd⟩ := q
        refine (pe_newS hN C tk ha hj hg ns).run pins s σ H Q I ⟨ρ, ow, d, m, dd, h1, hn, gd, fun x e h H' s' hx he hh t => post (.ref x) H' s' (.inl ?_)⟩
        have e1 : dd = shD (m : Nat) (List.replicate m .none) [] := by
          unfold newD at hn
          split at hn
          · split at hn
            · rename_i i hm
              cases hn
              rw [Int.toNat_of_nonneg (by omega)]
            · cases hn
          · cases hn
        rw [e1]
        have nn : ∀ {b : Addr}, H b = none → ¬ OA ow b := fun {b} hb => gd.ok.new hb
        exact (t (OA ow)).rp (nn hx) (nn he) (nn hh)⟩
end
/-! ### methods that change it -/
abbrev FX := Int → List Dt → List Dt → List Dt → Option (Rs × List Dt × List Dt)
def spX (K : PySem.W.Frag) (mg : Str → Option Value) (n : Nat) (F : FX) : Sp := fun vs H Q E => vs.length = n ∧ ∃ (a e h : Addr) (m : Int) (es hs : List Dt) (O : Addr → Prop) (us : List V) (ds : List Dt) (r : Rs) (es' hs' : List Dt), vs = .ref a :: us ∧ At3 K O H a e h m es hs ∧ (O a ∧ O e ∧ O h) ∧ (∀ x, O x → H x ≠ none) ∧ RpAll K O H us ds ∧ F m es hs ds = some (r, es', hs') ∧
  match r with
    | .val d => ∀ v H', KpX e h H H' → At3 K O H' a e h m es' hs' → Rp K O H' v d → Q v H'
    | .exc n pl => ∀ cls d H', mg n = some cls → Same H H' → PayOk K H' d pl → E cls d H'
def MtX (G : Gc) (m : Str) (j n : Nat) (F : FX) : Prop :=
  ∃ f fd ps, Meth G.K (He.ga G.K "Sheet") m f ∧ Binds G.K fd ps [] ∧ ps.length = n ∧ FnOk G.P G.w G.K G.mg G.base (L2.CX G.P G.w) j f fd ps (spX G.K G.mg n F)
def FnX (G : Gc) (x : Str) (j n : Nat) (F : FX) : Prop :=
  ∃ f fd ps, G.mg x = some (.ref f) ∧ PySem.W.keepIn G.K (.ref f) = true ∧ Binds G.K fd ps [] ∧ ps.length = n ∧ FnOk G.P G.w G.K G.mg G.base (L2.CX G.P G.w) j f fd ps (spX G.K G.mg n F)
/-- what the body of such a def may take the sheet for, while it only reads -/
def Oless (O : Addr → Prop) (a e h : Addr) : Addr → Prop := fun x => O x ∧ x ≠ a ∧ x ≠ e ∧ x ≠ h
theorem good_x {K : PySem.W.Frag} {O : Addr → Prop} {H : Hp} {a e h : Addr} {m : Int} {es hs : List Dt} {us : List V} {ds : List Dt} {N : List Str} (t : At3 K O H a e h m es hs) (hO : ∀ x, O x → H x ≠ none) (r : RpAll K O H us ds) :
    Good K (Ow.out (Oless O a e h)) (start0 N.length (shD m es hs :: ds)) (L2.start N (.ref a :: us)) H := by
  have nn : ∀ b o, H b = some o → ¬ O b → ¬ Oless O a e h b := fun b o _ n z => n z.1
  refine good0 (fun x q => hO x q.1) (.cons ?_ (RpAll.fresh nn r))
  exact (t.fresh nn).rp (fun z => z.2.1 rfl) (fun z => z.2.2.1 rfl) (fun z => z.2.2.2 rfl)
/-- Sheet(e).m(..): the new sheet is let go -/
def eNewM (n : Nat) (F : FX) (f : EF) (g : AF) : EF := fun _ ρ => bnd (f false ρ) fun x => match newD x with
  | some (m, _) => bndA (g ρ) fun ds => if ds.length + 1 = n ∧ ds.all scl = true then (F (m : Nat) (List.replicate m .none) [] ds).map (·.1) else none
  | none => none
theorem RpAll.scl {K : PySem.W.Frag} {O O' : Addr → Prop} {H H' : Hp} : ∀ {vs : List V} {ds : List Dt}, RpAll K O H vs ds → ds.all PT.scl = true → RpAll K O' H' vs ds
  | _, _, .nil, _ => .nil
  | _, _, .cons a r, h => by
    rw [List.all_cons, Bool.and_eq_true] at h
    exact .cons (a.scl h.1) (RpAll.scl r h.2)
section
variable {G : Gc} {N : List Str} {sc : Scope} {fn : Str → Bool} {k : Nat} {pos apos p p2 q1 : Pos} {a b c : Expr} {es : List Expr} {f g h : EF} {ar : AF}
theorem newm_post {X : Cx} {W : WX} {σ : L2.St} {H : Hp} {Q : VK} {ow : Ow} {ρ : En} {b' : Bool} {m n : Nat} {F : FX} {ds : List Dt} {us : List V} {r : Rs} {H1 : Hp} {x e h : Addr} (gd : Good X.K ow ρ σ H) (s1 : Same H H1) (hx : H x = none) (he : H e = none) (hh : H h = none)
    (t : ∀ O, At3 X.K O H1 x e h (m : Nat) (List.replicate m .none) []) (r2 : RpAll X.K (OA ow) H1 us ds) (hn : ds.length + 1 = n) (hsc : ds.all scl = true)
    (post : match r with
      | .val d => ∀ v H', Same H H' → RpB b' X.K ow H' v d → Q v H'
      | .exc n pl => ExP X.K X.mg W σ H n pl) (hF : (F (m : Nat) (List.replicate m .none) [] ds).map (·.1) = some r) : spX X.K X.mg n F (.ref x :: us) H1 Q (WE W σ) := by
  cases hq : F (m : Nat) (List.replicate m .none) [] ds with
  | none => rw [hq] at hF; cases hF
  | some q =>
    obtain ⟨r0, es', hs'⟩ := q
    rw [hq] at hF
    have hF : r0 = r := Option.some.inj hF
    subst hF
    let O : Addr → Prop := fun y => OA ow y ∨ y = x ∨ y = e ∨ y = h
    have hxe := (t O).ae
    obtain ⟨dx, fs, k1, _⟩ := (t O).f
    obtain ⟨vs, k2, _⟩ := (t O).l1
    obtain ⟨ws, k3, _⟩ := (t O).l2
    have r3 : RpAll X.K O H1 us ds := r2.scl hsc
    refine ⟨by rw [List.length_cons, r2.length]; exact hn, x, e, h, m, _, _, O, us, ds, r0, es', hs', rfl, t O, ⟨.inr (.inl rfl), .inr (.inr (.inl rfl)), .inr (.inr (.inr rfl))⟩, ?_, r3, hq, ?_⟩
    · rintro y (z | rfl | rfl | rfl)
      · exact (gd.ok.same s1).at_ z
      · rw [k1]; exact fun z => nomatch z
      · rw [k2]; exact fun z => nomatch z
      · rw [k3]; exact fun z => nomatch z
    · cases r0 with
      | val d => exact fun v H' kp t' r' => post v H' (fun b o hb => kp b o (s1 b o hb) (ne_of_none hb he) (ne_of_none hb hh)) (.inl (Rp.fresh (fun _ _ _ n z => n (.inl z)) r'))
      | exc n pl => exact fun cls d H' hc s' pk => post cls d H' hc (s1.trans s') pk
theorem se_newm {x : Str} {j j2 n : Nat} {F : FX} {pl : PySem.Env → Sem Bool} (B : Bi G) (hN : NewS G j) (hF : MtX G x j2 n F) (ha : SE G N sc fn k a f) (hr : SAs G N sc fn k (b :: es) ar) (hm0 : x ∈ shM := by decide) (hj : j + 1 ≤ k := by decide) (hj2 : j2 ≤ k := by decide) (hg : GL sc "Sheet" := by rfl) (ns : NS a := by intro _ _; rfl)
    (ht : ∀ env : PySem.Env, eval (.Call (.Attribute (.Call (.Name "Sheet" p) [a] [] p2) x apos) (b :: es) [] pos) env = (do
      let ov ← eval (.Call (.Name "Sheet" p) [a] [] p2) env
      standAt apos.atName
      let (f, first) ← holding [ov] (getMethod ov x (pl env))
      callWith pos f first (backTo pos (starEach (b :: es) env)) (backToKw pos (keywordEach [] env))) := by intro _; rfl) :
    SE G N sc fn k (.Call (.Attribute (.Call (.Name "Sheet" p) [a] [] p2) x apos) (b :: es) [] pos) (eNewM n F f ar) := fun X C W tk b' => ⟨fun pins s σ H Q I h => by
  obtain ⟨f0, fd, ps, hm, hb, hl, hok⟩ := hF
  rw [← C.hP, ← C.hw, ← C.hK, ← C.hmg, ← C.hb] at hok
  rw [← C.hK] at hm hb
  have na := hr.ns b List.mem_cons_self
  obtain ⟨ρ, ow, rs, he, gd, post⟩ := h
  unfold eNewM at he
  cases h1 : f false ρ with
  | none => rw [h1] at he; cases he
  | some r1 =>
    rw [h1] at he
    cases r1 with
    | exc n pl =>
      cases he
      have q := pe_mtS (E := WE W) (se_new (p := p) (pos := p2) hN ha hj hg ns X C W tk true) (by rw [C.hK]; exact B.sht.cl) hm hok (C.room.mono hj2) hb (fun σ => passAt tk σ) (hr.pa X C W tk) (na es X.env) (noStar _ _ _ fun e he => hr.ns e (List.mem_cons_of_mem _ he)) (ht X.env)
      exact q.run pins s σ H Q I ⟨ρ, ow, _, (by show bnd (f false ρ) _ = _; rw [h1]; rfl), gd, post⟩
    | val d =>
      rw [w_bnd] at he
      have q := pe_mtS (E := WE W) (pe_newS (p := p) (pos := p2) hN C tk ha hj hg ns) (by rw [C.hK]; exact B.sht.cl) hm hok (C.room.mono hj2) hb (fun σ => passAt tk σ) (hr.pa X C W tk) (na es X.env) (noStar _ _ _ fun e he => hr.ns e (List.mem_cons_of_mem _ he)) (ht X.env)
      cases hn : newD d with
      | none => rw [hn] at he; cases he
      | some q0 =>
        obtain ⟨m, dd⟩ := q0
        rw [hn] at he
        refine q.run pins s σ H Q I ⟨ρ, ow, d, m, dd, h1, hn, gd, fun x0 e0 h0 H1 s1 hx0 he0 hh0 t => ?_⟩
        obtain ⟨dx, fs, k1, _, _, _, _, k2⟩ := (t NoO).f
        refine ⟨x0, dx, fs, rfl, by rw [C.hK] at k1 ⊢; exact k1, k2 x hm0, ?_⟩
        refine tA.go (gd.same s1) he (fun n pl e => by subst e; exact ExP.same post s1) fun ds hd2 us H2 s2 r2 => ?_
        split at hd2
        · rename_i hc
          exact newm_post (b' := b') gd (s1.trans s2) hx0 he0 hh0 (fun O => (t O).same s2) r2 hc.1 hc.2 post hd2
        · cases hd2⟩
theorem se_newm0 {x : Str} {j j2 : Nat} {F : FX} {pl : PySem.Env → Sem Bool} (B : Bi G) (hN : NewS G j) (hF : MtX G x j2 1 F) (ha : SE G N sc fn k a f) (hm0 : x ∈ shM := by decide) (hj : j + 1 ≤ k := by decide) (hj2 : j2 ≤ k := by decide) (hg : GL sc "Sheet" := by rfl) (ns : NS a := by intro _ _; rfl)
    (ht : ∀ env : PySem.Env, eval (.Call (.Attribute (.Call (.Name "Sheet" p) [a] [] p2) x apos) [] [] pos) env = (do
      let ov ← eval (.Call (.Name "Sheet" p) [a] [] p2) env
      standAt apos.atName
      let (f, first) ← holding [ov] (getMethod ov x (pl env))
      callWith pos f first (backTo pos (starEach [] env)) (backToKw pos (keywordEach [] env))) := by intro _; rfl) :
    SE G N sc fn k (.Call (.Attribute (.Call (.Name "Sheet" p) [a] [] p2) x apos) [] [] pos) (eNewM 1 F f aNil) := fun X C W tk b' => ⟨fun pins s σ H Q I h => by
  obtain ⟨f0, fd, ps, hm, hb, hl, hok⟩ := hF
  rw [← C.hP, ← C.hw, ← C.hK, ← C.hmg, ← C.hb] at hok
  rw [← C.hK] at hm hb
  obtain ⟨ρ, ow, rs, he, gd, post⟩ := h
  unfold eNewM at he
  cases h1 : f false ρ with
  | none => rw [h1] at he; cases he
  | some r1 =>
    rw [h1] at he
    cases r1 with
    | exc n pl =>
      cases he
      have q := pe_mtS0 (E := WE W) (se_new (p := p) (pos := p2) hN ha hj hg ns X C W tk true) (by rw [C.hK]; exact B.sht.cl) hm hok (C.room.mono hj2) hb (fun σ => passAt tk σ) (ht X.env)
      exact q.run pins s σ H Q I ⟨ρ, ow, _, (by show bnd (f false ρ) _ = _; rw [h1]; rfl), gd, post⟩
    | val d =>
      rw [w_bnd] at he
      have q := pe_mtS0 (E := WE W) (pe_newS (p := p) (pos := p2) hN C tk ha hj hg ns) (by rw [C.hK]; exact B.sht.cl) hm hok (C.room.mono hj2) hb (fun σ => passAt tk σ) (ht X.env)
      cases hn : newD d with
      | none => rw [hn] at he; cases he
      | some q0 =>
        obtain ⟨m, dd⟩ := q0
        rw [hn] at he
        refine q.run pins s σ H Q I ⟨ρ, ow, d, m, dd, h1, hn, gd, fun x0 e0 h0 H1 s1 hx0 he0 hh0 t => ?_⟩
        obtain ⟨dx, fs, k1, _, _, _, _, k2⟩ := (t NoO).f
        refine ⟨x0, dx, fs, rfl, by rw [C.hK] at k1 ⊢; exact k1, k2 x hm0, ?_⟩
        have he : (if ([] : List Dt).length + 1 = 1 ∧ ([] : List Dt).all scl = true then (F (m : Nat) (List.replicate m .none) [] []).map (·.1) else none) = some rs := he
        rw [if_pos ⟨rfl, rfl⟩] at he
        exact newm_post (b' := b') gd s1 hx0 he0 hh0 t .nil rfl rfl post he⟩
end
end PT

namespace PT
open PySem PySem.Spec PyProof.Rows L2
/-! ## what the methods of a sheet do -/
theorem good_s {K : PySem.W.Frag} {ρ : En} {σ : L2.St} {H : Hp} (hl : ρ.length = σ.length) (hs : ∀ (i : Nat) (s : SV), ρ[i]? = some (some s) → ∃ v d, s = .sh d ∧ σ[i]? = some (some v) ∧ Rp K NoO H v d) : Good K (Ow.out NoO) ρ σ H := by
  refine ⟨hl, fun i j a h => (nomatch h), ⟨fun i a h => (nomatch h), fun _ h => h.elim, fun _ _ h => h.elim⟩, fun i a h => (nomatch h), fun i s h => ?_, fun i a h => (nomatch h), fun _ _ _ h => h.elim, fun _ _ _ h => h.elim, fun _ _ h => h.elim, fun _ _ h => h.elim⟩
  obtain ⟨v, d, rfl, hv, r⟩ := hs i s h
  refine ⟨v, hv, Rp.fresh (fun _ _ _ _ z => ?_) r⟩
  rcases z with ⟨i, z | z⟩ | z
  · cases z
  · exact z
  · exact z
theorem Kp.out {O : Addr → Prop} {H H' : Hp} (k : Kp (Ow.out O) H H') : Same H H' := fun a o h => k.keep a o h fun ⟨i, hi⟩ => hi.elim (fun z => by cases z) fun z => z
mutual
theorem Rp.kpx {K : PySem.W.Frag} {O : Addr → Prop} {H H' : Hp} {e h : Addr} (he : O e ∧ ∃ vs, H e = some (.lst vs)) (hh : O h ∧ ∃ vs, H h = some (.lst vs)) (k : KpX e h H H') : ∀ {v : V} {d : Dt}, Rp K O H v d → Rp K O H' v d
  | _, _, .non => .non
  | _, _, .bl b => .bl b
  | _, _, .int i => .int i
  | _, _, .str x => .str x
  | _, _, .lst q n r => .lst (k _ _ q (fun z => n (by rw [z]; exact he.1)) (fun z => n (by rw [z]; exact hh.1))) n (RpAll.kpx he hh k r)
  | _, _, .tup ⟨o, q, hd⟩ r => .tup ⟨o, k _ _ q (fun z => by obtain ⟨vs, y⟩ := he.2; rw [z, y] at q; cases q) (fun z => by obtain ⟨vs, y⟩ := hh.2; rw [z, y] at q; cases q), hd⟩ (RpAll.kpx he hh k r)
  | _, _, .scr q => .scr (q.imp fun _ _ q => k _ _ q (fun z => by obtain ⟨vs, y⟩ := he.2; rw [z, y] at q; cases q) (fun z => by obtain ⟨vs, y⟩ := hh.2; rw [z, y] at q; cases q))
  | _, _, .sht f q1 q2 n1 n2 n3 r1 r2 => .sht (f.imp fun o q => k _ _ q (fun z => n1 (by rw [z]; exact he.1)) (fun z => n1 (by rw [z]; exact hh.1))) (k _ _ q1 (fun z => n2 (by rw [z]; exact he.1)) (fun z => n2 (by rw [z]; exact hh.1))) (k _ _ q2 (fun z => n3 (by rw [z]; exact he.1)) (fun z => n3 (by rw [z]; exact hh.1))) n1 n2 n3 (RpAll.kpx he hh k r1) (RpAll.kpx he hh k r2)
theorem RpAll.kpx {K : PySem.W.Frag} {O : Addr → Prop} {H H' : Hp} {e h : Addr} (he : O e ∧ ∃ vs, H e = some (.lst vs)) (hh : O h ∧ ∃ vs, H h = some (.lst vs)) (k : KpX e h H H') : ∀ {vs : List V} {ds : List Dt}, RpAll K O H vs ds → RpAll K O H' vs ds
  | _, _, .nil => .nil
  | _, _, .cons a r => .cons (Rp.kpx he hh k a) (RpAll.kpx he hh k r)
end
theorem rp_nones {K : PySem.W.Frag} {O : Addr → Prop} {H : Hp} : ∀ {n : Nat} {vs : List V}, RpAll K O H vs (List.replicate n .none) → vs = List.replicate n .non
  | 0, _, .nil => rfl
  | n + 1, _, h => by
    rw [List.replicate_succ] at h
    cases h with
    | cons a r => cases a; rw [rp_nones r]; rfl
theorem nones_rp {K : PySem.W.Frag} {O : Addr → Prop} {H : Hp} : ∀ n : Nat, RpAll K O H (List.replicate n .non) (List.replicate n .none)
  | 0 => .nil
  | n + 1 => by rw [List.replicate_succ, List.replicate_succ]; exact .cons .non (nones_rp n)
section
variable {K : PySem.W.Frag} {mg : Str → Option Value} {H : Hp} {Q : VK} {E : XK}
theorem if_pos_of {c : Prop} [Decidable c] {A B : Prop} (h : c) (a : A) : if c then A else B := by rw [if_pos h]; exact a
theorem if_neg_of {c : Prop} [Decidable c] {A B : Prop} (h : ¬ c) (b : B) : if c then A else B := by rw [if_neg h]; exact b
/-- __init__ -/
theorem init_sem {F : List Dt → Option Rs} (S : ShK K) (S2 : ShX K) (hF : ∀ m : Nat, 2 ≤ m → m ≤ 12 → F [.int (m : Int)] = some (.val .none)) {vs : List V} (h : spI K vs H Q E) :
    tSeq (tDrop (tE K mg (fun cls d _ H => E cls d H) true (eFn 1 F (aCons (eVar 1) aNil)))) (tSeq (sFld K (tVar 0) (tVar 1) "modulus") (tSeq (sFld K (tVar 0) (tL K mg (fun cls d _ H => E cls d H) (eBin dMul (eLst (aCons (eC .none) aNil)) (eVar 1))) "entries") (sFld K (tVar 0) (tL K mg (fun cls d _ H => E cls d H) (eLst aNil)) "history")))
      { nx := fun _ H' => Q .non H', rt := Q } (L2.start ["self", "modulus"] vs) H := by
  obtain ⟨x, dx, m, rfl, hx, h2, h12, q⟩ := h
  have gd : ∀ {H : Hp}, Good K (Ow.out NoO) [none, some (.sh (.int (m : Int)))] (L2.start ["self", "modulus"] [.ref x, .int (m : Int)]) H := fun {H} => good_s rfl fun i s hs => by
    match i, hs with
    | 0, hs => cases hs
    | 1, hs => cases hs; exact ⟨_, _, rfl, rfl, .int _⟩
    | _ + 2, hs => cases hs
  refine ⟨_, _, _, (show eFn 1 F (aCons (eVar 1) aNil) true [none, some (.sh (.int (m : Int)))] = F [.int (m : Int)] from rfl).trans (hF m h2 h12), gd, fun v H1 s1 _ => ?_⟩
  refine ⟨.int (m : Int), rfl, .ref x, rfl, x, _, dx, [], rfl, s1 _ _ hx, S.cl, S2.na _ (by decide), by decide, ?_⟩
  have hz : dMul (.list [.none]) (.int (m : Int)) = some (.list (List.replicate m .none)) := by
    show (if [PyData.none].length * (m : Int).toNat ≤ lim ∧ okI (m : Int) = true then some (PyData.list (List.replicate (m : Int).toNat [PyData.none]).flatten) else none) = _
    rw [if_pos ⟨by unfold lim; simp; omega, okI_iff.mpr (by omega)⟩, Int.toNat_natCast, List.flatten_replicate_singleton]
  refine ⟨_, _, .val (.list (List.replicate m .none)), (show eBin dMul (eLst (aCons (eC .none) aNil)) (eVar 1) true [none, some (.sh (.int (m : Int)))] = (dMul (.list [.none]) (.int (m : Int))).map .val from rfl).trans (by rw [hz]; rfl), gd, _, rfl, fun e vs H2 s2 he r2 => ?_⟩
  have e2 := rp_nones r2
  subst e2
  have nex : e ≠ x := fun z => by
    subst z
    have := s2 _ _ (show upd H1 e (.ins (He.ga K "Sheet") dx (putF "modulus" (.int (m : Int)) [])) e = _ from upd_same)
    rw [he] at this; cases this
  refine ⟨.ref x, rfl, x, _, dx, _, rfl, by rw [upd_ne (Ne.symm nex)]; exact s2 _ _ upd_same, S.cl, S2.na _ (by decide), by show 1 < 1000; decide, ?_⟩
  refine ⟨_, _, .val (.list []), rfl, gd, _, rfl, fun h ws H3 s3 hh r3 => ?_⟩
  cases r3
  have k3 : ∀ {b : Addr} {o : HO}, upd (upd H2 e (.lst (List.replicate m .non))) x (.ins (He.ga K "Sheet") dx (putF "entries" (.ref e) (putF "modulus" (.int (m : Int)) []))) b = some o → H3 b = some o := fun {b o} z => s3 _ _ z
  have nhx : h ≠ x := fun z => by
    subst z
    have := k3 upd_same
    rw [hh] at this; cases this
  have nhe : h ≠ e := fun z => by
    subst z
    have := k3 (b := h) (o := .lst (List.replicate m .non)) (by rw [upd_ne nex, upd_same])
    rw [hh] at this; cases this
  have old : ∀ {b : Addr} {o : HO}, H b = some o → b ≠ x → H3 b = some o := fun {b o} z hb => by
    have z1 := s2 b o (by rw [upd_ne hb]; exact s1 _ _ z)
    exact k3 (by rw [upd_ne hb, upd_ne (ne_of_none z1 he)]; exact z1)
  have new : ∀ {b : Addr}, b ≠ x → H3 b = none → H b = none := fun {b} hb z => by
    cases y : H b with
    | none => rfl
    | some o => rw [old y hb] at z; cases z
  refine ⟨.ref x, rfl, x, _, dx, _, rfl, by rw [upd_ne (Ne.symm nhx)]; exact k3 upd_same, S.cl, S2.na _ (by decide), by show 2 < 1000; decide, ?_⟩
  refine q _ e h (fun b o hb z => ?_) ?_ (new nhx hh) fun O => ⟨⟨dx, _, upd_same, by show 3 < 100; decide, by rw [lookup_putF]; rfl, by rw [lookup_putF]; rfl, by rw [lookup_putF]; rfl, ?_⟩, fun z => nhe z.symm, ⟨_, by rw [upd_ne nex, upd_ne fun z => nhe z.symm]; exact k3 (by rw [upd_ne nex, upd_same]), nones_rp m⟩, ⟨_, by rw [upd_ne nhx, upd_same], .nil⟩⟩
  · have z1 := old z hb
    rw [upd_ne hb, upd_ne (ne_of_none z1 hh)]
    exact z1
  · cases y : H e with
    | none => rfl
    | some o =>
      have := s2 e o (by rw [upd_ne nex]; exact s1 _ _ y)
      rw [he] at this; cases this
  · intro n hn
    simp only [shM, List.mem_cons, List.not_mem_nil, or_false] at hn
    rcases hn with rfl | rfl | rfl | rfl | rfl <;> rfl
/-- enter -/
def fxEnter (Fc Fi : List Dt → Option Rs) : FX := fun m es hs ds => match ds with
  | [pl, v] => (match Fc [.int m, pl] with
    | some (.exc n p) => some (.exc n p, es, hs)
    | some (.val _) => (match Fi [v, .int 0, .int (m - 1)] with
      | some (.val (.bool true)) => (match pl with
        | .int p => (match ixN es.length p with
          | some j => (match es[j]? with
            | some old => if scl old = true ∧ hs.length < lim then some (.val old, es.set j v, hs ++ [.tuple [.int p, old]]) else none
            | none => none)
          | none => none)
        | _ => none)
      | some (.val (.bool false)) => some (.exc "InvalidValue" none, es, hs)
      | _ => none)
    | none => none)
  | _ => none
theorem enter_sem {Fc Fi : List Dt → Option Rs} (S : ShK K) (S2 : ShX K) {vs : List V} (hsp : spX K mg 3 (fxEnter Fc Fi) vs H Q E) :
    tSeq (tDrop (tE K mg (fun cls d _ H => E cls d H) true (eFn 2 Fc (aCons (eFl dMdl (eVar 0)) (aCons (eVar 1) aNil)))))
      (tSeq (tIfS (tT K mg (fun cls d _ H => E cls d H) (eNot (eFn 3 Fi (aCons (eVar 2) (aCons (eC (.int 0)) (aCons (eBin dSub (eFl dMdl (eVar 0)) (eC (.int 1))) aNil)))))) (tS K mg (fun cls d _ H => E cls d H) (sRaise "InvalidValue")) tNext)
      (tSeq (tAsg (tE K mg (fun cls d _ H => E cls d H) false (eBin dIx (eFl dEnt (eVar 0)) (eVar 1))) (gName 3))
      (tSeq (tAsg (tVar 2) (gSub (tFld K (tVar 0) "entries") (tVar 1) rSetL))
      (tSeq (tDrop (tBM K "list" rAppend (tFld K (tVar 0) "history") (tCons (tTupF (tCons (tVar 1) (tCons (tVar 3) tNil))) tNil))) (tRet (tVar 3))))))
      { nx := fun _ H' => Q .non H', rt := Q } (L2.start ["self", "place", "value", "old"] vs) H := by
  obtain ⟨hlen, a, e, h, m, es, hs, O, us, ds, r, es', hs', rfl, t, ⟨oa, oe, oh⟩, hO, ru, hF, post⟩ := hsp
  have gd : ∀ {H' : Hp}, Same H H' → Good K (Ow.out (Oless O a e h)) (start0 4 (shD m es hs :: ds)) (L2.start ["self", "place", "value", "old"] (.ref a :: us)) H' := fun {H'} s => good_x (N := ["self", "place", "value", "old"]) (t.same s) (fun x z => Same.dom s x (hO x z)) (RpAll.same s ru)
  unfold fxEnter at hF
  split at hF
  · rename_i pl v
    have x1 : eFn 2 Fc (aCons (eFl dMdl (eVar 0)) (aCons (eVar 1) aNil)) true (start0 4 [shD m es hs, pl, v]) = Fc [.int m, pl] := rfl
    have x2 : eNot (eFn 3 Fi (aCons (eVar 2) (aCons (eC (.int 0)) (aCons (eBin dSub (eFl dMdl (eVar 0)) (eC (.int 1))) aNil)))) true (start0 4 [shD m es hs, pl, v]) = bnd (Fi [v, .int 0, .int (m - 1)]) fun x => (tru x).map fun c => .val (.bool (!c)) := rfl
    have x3 : eBin dIx (eFl dEnt (eVar 0)) (eVar 1) false (start0 4 [shD m es hs, pl, v]) = (dIx (.list es) pl).map .val := rfl
    cases ru with
    | cons rp rr =>
      cases rr with
      | cons rv rn =>
        cases rn
        rename_i vp vv
        split at hF
        · rename_i n p hc
          cases hF
          exact ⟨_, _, _, x1.trans hc, gd (Same.refl H), fun cls d H' k1 s1 pk => post cls d H' k1 s1 pk⟩
        · rename_i d0 hc
          refine ⟨_, _, _, x1.trans hc, gd (Same.refl H), fun v0 H1 s1 _ => ?_⟩
          split at hF
          · rename_i hi
            rw [hi] at x2
            refine ⟨_, _, .val (.bool false), x2, gd s1, false, rfl, fun H2 s2 => ?_⟩
            refine if_neg_of Bool.false_ne_true ?_
            split at hF
            · rename_i p
              obtain rfl : vp = .int p := (RpB.of (b := false) (ow := Ow.out O) (Rp.fresh (fun _ _ _ n z => z.elim (fun ⟨i, hi⟩ => hi.elim (fun z => by cases z) fun z => z) n) rp)).int
              split at hF
              · rename_i j hj
                split at hF
                · rename_i old hold
                  split at hF
                  · rename_i hs1
                    cases hF
                    have s12 := s1.trans s2
                    have x4 : dIx (.list es) (.int p) = some old := atI_of hj hold
                    refine ⟨_, _, .val old, x3.trans (by rw [x4]; rfl), gd s12, fun v3 H3 s3 r3 => ?_⟩
                    have s13 := s12.trans s3
                    have t3 := t.same s13
                    obtain ⟨dx, fs, k1, k2, k3, k4, k5, k6⟩ := t3.f
                    obtain ⟨ws, l1, q1⟩ := t3.l1
                    obtain ⟨zs, l2, q2⟩ := t3.l2
                    obtain ⟨nae, nah⟩ := t3.ae
                    refine ⟨vv, rfl, .ref a, rfl, a, _, dx, fs, .ref e, rfl, k1, S.cl, S2.na _ (by decide), k4, .int p, rfl, e, ws, p, j, rfl, rfl, l1, by rw [q1.length]; exact hj, ?_⟩
                    refine ⟨.ref a, rfl, a, _, dx, fs, .ref h, rfl, by rw [upd_ne nae]; exact k1, S.cl, S2.na _ (by decide), k5, .inl ⟨rfl, zs, SqL.of (by rw [upd_ne (Ne.symm t3.ne)]; exact l2)⟩, ?_⟩
                    refine ⟨.int p, rfl, v3, rfl, by show 2 ≤ sizeLine; rw [sizeLine_eq]; omega, fun pt o hpt ho => ?_⟩
                    have npe : pt ≠ e := fun z => by rw [z, upd_same] at hpt; cases hpt
                    have hpt3 : H3 pt = none := by rw [upd_ne npe] at hpt; exact hpt
                    have nph : h ≠ pt := fun z => by rw [← z, l2] at hpt3; cases hpt3
                    refine ⟨h, zs, .ref pt, rfl, rfl, by rw [upd_ne nph, upd_ne (Ne.symm t3.ne)]; exact l2, by rw [q2.length]; exact Nat.lt_of_lt_of_le hs1.2 (by decide), ?_⟩
                    refine ⟨v3, rfl, ?_⟩
                    have kx : KpX e h H3 (upd (upd (upd H3 e (.lst (ws.set j vv))) pt (.frz o (.tup [.int p, v3]))) h (.lst (zs ++ [.ref pt]))) := fun b o' hb n1 n2 => by
                      rw [upd_ne n2, upd_ne (ne_of_none hb hpt3), upd_ne n1]; exact hb
                    have he' : O e ∧ ∃ vs, H3 e = some (.lst vs) := ⟨oe, ws, l1⟩
                    have hh' : O h ∧ ∃ vs, H3 h = some (.lst vs) := ⟨oh, zs, l2⟩
                    have kx0 : KpX e h H (upd (upd (upd H3 e (.lst (ws.set j vv))) pt (.frz o (.tup [.int p, v3]))) h (.lst (zs ++ [.ref pt]))) := fun b o' hb n1 n2 => kx b o' (s13 b o' hb) n1 n2
                    have rv3 : Rp K O (upd (upd (upd H3 e (.lst (ws.set j vv))) pt (.frz o (.tup [.int p, v3]))) h (.lst (zs ++ [.ref pt]))) vv v := Rp.kpx he' hh' kx (Rp.same s13 rv)
                    refine post v3 _ kx0 ⟨⟨dx, fs, kx _ _ k1 nae nah, k2, k3, k4, k5, k6⟩, t3.ne, ⟨_, by rw [upd_ne t3.ne, upd_ne (Ne.symm npe), upd_same], RpAll.set rv3 j (RpAll.kpx he' hh' kx q1)⟩, ⟨_, upd_same, RpAll.append (RpAll.kpx he' hh' kx q2) (.cons (.tup ⟨o, by rw [upd_ne (Ne.symm nph), upd_same], ho⟩ (.cons (.int p) (.cons (r3.rp.scl hs1.1) .nil))) .nil)⟩⟩ (r3.rp.scl hs1.1)
                  · cases hF
                · cases hF
              · cases hF
            · cases hF
          · rename_i hi
            cases hF
            rw [hi] at x2
            refine ⟨_, _, .val (.bool true), x2, gd s1, true, rfl, fun H2 s2 => ?_⟩
            refine if_pos_of rfl ?_
            exact ⟨_, _, _, rfl, gd (s1.trans s2), fun cls d σ' H' k1 kp pk => post cls d H' k1 ((s1.trans s2).trans kp.out) pk⟩
          · cases hF
        · cases hF
  · cases hF
/-- undo -/
def fxUndo : FX := fun m es hs ds => match ds with
  | [] => (match hs.getLast? with
    | none => some (.exc "NothingToUndo" none, es, hs)
    | some (.tuple [.int p, old]) => (match ixN es.length p with
      | some j => some (.val (.int p), es.set j old, hs.dropLast)
      | none => none)
    | _ => none)
  | _ => none
theorem RpAll.dropLast {K : PySem.W.Frag} {O : Addr → Prop} {H : Hp} {vs : List V} {ds : List Dt} (r : RpAll K O H vs ds) : RpAll K O H vs.dropLast ds.dropLast := by
  rw [List.dropLast_eq_take, List.dropLast_eq_take, r.length]
  exact r.take _
theorem undo_sem (S : ShK K) (S2 : ShX K) {vs : List V} (hsp : spX K mg 1 fxUndo vs H Q E) :
    tSeq (tIfS (tT K mg (fun cls d _ H => E cls d H) (eNot (eFl dHis (eVar 0)))) (tS K mg (fun cls d _ H => E cls d H) (sRaise "NothingToUndo")) tNext)
      (tSeq (tAsg (tBM0 K "list" rPop (tFld K (tVar 0) "history")) (gTup K 2 (gCons (gName 1) (gCons (gName 2) gNil))))
      (tSeq (tAsg (tVar 2) (gSub (tFld K (tVar 0) "entries") (tVar 1) rSetL)) (tRet (tVar 1))))
      { nx := fun _ H' => Q .non H', rt := Q } (L2.start ["self", "place", "old"] vs) H := by
  obtain ⟨hlen, a, e, h, m, es, hs, O, us, ds, r, es', hs', rfl, t, ⟨oa, oe, oh⟩, hO, ru, hF, post⟩ := hsp
  have gd : ∀ {H' : Hp}, Same H H' → Good K (Ow.out (Oless O a e h)) (start0 3 (shD m es hs :: ds)) (L2.start ["self", "place", "old"] (.ref a :: us)) H' := fun {H'} s => good_x (N := ["self", "place", "old"]) (t.same s) (fun x z => Same.dom s x (hO x z)) (RpAll.same s ru)
  unfold fxUndo at hF
  split at hF
  · cases ru
    have x1 : eNot (eFl dHis (eVar 0)) true (start0 3 [shD m es hs]) = some (.val (.bool (!(!hs.isEmpty)))) := rfl
    split at hF
    · rename_i hl
      cases hF
      have e0 : hs = [] := List.getLast?_eq_none_iff.mp hl
      subst e0
      refine ⟨_, _, .val (.bool true), x1, gd (Same.refl H), true, rfl, fun H2 s2 => ?_⟩
      refine if_pos_of rfl ?_
      exact ⟨_, _, _, rfl, gd s2, fun cls d σ' H' k1 kp pk => post cls d H' k1 (s2.trans kp.out) pk⟩
    · rename_i p old hl
      split at hF
      · rename_i j hj
        cases hF
        have ne0 : hs ≠ [] := fun z => by rw [z] at hl; cases hl
        have e1 : (!(!hs.isEmpty)) = false := by
          cases hs with
          | nil => exact absurd rfl ne0
          | cons _ _ => rfl
        rw [e1] at x1
        refine ⟨_, _, .val (.bool false), x1, gd (Same.refl H), false, rfl, fun H2 s2 => ?_⟩
        refine if_neg_of Bool.false_ne_true ?_
        have t3 := t.same s2
        obtain ⟨dx, fs, k1, k2, k3, k4, k5, k6⟩ := t3.f
        obtain ⟨ws, l1, q1⟩ := t3.l1
        obtain ⟨zs, l2, q2⟩ := t3.l2
        obtain ⟨nae, nah⟩ := t3.ae
        have hl2 : hs[hs.length - 1]? = some (.tuple [.int p, old]) := by rw [← List.getLast?_eq_getElem?]; exact hl
        obtain ⟨y, hy, ry⟩ := q2.get hl2
        cases ry with
        | tup ft ra =>
          rename_i pt ts
          obtain ⟨o, hft, ho⟩ := ft
          cases ra with
          | cons r1 rr =>
            cases rr with
            | cons r2 rn =>
              cases rn
              cases r1
              rename_i vo
              refine ⟨.ref a, rfl, a, _, dx, fs, .ref h, rfl, k1, S.cl, S2.na _ (by decide), k5, .inl ⟨rfl, zs, SqL.of l2⟩, h, zs, .ref pt, rfl, rfl, l2, by rw [q2.length]; exact hy, ?_⟩
              have nph : pt ≠ h := fun z => by rw [z, l2] at hft; cases hft
              have npe : pt ≠ e := fun z => by rw [z, l1] at hft; cases hft
              refine ⟨pt, [.int p, vo], rfl, .inl (.inr ⟨o, by rw [upd_ne nph]; exact hft⟩), rfl, .int p, [vo], rfl, vo, [], rfl, rfl, ?_⟩
              refine ⟨vo, rfl, .ref a, rfl, a, _, dx, fs, .ref e, rfl, by rw [upd_ne nah]; exact k1, S.cl, S2.na _ (by decide), k4, .int p, rfl, e, ws, p, j, rfl, rfl, by rw [upd_ne t3.ne]; exact l1, by rw [q1.length]; exact hj, ?_⟩
              refine ⟨.int p, rfl, ?_⟩
              have he' : O e ∧ ∃ vs, H2 e = some (.lst vs) := ⟨oe, ws, l1⟩
              have hh' : O h ∧ ∃ vs, H2 h = some (.lst vs) := ⟨oh, zs, l2⟩
              have kx : KpX e h H2 (upd (upd H2 h (.lst zs.dropLast)) e (.lst (ws.set j vo))) := fun b o' hb n1 n2 => by rw [upd_ne n1, upd_ne n2]; exact hb
              refine post (.int p) _ (fun b o' hb n1 n2 => kx b o' (s2 b o' hb) n1 n2) ⟨⟨dx, fs, kx _ _ k1 nae nah, k2, k3, k4, k5, k6⟩, t3.ne, ⟨_, upd_same, RpAll.set (Rp.kpx he' hh' kx r2) j (RpAll.kpx he' hh' kx q1)⟩, ⟨_, by rw [upd_ne (Ne.symm t3.ne), upd_same], RpAll.dropLast (RpAll.kpx he' hh' kx q2)⟩⟩ (.int p)
      · cases hF
    · cases hF
  · cases hF
end
section
variable {G : Gc} {N : List Str} {sc : Scope} {fn : Str → Bool} {k : Nat} {X : Cx} {W : WX} {a : Expr} {f : EF} {st : Stmt} {g : SF}
theorem runE (C : Ctx G N sc fn k X) (tk : Takes X W) (b : Bool) (h : SE G N sc fn k a f) : PE X a (tE X.K X.mg W b f) := h X C W tk b
theorem runL (C : Ctx G N sc fn k X) (tk : Takes X W) (h : SL G N sc fn k a f) : PE X a (tL X.K X.mg W f) := h X C W tk
theorem runT (C : Ctx G N sc fn k X) (tk : Takes X W) (h : ST G N sc fn k a f) : PT X a (tT X.K X.mg W f) := h X C W tk
theorem runS (C : Ctx G N sc fn k X) (T : TopX X) (tk : Takes X W) (hp : PassesOwn (model X.prog X.w) X.A X.env X.xe) (h : SS G N sc fn k st g) : PS X st (tS X.K X.mg W g) := h X C T W tk hp
theorem runA {y : Str} {i : Nat} {p q : Pos} (C : Ctx G N sc fn k X) (tk : Takes X W) (h : SAg G N sc fn k y i a f) : PS X (.Assign [.Name y p] a q) (tAsg (tE X.K X.mg W false f) (gName i)) := h X C W tk p q
end
end PT

namespace PT
open PySem PySem.Spec PyProof.Rows L2
/-! ## an except suite that asks for each class -/
structure StL (H0 : Hp) (l : Addr) (xs : List V) (H : Hp) : Prop where
  here : H l = some (.lst xs)
  new : H0 l = none
  sm : Same H0 H
def DOk (d : Option Addr) (H : Hp) : Prop := d = none ∨ ∃ dd fs, d = some dd ∧ H dd = some (.xd fs)
theorem DOk.same {d : Option Addr} {H H' : Hp} (s : Same H H') (h : DOk d H) : DOk d H' := h.imp id fun ⟨dd, fs, e, q⟩ => ⟨dd, fs, e, s _ _ q⟩
theorem none_of {H H' : Hp} {q : Addr} (s : Same H H') (h : H' q = none) : H q = none := by
  cases e : H q with
  | none => rfl
  | some o => rw [s _ _ e] at h; cases h
def tBX (i : Nat) (a : Addr) (d : Option Addr) (b : Bool) : TE := fun σ H Q => σ[i]? = some (some (.ref a)) ∧ DOk d H ∧ Q (.bl b) H
section
variable {i j : Nat} {a l : Addr} {d : Option Addr} {b1 b2 b3 : Bool} {σ : L2.St} {H0 H : Hp} {Q : VK} {xs : List V} {D : Ends}
theorem x_lst (hs : σ[i]? = some (some (.ref a))) (hd : DOk d H) (q : ∀ p, H p = none → Q (.ref p) (upd H p (.lst [.bl b1, .bl b2, .bl b3]))) :
    tLst (tCons (tBX i a d b1) (tCons (tBX i a d b2) (tCons (tBX i a d b3) tNil))) σ H Q :=
  ⟨hs, hd, hs, hd, hs, hd, by show 3 ≤ sizeLine; rw [sizeLine_eq]; omega, q⟩
theorem x_fst (hs : σ[i]? = some (some (.ref a))) (hd : DOk d H) (q : ∀ p H1, StL H p [.bl b1, .bl b2, .bl b3] H1 → D.nx (σ.set j (some (.ref p))) H1) :
    tAsg (tLst (tCons (tBX i a d b1) (tCons (tBX i a d b2) (tCons (tBX i a d b3) tNil)))) (gName j) D σ H :=
  x_lst hs hd fun p hp => q p _ ⟨upd_same, hp, Same.upd hp⟩
theorem x_cat (hj : σ[j]? = some (some (.ref l))) (hs : σ[i]? = some (some (.ref a))) (hd : DOk d H) (s : StL H0 l xs H) (hl : xs.length ≤ 20) (q : ∀ p H1, StL H0 p (xs ++ [.bl b1, .bl b2, .bl b3]) H1 → D.nx (σ.set j (some (.ref p))) H1) :
    tAsg (tOp rCat (tVar j) (tLst (tCons (tBX i a d b1) (tCons (tBX i a d b2) (tCons (tBX i a d b3) tNil))))) (gName j) D σ H := by
  refine ⟨.ref l, hj, x_lst hs hd fun p hp => ⟨l, p, xs, _, rfl, rfl, by rw [upd_ne (ne_of_none s.here hp)]; exact s.here, upd_same, by rw [sizeLine_eq]; show xs.length + 3 ≤ _; omega, fun r hr => q r _ ⟨upd_same, ?_, ?_⟩⟩⟩
  · exact none_of (s.sm.trans (Same.upd hp)) hr
  · exact (s.sm.trans (Same.upd hp)).trans (Same.upd hr)
theorem StL.push {y : V} (s : StL H0 l xs H) : StL H0 l (xs ++ [y]) (upd H l (.lst (xs ++ [y]))) := ⟨upd_same, s.new, fun b o h => by rw [upd_ne (ne_of_none h s.new)]; exact s.sm _ _ h⟩
theorem StL.back (s : StL H0 l xs H) : Same H0 (del H l) ∧ del H l l = none ∧ upd (del H l) l (.lst xs) = H := by
  refine ⟨fun b o h => by rw [del_ne (ne_of_none h s.new)]; exact s.sm _ _ h, if_pos rfl, ?_⟩
  funext b
  by_cases e : b = l
  · subst e; rw [upd_same, s.here]
  · rw [upd_ne e, del_ne e]
end
def PN : List Str := ["InvalidModulus", "InvalidTable", "InvalidPolynomial", "InvalidForm", "InvalidPlace", "InvalidValue", "InvalidAnswers", "NotPolynomial", "IsPolynomial", "NotPermutation", "TooMany", "ParseError", "NothingToUndo"]
def GN : List Str := "isinstance" :: "ValueError" :: PN
theorem PN_db : ∀ P ∈ PN, (P == ("__debug__" : Str)) = false := by decide
def flg (E : EMT) (n : Str) : List Str → Option (List Bool)
  | [] => some []
  | P :: r => match em E n P, flg E n r with
    | some b, some bs => some (b :: bs)
    | _, _ => none
theorem flg_rel {G : Gc} {E : EMT} (hE : EmOk G E) {n : Str} {C : Addr} (hc : G.mg n = some (.ref C)) : ∀ {l : List Str} {bs : List Bool}, flg E n l = some bs → ∃ fb : Str → Bool, bs = l.map fb ∧ ∀ P ∈ l, em E n P = some (fb P) := by
  intro l bs h
  refine ⟨fun P => (em E n P).getD false, ?_⟩
  induction l generalizing bs with
  | nil => cases h; exact ⟨rfl, fun _ z => nomatch z⟩
  | cons P r ih =>
    unfold flg at h
    split at h
    · rename_i b bs' h1 h2
      cases h
      obtain ⟨e1, e2⟩ := ih h2
      refine ⟨by rw [e1, List.map_cons, h1]; rfl, fun Q hq => ?_⟩
      cases hq with
      | head => show em E n P = some ((em E n P).getD false); rw [h1]; rfl
      | tail _ hq => exact e2 Q hq
    · cases h
theorem RpAll.bools {K : PySem.W.Frag} {O : Addr → Prop} {H : Hp} (fb : Str → Bool) : ∀ l : List Str, RpAll K O H (l.map fun P => .bl (fb P)) ((l.map fb).map .bool)
  | [] => .nil
  | _ :: r => .cons (.bl _) (RpAll.bools fb r)
def N17 : List Str := ["script", "mode", "found", "is_under", "line_here", "e", "at"]
def lnX (E : EMT) (n : Str) (m : Int) (pl : Option Dt) : Option Dt := if m = 11 then (if em E n "ParseError" = some true then pl else none) else some (.str "none")
def aft (ρ : En) (bs : List Bool) (d : Dt) : En := PT.clr (((ρ.set 2 (some (.own (bs.map .bool)))).set 3 (some (.sh (.bool true)))).set 4 (some (.sh d))) [5]
def sTry17 (E : EMT) (f : EF) : SF := fun ρ => match f true ρ with
  | some (.val _) => some (.nx ρ)
  | some (.exc n pl) => (match em E n "TableError", ρ[1]?, flg E n PN with
    | some true, some (some (SV.sh (.int m))), some bs => (match lnX E n m pl with
      | some d => if scl d = true ∧ ρ.length = 7 then some (.nx (aft ρ bs d)) else none
      | none => none)
    | _, _, _ => none)
  | none => none
/-- every known class is under ValueError -/
def UndV (G : Gc) (E : EMT) : Prop := ∀ t ∈ E, ∀ C, G.mg t.1 = some (.ref C) → PySem.W.kitOne G.K (.ref C) (.type "ValueError") = some true
theorem em_in {E : EMT} {n x : Str} {b : Bool} (e : em E n x = some b) : ∃ t ∈ E, t.1 = n := by
  unfold em at e
  cases q : E.find? fun t => t.1 == n && t.2.1 == x with
  | none => rw [q] at e; cases e
  | some t =>
    have h1 := List.find?_some q
    rw [Bool.and_eq_true] at h1
    exact ⟨t, List.mem_of_find?_eq_some q, by simpa using h1.1⟩
/-- what the suite wants -/
def ts17 (X : Cx) (a : Addr) (cls : Value) (d : Option Addr) : TS := fun De σ H => ∃ (C1 : Addr) (fb : Str → Bool) (fD : Str → Addr) (m : Int) (lv : V), cls = .ref C1 ∧ L2.ExcC X.K C1 ∧ (∀ P ∈ PN, X.mg P = some (.ref (fD P)) ∧ PySem.W.kitOne X.K (.ref C1) (.ref (fD P)) = some (fb P)) ∧
  PySem.W.kitOne X.K (.ref C1) (.type "ValueError") = some true ∧ σ[5]? = some (some (.ref a)) ∧ σ[1]? = some (some (.int m)) ∧ σ.length = 7 ∧ DOk d H ∧
  (m = 11 → PySem.W.findIn X.K (.ref C1) "line" = some none ∧ ∃ dd, d = some dd ∧ H dd = some (.xd [(("line" : Str), lv)])) ∧ (m ≠ 11 → lv = .str "none") ∧
  ∀ l H1, StL H l (PN.map fun P => .bl (fb P)) H1 → De.nx (((σ.set 2 (some (.ref l))).set 3 (some (.bl true))).set 4 (some lv)) H1
section
variable {G : Gc} {N : List Str} {sc : Scope} {fn : Str → Bool} {k : Nat} {E : EMT} {f : EF} {b : Expr} {q2 q3 pos hp np bp : Pos} {j1 j2 : Nat}
  {p1 p2 p3 p4 p5 p6 p7 p8 p9 p10 p11 p12 p13 p14 p15 p16 p17 p18 p19 p20 p21 p22 p23 p24 p25 p26 p27 p28 p29 p30 p31 p32 p33 p34 p35 p36 p37 p38 p39 p40 p41 p42 p43 p44 p45 p46 p47 p48 p49 p50 p51 p52 p53 p54 p55 p56 p57 p58 p59 p60 p61 p62 p63 p64 p65 p66 p67 p68 p69 p70 p71 p72 p73 p74 p75 p76 p77 p78 p79 p80 p81 p82 p83 p84 p85 p86 p87 : Pos}
theorem suite17 {X : Cx} (C : Ctx G N17 sc (fun _ => true) k X) (hmi : G.mg "isinstance" = none) (hmv : G.mg "ValueError" = none) (hgl : ∀ x ∈ GN, GL sc x) (hve : Vis sc "e") (hvf : Vis sc "found") (hvm : Vis sc "mode") (hlf : Loc sc "found") (hlu : Loc sc "is_under") (hll : Loc sc "line_here") (hln : (q2.endLine == q3.line) = true)
    (a : Addr) (oe : Obj) (cls : Value) (d : Option Addr) (pn : List (Addr × Obj)) (hz : Zc cls d oe) (hfl : ∃ vs, oe.data = .fields vs) : PSs (X.suite a ((a, oe) :: pn)) [.Assign [.Name "found" p1] (.List [.Call (.Name "isinstance" p2) [.Name "e" p3, .Name "InvalidModulus" p4] [] p5, .Call (.Name "isinstance" p6) [.Name "e" p7, .Name "InvalidTable" p8] [] p9, .Call (.Name "isinstance" p10) [.Name "e" p11, .Name "InvalidPolynomial" p12] [] p13] p14) p15,
      .Assign [.Name "found" p16] (.BinOp (.Name "found" p17) .Add (.List [.Call (.Name "isinstance" p18) [.Name "e" p19, .Name "InvalidForm" p20] [] p21, .Call (.Name "isinstance" p22) [.Name "e" p23, .Name "InvalidPlace" p24] [] p25, .Call (.Name "isinstance" p26) [.Name "e" p27, .Name "InvalidValue" p28] [] p29] p30) p31) p32,
      .Assign [.Name "found" p33] (.BinOp (.Name "found" p34) .Add (.List [.Call (.Name "isinstance" p35) [.Name "e" p36, .Name "InvalidAnswers" p37] [] p38, .Call (.Name "isinstance" p39) [.Name "e" p40, .Name "NotPolynomial" p41] [] p42, .Call (.Name "isinstance" p43) [.Name "e" p44, .Name "IsPolynomial" p45] [] p46] p47) p48) p49,
      .Assign [.Name "found" p50] (.BinOp (.Name "found" p51) .Add (.List [.Call (.Name "isinstance" p52) [.Name "e" p53, .Name "NotPermutation" p54] [] p55, .Call (.Name "isinstance" p56) [.Name "e" p57, .Name "TooMany" p58] [] p59, .Call (.Name "isinstance" p60) [.Name "e" p61, .Name "ParseError" p62] [] p63] p64) p65) p66,
      .Expr (.Call (.Attribute (.Name "found" p67) "append" q2) [.Call (.Name "isinstance" p68) [.Name "e" p69, .Name "NothingToUndo" p70] [] p71] [] q3) p72,
      .Assign [.Name "is_under" p73] (.Call (.Name "isinstance" p74) [.Name "e" p75, .Name "ValueError" p76] [] p77) p78,
      .Assign [.Name "line_here" p79] (.IfExp (.Compare (.Name "mode" p80) [.Eq] [.Constant (.int 11) j1 p81] p82) (.Attribute (.Name "e" p83) "line" p84) (.Constant (.str "none") j2 p85) p86) p87] (ts17 X a cls d) := by
  refine ⟨fun pins s σ H De I h => ?_⟩
  obtain ⟨C1, fb, fD, m, lv, rfl, hC, hP, hV, hσ, hσm, hlen, hd, h11, hn11, hq⟩ := h
  have hg : ∀ {x : Str}, x ∈ GN → Gl (X.suite a ((a, oe) :: pn)) x := fun {x} h => by
    show X.env.scope.names.lookup x = _
    rw [C.hsc]; exact hgl x h
  have hm1 : (X.suite a ((a, oe) :: pn)).mg "isinstance" = none := by show X.mg _ = none; rw [C.hmg]; exact hmi
  have hm2 : (X.suite a ((a, oe) :: pn)).mg "ValueError" = none := by show X.mg _ = none; rw [C.hmg]; exact hmv
  have pv : ∀ (i : Nat) (x : Str) (q : Pos), N17[i]? = some x → Vis sc x → (x == ("__debug__" : Str)) = false → (x == ("__classdict__" : Str)) = false → PE (X.suite a ((a, oe) :: pn)) (.Name x q) (tVar i) := fun i x q hi hv h1 h2 => pe_var (by show X.N[i]? = _; rw [C.hN]; exact hi) (by show Vis X.env.scope x; rw [C.hsc]; exact hv) h1 h2
  have cI : ∀ (P : Str) (hP0 : P ∈ PN) {r1 r2 r3 r4 : Pos}, PE (X.suite a ((a, oe) :: pn)) (.Call (.Name "isinstance" r1) [.Name "e" r2, .Name P r3] [] r4) (tBX 5 a d (fb P)) := fun P hP0 {r1 r2 r3 r4} => by
    obtain ⟨z1, z2⟩ := hP P hP0
    have hdb := PN_db P hP0
    refine PE.imp (pe_callB (call_isED hC hz hfl) (hg (by decide)) hm1 boot_isinstance (pa_cons (pv 5 "e" r2 rfl hve rfl rfl) (pa_cons (pe_glob (v := .ref (fD P)) (hg (List.mem_cons_of_mem _ (List.mem_cons_of_mem _ hP0))) z1 rfl hdb) pa_nil))) fun σ H Q h => ?_
    exact ⟨.ref a, h.1, h.2.1, .ref (fD P), .ref (fD P), fb P, rfl, fun u hu => hu, z2, h.2.2⟩
  have cV : ∀ {r1 r2 r3 r4 : Pos}, PE (X.suite a ((a, oe) :: pn)) (.Call (.Name "isinstance" r1) [.Name "e" r2, .Name "ValueError" r3] [] r4) (tBX 5 a d true) := fun {r1 r2 r3 r4} => by
    refine PE.imp (pe_callB (call_isED hC hz hfl) (hg (by decide)) hm1 boot_isinstance (pa_cons (pv 5 "e" r2 rfl hve rfl rfl) (pa_cons (pe_bltn (v := .ty "ValueError") (hg (by decide)) hm2 (by decide +kernel) rfl) pa_nil))) fun σ H Q h => ?_
    exact ⟨.ref a, h.1, h.2.1, .ty "ValueError", .type "ValueError", true, rfl, fun u hu => hu, hV, h.2.2⟩
  have hN : (X.suite a ((a, oe) :: pn)).N.Nodup := by show X.N.Nodup; rw [C.hN]; exact C.nd
  have hNi : ∀ {i : Nat} {x : Str}, N17[i]? = some x → (X.suite a ((a, oe) :: pn)).N[i]? = some x := fun h => by show X.N[_]? = _; rw [C.hN]; exact h
  have hLo : ∀ {x : Str}, Loc sc x → Loc (X.suite a ((a, oe) :: pn)).env.scope x := fun h => by show Loc X.env.scope _; rw [C.hsc]; exact h
  have hfn : ∀ x, (X.suite a ((a, oe) :: pn)).fn x = true ∨ (X.suite a ((a, oe) :: pn)).env.scope.names.lookup x = some .local := fun x => .inl (by show X.fn x = true; rw [C.hfn])
  have hdec : ∀ P : Str, P ∈ PN → P ∈ PN := fun _ h => h
  have cL : ∀ {r1 r2 r3 r4 r5 r6 r7 r8 : Pos} {i1 i2 : Nat}, PE (X.suite a ((a, oe) :: pn)) (.IfExp (.Compare (.Name "mode" r1) [.Eq] [.Constant (.int 11) i1 r2] r3) (.Attribute (.Name "e" r4) "line" r5) (.Constant (.str "none") i2 r6) r7) (fun σ H Q => σ[5]? = some (some (.ref a)) ∧ σ[1]? = some (some (.int m)) ∧
      (m = 11 → ∃ dd, d = some dd ∧ H dd = some (.xd [(("line" : Str), lv)])) ∧ Q lv H) := fun {r1 r2 r3 r4 r5 r6 r7 r8 i1 i2} => by
    refine ⟨fun pins s σ H Q I h => ?_⟩
    have pm := pt_cmp (pos := r3) (pc_eqI (pv 1 "mode" r1 rfl hvm rfl rfl) (pe_int (i := 11) (j := i1) (pos := r2)))
    by_cases e11 : m = 11
    · obtain ⟨hno, _⟩ := h11 e11
      obtain ⟨h1, h2, h3, h4⟩ := h
      obtain ⟨dd, rfl, hH⟩ := h3 e11
      have all := pe_ifExp (pos := r7) pm (pe_xf (pos := r5) ⟨hC.hg, hC.hk, hC.hs, hC.hd⟩ hno hz hfl (pv 5 "e" r4 rfl hve rfl rfl)) (pe_str (x := "none") (j := i2) (pos := r6))
      refine all.run pins s σ H Q I ?_
      refine ⟨.int m, h2, m, 11, rfl, rfl, _, rfl, ?_⟩
      refine if_pos_of (decide_eq_true e11) ?_
      exact ⟨.ref a, h1, rfl, rfl, dd, _, lv, rfl, hH, rfl, h4⟩
    · obtain ⟨h1, h2, h3, h4⟩ := h
      have nv : PE (X.suite a ((a, oe) :: pn)) (.Attribute (.Name "e" r4) "line" r5) (fun _ _ _ => False) := ⟨fun _ _ _ _ _ _ z => z.elim⟩
      have all := pe_ifExp (pos := r7) pm nv (pe_str (x := "none") (j := i2) (pos := r6))
      refine all.run pins s σ H Q I ?_
      refine ⟨.int m, h2, m, 11, rfl, rfl, _, rfl, ?_⟩
      refine if_neg_of (by rw [decide_eq_true_eq]; exact e11) ?_
      rw [hn11 e11] at h4
      exact h4

  have all : PSs (X.suite a ((a, oe) :: pn)) [.Assign [.Name "found" p1] (.List [.Call (.Name "isinstance" p2) [.Name "e" p3, .Name "InvalidModulus" p4] [] p5, .Call (.Name "isinstance" p6) [.Name "e" p7, .Name "InvalidTable" p8] [] p9, .Call (.Name "isinstance" p10) [.Name "e" p11, .Name "InvalidPolynomial" p12] [] p13] p14) p15,
      .Assign [.Name "found" p16] (.BinOp (.Name "found" p17) .Add (.List [.Call (.Name "isinstance" p18) [.Name "e" p19, .Name "InvalidForm" p20] [] p21, .Call (.Name "isinstance" p22) [.Name "e" p23, .Name "InvalidPlace" p24] [] p25, .Call (.Name "isinstance" p26) [.Name "e" p27, .Name "InvalidValue" p28] [] p29] p30) p31) p32,
      .Assign [.Name "found" p33] (.BinOp (.Name "found" p34) .Add (.List [.Call (.Name "isinstance" p35) [.Name "e" p36, .Name "InvalidAnswers" p37] [] p38, .Call (.Name "isinstance" p39) [.Name "e" p40, .Name "NotPolynomial" p41] [] p42, .Call (.Name "isinstance" p43) [.Name "e" p44, .Name "IsPolynomial" p45] [] p46] p47) p48) p49,
      .Assign [.Name "found" p50] (.BinOp (.Name "found" p51) .Add (.List [.Call (.Name "isinstance" p52) [.Name "e" p53, .Name "NotPermutation" p54] [] p55, .Call (.Name "isinstance" p56) [.Name "e" p57, .Name "TooMany" p58] [] p59, .Call (.Name "isinstance" p60) [.Name "e" p61, .Name "ParseError" p62] [] p63] p64) p65) p66,
      .Expr (.Call (.Attribute (.Name "found" p67) "append" q2) [.Call (.Name "isinstance" p68) [.Name "e" p69, .Name "NothingToUndo" p70] [] p71] [] q3) p72,
      .Assign [.Name "is_under" p73] (.Call (.Name "isinstance" p74) [.Name "e" p75, .Name "ValueError" p76] [] p77) p78,
      .Assign [.Name "line_here" p79] (.IfExp (.Compare (.Name "mode" p80) [.Eq] [.Constant (.int 11) j1 p81] p82) (.Attribute (.Name "e" p83) "line" p84) (.Constant (.str "none") j2 p85) p86) p87] _ := pss_cons (ps_set hN (hNi (i := 2) rfl) (hLo hlf) (pe_lst (pa_cons (cI "InvalidModulus" (by decide)) (pa_cons (cI "InvalidTable" (by decide)) (pa_cons (cI "InvalidPolynomial" (by decide)) pa_nil)))) rfl (hfn _)) (pss_cons (ps_set hN (hNi (i := 2) rfl) (hLo hlf) (pe_op op_cat (pv 2 "found" _ rfl hvf rfl rfl) (pe_lst (pa_cons (cI "InvalidForm" (by decide)) (pa_cons (cI "InvalidPlace" (by decide)) (pa_cons (cI "InvalidValue" (by decide)) pa_nil))))) rfl (hfn _)) (pss_cons (ps_set hN (hNi (i := 2) rfl) (hLo hlf) (pe_op op_cat (pv 2 "found" _ rfl hvf rfl rfl) (pe_lst (pa_cons (cI "InvalidAnswers" (by decide)) (pa_cons (cI "NotPolynomial" (by decide)) (pa_cons (cI "IsPolynomial" (by decide)) pa_nil))))) rfl (hfn _)) (pss_cons (ps_set hN (hNi (i := 2) rfl) (hLo hlf) (pe_op op_cat (pv 2 "found" _ rfl hvf rfl rfl) (pe_lst (pa_cons (cI "NotPermutation" (by decide)) (pa_cons (cI "TooMany" (by decide)) (pa_cons (cI "ParseError" (by decide)) pa_nil))))) rfl (hfn _)) (pss_cons (ps_expr (pe_bm PySem.F.plainAttrs_list PySem.F.slot_list_append PySem.F.type_list_append mt_append (pv 2 "found" _ rfl hvf rfl rfl) (pa_cons (cI "NothingToUndo" (by decide)) pa_nil) rfl rfl hln rfl rfl)) (pss_cons (ps_set hN (hNi (i := 3) rfl) (hLo hlu) cV rfl (hfn _)) (pss_one (ps_set hN (hNi (i := 4) rfl) (hLo hll) (cL (r8 := p1)) rfl (hfn _))))))))
  refine all.run pins s σ H De I ?_
  have s5 : ∀ {x : Option V}, (σ.set 2 x)[5]? = some (some (.ref a)) := fun {x} => by rw [List.getElem?_set_ne (by decide)]; exact hσ
  have s2 : ∀ {x : V}, (σ.set 2 (some x))[2]? = some (some x) := fun {x} => List.getElem?_set_self (by omega)
  refine x_fst hσ hd fun l1 H1 t1 => ?_
  refine x_cat s2 s5 (hd.same t1.sm) t1 (by show 3 ≤ 20; omega) fun l2 H2 t2 => ?_
  rw [List.set_set]
  refine x_cat s2 s5 (hd.same t2.sm) t2 (by show 6 ≤ 20; omega) fun l3 H3 t3 => ?_
  rw [List.set_set]
  refine x_cat s2 s5 (hd.same t3.sm) t3 (by show 9 ≤ 20; omega) fun l4 H4 t4 => ?_
  rw [List.set_set]
  refine ⟨_, s2, .inl ⟨rfl, _, SqL.of t4.here⟩, s5, hd.same t4.sm, l4, _, _, rfl, rfl, t4.here, by rw [sizeLine_eq]; show 12 < _; omega, ?_⟩
  have t5 := t4.push (y := .bl (fb "NothingToUndo"))
  refine ⟨s5, hd.same t5.sm, ?_⟩
  refine ⟨by rw [List.getElem?_set_ne (by decide)]; exact s5, by rw [List.getElem?_set_ne (by decide), List.getElem?_set_ne (by decide)]; exact hσm, fun e => ?_, hq _ _ t5⟩
  obtain ⟨_, dd, e1, e2⟩ := h11 e
  exact ⟨dd, e1, t5.sm _ _ e2⟩

theorem ss_try17 (B : Bi G) (hE : EmOk G E) (hU : UndV G E) (hmv : G.mg "ValueError" = none) (hno : ∀ n C, em E n "ParseError" = some true → G.mg n = some (.ref C) → PySem.W.findIn G.K (.ref C) "line" = some none) (hxD : ∃ C, G.mg "TableError" = some (.ref C)) (hb : SE G N17 sc (fun _ => true) k b f)
    (hgl : ∀ x ∈ ("TableError" : Str) :: GN, GL sc x) (hve : sc.names.lookup ("e" : Str) = some .local) (hvf : Vis sc "found") (hvm : Vis sc "mode") (hlf : Loc sc "found") (hlu : Loc sc "is_under") (hll : Loc sc "line_here") (hln : (q2.endLine == q3.line) = true := by rfl)
    (hs : ∀ (l : Nat) (env : PySem.Env), swapsWith b none l env = pure false := by intro _ _; rfl) :
    SS G N17 sc (fun _ => true) k (.Try [.Expr b bp] [.ExceptHandler (some (.Name "TableError" np)) (some "e") [.Assign [.Name "found" p1] (.List [.Call (.Name "isinstance" p2) [.Name "e" p3, .Name "InvalidModulus" p4] [] p5, .Call (.Name "isinstance" p6) [.Name "e" p7, .Name "InvalidTable" p8] [] p9, .Call (.Name "isinstance" p10) [.Name "e" p11, .Name "InvalidPolynomial" p12] [] p13] p14) p15,
      .Assign [.Name "found" p16] (.BinOp (.Name "found" p17) .Add (.List [.Call (.Name "isinstance" p18) [.Name "e" p19, .Name "InvalidForm" p20] [] p21, .Call (.Name "isinstance" p22) [.Name "e" p23, .Name "InvalidPlace" p24] [] p25, .Call (.Name "isinstance" p26) [.Name "e" p27, .Name "InvalidValue" p28] [] p29] p30) p31) p32,
      .Assign [.Name "found" p33] (.BinOp (.Name "found" p34) .Add (.List [.Call (.Name "isinstance" p35) [.Name "e" p36, .Name "InvalidAnswers" p37] [] p38, .Call (.Name "isinstance" p39) [.Name "e" p40, .Name "NotPolynomial" p41] [] p42, .Call (.Name "isinstance" p43) [.Name "e" p44, .Name "IsPolynomial" p45] [] p46] p47) p48) p49,
      .Assign [.Name "found" p50] (.BinOp (.Name "found" p51) .Add (.List [.Call (.Name "isinstance" p52) [.Name "e" p53, .Name "NotPermutation" p54] [] p55, .Call (.Name "isinstance" p56) [.Name "e" p57, .Name "TooMany" p58] [] p59, .Call (.Name "isinstance" p60) [.Name "e" p61, .Name "ParseError" p62] [] p63] p64) p65) p66,
      .Expr (.Call (.Attribute (.Name "found" p67) "append" q2) [.Call (.Name "isinstance" p68) [.Name "e" p69, .Name "NothingToUndo" p70] [] p71] [] q3) p72,
      .Assign [.Name "is_under" p73] (.Call (.Name "isinstance" p74) [.Name "e" p75, .Name "ValueError" p76] [] p77) p78,
      .Assign [.Name "line_here" p79] (.IfExp (.Compare (.Name "mode" p80) [.Eq] [.Constant (.int 11) j1 p81] p82) (.Attribute (.Name "e" p83) "line" p84) (.Constant (.str "none") j2 p85) p86) p87] hp] [] [] pos) (sTry17 E f) := fun X C T W tk hpo => by
  obtain ⟨Dx, hDx⟩ := hxD
  refine PS.imp (ps_tryAs (l := [(.ref Dx, 5, ts17 X)]) (tb := fun W => tDrop (tE X.K X.mg W true f)) T.stk T.fr (by rw [C.hN]; exact C.nd) tk (fun W' pn xe tk' hp' => pss_one (ps_expr (hb (X.tr pn xe) ⟨C.hP, C.hw, C.hK, C.hmg, C.hb, C.hN, C.nd, C.hsc, C.hfn, C.calm, C.room⟩ W' tk' true) (hs _ _)))
    (.cons (by rw [C.hN]; rfl) (by show X.env.scope.names.lookup ("e" : Str) = _; rw [C.hsc]; exact hve) ⟨C.gl (hgl _ List.mem_cons_self), by decide, .inl (by rw [C.hmg]; exact hDx)⟩ (fun a oe cls d pn hz hfl => suite17 (X := X) C B.isinstance hmv (fun x hx => hgl x (List.mem_cons_of_mem _ hx)) (.inl hve) hvf hvm hlf hlu hll hln a oe cls d pn hz hfl) .nil)) fun D σ H h => ?_
  obtain ⟨ρ, ow, o, he, gd, post⟩ := h
  unfold sTry17 at he
  cases hf : f true ρ with
  | none => rw [hf] at he; cases he
  | some r =>
    rw [hf] at he
    cases r with
    | val d =>
      cases he
      exact ⟨ρ, ow, _, hf, gd, fun v H' s q => post ow σ H' (Same.stp s) (gd.same s)⟩
    | exc n pl =>
      refine ⟨ρ, ow, _, hf, gd, fun cls d H' hc sm pk => ?_⟩
      simp only at he
      split at he
      · rename_i m bs hT hM hF
        split at he
        · rename_i dl hL
          split at he
          · rename_i hsl
            obtain ⟨hs, h7⟩ := hsl
            cases he
            obtain ⟨C1, D1, rfl, m1, x1, _, xc⟩ := em_pe hE hT (by rw [← C.hmg]; exact hc)
            rw [hDx] at m1
            cases m1
            have hc1 : G.mg n = some (.ref C1) := by rw [← C.hmg]; exact hc
            refine ⟨true, by rw [C.hK]; exact x1, fun _ hlt a na => ?_, fun z => nomatch z⟩
            obtain ⟨fb, rfl, hfb⟩ := flg_rel hE hc1 hF
            have hrel : ∀ P ∈ PN, ∃ D2, X.mg P = some (.ref D2) ∧ PySem.W.kitOne X.K (.ref C1) (.ref D2) = some (fb P) := fun P hP => by
              obtain ⟨C2, D2, e2, m2, _, y2, _⟩ := em_pe hE (hfb P hP) hc1
              cases e2
              exact ⟨D2, by rw [C.hmg]; exact m2, by rw [C.hK]; exact y2⟩
            have hfD : ∃ fD : Str → Addr, ∀ P ∈ PN, X.mg P = some (.ref (fD P)) ∧ PySem.W.kitOne X.K (.ref C1) (.ref (fD P)) = some (fb P) :=
              ⟨fun P => if h : P ∈ PN then (hrel P h).choose else C1, fun P hP => by
                show X.mg P = some (.ref (if h : P ∈ PN then (hrel P h).choose else C1)) ∧ PySem.W.kitOne X.K (.ref C1) (.ref (if h : P ∈ PN then (hrel P h).choose else C1)) = some (fb P)
                rw [dif_pos hP]
                exact (hrel P hP).choose_spec⟩
            obtain ⟨fD, hfD⟩ := hfD
            obtain ⟨vm, hvm1, hvm2⟩ := gd.slot 1 _ hM
            have hvm3 : vm = .int m := by cases hvm2; rfl
            subst hvm3
            have hlen : σ.length = 7 := by rw [← gd.len]; exact h7
            have hlv : ∃ lv : V, (m = 11 → PySem.W.findIn X.K (.ref C1) "line" = some none ∧ ∃ dd, d = some dd ∧ H' dd = some (.xd [(("line" : Str), lv)])) ∧ (m ≠ 11 → lv = .str "none") ∧ ∀ O H2, Rp X.K O H2 lv dl := by
              unfold lnX at hL
              by_cases e : m = 11
              · rw [if_pos e] at hL
                split at hL
                · rename_i hpe
                  subst hL
                  obtain ⟨da, v, rfl, hH, rv⟩ := pk
                  exact ⟨v, fun _ => ⟨by rw [C.hK]; exact hno n C1 hpe hc1, da, rfl, hH⟩, fun z => absurd e z, fun O H2 => rv.scl hs⟩
                · cases hL
              · rw [if_neg e] at hL
                cases hL
                exact ⟨.str "none", fun z => absurd z e, fun _ => rfl, fun O H2 => .str _⟩
            obtain ⟨lv, l1, l2, l3⟩ := hlv
            have hdo : DOk d H' := by
              cases pl with
              | none => exact .inl pk
              | some x =>
                obtain ⟨da, v, rfl, hH, rv⟩ := pk
                exact .inr ⟨da, _, rfl, hH⟩
            obtain ⟨t0, ht0, et0⟩ := em_in hT
            refine ⟨C1, fb, fD, m, lv, rfl, by rw [C.hK]; exact xc, hfD, by rw [C.hK]; exact hU t0 ht0 C1 (by rw [et0]; exact hc1), List.getElem?_set_self hlt, by rw [List.getElem?_set_ne (by decide)]; exact hvm1, by rw [List.length_set]; exact hlen, hdo, l1, l2, fun l H1 st => ?_⟩
            obtain ⟨b1, b2, b3⟩ := st.back
            have sm1 : Same H (del H1 l) := sm.trans b1
            have g1 := (gd.same sm1).setO (i := 2) (p := l) (vs := PN.map fun P => .bl (fb P)) (ds := (PN.map fb).map .bool) (by rw [gd.len, hlen]; decide) b2 (RpAll.bools _ _)
            rw [b3] at g1
            have g2 := (g1.setA (i := 3) (.bl true)).setA (i := 4) (l3 _ _)
            have g3 := (g2.clr [5]).blk Ow.clr_none
            have stp1 : Stp ow H (ow.put 2 l) H1 := by
              have z := (Same.stp (ow := ow) sm1).trans (Ow.put_stp (i := 2) (o := .lst (PN.map fun P => .bl (fb P))) b2)
              rw [b3] at z
              exact z
            show D.nx ((((((σ.set 5 (some (.ref a))).set 2 (some (.ref l))).set 3 (some (.bl true))).set 4 (some lv))).set 5 none) H1
            have eσ : ((((((σ.set 5 (some (.ref a))).set 2 (some (.ref l))).set 3 (some (.bl true))).set 4 (some lv))).set 5 none) = (((σ.set 2 (some (.ref l))).set 3 (some (.bl true))).set 4 (some lv)).set 5 none := by
              rw [List.set_comm _ _ (show (5 : Nat) ≠ 2 by decide), List.set_comm _ _ (show (5 : Nat) ≠ 3 by decide), List.set_comm _ _ (show (5 : Nat) ≠ 4 by decide), List.set_set]
            rw [eσ]
            refine post _ _ H1 (((stp1.trans (Ow.clr_stp _ [3] _)).trans (Ow.clr_stp _ [4] _)).trans (Ow.clr_stp _ [5] _)) ?_
            have ec : PT.clr (PT.clr (((ρ.set 2 (some (.own ((PN.map fb).map .bool)))).set 3 (some (.sh (.bool true)))).set 4 (some (.sh dl))) [5]) [5] = aft ρ (PN.map fb) dl := by
              unfold aft
              exact List.set_set _
            rw [← ec]
            exact g3
          · cases he
        · cases he
      · cases he
end
end PT

namespace PT
open PySem PySem.Spec PyProof.Rows L2
/-! ## what the head checks of the class Sheet -/
def tyB : List String := ["int", "bool", "str", "tuple", "list"]
def tyC : List String := ["NoneType", "bool", "int", "str", "list", "tuple"]
def fldL : List Str := ["modulus", "entries", "history"]
def shB (K : PySem.W.Frag) : Bool := (He.Fa.cls "Sheet").ok K && (He.eqO (PySem.W.findIn K (.ref (He.ga K "Sheet")) "__class__") (some (some (.builtin "object.__class__"))) && (He.eqO (PySem.W.specialIn K (.builtin "object.__class__") "__get__") (some (some (.builtin "getset_descriptor.__get__"))) &&
  (decide (PySem.W.takesIn K (.builtin "object.__class__") = some true) && (decide (PySem.W.mroIn K (He.ga K "Sheet") (.type "object") = some true) && tyB.all fun T => decide (PySem.W.kitOne K (.ref (He.ga K "Sheet")) (.type T) = some false)))))
theorem shB_ok {K : PySem.W.Frag} (h : shB K = true) : ShK K := by
  unfold shB at h
  simp only [Bool.and_eq_true, decide_eq_true_eq] at h
  obtain ⟨h1, h2, h3, h4, h5, h6⟩ := h
  exact ⟨He.cls_ok h1, He.eqO_ok h2, He.eqO_ok h3, h4, h5, fun T hT => of_decide_eq_true (List.all_eq_true.mp h6 T hT)⟩
def shXB (K : PySem.W.Frag) : Bool := fldL.all (fun f => (He.Fa.noat "Sheet" f).ok K) && (decide (PySem.W.kitOne K (.ref (He.ga K "Sheet")) (.ref (He.ga K "Sheet")) = some true) && tyC.all fun T => decide (PySem.W.kitOne K (.type T) (.ref (He.ga K "Sheet")) = some false))
theorem shXB_ok {K : PySem.W.Frag} (h : shXB K = true) : ShX K := by
  unfold shXB at h
  simp only [Bool.and_eq_true, decide_eq_true_eq] at h
  obtain ⟨h1, h2, h3⟩ := h
  exact ⟨fun f hf => He.noat_ok (List.all_eq_true.mp h1 f hf), h2, fun T hT => of_decide_eq_true (List.all_eq_true.mp h3 T hT)⟩
def undB (E : EMT) (K : PySem.W.Frag) : Bool := E.all fun t => He.eqO (PySem.W.nsIn K mainGlobals t.1) (some (some (.ref (He.ga K t.1)))) && decide (PySem.W.kitOne K (.ref (He.ga K t.1)) (.type "ValueError") = some true)
theorem undB_ok {P : Program} {w : World} {K : PySem.W.Frag} {h base : Heap} {mg : Str → Option Value} {E : EMT} (X : K.In h) (G : h.Ns mainGlobals mg) (c : undB E K = true) : UndV ⟨P, w, K, mg, base⟩ E := fun t ht C hC => by
  have h1 := List.all_eq_true.mp c t ht
  simp only [Bool.and_eq_true, decide_eq_true_eq] at h1
  obtain ⟨a1, a2⟩ := h1
  have e := hC.symm.trans (PySem.W.mg_of X G (He.eqO_ok a1))
  cases e
  exact a2
end PT

namespace PT
open PySem PySem.Spec PyProof.Rows L2
def top (i : Nat) : Stmt := PySem.Challenge.pw_polytables_k17_exceptions.main.body.getD i (.Pass ⟨0, 0, 0, 0⟩)
def EM : EMT := ([("TableError", "TableError", true), ("TableError", "InvalidModulus", false), ("TableError", "InvalidTable", false), ("TableError", "InvalidPolynomial", false), ("TableError", "NothingToUndo", false), ("TableError", "InvalidForm", false), ("TableError", "InvalidPlace", false), ("TableError", "InvalidValue", false), ("TableError", "InvalidAnswers", false), ("TableError", "NotPolynomial", false), ("TableError", "IsPolynomial", false), ("TableError", "NotPermutation", false), ("TableError", "TooMany", false), ("TableError", "ParseError", false), ("ParseError", "TableError", true), ("ParseError", "InvalidModulus", false), ("ParseError", "InvalidTable", false), ("ParseError", "InvalidPolynomial", false), ("ParseError", "NothingToUndo", false), ("ParseError", "InvalidForm", false)] : EMT) ++ ([("ParseError", "InvalidPlace", false), ("ParseError", "InvalidValue", false), ("ParseError", "InvalidAnswers", false), ("ParseError", "NotPolynomial", false), ("ParseError", "IsPolynomial", false), ("ParseError", "NotPermutation", false), ("ParseError", "TooMany", false), ("ParseError", "ParseError", true), ("InvalidModulus", "TableError", true), ("InvalidModulus", "InvalidModulus", true), ("InvalidModulus", "InvalidTable", false), ("InvalidModulus", "InvalidPolynomial", false), ("InvalidModulus", "NothingToUndo", false), ("InvalidModulus", "InvalidForm", false), ("InvalidModulus", "InvalidPlace", false), ("InvalidModulus", "InvalidValue", false), ("InvalidModulus", "InvalidAnswers", false), ("InvalidModulus", "NotPolynomial", false), ("InvalidModulus", "IsPolynomial", false), ("InvalidModulus", "NotPermutation", false)] : EMT) ++ ([("InvalidModulus", "TooMany", false), ("InvalidModulus", "ParseError", false), ("InvalidTable", "TableError", true), ("InvalidTable", "InvalidModulus", false), ("InvalidTable", "InvalidTable", true), ("InvalidTable", "InvalidPolynomial", false), ("InvalidTable", "NothingToUndo", false), ("InvalidTable", "InvalidForm", false), ("InvalidTable", "InvalidPlace", false), ("InvalidTable", "InvalidValue", false), ("InvalidTable", "InvalidAnswers", false), ("InvalidTable", "NotPolynomial", false), ("InvalidTable", "IsPolynomial", false), ("InvalidTable", "NotPermutation", false), ("InvalidTable", "TooMany", false), ("InvalidTable", "ParseError", false), ("InvalidPolynomial", "TableError", true), ("InvalidPolynomial", "InvalidModulus", false), ("InvalidPolynomial", "InvalidTable", false), ("InvalidPolynomial", "InvalidPolynomial", true)] : EMT) ++ ([("InvalidPolynomial", "NothingToUndo", false), ("InvalidPolynomial", "InvalidForm", false), ("InvalidPolynomial", "InvalidPlace", false), ("InvalidPolynomial", "InvalidValue", false), ("InvalidPolynomial", "InvalidAnswers", false), ("InvalidPolynomial", "NotPolynomial", false), ("InvalidPolynomial", "IsPolynomial", false), ("InvalidPolynomial", "NotPermutation", false), ("InvalidPolynomial", "TooMany", false), ("InvalidPolynomial", "ParseError", false), ("InvalidForm", "TableError", true), ("InvalidForm", "InvalidModulus", false), ("InvalidForm", "InvalidTable", false), ("InvalidForm", "InvalidPolynomial", false), ("InvalidForm", "NothingToUndo", false), ("InvalidForm", "InvalidForm", true), ("InvalidForm", "InvalidPlace", false), ("InvalidForm", "InvalidValue", false), ("InvalidForm", "InvalidAnswers", false), ("InvalidForm", "NotPolynomial", false)] : EMT) ++ ([("InvalidForm", "IsPolynomial", false), ("InvalidForm", "NotPermutation", false), ("InvalidForm", "TooMany", false), ("InvalidForm", "ParseError", false), ("InvalidPlace", "TableError", true), ("InvalidPlace", "InvalidModulus", false), ("InvalidPlace", "InvalidTable", false), ("InvalidPlace", "InvalidPolynomial", false), ("InvalidPlace", "NothingToUndo", false), ("InvalidPlace", "InvalidForm", false), ("InvalidPlace", "InvalidPlace", true), ("InvalidPlace", "InvalidValue", false), ("InvalidPlace", "InvalidAnswers", false), ("InvalidPlace", "NotPolynomial", false), ("InvalidPlace", "IsPolynomial", false), ("InvalidPlace", "NotPermutation", false), ("InvalidPlace", "TooMany", false), ("InvalidPlace", "ParseError", false), ("InvalidValue", "TableError", true), ("InvalidValue", "InvalidModulus", false)] : EMT) ++ ([("InvalidValue", "InvalidTable", false), ("InvalidValue", "InvalidPolynomial", false), ("InvalidValue", "NothingToUndo", false), ("InvalidValue", "InvalidForm", false), ("InvalidValue", "InvalidPlace", false), ("InvalidValue", "InvalidValue", true), ("InvalidValue", "InvalidAnswers", false), ("InvalidValue", "NotPolynomial", false), ("InvalidValue", "IsPolynomial", false), ("InvalidValue", "NotPermutation", false), ("InvalidValue", "TooMany", false), ("InvalidValue", "ParseError", false), ("InvalidAnswers", "TableError", true), ("InvalidAnswers", "InvalidModulus", false), ("InvalidAnswers", "InvalidTable", false), ("InvalidAnswers", "InvalidPolynomial", false), ("InvalidAnswers", "NothingToUndo", false), ("InvalidAnswers", "InvalidForm", false), ("InvalidAnswers", "InvalidPlace", false), ("InvalidAnswers", "InvalidValue", false)] : EMT) ++ ([("InvalidAnswers", "InvalidAnswers", true), ("InvalidAnswers", "NotPolynomial", false), ("InvalidAnswers", "IsPolynomial", false), ("InvalidAnswers", "NotPermutation", false), ("InvalidAnswers", "TooMany", false), ("InvalidAnswers", "ParseError", false), ("NotPolynomial", "TableError", true), ("NotPolynomial", "InvalidModulus", false), ("NotPolynomial", "InvalidTable", false), ("NotPolynomial", "InvalidPolynomial", false), ("NotPolynomial", "NothingToUndo", false), ("NotPolynomial", "InvalidForm", false), ("NotPolynomial", "InvalidPlace", false), ("NotPolynomial", "InvalidValue", false), ("NotPolynomial", "InvalidAnswers", false), ("NotPolynomial", "NotPolynomial", true), ("NotPolynomial", "IsPolynomial", false), ("NotPolynomial", "NotPermutation", false), ("NotPolynomial", "TooMany", false), ("NotPolynomial", "ParseError", false)] : EMT) ++ ([("IsPolynomial", "TableError", true), ("IsPolynomial", "InvalidModulus", false), ("IsPolynomial", "InvalidTable", false), ("IsPolynomial", "InvalidPolynomial", false), ("IsPolynomial", "NothingToUndo", false), ("IsPolynomial", "InvalidForm", false), ("IsPolynomial", "InvalidPlace", false), ("IsPolynomial", "InvalidValue", false), ("IsPolynomial", "InvalidAnswers", false), ("IsPolynomial", "NotPolynomial", false), ("IsPolynomial", "IsPolynomial", true), ("IsPolynomial", "NotPermutation", false), ("IsPolynomial", "TooMany", false), ("IsPolynomial", "ParseError", false), ("NotPermutation", "TableError", true), ("NotPermutation", "InvalidModulus", false), ("NotPermutation", "InvalidTable", false), ("NotPermutation", "InvalidPolynomial", false), ("NotPermutation", "NothingToUndo", false), ("NotPermutation", "InvalidForm", false)] : EMT) ++ ([("NotPermutation", "InvalidPlace", false), ("NotPermutation", "InvalidValue", false), ("NotPermutation", "InvalidAnswers", false), ("NotPermutation", "NotPolynomial", false), ("NotPermutation", "IsPolynomial", false), ("NotPermutation", "NotPermutation", true), ("NotPermutation", "TooMany", false), ("NotPermutation", "ParseError", false), ("TooMany", "TableError", true), ("TooMany", "InvalidModulus", false), ("TooMany", "InvalidTable", false), ("TooMany", "InvalidPolynomial", false), ("TooMany", "NothingToUndo", false), ("TooMany", "InvalidForm", false), ("TooMany", "InvalidPlace", false), ("TooMany", "InvalidValue", false), ("TooMany", "InvalidAnswers", false), ("TooMany", "NotPolynomial", false), ("TooMany", "IsPolynomial", false), ("TooMany", "NotPermutation", false)] : EMT) ++ ([("TooMany", "TooMany", true), ("TooMany", "ParseError", false), ("NothingToUndo", "TableError", true), ("NothingToUndo", "InvalidModulus", false), ("NothingToUndo", "InvalidTable", false), ("NothingToUndo", "InvalidPolynomial", false), ("NothingToUndo", "NothingToUndo", true), ("NothingToUndo", "InvalidForm", false), ("NothingToUndo", "InvalidPlace", false), ("NothingToUndo", "InvalidValue", false), ("NothingToUndo", "InvalidAnswers", false), ("NothingToUndo", "NotPolynomial", false), ("NothingToUndo", "IsPolynomial", false), ("NothingToUndo", "NotPermutation", false), ("NothingToUndo", "TooMany", false), ("NothingToUndo", "ParseError", false)] : EMT)
/-! ### ParseError.__init__ -/
abbrev st_pe_ParseError : Stmt := mth (top 3) 0
theorem sc_pe_ParseError : FnScope ["self", "line"] ["self", "line"] (defScope st_pe_ParseError) := ⟨rfl, rfl, rfl, by decide +kernel, rfl, by decide +kernel, by decide +kernel⟩
theorem pe_ParseError {G : Gc} {fd : FuncData} (F : PeF G.K G.mg "ParseError" "TableError") (Fu : FunD G.K "__init__" "ParseError.__init__" (defArgs st_pe_ParseError) (defBody st_pe_ParseError) (defScope st_pe_ParseError) [] [] (He.ma G.K (He.ga G.K "ParseError") "__init__") fd) : PeC G "ParseError" :=
  F.peC (FunD.bindsN (ps := ["self", "line"]) Fu fun _ _ _ _ _ _ us hl => match us, hl with | [_, _], _ => rfl) (pe_initOk Fu sc_pe_ParseError F.mb F.rd F.vV)
/-! ### _wall -/
abbrev st__wall : Stmt := top 0
abbrev N__wall : List Str := ["k"]
def b1__wall : SF := sNop
def g__wall : SF := sWhile 1000 (eC (.bool true)) (b1__wall)
def F__wall : List Dt → Option Rs := runB 1 g__wall
theorem sc__wall : FnScope N__wall ["k"] (defScope st__wall) := ⟨rfl, rfl, rfl, by decide +kernel, rfl, by decide +kernel, by decide +kernel⟩
theorem b__wall {G : Gc} (B : Bi G) : SB G N__wall (defScope st__wall) (fun _ => true) 0 (defBody st__wall) g__wall := by
  unfold g__wall
  exact sb_one (ss_while 1000 (st_val (se_bl)) (sb_one (ss_pass)))
theorem fn__wall {G : Gc} {f : Addr} {fd : FuncData} (B : Bi G) (hm : G.mg "_wall" = some (.ref f)) (Fu : FunD G.K "_wall" "_wall" (defArgs st__wall) (defBody st__wall) (defScope st__wall) [] [] f fd) : FnIs G "_wall" 1 1 F__wall :=
  fn_is hm Fu sc__wall (FunD.bindsN (ps := ["k"]) Fu fun _ _ _ _ _ _ us hl => match us, hl with | [_], _ => rfl) (b__wall B  ) (fun _ _ _ h => h)
/-! ### in_range -/
abbrev st_in_range : Stmt := top 20
abbrev N_in_range : List Str := ["value", "low", "high"]
def g_in_range : SF := sRet (eAnd (eIsi "int" (eVar 0)) (eAnd (eNot (eIsi "bool" (eVar 0))) (eChain (eVar 1) (eVar 0) (eVar 2))))
def F_in_range : List Dt → Option Rs := runB 3 g_in_range
theorem sc_in_range : FnScope N_in_range ["value", "low", "high"] (defScope st_in_range) := ⟨rfl, rfl, rfl, by decide +kernel, rfl, by decide +kernel, by decide +kernel⟩
theorem b_in_range {G : Gc} (B : Bi G) : SB G N_in_range (defScope st_in_range) (fun _ => true) 0 (defBody st_in_range) g_in_range := by
  unfold g_in_range
  exact sb_one (ss_ret (se_and (se_isi B kit_int (se_var 0) B.int PyProof.Rows.boot_int) (se_and (se_not (se_isi B kit_bool (se_var 0) B.bool PyProof.Rows.boot_bool)) (se_one (se_chain (se_var 1) (se_var 0) (se_var 2))))))
theorem fn_in_range {G : Gc} {f : Addr} {fd : FuncData} (B : Bi G) (hm : G.mg "in_range" = some (.ref f)) (Fu : FunD G.K "in_range" "in_range" (defArgs st_in_range) (defBody st_in_range) (defScope st_in_range) [] [] f fd) : FnIs G "in_range" 1 3 F_in_range :=
  fn_is hm Fu sc_in_range (FunD.bindsN (ps := ["value", "low", "high"]) Fu fun _ _ _ _ _ _ us hl => match us, hl with | [_, _, _], _ => rfl) (b_in_range B  ) (fun _ _ _ h => h)
/-! ### value_at -/
abbrev st_value_at : Stmt := top 26
abbrev N_value_at : List Str := ["modulus", "polynomial", "place", "result", "coefficient"]
def b1_value_at : SF := sSet 3 (eBin dMod (eBin dAdd (eBin dMul (eVar 3) (eVar 2)) (eVar 4)) (eVar 0))
def t2_value_at : SF := sRet (eVar 3)
def t1_value_at : SF := sSeq (sFor [4] (gNm 4) (iRev (eVar 1)) (b1_value_at)) t2_value_at
def g_value_at : SF := sSeq (sSet 3 (eC (.int 0))) t1_value_at
def F_value_at : List Dt → Option Rs := runB 5 g_value_at
theorem sc_value_at : FnScope N_value_at ["modulus", "polynomial", "place"] (defScope st_value_at) := ⟨rfl, rfl, rfl, by decide +kernel, rfl, by decide +kernel, by decide +kernel⟩
theorem b_value_at {G : Gc} (B : Bi G) : SB G N_value_at (defScope st_value_at) (fun _ => true) 0 (defBody st_value_at) g_value_at := by
  unfold g_value_at
  exact sb_cons (ss_set (ag_of 3 (se_int)))
    (sb_cons (ss_for (si_rev B (se_var 1)) (sg_nm 4) (sb_one (ss_set (ag_of 3 (se_mod (se_add (se_mul (se_var 3) (se_var 2)) (se_var 4)) (se_var 0))))))
    (sb_one (ss_ret (se_var 3))))
theorem fn_value_at {G : Gc} {f : Addr} {fd : FuncData} (B : Bi G) (hm : G.mg "value_at" = some (.ref f)) (Fu : FunD G.K "value_at" "value_at" (defArgs st_value_at) (defBody st_value_at) (defScope st_value_at) [] [] f fd) : FnIs G "value_at" 1 3 F_value_at :=
  fn_is hm Fu sc_value_at (FunD.bindsN (ps := ["modulus", "polynomial", "place"]) Fu fun _ _ _ _ _ _ us hl => match us, hl with | [_, _, _], _ => rfl) (b_value_at B  ) (fun _ _ _ h => h)
/-! ### difference_row -/
abbrev st_difference_row : Stmt := top 28
abbrev N_difference_row : List Str := ["modulus", "table", "place", "row", "result", "low", "high"]
def b1_difference_row : SF := sSeq (sApp 4 (eBin dIx (eVar 3) (eC (.int 0))))
  (sSet 3 (eLc [5, 6] (gPr (gNm 5) (gNm 6)) (iZip (eVar 3) (eSl (eVar 3) (oSo (eC (.int 1))) (oNo))) (eC (.bool true)) (eBin dMod (eBin dSub (eVar 6) (eVar 5)) (eVar 0))))
def t3_difference_row : SF := sRet (eVar 4)
def t2_difference_row : SF := sSeq (sWhile 1000 (eVar 3) (b1_difference_row)) t3_difference_row
def t1_difference_row : SF := sSeq (sSetO 4 (eLst (aNil))) t2_difference_row
def g_difference_row : SF := sSeq (sSet 3 (eUn dList (eBin dAdd (eSl (eVar 1) (oSo (eVar 2)) (oNo)) (eSl (eVar 1) (oNo) (oSo (eVar 2)))))) t1_difference_row
def F_difference_row : List Dt → Option Rs := runB 7 g_difference_row
theorem sc_difference_row : FnScope N_difference_row ["modulus", "table", "place"] (defScope st_difference_row) := ⟨rfl, rfl, rfl, by decide +kernel, rfl, by decide +kernel, by decide +kernel⟩
theorem b_difference_row {G : Gc} (B : Bi G) : SB G N_difference_row (defScope st_difference_row) (fun _ => true) 0 (defBody st_difference_row) g_difference_row := by
  unfold g_difference_row
  exact sb_cons (ss_set (ag_of 3 (se_list B (se_add (se_sl (se_var 1) (so_some (se_var 2)) (so_none)) (se_sl (se_var 1) (so_none) (so_some (se_var 2)))))))
    (sb_cons (ss_setO (agL_of 4 (sl_lst (sa_nil))))
    (sb_cons (ss_while 1000 (st_val (se_var 3)) (sb_cons (ss_app 4 (se_ix (se_var 3) (se_int)))
    (sb_one (ag_lc 3 (own := [("low", 5), ("high", 6)]) (si_zip B (se_var 3) (se_sl (se_var 3) (so_some (se_int)) (so_none))) (by decide +kernel) (sg_prR (sg_nm 5) (sg_nm 6)) (sts_nil) (se_mod (se_sub (se_var 6) (se_var 5)) (se_var 0))))))
    (sb_one (ss_ret (se_var 4)))))
theorem fn_difference_row {G : Gc} {f : Addr} {fd : FuncData} (B : Bi G) (hm : G.mg "difference_row" = some (.ref f)) (Fu : FunD G.K "difference_row" "difference_row" (defArgs st_difference_row) (defBody st_difference_row) (defScope st_difference_row) [] [] f fd) : FnIs G "difference_row" 1 3 F_difference_row :=
  fn_is hm Fu sc_difference_row (FunD.bindsN (ps := ["modulus", "table", "place"]) Fu fun _ _ _ _ _ _ us hl => match us, hl with | [_, _, _], _ => rfl) (b_difference_row B  ) (fun _ _ _ h => h)
/-! ### greatest_divisor -/
abbrev st_greatest_divisor : Stmt := top 30
abbrev N_greatest_divisor : List Str := ["one", "other"]
def b1_greatest_divisor : SF := sPar 0 1 (eVar 1) (eBin dMod (eVar 0) (eVar 1))
def t1_greatest_divisor : SF := sRet (eVar 0)
def g_greatest_divisor : SF := sSeq (sWhile 1000 (eVar 1) (b1_greatest_divisor)) t1_greatest_divisor
def F_greatest_divisor : List Dt → Option Rs := runB 2 g_greatest_divisor
theorem sc_greatest_divisor : FnScope N_greatest_divisor ["one", "other"] (defScope st_greatest_divisor) := ⟨rfl, rfl, rfl, by decide +kernel, rfl, by decide +kernel, by decide +kernel⟩
theorem b_greatest_divisor {G : Gc} (B : Bi G) : SB G N_greatest_divisor (defScope st_greatest_divisor) (fun _ => true) 0 (defBody st_greatest_divisor) g_greatest_divisor := by
  unfold g_greatest_divisor
  exact sb_cons (ss_while 1000 (st_val (se_var 1)) (sb_one (ss_par 0 1 (se_var 1) (se_mod (se_var 0) (se_var 1)))))
    (sb_one (ss_ret (se_var 0)))
theorem fn_greatest_divisor {G : Gc} {f : Addr} {fd : FuncData} (B : Bi G) (hm : G.mg "greatest_divisor" = some (.ref f)) (Fu : FunD G.K "greatest_divisor" "greatest_divisor" (defArgs st_greatest_divisor) (defBody st_greatest_divisor) (defScope st_greatest_divisor) [] [] f fd) : FnIs G "greatest_divisor" 1 2 F_greatest_divisor :=
  fn_is hm Fu sc_greatest_divisor (FunD.bindsN (ps := ["one", "other"]) Fu fun _ _ _ _ _ _ us hl => match us, hl with | [_, _], _ => rfl) (b_greatest_divisor B  ) (fun _ _ _ h => h)
/-! ### quotient -/
abbrev st_quotient : Stmt := top 39
abbrev N_quotient : List Str := ["modulus", "divisor", "factorial", "difference", "factor"]
def g_quotient : SF := sRet (eBin dIx (eLc [4] (gNm 4) (iRg1 (eBin dDiv (eVar 0) (eVar 1))) (eBin dEq (eBin dMod (eBin dSub (eBin dMul (eVar 4) (eVar 2)) (eVar 3)) (eVar 0)) (eC (.int 0))) (eVar 4)) (eC (.int 0)))
def F_quotient : List Dt → Option Rs := runB 5 g_quotient
theorem sc_quotient : FnScope N_quotient ["modulus", "divisor", "factorial", "difference"] (defScope st_quotient) := ⟨rfl, rfl, rfl, by decide +kernel, rfl, by decide +kernel, by decide +kernel⟩
theorem b_quotient {G : Gc} (B : Bi G) : SB G N_quotient (defScope st_quotient) (fun _ => true) 0 (defBody st_quotient) g_quotient := by
  unfold g_quotient
  exact sb_one (ss_ret (se_ix (se_lc (own := [("factor", 4)]) (si_rg1 B (se_div (se_var 0) (se_var 1))) (by decide +kernel) (sg_nm 4) (sts_one (st_eq (se_mod (se_sub (se_mul (se_var 4) (se_var 2)) (se_var 3)) (se_var 0)) (se_int))) (se_var 4)) (se_int)))
theorem fn_quotient {G : Gc} {f : Addr} {fd : FuncData} (B : Bi G) (hm : G.mg "quotient" = some (.ref f)) (Fu : FunD G.K "quotient" "quotient" (defArgs st_quotient) (defBody st_quotient) (defScope st_quotient) [] [] f fd) : FnIs G "quotient" 1 4 F_quotient :=
  fn_is hm Fu sc_quotient (FunD.bindsN (ps := ["modulus", "divisor", "factorial", "difference"]) Fu fun _ _ _ _ _ _ us hl => match us, hl with | [_, _, _, _], _ => rfl) (b_quotient B  ) (fun _ _ _ h => h)
/-! ### built -/
abbrev st_built : Stmt := top 42
abbrev N_built : List Str := ["modulus", "form", "result", "place", "total", "product", "order", "factor"]
def b1_built : SF := sSeq (sAug 4 dAddI (eBin dMul (eVar 7) (eVar 5)))
  (sAug 5 dMulI (eBin dSub (eVar 3) (eVar 6)))
def b2_built : SF := sSeq (sSet 4 (eC (.int 0)))
  (sSeq (sSet 5 (eC (.int 1)))
  (sSeq (sFor [6, 7] (gPr (gNm 6) (gNm 7)) (iEnum (eVar 1)) (b1_built))
  (sApp 2 (eBin dMod (eVar 4) (eVar 0)))))
def t2_built : SF := sRet (eUn dTuple (eVar 2))
def t1_built : SF := sSeq (sFor [3] (gNm 3) (iRg1 (eVar 0)) (b2_built)) t2_built
def g_built : SF := sSeq (sSetO 2 (eLst (aNil))) t1_built
def F_built : List Dt → Option Rs := runB 8 g_built
theorem sc_built : FnScope N_built ["modulus", "form"] (defScope st_built) := ⟨rfl, rfl, rfl, by decide +kernel, rfl, by decide +kernel, by decide +kernel⟩
theorem b_built {G : Gc} (B : Bi G) : SB G N_built (defScope st_built) (fun _ => true) 0 (defBody st_built) g_built := by
  unfold g_built
  exact sb_cons (ss_setO (agL_of 2 (sl_lst (sa_nil))))
    (sb_cons (ss_for (si_rg1 B (se_var 0)) (sg_nm 3) (sb_cons (ss_set (ag_of 4 (se_int)))
    (sb_cons (ss_set (ag_of 5 (se_int)))
    (sb_cons (ss_for (si_enum B (se_var 1)) (sg_prR (sg_nm 6) (sg_nm 7)) (sb_cons (ss_augAdd 4 (se_mul (se_var 7) (se_var 5)))
    (sb_one (ss_augMul 5 (se_sub (se_var 3) (se_var 6))))))
    (sb_one (ss_app 2 (se_mod (se_var 4) (se_var 0))))))))
    (sb_one (ss_ret (se_tuple B (se_var 2)))))
theorem fn_built {G : Gc} {f : Addr} {fd : FuncData} (B : Bi G) (hm : G.mg "built" = some (.ref f)) (Fu : FunD G.K "built" "built" (defArgs st_built) (defBody st_built) (defScope st_built) [] [] f fd) : FnIs G "built" 1 2 F_built :=
  fn_is hm Fu sc_built (FunD.bindsN (ps := ["modulus", "form"]) Fu fun _ _ _ _ _ _ us hl => match us, hl with | [_, _], _ => rfl) (b_built B  ) (fun _ _ _ h => h)
/-! ### tuples -/
abbrev st_tuples : Stmt := top 46
abbrev N_tuples : List Str := ["limits", "result", "limit", "longer", "one", "number"]
def b1_tuples : SF := sExt 3 (eLc [5] (gNm 5) (iRg1 (eVar 2)) (eC (.bool true)) (eBin dAdd (eVar 4) (eTup (aCons (eVar 5) (aNil)))))
def b2_tuples : SF := sSeq (sSetO 3 (eLst (aNil)))
  (sSeq (sFor [4] (gNm 4) (iSeq (eVar 1)) (b1_tuples))
  (sUn 3 (sSet 1 (eVar 3))))
def t2_tuples : SF := sRet (eVar 1)
def t1_tuples : SF := sSeq (sFor [2] (gNm 2) (iSeq (eVar 0)) (b2_tuples)) t2_tuples
def g_tuples : SF := sSeq (sSet 1 (eLst (aCons (eTup (aNil)) (aNil)))) t1_tuples
def F_tuples : List Dt → Option Rs := runB 6 g_tuples
theorem sc_tuples : FnScope N_tuples ["limits"] (defScope st_tuples) := ⟨rfl, rfl, rfl, by decide +kernel, rfl, by decide +kernel, by decide +kernel⟩
theorem b_tuples {G : Gc} (B : Bi G) : SB G N_tuples (defScope st_tuples) (fun _ => true) 0 (defBody st_tuples) g_tuples := by
  unfold g_tuples
  exact sb_cons (ss_set (ag_of 1 (se_lst (sa_cons (se_tup (sa_nil)) (sa_nil)))))
    (sb_cons (ss_for (si_seq (se_var 0)) (sg_nm 2) (sb_cons (ss_setO (agL_of 3 (sl_lst (sa_nil))))
    (sb_cons (ss_for (si_seq (se_var 1)) (sg_nm 4) (sb_one (ss_ext 3 (se_lc (own := [("number", 5)]) (si_rg1 B (se_var 2)) (by decide +kernel) (sg_nm 5) (sts_nil) (se_add (se_var 4) (se_tup (sa_cons (se_var 5) (sa_nil))))))))
    (sb_one (ss_un 3 (ss_set (ag_of 1 (se_var 3))))))))
    (sb_one (ss_ret (se_var 1))))
theorem fn_tuples {G : Gc} {f : Addr} {fd : FuncData} (B : Bi G) (hm : G.mg "tuples" = some (.ref f)) (Fu : FunD G.K "tuples" "tuples" (defArgs st_tuples) (defBody st_tuples) (defScope st_tuples) [] [] f fd) : FnIs G "tuples" 1 1 F_tuples :=
  fn_is hm Fu sc_tuples (FunD.bindsN (ps := ["limits"]) Fu fun _ _ _ _ _ _ us hl => match us, hl with | [_], _ => rfl) (b_tuples B  ) (fun _ _ _ h => h)
/-! ### gap -/
abbrev st_gap : Stmt := top 48
abbrev N_gap : List Str := ["one", "other", "left", "right"]
def g_gap : SF := sRet (eUn dLen (eLc [2, 3] (gPr (gNm 2) (gNm 3)) (iZip (eVar 0) (eVar 1)) (eBin dNe (eVar 2) (eVar 3)) (eC (.int 1))))
def F_gap : List Dt → Option Rs := runB 4 g_gap
theorem sc_gap : FnScope N_gap ["one", "other"] (defScope st_gap) := ⟨rfl, rfl, rfl, by decide +kernel, rfl, by decide +kernel, by decide +kernel⟩
theorem b_gap {G : Gc} (B : Bi G) : SB G N_gap (defScope st_gap) (fun _ => true) 0 (defBody st_gap) g_gap := by
  unfold g_gap
  exact sb_one (ss_ret (se_len B (se_lc (own := [("left", 2), ("right", 3)]) (si_zip B (se_var 0) (se_var 1)) (by decide +kernel) (sg_prR (sg_nm 2) (sg_nm 3)) (sts_one (st_ne (se_var 2) (se_var 3))) (se_int))))
theorem fn_gap {G : Gc} {f : Addr} {fd : FuncData} (B : Bi G) (hm : G.mg "gap" = some (.ref f)) (Fu : FunD G.K "gap" "gap" (defArgs st_gap) (defBody st_gap) (defScope st_gap) [] [] f fd) : FnIs G "gap" 1 2 F_gap :=
  fn_is hm Fu sc_gap (FunD.bindsN (ps := ["one", "other"]) Fu fun _ _ _ _ _ _ us hl => match us, hl with | [_, _], _ => rfl) (b_gap B  ) (fun _ _ _ h => h)
/-! ### parse_number -/
abbrev st_parse_number : Stmt := top 57
abbrev N_parse_number : List Str := ["token", "sign"]
def t1_parse_number : SF := sRet (eIf (eBin dEq (eUn dStr (eUn dIntS (eVar 0))) (eVar 0)) (eUn dIntS (eVar 0)) (eC .none))
def g_parse_number : SF := sSeq (sIf (eOrT (eNot (eChain (eC (.int 1)) (eUn dLen (eVar 0)) (eC (.int 2)))) (eLc [1] (gNm 1) (iStrF (eVar 0)) (eBin dNotIn (eVar 1) (eC (.str "0123456789"))) (eVar 1))) (sRet (eC .none)) (sNop)) t1_parse_number
def F_parse_number : List Dt → Option Rs := runB 2 g_parse_number
theorem sc_parse_number : FnScope N_parse_number ["token"] (defScope st_parse_number) := ⟨rfl, rfl, rfl, by decide +kernel, rfl, by decide +kernel, by decide +kernel⟩
theorem b_parse_number {G : Gc} (B : Bi G) (h_DIGITS : ∃ t, G.mg "DIGITS" = some (.str "0123456789" t)) : SB G N_parse_number (defScope st_parse_number) (fun _ => true) 0 (defBody st_parse_number) g_parse_number := by
  unfold g_parse_number
  exact sb_cons (ss_if (st_w (sw_or (st_not (st_chain (se_int) (se_len B (se_var 0)) (se_int))) (sw_or1 (st_val (se_lc (own := [("sign", 1)]) (si_str (se_var 0)) (by decide +kernel) (sg_nm 1) (sts_one (st_notIn (se_var 1) (se_gstr h_DIGITS))) (se_var 1)))))) (sb_one (ss_ret (se_non))) (sb_nil))
    (sb_one (ss_ret (se_if (st_eq (se_strC B (se_intS B (se_var 0))) (se_var 0)) (se_intS B (se_var 0)) (se_non))))
theorem fn_parse_number {G : Gc} {f : Addr} {fd : FuncData} (B : Bi G) (h_DIGITS : ∃ t, G.mg "DIGITS" = some (.str "0123456789" t)) (hm : G.mg "parse_number" = some (.ref f)) (Fu : FunD G.K "parse_number" "parse_number" (defArgs st_parse_number) (defBody st_parse_number) (defScope st_parse_number) [] [] f fd) : FnIs G "parse_number" 1 1 F_parse_number :=
  fn_is hm Fu sc_parse_number (FunD.bindsN (ps := ["token"]) Fu fun _ _ _ _ _ _ us hl => match us, hl with | [_], _ => rfl) (b_parse_number B h_DIGITS ) (fun _ _ _ h => h)
/-! ### _law_cell -/
abbrev st__law_cell : Stmt := top 63
abbrev N__law_cell : List Str := ["script", "k"]
def t1__law_cell : SF := sRet (eC (.int 0))
def g__law_cell : SF := sSeq (sIf (eBin dLt (eVar 1) (eUn dLen (eVar 0))) (sRet (eBin dIx (eVar 0) (eVar 1))) (sNop)) t1__law_cell
def F__law_cell : List Dt → Option Rs := runB 2 g__law_cell
theorem sc__law_cell : FnScope N__law_cell ["script", "k"] (defScope st__law_cell) := ⟨rfl, rfl, rfl, by decide +kernel, rfl, by decide +kernel, by decide +kernel⟩
theorem b__law_cell {G : Gc} (B : Bi G) : SB G N__law_cell (defScope st__law_cell) (fun _ => true) 0 (defBody st__law_cell) g__law_cell := by
  unfold g__law_cell
  exact sb_cons (ss_if (st_lt (se_var 1) (se_len B (se_var 0))) (sb_one (ss_ret (se_ix (se_var 0) (se_var 1)))) (sb_nil))
    (sb_one (ss_ret (se_int)))
theorem fn__law_cell {G : Gc} {f : Addr} {fd : FuncData} (B : Bi G) (hm : G.mg "_law_cell" = some (.ref f)) (Fu : FunD G.K "_law_cell" "_law_cell" (defArgs st__law_cell) (defBody st__law_cell) (defScope st__law_cell) [] [] f fd) : FnIs G "_law_cell" 1 2 F__law_cell :=
  fn_is hm Fu sc__law_cell (FunD.bindsN (ps := ["script", "k"]) Fu fun _ _ _ _ _ _ us hl => match us, hl with | [_, _], _ => rfl) (b__law_cell B  ) (fun _ _ _ h => h)
/-! ### check_modulus -/
abbrev st_check_modulus : Stmt := top 21
abbrev N_check_modulus : List Str := ["modulus"]
def g_check_modulus : SF := sIf (eNot (eFn 3 F_in_range (aCons (eVar 0) (aCons (eC (.int 2)) (aCons (eC (.int 12)) (aNil)))))) (sRaise "InvalidModulus") (sNop)
def F_check_modulus : List Dt → Option Rs := runB 1 g_check_modulus
theorem sc_check_modulus : FnScope N_check_modulus ["modulus"] (defScope st_check_modulus) := ⟨rfl, rfl, rfl, by decide +kernel, rfl, by decide +kernel, by decide +kernel⟩
theorem b_check_modulus {G : Gc} (B : Bi G) (h_in_range : FnIs G "in_range" 1 3 F_in_range) (h_MAX_MODULUS : ∃ t, G.mg "MAX_MODULUS" = some (.int 12 t)) (h_InvalidModulus : ExcC G "InvalidModulus") : SB G N_check_modulus (defScope st_check_modulus) (fun _ => true) 1 (defBody st_check_modulus) g_check_modulus := by
  unfold g_check_modulus
  exact sb_one (ss_if (st_not (st_val (se_fn h_in_range (sa_cons (se_var 0) (sa_cons (se_int) (sa_cons (se_gint h_MAX_MODULUS) (sa_nil))))))) (sb_one (ss_raise h_InvalidModulus)) (sb_nil))
theorem fn_check_modulus {G : Gc} {f : Addr} {fd : FuncData} (B : Bi G) (h_in_range : FnIs G "in_range" 1 3 F_in_range) (h_MAX_MODULUS : ∃ t, G.mg "MAX_MODULUS" = some (.int 12 t)) (h_InvalidModulus : ExcC G "InvalidModulus") (hm : G.mg "check_modulus" = some (.ref f)) (Fu : FunD G.K "check_modulus" "check_modulus" (defArgs st_check_modulus) (defBody st_check_modulus) (defScope st_check_modulus) [] [] f fd) : FnIs G "check_modulus" 2 1 F_check_modulus :=
  fn_is hm Fu sc_check_modulus (FunD.bindsN (ps := ["modulus"]) Fu fun _ _ _ _ _ _ us hl => match us, hl with | [_], _ => rfl) (b_check_modulus B h_in_range h_MAX_MODULUS h_InvalidModulus ) (fun _ _ _ h => h)
/-! ### is_valid_table -/
abbrev st_is_valid_table : Stmt := top 22
abbrev N_is_valid_table : List Str := ["modulus", "value", "one"]
def t1_is_valid_table : SF := sRet (eNot (eLc [2] (gNm 2) (iSeq (eVar 1)) (eNot (eFn 3 F_in_range (aCons (eVar 2) (aCons (eC (.int 0)) (aCons (eBin dSub (eVar 0) (eC (.int 1))) (aNil)))))) (eVar 2)))
def g_is_valid_table : SF := sSeq (sIf (eOrT (eNot (eIsi "tuple" (eVar 1))) (eBin dNe (eUn dLen (eVar 1)) (eVar 0))) (sRet (eC (.bool false))) (sNop)) t1_is_valid_table
def F_is_valid_table : List Dt → Option Rs := runB 3 g_is_valid_table
theorem sc_is_valid_table : FnScope N_is_valid_table ["modulus", "value"] (defScope st_is_valid_table) := ⟨rfl, rfl, rfl, by decide +kernel, rfl, by decide +kernel, by decide +kernel⟩
theorem b_is_valid_table {G : Gc} (B : Bi G) (h_in_range : FnIs G "in_range" 1 3 F_in_range) : SB G N_is_valid_table (defScope st_is_valid_table) (fun _ => true) 1 (defBody st_is_valid_table) g_is_valid_table := by
  unfold g_is_valid_table
  exact sb_cons (ss_if (st_w (sw_or (st_not (st_val (se_isi B kit_tuple (se_var 1) B.tuple PyProof.Rows.boot_tuple))) (sw_or1 (st_ne (se_len B (se_var 1)) (se_var 0))))) (sb_one (ss_ret (se_bl))) (sb_nil))
    (sb_one (ss_ret (se_not (se_lc (own := [("one", 2)]) (si_seq (se_var 1)) (by decide +kernel) (sg_nm 2) (sts_one (st_not (st_val (se_fn h_in_range (sa_cons (se_var 2) (sa_cons (se_int) (sa_cons (se_sub (se_var 0) (se_int)) (sa_nil)))))))) (se_var 2)))))
theorem fn_is_valid_table {G : Gc} {f : Addr} {fd : FuncData} (B : Bi G) (h_in_range : FnIs G "in_range" 1 3 F_in_range) (hm : G.mg "is_valid_table" = some (.ref f)) (Fu : FunD G.K "is_valid_table" "is_valid_table" (defArgs st_is_valid_table) (defBody st_is_valid_table) (defScope st_is_valid_table) [] [] f fd) : FnIs G "is_valid_table" 2 2 F_is_valid_table :=
  fn_is hm Fu sc_is_valid_table (FunD.bindsN (ps := ["modulus", "value"]) Fu fun _ _ _ _ _ _ us hl => match us, hl with | [_, _], _ => rfl) (b_is_valid_table B h_in_range ) (fun _ _ _ h => h)
/-! ### check_place -/
abbrev st_check_place : Stmt := top 24
abbrev N_check_place : List Str := ["modulus", "place"]
def g_check_place : SF := sIf (eNot (eFn 3 F_in_range (aCons (eVar 1) (aCons (eC (.int 0)) (aCons (eBin dSub (eVar 0) (eC (.int 1))) (aNil)))))) (sRaise "InvalidPlace") (sNop)
def F_check_place : List Dt → Option Rs := runB 2 g_check_place
theorem sc_check_place : FnScope N_check_place ["modulus", "place"] (defScope st_check_place) := ⟨rfl, rfl, rfl, by decide +kernel, rfl, by decide +kernel, by decide +kernel⟩
theorem b_check_place {G : Gc} (B : Bi G) (h_in_range : FnIs G "in_range" 1 3 F_in_range) (h_InvalidPlace : ExcC G "InvalidPlace") : SB G N_check_place (defScope st_check_place) (fun _ => true) 1 (defBody st_check_place) g_check_place := by
  unfold g_check_place
  exact sb_one (ss_if (st_not (st_val (se_fn h_in_range (sa_cons (se_var 1) (sa_cons (se_int) (sa_cons (se_sub (se_var 0) (se_int)) (sa_nil))))))) (sb_one (ss_raise h_InvalidPlace)) (sb_nil))
theorem fn_check_place {G : Gc} {f : Addr} {fd : FuncData} (B : Bi G) (h_in_range : FnIs G "in_range" 1 3 F_in_range) (h_InvalidPlace : ExcC G "InvalidPlace") (hm : G.mg "check_place" = some (.ref f)) (Fu : FunD G.K "check_place" "check_place" (defArgs st_check_place) (defBody st_check_place) (defScope st_check_place) [] [] f fd) : FnIs G "check_place" 2 2 F_check_place :=
  fn_is hm Fu sc_check_place (FunD.bindsN (ps := ["modulus", "place"]) Fu fun _ _ _ _ _ _ us hl => match us, hl with | [_, _], _ => rfl) (b_check_place B h_in_range h_InvalidPlace ) (fun _ _ _ h => h)
/-! ### is_valid_polynomial -/
abbrev st_is_valid_polynomial : Stmt := top 25
abbrev N_is_valid_polynomial : List Str := ["value", "one"]
def t1_is_valid_polynomial : SF := sRet (eNot (eLc [1] (gNm 1) (iSeq (eVar 0)) (eNot (eFn 3 F_in_range (aCons (eVar 1) (aCons (eUn dNeg (eC (.int 999))) (aCons (eC (.int 999)) (aNil)))))) (eVar 1)))
def g_is_valid_polynomial : SF := sSeq (sIf (eOrT (eNot (eIsi "tuple" (eVar 0))) (eBin dGt (eUn dLen (eVar 0)) (eC (.int 13)))) (sRet (eC (.bool false))) (sNop)) t1_is_valid_polynomial
def F_is_valid_polynomial : List Dt → Option Rs := runB 2 g_is_valid_polynomial
theorem sc_is_valid_polynomial : FnScope N_is_valid_polynomial ["value"] (defScope st_is_valid_polynomial) := ⟨rfl, rfl, rfl, by decide +kernel, rfl, by decide +kernel, by decide +kernel⟩
theorem b_is_valid_polynomial {G : Gc} (B : Bi G) (h_in_range : FnIs G "in_range" 1 3 F_in_range) (h_MAX_COEFFICIENTS : ∃ t, G.mg "MAX_COEFFICIENTS" = some (.int 13 t)) (h_MAX_COEFFICIENT : ∃ t, G.mg "MAX_COEFFICIENT" = some (.int 999 t)) : SB G N_is_valid_polynomial (defScope st_is_valid_polynomial) (fun _ => true) 1 (defBody st_is_valid_polynomial) g_is_valid_polynomial := by
  unfold g_is_valid_polynomial
  exact sb_cons (ss_if (st_w (sw_or (st_not (st_val (se_isi B kit_tuple (se_var 0) B.tuple PyProof.Rows.boot_tuple))) (sw_or1 (st_gt (se_len B (se_var 0)) (se_gint h_MAX_COEFFICIENTS))))) (sb_one (ss_ret (se_bl))) (sb_nil))
    (sb_one (ss_ret (se_not (se_lc (own := [("one", 1)]) (si_seq (se_var 0)) (by decide +kernel) (sg_nm 1) (sts_one (st_not (st_val (se_fn h_in_range (sa_cons (se_var 1) (sa_cons (se_neg (se_gint h_MAX_COEFFICIENT)) (sa_cons (se_gint h_MAX_COEFFICIENT) (sa_nil)))))))) (se_var 1)))))
theorem fn_is_valid_polynomial {G : Gc} {f : Addr} {fd : FuncData} (B : Bi G) (h_in_range : FnIs G "in_range" 1 3 F_in_range) (h_MAX_COEFFICIENTS : ∃ t, G.mg "MAX_COEFFICIENTS" = some (.int 13 t)) (h_MAX_COEFFICIENT : ∃ t, G.mg "MAX_COEFFICIENT" = some (.int 999 t)) (hm : G.mg "is_valid_polynomial" = some (.ref f)) (Fu : FunD G.K "is_valid_polynomial" "is_valid_polynomial" (defArgs st_is_valid_polynomial) (defBody st_is_valid_polynomial) (defScope st_is_valid_polynomial) [] [] f fd) : FnIs G "is_valid_polynomial" 2 1 F_is_valid_polynomial :=
  fn_is hm Fu sc_is_valid_polynomial (FunD.bindsN (ps := ["value"]) Fu fun _ _ _ _ _ _ us hl => match us, hl with | [_], _ => rfl) (b_is_valid_polynomial B h_in_range h_MAX_COEFFICIENTS h_MAX_COEFFICIENT ) (fun _ _ _ h => h)
/-! ### divisors -/
abbrev st_divisors : Stmt := top 31
abbrev N_divisors : List Str := ["modulus", "result", "product", "order"]
def b1_divisors : SF := sSeq (sAug 2 dMulI (eBin dMax2 (eVar 3) (eC (.int 1))))
  (sApp 1 (eFn 2 F_greatest_divisor (aCons (eVar 2) (aCons (eVar 0) (aNil)))))
def t3_divisors : SF := sRet (eVar 1)
def t2_divisors : SF := sSeq (sFor [3] (gNm 3) (iRg1 (eVar 0)) (b1_divisors)) t3_divisors
def t1_divisors : SF := sSeq (sSet 2 (eC (.int 1))) t2_divisors
def g_divisors : SF := sSeq (sSetO 1 (eLst (aNil))) t1_divisors
def F_divisors : List Dt → Option Rs := runB 4 g_divisors
theorem sc_divisors : FnScope N_divisors ["modulus"] (defScope st_divisors) := ⟨rfl, rfl, rfl, by decide +kernel, rfl, by decide +kernel, by decide +kernel⟩
theorem b_divisors {G : Gc} (B : Bi G) (h_greatest_divisor : FnIs G "greatest_divisor" 1 2 F_greatest_divisor) : SB G N_divisors (defScope st_divisors) (fun _ => true) 1 (defBody st_divisors) g_divisors := by
  unfold g_divisors
  exact sb_cons (ss_setO (agL_of 1 (sl_lst (sa_nil))))
    (sb_cons (ss_set (ag_of 2 (se_int)))
    (sb_cons (ss_for (si_rg1 B (se_var 0)) (sg_nm 3) (sb_cons (ss_augMul 2 (se_max2 B (se_var 3) (se_int)))
    (sb_one (ss_app 1 (se_fn h_greatest_divisor (sa_cons (se_var 2) (sa_cons (se_var 0) (sa_nil))))))))
    (sb_one (ss_ret (se_var 1)))))
theorem fn_divisors {G : Gc} {f : Addr} {fd : FuncData} (B : Bi G) (h_greatest_divisor : FnIs G "greatest_divisor" 1 2 F_greatest_divisor) (hm : G.mg "divisors" = some (.ref f)) (Fu : FunD G.K "divisors" "divisors" (defArgs st_divisors) (defBody st_divisors) (defScope st_divisors) [] [] f fd) : FnIs G "divisors" 2 1 F_divisors :=
  fn_is hm Fu sc_divisors (FunD.bindsN (ps := ["modulus"]) Fu fun _ _ _ _ _ _ us hl => match us, hl with | [_], _ => rfl) (b_divisors B h_greatest_divisor ) (fun _ _ _ h => h)
/-! ### are_answers -/
abbrev st_are_answers : Stmt := top 60
abbrev N_are_answers : List Str := ["modulus", "value", "answer", "one"]
def b1_are_answers : SF := sSeq (sIf (eOrT (eNot (eIsi "tuple" (eVar 2))) (eBin dNe (eUn dLen (eVar 2)) (eC (.int 2)))) (sRet (eC (.bool false))) (sNop))
  (sIf (eLc [3] (gNm 3) (iSeq (eVar 2)) (eNot (eFn 3 F_in_range (aCons (eVar 3) (aCons (eC (.int 0)) (aCons (eBin dSub (eVar 0) (eC (.int 1))) (aNil)))))) (eVar 3)) (sRet (eC (.bool false))) (sNop))
def t2_are_answers : SF := sRet (eC (.bool true))
def t1_are_answers : SF := sSeq (sFor [2] (gNm 2) (iSeq (eVar 1)) (b1_are_answers)) t2_are_answers
def g_are_answers : SF := sSeq (sIf (eNot (eIsi "tuple" (eVar 1))) (sRet (eC (.bool false))) (sNop)) t1_are_answers
def F_are_answers : List Dt → Option Rs := runB 4 g_are_answers
theorem sc_are_answers : FnScope N_are_answers ["modulus", "value"] (defScope st_are_answers) := ⟨rfl, rfl, rfl, by decide +kernel, rfl, by decide +kernel, by decide +kernel⟩
theorem b_are_answers {G : Gc} (B : Bi G) (h_in_range : FnIs G "in_range" 1 3 F_in_range) : SB G N_are_answers (defScope st_are_answers) (fun _ => true) 1 (defBody st_are_answers) g_are_answers := by
  unfold g_are_answers
  exact sb_cons (ss_if (st_not (st_val (se_isi B kit_tuple (se_var 1) B.tuple PyProof.Rows.boot_tuple))) (sb_one (ss_ret (se_bl))) (sb_nil))
    (sb_cons (ss_for (si_seq (se_var 1)) (sg_nm 2) (sb_cons (ss_if (st_w (sw_or (st_not (st_val (se_isi B kit_tuple (se_var 2) B.tuple PyProof.Rows.boot_tuple))) (sw_or1 (st_ne (se_len B (se_var 2)) (se_int))))) (sb_one (ss_ret (se_bl))) (sb_nil))
    (sb_one (ss_if (st_val (se_lc (own := [("one", 3)]) (si_seq (se_var 2)) (by decide +kernel) (sg_nm 3) (sts_one (st_not (st_val (se_fn h_in_range (sa_cons (se_var 3) (sa_cons (se_int) (sa_cons (se_sub (se_var 0) (se_int)) (sa_nil)))))))) (se_var 3))) (sb_one (ss_ret (se_bl))) (sb_nil)))))
    (sb_one (ss_ret (se_bl))))
theorem fn_are_answers {G : Gc} {f : Addr} {fd : FuncData} (B : Bi G) (h_in_range : FnIs G "in_range" 1 3 F_in_range) (hm : G.mg "are_answers" = some (.ref f)) (Fu : FunD G.K "are_answers" "are_answers" (defArgs st_are_answers) (defBody st_are_answers) (defScope st_are_answers) [] [] f fd) : FnIs G "are_answers" 2 2 F_are_answers :=
  fn_is hm Fu sc_are_answers (FunD.bindsN (ps := ["modulus", "value"]) Fu fun _ _ _ _ _ _ us hl => match us, hl with | [_, _], _ => rfl) (b_are_answers B h_in_range ) (fun _ _ _ h => h)
/-! ### check_table -/
abbrev st_check_table : Stmt := top 23
abbrev N_check_table : List Str := ["modulus", "table"]
def t1_check_table : SF := sIf (eNot (eFn 2 F_is_valid_table (aCons (eVar 0) (aCons (eVar 1) (aNil))))) (sRaise "InvalidTable") (sNop)
def g_check_table : SF := sSeq (sDo (eFn 1 F_check_modulus (aCons (eVar 0) (aNil)))) t1_check_table
def F_check_table : List Dt → Option Rs := runB 2 g_check_table
theorem sc_check_table : FnScope N_check_table ["modulus", "table"] (defScope st_check_table) := ⟨rfl, rfl, rfl, by decide +kernel, rfl, by decide +kernel, by decide +kernel⟩
theorem b_check_table {G : Gc} (B : Bi G) (h_check_modulus : FnIs G "check_modulus" 2 1 F_check_modulus) (h_is_valid_table : FnIs G "is_valid_table" 2 2 F_is_valid_table) (h_InvalidTable : ExcC G "InvalidTable") : SB G N_check_table (defScope st_check_table) (fun _ => true) 2 (defBody st_check_table) g_check_table := by
  unfold g_check_table
  exact sb_cons (ss_do (se_fn h_check_modulus (sa_cons (se_var 0) (sa_nil))))
    (sb_one (ss_if (st_not (st_val (se_fn h_is_valid_table (sa_cons (se_var 0) (sa_cons (se_var 1) (sa_nil)))))) (sb_one (ss_raise h_InvalidTable)) (sb_nil)))
theorem fn_check_table {G : Gc} {f : Addr} {fd : FuncData} (B : Bi G) (h_check_modulus : FnIs G "check_modulus" 2 1 F_check_modulus) (h_is_valid_table : FnIs G "is_valid_table" 2 2 F_is_valid_table) (h_InvalidTable : ExcC G "InvalidTable") (hm : G.mg "check_table" = some (.ref f)) (Fu : FunD G.K "check_table" "check_table" (defArgs st_check_table) (defBody st_check_table) (defScope st_check_table) [] [] f fd) : FnIs G "check_table" 3 2 F_check_table :=
  fn_is hm Fu sc_check_table (FunD.bindsN (ps := ["modulus", "table"]) Fu fun _ _ _ _ _ _ us hl => match us, hl with | [_, _], _ => rfl) (b_check_table B h_check_modulus h_is_valid_table h_InvalidTable ) (fun _ _ _ h => h)
/-! ### table_of -/
abbrev st_table_of : Stmt := top 27
abbrev N_table_of : List Str := ["modulus", "polynomial", "place"]
def t2_table_of : SF := sRet (eUn dTuple (eLc [2] (gNm 2) (iRg1 (eVar 0)) (eC (.bool true)) (eFn 3 F_value_at (aCons (eVar 0) (aCons (eVar 1) (aCons (eVar 2) (aNil)))))))
def t1_table_of : SF := sSeq (sIf (eNot (eFn 1 F_is_valid_polynomial (aCons (eVar 1) (aNil)))) (sRaise "InvalidPolynomial") (sNop)) t2_table_of
def g_table_of : SF := sSeq (sDo (eFn 1 F_check_modulus (aCons (eVar 0) (aNil)))) t1_table_of
def F_table_of : List Dt → Option Rs := runB 3 g_table_of
theorem sc_table_of : FnScope N_table_of ["modulus", "polynomial"] (defScope st_table_of) := ⟨rfl, rfl, rfl, by decide +kernel, rfl, by decide +kernel, by decide +kernel⟩
theorem b_table_of {G : Gc} (B : Bi G) (h_check_modulus : FnIs G "check_modulus" 2 1 F_check_modulus) (h_is_valid_polynomial : FnIs G "is_valid_polynomial" 2 1 F_is_valid_polynomial) (h_value_at : FnIs G "value_at" 1 3 F_value_at) (h_InvalidPolynomial : ExcC G "InvalidPolynomial") : SB G N_table_of (defScope st_table_of) (fun _ => true) 2 (defBody st_table_of) g_table_of := by
  unfold g_table_of
  exact sb_cons (ss_do (se_fn h_check_modulus (sa_cons (se_var 0) (sa_nil))))
    (sb_cons (ss_if (st_not (st_val (se_fn h_is_valid_polynomial (sa_cons (se_var 1) (sa_nil))))) (sb_one (ss_raise h_InvalidPolynomial)) (sb_nil))
    (sb_one (ss_ret (se_tuple B (se_lc (own := [("place", 2)]) (si_rg1 B (se_var 0)) (by decide +kernel) (sg_nm 2) (sts_nil) (se_fn h_value_at (sa_cons (se_var 0) (sa_cons (se_var 1) (sa_cons (se_var 2) (sa_nil))))))))))
theorem fn_table_of {G : Gc} {f : Addr} {fd : FuncData} (B : Bi G) (h_check_modulus : FnIs G "check_modulus" 2 1 F_check_modulus) (h_is_valid_polynomial : FnIs G "is_valid_polynomial" 2 1 F_is_valid_polynomial) (h_value_at : FnIs G "value_at" 1 3 F_value_at) (h_InvalidPolynomial : ExcC G "InvalidPolynomial") (hm : G.mg "table_of" = some (.ref f)) (Fu : FunD G.K "table_of" "table_of" (defArgs st_table_of) (defBody st_table_of) (defScope st_table_of) [] [] f fd) : FnIs G "table_of" 3 2 F_table_of :=
  fn_is hm Fu sc_table_of (FunD.bindsN (ps := ["modulus", "polynomial"]) Fu fun _ _ _ _ _ _ us hl => match us, hl with | [_, _], _ => rfl) (b_table_of B h_check_modulus h_is_valid_polynomial h_value_at h_InvalidPolynomial ) (fun _ _ _ h => h)
/-! ### first_fault -/
abbrev st_first_fault : Stmt := top 33
abbrev N_first_fault : List Str := ["modulus", "table", "order", "difference", "divisor"]
def b1_first_fault : SF := sIf (eBin dNe (eBin dMod (eVar 3) (eVar 4)) (eC (.int 0))) (sRet (eVar 2)) (sNop)
def t1_first_fault : SF := sRet (eC .none)
def g_first_fault : SF := sSeq (sFor [2, 3, 4] (gPr (gNm 2) (gPr (gNm 3) (gNm 4))) (iEnumZip (eFn 3 F_difference_row (aCons (eVar 0) (aCons (eVar 1) (aCons (eC (.int 0)) (aNil))))) (eFn 1 F_divisors (aCons (eVar 0) (aNil)))) (b1_first_fault)) t1_first_fault
def F_first_fault : List Dt → Option Rs := runB 5 g_first_fault
theorem sc_first_fault : FnScope N_first_fault ["modulus", "table"] (defScope st_first_fault) := ⟨rfl, rfl, rfl, by decide +kernel, rfl, by decide +kernel, by decide +kernel⟩
theorem b_first_fault {G : Gc} (B : Bi G) (h_difference_row : FnIs G "difference_row" 1 3 F_difference_row) (h_divisors : FnIs G "divisors" 2 1 F_divisors) : SB G N_first_fault (defScope st_first_fault) (fun _ => true) 2 (defBody st_first_fault) g_first_fault := by
  unfold g_first_fault
  exact sb_cons (ss_for (si_enumZip B (se_fn h_difference_row (sa_cons (se_var 0) (sa_cons (se_var 1) (sa_cons (se_int) (sa_nil))))) (se_fn h_divisors (sa_cons (se_var 0) (sa_nil)))) (sg_prR (sg_nm 2) (sg_prR (sg_nm 3) (sg_nm 4))) (sb_one (ss_if (st_ne (se_mod (se_var 3) (se_var 4)) (se_int)) (sb_one (ss_ret (se_var 2))) (sb_nil))))
    (sb_one (ss_ret (se_non)))
theorem fn_first_fault {G : Gc} {f : Addr} {fd : FuncData} (B : Bi G) (h_difference_row : FnIs G "difference_row" 1 3 F_difference_row) (h_divisors : FnIs G "divisors" 2 1 F_divisors) (hm : G.mg "first_fault" = some (.ref f)) (Fu : FunD G.K "first_fault" "first_fault" (defArgs st_first_fault) (defBody st_first_fault) (defScope st_first_fault) [] [] f fd) : FnIs G "first_fault" 3 2 F_first_fault :=
  fn_is hm Fu sc_first_fault (FunD.bindsN (ps := ["modulus", "table"]) Fu fun _ _ _ _ _ _ us hl => match us, hl with | [_, _], _ => rfl) (b_first_fault B h_difference_row h_divisors ) (fun _ _ _ h => h)
/-! ### sizes_of -/
abbrev st_sizes_of : Stmt := top 36
abbrev N_sizes_of : List Str := ["modulus", "divisor"]
def g_sizes_of : SF := sRet (eLc [1] (gNm 1) (iSeq (eFn 1 F_divisors (aCons (eVar 0) (aNil)))) (eBin dLt (eVar 1) (eVar 0)) (eBin dDiv (eVar 0) (eVar 1)))
def F_sizes_of : List Dt → Option Rs := runB 2 g_sizes_of
theorem sc_sizes_of : FnScope N_sizes_of ["modulus"] (defScope st_sizes_of) := ⟨rfl, rfl, rfl, by decide +kernel, rfl, by decide +kernel, by decide +kernel⟩
theorem b_sizes_of {G : Gc} (B : Bi G) (h_divisors : FnIs G "divisors" 2 1 F_divisors) : SB G N_sizes_of (defScope st_sizes_of) (fun _ => true) 2 (defBody st_sizes_of) g_sizes_of := by
  unfold g_sizes_of
  exact sb_one (ss_ret (se_lc (own := [("divisor", 1)]) (si_seq (se_fn h_divisors (sa_cons (se_var 0) (sa_nil)))) (by decide +kernel) (sg_nm 1) (sts_one (st_lt (se_var 1) (se_var 0))) (se_div (se_var 0) (se_var 1))))
theorem fn_sizes_of {G : Gc} {f : Addr} {fd : FuncData} (B : Bi G) (h_divisors : FnIs G "divisors" 2 1 F_divisors) (hm : G.mg "sizes_of" = some (.ref f)) (Fu : FunD G.K "sizes_of" "sizes_of" (defArgs st_sizes_of) (defBody st_sizes_of) (defScope st_sizes_of) [] [] f fd) : FnIs G "sizes_of" 3 1 F_sizes_of :=
  fn_is hm Fu sc_sizes_of (FunD.bindsN (ps := ["modulus"]) Fu fun _ _ _ _ _ _ us hl => match us, hl with | [_], _ => rfl) (b_sizes_of B h_divisors ) (fun _ _ _ h => h)
/-! ### parse_table -/
abbrev st_parse_table : Stmt := top 58
abbrev N_parse_table : List Str := ["text", "parts", "modulus", "values", "token"]
def t7_parse_table : SF := sRet (eTup (aCons (eVar 2) (aCons (eUn dTuple (eVar 3)) (aNil))))
def t6_parse_table : SF := sSeq (sIf (eNot (eFn 2 F_is_valid_table (aCons (eVar 2) (aCons (eUn dTuple (eVar 3)) (aNil))))) (sRaiseP "ParseError" (eC .none)) (sNop)) t7_parse_table
def t5_parse_table : SF := sSeq (sIf (eBin dIn (eC .none) (eVar 3)) (sRaiseP "ParseError" (eBin dAdd (eC (.int 1)) (eMeth isL dLix (eVar 3) (eC .none)))) (sNop)) t6_parse_table
def t4_parse_table : SF := sSeq (sSet 3 (eLc [4] (gNm 4) (iSeq (eMeth isStr dSplit (eBin dIx (eVar 1) (eC (.int 0))) (eC (.str ",")))) (eC (.bool true)) (eFn 1 F_parse_number (aCons (eVar 4) (aNil))))) t5_parse_table
def t3_parse_table : SF := sSeq (sSet 2 (eFn 1 F_parse_number (aCons (eBin dIx (eVar 1) (eC (.int 1))) (aNil)))) t4_parse_table
def t2_parse_table : SF := sSeq (sIf (eOrT (eBin dNe (eUn dLen (eVar 1)) (eC (.int 2))) (eNot (eFn 3 F_in_range (aCons (eFn 1 F_parse_number (aCons (eBin dIx (eVar 1) (eC (.int 1))) (aNil))) (aCons (eC (.int 2)) (aCons (eC (.int 12)) (aNil))))))) (sRaiseP "ParseError" (eC (.int 0))) (sNop)) t3_parse_table
def t1_parse_table : SF := sSeq (sSet 1 (eMeth isStr dSplit (eVar 0) (eC (.str " mod ")))) t2_parse_table
def g_parse_table : SF := sSeq (sIf (eNot (eIsi "str" (eVar 0))) (sRaiseP "ParseError" (eC .none)) (sNop)) t1_parse_table
def F_parse_table : List Dt → Option Rs := runB 5 g_parse_table
theorem sc_parse_table : FnScope N_parse_table ["text"] (defScope st_parse_table) := ⟨rfl, rfl, rfl, by decide +kernel, rfl, by decide +kernel, by decide +kernel⟩
theorem b_parse_table {G : Gc} (B : Bi G) (h_in_range : FnIs G "in_range" 1 3 F_in_range) (h_parse_number : FnIs G "parse_number" 1 1 F_parse_number) (h_is_valid_table : FnIs G "is_valid_table" 2 2 F_is_valid_table) (h_pe_ParseError : PeC G "ParseError") : SB G N_parse_table (defScope st_parse_table) (fun _ => true) 2 (defBody st_parse_table) g_parse_table := by
  unfold g_parse_table
  exact sb_cons (ss_if (st_not (st_val (se_isi B kit_str (se_var 0) B.str PyProof.Rows.boot_str))) (sb_one (ss_raiseP h_pe_ParseError (se_non))) (sb_nil))
    (sb_cons (ss_set (ag_of 1 (se_split (se_var 0) (se_str))))
    (sb_cons (ss_if (st_w (sw_or (st_ne (se_len B (se_var 1)) (se_int)) (sw_or1 (st_not (st_val (se_fn h_in_range (sa_cons (se_fn h_parse_number (sa_cons (se_ix (se_var 1) (se_int)) (sa_nil))) (sa_cons (se_int) (sa_cons (se_int) (sa_nil)))))))))) (sb_one (ss_raiseP h_pe_ParseError (se_int))) (sb_nil))
    (sb_cons (ss_set (ag_of 2 (se_fn h_parse_number (sa_cons (se_ix (se_var 1) (se_int)) (sa_nil)))))
    (sb_cons (ag_lc 3 (own := [("token", 4)]) (si_seq (se_split (se_ix (se_var 1) (se_int)) (se_str))) (by decide +kernel) (sg_nm 4) (sts_nil) (se_fn h_parse_number (sa_cons (se_var 4) (sa_nil))))
    (sb_cons (ss_if (st_in (se_non) (se_var 3)) (sb_one (ss_raiseP h_pe_ParseError (se_add (se_int) (se_lix (se_var 3) (se_non))))) (sb_nil))
    (sb_cons (ss_if (st_not (st_val (se_fn h_is_valid_table (sa_cons (se_var 2) (sa_cons (se_tuple B (se_var 3)) (sa_nil)))))) (sb_one (ss_raiseP h_pe_ParseError (se_non))) (sb_nil))
    (sb_one (ss_ret (se_tup (sa_cons (se_var 2) (sa_cons (se_tuple B (se_var 3)) (sa_nil))))))))))))
theorem fn_parse_table {G : Gc} {f : Addr} {fd : FuncData} (B : Bi G) (h_in_range : FnIs G "in_range" 1 3 F_in_range) (h_parse_number : FnIs G "parse_number" 1 1 F_parse_number) (h_is_valid_table : FnIs G "is_valid_table" 2 2 F_is_valid_table) (h_pe_ParseError : PeC G "ParseError") (hm : G.mg "parse_table" = some (.ref f)) (Fu : FunD G.K "parse_table" "parse_table" (defArgs st_parse_table) (defBody st_parse_table) (defScope st_parse_table) [] [] f fd) : FnIs G "parse_table" 3 1 F_parse_table :=
  fn_is hm Fu sc_parse_table (FunD.bindsN (ps := ["text"]) Fu fun _ _ _ _ _ _ us hl => match us, hl with | [_], _ => rfl) (b_parse_table B h_in_range h_parse_number h_is_valid_table h_pe_ParseError ) (fun _ _ _ h => h)
/-! ### Sheet.__init__ -/
abbrev st_sh___init__ : Stmt := mth (top 51) 0
theorem sc_sh___init__ : FnScope ["self", "modulus"] ["self", "modulus"] (defScope st_sh___init__) := ⟨rfl, rfl, rfl, by decide +kernel, rfl, by decide +kernel, by decide +kernel⟩
theorem ck_ok : ∀ m : Nat, 2 ≤ m → m ≤ 12 → F_check_modulus [.int (m : Int)] = some (.val .none) := by
  intro m h2 h12
  have : m = 2 ∨ m = 3 ∨ m = 4 ∨ m = 5 ∨ m = 6 ∨ m = 7 ∨ m = 8 ∨ m = 9 ∨ m = 10 ∨ m = 11 ∨ m = 12 := by omega
  rcases this with rfl | rfl | rfl | rfl | rfl | rfl | rfl | rfl | rfl | rfl | rfl <;> rfl
theorem sh_init {G : Gc} {f : Addr} {fd : FuncData} (B : Bi G) (S : ShX G.K) (h_check_modulus : FnIs G "check_modulus" 2 1 F_check_modulus) (Fu : FunD G.K "__init__" "Sheet.__init__" (defArgs st_sh___init__) (defBody st_sh___init__) (defScope st_sh___init__) [] [] f fd) : FnOk G.P G.w G.K G.mg G.base (L2.CX G.P G.w) 3 f fd ["self", "modulus"] (spI G.K) := by
  refine Fu.ok sc_sh___init__ (fun vs H Q E h => by obtain ⟨x, dx, m, rfl, _⟩ := h; rfl) fun cdv A outer s H vs Q E hr h => ?_
  have C : Ctx G ["self", "modulus"] (defScope st_sh___init__) (fun _ => true) 2 (cxOf (L2.CX G.P G.w) G.P G.w G.K G.mg G.base ["self", "modulus"] "Sheet.__init__" (defScope st_sh___init__) f cdv A outer s H E) := ⟨rfl, rfl, rfl, rfl, rfl, rfl, sc_sh___init__.nd, rfl, rfl, rfl, hr⟩
  have T : TopX (cxOf (L2.CX G.P G.w) G.P G.w G.K G.mg G.base ["self", "modulus"] "Sheet.__init__" (defScope st_sh___init__) f cdv A outer s H E) := ⟨rfl, rfl⟩
  have tk : Takes (cxOf (L2.CX G.P G.w) G.P G.w G.K G.mg G.base ["self", "modulus"] "Sheet.__init__" (defScope st_sh___init__) f cdv A outer s H E) (fun cls d _ H => E cls d H) := takes_of (E := E) rfl rfl rfl rfl
  have hp := passes_of (X := cxOf (L2.CX G.P G.w) G.P G.w G.K G.mg G.base ["self", "modulus"] "Sheet.__init__" (defScope st_sh___init__) f cdv A outer s H E) rfl
  exact ⟨_, pss_cons (ps_expr (runE C tk true (se_fn h_check_modulus (sa_cons (se_var 1) sa_nil)))) (pss_cons (ps_fld (pe_var (i := 0) rfl (Or.inl rfl)) (pe_var (i := 1) rfl (Or.inl rfl)) rfl) (pss_cons (ps_fld (pe_var (i := 0) rfl (Or.inl rfl)) (runL C tk (sl_mul (se_lst (sa_cons se_non sa_nil)) (se_var 1))) rfl) (pss_one (ps_fld (pe_var (i := 0) rfl (Or.inl rfl)) (runL C tk (sl_lst sa_nil)) rfl)))), init_sem (F := F_check_modulus) B.sht S ck_ok h⟩
theorem sh_new {G : Gc} {fd : FuncData} (B : Bi G) (S : ShX G.K) (h_check_modulus : FnIs G "check_modulus" 2 1 F_check_modulus) (hM : Mk G.K (He.ga G.K "Sheet") (He.ma G.K (He.ga G.K "Sheet") "__init__")) (hm : G.mg "Sheet" = some (.ref (He.ga G.K "Sheet"))) (Fu : FunD G.K "__init__" "Sheet.__init__" (defArgs st_sh___init__) (defBody st_sh___init__) (defScope st_sh___init__) [] [] (He.ma G.K (He.ga G.K "Sheet") "__init__") fd) : NewS G 3 :=
  ⟨_, fd, hM, FunD.bindsN (ps := ["self", "modulus"]) Fu fun _ _ _ _ _ _ us hl => match us, hl with | [_, _], _ => rfl, sh_init B S h_check_modulus Fu, hm⟩
/-! ### Sheet.enter -/
abbrev st_sh_enter : Stmt := mth (top 51) 5
theorem sc_sh_enter : FnScope ["self", "place", "value", "old"] ["self", "place", "value"] (defScope st_sh_enter) := ⟨rfl, rfl, rfl, by decide +kernel, rfl, by decide +kernel, by decide +kernel⟩
abbrev fx_enter : FX := fxEnter F_check_place F_in_range
theorem x_enter {G : Gc} {f : Addr} {fd : FuncData} (B : Bi G) (S : ShX G.K) (h_check_place : FnIs G "check_place" 2 2 F_check_place) (h_in_range : FnIs G "in_range" 1 3 F_in_range) (h_InvalidValue : ExcC G "InvalidValue") (hm : Meth G.K (He.ga G.K "Sheet") "enter" f) (Fu : FunD G.K "enter" "Sheet.enter" (defArgs st_sh_enter) (defBody st_sh_enter) (defScope st_sh_enter) [] [] f fd) : MtX G "enter" 3 3 fx_enter := by
  refine ⟨f, fd, ["self", "place", "value"], hm, FunD.bindsN (ps := ["self", "place", "value"]) Fu fun _ _ _ _ _ _ us hl => match us, hl with | [_, _, _], _ => rfl, rfl, ?_⟩
  refine Fu.ok sc_sh_enter (fun vs H Q E h => h.1) fun cdv A outer s H vs Q E hr h => ?_
  have C : Ctx G ["self", "place", "value", "old"] (defScope st_sh_enter) (fun _ => true) 2 (cxOf (L2.CX G.P G.w) G.P G.w G.K G.mg G.base ["self", "place", "value", "old"] "Sheet.enter" (defScope st_sh_enter) f cdv A outer s H E) := ⟨rfl, rfl, rfl, rfl, rfl, rfl, sc_sh_enter.nd, rfl, rfl, rfl, hr⟩
  have T : TopX (cxOf (L2.CX G.P G.w) G.P G.w G.K G.mg G.base ["self", "place", "value", "old"] "Sheet.enter" (defScope st_sh_enter) f cdv A outer s H E) := ⟨rfl, rfl⟩
  have tk : Takes (cxOf (L2.CX G.P G.w) G.P G.w G.K G.mg G.base ["self", "place", "value", "old"] "Sheet.enter" (defScope st_sh_enter) f cdv A outer s H E) (fun cls d _ H => E cls d H) := takes_of (E := E) rfl rfl rfl rfl
  have hp := passes_of (X := cxOf (L2.CX G.P G.w) G.P G.w G.K G.mg G.base ["self", "place", "value", "old"] "Sheet.enter" (defScope st_sh_enter) f cdv A outer s H E) rfl
  exact ⟨_, pss_cons (ps_expr (runE C tk true (se_fn h_check_place (sa_cons (se_mdl B S (se_var 0)) (sa_cons (se_var 1) sa_nil))))) (pss_cons (ps_if (runT C tk (st_not (st_val (se_fn h_in_range (sa_cons (se_var 2) (sa_cons se_int (sa_cons (se_sub (se_mdl B S (se_var 0)) se_int) sa_nil))))))) (pss_one (runS C T tk hp (ss_raise h_InvalidValue))) pss_nil)
    (pss_cons (runA C tk (ag_of 3 (se_ix (se_ent B S (se_var 0)) (se_var 1)))) (pss_cons (ps_asg (pe_var (i := 2) rfl (Or.inl rfl)) (pg_sub (pe_fld (pe_var (i := 0) rfl (Or.inl rfl)) rfl) (pe_var (i := 1) rfl (Or.inl rfl)) set_list)) (pss_cons (ps_expr (pe_bm PySem.F.plainAttrs_list PySem.F.slot_list_append PySem.F.type_list_append mt_append (pe_fld (pe_var (i := 0) rfl (Or.inl rfl)) rfl) (pa_cons (pe_tupF (pa_cons (pe_var (i := 1) rfl (Or.inl rfl)) (pa_cons (pe_var (i := 3) rfl (Or.inl rfl)) pa_nil))) pa_nil))) (pss_one (ps_ret (pe_var (i := 3) rfl (Or.inl rfl)))))))), enter_sem B.sht S h⟩
/-! ### Sheet.undo -/
abbrev st_sh_undo : Stmt := mth (top 51) 7
theorem sc_sh_undo : FnScope ["self", "place", "old"] ["self"] (defScope st_sh_undo) := ⟨rfl, rfl, rfl, by decide +kernel, rfl, by decide +kernel, by decide +kernel⟩
abbrev fx_undo : FX := fxUndo
theorem x_undo {G : Gc} {f : Addr} {fd : FuncData} (B : Bi G) (S : ShX G.K) (h_NothingToUndo : ExcC G "NothingToUndo") (hm : Meth G.K (He.ga G.K "Sheet") "undo" f) (Fu : FunD G.K "undo" "Sheet.undo" (defArgs st_sh_undo) (defBody st_sh_undo) (defScope st_sh_undo) [] [] f fd) : MtX G "undo" 1 1 fx_undo := by
  refine ⟨f, fd, ["self"], hm, FunD.bindsN (ps := ["self"]) Fu fun _ _ _ _ _ _ us hl => match us, hl with | [_], _ => rfl, rfl, ?_⟩
  refine Fu.ok sc_sh_undo (fun vs H Q E h => h.1) fun cdv A outer s H vs Q E hr h => ?_
  have C : Ctx G ["self", "place", "old"] (defScope st_sh_undo) (fun _ => true) 0 (cxOf (L2.CX G.P G.w) G.P G.w G.K G.mg G.base ["self", "place", "old"] "Sheet.undo" (defScope st_sh_undo) f cdv A outer s H E) := ⟨rfl, rfl, rfl, rfl, rfl, rfl, sc_sh_undo.nd, rfl, rfl, rfl, hr⟩
  have T : TopX (cxOf (L2.CX G.P G.w) G.P G.w G.K G.mg G.base ["self", "place", "old"] "Sheet.undo" (defScope st_sh_undo) f cdv A outer s H E) := ⟨rfl, rfl⟩
  have tk : Takes (cxOf (L2.CX G.P G.w) G.P G.w G.K G.mg G.base ["self", "place", "old"] "Sheet.undo" (defScope st_sh_undo) f cdv A outer s H E) (fun cls d _ H => E cls d H) := takes_of (E := E) rfl rfl rfl rfl
  have hp := passes_of (X := cxOf (L2.CX G.P G.w) G.P G.w G.K G.mg G.base ["self", "place", "old"] "Sheet.undo" (defScope st_sh_undo) f cdv A outer s H E) rfl
  exact ⟨_, pss_cons (ps_if (runT C tk (st_not (st_val (se_his B S (se_var 0))))) (pss_one (runS C T tk hp (ss_raise h_NothingToUndo))) pss_nil)
    (pss_cons (ps_asg (pe_bm0 PySem.F.plainAttrs_list PySem.F.slot_list_pop PySem.F.type_list_pop mt_pop (pe_fld (pe_var (i := 0) rfl (Or.inl rfl)) rfl)) (pg_tup rfl (pgs_cons (pg_name sc_sh_undo.nd (i := 1) rfl (Or.inl rfl)) (pgs_cons (pg_name sc_sh_undo.nd (i := 2) rfl (Or.inl rfl)) pgs_nil)))) (pss_cons (ps_asg (pe_var (i := 2) rfl (Or.inl rfl)) (pg_sub (pe_fld (pe_var (i := 0) rfl (Or.inl rfl)) rfl) (pe_var (i := 1) rfl (Or.inl rfl)) set_list)) (pss_one (ps_ret (pe_var (i := 1) rfl (Or.inl rfl)))))), undo_sem B.sht S h⟩
/-! ### differences -/
abbrev st_differences : Stmt := top 29
abbrev N_differences : List Str := ["modulus", "table", "place"]
def t2_differences : SF := sRet (eFn 3 F_difference_row (aCons (eVar 0) (aCons (eVar 1) (aCons (eVar 2) (aNil)))))
def t1_differences : SF := sSeq (sDo (eFn 2 F_check_place (aCons (eVar 0) (aCons (eVar 2) (aNil))))) t2_differences
def g_differences : SF := sSeq (sDo (eFn 2 F_check_table (aCons (eVar 0) (aCons (eVar 1) (aNil))))) t1_differences
def F_differences : List Dt → Option Rs := runB 3 g_differences
theorem sc_differences : FnScope N_differences ["modulus", "table", "place"] (defScope st_differences) := ⟨rfl, rfl, rfl, by decide +kernel, rfl, by decide +kernel, by decide +kernel⟩
theorem b_differences {G : Gc} (B : Bi G) (h_check_table : FnIs G "check_table" 3 2 F_check_table) (h_check_place : FnIs G "check_place" 2 2 F_check_place) (h_difference_row : FnIs G "difference_row" 1 3 F_difference_row) : SB G N_differences (defScope st_differences) (fun _ => true) 3 (defBody st_differences) g_differences := by
  unfold g_differences
  exact sb_cons (ss_do (se_fn h_check_table (sa_cons (se_var 0) (sa_cons (se_var 1) (sa_nil)))))
    (sb_cons (ss_do (se_fn h_check_place (sa_cons (se_var 0) (sa_cons (se_var 2) (sa_nil)))))
    (sb_one (ss_ret (se_fn h_difference_row (sa_cons (se_var 0) (sa_cons (se_var 1) (sa_cons (se_var 2) (sa_nil))))))))
theorem fn_differences {G : Gc} {f : Addr} {fd : FuncData} (B : Bi G) (h_check_table : FnIs G "check_table" 3 2 F_check_table) (h_check_place : FnIs G "check_place" 2 2 F_check_place) (h_difference_row : FnIs G "difference_row" 1 3 F_difference_row) (hm : G.mg "differences" = some (.ref f)) (Fu : FunD G.K "differences" "differences" (defArgs st_differences) (defBody st_differences) (defScope st_differences) [] [] f fd) : FnIs G "differences" 4 3 F_differences :=
  fn_is hm Fu sc_differences (FunD.bindsN (ps := ["modulus", "table", "place"]) Fu fun _ _ _ _ _ _ us hl => match us, hl with | [_, _, _], _ => rfl) (b_differences B h_check_table h_check_place h_difference_row ) (fun _ _ _ h => h)
/-! ### is_polynomial -/
abbrev st_is_polynomial : Stmt := top 34
abbrev N_is_polynomial : List Str := ["modulus", "table"]
def t1_is_polynomial : SF := sRet (eBin dIsN (eFn 2 F_first_fault (aCons (eVar 0) (aCons (eVar 1) (aNil)))) (eC .none))
def g_is_polynomial : SF := sSeq (sDo (eFn 2 F_check_table (aCons (eVar 0) (aCons (eVar 1) (aNil))))) t1_is_polynomial
def F_is_polynomial : List Dt → Option Rs := runB 2 g_is_polynomial
theorem sc_is_polynomial : FnScope N_is_polynomial ["modulus", "table"] (defScope st_is_polynomial) := ⟨rfl, rfl, rfl, by decide +kernel, rfl, by decide +kernel, by decide +kernel⟩
theorem b_is_polynomial {G : Gc} (B : Bi G) (h_check_table : FnIs G "check_table" 3 2 F_check_table) (h_first_fault : FnIs G "first_fault" 3 2 F_first_fault) : SB G N_is_polynomial (defScope st_is_polynomial) (fun _ => true) 3 (defBody st_is_polynomial) g_is_polynomial := by
  unfold g_is_polynomial
  exact sb_cons (ss_do (se_fn h_check_table (sa_cons (se_var 0) (sa_cons (se_var 1) (sa_nil)))))
    (sb_one (ss_ret (se_isN (se_fn h_first_fault (sa_cons (se_var 0) (sa_cons (se_var 1) (sa_nil)))) (se_non))))
theorem fn_is_polynomial {G : Gc} {f : Addr} {fd : FuncData} (B : Bi G) (h_check_table : FnIs G "check_table" 3 2 F_check_table) (h_first_fault : FnIs G "first_fault" 3 2 F_first_fault) (hm : G.mg "is_polynomial" = some (.ref f)) (Fu : FunD G.K "is_polynomial" "is_polynomial" (defArgs st_is_polynomial) (defBody st_is_polynomial) (defScope st_is_polynomial) [] [] f fd) : FnIs G "is_polynomial" 4 2 F_is_polynomial :=
  fn_is hm Fu sc_is_polynomial (FunD.bindsN (ps := ["modulus", "table"]) Fu fun _ _ _ _ _ _ us hl => match us, hl with | [_, _], _ => rfl) (b_is_polynomial B h_check_table h_first_fault ) (fun _ _ _ h => h)
/-! ### paper -/
abbrev st_paper : Stmt := top 35
abbrev N_paper : List Str := ["modulus", "table", "order"]
def t3_paper : SF := sRet (eTup (aCons (eC (.int 0)) (aCons (eVar 2) (aNil))))
def t2_paper : SF := sSeq (sIf (eBin dIsN (eVar 2) (eC .none)) (sRaise "IsPolynomial") (sNop)) t3_paper
def t1_paper : SF := sSeq (sSet 2 (eFn 2 F_first_fault (aCons (eVar 0) (aCons (eVar 1) (aNil))))) t2_paper
def g_paper : SF := sSeq (sDo (eFn 2 F_check_table (aCons (eVar 0) (aCons (eVar 1) (aNil))))) t1_paper
def F_paper : List Dt → Option Rs := runB 3 g_paper
theorem sc_paper : FnScope N_paper ["modulus", "table"] (defScope st_paper) := ⟨rfl, rfl, rfl, by decide +kernel, rfl, by decide +kernel, by decide +kernel⟩
theorem b_paper {G : Gc} (B : Bi G) (h_check_table : FnIs G "check_table" 3 2 F_check_table) (h_first_fault : FnIs G "first_fault" 3 2 F_first_fault) (h_IsPolynomial : ExcC G "IsPolynomial") : SB G N_paper (defScope st_paper) (fun _ => true) 3 (defBody st_paper) g_paper := by
  unfold g_paper
  exact sb_cons (ss_do (se_fn h_check_table (sa_cons (se_var 0) (sa_cons (se_var 1) (sa_nil)))))
    (sb_cons (ss_set (ag_of 2 (se_fn h_first_fault (sa_cons (se_var 0) (sa_cons (se_var 1) (sa_nil))))))
    (sb_cons (ss_if (st_isN (se_var 2) (se_non)) (sb_one (ss_raise h_IsPolynomial)) (sb_nil))
    (sb_one (ss_ret (se_tup (sa_cons (se_int) (sa_cons (se_var 2) (sa_nil))))))))
theorem fn_paper {G : Gc} {f : Addr} {fd : FuncData} (B : Bi G) (h_check_table : FnIs G "check_table" 3 2 F_check_table) (h_first_fault : FnIs G "first_fault" 3 2 F_first_fault) (h_IsPolynomial : ExcC G "IsPolynomial") (hm : G.mg "paper" = some (.ref f)) (Fu : FunD G.K "paper" "paper" (defArgs st_paper) (defBody st_paper) (defScope st_paper) [] [] f fd) : FnIs G "paper" 4 2 F_paper :=
  fn_is hm Fu sc_paper (FunD.bindsN (ps := ["modulus", "table"]) Fu fun _ _ _ _ _ _ us hl => match us, hl with | [_, _], _ => rfl) (b_paper B h_check_table h_first_fault h_IsPolynomial ) (fun _ _ _ h => h)
/-! ### sizes -/
abbrev st_sizes : Stmt := top 37
abbrev N_sizes : List Str := ["modulus"]
def t1_sizes : SF := sRet (eFn 1 F_sizes_of (aCons (eVar 0) (aNil)))
def g_sizes : SF := sSeq (sDo (eFn 1 F_check_modulus (aCons (eVar 0) (aNil)))) t1_sizes
def F_sizes : List Dt → Option Rs := runB 1 g_sizes
theorem sc_sizes : FnScope N_sizes ["modulus"] (defScope st_sizes) := ⟨rfl, rfl, rfl, by decide +kernel, rfl, by decide +kernel, by decide +kernel⟩
theorem b_sizes {G : Gc} (B : Bi G) (h_check_modulus : FnIs G "check_modulus" 2 1 F_check_modulus) (h_sizes_of : FnIs G "sizes_of" 3 1 F_sizes_of) : SB G N_sizes (defScope st_sizes) (fun _ => true) 3 (defBody st_sizes) g_sizes := by
  unfold g_sizes
  exact sb_cons (ss_do (se_fn h_check_modulus (sa_cons (se_var 0) (sa_nil))))
    (sb_one (ss_ret (se_fn h_sizes_of (sa_cons (se_var 0) (sa_nil)))))
theorem fn_sizes {G : Gc} {f : Addr} {fd : FuncData} (B : Bi G) (h_check_modulus : FnIs G "check_modulus" 2 1 F_check_modulus) (h_sizes_of : FnIs G "sizes_of" 3 1 F_sizes_of) (hm : G.mg "sizes" = some (.ref f)) (Fu : FunD G.K "sizes" "sizes" (defArgs st_sizes) (defBody st_sizes) (defScope st_sizes) [] [] f fd) : FnIs G "sizes" 4 1 F_sizes :=
  fn_is hm Fu sc_sizes (FunD.bindsN (ps := ["modulus"]) Fu fun _ _ _ _ _ _ us hl => match us, hl with | [_], _ => rfl) (b_sizes B h_check_modulus h_sizes_of ) (fun _ _ _ h => h)
/-! ### form_of -/
abbrev st_form_of : Stmt := top 40
abbrev N_form_of : List Str := ["modulus", "table", "result", "factorial", "row", "order", "size"]
def b1_form_of : SF := sSeq (sAug 3 dMulI (eBin dMax2 (eVar 5) (eC (.int 1))))
  (sApp 2 (eFn 4 F_quotient (aCons (eVar 0) (aCons (eBin dDiv (eVar 0) (eVar 6)) (aCons (eVar 3) (aCons (eBin dIx (eVar 4) (eVar 5)) (aNil)))))))
def t4_form_of : SF := sRet (eUn dTuple (eVar 2))
def t3_form_of : SF := sSeq (sFor [5, 6] (gPr (gNm 5) (gNm 6)) (iEnum (eFn 1 F_sizes_of (aCons (eVar 0) (aNil)))) (b1_form_of)) t4_form_of
def t2_form_of : SF := sSeq (sSet 4 (eFn 3 F_difference_row (aCons (eVar 0) (aCons (eVar 1) (aCons (eC (.int 0)) (aNil)))))) t3_form_of
def t1_form_of : SF := sSeq (sSet 3 (eC (.int 1))) t2_form_of
def g_form_of : SF := sSeq (sSetO 2 (eLst (aNil))) t1_form_of
def F_form_of : List Dt → Option Rs := runB 7 g_form_of
theorem sc_form_of : FnScope N_form_of ["modulus", "table"] (defScope st_form_of) := ⟨rfl, rfl, rfl, by decide +kernel, rfl, by decide +kernel, by decide +kernel⟩
theorem b_form_of {G : Gc} (B : Bi G) (h_difference_row : FnIs G "difference_row" 1 3 F_difference_row) (h_sizes_of : FnIs G "sizes_of" 3 1 F_sizes_of) (h_quotient : FnIs G "quotient" 1 4 F_quotient) : SB G N_form_of (defScope st_form_of) (fun _ => true) 3 (defBody st_form_of) g_form_of := by
  unfold g_form_of
  exact sb_cons (ss_setO (agL_of 2 (sl_lst (sa_nil))))
    (sb_cons (ss_set (ag_of 3 (se_int)))
    (sb_cons (ss_set (ag_of 4 (se_fn h_difference_row (sa_cons (se_var 0) (sa_cons (se_var 1) (sa_cons (se_int) (sa_nil)))))))
    (sb_cons (ss_for (si_enum B (se_fn h_sizes_of (sa_cons (se_var 0) (sa_nil)))) (sg_prR (sg_nm 5) (sg_nm 6)) (sb_cons (ss_augMul 3 (se_max2 B (se_var 5) (se_int)))
    (sb_one (ss_app 2 (se_fn h_quotient (sa_cons (se_var 0) (sa_cons (se_div (se_var 0) (se_var 6)) (sa_cons (se_var 3) (sa_cons (se_ix (se_var 4) (se_var 5)) (sa_nil))))))))))
    (sb_one (ss_ret (se_tuple B (se_var 2)))))))
theorem fn_form_of {G : Gc} {f : Addr} {fd : FuncData} (B : Bi G) (h_difference_row : FnIs G "difference_row" 1 3 F_difference_row) (h_sizes_of : FnIs G "sizes_of" 3 1 F_sizes_of) (h_quotient : FnIs G "quotient" 1 4 F_quotient) (hm : G.mg "form_of" = some (.ref f)) (Fu : FunD G.K "form_of" "form_of" (defArgs st_form_of) (defBody st_form_of) (defScope st_form_of) [] [] f fd) : FnIs G "form_of" 4 2 F_form_of :=
  fn_is hm Fu sc_form_of (FunD.bindsN (ps := ["modulus", "table"]) Fu fun _ _ _ _ _ _ us hl => match us, hl with | [_, _], _ => rfl) (b_form_of B h_difference_row h_sizes_of h_quotient ) (fun _ _ _ h => h)
/-! ### from_form -/
abbrev st_from_form : Stmt := top 43
abbrev N_from_form : List Str := ["modulus", "form", "limits", "factor", "size"]
def t4_from_form : SF := sRet (eFn 2 F_built (aCons (eVar 0) (aCons (eVar 1) (aNil))))
def t3_from_form : SF := sSeq (sIf (eLc [3, 4] (gPr (gNm 3) (gNm 4)) (iZip (eVar 1) (eVar 2)) (eNot (eFn 3 F_in_range (aCons (eVar 3) (aCons (eC (.int 0)) (aCons (eBin dSub (eVar 4) (eC (.int 1))) (aNil)))))) (eC (.int 1))) (sRaise "InvalidForm") (sNop)) t4_from_form
def t2_from_form : SF := sSeq (sIf (eOrT (eNot (eIsi "tuple" (eVar 1))) (eBin dNe (eUn dLen (eVar 1)) (eUn dLen (eVar 2)))) (sRaise "InvalidForm") (sNop)) t3_from_form
def t1_from_form : SF := sSeq (sSet 2 (eFn 1 F_sizes_of (aCons (eVar 0) (aNil)))) t2_from_form
def g_from_form : SF := sSeq (sDo (eFn 1 F_check_modulus (aCons (eVar 0) (aNil)))) t1_from_form
def F_from_form : List Dt → Option Rs := runB 5 g_from_form
theorem sc_from_form : FnScope N_from_form ["modulus", "form"] (defScope st_from_form) := ⟨rfl, rfl, rfl, by decide +kernel, rfl, by decide +kernel, by decide +kernel⟩
theorem b_from_form {G : Gc} (B : Bi G) (h_check_modulus : FnIs G "check_modulus" 2 1 F_check_modulus) (h_sizes_of : FnIs G "sizes_of" 3 1 F_sizes_of) (h_in_range : FnIs G "in_range" 1 3 F_in_range) (h_built : FnIs G "built" 1 2 F_built) (h_InvalidForm : ExcC G "InvalidForm") : SB G N_from_form (defScope st_from_form) (fun _ => true) 3 (defBody st_from_form) g_from_form := by
  unfold g_from_form
  exact sb_cons (ss_do (se_fn h_check_modulus (sa_cons (se_var 0) (sa_nil))))
    (sb_cons (ss_set (ag_of 2 (se_fn h_sizes_of (sa_cons (se_var 0) (sa_nil)))))
    (sb_cons (ss_if (st_w (sw_or (st_not (st_val (se_isi B kit_tuple (se_var 1) B.tuple PyProof.Rows.boot_tuple))) (sw_or1 (st_ne (se_len B (se_var 1)) (se_len B (se_var 2)))))) (sb_one (ss_raise h_InvalidForm)) (sb_nil))
    (sb_cons (ss_if (st_val (se_lc (own := [("factor", 3), ("size", 4)]) (si_zip B (se_var 1) (se_var 2)) (by decide +kernel) (sg_prR (sg_nm 3) (sg_nm 4)) (sts_one (st_not (st_val (se_fn h_in_range (sa_cons (se_var 3) (sa_cons (se_int) (sa_cons (se_sub (se_var 4) (se_int)) (sa_nil)))))))) (se_int))) (sb_one (ss_raise h_InvalidForm)) (sb_nil))
    (sb_one (ss_ret (se_fn h_built (sa_cons (se_var 0) (sa_cons (se_var 1) (sa_nil)))))))))
theorem fn_from_form {G : Gc} {f : Addr} {fd : FuncData} (B : Bi G) (h_check_modulus : FnIs G "check_modulus" 2 1 F_check_modulus) (h_sizes_of : FnIs G "sizes_of" 3 1 F_sizes_of) (h_in_range : FnIs G "in_range" 1 3 F_in_range) (h_built : FnIs G "built" 1 2 F_built) (h_InvalidForm : ExcC G "InvalidForm") (hm : G.mg "from_form" = some (.ref f)) (Fu : FunD G.K "from_form" "from_form" (defArgs st_from_form) (defBody st_from_form) (defScope st_from_form) [] [] f fd) : FnIs G "from_form" 4 2 F_from_form :=
  fn_is hm Fu sc_from_form (FunD.bindsN (ps := ["modulus", "form"]) Fu fun _ _ _ _ _ _ us hl => match us, hl with | [_, _], _ => rfl) (b_from_form B h_check_modulus h_sizes_of h_in_range h_built h_InvalidForm ) (fun _ _ _ h => h)
/-! ### is_permutation -/
abbrev st_is_permutation : Stmt := top 53
abbrev N_is_permutation : List Str := ["modulus", "table"]
def t1_is_permutation : SF := sRet (eBin dEq (eUn dLenSet (eVar 1)) (eVar 0))
def g_is_permutation : SF := sSeq (sDo (eFn 2 F_check_table (aCons (eVar 0) (aCons (eVar 1) (aNil))))) t1_is_permutation
def F_is_permutation : List Dt → Option Rs := runB 2 g_is_permutation
theorem sc_is_permutation : FnScope N_is_permutation ["modulus", "table"] (defScope st_is_permutation) := ⟨rfl, rfl, rfl, by decide +kernel, rfl, by decide +kernel, by decide +kernel⟩
theorem b_is_permutation {G : Gc} (B : Bi G) (h_check_table : FnIs G "check_table" 3 2 F_check_table) : SB G N_is_permutation (defScope st_is_permutation) (fun _ => true) 3 (defBody st_is_permutation) g_is_permutation := by
  unfold g_is_permutation
  exact sb_cons (ss_do (se_fn h_check_table (sa_cons (se_var 0) (sa_cons (se_var 1) (sa_nil)))))
    (sb_one (ss_ret (se_eq (se_lenSet B (se_var 1)) (se_var 0))))
theorem fn_is_permutation {G : Gc} {f : Addr} {fd : FuncData} (B : Bi G) (h_check_table : FnIs G "check_table" 3 2 F_check_table) (hm : G.mg "is_permutation" = some (.ref f)) (Fu : FunD G.K "is_permutation" "is_permutation" (defArgs st_is_permutation) (defBody st_is_permutation) (defScope st_is_permutation) [] [] f fd) : FnIs G "is_permutation" 4 2 F_is_permutation :=
  fn_is hm Fu sc_is_permutation (FunD.bindsN (ps := ["modulus", "table"]) Fu fun _ _ _ _ _ _ us hl => match us, hl with | [_, _], _ => rfl) (b_is_permutation B h_check_table ) (fun _ _ _ h => h)
/-! ### count_tables -/
abbrev st_count_tables : Stmt := top 38
abbrev N_count_tables : List Str := ["modulus", "result", "size"]
def b1_count_tables : SF := sAug 1 dMulI (eVar 2)
def t2_count_tables : SF := sRet (eVar 1)
def t1_count_tables : SF := sSeq (sFor [2] (gNm 2) (iSeq (eFn 1 F_sizes (aCons (eVar 0) (aNil)))) (b1_count_tables)) t2_count_tables
def g_count_tables : SF := sSeq (sSet 1 (eC (.int 1))) t1_count_tables
def F_count_tables : List Dt → Option Rs := runB 3 g_count_tables
theorem sc_count_tables : FnScope N_count_tables ["modulus"] (defScope st_count_tables) := ⟨rfl, rfl, rfl, by decide +kernel, rfl, by decide +kernel, by decide +kernel⟩
theorem b_count_tables {G : Gc} (B : Bi G) (h_sizes : FnIs G "sizes" 4 1 F_sizes) : SB G N_count_tables (defScope st_count_tables) (fun _ => true) 4 (defBody st_count_tables) g_count_tables := by
  unfold g_count_tables
  exact sb_cons (ss_set (ag_of 1 (se_int)))
    (sb_cons (ss_for (si_seq (se_fn h_sizes (sa_cons (se_var 0) (sa_nil)))) (sg_nm 2) (sb_one (ss_augMul 1 (se_var 2))))
    (sb_one (ss_ret (se_var 1))))
theorem fn_count_tables {G : Gc} {f : Addr} {fd : FuncData} (B : Bi G) (h_sizes : FnIs G "sizes" 4 1 F_sizes) (hm : G.mg "count_tables" = some (.ref f)) (Fu : FunD G.K "count_tables" "count_tables" (defArgs st_count_tables) (defBody st_count_tables) (defScope st_count_tables) [] [] f fd) : FnIs G "count_tables" 5 1 F_count_tables :=
  fn_is hm Fu sc_count_tables (FunD.bindsN (ps := ["modulus"]) Fu fun _ _ _ _ _ _ us hl => match us, hl with | [_], _ => rfl) (b_count_tables B h_sizes ) (fun _ _ _ h => h)
/-! ### normal_form -/
abbrev st_normal_form : Stmt := top 41
abbrev N_normal_form : List Str := ["modulus", "table"]
def t2_normal_form : SF := sRet (eFn 2 F_form_of (aCons (eVar 0) (aCons (eVar 1) (aNil))))
def t1_normal_form : SF := sSeq (sIf (eBin dNotN (eFn 2 F_first_fault (aCons (eVar 0) (aCons (eVar 1) (aNil)))) (eC .none)) (sRaise "NotPolynomial") (sNop)) t2_normal_form
def g_normal_form : SF := sSeq (sDo (eFn 2 F_check_table (aCons (eVar 0) (aCons (eVar 1) (aNil))))) t1_normal_form
def F_normal_form : List Dt → Option Rs := runB 2 g_normal_form
theorem sc_normal_form : FnScope N_normal_form ["modulus", "table"] (defScope st_normal_form) := ⟨rfl, rfl, rfl, by decide +kernel, rfl, by decide +kernel, by decide +kernel⟩
theorem b_normal_form {G : Gc} (B : Bi G) (h_check_table : FnIs G "check_table" 3 2 F_check_table) (h_first_fault : FnIs G "first_fault" 3 2 F_first_fault) (h_form_of : FnIs G "form_of" 4 2 F_form_of) (h_NotPolynomial : ExcC G "NotPolynomial") : SB G N_normal_form (defScope st_normal_form) (fun _ => true) 4 (defBody st_normal_form) g_normal_form := by
  unfold g_normal_form
  exact sb_cons (ss_do (se_fn h_check_table (sa_cons (se_var 0) (sa_cons (se_var 1) (sa_nil)))))
    (sb_cons (ss_if (st_notN (se_fn h_first_fault (sa_cons (se_var 0) (sa_cons (se_var 1) (sa_nil)))) (se_non)) (sb_one (ss_raise h_NotPolynomial)) (sb_nil))
    (sb_one (ss_ret (se_fn h_form_of (sa_cons (se_var 0) (sa_cons (se_var 1) (sa_nil)))))))
theorem fn_normal_form {G : Gc} {f : Addr} {fd : FuncData} (B : Bi G) (h_check_table : FnIs G "check_table" 3 2 F_check_table) (h_first_fault : FnIs G "first_fault" 3 2 F_first_fault) (h_form_of : FnIs G "form_of" 4 2 F_form_of) (h_NotPolynomial : ExcC G "NotPolynomial") (hm : G.mg "normal_form" = some (.ref f)) (Fu : FunD G.K "normal_form" "normal_form" (defArgs st_normal_form) (defBody st_normal_form) (defScope st_normal_form) [] [] f fd) : FnIs G "normal_form" 5 2 F_normal_form :=
  fn_is hm Fu sc_normal_form (FunD.bindsN (ps := ["modulus", "table"]) Fu fun _ _ _ _ _ _ us hl => match us, hl with | [_, _], _ => rfl) (b_normal_form B h_check_table h_first_fault h_form_of h_NotPolynomial ) (fun _ _ _ h => h)
/-! ### inverse -/
abbrev st_inverse : Stmt := top 54
abbrev N_inverse : List Str := ["modulus", "table", "value"]
def t1_inverse : SF := sRet (eUn dTuple (eLc [2] (gNm 2) (iRg1 (eVar 0)) (eC (.bool true)) (eMeth isT dTix (eVar 1) (eVar 2))))
def g_inverse : SF := sSeq (sIf (eNot (eFn 2 F_is_permutation (aCons (eVar 0) (aCons (eVar 1) (aNil))))) (sRaise "NotPermutation") (sNop)) t1_inverse
def F_inverse : List Dt → Option Rs := runB 3 g_inverse
theorem sc_inverse : FnScope N_inverse ["modulus", "table"] (defScope st_inverse) := ⟨rfl, rfl, rfl, by decide +kernel, rfl, by decide +kernel, by decide +kernel⟩
theorem b_inverse {G : Gc} (B : Bi G) (h_is_permutation : FnIs G "is_permutation" 4 2 F_is_permutation) (h_NotPermutation : ExcC G "NotPermutation") : SB G N_inverse (defScope st_inverse) (fun _ => true) 4 (defBody st_inverse) g_inverse := by
  unfold g_inverse
  exact sb_cons (ss_if (st_not (st_val (se_fn h_is_permutation (sa_cons (se_var 0) (sa_cons (se_var 1) (sa_nil)))))) (sb_one (ss_raise h_NotPermutation)) (sb_nil))
    (sb_one (ss_ret (se_tuple B (se_lc (own := [("value", 2)]) (si_rg1 B (se_var 0)) (by decide +kernel) (sg_nm 2) (sts_nil) (se_tix (se_var 1) (se_var 2))))))
theorem fn_inverse {G : Gc} {f : Addr} {fd : FuncData} (B : Bi G) (h_is_permutation : FnIs G "is_permutation" 4 2 F_is_permutation) (h_NotPermutation : ExcC G "NotPermutation") (hm : G.mg "inverse" = some (.ref f)) (Fu : FunD G.K "inverse" "inverse" (defArgs st_inverse) (defBody st_inverse) (defScope st_inverse) [] [] f fd) : FnIs G "inverse" 5 2 F_inverse :=
  fn_is hm Fu sc_inverse (FunD.bindsN (ps := ["modulus", "table"]) Fu fun _ _ _ _ _ _ us hl => match us, hl with | [_, _], _ => rfl) (b_inverse B h_is_permutation h_NotPermutation ) (fun _ _ _ h => h)
/-! ### all_tables -/
abbrev st_all_tables : Stmt := top 47
abbrev N_all_tables : List Str := ["modulus", "form"]
def t1_all_tables : SF := sRet (eUn dSorted (eLc [1] (gNm 1) (iSeq (eFn 1 F_tuples (aCons (eFn 1 F_sizes_of (aCons (eVar 0) (aNil))) (aNil)))) (eC (.bool true)) (eFn 2 F_built (aCons (eVar 0) (aCons (eVar 1) (aNil))))))
def g_all_tables : SF := sSeq (sIf (eBin dGt (eFn 1 F_count_tables (aCons (eVar 0) (aNil))) (eC (.int 3200))) (sRaise "TooMany") (sNop)) t1_all_tables
def F_all_tables : List Dt → Option Rs := runB 2 g_all_tables
theorem sc_all_tables : FnScope N_all_tables ["modulus"] (defScope st_all_tables) := ⟨rfl, rfl, rfl, by decide +kernel, rfl, by decide +kernel, by decide +kernel⟩
theorem b_all_tables {G : Gc} (B : Bi G) (h_count_tables : FnIs G "count_tables" 5 1 F_count_tables) (h_tuples : FnIs G "tuples" 1 1 F_tuples) (h_sizes_of : FnIs G "sizes_of" 3 1 F_sizes_of) (h_built : FnIs G "built" 1 2 F_built) (h_MAX_TABLES : ∃ t, G.mg "MAX_TABLES" = some (.int 3200 t)) (h_TooMany : ExcC G "TooMany") : SB G N_all_tables (defScope st_all_tables) (fun _ => true) 5 (defBody st_all_tables) g_all_tables := by
  unfold g_all_tables
  exact sb_cons (ss_if (st_gt (se_fn h_count_tables (sa_cons (se_var 0) (sa_nil))) (se_gint h_MAX_TABLES)) (sb_one (ss_raise h_TooMany)) (sb_nil))
    (sb_one (ss_ret (se_sorted B (se_lc (own := [("form", 1)]) (si_seq (se_fn h_tuples (sa_cons (se_fn h_sizes_of (sa_cons (se_var 0) (sa_nil))) (sa_nil)))) (by decide +kernel) (sg_nm 1) (sts_nil) (se_fn h_built (sa_cons (se_var 0) (sa_cons (se_var 1) (sa_nil))))))))
theorem fn_all_tables {G : Gc} {f : Addr} {fd : FuncData} (B : Bi G) (h_count_tables : FnIs G "count_tables" 5 1 F_count_tables) (h_tuples : FnIs G "tuples" 1 1 F_tuples) (h_sizes_of : FnIs G "sizes_of" 3 1 F_sizes_of) (h_built : FnIs G "built" 1 2 F_built) (h_MAX_TABLES : ∃ t, G.mg "MAX_TABLES" = some (.int 3200 t)) (h_TooMany : ExcC G "TooMany") (hm : G.mg "all_tables" = some (.ref f)) (Fu : FunD G.K "all_tables" "all_tables" (defArgs st_all_tables) (defBody st_all_tables) (defScope st_all_tables) [] [] f fd) : FnIs G "all_tables" 6 1 F_all_tables :=
  fn_is hm Fu sc_all_tables (FunD.bindsN (ps := ["modulus"]) Fu fun _ _ _ _ _ _ us hl => match us, hl with | [_], _ => rfl) (b_all_tables B h_count_tables h_tuples h_sizes_of h_built h_MAX_TABLES h_TooMany ) (fun _ _ _ h => h)
/-! ### least_difference -/
abbrev st_least_difference : Stmt := top 49
abbrev N_least_difference : List Str := ["modulus", "every", "one"]
def t2_least_difference : SF := sRet (eUn dMinL (eLc [2] (gNm 2) (iSeq (eSl (eVar 1) (oSo (eC (.int 1))) (oNo))) (eC (.bool true)) (eFn 2 F_gap (aCons (eBin dIx (eVar 1) (eC (.int 0))) (aCons (eVar 2) (aNil))))))
def t1_least_difference : SF := sSeq (sSet 1 (eFn 1 F_all_tables (aCons (eVar 0) (aNil)))) t2_least_difference
def g_least_difference : SF := sSeq (sDo (eFn 1 F_check_modulus (aCons (eVar 0) (aNil)))) t1_least_difference
def F_least_difference : List Dt → Option Rs := runB 3 g_least_difference
theorem sc_least_difference : FnScope N_least_difference ["modulus"] (defScope st_least_difference) := ⟨rfl, rfl, rfl, by decide +kernel, rfl, by decide +kernel, by decide +kernel⟩
theorem b_least_difference {G : Gc} (B : Bi G) (h_check_modulus : FnIs G "check_modulus" 2 1 F_check_modulus) (h_all_tables : FnIs G "all_tables" 6 1 F_all_tables) (h_gap : FnIs G "gap" 1 2 F_gap) : SB G N_least_difference (defScope st_least_difference) (fun _ => true) 6 (defBody st_least_difference) g_least_difference := by
  unfold g_least_difference
  exact sb_cons (ss_do (se_fn h_check_modulus (sa_cons (se_var 0) (sa_nil))))
    (sb_cons (ss_set (ag_of 1 (se_fn h_all_tables (sa_cons (se_var 0) (sa_nil)))))
    (sb_one (ss_ret (se_minL B (se_lc (own := [("one", 2)]) (si_seq (se_sl (se_var 1) (so_some (se_int)) (so_none))) (by decide +kernel) (sg_nm 2) (sts_nil) (se_fn h_gap (sa_cons (se_ix (se_var 1) (se_int)) (sa_cons (se_var 2) (sa_nil)))))))))
theorem fn_least_difference {G : Gc} {f : Addr} {fd : FuncData} (B : Bi G) (h_check_modulus : FnIs G "check_modulus" 2 1 F_check_modulus) (h_all_tables : FnIs G "all_tables" 6 1 F_all_tables) (h_gap : FnIs G "gap" 1 2 F_gap) (hm : G.mg "least_difference" = some (.ref f)) (Fu : FunD G.K "least_difference" "least_difference" (defArgs st_least_difference) (defBody st_least_difference) (defScope st_least_difference) [] [] f fd) : FnIs G "least_difference" 7 1 F_least_difference :=
  fn_is hm Fu sc_least_difference (FunD.bindsN (ps := ["modulus"]) Fu fun _ _ _ _ _ _ us hl => match us, hl with | [_], _ => rfl) (b_least_difference B h_check_modulus h_all_tables h_gap ) (fun _ _ _ h => h)
/-! ### agreeing -/
abbrev st_agreeing : Stmt := top 61
abbrev N_agreeing : List Str := ["modulus", "answers", "every", "table", "place", "value"]
def t3_agreeing : SF := sRet (eLc [3] (gNm 3) (iSeq (eVar 2)) (eNot (eLc [4, 5] (gPr (gNm 4) (gNm 5)) (iSeq (eVar 1)) (eBin dNe (eBin dIx (eVar 3) (eVar 4)) (eVar 5)) (eVar 4))) (eVar 3))
def t2_agreeing : SF := sSeq (sIf (eNot (eFn 2 F_are_answers (aCons (eVar 0) (aCons (eVar 1) (aNil))))) (sRaise "InvalidAnswers") (sNop)) t3_agreeing
def t1_agreeing : SF := sSeq (sSet 2 (eFn 1 F_all_tables (aCons (eVar 0) (aNil)))) t2_agreeing
def g_agreeing : SF := sSeq (sDo (eFn 1 F_check_modulus (aCons (eVar 0) (aNil)))) t1_agreeing
def F_agreeing : List Dt → Option Rs := runB 6 g_agreeing
theorem sc_agreeing : FnScope N_agreeing ["modulus", "answers"] (defScope st_agreeing) := ⟨rfl, rfl, rfl, by decide +kernel, rfl, by decide +kernel, by decide +kernel⟩
theorem b_agreeing {G : Gc} (B : Bi G) (h_check_modulus : FnIs G "check_modulus" 2 1 F_check_modulus) (h_all_tables : FnIs G "all_tables" 6 1 F_all_tables) (h_are_answers : FnIs G "are_answers" 2 2 F_are_answers) (h_InvalidAnswers : ExcC G "InvalidAnswers") : SB G N_agreeing (defScope st_agreeing) (fun _ => true) 6 (defBody st_agreeing) g_agreeing := by
  unfold g_agreeing
  exact sb_cons (ss_do (se_fn h_check_modulus (sa_cons (se_var 0) (sa_nil))))
    (sb_cons (ss_set (ag_of 2 (se_fn h_all_tables (sa_cons (se_var 0) (sa_nil)))))
    (sb_cons (ss_if (st_not (st_val (se_fn h_are_answers (sa_cons (se_var 0) (sa_cons (se_var 1) (sa_nil)))))) (sb_one (ss_raise h_InvalidAnswers)) (sb_nil))
    (sb_one (ss_ret (se_lc (own := [("table", 3)]) (si_seq (se_var 2)) (by decide +kernel) (sg_nm 3) (sts_one (st_not (st_val (se_lc (own := [("place", 4), ("value", 5)]) (si_seq (se_var 1)) (by decide +kernel) (sg_pr (sg_nm 4) (sg_nm 5)) (sts_one (st_ne (se_ix (se_var 3) (se_var 4)) (se_var 5))) (se_var 4))))) (se_var 3))))))
theorem fn_agreeing {G : Gc} {f : Addr} {fd : FuncData} (B : Bi G) (h_check_modulus : FnIs G "check_modulus" 2 1 F_check_modulus) (h_all_tables : FnIs G "all_tables" 6 1 F_all_tables) (h_are_answers : FnIs G "are_answers" 2 2 F_are_answers) (h_InvalidAnswers : ExcC G "InvalidAnswers") (hm : G.mg "agreeing" = some (.ref f)) (Fu : FunD G.K "agreeing" "agreeing" (defArgs st_agreeing) (defBody st_agreeing) (defScope st_agreeing) [] [] f fd) : FnIs G "agreeing" 7 2 F_agreeing :=
  fn_is hm Fu sc_agreeing (FunD.bindsN (ps := ["modulus", "answers"]) Fu fun _ _ _ _ _ _ us hl => match us, hl with | [_, _], _ => rfl) (b_agreeing B h_check_modulus h_all_tables h_are_answers h_InvalidAnswers ) (fun _ _ _ h => h)
/-! ### _law_raise_more -/
abbrev st__law_raise_more : Stmt := top 65
abbrev N__law_raise_more : List Str := ["mode"]
def t3__law_raise_more : SF := sRet (eIf (eBin dEq (eVar 0) (eC (.int 11))) (eFn 1 F_parse_table (aCons (eC (.str "0,x mod 2")) (aNil))) (eNewM 1 fx_undo (eC (.int 2)) aNil))
def t2__law_raise_more : SF := sSeq (sIf (eBin dEq (eVar 0) (eC (.int 10))) (sRet (eFn 1 F_least_difference (aCons (eC (.int 7)) (aNil)))) (sNop)) t3__law_raise_more
def t1__law_raise_more : SF := sSeq (sIf (eBin dEq (eVar 0) (eC (.int 9))) (sRet (eFn 2 F_inverse (aCons (eC (.int 2)) (aCons (eTup (aCons (eC (.int 0)) (aCons (eC (.int 0)) (aNil)))) (aNil))))) (sNop)) t2__law_raise_more
def g__law_raise_more : SF := sSeq (sIf (eBin dEq (eVar 0) (eC (.int 8))) (sRet (eFn 2 F_paper (aCons (eC (.int 4)) (aCons (eTup (aCons (eC (.int 0)) (aCons (eC (.int 1)) (aCons (eC (.int 2)) (aCons (eC (.int 3)) (aNil)))))) (aNil))))) (sNop)) t1__law_raise_more
def F__law_raise_more : List Dt → Option Rs := runB 1 g__law_raise_more
theorem sc__law_raise_more : FnScope N__law_raise_more ["mode"] (defScope st__law_raise_more) := ⟨rfl, rfl, rfl, by decide +kernel, rfl, by decide +kernel, by decide +kernel⟩
theorem b__law_raise_more {G : Gc} (B : Bi G) (h_paper : FnIs G "paper" 4 2 F_paper) (h_inverse : FnIs G "inverse" 5 2 F_inverse) (h_least_difference : FnIs G "least_difference" 7 1 F_least_difference) (h_parse_table : FnIs G "parse_table" 3 1 F_parse_table) (h_sh_new : NewS G 3) (h_x_undo : MtX G "undo" 1 1 fx_undo) : SB G N__law_raise_more (defScope st__law_raise_more) (fun _ => true) 7 (defBody st__law_raise_more) g__law_raise_more := by
  unfold g__law_raise_more
  exact sb_cons (ss_if (st_eq (se_var 0) (se_int)) (sb_one (ss_ret (se_fn h_paper (sa_cons (se_int) (sa_cons (se_tup (sa_cons (se_int) (sa_cons (se_int) (sa_cons (se_int) (sa_cons (se_int) (sa_nil)))))) (sa_nil)))))) (sb_nil))
    (sb_cons (ss_if (st_eq (se_var 0) (se_int)) (sb_one (ss_ret (se_fn h_inverse (sa_cons (se_int) (sa_cons (se_tup (sa_cons (se_int) (sa_cons (se_int) (sa_nil)))) (sa_nil)))))) (sb_nil))
    (sb_cons (ss_if (st_eq (se_var 0) (se_int)) (sb_one (ss_ret (se_fn h_least_difference (sa_cons (se_int) (sa_nil))))) (sb_nil))
    (sb_one (ss_ret (se_if (st_eq (se_var 0) (se_int)) (se_fn h_parse_table (sa_cons (se_str) (sa_nil))) (se_newm0 B h_sh_new h_x_undo (se_int)))))))
theorem fn__law_raise_more {G : Gc} {f : Addr} {fd : FuncData} (B : Bi G) (h_paper : FnIs G "paper" 4 2 F_paper) (h_inverse : FnIs G "inverse" 5 2 F_inverse) (h_least_difference : FnIs G "least_difference" 7 1 F_least_difference) (h_parse_table : FnIs G "parse_table" 3 1 F_parse_table) (h_sh_new : NewS G 3) (h_x_undo : MtX G "undo" 1 1 fx_undo) (hm : G.mg "_law_raise_more" = some (.ref f)) (Fu : FunD G.K "_law_raise_more" "_law_raise_more" (defArgs st__law_raise_more) (defBody st__law_raise_more) (defScope st__law_raise_more) [] [] f fd) : FnIs G "_law_raise_more" 8 1 F__law_raise_more :=
  fn_is hm Fu sc__law_raise_more (FunD.bindsN (ps := ["mode"]) Fu fun _ _ _ _ _ _ us hl => match us, hl with | [_], _ => rfl) (b__law_raise_more B h_paper h_inverse h_least_difference h_parse_table h_sh_new h_x_undo ) (fun _ _ _ h => h)
/-! ### _law_raise -/
abbrev st__law_raise : Stmt := top 64
abbrev N__law_raise : List Str := ["mode"]
def t8__law_raise : SF := sRet (eFn 1 F__law_raise_more (aCons (eVar 0) (aNil)))
def t7__law_raise : SF := sSeq (sIf (eBin dEq (eVar 0) (eC (.int 7))) (sRet (eFn 2 F_normal_form (aCons (eC (.int 4)) (aCons (eTup (aCons (eC (.int 0)) (aCons (eC (.int 1)) (aCons (eC (.int 2)) (aCons (eC (.int 0)) (aNil)))))) (aNil))))) (sNop)) t8__law_raise
def t6__law_raise : SF := sSeq (sIf (eBin dEq (eVar 0) (eC (.int 6))) (sRet (eFn 2 F_agreeing (aCons (eC (.int 2)) (aCons (eTup (aCons (eTup (aCons (eC (.int 0)) (aCons (eC (.int 2)) (aNil)))) (aNil))) (aNil))))) (sNop)) t7__law_raise
def t5__law_raise : SF := sSeq (sIf (eBin dEq (eVar 0) (eC (.int 5))) (sRet (eNewM 3 fx_enter (eC (.int 2)) (aCons (eC (.int 0)) (aCons (eC (.int 2)) (aNil))))) (sNop)) t6__law_raise
def t4__law_raise : SF := sSeq (sIf (eBin dEq (eVar 0) (eC (.int 4))) (sRet (eFn 3 F_differences (aCons (eC (.int 2)) (aCons (eTup (aCons (eC (.int 0)) (aCons (eC (.int 1)) (aNil)))) (aCons (eC (.int 2)) (aNil)))))) (sNop)) t5__law_raise
def t3__law_raise : SF := sSeq (sIf (eBin dEq (eVar 0) (eC (.int 3))) (sRet (eFn 2 F_from_form (aCons (eC (.int 4)) (aCons (eTup (aCons (eC (.int 0)) (aCons (eC (.int 0)) (aCons (eC (.int 2)) (aCons (eC (.int 0)) (aNil)))))) (aNil))))) (sNop)) t4__law_raise
def t2__law_raise : SF := sSeq (sIf (eBin dEq (eVar 0) (eC (.int 2))) (sRet (eFn 2 F_table_of (aCons (eC (.int 2)) (aCons (eTup (aCons (eC (.int 1000)) (aNil))) (aNil))))) (sNop)) t3__law_raise
def t1__law_raise : SF := sSeq (sIf (eBin dEq (eVar 0) (eC (.int 1))) (sRet (eFn 2 F_is_polynomial (aCons (eC (.int 2)) (aCons (eTup (aCons (eC (.int 0)) (aCons (eC (.int 2)) (aNil)))) (aNil))))) (sNop)) t2__law_raise
def g__law_raise : SF := sSeq (sIf (eBin dEq (eVar 0) (eC (.int 0))) (sRet (eFn 1 F_sizes (aCons (eC (.int 13)) (aNil)))) (sNop)) t1__law_raise
def F__law_raise : List Dt → Option Rs := runB 1 g__law_raise
theorem sc__law_raise : FnScope N__law_raise ["mode"] (defScope st__law_raise) := ⟨rfl, rfl, rfl, by decide +kernel, rfl, by decide +kernel, by decide +kernel⟩
theorem b__law_raise {G : Gc} (B : Bi G) (h_sizes : FnIs G "sizes" 4 1 F_sizes) (h_is_polynomial : FnIs G "is_polynomial" 4 2 F_is_polynomial) (h_table_of : FnIs G "table_of" 3 2 F_table_of) (h_from_form : FnIs G "from_form" 4 2 F_from_form) (h_differences : FnIs G "differences" 4 3 F_differences) (h_agreeing : FnIs G "agreeing" 7 2 F_agreeing) (h_normal_form : FnIs G "normal_form" 5 2 F_normal_form) (h__law_raise_more : FnIs G "_law_raise_more" 8 1 F__law_raise_more) (h_sh_new : NewS G 3) (h_x_enter : MtX G "enter" 3 3 fx_enter) : SB G N__law_raise (defScope st__law_raise) (fun _ => true) 8 (defBody st__law_raise) g__law_raise := by
  unfold g__law_raise
  exact sb_cons (ss_if (st_eq (se_var 0) (se_int)) (sb_one (ss_ret (se_fn h_sizes (sa_cons (se_int) (sa_nil))))) (sb_nil))
    (sb_cons (ss_if (st_eq (se_var 0) (se_int)) (sb_one (ss_ret (se_fn h_is_polynomial (sa_cons (se_int) (sa_cons (se_tup (sa_cons (se_int) (sa_cons (se_int) (sa_nil)))) (sa_nil)))))) (sb_nil))
    (sb_cons (ss_if (st_eq (se_var 0) (se_int)) (sb_one (ss_ret (se_fn h_table_of (sa_cons (se_int) (sa_cons (se_tup (sa_cons (se_int) (sa_nil))) (sa_nil)))))) (sb_nil))
    (sb_cons (ss_if (st_eq (se_var 0) (se_int)) (sb_one (ss_ret (se_fn h_from_form (sa_cons (se_int) (sa_cons (se_tup (sa_cons (se_int) (sa_cons (se_int) (sa_cons (se_int) (sa_cons (se_int) (sa_nil)))))) (sa_nil)))))) (sb_nil))
    (sb_cons (ss_if (st_eq (se_var 0) (se_int)) (sb_one (ss_ret (se_fn h_differences (sa_cons (se_int) (sa_cons (se_tup (sa_cons (se_int) (sa_cons (se_int) (sa_nil)))) (sa_cons (se_int) (sa_nil))))))) (sb_nil))
    (sb_cons (ss_if (st_eq (se_var 0) (se_int)) (sb_one (ss_ret (se_newm B h_sh_new h_x_enter (se_int) (sa_cons (se_int) (sa_cons (se_int) (sa_nil)))))) (sb_nil))
    (sb_cons (ss_if (st_eq (se_var 0) (se_int)) (sb_one (ss_ret (se_fn h_agreeing (sa_cons (se_int) (sa_cons (se_tup (sa_cons (se_tup (sa_cons (se_int) (sa_cons (se_int) (sa_nil)))) (sa_nil))) (sa_nil)))))) (sb_nil))
    (sb_cons (ss_if (st_eq (se_var 0) (se_int)) (sb_one (ss_ret (se_fn h_normal_form (sa_cons (se_int) (sa_cons (se_tup (sa_cons (se_int) (sa_cons (se_int) (sa_cons (se_int) (sa_cons (se_int) (sa_nil)))))) (sa_nil)))))) (sb_nil))
    (sb_one (ss_ret (se_fn h__law_raise_more (sa_cons (se_var 0) (sa_nil))))))))))))
theorem fn__law_raise {G : Gc} {f : Addr} {fd : FuncData} (B : Bi G) (h_sizes : FnIs G "sizes" 4 1 F_sizes) (h_is_polynomial : FnIs G "is_polynomial" 4 2 F_is_polynomial) (h_table_of : FnIs G "table_of" 3 2 F_table_of) (h_from_form : FnIs G "from_form" 4 2 F_from_form) (h_differences : FnIs G "differences" 4 3 F_differences) (h_agreeing : FnIs G "agreeing" 7 2 F_agreeing) (h_normal_form : FnIs G "normal_form" 5 2 F_normal_form) (h__law_raise_more : FnIs G "_law_raise_more" 8 1 F__law_raise_more) (h_sh_new : NewS G 3) (h_x_enter : MtX G "enter" 3 3 fx_enter) (hm : G.mg "_law_raise" = some (.ref f)) (Fu : FunD G.K "_law_raise" "_law_raise" (defArgs st__law_raise) (defBody st__law_raise) (defScope st__law_raise) [] [] f fd) : FnIs G "_law_raise" 9 1 F__law_raise :=
  fn_is hm Fu sc__law_raise (FunD.bindsN (ps := ["mode"]) Fu fun _ _ _ _ _ _ us hl => match us, hl with | [_], _ => rfl) (b__law_raise B h_sizes h_is_polynomial h_table_of h_from_form h_differences h_agreeing h_normal_form h__law_raise_more h_sh_new h_x_enter ) (fun _ _ _ h => h)
/-! ### law -/
abbrev st_law : Stmt := top 66
abbrev N_law : List Str := ["script", "mode", "found", "is_under", "line_here", "e", "at"]
def t5_law : SF := sRet (eAnd (eVar 3) (eAnd (eBin dEq (eVar 4) (eIf (eBin dEq (eVar 1) (eC (.int 11))) (eC (.int 2)) (eC (.str "none")))) (eBin dEq (eVar 2) (eLc [6] (gNm 6) (iRg1 (eC (.int 13))) (eC (.bool true)) (eBin dEq (eVar 6) (eVar 1))))))
def t4_law : SF := sSeq (sTry17 EM (eFn 1 F__law_raise (aCons (eVar 1) (aNil)))) t5_law
def t3_law : SF := sSeq (sSet 4 (eC (.str "none"))) t4_law
def t2_law : SF := sSeq (sSet 3 (eC (.bool false))) t3_law
def t1_law : SF := sSeq (sSetO 2 (eLst (aNil))) t2_law
def g_law : SF := sSeq (sSet 1 (eBin dMod (eFn 2 F__law_cell (aCons (eVar 0) (aCons (eC (.int 0)) (aNil)))) (eC (.int 13)))) t1_law
def F_law : List Dt → Option Rs := runB 7 g_law
theorem sc_law : FnScope N_law ["script"] (defScope st_law) := ⟨rfl, rfl, rfl, by decide +kernel, rfl, by decide +kernel, by decide +kernel⟩
theorem b_law {G : Gc} (B : Bi G) (h__law_cell : FnIs G "_law_cell" 1 2 F__law_cell) (h__law_raise : FnIs G "_law_raise" 9 1 F__law_raise) (h_pe_ParseError : PeC G "ParseError") (h_cls_TableError : ∃ C, G.mg "TableError" = some (.ref C)) (hE : EmOk G EM) (hU : UndV G EM) (hmv : G.mg "ValueError" = none) : SB G N_law (defScope st_law) (fun _ => true) 9 (defBody st_law) g_law := by
  unfold g_law
  exact sb_cons (ss_set (ag_of 1 (se_mod (se_fn h__law_cell (sa_cons (se_var 0) (sa_cons (se_int) (sa_nil)))) (se_int))))
    (sb_cons (ss_setO (agL_of 2 (sl_lst (sa_nil))))
    (sb_cons (ss_set (ag_of 3 (se_bl)))
    (sb_cons (ss_set (ag_of 4 (se_str)))
    (sb_cons (ss_try17 B hE hU hmv (h_pe_ParseError.no (by decide +kernel)) h_cls_TableError (se_fn h__law_raise (sa_cons (se_var 1) (sa_nil))) (by unfold GL GN PN; decide +kernel) rfl (.inl rfl) (.inr (.inl rfl)) (.inl rfl) (.inl rfl) (.inl rfl))
    (sb_one (ss_ret (se_and (se_var 3) (se_and (se_eq (se_var 4) (se_if (st_eq (se_var 1) (se_int)) (se_int) (se_str))) (se_one (se_eq (se_var 2) (se_lc (own := [("at", 6)]) (si_rg1 B (se_int)) (by decide +kernel) (sg_nm 6) (sts_nil) (se_eq (se_var 6) (se_var 1)))))))))))))
theorem fn_law {G : Gc} {f : Addr} {fd : FuncData} (B : Bi G) (h__law_cell : FnIs G "_law_cell" 1 2 F__law_cell) (h__law_raise : FnIs G "_law_raise" 9 1 F__law_raise) (h_pe_ParseError : PeC G "ParseError") (h_cls_TableError : ∃ C, G.mg "TableError" = some (.ref C)) (hE : EmOk G EM) (hU : UndV G EM) (hmv : G.mg "ValueError" = none) (hm : G.mg "law" = some (.ref f)) (Fu : FunD G.K "law" "law" (defArgs st_law) (defBody st_law) (defScope st_law) [] [] f fd) : FnIs G "law" 10 1 F_law :=
  fn_is hm Fu sc_law (FunD.bindsN (ps := ["script"]) Fu fun _ _ _ _ _ _ us hl => match us, hl with | [_], _ => rfl) (b_law B h__law_cell h__law_raise h_pe_ParseError h_cls_TableError hE hU hmv) (fun _ _ _ h => h)
end PT

namespace PT
open PySem PySem.Spec PyProof.Rows L2
/-! ## the drawn numbers -/
theorem dLen_scr (ns : List Int) : dLen (scr ns) = some (.int (ns.length : Nat)) := by
  show (if isScr (ns.map fun i => ((.int i : PyData), (.none : PyData))) = true then some (PyData.int (ns.map fun i => ((.int i : PyData), (.none : PyData))).length) else none) = _
  rw [isScr_map, if_pos rfl, List.length_map]
theorem dIx_scr (ns : List Int) (k : Nat) (h : k < ns.length) : dIx (scr ns) (.int (k : Int)) = some (.int ns[k]) := by
  show (match atI (ns.map fun i => ((.int i : PyData), (.none : PyData))) (k : Int) with | some (.int j, _) => some (PyData.int j) | _ => none) = _
  have h2 : atI (ns.map fun i => ((.int i : PyData), (.none : PyData))) (k : Int) = some (.int ns[k], .none) := by
    refine atI_of (j := k) ?_ ?_
    · rw [List.length_map]; exact ixN_nat h
    · rw [List.getElem?_map, List.getElem?_eq_getElem h]; rfl
  rw [h2]
theorem w_cell (ns : List Int) (k : Nat) : F__law_cell [scr ns, .int (k : Int)] = some (.val (.int (ns.getD k 0))) := by
  have e0 : start0 2 [scr ns, .int (k : Int)] = [some (.sh (scr ns)), some (.sh (.int (k : Int)))] := rfl
  have hl := dLen_scr ns
  generalize hs : scr ns = S at e0 hl ⊢
  unfold F__law_cell runB g__law_cell t1__law_cell
  by_cases hk : k < ns.length
  · have h2 : dIx S (.int (k : Int)) = some (.int ns[k]) := by rw [← hs]; exact dIx_scr ns k hk
    have h3 : ns.getD k 0 = ns[k] := by rw [List.getD_eq_getElem?_getD, List.getElem?_eq_getElem hk]; rfl
    have h4 : decide ((k : Int) < (ns.length : Nat)) = true := decide_eq_true (by omega)
    simp only [w_bnd, w_bndX, w_bndN, w_bndS, w_bndSX, w_bndSN, w_bndI, w_bndA, w_c, w_bin, w_un, w_nil, w_cons, w_fn, w_seq, w_nop, w_set, w_setO, w_ret, w_do, w_if, w_v0, w_o0, w_o0f, w_vs, w_clr0, w_clrs, w_nm, w_pr, w_add, w_sub, w_mul, w_addI, w_mulI, w_lt, w_le, w_gt, w_ge, w_truB, w_truI, w_truL, w_truT, w_truN, w_lenL, w_lenT, w_tupL, w_listT, w_listL, w_app, w_aug, w_for, List.set_cons_zero, List.set_cons_succ, List.getElem?_cons_zero, List.getElem?_cons_succ, List.length_cons, List.length_nil, Option.map_some, Option.map_none, Option.bind_some, Bool.or_true, Bool.true_or, eq_self, ite_true, ite_false, decide_true, decide_false, Int.reduceLT, Int.reduceLE, Int.reduceAdd, Int.reduceSub, Int.reduceMul, Int.reduceNeg, Nat.reduceAdd, Nat.reduceLT, Nat.reduceLeDiff, Nat.reduceEqDiff, reduceIte, e0, hl, h2, h3, h4]
  · have h3 : ns.getD k 0 = 0 := by rw [List.getD_eq_getElem?_getD, List.getElem?_eq_none (by omega)]; rfl
    have h4 : decide ((k : Int) < (ns.length : Nat)) = false := decide_eq_false (by omega)
    simp only [w_bnd, w_bndX, w_bndN, w_bndS, w_bndSX, w_bndSN, w_bndI, w_bndA, w_c, w_bin, w_un, w_nil, w_cons, w_fn, w_seq, w_nop, w_set, w_setO, w_ret, w_do, w_if, w_v0, w_o0, w_o0f, w_vs, w_clr0, w_clrs, w_nm, w_pr, w_add, w_sub, w_mul, w_addI, w_mulI, w_lt, w_le, w_gt, w_ge, w_truB, w_truI, w_truL, w_truT, w_truN, w_lenL, w_lenT, w_tupL, w_listT, w_listL, w_app, w_aug, w_for, List.set_cons_zero, List.set_cons_succ, List.getElem?_cons_zero, List.getElem?_cons_succ, List.length_cons, List.length_nil, Option.map_some, Option.map_none, Option.bind_some, Bool.or_true, Bool.true_or, eq_self, ite_true, ite_false, decide_true, decide_false, Int.reduceLT, Int.reduceLE, Int.reduceAdd, Int.reduceSub, Int.reduceMul, Int.reduceNeg, Nat.reduceAdd, Nat.reduceLT, Nat.reduceLeDiff, Nat.reduceEqDiff, reduceIte, e0, hl, h3, h4]
theorem w_mode (s : Dt) : ∀ m : Nat, m < 13 → t1_law [some (.sh s), some (.sh (.int (m : Int))), none, none, none, none, none] = some (.rt (.bool true)) := by
  intro m h
  have : m = 0 ∨ m = 1 ∨ m = 2 ∨ m = 3 ∨ m = 4 ∨ m = 5 ∨ m = 6 ∨ m = 7 ∨ m = 8 ∨ m = 9 ∨ m = 10 ∨ m = 11 ∨ m = 12 := by omega
  rcases this with rfl | rfl | rfl | rfl | rfl | rfl | rfl | rfl | rfl | rfl | rfl | rfl | rfl
  · kernel_rfl
  · kernel_rfl
  · kernel_rfl
  · kernel_rfl
  · kernel_rfl
  · kernel_rfl
  · kernel_rfl
  · kernel_rfl
  · kernel_rfl
  · kernel_rfl
  · kernel_rfl
  · kernel_rfl
  · kernel_rfl
theorem law_plain (ns : List Int) : F_law [scr ns] = some (.val (.bool true)) := by
  have hc := w_cell ns 0
  have e0 : start0 7 [scr ns] = [some (.sh (scr ns)), none, none, none, none, none, none] := rfl
  generalize hs : scr ns = S at e0 hc ⊢
  have hm := w_mode S (ns.getD 0 0 % 13).toNat (by omega)
  have e1 : (((ns.getD 0 0 % 13).toNat : Nat) : Int) = ns.getD 0 0 % 13 := by omega
  rw [e1] at hm
  have h0 : ((0 : Nat) : Int) = 0 := rfl
  rw [h0] at hc
  unfold F_law runB g_law
  simp only [w_bnd, w_bndX, w_bndN, w_bndS, w_bndSX, w_bndSN, w_bndI, w_bndA, w_c, w_bin, w_un, w_nil, w_cons, w_fn, w_seq, w_nop, w_set, w_setO, w_ret, w_do, w_if, w_v0, w_o0, w_o0f, w_vs, w_clr0, w_clrs, w_nm, w_pr, w_add, w_sub, w_mul, w_addI, w_mulI, w_lt, w_le, w_gt, w_ge, w_truB, w_truI, w_truL, w_truT, w_truN, w_lenL, w_lenT, w_tupL, w_listT, w_listL, w_app, w_aug, w_for, List.set_cons_zero, List.set_cons_succ, List.getElem?_cons_zero, List.getElem?_cons_succ, List.length_cons, List.length_nil, Option.map_some, Option.map_none, Option.bind_some, Bool.or_true, Bool.true_or, eq_self, ite_true, ite_false, decide_true, decide_false, Int.reduceLT, Int.reduceLE, Int.reduceAdd, Int.reduceSub, Int.reduceMul, Int.reduceNeg, Nat.reduceAdd, Nat.reduceLT, Nat.reduceLeDiff, Nat.reduceEqDiff, reduceIte, w_mod, e0, hc, hm]
end PT

namespace PT
open PySem PySem.Spec PyProof.Rows L2
/-! ## the head -/
namespace Hd
def d__wall : He.DefD := ⟨("_wall", none), "_wall", "_wall", defArgs st__wall, defBody st__wall, defScope st__wall, [], []⟩
def d_in_range : He.DefD := ⟨("in_range", none), "in_range", "in_range", defArgs st_in_range, defBody st_in_range, defScope st_in_range, [], []⟩
def d_value_at : He.DefD := ⟨("value_at", none), "value_at", "value_at", defArgs st_value_at, defBody st_value_at, defScope st_value_at, [], []⟩
def d_difference_row : He.DefD := ⟨("difference_row", none), "difference_row", "difference_row", defArgs st_difference_row, defBody st_difference_row, defScope st_difference_row, [], []⟩
def d_greatest_divisor : He.DefD := ⟨("greatest_divisor", none), "greatest_divisor", "greatest_divisor", defArgs st_greatest_divisor, defBody st_greatest_divisor, defScope st_greatest_divisor, [], []⟩
def d_quotient : He.DefD := ⟨("quotient", none), "quotient", "quotient", defArgs st_quotient, defBody st_quotient, defScope st_quotient, [], []⟩
def d_built : He.DefD := ⟨("built", none), "built", "built", defArgs st_built, defBody st_built, defScope st_built, [], []⟩
def d_tuples : He.DefD := ⟨("tuples", none), "tuples", "tuples", defArgs st_tuples, defBody st_tuples, defScope st_tuples, [], []⟩
def d_gap : He.DefD := ⟨("gap", none), "gap", "gap", defArgs st_gap, defBody st_gap, defScope st_gap, [], []⟩
def d_parse_number : He.DefD := ⟨("parse_number", none), "parse_number", "parse_number", defArgs st_parse_number, defBody st_parse_number, defScope st_parse_number, [], []⟩
def d__law_cell : He.DefD := ⟨("_law_cell", none), "_law_cell", "_law_cell", defArgs st__law_cell, defBody st__law_cell, defScope st__law_cell, [], []⟩
def d_check_modulus : He.DefD := ⟨("check_modulus", none), "check_modulus", "check_modulus", defArgs st_check_modulus, defBody st_check_modulus, defScope st_check_modulus, [], []⟩
def d_is_valid_table : He.DefD := ⟨("is_valid_table", none), "is_valid_table", "is_valid_table", defArgs st_is_valid_table, defBody st_is_valid_table, defScope st_is_valid_table, [], []⟩
def d_check_place : He.DefD := ⟨("check_place", none), "check_place", "check_place", defArgs st_check_place, defBody st_check_place, defScope st_check_place, [], []⟩
def d_is_valid_polynomial : He.DefD := ⟨("is_valid_polynomial", none), "is_valid_polynomial", "is_valid_polynomial", defArgs st_is_valid_polynomial, defBody st_is_valid_polynomial, defScope st_is_valid_polynomial, [], []⟩
def d_divisors : He.DefD := ⟨("divisors", none), "divisors", "divisors", defArgs st_divisors, defBody st_divisors, defScope st_divisors, [], []⟩
def d_are_answers : He.DefD := ⟨("are_answers", none), "are_answers", "are_answers", defArgs st_are_answers, defBody st_are_answers, defScope st_are_answers, [], []⟩
def d_check_table : He.DefD := ⟨("check_table", none), "check_table", "check_table", defArgs st_check_table, defBody st_check_table, defScope st_check_table, [], []⟩
def d_table_of : He.DefD := ⟨("table_of", none), "table_of", "table_of", defArgs st_table_of, defBody st_table_of, defScope st_table_of, [], []⟩
def d_first_fault : He.DefD := ⟨("first_fault", none), "first_fault", "first_fault", defArgs st_first_fault, defBody st_first_fault, defScope st_first_fault, [], []⟩
def d_sizes_of : He.DefD := ⟨("sizes_of", none), "sizes_of", "sizes_of", defArgs st_sizes_of, defBody st_sizes_of, defScope st_sizes_of, [], []⟩
def d_parse_table : He.DefD := ⟨("parse_table", none), "parse_table", "parse_table", defArgs st_parse_table, defBody st_parse_table, defScope st_parse_table, [], []⟩
def d_differences : He.DefD := ⟨("differences", none), "differences", "differences", defArgs st_differences, defBody st_differences, defScope st_differences, [], []⟩
def d_is_polynomial : He.DefD := ⟨("is_polynomial", none), "is_polynomial", "is_polynomial", defArgs st_is_polynomial, defBody st_is_polynomial, defScope st_is_polynomial, [], []⟩
def d_paper : He.DefD := ⟨("paper", none), "paper", "paper", defArgs st_paper, defBody st_paper, defScope st_paper, [], []⟩
def d_sizes : He.DefD := ⟨("sizes", none), "sizes", "sizes", defArgs st_sizes, defBody st_sizes, defScope st_sizes, [], []⟩
def d_form_of : He.DefD := ⟨("form_of", none), "form_of", "form_of", defArgs st_form_of, defBody st_form_of, defScope st_form_of, [], []⟩
def d_from_form : He.DefD := ⟨("from_form", none), "from_form", "from_form", defArgs st_from_form, defBody st_from_form, defScope st_from_form, [], []⟩
def d_is_permutation : He.DefD := ⟨("is_permutation", none), "is_permutation", "is_permutation", defArgs st_is_permutation, defBody st_is_permutation, defScope st_is_permutation, [], []⟩
def d_count_tables : He.DefD := ⟨("count_tables", none), "count_tables", "count_tables", defArgs st_count_tables, defBody st_count_tables, defScope st_count_tables, [], []⟩
def d_normal_form : He.DefD := ⟨("normal_form", none), "normal_form", "normal_form", defArgs st_normal_form, defBody st_normal_form, defScope st_normal_form, [], []⟩
def d_inverse : He.DefD := ⟨("inverse", none), "inverse", "inverse", defArgs st_inverse, defBody st_inverse, defScope st_inverse, [], []⟩
def d_all_tables : He.DefD := ⟨("all_tables", none), "all_tables", "all_tables", defArgs st_all_tables, defBody st_all_tables, defScope st_all_tables, [], []⟩
def d_least_difference : He.DefD := ⟨("least_difference", none), "least_difference", "least_difference", defArgs st_least_difference, defBody st_least_difference, defScope st_least_difference, [], []⟩
def d_agreeing : He.DefD := ⟨("agreeing", none), "agreeing", "agreeing", defArgs st_agreeing, defBody st_agreeing, defScope st_agreeing, [], []⟩
def d__law_raise_more : He.DefD := ⟨("_law_raise_more", none), "_law_raise_more", "_law_raise_more", defArgs st__law_raise_more, defBody st__law_raise_more, defScope st__law_raise_more, [], []⟩
def d__law_raise : He.DefD := ⟨("_law_raise", none), "_law_raise", "_law_raise", defArgs st__law_raise, defBody st__law_raise, defScope st__law_raise, [], []⟩
def d_law : He.DefD := ⟨("law", none), "law", "law", defArgs st_law, defBody st_law, defScope st_law, [], []⟩
def d_pe_ParseError : He.DefD := ⟨("ParseError", some "__init__"), "__init__", "ParseError.__init__", defArgs st_pe_ParseError, defBody st_pe_ParseError, defScope st_pe_ParseError, [], []⟩
def d_sh___init__ : He.DefD := ⟨("Sheet", some "__init__"), "__init__", "Sheet.__init__", defArgs st_sh___init__, defBody st_sh___init__, defScope st_sh___init__, [], []⟩
def d_sh_enter : He.DefD := ⟨("Sheet", some "enter"), "enter", "Sheet.enter", defArgs st_sh_enter, defBody st_sh_enter, defScope st_sh_enter, [], []⟩
def d_sh_undo : He.DefD := ⟨("Sheet", some "undo"), "undo", "Sheet.undo", defArgs st_sh_undo, defBody st_sh_undo, defScope st_sh_undo, [], []⟩
def fnL : List He.DefD := [d__wall, d_in_range, d_value_at, d_difference_row, d_greatest_divisor, d_quotient, d_built, d_tuples, d_gap, d_parse_number, d__law_cell, d_check_modulus, d_is_valid_table, d_check_place, d_is_valid_polynomial, d_divisors, d_are_answers, d_check_table, d_table_of, d_first_fault, d_sizes_of, d_parse_table, d_differences, d_is_polynomial, d_paper, d_sizes, d_form_of, d_from_form, d_is_permutation, d_count_tables, d_normal_form, d_inverse, d_all_tables, d_least_difference, d_agreeing, d__law_raise_more, d__law_raise, d_law, d_pe_ParseError, d_sh___init__, d_sh_enter, d_sh_undo]
def faL : List He.Fa := [.free "len", .free "range", .free "isinstance", .free "int", .free "bool", .free "tuple", .free "list", .free "str", .free "set", .free "sorted", .free "max", .free "min", .free "zip", .free "enumerate", .free "reversed", .glo "_wall", .glo "in_range", .glo "value_at", .glo "difference_row", .glo "greatest_divisor", .glo "quotient", .glo "built", .glo "tuples", .glo "gap", .glo "parse_number", .glo "_law_cell", .glo "check_modulus", .glo "is_valid_table", .glo "check_place", .glo "is_valid_polynomial", .glo "divisors", .glo "are_answers", .glo "check_table", .glo "table_of", .glo "first_fault", .glo "sizes_of", .glo "parse_table", .glo "differences", .glo "is_polynomial", .glo "paper", .glo "sizes", .glo "form_of", .glo "from_form", .glo "is_permutation", .glo "count_tables", .glo "normal_form", .glo "inverse", .glo "all_tables", .glo "least_difference", .glo "agreeing", .glo "_law_raise_more", .glo "_law_raise", .glo "law", .int "MAX_MODULUS" 12, .int "MAX_COEFFICIENTS" 13, .int "MAX_COEFFICIENT" 999, .int "MAX_TABLES" 3200, .str "DIGITS" "0123456789", .glo "InvalidValue", .exc "InvalidValue", .glo "NothingToUndo", .exc "NothingToUndo", .glo "InvalidModulus", .exc "InvalidModulus", .glo "InvalidPlace", .exc "InvalidPlace", .glo "InvalidTable", .exc "InvalidTable", .glo "InvalidPolynomial", .exc "InvalidPolynomial", .glo "IsPolynomial", .exc "IsPolynomial", .glo "InvalidForm", .exc "InvalidForm", .glo "NotPolynomial", .exc "NotPolynomial", .glo "NotPermutation", .exc "NotPermutation", .glo "TooMany", .exc "TooMany", .glo "InvalidAnswers", .exc "InvalidAnswers", .glo "TableError", .glo "Sheet", .mkr "Sheet", .meth "Sheet" "enter", .meth "Sheet" "undo", .free "ValueError"]
abbrev R : PySem.W.OpenRow := PySem.W.OpenLaw.row PySem.Challenge.rw_polytables_k17_exceptions
def chk (K : PySem.W.Frag) : Bool := chkE EM K && peB K "ParseError" "TableError" && shB K && shXB K && undB EM K
abbrev hk : PySem.W.Hook := hookQ 4 faL fnL chk
def ob (s : PySem.W.SharedT) : He.AlD := obsQG 4 faL fnL chk (HandSHeadRun.getT s)
theorem ob_eq (s : PySem.W.SharedT) : ob s = hk.obs s.abs := obsQG_eq (HandSHeadRun.getT_eq s)
def lo : List Str := (["TableError", "ParseError", "InvalidModulus", "InvalidTable", "InvalidPolynomial", "InvalidForm", "InvalidPlace", "InvalidValue", "InvalidAnswers", "NotPolynomial", "IsPolynomial", "NotPermutation", "TooMany", "NothingToUndo", "Sheet", "MAX_MODULUS", "MAX_COEFFICIENTS", "MAX_COEFFICIENT", "MAX_TABLES", "DIGITS", "_wall", "in_range", "check_modulus", "is_valid_table", "check_table", "check_place", "is_valid_polynomial", "value_at", "table_of", "difference_row"] : List Str) ++ (["differences", "greatest_divisor", "divisors", "first_fault", "is_polynomial", "paper", "sizes_of", "sizes", "count_tables", "quotient", "form_of", "normal_form", "built", "from_form", "tuples", "all_tables", "gap", "least_difference", "is_permutation", "inverse", "parse_number", "parse_table", "are_answers", "agreeing", "_law_cell", "_law_raise", "_law_raise_more"] : List Str)
theorem run (w : World) : HandSHeadRun.RunEq R (PySem.W.view R.prog [66]) hk ob 40000 lo w := by
  intro os
  kernel_rfl
variable {P : Program} {w : World} {K : PySem.W.Frag} {h base : Heap} {mg : Str → Option Value}
theorem bi (X : K.In h) (G : h.Ns mainGlobals mg) (c : He.SaysD faL fnL K) (S : ShK K) : Bi ⟨P, w, K, mg, base⟩ := ⟨He.free_ok X G (c.fact 0), He.free_ok X G (c.fact 1), He.free_ok X G (c.fact 2), He.free_ok X G (c.fact 3), He.free_ok X G (c.fact 4), He.free_ok X G (c.fact 5), He.free_ok X G (c.fact 6), He.free_ok X G (c.fact 7), He.free_ok X G (c.fact 8), He.free_ok X G (c.fact 9), He.free_ok X G (c.fact 10), He.free_ok X G (c.fact 11), He.free_ok X G (c.fact 12), He.free_ok X G (c.fact 13), He.free_ok X G (c.fact 14), S⟩
theorem facts (X : K.In h) (G : h.Ns mainGlobals mg) (c : He.SaysD faL fnL K) (ce : chk K = true) : ∃ fd : FuncData, (∀ (s : Shared) (v : Value), BindsTo s fd ⟨[v], []⟩ [("script", v)]) ∧ ∀ base : Heap, FnOk P w K mg base (L2.CX P w) 10 (He.ga K "law") fd ["script"] (spF K mg 1 F_law) := by
  obtain ⟨fd0, D0⟩ := c.def_ 0 (d := d__wall) rfl
  obtain ⟨fd1, D1⟩ := c.def_ 1 (d := d_in_range) rfl
  obtain ⟨fd2, D2⟩ := c.def_ 2 (d := d_value_at) rfl
  obtain ⟨fd3, D3⟩ := c.def_ 3 (d := d_difference_row) rfl
  obtain ⟨fd4, D4⟩ := c.def_ 4 (d := d_greatest_divisor) rfl
  obtain ⟨fd5, D5⟩ := c.def_ 5 (d := d_quotient) rfl
  obtain ⟨fd6, D6⟩ := c.def_ 6 (d := d_built) rfl
  obtain ⟨fd7, D7⟩ := c.def_ 7 (d := d_tuples) rfl
  obtain ⟨fd8, D8⟩ := c.def_ 8 (d := d_gap) rfl
  obtain ⟨fd9, D9⟩ := c.def_ 9 (d := d_parse_number) rfl
  obtain ⟨fd10, D10⟩ := c.def_ 10 (d := d__law_cell) rfl
  obtain ⟨fd11, D11⟩ := c.def_ 11 (d := d_check_modulus) rfl
  obtain ⟨fd12, D12⟩ := c.def_ 12 (d := d_is_valid_table) rfl
  obtain ⟨fd13, D13⟩ := c.def_ 13 (d := d_check_place) rfl
  obtain ⟨fd14, D14⟩ := c.def_ 14 (d := d_is_valid_polynomial) rfl
  obtain ⟨fd15, D15⟩ := c.def_ 15 (d := d_divisors) rfl
  obtain ⟨fd16, D16⟩ := c.def_ 16 (d := d_are_answers) rfl
  obtain ⟨fd17, D17⟩ := c.def_ 17 (d := d_check_table) rfl
  obtain ⟨fd18, D18⟩ := c.def_ 18 (d := d_table_of) rfl
  obtain ⟨fd19, D19⟩ := c.def_ 19 (d := d_first_fault) rfl
  obtain ⟨fd20, D20⟩ := c.def_ 20 (d := d_sizes_of) rfl
  obtain ⟨fd21, D21⟩ := c.def_ 21 (d := d_parse_table) rfl
  obtain ⟨fd22, D22⟩ := c.def_ 22 (d := d_differences) rfl
  obtain ⟨fd23, D23⟩ := c.def_ 23 (d := d_is_polynomial) rfl
  obtain ⟨fd24, D24⟩ := c.def_ 24 (d := d_paper) rfl
  obtain ⟨fd25, D25⟩ := c.def_ 25 (d := d_sizes) rfl
  obtain ⟨fd26, D26⟩ := c.def_ 26 (d := d_form_of) rfl
  obtain ⟨fd27, D27⟩ := c.def_ 27 (d := d_from_form) rfl
  obtain ⟨fd28, D28⟩ := c.def_ 28 (d := d_is_permutation) rfl
  obtain ⟨fd29, D29⟩ := c.def_ 29 (d := d_count_tables) rfl
  obtain ⟨fd30, D30⟩ := c.def_ 30 (d := d_normal_form) rfl
  obtain ⟨fd31, D31⟩ := c.def_ 31 (d := d_inverse) rfl
  obtain ⟨fd32, D32⟩ := c.def_ 32 (d := d_all_tables) rfl
  obtain ⟨fd33, D33⟩ := c.def_ 33 (d := d_least_difference) rfl
  obtain ⟨fd34, D34⟩ := c.def_ 34 (d := d_agreeing) rfl
  obtain ⟨fd35, D35⟩ := c.def_ 35 (d := d__law_raise_more) rfl
  obtain ⟨fd36, D36⟩ := c.def_ 36 (d := d__law_raise) rfl
  obtain ⟨fd37, D37⟩ := c.def_ 37 (d := d_law) rfl
  have bb := FunD.bindsA (ps := ["script"]) D37 fun _ _ _ _ _ _ us hl => match us, hl with | [_], _ => rfl
  refine ⟨fd37, fun s v => bb s [v] rfl, fun base => ?_⟩
  unfold chk at ce
  simp only [Bool.and_eq_true] at ce
  have B : Bi ⟨P, w, K, mg, base⟩ := bi X G c (shB_ok ce.1.1.2)
  have h_MAX_MODULUS := He.int_ok X G (c.fact 53 (f := .int "MAX_MODULUS" 12))
  have h_MAX_COEFFICIENTS := He.int_ok X G (c.fact 54 (f := .int "MAX_COEFFICIENTS" 13))
  have h_MAX_COEFFICIENT := He.int_ok X G (c.fact 55 (f := .int "MAX_COEFFICIENT" 999))
  have h_MAX_TABLES := He.int_ok X G (c.fact 56 (f := .int "MAX_TABLES" 3200))
  have h_DIGITS := He.str_ok X G (c.fact 57 (f := .str "DIGITS" "0123456789"))
  have h_InvalidValue : ExcC ⟨P, w, K, mg, base⟩ "InvalidValue" := ⟨_, He.glo_ok X G (c.fact 58 (f := .glo "InvalidValue")), He.exc_ok (c.fact 59 (f := .exc "InvalidValue"))⟩
  have h_NothingToUndo : ExcC ⟨P, w, K, mg, base⟩ "NothingToUndo" := ⟨_, He.glo_ok X G (c.fact 60 (f := .glo "NothingToUndo")), He.exc_ok (c.fact 61 (f := .exc "NothingToUndo"))⟩
  have h_InvalidModulus : ExcC ⟨P, w, K, mg, base⟩ "InvalidModulus" := ⟨_, He.glo_ok X G (c.fact 62 (f := .glo "InvalidModulus")), He.exc_ok (c.fact 63 (f := .exc "InvalidModulus"))⟩
  have h_InvalidPlace : ExcC ⟨P, w, K, mg, base⟩ "InvalidPlace" := ⟨_, He.glo_ok X G (c.fact 64 (f := .glo "InvalidPlace")), He.exc_ok (c.fact 65 (f := .exc "InvalidPlace"))⟩
  have h_InvalidTable : ExcC ⟨P, w, K, mg, base⟩ "InvalidTable" := ⟨_, He.glo_ok X G (c.fact 66 (f := .glo "InvalidTable")), He.exc_ok (c.fact 67 (f := .exc "InvalidTable"))⟩
  have h_InvalidPolynomial : ExcC ⟨P, w, K, mg, base⟩ "InvalidPolynomial" := ⟨_, He.glo_ok X G (c.fact 68 (f := .glo "InvalidPolynomial")), He.exc_ok (c.fact 69 (f := .exc "InvalidPolynomial"))⟩
  have h_IsPolynomial : ExcC ⟨P, w, K, mg, base⟩ "IsPolynomial" := ⟨_, He.glo_ok X G (c.fact 70 (f := .glo "IsPolynomial")), He.exc_ok (c.fact 71 (f := .exc "IsPolynomial"))⟩
  have h_InvalidForm : ExcC ⟨P, w, K, mg, base⟩ "InvalidForm" := ⟨_, He.glo_ok X G (c.fact 72 (f := .glo "InvalidForm")), He.exc_ok (c.fact 73 (f := .exc "InvalidForm"))⟩
  have h_NotPolynomial : ExcC ⟨P, w, K, mg, base⟩ "NotPolynomial" := ⟨_, He.glo_ok X G (c.fact 74 (f := .glo "NotPolynomial")), He.exc_ok (c.fact 75 (f := .exc "NotPolynomial"))⟩
  have h_NotPermutation : ExcC ⟨P, w, K, mg, base⟩ "NotPermutation" := ⟨_, He.glo_ok X G (c.fact 76 (f := .glo "NotPermutation")), He.exc_ok (c.fact 77 (f := .exc "NotPermutation"))⟩
  have h_TooMany : ExcC ⟨P, w, K, mg, base⟩ "TooMany" := ⟨_, He.glo_ok X G (c.fact 78 (f := .glo "TooMany")), He.exc_ok (c.fact 79 (f := .exc "TooMany"))⟩
  have h_InvalidAnswers : ExcC ⟨P, w, K, mg, base⟩ "InvalidAnswers" := ⟨_, He.glo_ok X G (c.fact 80 (f := .glo "InvalidAnswers")), He.exc_ok (c.fact 81 (f := .exc "InvalidAnswers"))⟩
  have h_cls_TableError : ∃ C, (⟨P, w, K, mg, base⟩ : Gc).mg "TableError" = some (.ref C) := ⟨_, He.glo_ok X G (c.fact 82 (f := .glo "TableError"))⟩
  have hE : EmOk ⟨P, w, K, mg, base⟩ EM := chkE_ok X G ce.1.1.1.1
  obtain ⟨fdp0, Dp0⟩ := c.def_ 38 (d := d_pe_ParseError) rfl
  have h_pe_ParseError : PeC ⟨P, w, K, mg, base⟩ "ParseError" := pe_ParseError (peB_ok X G ce.1.1.1.2) Dp0
  have hU : UndV ⟨P, w, K, mg, base⟩ EM := undB_ok X G ce.2
  have hmv : (⟨P, w, K, mg, base⟩ : Gc).mg "ValueError" = none := He.free_ok X G (c.fact 87 (f := .free "ValueError"))
  have h__wall : FnIs ⟨P, w, K, mg, base⟩ "_wall" 1 1 F__wall := fn__wall B   (He.glo_ok X G (c.fact 15 (f := .glo "_wall"))) D0
  have h_in_range : FnIs ⟨P, w, K, mg, base⟩ "in_range" 1 3 F_in_range := fn_in_range B   (He.glo_ok X G (c.fact 16 (f := .glo "in_range"))) D1
  have h_value_at : FnIs ⟨P, w, K, mg, base⟩ "value_at" 1 3 F_value_at := fn_value_at B   (He.glo_ok X G (c.fact 17 (f := .glo "value_at"))) D2
  have h_difference_row : FnIs ⟨P, w, K, mg, base⟩ "difference_row" 1 3 F_difference_row := fn_difference_row B   (He.glo_ok X G (c.fact 18 (f := .glo "difference_row"))) D3
  have h_greatest_divisor : FnIs ⟨P, w, K, mg, base⟩ "greatest_divisor" 1 2 F_greatest_divisor := fn_greatest_divisor B   (He.glo_ok X G (c.fact 19 (f := .glo "greatest_divisor"))) D4
  have h_quotient : FnIs ⟨P, w, K, mg, base⟩ "quotient" 1 4 F_quotient := fn_quotient B   (He.glo_ok X G (c.fact 20 (f := .glo "quotient"))) D5
  have h_built : FnIs ⟨P, w, K, mg, base⟩ "built" 1 2 F_built := fn_built B   (He.glo_ok X G (c.fact 21 (f := .glo "built"))) D6
  have h_tuples : FnIs ⟨P, w, K, mg, base⟩ "tuples" 1 1 F_tuples := fn_tuples B   (He.glo_ok X G (c.fact 22 (f := .glo "tuples"))) D7
  have h_gap : FnIs ⟨P, w, K, mg, base⟩ "gap" 1 2 F_gap := fn_gap B   (He.glo_ok X G (c.fact 23 (f := .glo "gap"))) D8
  have h_parse_number : FnIs ⟨P, w, K, mg, base⟩ "parse_number" 1 1 F_parse_number := fn_parse_number B h_DIGITS  (He.glo_ok X G (c.fact 24 (f := .glo "parse_number"))) D9
  have h__law_cell : FnIs ⟨P, w, K, mg, base⟩ "_law_cell" 1 2 F__law_cell := fn__law_cell B   (He.glo_ok X G (c.fact 25 (f := .glo "_law_cell"))) D10
  have h_check_modulus : FnIs ⟨P, w, K, mg, base⟩ "check_modulus" 2 1 F_check_modulus := fn_check_modulus B h_in_range h_MAX_MODULUS h_InvalidModulus  (He.glo_ok X G (c.fact 26 (f := .glo "check_modulus"))) D11
  have h_is_valid_table : FnIs ⟨P, w, K, mg, base⟩ "is_valid_table" 2 2 F_is_valid_table := fn_is_valid_table B h_in_range  (He.glo_ok X G (c.fact 27 (f := .glo "is_valid_table"))) D12
  have h_check_place : FnIs ⟨P, w, K, mg, base⟩ "check_place" 2 2 F_check_place := fn_check_place B h_in_range h_InvalidPlace  (He.glo_ok X G (c.fact 28 (f := .glo "check_place"))) D13
  have h_is_valid_polynomial : FnIs ⟨P, w, K, mg, base⟩ "is_valid_polynomial" 2 1 F_is_valid_polynomial := fn_is_valid_polynomial B h_in_range h_MAX_COEFFICIENTS h_MAX_COEFFICIENT  (He.glo_ok X G (c.fact 29 (f := .glo "is_valid_polynomial"))) D14
  have h_divisors : FnIs ⟨P, w, K, mg, base⟩ "divisors" 2 1 F_divisors := fn_divisors B h_greatest_divisor  (He.glo_ok X G (c.fact 30 (f := .glo "divisors"))) D15
  have h_are_answers : FnIs ⟨P, w, K, mg, base⟩ "are_answers" 2 2 F_are_answers := fn_are_answers B h_in_range  (He.glo_ok X G (c.fact 31 (f := .glo "are_answers"))) D16
  have h_check_table : FnIs ⟨P, w, K, mg, base⟩ "check_table" 3 2 F_check_table := fn_check_table B h_check_modulus h_is_valid_table h_InvalidTable  (He.glo_ok X G (c.fact 32 (f := .glo "check_table"))) D17
  have h_table_of : FnIs ⟨P, w, K, mg, base⟩ "table_of" 3 2 F_table_of := fn_table_of B h_check_modulus h_is_valid_polynomial h_value_at h_InvalidPolynomial  (He.glo_ok X G (c.fact 33 (f := .glo "table_of"))) D18
  have h_first_fault : FnIs ⟨P, w, K, mg, base⟩ "first_fault" 3 2 F_first_fault := fn_first_fault B h_difference_row h_divisors  (He.glo_ok X G (c.fact 34 (f := .glo "first_fault"))) D19
  have h_sizes_of : FnIs ⟨P, w, K, mg, base⟩ "sizes_of" 3 1 F_sizes_of := fn_sizes_of B h_divisors  (He.glo_ok X G (c.fact 35 (f := .glo "sizes_of"))) D20
  have h_parse_table : FnIs ⟨P, w, K, mg, base⟩ "parse_table" 3 1 F_parse_table := fn_parse_table B h_in_range h_parse_number h_is_valid_table h_pe_ParseError  (He.glo_ok X G (c.fact 36 (f := .glo "parse_table"))) D21
  have S : ShX K := shXB_ok ce.1.2
  obtain ⟨fds0, Ds0⟩ := c.def_ 39 (d := d_sh___init__) rfl
  obtain ⟨fds1, Ds1⟩ := c.def_ 40 (d := d_sh_enter) rfl
  obtain ⟨fds2, Ds2⟩ := c.def_ 41 (d := d_sh_undo) rfl
  have h_sh_new : NewS ⟨P, w, K, mg, base⟩ 3 := sh_new B S h_check_modulus (He.mkr_ok (c.fact 84 (f := .mkr "Sheet"))) (He.glo_ok X G (c.fact 83 (f := .glo "Sheet"))) Ds0
  have h_x_enter : MtX ⟨P, w, K, mg, base⟩ "enter" 3 3 fx_enter := x_enter B S h_check_place h_in_range h_InvalidValue (He.meth_ok (c.fact 85 (f := .meth "Sheet" "enter"))) Ds1
  have h_x_undo : MtX ⟨P, w, K, mg, base⟩ "undo" 1 1 fx_undo := x_undo B S h_NothingToUndo (He.meth_ok (c.fact 86 (f := .meth "Sheet" "undo"))) Ds2
  have h_differences : FnIs ⟨P, w, K, mg, base⟩ "differences" 4 3 F_differences := fn_differences B h_check_table h_check_place h_difference_row  (He.glo_ok X G (c.fact 37 (f := .glo "differences"))) D22
  have h_is_polynomial : FnIs ⟨P, w, K, mg, base⟩ "is_polynomial" 4 2 F_is_polynomial := fn_is_polynomial B h_check_table h_first_fault  (He.glo_ok X G (c.fact 38 (f := .glo "is_polynomial"))) D23
  have h_paper : FnIs ⟨P, w, K, mg, base⟩ "paper" 4 2 F_paper := fn_paper B h_check_table h_first_fault h_IsPolynomial  (He.glo_ok X G (c.fact 39 (f := .glo "paper"))) D24
  have h_sizes : FnIs ⟨P, w, K, mg, base⟩ "sizes" 4 1 F_sizes := fn_sizes B h_check_modulus h_sizes_of  (He.glo_ok X G (c.fact 40 (f := .glo "sizes"))) D25
  have h_form_of : FnIs ⟨P, w, K, mg, base⟩ "form_of" 4 2 F_form_of := fn_form_of B h_difference_row h_sizes_of h_quotient  (He.glo_ok X G (c.fact 41 (f := .glo "form_of"))) D26
  have h_from_form : FnIs ⟨P, w, K, mg, base⟩ "from_form" 4 2 F_from_form := fn_from_form B h_check_modulus h_sizes_of h_in_range h_built h_InvalidForm  (He.glo_ok X G (c.fact 42 (f := .glo "from_form"))) D27
  have h_is_permutation : FnIs ⟨P, w, K, mg, base⟩ "is_permutation" 4 2 F_is_permutation := fn_is_permutation B h_check_table  (He.glo_ok X G (c.fact 43 (f := .glo "is_permutation"))) D28
  have h_count_tables : FnIs ⟨P, w, K, mg, base⟩ "count_tables" 5 1 F_count_tables := fn_count_tables B h_sizes  (He.glo_ok X G (c.fact 44 (f := .glo "count_tables"))) D29
  have h_normal_form : FnIs ⟨P, w, K, mg, base⟩ "normal_form" 5 2 F_normal_form := fn_normal_form B h_check_table h_first_fault h_form_of h_NotPolynomial  (He.glo_ok X G (c.fact 45 (f := .glo "normal_form"))) D30
  have h_inverse : FnIs ⟨P, w, K, mg, base⟩ "inverse" 5 2 F_inverse := fn_inverse B h_is_permutation h_NotPermutation  (He.glo_ok X G (c.fact 46 (f := .glo "inverse"))) D31
  have h_all_tables : FnIs ⟨P, w, K, mg, base⟩ "all_tables" 6 1 F_all_tables := fn_all_tables B h_count_tables h_tuples h_sizes_of h_built h_MAX_TABLES h_TooMany  (He.glo_ok X G (c.fact 47 (f := .glo "all_tables"))) D32
  have h_least_difference : FnIs ⟨P, w, K, mg, base⟩ "least_difference" 7 1 F_least_difference := fn_least_difference B h_check_modulus h_all_tables h_gap  (He.glo_ok X G (c.fact 48 (f := .glo "least_difference"))) D33
  have h_agreeing : FnIs ⟨P, w, K, mg, base⟩ "agreeing" 7 2 F_agreeing := fn_agreeing B h_check_modulus h_all_tables h_are_answers h_InvalidAnswers  (He.glo_ok X G (c.fact 49 (f := .glo "agreeing"))) D34
  have h__law_raise_more : FnIs ⟨P, w, K, mg, base⟩ "_law_raise_more" 8 1 F__law_raise_more := fn__law_raise_more B h_paper h_inverse h_least_difference h_parse_table h_sh_new h_x_undo  (He.glo_ok X G (c.fact 50 (f := .glo "_law_raise_more"))) D35
  have h__law_raise : FnIs ⟨P, w, K, mg, base⟩ "_law_raise" 9 1 F__law_raise := fn__law_raise B h_sizes h_is_polynomial h_table_of h_from_form h_differences h_agreeing h_normal_form h__law_raise_more h_sh_new h_x_enter  (He.glo_ok X G (c.fact 51 (f := .glo "_law_raise"))) D36
  exact fn_okD (G := ⟨P, w, K, mg, base⟩) D37 sc_law (b_law B h__law_cell h__law_raise h_pe_ParseError h_cls_TableError hE hU hmv) (fun _ _ _ h => h)
end Hd
end PT
open PySem PySem.W PySem.Calls PyProof.Rows
theorem PySem.Challenge.cw_polytables_k17_exceptions_holds : PySem.Challenge.rw_polytables_k17_exceptions.Holds := by
  w_on; o_law
  refine HandSHeadRun.head_any (r := OpenLaw.row PySem.Challenge.rw_polytables_k17_exceptions) (q := view (OpenLaw.row PySem.Challenge.rw_polytables_k17_exceptions).prog [66]) (H := PT.Hd.hk) (ob := PT.Hd.ob) (M := 40000) (loose := PT.Hd.lo) (d := HandSHeadRun.topDef (OpenLaw.row PySem.Challenge.rw_polytables_k17_exceptions).prog 66) (kwd := []) PT.Hd.ob_eq
    (by kernel_rfl) (fun s => by kernel_rfl) PT.Hd.run (by kernel_rfl) (by kernel_rfl) (by kernel_rfl) (by rfl) (by first | assumption | decide +kernel) (by decide +kernel) ⟨rfl, rfl, rfl, rfl, rfl, by decide +kernel⟩ ?hw ?hc
  case hw => w_witness2
  case hc =>
    refine PT.walk_pt (l := PySem.Challenge.rw_polytables_k17_exceptions) (n := 63) (k := 10) (x := "script") (CX := fun w => L2.CX (PySem.Challenge.rw_polytables_k17_exceptions).prog w) rfl (by decide) (by kernel_rfl) ⟨rfl, by decide, by decide⟩ ?F (fun w H s e s2 z => ?_)
    case F =>
      intro w mg f h Y G hm0
      obtain ⟨K, KX, c0⟩ := Y
      obtain ⟨c, ce⟩ := PT.SaysP.says c0
      have hm : mg ("law" : PySem.Str) = some (.ref f) := by
        have e : (HandSHeadRun.topDef (OpenLaw.row PySem.Challenge.rw_polytables_k17_exceptions).prog 66).name = ("law" : PySem.Str) := by kernel_rfl
        rw [← e]
        exact hm0
      have e := hm.symm.trans (He.glo_ok KX G (c.fact 52 (f := .glo "law")))
      cases e
      obtain ⟨fd, hb, hF⟩ := PT.Hd.facts (P := (PySem.Challenge.rw_polytables_k17_exceptions).prog) (w := w) KX G c ce
      exact ⟨K, fd, _, KX, hb, fun H a ns hl hO hS => PT.law_sp (fun ns _ => PT.law_plain ns) H a ns hl hO hS, fun base _ _ => hF base⟩
    obtain ⟨_, _, _, _, _, _, _, _, _, _, _, _, z⟩ := z
    exact z
